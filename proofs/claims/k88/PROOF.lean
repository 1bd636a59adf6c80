import PyProof.Rows.All
import Wide.All
import OpenK.AllK
import Wide.FinOn
import HandS.ForMost
import HandS.ForExc
import HandS.TupAny
import HandS.Deep
import HandS.Flow
import HandS.TupMul
import HandS.FStr
import HandS.Conv
import HandS.IsInst
import HandS.Style
import HandS.Zip
import HandS.Walk
import HandS.Strs
import HandS.ExcSuper
import HandS.ExcField
import HandS.ExcIs
import HandS.Defaults
import HandS.TryMany
import HandS.SuiteRaise
import HandS.RaiseMore
import KE.DataFind
import HandS.ReCall
import KE.KStateDown
import Wide.Once
import HandS.Head0
import HandS.Head1
import HandS.Head2
import HandS.HeadEnd
import HandS.HeadHook1
import HandS.HeadHook2
import HandS.HeadHook3
import HandS.HeadWalk
import HandS.Words
import HandS.WordsExc
import KE.KExcSuper
import HandS.Base
import HandS.Call
import HandS.Exc
import HandS.ExcOwn
import KE.KExcIs
import KE.KUnpackStar
import KE.DataMinMax
import HandS.Property
import PySem.Challenge.RW_lanescounted_k88_no_house
set_option Elab.async false
set_option linter.all false
set_option maxRecDepth 100000
set_option maxHeartbeats 0
namespace Z
open PySem PySem.Spec PyProof.Rows L2
def tupO (us : List Value) : Obj := { cls := .type "tuple", data := .seq us.toArray }
/-- a tuple without a dict of its own -/
def TupN (K : PySem.W.Frag) (H : Hp) (a : Addr) (xs : List V) : Prop :=
  (∃ o, H a = some (.frz o (.tup xs)) ∧ o.dict = none) ∨
    ∃ (o : Obj) (its : Array Value) (n : Nat), K.lookup a = some o ∧ o.cls = .type "tuple" ∧ o.dict = none ∧ o.data = .seq its n ∧ its.size ≤ sizeLine ∧ Vals xs its.toList
theorem TupN.sq {K : PySem.W.Frag} {H : Hp} {a : Addr} {xs : List V} (h : TupN K H a xs) : SqT K H a xs := by
  rcases h with ⟨o, h, _⟩ | ⟨o, its, n, h1, h2, _, h3⟩
  · exact .inl (.inr ⟨o, h⟩)
  · exact .inr ⟨o, its, n, h1, h2, h3⟩
/-- a new one -/
def NewT (H : Hp) (xs : List V) (Q : VK) : Prop := ∀ p o, H p = none → o.dict = none → Q (.ref p) (upd H p (.frz o (.tup xs)))
section
variable {X : Cx} {pins : List (Addr × Obj)} {σ : List (Option V)} {H : Hp} {s : Shared} {Q : VK} {xs : List V}
theorem tlaid {h' : Heap} {t' : Nat} {its : List Value} (I : Inv X pins σ H { s with heap := h' }) (r : Vals xs its) (hz : xs.length ≤ sizeLine) (q : NewT H xs Q) : EP X pins σ Q (.ref h'.objs.size) { s with heap := h'.push (tupO its), toks := t' } := by
  refine ⟨.ref h'.objs.size, _, I.laid (o := .frz (tupO its) (.tup xs)) (t' := t') (fun b o e => Heap.get?_push_of_some _ e) (Nat.le_refl _) ?_, rfl, q _ (tupO its) (I.hok.fresh (Nat.le_refl _)) rfl⟩
  exact ⟨Heap.get?_push_size _ rfl, hz, its, r, IsTup.new _ _⟩
variable {es : List Expr} {t : TA} {pos : Pos}
def tTupN (t : TA) : TE := fun σ H Q => t σ H fun xs H1 => xs.length ≤ sizeLine ∧ NewT H1 xs Q
theorem pe_tupN {x1} (h : PA X es t) : PE X (.Tuple es x1 pos) (tTupN t) := by
  refine ⟨fun pins s σ H Q I hq => ?_⟩
  refine wpAny_Tuple_spliced (thn (h.run pos pins s σ H _ I hq) fun us s1 ⟨xs, H1, I1, r, z, q⟩ => ⟨by rw [← r.length]; exact z, ?_⟩)
  exact tlaid (s := s1) (h' := s1.heap) I1 r z q
theorem call_tupleN : CallR X (.type "tuple") (fun xs H Q => ∃ p ys, xs = [.ref p] ∧ ((SqL X.K H p ys ∧ NewT H ys Q) ∨ (SqT X.K H p ys ∧ Q (.ref p) H))) := by
  intro pins s σ H xs us Q I r h
  obtain ⟨p, ys, rfl, h⟩ := h
  obtain ⟨u, rfl, rx⟩ := vals1 r
  cases rx
  rcases h with ⟨hq, q⟩ | ⟨hq, q⟩
  · obtain ⟨its, r', pl, hz⟩ := I.list hq
    have hlen := r'.length
    refine call_tuple_list pl.isList (fun h' kp => ?_) (by simp only [List.size_toArray] <;> omega)
    have I1 : Inv X pins σ H { s with heap := h' } := I.kept (t' := s.toks) kp
    exact tlaid I1 r' hz q
  · obtain ⟨its, r', pl, hz⟩ := I.tuple hq
    exact call_tuple_same pl ⟨.ref p, H, I, rfl, q⟩
def rCatN (K : PySem.W.Frag) : R2 := fun x y H Q => ∃ a b xs ys, x = .ref a ∧ y = .ref b ∧ SqT K H a xs ∧ SqT K H b ys ∧ xs.length + ys.length ≤ sizeLine ∧
  (xs = [] → Q (.ref b) H) ∧ (xs ≠ [] → ys = [] → Q (.ref a) H) ∧ (xs ≠ [] → ys ≠ [] → NewT H (xs ++ ys) Q)
theorem op_catN : OpR X (binaryOp .Add) (rCatN X.K) := by
  intro pins s σ H x y v u Q I rx ry h
  obtain ⟨a, b, xs, ys, rfl, rfl, ha, hb, hz, q0, q1, q2⟩ := h
  cases rx
  cases ry
  obtain ⟨its, r1, p1, z1⟩ := I.tuple ha
  obtain ⟨its2, r2, p2, z2⟩ := I.tuple hb
  by_cases hx : xs = []
  · subst hx
    cases r1
    exact cat_tup0 p1 p2 ⟨.ref b, H, I, rfl, q0 rfl⟩
  · have l1 := r1.length
    have l2 := r2.length
    refine HT.cat_tup p1 p2 (fun e => ?_) (fun e => ?_) (fun e => ?_) (by omega)
    · subst e; cases r1; exact hx rfl
    · subst e; cases r2; exact ⟨.ref a, H, I, rfl, q1 hx rfl⟩
    · exact tlaid (s := s) (h' := s.heap) (t' := s.toks) I (r1.append r2) (by rw [List.length_append]; exact hz) (q2 hx fun z => e (by subst z; cases r2; rfl))
def rSlN (K : PySem.W.Frag) : V → Option Int → Option Int → Hp → VK → Prop := fun x lo hi H Q => ∃ a xs, x = .ref a ∧ SqT K H a xs ∧
  (HT.sIx xs.length 0 lo = 0 ∧ HT.sIx xs.length xs.length hi = xs.length → Q (.ref a) H) ∧ (¬ (HT.sIx xs.length 0 lo = 0 ∧ HT.sIx xs.length xs.length hi = xs.length) → NewT H (cutV xs lo hi) Q)
theorem sl_tupN : SlR X (rSlN X.K) := by
  intro pins s σ H x v vl vu lo hi sl Q I rx hs pl pu h
  obtain ⟨a, xs, rfl, hx, q1, q2⟩ := h
  cases rx
  obtain ⟨its, r, ht, hz⟩ := I.tuple hx
  have hlen : its.toArray.size = xs.length := by rw [List.size_toArray]; exact r.length.symm
  refine ⟨"tuple", _, PyProof.Rows.slot_tuple_getitem.lookup, ht.typeIs, ?_⟩
  by_cases hw : HT.sIx xs.length 0 lo = 0 ∧ HT.sIx xs.length xs.length hi = xs.length
  · exact getItem_tuple_whole ht hs pl pu (by rw [hlen]; exact hw) ⟨.ref a, H, I, rfl, q1 hw⟩
  · refine HT.getItem_tuple_cut ht hs pl pu (by rw [hlen]; exact hw) ?_ (by rw [hlen]; exact hz)
    refine tlaid (s := s) (h' := s.heap) (t' := s.toks) I (its := (its.drop (HT.sIx its.toArray.size 0 lo)).take (HT.sIx its.toArray.size its.toArray.size hi - HT.sIx its.toArray.size 0 lo)) ?_ (Nat.le_trans (cutV_length _ _ _) hz) (q2 hw)
    rw [hlen]
    exact (r.drop _).take _
def rRepN (K : PySem.W.Frag) : R2 := fun x y H Q => ∃ l k xs, x = .ref l ∧ y = .int k ∧ SqT K H l xs ∧ xs ≠ [] ∧ 2 ≤ k ∧ k ≤ 1000 ∧ xs.length ≤ 1000 ∧ NewT H (List.replicate k.toNat xs).flatten Q
theorem op_repN : OpR X (binaryOp .Mult) (rRepN X.K) := by
  intro pins s σ H x y v u Q I rx ry h
  obtain ⟨l, k, xs, rfl, rfl, hT, hne, h1, h2, hz, q⟩ := h
  cases rx
  obtain ⟨t, rfl⟩ := ry
  obtain ⟨its, r, ⟨⟨cls, dd, data, sl⟩, ho, hc, n, hd⟩, hs⟩ := I.tuple hT
  simp only at hc hd
  subst hc hd
  have hle : its.length = xs.length := r.length.symm
  have hn : its ≠ [] := fun e => hne (by
    rw [e] at hle
    exact List.eq_nil_of_length_eq_zero hle.symm)
  have hi : its.toArray.isEmpty = false := by
    cases its with
    | nil => exact absurd rfl hn
    | cons a b => rfl
  have hsz0 : its.toArray.size = xs.length := by rw [List.size_toArray, hle]
  have hm : ((its.toArray.size : Nat) : Int) * k ≤ 1000000 := by
    rw [hsz0]
    have a1 : ((xs.length : Nat) : Int) * k ≤ 1000 * k := Int.mul_le_mul_of_nonneg_right (by omega) (by omega)
    omega
  have flen : (List.replicate k.toNat its).flatten.length ≤ sizeLine := by
    rw [PyProof.Rows.lm_len_rep_flat, hle, sizeLine_eq]
    have a1 : k.toNat * xs.length ≤ 1000 * 1000 := Nat.mul_le_mul (by omega) hz
    omega
  have c0 : (decide (k < -(2 ^ 63)) || decide (k ≥ 2 ^ 63)) = false := by
    rw [decide_eq_false (by omega), decide_eq_false (by omega)] <;> rfl
  have c1 : (its.toArray.isEmpty || k == 1) = false := by
    rw [hi, Bool.false_or]
    exact beq_eq_false_iff_ne.mpr (by omega)
  have c2 : (decide (k ≤ 0) || its.toArray.isEmpty) = false := by
    rw [hi, Bool.or_false]
    exact decide_eq_false (by omega)
  have c4 : Builtin.Tuple.tupleTooMany (((its.toArray.size : Nat) : Int) * k) = false := by
    unfold Builtin.Tuple.tupleTooMany
    rw [sizeLine_eq]
    exact decide_eq_false (by omega)
  refine wpAny_binaryOp_repeat_ref (T := "tuple") (U := "int") (by decide) ⟨_, ho, rfl⟩ (fun s' => typeIs_int s' k t) noFill_tuple_mul F.fills_int_mul F.slot_int_rmul repeat_tuple F.slot_int_index.lookup
    (call_meets F.slot_int_rmul (typeIs_int s k t) F.entry_int_rmul (F.args_int_rmul_2 _ _) (int_rmul_tuple k t l its.toArray n dd sl)
      ⟨ho, rfl, ⟨_, ho, rfl⟩, call_meets F.slot_tuple_mul ⟨_, ho, rfl⟩ F.entry_tuple_mul (F.args_tuple_mul_2 _ _) (tuple_mulW l its.toArray n dd sl k t c0 c1 c2 (by omega) c4 (by rw [size_rep, List.size_toArray]; exact flen)) ⟨ho, ?_⟩⟩)
  rw [size_rep]
  refine tlaid (s := s) (h' := s.heap) (t' := s.toks) I (r.rep k.toNat) ?_ q
  rw [PyProof.Rows.lm_len_rep_flat, sizeLine_eq]; have a1 : k.toNat * xs.length ≤ 1000 * 1000 := Nat.mul_le_mul (by omega) hz; omega
end
end Z
/-! tuple * 1: the tuple itself -/
namespace L2
open PySem PySem.Spec PyProof.Rows
theorem tuple_mul1W (l : Addr) (items : Array Value) (n : Nat) (dd : Option Addr) (sl : Array (Option Value)) (u : Tok) :
    Meets (Builtin.«tuple.__mul__» ⟨[.ref l, .int 1 u], []⟩) (fun _ R s => s.heap.get? l = some { cls := .type "tuple", dict := dd, data := .seq items n, slots := sl } ∧
      R (.ok (.ret (Value.ref l))) s) :=
  .of_wp fun prog w A R s h => by
    obtain ⟨hp, g, d, tk, os⟩ := s
    obtain ⟨hl, h⟩ := h
    have f1 := AutoSeq1.idx_int
    wp_walk using wpAny_loadPart' hl
    exact ⟨_, rfl, h⟩
def rRep1 (K : PySem.W.Frag) : R2 := fun x y H Q => ∃ l xs, x = .ref l ∧ y = .int 1 ∧ SqT K H l xs ∧ Q (.ref l) H
theorem op_rep1 {X : Cx} : OpR X (binaryOp .Mult) (rRep1 X.K) := by
  intro pins s σ H x y v u Q I rx ry h
  obtain ⟨l, xs, rfl, rfl, hT, q⟩ := h
  cases rx
  obtain ⟨t, rfl⟩ := ry
  obtain ⟨its, r, ⟨⟨cls, dd, data, sl⟩, ho, hc, n, hd⟩, hs⟩ := I.tuple hT
  simp only at hc hd
  subst hc hd
  refine wpAny_binaryOp_repeat_ref (T := "tuple") (U := "int") (by decide) ⟨_, ho, rfl⟩ (fun s' => typeIs_int s' 1 t) noFill_tuple_mul F.fills_int_mul F.slot_int_rmul repeat_tuple F.slot_int_index.lookup
    (call_meets F.slot_int_rmul (typeIs_int s 1 t) F.entry_int_rmul (F.args_int_rmul_2 _ _) (int_rmul_tuple 1 t l its.toArray n dd sl)
      ⟨ho, rfl, ⟨_, ho, rfl⟩, call_meets F.slot_tuple_mul ⟨_, ho, rfl⟩ F.entry_tuple_mul (F.args_tuple_mul_2 _ _) (tuple_mul1W l its.toArray n dd sl t) ⟨ho, ?_⟩⟩)
  exact ⟨.ref l, H, I, rfl, q⟩
end L2

namespace Z
open PySem PySem.Spec PyProof.Rows L2

inductive Val where
  | d (x : PyData)
  | c (n : Nat)
  | t (xs : List Val)
  | g (x : Str)
  | s (ns : List Int)
  | p (xs : List Val)
inductive Cell where
  | lst (xs : List Val)
  | ins (C : Str) (fs : List (Str × Val))
  | dct (kvs : List (L2.Key × Val))
  | dead
abbrev Env := List (Option Val)
abbrev Sto := List Cell
structure Exn where
  cls : Str
  fs : List (Str × PyData)
inductive Out (α : Type) where
  | ok (a : α) (st : Sto)
  | exc (x : Exn) (st : Sto)
  | bad
def Out.bind {α β : Type} (o : Out α) (f : α → Sto → Out β) : Out β := match o with
  | .ok a st => f a st
  | .exc x st => .exc x st
  | .bad => .bad
def Out.map {α β : Type} (o : Out α) (f : α → β) : Out β := match o with
  | .ok a st => .ok (f a) st
  | .exc x st => .exc x st
  | .bad => .bad

/-! ### the relation -/
mutual
/-- data: lists are tracked ones, tuples may be the text's own -/
inductive Dq (K : PySem.W.Frag) (H : Hp) : V → PyData → Prop
  | non : Dq K H .non .none
  | bl (b : Bool) : Dq K H (.bl b) (.bool b)
  | int (i : Int) : Dq K H (.int i) (.int i)
  | str (x : Str) : Dq K H (.str x) (.str x)
  | lst {a : Addr} {xs : List V} {ds : List PyData} (h : H a = some (.lst xs)) (r : DqAll K H xs ds) : Dq K H (.ref a) (.list ds)
  | tup {a : Addr} {xs : List V} {ds : List PyData} (h : TupN K H a xs) (r : DqAll K H xs ds) : Dq K H (.ref a) (.tuple ds)
inductive DqAll (K : PySem.W.Frag) (H : Hp) : List V → List PyData → Prop
  | nil : DqAll K H [] []
  | cons {v : V} {vs : List V} {d : PyData} {ds : List PyData} (h : Dq K H v d) (r : DqAll K H vs ds) : DqAll K H (v :: vs) (d :: ds)
end
mutual
theorem Dq.dp {K : PySem.W.Frag} {H : Hp} : ∀ {v : V} {x : PyData}, Dq K H v x → Dp K H v x
  | _, _, .non => .non
  | _, _, .bl b => .bl b
  | _, _, .int i => .int i
  | _, _, .str x => .str x
  | _, _, .lst h r => .lst (.inl (.inl h)) (DqAll.dp r)
  | _, _, .tup h r => .tup h.sq (DqAll.dp r)
theorem DqAll.dp {K : PySem.W.Frag} {H : Hp} : ∀ {vs : List V} {xs : List PyData}, DqAll K H vs xs → DpAll K H vs xs
  | _, _, .nil => .nil
  | _, _, .cons h r => .cons h.dp r.dp
end
section
variable (K : PySem.W.Frag) (mg : Str → Option Value)
mutual
inductive RV (ρ : List Addr) (G : Hp) : Val → V → Prop
  | d {x : PyData} {v : V} (h : Dq K G v x) : RV ρ G (.d x) v
  | c {n : Nat} {a : Addr} (h : ρ[n]? = some a) : RV ρ G (.c n) (.ref a)
  | t {a : Addr} {vs : List V} {xs : List Val} (h : TupN K G a vs) (r : RVs ρ G xs vs) : RV ρ G (.t xs) (.ref a)
  | p {a : Addr} {vs : List V} {xs : List Val} (h : SqT K G a vs) (r : RVs ρ G xs vs) : RV ρ G (.p xs) (.ref a)
  | g {x : Str} {a : Addr} (h : mg x = some (.ref a)) : RV ρ G (.g x) (.ref a)
  | s {ns : List Int} {a : Addr} (h : SqL K G a (ns.map V.int)) : RV ρ G (.s ns) (.ref a)
inductive RVs (ρ : List Addr) (G : Hp) : List Val → List V → Prop
  | nil : RVs ρ G [] []
  | cons {x : Val} {v : V} {xs : List Val} {vs : List V} (h : RV ρ G x v) (r : RVs ρ G xs vs) : RVs ρ G (x :: xs) (v :: vs)
end
def CellOk (ρ : List Addr) (G H : Hp) (a : Addr) : Cell → Prop
  | .lst xs => ∃ vs, H a = some (.lst vs) ∧ RVs K mg ρ G xs vs
  | .ins C fs => ∃ Ca dx vs, mg C = some (.ref Ca) ∧ H a = some (.ins Ca dx vs) ∧ fs.map (·.1) = vs.map (·.1) ∧ RVs K mg ρ G (fs.map (·.2)) (vs.map (·.2))
  | .dct kvs => ∃ vs, H a = some (.dK vs) ∧ kvs.map (·.1) = vs.map (·.1) ∧ RVs K mg ρ G (kvs.map (·.2)) (vs.map (·.2))
  | .dead => ∃ o, H a = some o
structure Rel (ρ : List Addr) (G : Hp) (st : Sto) (H : Hp) : Prop where
  len : ρ.length = st.length
  nd : ρ.Nodup
  sub : ∀ a o, G a = some o → H a = some o
  off : ∀ (n : Nat) (a : Addr) (cl : Cell), ρ[n]? = some a → st[n]? = some cl → cl ≠ .dead → G a = none
  cell : ∀ (n : Nat) (a : Addr) (cl : Cell), ρ[n]? = some a → st[n]? = some cl → CellOk K mg ρ G H a cl
end
structure Ext (ρ : List Addr) (G H : Hp) (ρ' : List Addr) (G' H' : Hp) : Prop where
  pre : ∃ r, ρ' = ρ ++ r ∧ ∀ a ∈ r, H a = none
  grow : ∀ a o, G a = some o → G' a = some o
  gnew : ∀ a o, G' a = some o → G a = some o ∨ H a = none ∨ a ∈ ρ
  frame : ∀ a o, H a = some o → a ∉ ρ → H' a = some o
  dom : ∀ a o, H a = some o → ∃ o', H' a = some o'

section
variable {K : PySem.W.Frag} {mg : Str → Option Value} {ρ ρ' ρ2 : List Addr} {G G' G2 H H' H2 : Hp} {st st' : Sto}
theorem Ext.refl : Ext ρ G H ρ G H := ⟨⟨[], by simp, by simp⟩, fun _ _ h => h, fun _ _ h => .inl h, fun _ _ h _ => h, fun _ o h => ⟨o, h⟩⟩
theorem Ext.mem (e : Ext ρ G H ρ' G' H') {a : Addr} (h : a ∈ ρ') : a ∈ ρ ∨ H a = none := by
  obtain ⟨r, rfl, hr⟩ := e.pre
  rcases List.mem_append.mp h with h | h
  · exact .inl h
  · exact .inr (hr a h)
theorem Ext.isNone (e : Ext ρ G H ρ' G' H') {a : Addr} (h : H' a = .none) : H a = .none := by
  cases q : H a with
  | none => rfl
  | some o =>
    obtain ⟨o', z⟩ := e.dom a o q
    rw [z] at h; cases h
theorem Ext.trans (e : Ext ρ G H ρ' G' H') (f : Ext ρ' G' H' ρ2 G2 H2) : Ext ρ G H ρ2 G2 H2 := by
  refine ⟨?_, fun a o h => f.grow a o (e.grow a o h), fun a o h => ?_, fun a o h m => ?_, fun a o h => ?_⟩
  · obtain ⟨r, rfl, hr⟩ := e.pre
    obtain ⟨r2, rfl, hr2⟩ := f.pre
    refine ⟨r ++ r2, by simp, fun a ha => ?_⟩
    rcases List.mem_append.mp ha with ha | ha
    · exact hr a ha
    · exact e.isNone (hr2 a ha)
  · rcases f.gnew a o h with q | q | q
    · exact e.gnew a o q
    · exact .inr (.inl (e.isNone q))
    · rcases e.mem q with z | z
      · exact .inr (.inr z)
      · exact .inr (.inl z)
  · have h1 := e.frame a o h m
    refine f.frame a o h1 fun q => ?_
    rcases e.mem q with z | z
    · exact m z
    · rw [z] at h; cases h
  · obtain ⟨o', h'⟩ := e.dom a o h
    exact f.dom a o' h'

/-! ### what grows keeps -/
theorem sqL_mono (g : ∀ a o, G a = some o → G' a = some o) {a : Addr} {xs : List V} (h : SqL K G a xs) : SqL K G' a xs := by
  rcases h with (h | ⟨o, h⟩) | h
  · exact .inl (.inl (g _ _ h))
  · exact .inl (.inr ⟨o, g _ _ h⟩)
  · exact .inr h
theorem sqT_mono (g : ∀ a o, G a = some o → G' a = some o) {a : Addr} {xs : List V} (h : SqT K G a xs) : SqT K G' a xs := by
  rcases h with (h | ⟨o, h⟩) | h
  · exact .inl (.inl (g _ _ h))
  · exact .inl (.inr ⟨o, g _ _ h⟩)
  · exact .inr h
theorem tupN_mono (g : ∀ a o, G a = some o → G' a = some o) {a : Addr} {xs : List V} (h : TupN K G a xs) : TupN K G' a xs := by
  rcases h with ⟨o, h, d⟩ | h
  · exact .inl ⟨o, g _ _ h, d⟩
  · exact .inr h
mutual
theorem dq_mono (g : ∀ a o, G a = some o → G' a = some o) : ∀ {v : V} {x : PyData}, Dq K G v x → Dq K G' v x
  | _, _, .non => .non
  | _, _, .bl b => .bl b
  | _, _, .int i => .int i
  | _, _, .str x => .str x
  | _, _, .lst h r => .lst (g _ _ h) (dqAll_mono g r)
  | _, _, .tup h r => .tup (tupN_mono g h) (dqAll_mono g r)
theorem dqAll_mono (g : ∀ a o, G a = some o → G' a = some o) : ∀ {vs : List V} {xs : List PyData}, DqAll K G vs xs → DqAll K G' vs xs
  | _, _, .nil => .nil
  | _, _, .cons h r => .cons (dq_mono g h) (dqAll_mono g r)
end
mutual
theorem rv_mono (p : ∃ r, ρ' = ρ ++ r) (g : ∀ a o, G a = some o → G' a = some o) : ∀ {x : Val} {v : V}, RV K mg ρ G x v → RV K mg ρ' G' x v
  | _, _, .d h => .d (dq_mono g h)
  | _, _, .c (n := n) h => .c (by
      obtain ⟨r, rfl⟩ := p
      have l : n < ρ.length := (List.getElem?_eq_some_iff.mp h).1
      rw [List.getElem?_append_left l]; exact h)
  | _, _, .t h r => .t (tupN_mono g h) (rvs_mono p g r)
  | _, _, .p h r => .p (sqT_mono g h) (rvs_mono p g r)
  | _, _, .g h => .g h
  | _, _, .s h => .s (sqL_mono g h)
theorem rvs_mono (p : ∃ r, ρ' = ρ ++ r) (g : ∀ a o, G a = some o → G' a = some o) : ∀ {xs : List Val} {vs : List V}, RVs K mg ρ G xs vs → RVs K mg ρ' G' xs vs
  | _, _, .nil => .nil
  | _, _, .cons h r => .cons (rv_mono p g h) (rvs_mono p g r)
end
theorem Ext.rv (e : Ext ρ G H ρ' G' H') {x : Val} {v : V} (h : RV K mg ρ G x v) : RV K mg ρ' G' x v := rv_mono (e.pre.imp fun _ h => h.1) e.grow h
theorem Ext.rvs (e : Ext ρ G H ρ' G' H') {x : List Val} {v : List V} (h : RVs K mg ρ G x v) : RVs K mg ρ' G' x v := rvs_mono (e.pre.imp fun _ h => h.1) e.grow h
theorem RVs.len : ∀ {xs : List Val} {vs : List V}, RVs K mg ρ G xs vs → xs.length = vs.length
  | _, _, .nil => rfl
  | _, _, .cons _ r => by simp [r.len]
theorem RVs.get : ∀ {xs : List Val} {vs : List V} {i : Nat} {x : Val}, RVs K mg ρ G xs vs → xs[i]? = some x → ∃ v, vs[i]? = some v ∧ RV K mg ρ G x v
  | _, _, _, _, .nil, e => by simp at e
  | _, _, 0, _, .cons h _, e => by simp at e; subst e; exact ⟨_, rfl, h⟩
  | _, _, i + 1, _, .cons _ r, e => by
    obtain ⟨v, h1, h2⟩ := r.get (i := i) (by simpa using e)
    exact ⟨v, by simpa using h1, h2⟩
theorem RVs.append : ∀ {xs ys : List Val} {vs us : List V}, RVs K mg ρ G xs vs → RVs K mg ρ G ys us → RVs K mg ρ G (xs ++ ys) (vs ++ us)
  | _, _, _, _, .nil, h => h
  | _, _, _, _, .cons h r, q => .cons h (r.append q)
theorem RVs.set {x : Val} {v : V} (h : RV K mg ρ G x v) : ∀ {xs : List Val} {vs : List V} (i : Nat), RVs K mg ρ G xs vs → RVs K mg ρ G (xs.set i x) (vs.set i v)
  | _, _, _, .nil => .nil
  | _, _, 0, .cons _ r => .cons h r
  | _, _, i + 1, .cons q r => .cons q (r.set h i)
theorem RVs.take : ∀ {xs : List Val} {vs : List V} (n : Nat), RVs K mg ρ G xs vs → RVs K mg ρ G (xs.take n) (vs.take n)
  | _, _, 0, _ => by simpa using RVs.nil
  | _, _, _ + 1, .nil => .nil
  | _, _, n + 1, .cons h r => .cons h (r.take n)
theorem RVs.drop : ∀ {xs : List Val} {vs : List V} (n : Nat), RVs K mg ρ G xs vs → RVs K mg ρ G (xs.drop n) (vs.drop n)
  | _, _, 0, r => r
  | _, _, _ + 1, .nil => .nil
  | _, _, n + 1, .cons _ r => r.drop n
theorem RVs.erase : ∀ {xs : List Val} {vs : List V} (i : Nat), RVs K mg ρ G xs vs → RVs K mg ρ G (xs.eraseIdx i) (vs.eraseIdx i)
  | _, _, _, .nil => .nil
  | _, _, 0, .cons _ r => r
  | _, _, i + 1, .cons h r => .cons h (r.erase i)
theorem RVs.of_dq : ∀ {xs : List PyData} {vs : List V}, DqAll K G vs xs → RVs K mg ρ G (xs.map Val.d) vs
  | _, _, .nil => .nil
  | _, _, .cons h r => .cons (.d h) (RVs.of_dq r)
theorem RVs.to_dq : ∀ {xs : List PyData} {vs : List V}, RVs K mg ρ G (xs.map Val.d) vs → DqAll K G vs xs
  | [], _, .nil => .nil
  | _ :: _, _, .cons (.d h) r => .cons h (RVs.to_dq r)
end
/-- all are data -/
def datas : List Val → Option (List PyData)
  | [] => some []
  | .d x :: r => (datas r).map (x :: ·)
  | _ :: _ => none
theorem datas_eq : ∀ {vs : List Val} {xs : List PyData}, datas vs = some xs → vs = xs.map Val.d
  | [], xs, h => by cases h; rfl
  | .d x :: r, xs, h => by
    unfold datas at h
    obtain ⟨ys, h1, rfl⟩ := Option.map_eq_some_iff.mp h
    rw [datas_eq h1]; rfl
  | .c _ :: _, _, h => by cases h
  | .t _ :: _, _, h => by cases h
  | .g _ :: _, _, h => by cases h
  | .s _ :: _, _, h => by cases h
  | .p _ :: _, _, h => by cases h
theorem datas_map : ∀ xs : List PyData, datas (xs.map Val.d) = some xs
  | [] => rfl
  | x :: r => by show (datas (r.map Val.d)).map _ = _; rw [datas_map r]; rfl
end Z

namespace Z
open PySem PySem.Spec PyProof.Rows L2
section
variable {K : PySem.W.Frag} {mg : Str → Option Value} {ρ ρ' ρ2 : List Addr} {G G' G2 H H' H2 : Hp} {st st' : Sto} {p a : Addr} {o : HO} {xs ys : List Val} {vs us : List V} {n : Nat}
theorem Rel.free (r : Rel K mg ρ G st H) (h : H p = none) : p ∉ ρ := fun m => by
  obtain ⟨n, hn, e⟩ := List.getElem_of_mem m
  have e1 : ρ[n]? = some p := by rw [List.getElem?_eq_getElem hn, e]
  have l : n < st.length := by rw [← r.len]; exact hn
  have c := r.cell n p st[n] e1 (List.getElem?_eq_getElem l)
  cases q : st[n] with
  | lst xs => rw [q] at c; obtain ⟨_, z, _⟩ := c; rw [h] at z; cases z
  | ins C fs => rw [q] at c; obtain ⟨_, _, _, _, z, _⟩ := c; rw [h] at z; cases z
  | dct kvs => rw [q] at c; obtain ⟨_, z, _⟩ := c; rw [h] at z; cases z
  | dead => rw [q] at c; obtain ⟨_, z⟩ := c; rw [h] at z; cases z
theorem Rel.freeG (r : Rel K mg ρ G st H) (h : H p = none) : G p = none := by
  cases q : G p with
  | none => rfl
  | some o => rw [r.sub _ _ q] at h; cases h
theorem cell_mono {cl : Cell} (pr : ∃ r, ρ' = ρ ++ r) (g : ∀ a o, G a = some o → G' a = some o) (hh : ∀ o, H a = some o → H' a = some o) (c : CellOk K mg ρ G H a cl) : CellOk K mg ρ' G' H' a cl := by
  cases cl with
  | lst xs => obtain ⟨vs, h1, h2⟩ := c; exact ⟨vs, hh _ h1, rvs_mono pr g h2⟩
  | ins C fs => obtain ⟨Ca, dx, vs, h1, h2, h3, h4⟩ := c; exact ⟨Ca, dx, vs, h1, hh _ h2, h3, rvs_mono pr g h4⟩
  | dct kvs => obtain ⟨vs, h2, h3, h4⟩ := c; exact ⟨vs, hh _ h2, h3, rvs_mono pr g h4⟩
  | dead => obtain ⟨o, h⟩ := c; exact ⟨o, hh _ h⟩
theorem upd_grow (h : H p = none) : ∀ a u, H a = some u → upd H p o a = some u := fun a u e => by
  rw [upd_ne (ne_of_none e h)]; exact e
/-- an object that nobody knows is laid -/
theorem Ext.loose (h : H p = none) : Ext ρ G H ρ G (upd H p o) :=
  ⟨⟨[], by simp, by simp⟩, fun _ _ h => h, fun _ _ h => .inl h, fun a u e _ => upd_grow h a u e, fun a u e => ⟨u, upd_grow h a u e⟩⟩
theorem Rel.loose (r : Rel K mg ρ G st H) (h : H p = none) : Rel K mg ρ G st (upd H p o) :=
  ⟨r.len, r.nd, fun a u e => upd_grow h a u (r.sub a u e), r.off, fun n a cl e1 e2 => cell_mono ⟨[], by simp⟩ (fun _ _ h => h) (upd_grow h a) (r.cell n a cl e1 e2)⟩
/-- a frozen one -/
theorem Ext.newG (h : H p = none) (hg : G p = none) : Ext ρ G H ρ (upd G p o) (upd H p o) :=
  ⟨⟨[], by simp, by simp⟩, upd_grow hg, fun a u e => by
    by_cases q : a = p
    · subst q; exact .inr (.inl h)
    · rw [upd_ne q] at e; exact .inl e, fun a u e _ => upd_grow h a u e, fun a u e => ⟨u, upd_grow h a u e⟩⟩
theorem Rel.newG (r : Rel K mg ρ G st H) (h : H p = none) : Rel K mg ρ (upd G p o) st (upd H p o) := by
  have hg := r.freeG h
  refine ⟨r.len, r.nd, fun a u e => ?_, fun n a cl e1 e2 nd => ?_, fun n a cl e1 e2 => cell_mono ⟨[], by simp⟩ (upd_grow hg) (upd_grow h a) (r.cell n a cl e1 e2)⟩
  · by_cases q : a = p
    · subst q; rw [upd_same] at e ⊢; exact e
    · rw [upd_ne q] at e ⊢; exact r.sub a u e
  · have na : a ≠ p := fun z => by
      subst z; exact r.free h (List.mem_of_getElem? e1)
    rw [upd_ne na]; exact r.off n a cl e1 e2 nd
/-- a loose one is taken among the frozen -/
theorem Rel.take (r : Rel K mg ρ G st H) (h : H p = some o) (np : p ∉ ρ) (hg : G p = none) : Rel K mg ρ (upd G p o) st H := by
  refine ⟨r.len, r.nd, fun a u e => ?_, fun n a cl e1 e2 nd => ?_, fun n a cl e1 e2 => cell_mono ⟨[], by simp⟩ (upd_grow hg) (fun _ h => h) (r.cell n a cl e1 e2)⟩
  · by_cases q : a = p
    · subst q; rw [upd_same] at e; cases e; exact h
    · rw [upd_ne q] at e; exact r.sub a u e
  · have na : a ≠ p := fun z => by
      subst z; exact np (List.mem_of_getElem? e1)
    rw [upd_ne na]; exact r.off n a cl e1 e2 nd
theorem nodup_concat {l : List Addr} (h : l.Nodup) (n : p ∉ l) : (l ++ [p]).Nodup := by
  rw [List.nodup_append]
  exact ⟨h, by simp, fun a ha b hb => by rw [List.mem_singleton] at hb; subst hb; exact fun e => n (e ▸ ha)⟩
theorem get_concat {α : Type} {l : List α} {x y : α} (h : (l ++ [x])[n]? = some y) : (l[n]? = some y) ∨ (n = l.length ∧ y = x) := by
  by_cases q : n < l.length
  · rw [List.getElem?_append_left q] at h; exact .inl h
  · rw [List.getElem?_append_right (by omega)] at h
    have : n - l.length = 0 := by
      cases e : n - l.length with
      | zero => rfl
      | succ k => rw [e] at h; simp at h
    rw [this] at h
    exact .inr ⟨by omega, by simpa using h.symm⟩
/-- a new cell: the list at p -/
theorem Rel.takeC (r : Rel K mg ρ G st H) {cl : Cell} (np : p ∉ ρ) (hg : G p = none) (h : CellOk K mg (ρ ++ [p]) G H p cl) : Rel K mg (ρ ++ [p]) G (st ++ [cl]) H := by
  refine ⟨by simp [r.len], nodup_concat r.nd np, r.sub, fun n a c e1 e2 nd => ?_, fun n a c e1 e2 => ?_⟩
  · rcases get_concat e1 with e1 | ⟨k, rfl⟩
    · rcases get_concat e2 with e2 | ⟨k, rfl⟩
      · exact r.off n a c e1 e2 nd
      · rw [k, ← r.len] at e1
        simp at e1
    · exact hg
  · rcases get_concat e1 with e1 | ⟨k, rfl⟩
    · rcases get_concat e2 with e2 | ⟨k, rfl⟩
      · exact cell_mono ⟨_, rfl⟩ (fun _ _ h => h) (fun _ h => h) (r.cell n a c e1 e2)
      · rw [k, ← r.len] at e1
        simp at e1
    · rcases get_concat e2 with e2 | ⟨k2, rfl⟩
      · rw [k, r.len] at e2
        simp at e2
      · exact h
theorem Ext.newC (h : H p = none) : Ext ρ G H (ρ ++ [p]) G (upd H p o) :=
  ⟨⟨[p], rfl, by simpa using h⟩, fun _ _ h => h, fun _ _ h => .inl h, fun a u e _ => upd_grow h a u e, fun a u e => ⟨u, upd_grow h a u e⟩⟩
theorem Rel.newC (r : Rel K mg ρ G st H) (h : H p = none) (c : RVs K mg ρ G xs vs) : Rel K mg (ρ ++ [p]) G (st ++ [.lst xs]) (upd H p (.lst vs)) :=
  (r.loose h).takeC (r.free h) (r.freeG h) ⟨vs, upd_same, rvs_mono ⟨_, rfl⟩ (fun _ _ h => h) c⟩
theorem Rel.at_ (r : Rel K mg ρ G st H) (h : st[n]? = some (.lst xs)) : ∃ a vs, ρ[n]? = some a ∧ H a = some (.lst vs) ∧ RVs K mg ρ G xs vs ∧ G a = none := by
  have l : n < st.length := (List.getElem?_eq_some_iff.mp h).1
  have l2 : n < ρ.length := by rw [r.len]; exact l
  have e := List.getElem?_eq_getElem l2
  obtain ⟨vs, h1, h2⟩ := r.cell n _ _ e h
  exact ⟨_, vs, e, h1, h2, r.off n _ _ e h (by simp)⟩
/-- a cell is written -/
theorem Rel.put (r : Rel K mg ρ G st H) {cl cl' : Cell} (e : ρ[n]? = some a) (e2 : st[n]? = some cl) (nd : cl ≠ .dead) (h : CellOk K mg ρ G (upd H a o) a cl') : Rel K mg ρ G (st.set n cl') (upd H a o) := by
  have ga := r.off n a cl e e2 nd
  refine ⟨by simp [r.len], r.nd, fun b u q => ?_, fun m b c e1 q nd' => ?_, fun m b c e1 q => ?_⟩
  · have nb : b ≠ a := fun z => by subst z; rw [ga] at q; cases q
    rw [upd_ne nb]; exact r.sub b u q
  · by_cases z : m = n
    · subst z; rw [e] at e1; cases e1; exact ga
    · rw [List.getElem?_set_ne (Ne.symm z)] at q
      exact r.off m b c e1 q nd'
  · by_cases z : m = n
    · subst z; rw [e] at e1; cases e1
      have l : m < st.length := (List.getElem?_eq_some_iff.mp e2).1
      rw [List.getElem?_set_self l] at q; cases q; exact h
    · rw [List.getElem?_set_ne (Ne.symm z)] at q
      have nb : b ≠ a := fun y => by
        subst y
        have l1 := (List.getElem?_eq_some_iff.mp e)
        have l2 := (List.getElem?_eq_some_iff.mp e1)
        obtain ⟨i1, j1⟩ := l1
        obtain ⟨i2, j2⟩ := l2
        exact z ((List.getElem_inj r.nd).mp (j2.trans j1.symm))
      exact cell_mono ⟨[], by simp⟩ (fun _ _ h => h) (fun u h => by rw [upd_ne nb]; exact h) (r.cell m b c e1 q)
theorem Rel.putL (r : Rel K mg ρ G st H) (e : ρ[n]? = some a) (e2 : st[n]? = some (.lst xs)) (c : RVs K mg ρ G ys us) : Rel K mg ρ G (st.set n (.lst ys)) (upd H a (.lst us)) :=
  r.put e e2 (by simp) ⟨us, upd_same, c⟩
theorem Ext.put (e : ρ[n]? = some a) : Ext ρ G H ρ G (upd H a o) :=
  ⟨⟨[], by simp, by simp⟩, fun _ _ h => h, fun _ _ h => .inl h, fun b u q m => by
    have nb : b ≠ a := fun z => by subst z; exact m (List.mem_of_getElem? e)
    rw [upd_ne nb]; exact q, fun b u q => by
    by_cases z : b = a
    · subst z; exact ⟨o, upd_same⟩
    · exact ⟨u, by rw [upd_ne z]; exact q⟩⟩
end

/-! ### outcomes -/
def RX (K : PySem.W.Frag) (mg : Str → Option Value) (G : Hp) (x : Exn) (cls : Value) (dd : Option Addr) (H : Hp) : Prop :=
  ∃ C, mg x.cls = some (.ref C) ∧ cls = .ref C ∧ ((x.fs = [] ∧ dd = none) ∨ ∃ d vs, dd = some d ∧ G d = some (.xd vs) ∧ x.fs.map (·.1) = vs.map (·.1) ∧ DqAll K G (vs.map (·.2)) (x.fs.map (·.2)))
section
variable (K : PySem.W.Frag) (mg : Str → Option Value)
def Ok {α β : Type} (R : List Addr → Hp → α → β → Prop) (ρ : List Addr) (G H : Hp) (E : XK) (o : Out α) (Q : β → Hp → Prop) : Prop := match o with
  | .ok a st' => ∀ ρ' G' H' b, Ext ρ G H ρ' G' H' → Rel K mg ρ' G' st' H' → R ρ' G' a b → Q b H'
  | .exc x st' => ∀ ρ' G' H' cls dd, Ext ρ G H ρ' G' H' → Rel K mg ρ' G' st' H' → RX K mg G' x cls dd H' → E cls dd H'
  | .bad => False
abbrev RB : List Addr → Hp → Bool → Bool → Prop := fun _ _ a b => a = b
/-- slots -/
def ER (ρ : List Addr) (G : Hp) (env : Env) (σ : List (Option V)) : Prop := env.length = σ.length ∧ ∀ (i : Nat) (x : Val), env[i]? = some (some x) → ∃ v, σ[i]? = some (some v) ∧ RV K mg ρ G x v
end
section
variable {K : PySem.W.Frag} {mg : Str → Option Value} {ρ ρ' : List Addr} {G G' H H' : Hp} {st : Sto} {E : XK} {α β α' β' : Type} {R : List Addr → Hp → α → β → Prop} {R' : List Addr → Hp → α' → β' → Prop} {o : Out α} {o' : Out α'} {f : α → Sto → Out α'} {Q : β' → Hp → Prop}
theorem Ok.ext (e : Ext ρ G H ρ' G' H') (h : Ok K mg R' ρ G H E o' Q) : Ok K mg R' ρ' G' H' E o' Q := by
  cases o' with
  | ok a st' => exact fun ρ2 G2 H2 b e2 => h ρ2 G2 H2 b (e.trans e2)
  | exc x st' => exact fun ρ2 G2 H2 c d e2 => h ρ2 G2 H2 c d (e.trans e2)
  | bad => exact h
theorem Ok.bind (h : Ok K mg R' ρ G H E (o.bind f) Q) : Ok K mg R ρ G H E o (fun b H1 => ∃ a ρ1 G1 st1, Ext ρ G H ρ1 G1 H1 ∧ Rel K mg ρ1 G1 st1 H1 ∧ R ρ1 G1 a b ∧ Ok K mg R' ρ1 G1 H1 E (f a st1) Q) := by
  cases o with
  | ok a st' => exact fun ρ2 G2 H2 b e r q => ⟨a, ρ2, G2, st', e, r, q, Ok.ext e h⟩
  | exc x st' => exact h
  | bad => exact h
theorem Ok.ret {a : α} {b : β} {Q : β → Hp → Prop} (h : Ok K mg R ρ G H E (.ok a st) Q) (r : Rel K mg ρ G st H) (q : R ρ G a b) : Q b H := h ρ G H b .refl r q
theorem Ok.imp {Q' : β' → Hp → Prop} (h : Ok K mg R' ρ G H E o' Q) (g : ∀ b H, Q b H → Q' b H) : Ok K mg R' ρ G H E o' Q' := by
  cases o' with
  | ok a st' => exact fun ρ2 G2 H2 b e r q => g _ _ (h ρ2 G2 H2 b e r q)
  | exc x st' => exact h
  | bad => exact h
theorem ER.ext (e : Ext ρ G H ρ' G' H') {env : Env} {σ : List (Option V)} (h : ER K mg ρ G env σ) : ER K mg ρ' G' env σ :=
  ⟨h.1, fun i x q => let ⟨v, h1, h2⟩ := h.2 i x q; ⟨v, h1, e.rv h2⟩⟩
theorem ER.set {env : Env} {σ : List (Option V)} {x : Val} {v : V} (h : ER K mg ρ G env σ) (i : Nat) (q : RV K mg ρ G x v) : ER K mg ρ G (env.set i (some x)) (σ.set i (some v)) := by
  refine ⟨by simp [h.1], fun j y e => ?_⟩
  by_cases z : i = j
  · subst z
    have l : i < env.length := by
      have := (List.getElem?_eq_some_iff.mp e).1
      simpa using this
    rw [List.getElem?_set_self l] at e; cases e
    exact ⟨v, List.getElem?_set_self (by rw [← h.1]; exact l), q⟩
  · rw [List.getElem?_set_ne z] at e ⊢
    exact h.2 j y e
theorem ER.wipe {env : Env} {σ : List (Option V)} (h : ER K mg ρ G env σ) (i : Nat) : ER K mg ρ G (env.set i none) σ := by
  refine ⟨by simp [h.1], fun j y e => ?_⟩
  by_cases z : i = j
  · subst z
    have l : i < env.length := by
      have := (List.getElem?_eq_some_iff.mp e).1
      simpa using this
    rw [List.getElem?_set_self l] at e; cases e
  · rw [List.getElem?_set_ne z] at e
    exact h.2 j y e
end

/-! ### judgements -/
abbrev ME := Env → Sto → Out Val
abbrev MT := Env → Sto → Out Bool
abbrev MA := Env → Sto → Out (List Val)
inductive Fl where
  | next (env : Env) (st : Sto)
  | ret (v : Val) (st : Sto)
  | brk (env : Env) (st : Sto)
  | cont (env : Env) (st : Sto)
  | exc (x : Exn) (env : Env) (st : Sto)
  | bad
abbrev MS := Env → Sto → Fl
section
variable (X : Cx) (W : WX)
def SE (e : Expr) (m : ME) : Prop := ∃ t, PE X e t ∧ ∀ (σ : List (Option V)) H env st ρ G Q, ER X.K X.mg ρ G env σ → Rel X.K X.mg ρ G st H → Ok X.K X.mg (RV X.K X.mg) ρ G H (fun c d H => W c d σ H) (m env st) Q → t σ H Q
def ST (e : Expr) (m : MT) : Prop := ∃ t, PT X e t ∧ ∀ (σ : List (Option V)) H env st ρ G Q, ER X.K X.mg ρ G env σ → Rel X.K X.mg ρ G st H → Ok X.K X.mg RB ρ G H (fun c d H => W c d σ H) (m env st) Q → t σ H Q
def SW (e : Expr) (m : MT) : Prop := ∃ t, PW X e t ∧ ∀ (σ : List (Option V)) H env st ρ G Q, ER X.K X.mg ρ G env σ → Rel X.K X.mg ρ G st H → Ok X.K X.mg RB ρ G H (fun c d H => W c d σ H) (m env st) Q → t σ H Q
def SA (es : List Expr) (m : MA) : Prop := ∃ t, PA X es t ∧ ∀ (σ : List (Option V)) H env st ρ G Q, ER X.K X.mg ρ G env σ → Rel X.K X.mg ρ G st H → Ok X.K X.mg (RVs X.K X.mg) ρ G H (fun c d H => W c d σ H) (m env st) Q → t σ H Q
def OkS (K : PySem.W.Frag) (mg : Str → Option Value) (ρ : List Addr) (G H : Hp) (o : Fl) (D : Ends) : Prop := match o with
  | .next env st => ∀ ρ' G' H' σ', Ext ρ G H ρ' G' H' → Rel K mg ρ' G' st H' → ER K mg ρ' G' env σ' → D.nx σ' H'
  | .ret v st => ∀ ρ' G' H' u, Ext ρ G H ρ' G' H' → Rel K mg ρ' G' st H' → RV K mg ρ' G' v u → D.rt u H'
  | .brk env st => ∀ ρ' G' H' σ', Ext ρ G H ρ' G' H' → Rel K mg ρ' G' st H' → ER K mg ρ' G' env σ' → D.bk σ' H'
  | .cont env st => ∀ ρ' G' H' σ', Ext ρ G H ρ' G' H' → Rel K mg ρ' G' st H' → ER K mg ρ' G' env σ' → D.ct σ' H'
  | .exc x env st => ∀ ρ' G' H' σ' cls dd, Ext ρ G H ρ' G' H' → Rel K mg ρ' G' st H' → ER K mg ρ' G' env σ' → RX K mg G' x cls dd H' → W cls dd σ' H'
  | .bad => False
def SS (s : Stmt) (m : MS) : Prop := ∃ t, PS X s t ∧ ∀ (σ : List (Option V)) H env st ρ G D, ER X.K X.mg ρ G env σ → Rel X.K X.mg ρ G st H → OkS W X.K X.mg ρ G H (m env st) D → t D σ H
def SB (s : List Stmt) (m : MS) : Prop := ∃ t, PSs X s t ∧ ∀ (σ : List (Option V)) H env st ρ G D, ER X.K X.mg ρ G env σ → Rel X.K X.mg ρ G st H → OkS W X.K X.mg ρ G H (m env st) D → t D σ H
end
end Z

namespace Z
open PySem PySem.Spec PyProof.Rows L2
abbrev LINE : Nat := 16777216
theorem line_eq : (sizeLine : Nat) = LINE := sizeLine_eq

/-- what is fixed through the whole law -/
structure Wd where
  P : Program
  w : World
  K : PySem.W.Frag
  mg : Str → Option Value
  base : Heap
/-- a scope; which of its cells are its own -/
structure Scp where
  sc : Scope
  fo : Str → Bool
/-- a def's; a comprehension's within -/
def Scp.df (s : Scope) : Scp := ⟨s, fun _ => true⟩
def Scp.blk (c : Scp) (s : Scope) : Scp := ⟨L2.relS s c.sc, fun x => s.names.lookup x == some .cell⟩
structure Gd (D : Wd) (X : Cx) (W : WX) (N : List Str) (sc : Scp) (k : Nat) : Prop where
  hP : X.prog = D.P
  hw : X.w = D.w
  hK : X.K = D.K
  hmg : X.mg = D.mg
  hb : X.base = D.base
  hN : X.N = N
  nd : N.Nodup
  hsc : X.env.scope = sc.sc
  calm : X.calm = true
  tk : Takes X W
  room : Room k X.A
  fnc : ∀ x, sc.fo x = true → X.fn x = true
def visB (sc : Scp) (x : Str) : Bool := match sc.sc.names.lookup x with
  | some .local => true
  | some .cell => true
  | some .free => true
  | _ => false
theorem vis_of {sc : Scp} {x : Str} (h : visB sc x = true) : Vis sc.sc x := by
  unfold visB at h
  split at h
  · exact .inl (by assumption)
  · exact .inr (.inl (by assumption))
  · exact .inr (.inr (by assumption))
  · cases h
def glB (sc : Scp) (x : Str) : Bool := match sc.sc.names.lookup x with
  | some .globalImplicit => true
  | _ => false
section
variable {D : Wd} {X : Cx} {W : WX} {N : List Str} {sc : Scp} {k : Nat} {e a b c : Expr} {es : List Expr} {m ma mb mc : ME} {pos : Pos}
theorem Gd.gl (g : Gd D X W N sc k) {x : Str} (h : glB sc x = true) : Gl X x := by
  unfold glB at h
  split at h
  · show X.env.scope.names.lookup x = _; rw [g.hsc]; assumption
  · cases h
/-! ### names, constants -/
def mVar (i : Nat) : ME := fun env st => match env[i]? with
  | some (some v) => .ok v st
  | _ => .bad
theorem se_var (g : Gd D X W N sc k) (i : Nat) {x : Str} (hi : N[i]? = some x) (hv : visB sc x = true) (hd : (x == ("__debug__" : Str)) = false := by decide) (hcd : (x == ("__classdict__" : Str)) = false := by decide) : SE X W (.Name x pos) (mVar i) := by
  refine ⟨tVar i, pe_var (by rw [g.hN]; exact hi) (by rw [g.hsc]; exact vis_of hv) hd hcd, fun σ H env st ρ G Q he hr h => ?_⟩
  unfold mVar at h
  split at h
  · rename_i v e
    obtain ⟨u, e2, r⟩ := he.2 i v e
    exact ⟨u, e2, h ρ G H u .refl hr r⟩
  · exact h.elim
def mD (x : PyData) : ME := fun _ st => .ok (.d x) st
theorem se_dat {x : PyData} {v : V} (h : PE X e (tC v)) (d : ∀ G, Dq X.K G v x) : SE X W e (mD x) :=
  ⟨tC v, h, fun σ H env st ρ G Q he hr h => h ρ G H v .refl hr (.d (d G))⟩
theorem se_int {i : Int} {j : Nat} : SE X W (.Constant (.int i) j pos) (mD (.int i)) := se_dat pe_int fun _ => .int i
theorem se_bl {i : Bool} {j : Nat} : SE X W (.Constant (.bool i) j pos) (mD (.bool i)) := se_dat pe_bl fun _ => .bl i
theorem se_str {i : Str} {j : Nat} : SE X W (.Constant (.str i) j pos) (mD (.str i)) := se_dat pe_str fun _ => .str i
theorem se_non {j : Nat} : SE X W (.Constant .none j pos) (mD .none) := se_dat pe_non fun _ => .non
/-- a constant of the module -/
theorem se_glob (g : Gd D X W N sc k) {x : Str} {v : V} {d : PyData} {u : Value} (hg : glB sc x = true) (hm : D.mg x = some u) (r : RelV v u) (hd : ∀ G, Dq D.K G v d) (h2 : (x == ("__debug__" : Str)) = false := by decide) : SE X W (.Name x pos) (mD d) :=
  se_dat (pe_glob (g.gl hg) (by rw [g.hmg]; exact hm) r h2) fun G => by rw [g.hK]; exact hd G
/-- a def or a class of the module as a value -/
def mG (x : Str) : ME := fun _ st => .ok (.g x) st
theorem se_gref (g : Gd D X W N sc k) {x : Str} {a : Addr} (hg : glB sc x = true) (hm : D.mg x = some (.ref a)) (h2 : (x == ("__debug__" : Str)) = false := by decide) : SE X W (.Name x pos) (mG x) :=
  ⟨_, pe_glob (v := .ref a) (g.gl hg) (by rw [g.hmg]; exact hm) rfl h2, fun σ H env st ρ G Q he hr h => h ρ G H _ .refl hr (.g (by rw [g.hmg]; exact hm))⟩

/-! ### two in a row -/
theorem se_then {F : Val → Sto → Out Val} {R : V → Hp → VK → Prop} (ha : SE X W a ma) (ht : ∀ ta, PE X a ta → ∃ t, PE X e t ∧ ∀ σ H Q, ta σ H (fun x H1 => R x H1 Q) → t σ H Q)
    (hR : ∀ σ H ρ G st x u Q, Rel X.K X.mg ρ G st H → RV X.K X.mg ρ G x u → Ok X.K X.mg (RV X.K X.mg) ρ G H (fun c d H => W c d σ H) (F x st) Q → R u H Q) : SE X W e (fun env st => (ma env st).bind F) := by
  obtain ⟨ta, pa, sa⟩ := ha
  obtain ⟨t, pt, ht⟩ := ht ta pa
  refine ⟨t, pt, fun σ H env st ρ G Q he hr h => ht σ H Q (sa σ H env st ρ G _ he hr ((Ok.bind (R := RV X.K X.mg) h).imp fun u H1 ⟨x, ρ1, G1, st1, e1, r1, q1, o1⟩ => hR σ H1 ρ1 G1 st1 x u Q r1 q1 o1))⟩
def mBin (F : Val → Val → Sto → Out Val) (ma mb : ME) : ME := fun env st => (ma env st).bind fun x st1 => (mb env st1).bind fun y st2 => F x y st2
def Op2 (X : Cx) (f : Value → Value → Sem Value) (F : Val → Val → Sto → Out Val) : Prop :=
  ∃ r : R2, OpR X f r ∧ ∀ (ρ : List Addr) (G : Hp) (st : Sto) (H : Hp) (x y : Val) (u v : V) (E : XK) (Q : VK), Rel X.K X.mg ρ G st H → RV X.K X.mg ρ G x u → RV X.K X.mg ρ G y v → Ok X.K X.mg (RV X.K X.mg) ρ G H E (F x y st) Q → r u v H Q
theorem two {α β : Type} {R : List Addr → Hp → α → β → Prop} {F : Val → Val → Sto → Out α} {ta tb : TE} {σ : List (Option V)} {H : Hp} {env : Env} {st : Sto} {ρ : List Addr} {G : Hp} {E : XK} {Q : β → Hp → Prop} {r : V → V → Hp → Prop}
    (sa : ∀ (Q : VK), Ok X.K X.mg (RV X.K X.mg) ρ G H E (ma env st) Q → ta σ H Q)
    (sb : ∀ H st ρ G (Q : VK), ER X.K X.mg ρ G env σ → Rel X.K X.mg ρ G st H → Ok X.K X.mg (RV X.K X.mg) ρ G H E (mb env st) Q → tb σ H Q)
    (he : ER X.K X.mg ρ G env σ) (hr : Rel X.K X.mg ρ G st H) (h : Ok X.K X.mg R ρ G H E ((ma env st).bind fun x st1 => (mb env st1).bind fun y st2 => F x y st2) Q)
    (hF : ∀ ρ G st H x y u v, Rel X.K X.mg ρ G st H → RV X.K X.mg ρ G x u → RV X.K X.mg ρ G y v → Ok X.K X.mg R ρ G H E (F x y st) Q → r u v H) :
    ta σ H fun x H1 => tb σ H1 fun y H2 => r x y H2 := by
  refine sa _ ((Ok.bind (R := RV X.K X.mg) h).imp fun u H1 ⟨x, ρ1, G1, st1, e1, r1, q1, o1⟩ => ?_)
  refine sb H1 st1 ρ1 G1 _ (he.ext e1) r1 ((Ok.bind (R := RV X.K X.mg) o1).imp fun v H2 ⟨y, ρ2, G2, st2, e2, r2, q2, o2⟩ => ?_)
  exact hF ρ2 G2 st2 H2 x y u v r2 (e2.rv q1) q2 o2
theorem se_bin {op : Operator} {F : Val → Val → Sto → Out Val} (ho : Op2 X (binaryOp op) F) (ha : SE X W a ma) (hb : SE X W b mb) : SE X W (.BinOp a op b pos) (mBin F ma mb) := by
  obtain ⟨r, hr, hF⟩ := ho
  obtain ⟨ta, pa, sa⟩ := ha
  obtain ⟨tb, pb, sb⟩ := hb
  exact ⟨_, pe_op hr pa pb, fun σ H env st ρ G Q he rl h => two (fun Q h => sa σ H env st ρ G Q he rl h) (fun H st ρ G Q he rl h => sb σ H env st ρ G Q he rl h) he rl h fun ρ G st H x y u v r1 q1 q2 o => hF ρ G st H x y u v _ Q r1 q1 q2 o⟩
end
/-! ### values as sequences -/
def seqL (st : Sto) : Val → Option (List Val)
  | .d (.list xs) => some (xs.map .d)
  | .c n => match st[n]? with
    | some (.lst xs) => some xs
    | _ => none
  | _ => none
def seqT : Val → Option (List Val)
  | .d (.tuple xs) => some (xs.map .d)
  | .t xs => some xs
  | .p xs => some xs
  | _ => none
/-- lists that are only read: the script too -/
def seqR (st : Sto) : Val → Option (List Val)
  | .s ns => some (ns.map fun n => .d (.int n))
  | x => seqL st x
def newL (vs : List Val) (st : Sto) : Out Val := match datas vs with
  | some ds => .ok (.d (.list ds)) st
  | none => .bad
def newC (vs : List Val) (st : Sto) : Out Val := .ok (.c st.length) (st ++ [.lst vs])
def mkT (vs : List Val) : Val := match datas vs with
  | some ds => .d (.tuple ds)
  | none => .t vs
section
variable {K : PySem.W.Frag} {mg : Str → Option Value} {ρ : List Addr} {G H : Hp} {st : Sto} {x : Val} {u : V} {xs : List Val} {vs : List V} {p : Addr} {E : XK} {Q : VK}
theorem seqL_ok (r : Rel K mg ρ G st H) (h : seqL st x = some xs) (q : RV K mg ρ G x u) : ∃ a vs, u = .ref a ∧ H a = some (.lst vs) ∧ RVs K mg ρ G xs vs := by
  cases q with
  | d hd =>
    cases hd with
    | lst g rr => cases h; exact ⟨_, _, rfl, r.sub _ _ g, RVs.of_dq rr⟩
    | _ => cases h
  | c hc =>
    rename_i n a
    have h1 : (match st[n]? with | some (.lst xs) => some xs | _ => none) = some xs := h
    split at h1
    · rename_i ys e2
      cases h1
      obtain ⟨a', vs, e1, e3, e4, _⟩ := r.at_ e2
      rw [hc] at e1; cases e1
      exact ⟨a, vs, rfl, e3, e4⟩
    · cases h1
  | t _ _ => cases h
  | p _ _ => cases h
  | g _ => cases h
  | s _ => cases h
theorem ints_rvs : ∀ ns : List Int, RVs K mg ρ G (ns.map fun n => .d (.int n)) (ns.map V.int)
  | [] => .nil
  | n :: r => .cons (.d (.int n)) (ints_rvs r)
theorem seqR_ok (r : Rel K mg ρ G st H) (h : seqR st x = some xs) (q : RV K mg ρ G x u) : ∃ a vs, u = .ref a ∧ SqL K H a vs ∧ RVs K mg ρ G xs vs := by
  cases q with
  | s hs => cases h; exact ⟨_, _, rfl, sqL_mono r.sub hs, ints_rvs _⟩
  | d hd => obtain ⟨a, vs, e1, e2, e3⟩ := seqL_ok r (show seqL st _ = some xs from h) (.d hd); exact ⟨a, vs, e1, .inl (.inl e2), e3⟩
  | c hd =>
    rename_i n a
    obtain ⟨a, vs, e1, e2, e3⟩ := seqL_ok (x := .c n) r h (.c hd)
    exact ⟨a, vs, e1, .inl (.inl e2), e3⟩
  | t _ _ => cases h
  | p _ _ => cases h
  | g _ => cases h
theorem seqT_ok (r : Rel K mg ρ G st H) (h : seqT x = some xs) (q : RV K mg ρ G x u) : ∃ a vs, u = .ref a ∧ SqT K H a vs ∧ RVs K mg ρ G xs vs ∧ SqT K G a vs := by
  cases q with
  | d hd =>
    cases hd with
    | tup g rr => cases h; exact ⟨_, _, rfl, sqT_mono r.sub g.sq, RVs.of_dq rr, g.sq⟩
    | _ => cases h
  | t g rr => cases h; exact ⟨_, _, rfl, sqT_mono r.sub g.sq, rr, g.sq⟩
  | p g rr => cases h; exact ⟨_, _, rfl, sqT_mono r.sub g, rr, g⟩
  | c _ => cases h
  | g _ => cases h
  | s _ => cases h
theorem newL_ok (r : Rel K mg ρ G st H) (hp : H p = none) (c : RVs K mg ρ G xs vs) (h : Ok K mg (RV K mg) ρ G H E (newL xs st) Q) : Q (.ref p) (upd H p (.lst vs)) := by
  unfold newL at h
  split at h
  · rename_i ds e
    rw [datas_eq e] at c
    exact h ρ (upd G p (.lst vs)) _ (.ref p) (.newG hp (r.freeG hp)) (r.newG hp) (.d (.lst upd_same (dqAll_mono (upd_grow (r.freeG hp)) c.to_dq)))
  · exact h.elim
theorem newC_ok (r : Rel K mg ρ G st H) (hp : H p = none) (c : RVs K mg ρ G xs vs) (h : Ok K mg (RV K mg) ρ G H E (newC xs st) Q) : Q (.ref p) (upd H p (.lst vs)) :=
  h (ρ ++ [p]) G _ (.ref p) (.newC hp) (r.newC hp c) (.c (by rw [← r.len]; simp))
theorem mkT_ok (r : Rel K mg ρ G st H) (c : RVs K mg ρ G xs vs) (h : Ok K mg (RV K mg) ρ G H E (.ok (mkT xs) st) Q) : NewT H vs Q := by
  intro p o hp hd
  refine h ρ (upd G p (.frz o (.tup vs))) _ (.ref p) (.newG hp (r.freeG hp)) (r.newG hp) ?_
  unfold mkT
  split
  · rename_i ds e
    rw [datas_eq e] at c
    exact .d (.tup (.inl ⟨o, upd_same, hd⟩) (dqAll_mono (upd_grow (r.freeG hp)) c.to_dq))
  · exact .t (.inl ⟨o, upd_same, hd⟩) (rvs_mono ⟨[], by simp⟩ (upd_grow (r.freeG hp)) c)
/-- a tuple that is there already -/
theorem mkT_rv {a : Addr} (h : TupN K G a vs) (c : RVs K mg ρ G xs vs) : RV K mg ρ G (mkT xs) (.ref a) := by
  unfold mkT
  split
  · rename_i ds e
    rw [datas_eq e] at c
    exact .d (.tup h c.to_dq)
  · exact .t h c
end
end Z

namespace Z
open PySem PySem.Spec PyProof.Rows L2
/-- list results: a frozen one, or a new cell -/
def lstR (cell : Bool) (vs : List Val) (st : Sto) : Out Val := if cell then newC vs st else newL vs st
def addF (cell : Bool) : Val → Val → Sto → Out Val := fun x y st => match x, y with
  | .d (.int i), .d (.int j) => .ok (.d (.int (i + j))) st
  | .d (.str a), .d (.str b) => if a.length + b.length ≤ LINE then .ok (.d (.str (a ++ b))) st else .bad
  | .d (.tuple xs), .d (.tuple ys) => if xs.length + ys.length ≤ LINE then .ok (.d (.tuple (xs ++ ys))) st else .bad
  | x, y => match seqL st x, seqL st y with
    | some xs, some ys => if xs.length + ys.length ≤ LINE then lstR cell (xs ++ ys) st else .bad
    | _, _ => match seqT x, seqT y with
      | some xs, some ys => if xs ≠ [] ∧ ys ≠ [] ∧ xs.length + ys.length ≤ LINE then .ok (mkT (xs ++ ys)) st else .bad
      | _, _ => .bad
def mulOk (i j : Int) : Bool := (decide (-(2 ^ 64) < i) && decide (i < 2 ^ 64)) || (decide (-(2 ^ 64) < j) && decide (j < 2 ^ 64))
def mulF (cell : Bool) : Val → Val → Sto → Out Val := fun x y st => match x, y with
  | .d (.int i), .d (.int j) => if mulOk i j then .ok (.d (.int (i * j))) st else .bad
  | x, .d (.int k) => match seqL st x with
    | some xs => if -(2 ^ 63) ≤ k ∧ k < 2 ^ 63 ∧ xs.length * k.toNat ≤ LINE then lstR cell (List.replicate k.toNat xs).flatten st else .bad
    | none => match seqT x with
      | some xs => if k = 1 then .ok x st else if xs ≠ [] ∧ 2 ≤ k ∧ k ≤ 1000 ∧ xs.length ≤ 1000 then .ok (mkT (List.replicate k.toNat xs).flatten) st else .bad
      | none => .bad
  | _, _ => .bad
def subF : Val → Val → Sto → Out Val := fun x y st => match x, y with
  | .d (.int i), .d (.int j) => .ok (.d (.int (i - j))) st
  | _, _ => .bad
def modF : Val → Val → Sto → Out Val := fun x y st => match x, y with
  | .d (.int i), .d (.int j) => if 0 < j then .ok (.d (.int (i % j))) st else .bad
  | _, _ => .bad
def fdivF : Val → Val → Sto → Out Val := fun x y st => match x, y with
  | .d (.int i), .d (.int j) => if 0 < j ∧ j < 1073741824 then .ok (.d (.int (i / j))) st else .bad
  | _, _ => .bad
def powF : Val → Val → Sto → Out Val := fun x y st => match x, y with
  | .d (.int i), .d (.int j) => if 0 ≤ j ∧ j ≤ 1000000 ∧ i.natAbs < 2 ^ 64 then .ok (.d (.int (i ^ j.toNat))) st else .bad
  | _, _ => .bad
section
variable {K : PySem.W.Frag} {mg : Str → Option Value} {ρ : List Addr} {G H : Hp} {st : Sto} {x : Val} {u v : V} {xs : List Val} {vs : List V} {p : Addr} {E : XK} {Q : VK}
theorem rv_int {i : Int} (q : RV K mg ρ G (.d (.int i)) u) : u = .int i := by cases q with | d h => cases h; rfl
theorem rv_bl {i : Bool} (q : RV K mg ρ G (.d (.bool i)) u) : u = .bl i := by cases q with | d h => cases h; rfl
theorem rv_str {i : Str} (q : RV K mg ρ G (.d (.str i)) u) : u = .str i := by cases q with | d h => cases h; rfl
theorem rv_non (q : RV K mg ρ G (.d .none) u) : u = .non := by cases q with | d h => cases h; rfl
theorem rv_dat {i : PyData} (q : RV K mg ρ G (.d i) u) : Dq K G u i := by cases q with | d h => exact h
theorem rv_cell {n : Nat} (q : RV K mg ρ G (.c n) u) : ∃ a, u = .ref a ∧ ρ[n]? = some a := by cases q with | c h => exact ⟨_, rfl, h⟩
theorem lstR_ok {cell : Bool} (r : Rel K mg ρ G st H) (hp : H p = none) (c : RVs K mg ρ G xs vs) (h : Ok K mg (RV K mg) ρ G H E (lstR cell xs st) Q) : Q (.ref p) (upd H p (.lst vs)) := by
  unfold lstR at h
  cases cell with
  | true => exact newC_ok r hp c (by simpa using h)
  | false => exact newL_ok r hp c (by simpa using h)
theorem RVs.rep (c : RVs K mg ρ G xs vs) : ∀ k : Nat, RVs K mg ρ G (List.replicate k xs).flatten (List.replicate k vs).flatten
  | 0 => by simpa using RVs.nil
  | k + 1 => by
    rw [List.replicate_succ, List.replicate_succ, List.flatten_cons, List.flatten_cons]
    exact c.append (c.rep k)
end
section
variable {X : Cx}
theorem ok_ret {ρ : List Addr} {G H : Hp} {st : Sto} {x : PyData} {u : V} {E : XK} {Q : VK} (r : Rel X.K X.mg ρ G st H) (d : Dq X.K G u x) (h : Ok X.K X.mg (RV X.K X.mg) ρ G H E (.ok (.d x) st) Q) : Q u H := h ρ G H u .refl r (.d d)
theorem op2_add (cell : Bool) : Op2 X (binaryOp .Add) (addF cell) := by
  refine ⟨_, (OpR.or op_add (OpR.or op_add_str (OpR.or op_catN op_cat))), fun ρ G st H x y u v E Q r qx qy h => ?_⟩
  unfold addF at h
  split at h
  · rw [rv_int qx, rv_int qy]; exact .inl ⟨_, _, rfl, rfl, ok_ret r (.int _) h⟩
  · split at h
    · rw [rv_str qx, rv_str qy]; exact .inr (.inl ⟨_, _, rfl, rfl, by rw [line_eq]; assumption, ok_ret r (.str _) h⟩)
    · exact h.elim
  · rename_i xs ys
    split at h
    · rename_i hl
      refine .inr (.inr (.inl ?_))
      obtain ⟨a, vs, rfl, t1, c1, g1⟩ := seqT_ok (x := .d (.tuple xs)) r rfl qx
      obtain ⟨b, us, rfl, t2, c2, g2⟩ := seqT_ok (x := .d (.tuple ys)) r rfl qy
      have l1 := c1.len
      have l2 := c2.len
      rw [List.length_map] at l1 l2
      refine ⟨a, b, vs, us, rfl, rfl, t1, t2, by rw [← l1, ← l2, line_eq]; exact hl, fun e => ?_, fun _ e => ?_, fun _ _ => ?_⟩
      · subst e
        have : xs = [] := by
          cases xs with
          | nil => rfl
          | cons _ _ => simp at l1
        subst this
        exact ok_ret r (rv_dat qy) h
      · subst e
        have : ys = [] := by
          cases ys with
          | nil => rfl
          | cons _ _ => simp at l2
        subst this
        rw [List.append_nil] at h
        exact ok_ret r (rv_dat qx) h
      · have e : (Val.d (.tuple (xs ++ ys))) = mkT ((xs ++ ys).map Val.d) := by unfold mkT; rw [datas_map]
        rw [e] at h
        refine mkT_ok r ?_ h
        rw [List.map_append]
        exact c1.append c2
    · exact h.elim
  · split at h
    · rename_i xs ys e1 e2
      split at h
      · rename_i hl
        obtain ⟨a, vs, rfl, t1, c1⟩ := seqL_ok r e1 qx
        obtain ⟨b, us, rfl, t2, c2⟩ := seqL_ok r e2 qy
        exact .inr (.inr (.inr ⟨a, b, vs, us, rfl, rfl, t1, t2, by rw [← c1.len, ← c2.len, line_eq]; exact hl, fun p hp => lstR_ok r hp (c1.append c2) h⟩))
      · exact h.elim
    · split at h
      · rename_i xs ys e1 e2
        split at h
        · rename_i hl
          refine .inr (.inr (.inl ?_))
          obtain ⟨a, vs, rfl, t1, c1, g1⟩ := seqT_ok r e1 qx
          obtain ⟨b, us, rfl, t2, c2, g2⟩ := seqT_ok r e2 qy
          refine ⟨a, b, vs, us, rfl, rfl, t1, t2, by rw [← c1.len, ← c2.len, line_eq]; exact hl.2.2, fun e => ?_, fun _ e => ?_, fun _ _ => mkT_ok r (c1.append c2) h⟩
          · subst e; cases c1; exact absurd rfl hl.1
          · subst e; cases c2; exact absurd rfl hl.2.1
        · exact h.elim
      · exact h.elim
theorem op2_sub : Op2 X (binaryOp .Sub) subF := by
  refine ⟨_, op_sub, fun ρ G st H x y u v E Q r qx qy h => ?_⟩
  unfold subF at h
  split at h
  · rw [rv_int qx, rv_int qy]; exact ⟨_, _, rfl, rfl, ok_ret r (.int _) h⟩
  · exact h.elim
theorem op2_mod : Op2 X (binaryOp .Mod) modF := by
  refine ⟨_, op_mod, fun ρ G st H x y u v E Q r qx qy h => ?_⟩
  unfold modF at h
  split at h
  · split at h
    · rw [rv_int qx, rv_int qy]; exact ⟨_, _, rfl, rfl, by assumption, ok_ret r (.int _) h⟩
    · exact h.elim
  · exact h.elim
theorem op2_fdiv : Op2 X (binaryOp .FloorDiv) fdivF := by
  refine ⟨_, op_fdiv, fun ρ G st H x y u v E Q r qx qy h => ?_⟩
  unfold fdivF at h
  split at h
  · split at h
    · rw [rv_int qx, rv_int qy]; exact ⟨_, _, rfl, rfl, by assumption, ok_ret r (.int _) h⟩
    · exact h.elim
  · exact h.elim
theorem op2_pow : Op2 X (binaryOp .Pow) powF := by
  refine ⟨_, op_pow, fun ρ G st H x y u v E Q r qx qy h => ?_⟩
  unfold powF at h
  split at h
  · split at h
    · rw [rv_int qx, rv_int qy]; exact ⟨_, _, rfl, rfl, by assumption, ok_ret r (.int _) h⟩
    · exact h.elim
  · exact h.elim
theorem mulOk_ok {i j : Int} (h : mulOk i j = true) : CMul i j := by
  unfold mulOk at h
  rw [Bool.or_eq_true, Bool.and_eq_true, Bool.and_eq_true] at h
  rcases h with ⟨a, b⟩ | ⟨a, b⟩
  · exact .inl ⟨of_decide_eq_true a, of_decide_eq_true b⟩
  · exact .inr ⟨of_decide_eq_true a, of_decide_eq_true b⟩
theorem op2_mul (cell : Bool) : Op2 X (binaryOp .Mult) (mulF cell) := by
  refine ⟨_, (OpR.or op_mul (OpR.or op_rep (OpR.or op_repN op_rep1))), fun ρ G st H x y u v E Q r qx qy h => ?_⟩
  unfold mulF at h
  split at h
  · split at h
    · rw [rv_int qx, rv_int qy]; exact .inl ⟨_, _, rfl, rfl, mulOk_ok (by assumption), ok_ret r (.int _) h⟩
    · exact h.elim
  · split at h
    · rename_i xs e1
      split at h
      · rename_i hl
        obtain ⟨a, vs, rfl, t1, c1⟩ := seqL_ok r e1 qx
        rw [rv_int qy]
        exact .inr (.inl ⟨a, _, vs, rfl, rfl, t1, hl.1, hl.2.1, by rw [← c1.len, line_eq]; exact hl.2.2, fun p hp => lstR_ok r hp (c1.rep _) h⟩)
      · exact h.elim
    · split at h
      · rename_i xs e1
        split at h
        · rename_i hk
          obtain ⟨a, vs, rfl, t1, c1, g1⟩ := seqT_ok r e1 qx
          rw [rv_int qy, hk]
          exact .inr (.inr (.inr ⟨a, vs, rfl, rfl, t1, Ok.ret h r qx⟩))
        split at h
        · rename_i hl
          obtain ⟨a, vs, rfl, t1, c1, g1⟩ := seqT_ok r e1 qx
          rw [rv_int qy]
          refine .inr (.inr (.inl ⟨a, _, vs, rfl, rfl, t1, fun e => ?_, hl.2.1, hl.2.2.1, by rw [← c1.len]; exact hl.2.2.2, mkT_ok r (c1.rep _) h⟩))
          subst e; cases c1; exact hl.1 rfl
        · exact h.elim
      · exact h.elim
  · exact h.elim
/-! ### one operand -/
def Op1 (X : Cx) (f : Value → Sem Value) (F : Val → Sto → Out Val) : Prop :=
  ∃ r : V → Hp → VK → Prop, UnR X f r ∧ ∀ (ρ : List Addr) (G : Hp) (st : Sto) (H : Hp) (x : Val) (u : V) (E : XK) (Q : VK), Rel X.K X.mg ρ G st H → RV X.K X.mg ρ G x u → Ok X.K X.mg (RV X.K X.mg) ρ G H E (F x st) Q → r u H Q
def mUn (F : Val → Sto → Out Val) (ma : ME) : ME := fun env st => (ma env st).bind F
theorem se_un {W : WX} {a : Expr} {ma : ME} {pos : Pos} {op : UnaryOp} {F : Val → Sto → Out Val} (ho : Op1 X (unaryOp op) F) (ha : SE X W a ma) : SE X W (.UnaryOp op a pos) (mUn F ma) := by
  obtain ⟨r, hr, hF⟩ := ho
  exact se_then (R := r) ha (fun ta pa => ⟨_, pe_un hr pa, fun σ H Q h => h⟩) fun σ H ρ G st x u Q rl q o => hF ρ G st H x u _ Q rl q o
def negF : Val → Sto → Out Val := fun x st => match x with
  | .d (.int i) => .ok (.d (.int (-i))) st
  | _ => .bad
theorem op1_neg : Op1 X (unaryOp .USub) negF := by
  refine ⟨_, un_neg, fun ρ G st H x u E Q r qx h => ?_⟩
  unfold negF at h
  split at h
  · rw [rv_int qx]; exact ⟨_, rfl, ok_ret r (.int _) h⟩
  · exact h.elim
end
end Z

namespace Z
open PySem PySem.Spec PyProof.Rows L2
/-! ### comparisons -/
def eqD : PyData → PyData → Option Bool
  | .int i, .int j => some (i == j)
  | .str a, .str b => some (a == b)
  | .bool a, .bool b => some (a == b)
  | .int _, .str _ => some false
  | .str _, .int _ => some false
  | .none, .none => some true
  | .none, .int _ => some false
  | .none, .str _ => some false
  | .none, .bool _ => some false
  | .int _, .none => some false
  | .str _, .none => some false
  | .bool _, .none => some false
  | x, y => if SeqAt.shaped x && SeqAt.shaped y then some (PyData.eqv x y) else none
/-- a value read as data (a cell's list too, one deep) -/
def asD (st : Sto) : Val → Option PyData
  | .d x => some x
  | .c n => match st[n]? with
    | some (.lst xs) => (datas xs).map PyData.list
    | _ => none
  | .s ns => some (.list (ns.map PyData.int))
  | _ => none
def outB (o : Option Bool) (st : Sto) : Out Bool := match o with
  | some b => .ok b st
  | none => .bad
def eqF : Val → Val → Sto → Out Bool := fun x y st => match asD st x, asD st y with
  | some a, some b => outB (eqD a b) st
  | _, _ => .bad
def neF : Val → Val → Sto → Out Bool := fun x y st => (eqF x y st).map not
def ltD : PyData → PyData → Option Bool
  | .int i, .int j => some (decide (i < j))
  | _, _ => none
def cmpI (f : Int → Int → Bool) : Val → Val → Sto → Out Bool := fun x y st => match x, y with
  | .d (.int i), .d (.int j) => .ok (f i j) st
  | _, _ => .bad
def ltF := cmpI fun i j => decide (i < j)
def leF := cmpI fun i j => decide (i ≤ j)
def gtF := cmpI fun i j => decide (j < i)
def geF := cmpI fun i j => decide (j ≤ i)
def noneB : PyData → Bool
  | .none => true
  | _ => false
/-- x is None -/
def isNF : Val → Val → Sto → Out Bool := fun x y st => match x, y with
  | .d a, .d .none => .ok (noneB a) st
  | .c _, .d .none => .ok false st
  | _, _ => .bad
def isNnF : Val → Val → Sto → Out Bool := fun x y st => (isNF x y st).map not
/-- x in y -/
def inD (x : PyData) : PyData → Option Bool
  | .str z => match x with
    | .str a => some (!(Builtin.Str.occurrences z a 0 z.length 1).isEmpty)
    | _ => none
  | .list ys => if SeqAt.shaped x && SeqAt.shaped (.list ys) then some (ys.any fun z => PyData.eqv z x) else none
  | .tuple ys => if SeqAt.shaped x && SeqAt.shaped (.tuple ys) then some (ys.any fun z => PyData.eqv z x) else none
  | _ => none
def inF : Val → Val → Sto → Out Bool := fun x y st => match asD st x, asD st y with
  | some a, some b => outB (inD a b) st
  | _, _ => .bad
def ninF : Val → Val → Sto → Out Bool := fun x y st => (inF x y st).map not
section
variable {K : PySem.W.Frag} {mg : Str → Option Value} {ρ : List Addr} {G H : Hp} {st : Sto} {x : Val} {u v : V} {xs : List Val} {vs : List V} {p : Addr} {E : XK} {Q : VK}
theorem ints_dp : ∀ ns : List Int, DpAll K H (ns.map V.int) (ns.map PyData.int)
  | [] => .nil
  | n :: r => .cons (.int n) (ints_dp r)
theorem asD_ok {d : PyData} (r : Rel K mg ρ G st H) (h : asD st x = some d) (q : RV K mg ρ G x u) : Dp K H u d := by
  cases q with
  | d hd => cases h; exact (dq_mono r.sub hd).dp
  | c hc =>
    rename_i n a
    have h1 : (match st[n]? with | some (.lst xs) => (datas xs).map PyData.list | _ => none) = some d := h
    split at h1
    · rename_i ys e2
      obtain ⟨ds, e3, rfl⟩ := Option.map_eq_some_iff.mp h1
      obtain ⟨a', vs, e1, e4, e5, _⟩ := r.at_ e2
      rw [hc] at e1; cases e1
      rw [datas_eq e3] at e5
      exact .lst (.inl (.inl e4)) (dqAll_mono r.sub e5.to_dq).dp
    · cases h1
  | t _ _ => cases h
  | p _ _ => cases h
  | g _ => cases h
  | s hs => cases h; exact .lst (sqL_mono r.sub hs) (ints_dp _)
end
section
variable {X : Cx} {W : WX} {N : List Str} {sc : Scp} {k : Nat} {e a b c : Expr} {es : List Expr} {m ma mb mc : ME} {pos : Pos}
def Cm2 (X : Cx) (op : CmpOp) (F : Val → Val → Sto → Out Bool) : Prop :=
  ∃ r : R2, OpR X (compareOp op) r ∧ ∀ (ρ : List Addr) (G : Hp) (st : Sto) (H : Hp) (x y : Val) (u v : V) (E : XK) (Q : VK), Rel X.K X.mg ρ G st H → RV X.K X.mg ρ G x u → RV X.K X.mg ρ G y v → Ok X.K X.mg RB ρ G H E (F x y st) (fun b H => Q (.bl b) H) → r u v H Q
def mCmp (F : Val → Val → Sto → Out Bool) (ma mb : ME) : MT := fun env st => (ma env st).bind fun x st1 => (mb env st1).bind fun y st2 => F x y st2
/-- a test as a value -/
def mBv (m : MT) : ME := fun env st => (m env st).map fun b => .d (.bool b)
theorem ok_map {ρ : List Addr} {G H : Hp} {o : Out Bool} {E : XK} {Q : VK} (h : Ok X.K X.mg (RV X.K X.mg) ρ G H E (o.map fun b => .d (.bool b)) Q) : Ok X.K X.mg RB ρ G H E o (fun b H => Q (.bl b) H) := by
  cases o with
  | ok b st => exact fun ρ' G' H' b' e r q => by cases q; exact h ρ' G' H' _ e r (.d (.bl b))
  | exc x st => exact h
  | bad => exact h
theorem st_cmp {op : CmpOp} {F : Val → Val → Sto → Out Bool} (ho : Cm2 X op F) (ha : SE X W a ma) (hb : SE X W b mb) (hm : behindInMarks op b = false) : ST X W (.Compare a [op] [b] pos) (mCmp F ma mb) := by
  obtain ⟨r, hr, hF⟩ := ho
  obtain ⟨ta, pa, sa⟩ := ha
  obtain ⟨tb, pb, sb⟩ := hb
  refine ⟨_, pt_cmpR hr pa pb hm, fun σ H env st ρ G Q he rl h => ?_⟩
  refine two (R := RB) (fun Q h => sa σ H env st ρ G Q he rl h) (fun H st ρ G Q he rl h => sb σ H env st ρ G Q he rl h) he rl h fun ρ G st H x y u v r1 q1 q2 o => hF ρ G st H x y u v _ _ r1 q1 q2 (o.imp fun b H q => ⟨b, rfl, q⟩)
theorem se_cmp {op : CmpOp} {F : Val → Val → Sto → Out Bool} (ho : Cm2 X op F) (ha : SE X W a ma) (hb : SE X W b mb) (hm : behindInMarks op b = false) : SE X W (.Compare a [op] [b] pos) (mBv (mCmp F ma mb)) := by
  obtain ⟨r, hr, hF⟩ := ho
  obtain ⟨ta, pa, sa⟩ := ha
  obtain ⟨tb, pb, sb⟩ := hb
  refine ⟨_, pe_cmpR hr pa pb hm, fun σ H env st ρ G Q he rl h => ?_⟩
  exact two (R := RB) (fun Q h => sa σ H env st ρ G Q he rl h) (fun H st ρ G Q he rl h => sb σ H env st ρ G Q he rl h) he rl (ok_map h) fun ρ G st H x y u v r1 q1 q2 o => hF ρ G st H x y u v _ _ r1 q1 q2 o
/-- a op b op c -/
def mChn (F F' : Val → Val → Sto → Out Bool) (ma mb mc : ME) : MT := fun env st => (ma env st).bind fun x st1 => (mb env st1).bind fun y st2 => (F x y st2).bind fun k st3 => if k then (mc env st3).bind fun z st4 => F' y z st4 else .ok false st3
theorem outB_ok {ρ : List Addr} {G H : Hp} {st : Sto} {o : Option Bool} {E : XK} {Q : Bool → Hp → Prop} (r : Rel X.K X.mg ρ G st H) (h : Ok X.K X.mg RB ρ G H E (outB o st) Q) : ∃ b, o = some b ∧ Q b H := by
  cases o with
  | some b => exact ⟨b, rfl, h ρ G H b .refl r rfl⟩
  | none => exact h.elim
theorem ok_not {ρ : List Addr} {G H : Hp} {o : Out Bool} {E : XK} {Q : Bool → Hp → Prop} (h : Ok X.K X.mg RB ρ G H E (o.map not) Q) : Ok X.K X.mg RB ρ G H E o (fun b H => Q (!b) H) := by
  cases o with
  | ok b st => exact fun ρ' G' H' b' e r q => by cases q; exact h ρ' G' H' _ e r rfl
  | exc x st => exact h
  | bad => exact h
theorem dpb_int {H : Hp} {i : Int} {u : V} (h : Dp X.K H u (.int i)) : u = .int i := by cases h; rfl
theorem dpb_str {H : Hp} {i : Str} {u : V} (h : Dp X.K H u (.str i)) : u = .str i := by cases h; rfl
theorem dpb_bool {H : Hp} {i : Bool} {u : V} (h : Dp X.K H u (.bool i)) : u = .bl i := by cases h; rfl
theorem dpb_none {H : Hp} {u : V} (h : Dp X.K H u .none) : u = .non := by cases h; rfl
theorem eqD_case {H : Hp} {d e : PyData} {u v : V} {b : Bool} (hd : Dp X.K H u d) (he : Dp X.K H v e) (h : eqD d e = some b) : (scal u v = true ∧ b = decide (u = v)) ∨ (SeqAt.shaped d = true ∧ SeqAt.shaped e = true ∧ b = PyData.eqv d e) := by
  unfold eqD at h
  split at h
  all_goals first
    | (rename_i x y; rw [dpb_int hd, dpb_int he]; cases h; exact .inl ⟨rfl, (dec_int).symm⟩)
    | (rename_i x y; rw [dpb_str hd, dpb_str he]; cases h; exact .inl ⟨rfl, (dec_str).symm⟩)
    | (rename_i x y; rw [dpb_bool hd, dpb_bool he]; cases h; exact .inl ⟨rfl, (dec_bl).symm⟩)
    | (rw [dpb_int hd, dpb_str he]; cases h; exact .inl ⟨rfl, by simp⟩)
    | (rw [dpb_str hd, dpb_int he]; cases h; exact .inl ⟨rfl, by simp⟩)
    | (rw [dpb_none hd, dpb_none he]; cases h; exact .inl ⟨rfl, by simp⟩)
    | (rw [dpb_none hd, dpb_int he]; cases h; exact .inl ⟨rfl, by simp⟩)
    | (rw [dpb_none hd, dpb_str he]; cases h; exact .inl ⟨rfl, by simp⟩)
    | (rw [dpb_none hd, dpb_bool he]; cases h; exact .inl ⟨rfl, by simp⟩)
    | (rw [dpb_int hd, dpb_none he]; cases h; exact .inl ⟨rfl, by simp⟩)
    | (rw [dpb_str hd, dpb_none he]; cases h; exact .inl ⟨rfl, by simp⟩)
    | (rw [dpb_bool hd, dpb_none he]; cases h; exact .inl ⟨rfl, by simp⟩)
    | (split at h
       · rename_i hs
         rw [Bool.and_eq_true] at hs
         cases h; exact .inr ⟨hs.1, hs.2, rfl⟩
       · cases h)
theorem cm_eq (hu : Room k X.A) : Cm2 X .Eq eqF := by
  refine ⟨_, OpR.or op_eq (op_eqD hu.units), fun ρ G st H x y u v E Q r qx qy h => ?_⟩
  unfold eqF at h
  split at h
  · rename_i d e e1 e2
    obtain ⟨b, hb, q⟩ := outB_ok r h
    have h1 := asD_ok r e1 qx
    have h2 := asD_ok r e2 qy
    rcases eqD_case h1 h2 hb with ⟨s1, rfl⟩ | ⟨s1, s2, rfl⟩
    · exact .inl ⟨s1, q⟩
    · exact .inr ⟨d, e, h1, h2, s1, s2, q⟩
  · exact h.elim
theorem cm_ne (hu : Room k X.A) : Cm2 X .NotEq neF := by
  refine ⟨_, OpR.or op_ne (op_neD hu.units), fun ρ G st H x y u v E Q r qx qy h => ?_⟩
  have h := ok_not h
  unfold eqF at h
  split at h
  · rename_i d e e1 e2
    obtain ⟨b, hb, q⟩ := outB_ok r h
    have h1 := asD_ok r e1 qx
    have h2 := asD_ok r e2 qy
    rcases eqD_case h1 h2 hb with ⟨s1, rfl⟩ | ⟨s1, s2, rfl⟩
    · exact .inl ⟨s1, q⟩
    · exact .inr ⟨d, e, h1, h2, s1, s2, q⟩
  · exact h.elim
theorem cm_int {op : CmpOp} {f : Int → Int → Bool} (ho : OpR X (compareOp op) (rI0 fun i j => .bl (f i j))) : Cm2 X op (cmpI f) := by
  refine ⟨_, ho, fun ρ G st H x y u v E Q r qx qy h => ?_⟩
  unfold cmpI at h
  split at h
  · rw [rv_int qx, rv_int qy]; exact ⟨_, _, rfl, rfl, h ρ G H _ .refl r rfl⟩
  · exact h.elim
theorem cm_lt : Cm2 X .Lt ltF := cm_int op_lt
theorem cm_le : Cm2 X .LtE leF := cm_int op_le
theorem cm_gt : Cm2 X .Gt gtF := cm_int op_gt
theorem cm_ge : Cm2 X .GtE geF := cm_int op_ge
theorem isN_case {ρ : List Addr} {G H : Hp} {st : Sto} {x y : Val} {u v : V} {E : XK} {Q : Bool → Hp → Prop} (r : Rel X.K X.mg ρ G st H) (qx : RV X.K X.mg ρ G x u) (qy : RV X.K X.mg ρ G y v) (h : Ok X.K X.mg RB ρ G H E (isNF x y st) Q) : v = .non ∧ Q (decide (u = .non)) H := by
  unfold isNF at h
  split at h
  · rename_i a
    refine ⟨rv_non qy, ?_⟩
    have e : noneB a = decide (u = .non) := by
      have := rv_dat qx
      cases this <;> simp [noneB]
    rw [← e]
    exact h ρ G H _ .refl r rfl
  · refine ⟨rv_non qy, ?_⟩
    obtain ⟨b, rfl, _⟩ := rv_cell qx
    have e : decide (V.ref b = .non) = false := by simp
    rw [e]
    exact h ρ G H _ .refl r rfl
  · exact h.elim
theorem cm_isN : Cm2 X .Is isNF := by
  refine ⟨_, op_isN, fun ρ G st H x y u v E Q r qx qy h => ?_⟩
  exact isN_case r qx qy h
theorem cm_isNn : Cm2 X .IsNot isNnF := by
  refine ⟨_, op_notN, fun ρ G st H x y u v E Q r qx qy h => ?_⟩
  exact isN_case r qx qy (ok_not h)
theorem op_inT (hu : X.A.units + 65 < cLine) : OpR X (compareOp .In) (fun x y H Q => ∃ d ds, Dp X.K H x d ∧ Dp X.K H y (.tuple ds) ∧ SeqAt.shaped d = true ∧ SeqAt.shaped (.tuple ds) = true ∧ Q (.bl (ds.any fun z => PyData.eqv z d)) H) := by
  intro pins s σ H x y v u Q I rx ry h
  obtain ⟨d, ds, hd, he, sd, se, q⟩ := h
  obtain ⟨as, r1⟩ := Dp.reads I d x v hd rx
  obtain ⟨bs, r2⟩ := Dp.reads I (.tuple ds) y u he ry
  exact SeqAt.in_tuple_reads r2 r1 (by have := SeqAt.canLay_of_shaped se; simpa [PyData.canLay0] using this) (SeqAt.canLay_of_shaped sd) (room_in_shaped sd hu) ⟨.bl _, H, I, rfl, q⟩
theorem op_ninT (hu : X.A.units + 65 < cLine) : OpR X (compareOp .NotIn) (fun x y H Q => ∃ d ds, Dp X.K H x d ∧ Dp X.K H y (.tuple ds) ∧ SeqAt.shaped d = true ∧ SeqAt.shaped (.tuple ds) = true ∧ Q (.bl (!ds.any fun z => PyData.eqv z d)) H) := by
  intro pins s σ H x y v u Q I rx ry h
  obtain ⟨d, ds, hd, he, sd, se, q⟩ := h
  obtain ⟨as, r1⟩ := Dp.reads I d x v hd rx
  obtain ⟨bs, r2⟩ := Dp.reads I (.tuple ds) y u he ry
  exact SeqAt.notIn_tuple_reads r2 r1 (by have := SeqAt.canLay_of_shaped se; simpa [PyData.canLay0] using this) (SeqAt.canLay_of_shaped sd) (room_in_shaped sd hu) ⟨.bl _, H, I, rfl, q⟩
theorem room65 (hu : Room k X.A) : X.A.units + 65 < cLine := by have := hu.un; omega
theorem in_case {H : Hp} {d e : PyData} {u v : V} {b : Bool} (hd : Dp X.K H u d) (he : Dp X.K H v e) (h : inD d e = some b) :
    (∃ i j, u = .str i ∧ v = .str j ∧ b = !(Builtin.Str.occurrences j i 0 j.length 1).isEmpty) ∨ (∃ ds, e = .list ds ∧ SeqAt.shaped d = true ∧ SeqAt.shaped (.list ds) = true ∧ b = ds.any fun z => PyData.eqv z d) ∨
    (∃ ds, e = .tuple ds ∧ SeqAt.shaped d = true ∧ SeqAt.shaped (.tuple ds) = true ∧ b = ds.any fun z => PyData.eqv z d) := by
  unfold inD at h
  split at h
  · split at h
    · cases h; exact .inl ⟨_, _, dpb_str hd, dpb_str he, rfl⟩
    · cases h
  · split at h
    · rename_i hs
      rw [Bool.and_eq_true] at hs
      cases h; exact .inr (.inl ⟨_, rfl, hs.1, hs.2, rfl⟩)
    · cases h
  · split at h
    · rename_i hs
      rw [Bool.and_eq_true] at hs
      cases h; exact .inr (.inr ⟨_, rfl, hs.1, hs.2, rfl⟩)
    · cases h
  · cases h
theorem cm_in (hu : Room k X.A) : Cm2 X .In inF := by
  refine ⟨_, OpR.or op_in_str (OpR.or (op_inD (room65 hu)) (op_inT (room65 hu))), fun ρ G st H x y u v E Q r qx qy h => ?_⟩
  unfold inF at h
  split at h
  · rename_i d e e1 e2
    obtain ⟨b, hb, q⟩ := outB_ok r h
    have h1 := asD_ok r e1 qx
    have h2 := asD_ok r e2 qy
    rcases in_case h1 h2 hb with ⟨i, j, s1, s2, rfl⟩ | ⟨ds, rfl, s1, s2, rfl⟩ | ⟨ds, rfl, s1, s2, rfl⟩
    · exact .inl ⟨i, j, s1, s2, q⟩
    · exact .inr (.inl ⟨d, ds, h1, h2, s1, s2, q⟩)
    · exact .inr (.inr ⟨d, ds, h1, h2, s1, s2, q⟩)
  · exact h.elim
theorem cm_nin (hu : Room k X.A) : Cm2 X .NotIn ninF := by
  refine ⟨_, OpR.or op_notin_str (OpR.or (op_notInD (room65 hu)) (op_ninT (room65 hu))), fun ρ G st H x y u v E Q r qx qy h => ?_⟩
  have h := ok_not h
  unfold inF at h
  split at h
  · rename_i d e e1 e2
    obtain ⟨b, hb, q⟩ := outB_ok r h
    have h1 := asD_ok r e1 qx
    have h2 := asD_ok r e2 qy
    rcases in_case h1 h2 hb with ⟨i, j, s1, s2, rfl⟩ | ⟨ds, rfl, s1, s2, rfl⟩ | ⟨ds, rfl, s1, s2, rfl⟩
    · exact .inl ⟨i, j, s1, s2, q⟩
    · exact .inr (.inl ⟨d, ds, h1, h2, s1, s2, q⟩)
    · exact .inr (.inr ⟨d, ds, h1, h2, s1, s2, q⟩)
  · exact h.elim
end
end Z

namespace Z
open PySem PySem.Spec PyProof.Rows L2
/-! ### truth -/
def truF (x : Val) (st : Sto) : Out Bool := match x with
  | .d .none => .ok false st
  | .d (.bool b) => .ok b st
  | .d (.int i) => .ok (i != 0) st
  | .d (.str s) => if s.length ≤ LINE then .ok ((s.length : Int) != 0) st else .bad
  | x => match seqR st x with
    | some xs => .ok (!xs.isEmpty) st
    | none => match seqT x with
      | some xs => .ok (!xs.isEmpty) st
      | none => .bad
section
variable {K : PySem.W.Frag} {mg : Str → Option Value} {ρ : List Addr} {G H : Hp} {st : Sto} {x : Val} {u v : V} {xs : List Val} {vs : List V} {p : Addr} {E : XK} {Q : VK}
theorem emp_of (c : RVs K mg ρ G xs vs) : (!xs.isEmpty) = !vs.isEmpty := by cases c <;> rfl
theorem truF_ok {Q : Bool → Hp → Prop} (r : Rel K mg ρ G st H) (q : RV K mg ρ G x u) (h : Ok K mg RB ρ G H E (truF x st) Q) : ∃ k, TruV K u H k ∧ Q k H := by
  unfold truF at h
  split at h
  · rw [rv_non q]; exact ⟨false, rfl, h ρ G H _ .refl r rfl⟩
  · rw [rv_bl q]; exact ⟨_, rfl, h ρ G H _ .refl r rfl⟩
  · rw [rv_int q]; exact ⟨_, rfl, h ρ G H _ .refl r rfl⟩
  · split at h
    · rw [rv_str q]; exact ⟨_, ⟨by rw [line_eq]; assumption, rfl⟩, h ρ G H _ .refl r rfl⟩
    · exact h.elim
  · split at h
    · rename_i xs e
      obtain ⟨a, vs, rfl, t, c⟩ := seqR_ok r e q
      exact ⟨_, .inl ⟨vs, t, emp_of c⟩, h ρ G H _ .refl r rfl⟩
    · split at h
      · rename_i xs e
        obtain ⟨a, vs, rfl, t, c, _⟩ := seqT_ok r e q
        exact ⟨_, .inr (.inl ⟨vs, t, emp_of c⟩), h ρ G H _ .refl r rfl⟩
      · exact h.elim
end
section
variable {X : Cx} {W : WX} {N : List Str} {sc : Scp} {k : Nat} {e a b c : Expr} {es : List Expr} {m ma mb mc : ME} {pos : Pos} {na nb : MT}
def mTru (m : ME) : MT := fun env st => (m env st).bind truF
theorem st_tru (ha : SE X W a ma) (he : ∀ whole, isTrue a X.env whole = (do let v ← whole; standAt a.pos; holding [v] (truthy v)) := by intro _; rfl) : ST X W a (mTru ma) := by
  obtain ⟨ta, pa, sa⟩ := ha
  refine ⟨_, pt_truth pa he, fun σ H env st ρ G Q he rl h => ?_⟩
  exact sa σ H env st ρ G _ he rl ((Ok.bind (R := RV X.K X.mg) h).imp fun u H1 ⟨x, ρ1, G1, st1, e1, r1, q1, o1⟩ => truF_ok r1 q1 o1)
def mNot (m : MT) : MT := fun env st => (m env st).map not
theorem st_not (ha : ST X W a na) : ST X W (.UnaryOp .Not a pos) (mNot na) := by
  obtain ⟨ta, pa, sa⟩ := ha
  exact ⟨_, pt_not pa, fun σ H env st ρ G Q he rl h => sa σ H env st ρ G _ he rl (ok_not h)⟩
/-- not e as a value -/
theorem se_not (ha : SE X W a ma) : SE X W (.UnaryOp .Not a pos) (mBv (mNot (mTru ma))) := by
  obtain ⟨ta, pa, sa⟩ := ha
  refine ⟨_, pe_notT pa, fun σ H env st ρ G Q he rl h => ?_⟩
  have h2 := ok_not (ok_map h)
  refine sa σ H env st ρ G _ he rl ((Ok.bind (R := RV X.K X.mg) h2).imp fun u H1 ⟨x, ρ1, G1, st1, e1, r1, q1, o1⟩ => ?_)
  exact truF_ok r1 q1 o1
def mAnd (na nb : MT) : MT := fun env st => (na env st).bind fun k st1 => if k then nb env st1 else .ok false st1
def mOr (na nb : MT) : MT := fun env st => (na env st).bind fun k st1 => if k then .ok true st1 else nb env st1
variable {rest : List Expr}
theorem sw_and1 (ha : ST X W a na) : SW X W (.BoolOp .And [a] pos) na := let ⟨ta, pa, sa⟩ := ha; ⟨ta, pw_and1 pa, sa⟩
theorem sw_or1 (ha : ST X W a na) : SW X W (.BoolOp .Or [a] pos) na := let ⟨ta, pa, sa⟩ := ha; ⟨ta, pw_or1 pa, sa⟩
theorem sw_and (ha : ST X W a na) (hb : SW X W (.BoolOp .And (b :: rest) pos) nb) : SW X W (.BoolOp .And (a :: b :: rest) pos) (mAnd na nb) := by
  obtain ⟨ta, pa, sa⟩ := ha
  obtain ⟨tb, pb, sb⟩ := hb
  refine ⟨_, pw_and pa pb, fun σ H env st ρ G Q he rl h => ?_⟩
  refine sa σ H env st ρ G _ he rl ((Ok.bind (R := RB) h).imp fun u H1 ⟨x, ρ1, G1, st1, e1, r1, q1, o1⟩ => ?_)
  cases q1
  cases u with
  | true => exact sb σ H1 env st1 ρ1 G1 _ (he.ext e1) r1 (by simpa using o1)
  | false => exact Ok.ret (by simpa using o1) r1 rfl
theorem sw_or (ha : ST X W a na) (hb : SW X W (.BoolOp .Or (b :: rest) pos) nb) : SW X W (.BoolOp .Or (a :: b :: rest) pos) (mOr na nb) := by
  obtain ⟨ta, pa, sa⟩ := ha
  obtain ⟨tb, pb, sb⟩ := hb
  refine ⟨_, pw_or pa pb, fun σ H env st ρ G Q he rl h => ?_⟩
  refine sa σ H env st ρ G _ he rl ((Ok.bind (R := RB) h).imp fun u H1 ⟨x, ρ1, G1, st1, e1, r1, q1, o1⟩ => ?_)
  cases q1
  cases u with
  | true => exact Ok.ret (by simpa using o1) r1 rfl
  | false => exact sb σ H1 env st1 ρ1 G1 _ (he.ext e1) r1 (by simpa using o1)
theorem st_w (h : SW X W a na) : ST X W a na := let ⟨t, p, s⟩ := h; ⟨t, p.pt, s⟩
/-- a and b, a or b as values, by truth -/
def mAndV (ma mb : ME) : ME := fun env st => (ma env st).bind fun x st1 => (truF x st1).bind fun k st2 => if k then mb env st2 else .ok x st2
def mOrV (ma mb : ME) : ME := fun env st => (ma env st).bind fun x st1 => (truF x st1).bind fun k st2 => if k then .ok x st2 else mb env st2
theorem se_one {op} (ha : SE X W a ma) : SE X W (.BoolOp op [a] pos) ma := let ⟨ta, pa, sa⟩ := ha; ⟨ta, pe_one pa, sa⟩
theorem truF_same {x : Val} {st : Sto} {ρ : List Addr} {G H : Hp} {E : XK} {u : V} {α β : Type} {R : List Addr → Hp → α → β → Prop} {f : Bool → Sto → Out α} {Q : β → Hp → Prop} (r : Rel X.K X.mg ρ G st H) (q : RV X.K X.mg ρ G x u) (h : Ok X.K X.mg R ρ G H E ((truF x st).bind f) Q) : ∃ k, TruV X.K u H k ∧ truF x st = .ok k st := by
  have e : ∀ k st', truF x st = .ok k st' → st' = st := fun k st' e => by
    unfold truF at e
    (repeat' split at e) <;> first | (cases e; rfl) | cases e
  cases z : truF x st with
  | ok k st' =>
    cases e k st' z
    obtain ⟨k', t, q'⟩ := truF_ok (Q := fun b _ => b = k) (E := fun _ _ _ => False) r q (by rw [z]; exact fun ρ' G' H' b e r q => by cases q; rfl)
    subst q'
    exact ⟨_, t, rfl⟩
  | exc y st' =>
    unfold truF at z
    (repeat' split at z) <;> cases z
  | bad => rw [z] at h; exact h.elim
theorem se_and (ha : SE X W a ma) (hb : SE X W (.BoolOp .And (b :: rest) pos) mb) : SE X W (.BoolOp .And (a :: b :: rest) pos) (mAndV ma mb) := by
  obtain ⟨ta, pa, sa⟩ := ha
  obtain ⟨tb, pb, sb⟩ := hb
  refine ⟨_, pe_andT pa pb, fun σ H env st ρ G Q he rl h => ?_⟩
  refine sa σ H env st ρ G _ he rl ((Ok.bind (R := RV X.K X.mg) h).imp fun u H1 ⟨x, ρ1, G1, st1, e1, r1, q1, o1⟩ => ?_)
  obtain ⟨k, t, e⟩ := truF_same r1 q1 o1
  rw [e] at o1
  refine ⟨k, t, ?_⟩
  cases k with
  | true => exact sb σ H1 env st1 ρ1 G1 _ (he.ext e1) r1 (by simpa [Out.bind] using o1)
  | false => exact Ok.ret (by simpa [Out.bind] using o1) r1 q1
theorem se_or (ha : SE X W a ma) (hb : SE X W (.BoolOp .Or (b :: rest) pos) mb) : SE X W (.BoolOp .Or (a :: b :: rest) pos) (mOrV ma mb) := by
  obtain ⟨ta, pa, sa⟩ := ha
  obtain ⟨tb, pb, sb⟩ := hb
  refine ⟨_, pe_orT pa pb, fun σ H env st ρ G Q he rl h => ?_⟩
  refine sa σ H env st ρ G _ he rl ((Ok.bind (R := RV X.K X.mg) h).imp fun u H1 ⟨x, ρ1, G1, st1, e1, r1, q1, o1⟩ => ?_)
  obtain ⟨k, t, e⟩ := truF_same r1 q1 o1
  rw [e] at o1
  refine ⟨k, t, ?_⟩
  cases k with
  | true => exact Ok.ret (by simpa [Out.bind] using o1) r1 q1
  | false => exact sb σ H1 env st1 ρ1 G1 _ (he.ext e1) r1 (by simpa [Out.bind] using o1)
/-- a if t else b -/
def mIfE (nc : MT) (ma mb : ME) : ME := fun env st => (nc env st).bind fun k st1 => if k then ma env st1 else mb env st1
theorem se_ifE {nc : MT} (hc : ST X W c nc) (ha : SE X W a ma) (hb : SE X W b mb) : SE X W (.IfExp c a b pos) (mIfE nc ma mb) := by
  obtain ⟨tc, pc, sc'⟩ := hc
  obtain ⟨ta, pa, sa⟩ := ha
  obtain ⟨tb, pb, sb⟩ := hb
  refine ⟨_, pe_ifExp pc pa pb, fun σ H env st ρ G Q he rl h => ?_⟩
  refine sc' σ H env st ρ G _ he rl ((Ok.bind (R := RB) h).imp fun u H1 ⟨x, ρ1, G1, st1, e1, r1, q1, o1⟩ => ?_)
  cases q1
  cases u with
  | true => exact sa σ H1 env st1 ρ1 G1 _ (he.ext e1) r1 (by simpa using o1)
  | false => exact sb σ H1 env st1 ρ1 G1 _ (he.ext e1) r1 (by simpa using o1)
/-- a op b op c -/
theorem chn_core {F F' : Val → Val → Sto → Out Bool} {r r' : R2} {ta tb tc : TE} {σ : List (Option V)} {H : Hp} {env : Env} {st : Sto} {ρ : List Addr} {G : Hp} {E : XK} {Q : VK}
    (sa : ∀ (Q : VK), Ok X.K X.mg (RV X.K X.mg) ρ G H E (ma env st) Q → ta σ H Q)
    (sb : ∀ H st ρ G (Q : VK), ER X.K X.mg ρ G env σ → Rel X.K X.mg ρ G st H → Ok X.K X.mg (RV X.K X.mg) ρ G H E (mb env st) Q → tb σ H Q)
    (sc : ∀ H st ρ G (Q : VK), ER X.K X.mg ρ G env σ → Rel X.K X.mg ρ G st H → Ok X.K X.mg (RV X.K X.mg) ρ G H E (mc env st) Q → tc σ H Q)
    (hF : ∀ (ρ : List Addr) (G : Hp) (st : Sto) (H : Hp) (x y : Val) (u v : V) (E : XK) (Q : VK), Rel X.K X.mg ρ G st H → RV X.K X.mg ρ G x u → RV X.K X.mg ρ G y v → Ok X.K X.mg RB ρ G H E (F x y st) (fun b H => Q (.bl b) H) → r u v H Q)
    (hF' : ∀ (ρ : List Addr) (G : Hp) (st : Sto) (H : Hp) (x y : Val) (u v : V) (E : XK) (Q : VK), Rel X.K X.mg ρ G st H → RV X.K X.mg ρ G x u → RV X.K X.mg ρ G y v → Ok X.K X.mg RB ρ G H E (F' x y st) (fun b H => Q (.bl b) H) → r' u v H Q)
    (he : ER X.K X.mg ρ G env σ) (hr : Rel X.K X.mg ρ G st H) (h : Ok X.K X.mg RB ρ G H E (mChn F F' ma mb mc env st) (fun b H => Q (.bl b) H)) : tChain r r' ta tb tc σ H Q := by
  refine sa _ ((Ok.bind (R := RV X.K X.mg) h).imp fun u H1 ⟨x, ρ1, G1, st1, e1, r1, q1, o1⟩ => ?_)
  refine sb H1 st1 ρ1 G1 _ (he.ext e1) r1 ((Ok.bind (R := RV X.K X.mg) o1).imp fun v H2 ⟨y, ρ2, G2, st2, e2, r2, q2, o2⟩ => ?_)
  refine hF ρ2 G2 st2 H2 x y u v E _ r2 (e2.rv q1) q2 ((Ok.bind (R := RB) o2).imp fun kk H3 ⟨b, ρ3, G3, st3, e3, r3, q3, o3⟩ => ?_)
  cases q3
  refine ⟨kk, rfl, ?_⟩
  cases kk with
  | true =>
    have o3' : Ok X.K X.mg RB ρ3 G3 H3 E ((mc env st3).bind fun z st4 => F' y z st4) (fun b H => Q (.bl b) H) := by simpa using o3
    refine (sc H3 st3 ρ3 G3 _ ((he.ext e1).ext (e2.trans e3)) r3 ((Ok.bind (R := RV X.K X.mg) o3').imp fun w H4 ⟨z, ρ4, G4, st4, e4, r4, q4, o4⟩ => ?_))
    exact hF' ρ4 G4 st4 H4 y z v w E _ r4 ((e3.trans e4).rv q2) q4 o4
  | false =>
    exact Ok.ret (R := RB) (by simpa using o3) r3 rfl
theorem se_chn {op op' : CmpOp} {F F' : Val → Val → Sto → Out Bool} (ho : Cm2 X op F) (ho' : Cm2 X op' F') (ha : SE X W a ma) (hb : SE X W b mb) (hc : SE X W c mc) (hm : lastMarks [op, op'] [b, c] = false := by with_unfolding_all rfl) : SE X W (.Compare a [op, op'] [b, c] pos) (mBv (mChn F F' ma mb mc)) := by
  obtain ⟨r, hr, hF⟩ := ho
  obtain ⟨r', hr', hF'⟩ := ho'
  obtain ⟨ta, pa, sa⟩ := ha
  obtain ⟨tb, pb, sb⟩ := hb
  obtain ⟨tc, pc, sc'⟩ := hc
  refine ⟨_, pe_chain hr hr' pa pb pc hm, fun σ H env st ρ G Q he rl h => ?_⟩
  exact chn_core (fun Q h => sa σ H env st ρ G Q he rl h) (fun H st ρ G Q he rl h => sb σ H env st ρ G Q he rl h) (fun H st ρ G Q he rl h => sc' σ H env st ρ G Q he rl h) hF hF' he rl (ok_map h)
theorem st_chn {op op' : CmpOp} {F F' : Val → Val → Sto → Out Bool} (ho : Cm2 X op F) (ho' : Cm2 X op' F') (ha : SE X W a ma) (hb : SE X W b mb) (hc : SE X W c mc) (hm : lastMarks [op, op'] [b, c] = false := by with_unfolding_all rfl) : ST X W (.Compare a [op, op'] [b, c] pos) (mChn F F' ma mb mc) := by
  obtain ⟨r, hr, hF⟩ := ho
  obtain ⟨r', hr', hF'⟩ := ho'
  obtain ⟨ta, pa, sa⟩ := ha
  obtain ⟨tb, pb, sb⟩ := hb
  obtain ⟨tc, pc, sc'⟩ := hc
  refine ⟨_, pt_chain hr hr' pa pb pc hm, fun σ H env st ρ G Q he rl h => ?_⟩
  exact chn_core (Q := fun x H' => ∃ k, x = .bl k ∧ Q k H') (fun Q h => sa σ H env st ρ G Q he rl h) (fun H st ρ G Q he rl h => sb σ H env st ρ G Q he rl h) (fun H st ρ G Q he rl h => sc' σ H env st ρ G Q he rl h) hF hF' he rl (h.imp fun b H q => ⟨b, rfl, q⟩)

/-! ### arguments, displays -/
variable {mr : MA}
def mNil : MA := fun _ st => .ok [] st
def mCons (m : ME) (mr : MA) : MA := fun env st => (m env st).bind fun x st1 => (mr env st1).bind fun xs st2 => .ok (x :: xs) st2
theorem sa_nil : SA X W [] mNil := ⟨tNil, pa_nil, fun σ H env st ρ G Q he hr h => h ρ G H [] .refl hr .nil⟩
theorem sa_cons (he : SE X W e m) (hr : SA X W es mr) (hs : starEach (e :: es) X.env = (false, eval e X.env) :: starEach es X.env := by rfl) : SA X W (e :: es) (mCons m mr) := by
  obtain ⟨ta, pa, sa⟩ := he
  obtain ⟨tb, pb, sb⟩ := hr
  refine ⟨_, pa_cons pa pb hs, fun σ H env st ρ G Q he rl h => ?_⟩
  refine sa σ H env st ρ G _ he rl ((Ok.bind (R := RV X.K X.mg) h).imp fun u H1 ⟨x, ρ1, G1, st1, e1, r1, q1, o1⟩ => ?_)
  refine sb σ H1 env st1 ρ1 G1 _ (he.ext e1) r1 ((Ok.bind (R := RVs X.K X.mg) o1).imp fun v H2 ⟨y, ρ2, G2, st2, e2, r2, q2, o2⟩ => ?_)
  exact Ok.ret o2 r2 (.cons (e2.rv q1) q2)
/-- (a, b, ..), [a, b, ..] -/
def mTup (mr : MA) : ME := fun env st => (mr env st).bind fun xs st1 => if xs.length ≤ LINE then .ok (mkT xs) st1 else .bad
def mLst (cell : Bool) (mr : MA) : ME := fun env st => (mr env st).bind fun xs st1 => if xs.length ≤ LINE then lstR cell xs st1 else .bad
theorem se_tup {x1} (h : SA X W es mr) : SE X W (.Tuple es x1 pos) (mTup mr) := by
  obtain ⟨ta, pa, sa⟩ := h
  refine ⟨_, pe_tupN pa, fun σ H env st ρ G Q he rl h => ?_⟩
  refine sa σ H env st ρ G _ he rl ((Ok.bind (R := RVs X.K X.mg) h).imp fun u H1 ⟨x, ρ1, G1, st1, e1, r1, q1, o1⟩ => ?_)
  split at o1
  · exact ⟨by rw [← q1.len, line_eq]; assumption, mkT_ok r1 q1 o1⟩
  · exact o1.elim
theorem se_lst (cell : Bool) (h : SA X W es mr) : SE X W (.List es pos) (mLst cell mr) := by
  obtain ⟨ta, pa, sa⟩ := h
  refine ⟨_, pe_lst pa, fun σ H env st ρ G Q he rl h => ?_⟩
  refine sa σ H env st ρ G _ he rl ((Ok.bind (R := RVs X.K X.mg) h).imp fun u H1 ⟨x, ρ1, G1, st1, e1, r1, q1, o1⟩ => ?_)
  split at o1
  · exact ⟨by rw [← q1.len, line_eq]; assumption, fun p hp => lstR_ok r1 hp q1 o1⟩
  · exact o1.elim

/-! ### subscripts -/
def outV (o : Option Val) (st : Sto) : Out Val := match o with
  | some x => .ok x st
  | none => .bad
def ixF : Val → Val → Sto → Out Val := fun x y st => match y with
  | .d (.int i) => match seqR st x with
    | some xs => outV (atI xs i) st
    | none => match seqT x with
      | some xs => outV (atI xs i) st
      | none => match x with
        | .d (.str s) => if s.length ≤ LINE then (match atI s.cps.toList i with
          | some c => .ok (.d (.str ⟨#[c]⟩)) st
          | none => .bad) else .bad
        | _ => .bad
  | _ => .bad
theorem atI_rv {ρ : List Addr} {G : Hp} {xs : List Val} {vs : List V} {i : Int} {x : Val} (c : RVs X.K X.mg ρ G xs vs) (h : atI xs i = some x) : ∃ v, atI vs i = some v ∧ RV X.K X.mg ρ G x v := by
  unfold atI at h ⊢
  rw [← c.len]
  cases z : ixN xs.length i with
  | none => rw [z] at h; cases h
  | some j => rw [z] at h; exact c.get (i := j) h
theorem ix_rel {ρ : List Addr} {G H : Hp} {st : Sto} {x y : Val} {u v : V} {E : XK} {Q : VK} (r : Rel X.K X.mg ρ G st H) (qx : RV X.K X.mg ρ G x u) (qy : RV X.K X.mg ρ G y v) (h : Ok X.K X.mg (RV X.K X.mg) ρ G H E (ixF x y st) Q) : rIx X.K u v H Q := by
  unfold ixF at h
  split at h
  · rename_i i
    rw [rv_int qy]
    split at h
    · rename_i xs e
      obtain ⟨a, vs, rfl, t, c⟩ := seqR_ok r e qx
      cases z : atI xs i with
      | none => rw [z] at h; exact h.elim
      | some w =>
        rw [z] at h
        obtain ⟨w', h1, h2⟩ := atI_rv c z
        exact .inl ⟨a, vs, i, w', rfl, rfl, t, h1, Ok.ret h r h2⟩
    · split at h
      · rename_i xs e
        obtain ⟨a, vs, rfl, t, c, _⟩ := seqT_ok r e qx
        cases z : atI xs i with
        | none => rw [z] at h; exact h.elim
        | some w =>
          rw [z] at h
          obtain ⟨w', h1, h2⟩ := atI_rv c z
          exact .inr (.inl ⟨a, vs, i, w', rfl, rfl, t, h1, Ok.ret h r h2⟩)
      · split at h
        · rename_i s
          split at h
          · rename_i hl
            split at h
            · rename_i c z
              rw [rv_str qx]
              exact .inr (.inr ⟨_, i, c, rfl, rfl, by rw [line_eq]; exact hl, z, ok_ret r (.str _) h⟩)
            · exact h.elim
          · exact h.elim
        · exact h.elim
  · exact h.elim
def mIx (ma mb : ME) : ME := mBin ixF ma mb
theorem se_ix (ha : SE X W a ma) (hb : SE X W b mb) (hs : PlainIx b := by exact fun _ _ => rfl) : SE X W (.Subscript a b pos) (mIx ma mb) := by
  obtain ⟨ta, pa, sa⟩ := ha
  obtain ⟨tb, pb, sb⟩ := hb
  exact ⟨_, pe_ix ix_seq pa pb hs, fun σ H env st ρ G Q he rl h => two (fun Q h => sa σ H env st ρ G Q he rl h) (fun H st ρ G Q he rl h => sb σ H env st ρ G Q he rl h) he rl h fun ρ G st H x y u v r1 q1 q2 o => ix_rel r1 q1 q2 o⟩

/-! ### slices -/
abbrev MO := Env → Sto → Out (Option Int)
def RO : List Addr → Hp → Option Int → Option Int → Prop := fun _ _ a b => a = b
def SO (X : Cx) (W : WX) (e : Option Expr) (m : MO) : Prop := ∃ t, PO X e t ∧ ∀ (σ : List (Option V)) H env st ρ G Q, ER X.K X.mg ρ G env σ → Rel X.K X.mg ρ G st H → Ok X.K X.mg RO ρ G H (fun c d H => W c d σ H) (m env st) Q → t σ H Q
def mONone : MO := fun _ st => .ok none st
def mOSome (m : ME) : MO := fun env st => (m env st).bind fun x st1 => match x with
  | .d (.int i) => .ok (some i) st1
  | _ => .bad
theorem so_none : SO X W none mONone := ⟨_, po_none, fun σ H env st ρ G Q he hr h => h ρ G H _ .refl hr rfl⟩
theorem so_some (ha : SE X W a ma) : SO X W (some a) (mOSome ma) := by
  obtain ⟨ta, pa, sa⟩ := ha
  refine ⟨_, po_some pa, fun σ H env st ρ G Q he rl h => ?_⟩
  refine sa σ H env st ρ G _ he rl ((Ok.bind (R := RV X.K X.mg) h).imp fun u H1 ⟨x, ρ1, G1, st1, e1, r1, q1, o1⟩ => ?_)
  split at o1
  · rw [rv_int q1]; exact ⟨_, rfl, Ok.ret o1 r1 rfl⟩
  · exact o1.elim
def cutL {α : Type} (xs : List α) (lo hi : Option Int) : List α := (xs.drop (HT.sIx xs.length 0 lo)).take (HT.sIx xs.length xs.length hi - HT.sIx xs.length 0 lo)
theorem cutL_rv {ρ : List Addr} {G : Hp} {xs : List Val} {vs : List V} (lo hi : Option Int) (c : RVs X.K X.mg ρ G xs vs) : RVs X.K X.mg ρ G (cutL xs lo hi) (cutV vs lo hi) := by
  unfold cutL cutV
  rw [c.len]
  exact (c.drop _).take _
def slF (cell : Bool) (x : Val) (lo hi : Option Int) (st : Sto) : Out Val := match x with
  | .d (.str s) => if s.length ≤ LINE then .ok (.d (.str (cutS s lo hi))) st else .bad
  | .d (.tuple xs) => .ok (.d (.tuple (cutL xs lo hi))) st
  | x => match seqR st x with
    | some xs => lstR cell (cutL xs lo hi) st
    | none => .bad
theorem cutL_whole {α : Type} (xs : List α) (lo hi : Option Int) (h : HT.sIx xs.length 0 lo = 0 ∧ HT.sIx xs.length xs.length hi = xs.length) : cutL xs lo hi = xs := by
  unfold cutL
  rw [h.1, h.2]
  simp
theorem cutL_map {α β : Type} (f : α → β) (xs : List α) (lo hi : Option Int) : (cutL xs lo hi).map f = cutL (xs.map f) lo hi := by
  unfold cutL
  simp
def mSl (cell : Bool) (ma : ME) (ml mh : MO) : ME := fun env st => (ma env st).bind fun x st1 => (ml env st1).bind fun lo st2 => (mh env st2).bind fun hi st3 => slF cell x lo hi st3
theorem sl_rel {cell : Bool} {ρ : List Addr} {G H : Hp} {st : Sto} {x : Val} {u : V} {lo hi : Option Int} {E : XK} {Q : VK} (r : Rel X.K X.mg ρ G st H) (qx : RV X.K X.mg ρ G x u) (h : Ok X.K X.mg (RV X.K X.mg) ρ G H E (slF cell x lo hi st) Q) : rSlS u lo hi H Q ∨ rSlN X.K u lo hi H Q ∨ rSlL X.K u lo hi H Q := by
  unfold slF at h
  split at h
  · rename_i s
    split at h
    · rename_i hl
      rw [rv_str qx]
      exact .inl ⟨s, rfl, by rw [line_eq]; exact hl, ok_ret r (.str _) h⟩
    · exact h.elim
  · rename_i xs
    obtain ⟨a, vs, rfl, t, c, g⟩ := seqT_ok (x := .d (.tuple xs)) r rfl qx
    have l := c.len
    rw [List.length_map] at l
    refine .inr (.inl ⟨a, vs, rfl, t, fun e => ?_, fun ne => ?_⟩)
    · rw [← l] at e
      rw [cutL_whole xs lo hi e] at h
      exact ok_ret r (rv_dat qx) h
    · have e : (Val.d (.tuple (cutL xs lo hi))) = mkT ((cutL xs lo hi).map Val.d) := by unfold mkT; rw [datas_map]
      rw [e, cutL_map] at h
      exact mkT_ok r (cutL_rv lo hi c) h
  · split at h
    · rename_i xs e
      obtain ⟨a, vs, rfl, t, c⟩ := seqR_ok r e qx
      exact .inr (.inr ⟨a, vs, rfl, t, fun p hp => lstR_ok r hp (cutL_rv lo hi c) h⟩)
    · exact h.elim
theorem se_sl (cell : Bool) {lo hi : Option Expr} {ml mh : MO} {p2 : Pos} (ha : SE X W a ma) (hl : SO X W lo ml) (hh : SO X W hi mh) : SE X W (.Subscript a (.Slice lo hi none p2) pos) (mSl cell ma ml mh) := by
  obtain ⟨ta, pa, sa⟩ := ha
  obtain ⟨tl, pl, sl⟩ := hl
  obtain ⟨th, ph, sh⟩ := hh
  refine ⟨_, pe_slice (SlR.or sl_str (SlR.or sl_tupN sl_list)) pa pl ph, fun σ H env st ρ G Q he rl h => ?_⟩
  refine sa σ H env st ρ G _ he rl ((Ok.bind (R := RV X.K X.mg) h).imp fun u H1 ⟨x, ρ1, G1, st1, e1, r1, q1, o1⟩ => ?_)
  refine sl σ H1 env st1 ρ1 G1 _ (he.ext e1) r1 ((Ok.bind (R := RO) o1).imp fun l H2 ⟨l', ρ2, G2, st2, e2, r2, q2, o2⟩ => ?_)
  cases q2
  refine sh σ H2 env st2 ρ2 G2 _ (he.ext (e1.trans e2)) r2 ((Ok.bind (R := RO) o2).imp fun l H3 ⟨l', ρ3, G3, st3, e3, r3, q3, o3⟩ => ?_)
  cases q3
  exact sl_rel r3 ((e2.trans e3).rv q1) o3
end
end Z

namespace Z
open PySem PySem.Spec PyProof.Rows L2
section
variable {D : Wd} {X : Cx} {W : WX} {N : List Str} {sc : Scp} {k : Nat} {e a b c : Expr} {es : List Expr} {m ma mb mc : ME} {pos : Pos} {st : Stmt} {ss : List Stmt} {ns nt nu : MS} {nc : MT}
theorem OkS.ext {K : PySem.W.Frag} {mg : Str → Option Value} {ρ ρ' : List Addr} {G G' H H' : Hp} {o : Fl} {D : Ends} (e : Ext ρ G H ρ' G' H') (h : OkS W K mg ρ G H o D) : OkS W K mg ρ' G' H' o D := by
  cases o with
  | next env st => exact fun ρ2 G2 H2 σ' e2 => h ρ2 G2 H2 σ' (e.trans e2)
  | ret v st => exact fun ρ2 G2 H2 u e2 => h ρ2 G2 H2 u (e.trans e2)
  | brk env st => exact fun ρ2 G2 H2 σ' e2 => h ρ2 G2 H2 σ' (e.trans e2)
  | cont env st => exact fun ρ2 G2 H2 σ' e2 => h ρ2 G2 H2 σ' (e.trans e2)
  | exc x env st => exact fun ρ2 G2 H2 σ' c d e2 => h ρ2 G2 H2 σ' c d (e.trans e2)
  | bad => exact h
/-- an expression, then a statement's end -/
def Out.flo {α : Type} (o : Out α) (env : Env) (f : α → Sto → Fl) : Fl := match o with
  | .ok a st => f a st
  | .exc x st => .exc x env st
  | .bad => .bad
theorem Ok.flo {α β : Type} {R : List Addr → Hp → α → β → Prop} {ρ : List Addr} {G H : Hp} {o : Out α} {env : Env} {σ : List (Option V)} {f : α → Sto → Fl} {De : Ends} (he : ER X.K X.mg ρ G env σ) (h : OkS W X.K X.mg ρ G H (o.flo env f) De) :
    Ok X.K X.mg R ρ G H (fun c d H => W c d σ H) o (fun b H1 => ∃ a ρ1 G1 st1, Ext ρ G H ρ1 G1 H1 ∧ Rel X.K X.mg ρ1 G1 st1 H1 ∧ R ρ1 G1 a b ∧ OkS W X.K X.mg ρ1 G1 H1 (f a st1) De) := by
  cases o with
  | ok a st' => exact fun ρ2 G2 H2 b e r q => ⟨a, ρ2, G2, st', e, r, q, OkS.ext e h⟩
  | exc x st' => exact fun ρ2 G2 H2 c d e r q => h ρ2 G2 H2 σ c d e r (he.ext e) q
  | bad => exact h
def sNext : MS := fun env st => .next env st
def Fl.then (f : Fl) (n : MS) : Fl := match f with
  | .next env st => n env st
  | f => f
def sSeq (ns nt : MS) : MS := fun env st => (ns env st).then nt
theorem sb_nil : SB X W [] sNext := ⟨_, pss_nil, fun σ H env st ρ G De he hr h => h ρ G H σ .refl hr he⟩
theorem sb_one (h : SS X W st ns) : SB X W [st] ns := let ⟨t, p, s⟩ := h; ⟨t, pss_one p, s⟩
theorem sb_cons (h1 : SS X W st ns) (h2 : SB X W ss nt) : SB X W (st :: ss) (sSeq ns nt) := by
  obtain ⟨ta, pa, sa⟩ := h1
  obtain ⟨tb, pb, sb⟩ := h2
  refine ⟨_, pss_cons pa pb, fun σ H env st ρ G De he hr h => sa σ H env st ρ G _ he hr ?_⟩
  unfold sSeq at h
  cases z : ns env st with
  | next env1 st1 =>
    rw [z] at h
    exact fun ρ1 G1 H1 σ1 e1 r1 q1 => sb σ1 H1 env1 st1 ρ1 G1 De q1 r1 (OkS.ext e1 h)
  | ret v st1 => rw [z] at h; exact h
  | brk env1 st1 => rw [z] at h; exact h
  | cont env1 st1 => rw [z] at h; exact h
  | exc x env1 st1 => rw [z] at h; exact h
  | bad => rw [z] at h; exact h
/-- set slots to none -/
def killE : List Nat → Env → Env
  | [], env => env
  | i :: r, env => killE r (env.set i none)
theorem ER.kill {K : PySem.W.Frag} {mg : Str → Option Value} {ρ : List Addr} {G : Hp} {σ : List (Option V)} : ∀ {l : List Nat} {env : Env}, ER K mg ρ G env σ → ER K mg ρ G (killE l env) σ
  | [], _, h => h
  | i :: _, _, h => (h.wipe i).kill
/-- .. and some slots are forgotten behind it -/
def sKill (l : List Nat) (n : MS) : MS := fun env st => (n env st).then fun env st => .next (killE l env) st
theorem ss_kill (l : List Nat) (h : SS X W st ns) : SS X W st (sKill l ns) := by
  obtain ⟨t, p, s⟩ := h
  refine ⟨t, p, fun σ H env st ρ G De he hr h => s σ H env st ρ G De he hr ?_⟩
  unfold sKill at h
  cases z : ns env st with
  | next env1 st1 => rw [z] at h; exact fun ρ1 G1 H1 σ1 e1 r1 q1 => h ρ1 G1 H1 σ1 e1 r1 q1.kill
  | ret v st1 => rw [z] at h; exact h
  | brk env1 st1 => rw [z] at h; exact h
  | cont env1 st1 => rw [z] at h; exact h
  | exc x env1 st1 => rw [z] at h; exact h
  | bad => rw [z] at h; exact h
theorem ss_pass : SS X W (.Pass pos) sNext := ⟨_, ps_pass, fun σ H env st ρ G De he hr h => h ρ G H σ .refl hr he⟩
def sBreak : MS := fun env st => .brk env st
def sCont : MS := fun env st => .cont env st
theorem ss_break : SS X W (.Break pos) sBreak := ⟨_, ps_break, fun σ H env st ρ G De he hr h => h ρ G H σ .refl hr he⟩
theorem ss_cont : SS X W (.Continue pos) sCont := ⟨_, ps_continue, fun σ H env st ρ G De he hr h => h ρ G H σ .refl hr he⟩
def sDrop (m : ME) : MS := fun env st => (m env st).flo env fun _ st1 => .next env st1
theorem ss_expr (h : SE X W e m) (hs : swapsWith e none pos.line X.env = pure false := by rfl) : SS X W (.Expr e pos) (sDrop m) := by
  obtain ⟨t, p, s⟩ := h
  refine ⟨_, ps_expr p hs, fun σ H env st ρ G De he hr h => ?_⟩
  exact s σ H env st ρ G _ he hr ((Ok.flo (R := RV X.K X.mg) he h).imp fun u H1 ⟨x, ρ1, G1, st1, e1, r1, q1, o1⟩ => o1 ρ1 G1 H1 σ .refl r1 (he.ext e1))
def sRet (m : ME) : MS := fun env st => (m env st).flo env fun v st1 => .ret v st1
theorem ss_ret (h : SE X W e m) : SS X W (.Return (some e) pos) (sRet m) := by
  obtain ⟨t, p, s⟩ := h
  refine ⟨_, ps_ret p, fun σ H env st ρ G De he hr h => ?_⟩
  exact s σ H env st ρ G _ he hr ((Ok.flo (R := RV X.K X.mg) he h).imp fun u H1 ⟨x, ρ1, G1, st1, e1, r1, q1, o1⟩ => o1 ρ1 G1 H1 u .refl r1 q1)
def sRetN : MS := fun _ st => .ret (.d .none) st
theorem ss_retN : SS X W (.Return none pos) sRetN := ⟨_, ps_retN, fun σ H env st ρ G De he hr h => h ρ G H .non .refl hr (.d .non)⟩
def sIf (nc : MT) (ns nt : MS) : MS := fun env st => (nc env st).flo env fun k st1 => if k then ns env st1 else nt env st1
theorem ss_if {p q : List Stmt} (hc : ST X W c nc) (ha : SB X W p ns) (hb : SB X W q nt) : SS X W (.If c p q pos) (sIf nc ns nt) := by
  obtain ⟨tc, pc, sc'⟩ := hc
  obtain ⟨ta, pa, sa⟩ := ha
  obtain ⟨tb, pb, sb⟩ := hb
  refine ⟨_, ps_if pc pa pb, fun σ H env st ρ G De he hr h => ?_⟩
  refine sc' σ H env st ρ G _ he hr ((Ok.flo (R := RB) he h).imp fun u H1 ⟨x, ρ1, G1, st1, e1, r1, q1, o1⟩ => ?_)
  cases q1
  cases u with
  | true => exact sa σ H1 env st1 ρ1 G1 De (he.ext e1) r1 (by simpa using o1)
  | false => exact sb σ H1 env st1 ρ1 G1 De (he.ext e1) r1 (by simpa using o1)
/-! ### targets -/
abbrev MTg := Val → Env → Option Env
abbrev MTgs := List Val → Env → Option Env
/-- sl: the slots that it sets -/
def SG (X : Cx) (W : WX) (tg : Expr) (sl : List Nat) (g : MTg) : Prop := ∃ t : TG, PG X tg t ∧ ∀ (σ : List (Option V)) (H : Hp) (env env' : Env) (st : Sto) (ρ : List Addr) (G : Hp) (v : Val) (u : V) (Q : List (Option V) → Hp → Prop), ER X.K X.mg ρ G env σ → Rel X.K X.mg ρ G st H → RV X.K X.mg ρ G v u → g v env = some env' →
  (∀ σ', ER X.K X.mg ρ G env' σ' → (∀ vs : List Nat, (∀ i ∈ sl, i ∈ vs) → wipe σ' vs = wipe σ vs) → Q σ' H) → t u σ H Q
def SGs (X : Cx) (W : WX) (tgs : List Expr) (sl : List Nat) (g : MTgs) : Prop := ∃ t : TGs, PGs X tgs t ∧ ∀ (σ : List (Option V)) (H : Hp) (env env' : Env) (st : Sto) (ρ : List Addr) (G : Hp) (v : List Val) (u : List V) (Q : List (Option V) → Hp → Prop), ER X.K X.mg ρ G env σ → Rel X.K X.mg ρ G st H → RVs X.K X.mg ρ G v u → g v env = some env' →
  (∀ σ', ER X.K X.mg ρ G env' σ' → (∀ vs : List Nat, (∀ i ∈ sl, i ∈ vs) → wipe σ' vs = wipe σ vs) → Q σ' H) → t u σ H Q
def gN (i : Nat) : MTg := fun v env => some (env.set i (some v))
theorem wipe_none (σ : List (Option V)) : ∀ {vs : List Nat} {i : Nat}, i ∈ vs → ∀ x, wipe (σ.set i x) vs = wipe σ vs
  | [], _, h, _ => by simp at h
  | v :: vs, i, h, x => by
    unfold wipe
    by_cases hi : i ∈ vs
    · rw [wipe_none σ hi x]
    · have e : i = v := by simpa [hi] using h
      subst e
      have : ∀ vs : List Nat, i ∉ vs → wipe (σ.set i x) vs = (wipe σ vs).set i x := fun vs => by
        induction vs with
        | nil => exact fun _ => rfl
        | cons w vs ih =>
          intro hn
          simp only [List.mem_cons, not_or] at hn
          unfold wipe
          rw [ih hn.2, List.set_comm _ _ hn.1]
      rw [this vs hi, List.set_set]
def locB (sc : Scp) (x : Str) : Bool := match sc.sc.names.lookup x with
  | some .local => true
  | some .cell => sc.fo x
  | _ => false
theorem Gd.loc (g : Gd D X W N sc k) {x : Str} (h : locB sc x = true) : Loc X.env.scope x ∧ (X.fn x = true ∨ X.env.scope.names.lookup x = some .local) := by
  unfold locB at h
  rw [g.hsc]
  split at h
  · rename_i z; exact ⟨.inl z, .inr z⟩
  · rename_i z; exact ⟨.inr z, .inl (g.fnc x h)⟩
  · cases h
theorem sg_name (g : Gd D X W N sc k) (i : Nat) {x : Str} (hi : N[i]? = some x) (hx : locB sc x = true) : SG X W (.Name x pos) [i] (gN i) := by
  refine ⟨_, pg_name (by rw [g.hN]; exact g.nd) (by rw [g.hN]; exact hi) (g.loc hx).1 (g.loc hx).2, fun σ H env env' st ρ G v u Q he hr q e h => ?_⟩
  cases e
  exact h _ (he.set i q) fun vs hv => wipe_none σ (hv i (by simp)) _
def gsNil : MTgs := fun vs env => match vs with
  | [] => some env
  | _ => none
def gsCons (g : MTg) (gs : MTgs) : MTgs := fun vs env => match vs with
  | [] => none
  | v :: r => (g v env).bind (gs r)
theorem sgs_nil : SGs X W [] [] gsNil := by
  refine ⟨_, pgs_nil, fun σ H env env' st ρ G v u Q he hr q e h => ?_⟩
  cases q with
  | nil => cases e; exact ⟨rfl, h σ he fun vs _ => rfl⟩
  | cons _ _ => cases e
theorem sgs_cons {g : MTg} {gs : MTgs} {s1 s2 : List Nat} (h1 : SG X W e s1 g) (h2 : SGs X W es s2 gs) (hs : (assignEach (e :: es) X.env).map (·.2) = assign e X.env :: (assignEach es X.env).map (·.2) := by rfl) : SGs X W (e :: es) (s1 ++ s2) (gsCons g gs) := by
  obtain ⟨ta, pa, sa⟩ := h1
  obtain ⟨tb, pb, sb⟩ := h2
  refine ⟨_, pgs_cons pa pb hs, fun σ H env env' st ρ G v u Q he hr q ee h => ?_⟩
  cases q with
  | nil => cases ee
  | cons q1 q2 =>
    rename_i x u1 xs us
    obtain ⟨env1, z1, z2⟩ := Option.bind_eq_some_iff.mp (show (g x env).bind (gs xs) = some env' from ee)
    refine ⟨_, _, rfl, sa σ H env env1 st ρ G x u1 _ he hr q1 z1 fun σ1 he1 w1 => ?_⟩
    refine sb σ1 H env1 env' st ρ G xs us _ he1 hr q2 z2 fun σ2 he2 w2 => ?_
    exact h σ2 he2 fun vs hv => (w2 vs fun i hi => hv i (List.mem_append_right _ hi)).trans (w1 vs fun i hi => hv i (List.mem_append_left _ hi))
/-- a, b = .. -/
def gT (n : Nat) (gs : MTgs) : MTg := fun v env => match seqT v with
  | some xs => if xs.length = n then gs xs env else none
  | none => none
theorem sg_tup {gs : MTgs} {s1 : List Nat} {kk n : Nat} (g : Gd D X W N sc k) (h : SGs X W es s1 gs) (hn : (assignEach es X.env).length = n := by rfl) (hst : (assignEach es X.env).findIdx? (·.1) = none := by rfl) : SG X W (.Tuple es kk pos) s1 (gT n gs) := by
  obtain ⟨ta, pa, sa⟩ := h
  refine ⟨_, pg_tup g.calm pa hn hst, fun σ H env env' st ρ G v u Q he hr q ee h => ?_⟩
  unfold gT at ee
  split at ee
  · rename_i xs z
    split at ee
    · rename_i hl
      obtain ⟨p, us, rfl, t, c, _⟩ := seqT_ok hr z q
      exact ⟨p, us, rfl, t, by rw [← c.len]; exact hl, sa σ H env env' st ρ G xs us Q he hr c ee h⟩
    · cases ee
  · cases ee
def outF (o : Option Env) (st : Sto) : Fl := match o with
  | some env => .next env st
  | none => .bad
def sAsg (m : ME) (g : MTg) : MS := fun env st => (m env st).flo env fun v st1 => outF (g v env) st1
theorem ss_asg {tg : Expr} {g : MTg} {sl : List Nat} (h : SE X W e m) (hg : SG X W tg sl g) (hs : swapsWithSole [tg] e pos.line X.env = pure false := by rfl) (hw : swappedStores [tg] e X.env = pure none := by rfl) (h1 : (assignEach [tg] X.env).map (·.2) = [assign tg X.env] := by rfl) : SS X W (.Assign [tg] e pos) (sAsg m g) := by
  obtain ⟨t, p, s⟩ := h
  obtain ⟨ta, pa, sa⟩ := hg
  refine ⟨_, ps_asg p pa hs hw h1, fun σ H env st ρ G De he hr h => ?_⟩
  refine s σ H env st ρ G _ he hr ((Ok.flo (R := RV X.K X.mg) he h).imp fun u H1 ⟨x, ρ1, G1, st1, e1, r1, q1, o1⟩ => ?_)
  unfold outF at o1
  split at o1
  · rename_i env1 z
    exact sa σ H1 env env1 st1 ρ1 G1 x u _ (he.ext e1) r1 q1 z fun σ' he' _ => o1 ρ1 G1 H1 σ' .refl r1 he'
  · exact o1.elim
/-- x = e -/
def sSet (i : Nat) (m : ME) : MS := fun env st => (m env st).flo env fun v st1 => .next (env.set i (some v)) st1
theorem ss_set (g : Gd D X W N sc k) (i : Nat) {x : Str} {pos' : Pos} (hi : N[i]? = some x) (hx : locB sc x = true) (h : SE X W e m) (hs : swapsWith e (some (.Name x pos')) pos.line X.env = pure false := by rfl) : SS X W (.Assign [.Name x pos'] e pos) (sSet i m) := by
  obtain ⟨t, p, s⟩ := h
  refine ⟨_, ps_set (by rw [g.hN]; exact g.nd) (by rw [g.hN]; exact hi) (g.loc hx).1 p hs (g.loc hx).2, fun σ H env st ρ G De he hr h => ?_⟩
  refine s σ H env st ρ G _ he hr ((Ok.flo (R := RV X.K X.mg) he h).imp fun u H1 ⟨x, ρ1, G1, st1, e1, r1, q1, o1⟩ => ?_)
  exact o1 ρ1 G1 H1 _ .refl r1 ((he.ext e1).set i q1)
/-- x op= e -/
def Ip2 (X : Cx) (op : Operator) (F : Val → Val → Sto → Out Val) : Prop :=
  ∃ r : TIp, PIp X op r ∧ ∀ (ρ : List Addr) (G : Hp) (st : Sto) (H : Hp) (x y : Val) (u v : V) (E : XK) (Q : VK), Rel X.K X.mg ρ G st H → RV X.K X.mg ρ G x u → RV X.K X.mg ρ G y v → Ok X.K X.mg (RV X.K X.mg) ρ G H E (F x y st) Q → r u v H Q
def sAug (i : Nat) (m : ME) (F : Val → Val → Sto → Out Val) : MS := fun env st => match env[i]? with
  | some (some x) => (m env st).flo env fun y st1 => (F x y st1).flo env fun z st2 => .next (env.set i (some z)) st2
  | _ => .bad
theorem ss_aug (g : Gd D X W N sc k) (i : Nat) {x : Str} {pos' : Pos} {op : Operator} {F : Val → Val → Sto → Out Val} (hi : N[i]? = some x) (hx : locB sc x = true) (h : SE X W e m) (ho : Ip2 X op F) : SS X W (.AugAssign (.Name x pos') op e pos) (sAug i m F) := by
  obtain ⟨t, p, s⟩ := h
  obtain ⟨r, pr, hr'⟩ := ho
  refine ⟨_, ps_aug (by rw [g.hN]; exact g.nd) (by rw [g.hN]; exact hi) (g.loc hx).1 p pr (g.loc hx).2, fun σ H env st ρ G De he hr h => ?_⟩
  unfold sAug at h
  split at h
  · rename_i v z
    obtain ⟨w, z2, q⟩ := he.2 i v z
    refine ⟨w, z2, s σ H env st ρ G _ he hr ((Ok.flo (R := RV X.K X.mg) he h).imp fun u H1 ⟨x, ρ1, G1, st1, e1, r1, q1, o1⟩ => ?_)⟩
    refine hr' ρ1 G1 st1 H1 v x w u _ _ r1 (e1.rv q) q1 ((Ok.flo (R := RV X.K X.mg) (he.ext e1) o1).imp fun u2 H2 ⟨y, ρ2, G2, st2, e2, r2, q2, o2⟩ => ?_)
    exact o2 ρ2 G2 H2 _ .refl r2 ((he.ext (e1.trans e2)).set i q2)
  · exact h.elim
theorem ip_int (f : Int → Int → Int) {op : Operator} {F : Val → Val → Sto → Out Val} (ho : OpR X (inplaceOp op) (rI0 fun i j => .int (f i j))) (hF : ∀ x y st, F x y st = match x, y with | .d (.int i), .d (.int j) => .ok (.d (.int (f i j))) st | _, _ => .bad) : Ip2 X op F := by
  refine ⟨_, fun pins s σ H x y v u Q I rx ry h => augR ho I rx ry h, fun ρ G st H x y u v E Q r qx qy h => ?_⟩
  rw [hF] at h
  split at h
  · rw [rv_int qx, rv_int qy]; exact ⟨_, _, rfl, rfl, ok_ret r (.int _) h⟩
  · exact h.elim
def addI : Val → Val → Sto → Out Val := fun x y st => match x, y with
  | .d (.int i), .d (.int j) => .ok (.d (.int (i + j))) st
  | _, _ => .bad
theorem ip_addI : Ip2 X .Add addI := ip_int (fun i j => i + j) iop_add fun _ _ _ => rfl
theorem ip_subI : Ip2 X .Sub subF := ip_int (fun i j => i - j) iop_sub fun _ _ _ => rfl
/-- xs += ys, xs a cell -/
def extF : Val → Val → Sto → Out Val := fun x y st => match x with
  | .c n => match st[n]?, seqL st y with
    | some (.lst xs), some ys => if xs.length + ys.length ≤ LINE then .ok (.c n) (st.set n (.lst (xs ++ ys))) else .bad
    | _, _ => .bad
  | _ => .bad
theorem ip_ext : Ip2 X .Add extF := by
  refine ⟨_, fun pins s σ H x y v u Q I rx ry h => augR iop_ext I rx ry h, fun ρ G st H x y u v E Q r qx qy h => ?_⟩
  unfold extF at h
  split at h
  · rename_i n
    split at h
    · rename_i xs ys e1 e2
      split at h
      · rename_i hl
        obtain ⟨p, rfl, ep⟩ := rv_cell qx
        obtain ⟨a', vs, e3, e4, e5, _⟩ := r.at_ e1
        rw [ep] at e3; cases e3
        obtain ⟨b, us, rfl, t2, c2⟩ := seqL_ok r e2 qy
        exact ⟨p, b, vs, us, rfl, rfl, e4, t2, by rw [← e5.len, ← c2.len, line_eq]; exact hl, h ρ G _ _ (.put ep) (r.putL ep e1 (e5.append c2)) qx⟩
      · exact h.elim
    · exact h.elim
  · exact h.elim

/-! ### defs -/
abbrev Fn := List Val → Sto → Out Val
def spOf (K : PySem.W.Frag) (mg : Str → Option Value) (np : Nat) (F : Fn) : Sp := fun vs H Q E => vs.length = np ∧ ∃ ρ G st args, Rel K mg ρ G st H ∧ RVs K mg ρ G args vs ∧ Ok K mg (RV K mg) ρ G H E (F args st) Q
structure FnF (D : Wd) (x : Str) (k np : Nat) (F : Fn) : Prop where
  ex : ∃ f fd ps, FnOk D.P D.w D.K D.mg D.base (L2.CX D.P D.w) k f fd ps (spOf D.K D.mg np F) ∧ D.mg x = some (.ref f) ∧ PySem.W.keepIn D.K (.ref f) = true ∧ Binds D.K fd ps [] ∧ ps.length = np
theorem FnF.mono {x : Str} {np j : Nat} {F : Fn} (h : FnF D x k np F) (l : k ≤ j) : FnF D x j np F :=
  let ⟨f, fd, ps, a, r⟩ := h.ex; ⟨f, fd, ps, a.mono l, r⟩
/-! freezing -/
def frzL (f : Val → Sto → Option (PyData × Sto)) : List Val → Sto → Option (List PyData × Sto)
  | [], st => some ([], st)
  | v :: r, st => match f v st with
    | some (x, st1) => (match frzL f r st1 with
      | some (xs, st2) => some (x :: xs, st2)
      | none => none)
    | none => none
def frzV : Nat → Val → Sto → Option (PyData × Sto)
  | 0, _, _ => none
  | _ + 1, .d x, st => some (x, st)
  | n + 1, .c i, st => match st[i]? with
    | some (.lst xs) => (match frzL (frzV n) xs (st.set i .dead) with
      | some (ds, st') => some (.list ds, st')
      | none => none)
    | _ => none
  | n + 1, .t xs, st => (match frzL (frzV n) xs st with
    | some (ds, st') => some (.tuple ds, st')
    | none => none)
  | _ + 1, _, _ => none
/-- a def hands back v: what it has made itself is frozen -/
def exitF (base : Nat) (v : Val) (st : Sto) : Out Val := match v with
  | .d x => .ok (.d x) st
  | .s x => .ok (.s x) st
  | .g x => .ok (.g x) st
  | .c n => if n < base then .ok (.c n) st else (match frzV 8 (.c n) st with
    | some (x, st') => .ok (.d x) st'
    | none => .ok (.c n) st)
  | .t xs => (match frzV 8 (.t xs) st with
    | some (x, st') => .ok (.d x) st'
    | none => .ok (.t xs) st)
  | .p _ => .bad
def runF (n : Nat) (m : MS) : Fn := fun args st => match m (args.map some ++ List.replicate (n - args.length) none) st with
  | .ret v st' => exitF st.length v st'
  | .next _ st' => .ok (.d .none) st'
  | .exc x _ st' => .exc x st'
  | _ => .bad
end
/-! ### freezing is sound -/
section
variable {K : PySem.W.Frag} {mg : Str → Option Value}
structure Frz (ρ : List Addr) (G H : Hp) (st : Sto) (G' : Hp) (st' : Sto) : Prop where
  rel : Rel K mg ρ G' st' H
  grow : ∀ a o, G a = some o → G' a = some o
  gnew : ∀ a o, G' a = some o → G a = some o ∨ ∃ (j : Nat) (cl : Cell), ρ[j]? = some a ∧ st[j]? = some cl ∧ cl ≠ .dead
  dead : ∀ j : Nat, st[j]? = some Cell.dead → st'[j]? = some Cell.dead
  len : st'.length = st.length
theorem Frz.refl {ρ : List Addr} {G H : Hp} {st : Sto} (r : Rel K mg ρ G st H) : Frz (K := K) (mg := mg) ρ G H st G st := ⟨r, fun _ _ h => h, fun _ _ h => .inl h, fun _ h => h, rfl⟩
theorem Frz.trans {ρ : List Addr} {G G1 G2 H : Hp} {st st1 st2 : Sto} (a : Frz (K := K) (mg := mg) ρ G H st G1 st1) (b : Frz (K := K) (mg := mg) ρ G1 H st1 G2 st2) : Frz (K := K) (mg := mg) ρ G H st G2 st2 := by
  refine ⟨b.rel, fun x o h => b.grow x o (a.grow x o h), fun x o h => ?_, fun j h => b.dead j (a.dead j h), b.len.trans a.len⟩
  rcases b.gnew x o h with h | ⟨j, cl, e1, e2, e3⟩
  · exact a.gnew x o h
  · have l : j < st.length := by rw [← a.len]; exact (List.getElem?_eq_some_iff.mp e2).1
    refine .inr ⟨j, st[j], e1, List.getElem?_eq_getElem l, fun z => ?_⟩
    have := a.dead j (by rw [List.getElem?_eq_getElem l, z])
    rw [this] at e2; cases e2; exact e3 rfl
theorem frzL_ok {ρ : List Addr} {H : Hp} {f : Val → Sto → Option (PyData × Sto)}
    (hf : ∀ (v : Val) (u : V) (G : Hp) (st : Sto) (x : PyData) (st' : Sto), f v st = some (x, st') → Rel K mg ρ G st H → RV K mg ρ G v u → ∃ G', Frz (K := K) (mg := mg) ρ G H st G' st' ∧ Dq K G' u x) :
    ∀ (vs : List Val) (us : List V) (G : Hp) (st : Sto) (xs : List PyData) (st' : Sto), frzL f vs st = some (xs, st') → Rel K mg ρ G st H → RVs K mg ρ G vs us → ∃ G', Frz (K := K) (mg := mg) ρ G H st G' st' ∧ DqAll K G' us xs
  | [], _, G, st, xs, st', h, r, .nil => by
    cases h; exact ⟨G, .refl r, .nil⟩
  | v :: vs, _, G, st, xs, st', h, r, .cons q qs => by
    unfold frzL at h
    split at h
    · rename_i x st1 e1
      split at h
      · rename_i ys st2 e2
        cases h
        obtain ⟨G1, f1, d1⟩ := hf v _ G st x st1 e1 r q
        obtain ⟨G2, f2, d2⟩ := frzL_ok hf vs _ G1 st1 ys _ e2 f1.rel (rvs_mono ⟨[], by simp⟩ f1.grow qs)
        exact ⟨G2, f1.trans f2, .cons (dq_mono f2.grow d1) d2⟩
      · cases h
    · cases h
theorem frzV_ok {ρ : List Addr} {H : Hp} : ∀ (n : Nat) (v : Val) (u : V) (G : Hp) (st : Sto) (x : PyData) (st' : Sto), frzV n v st = some (x, st') → Rel K mg ρ G st H → RV K mg ρ G v u → ∃ G', Frz (K := K) (mg := mg) ρ G H st G' st' ∧ Dq K G' u x
  | 0, _, _, _, _, _, _, h, _, _ => by cases h
  | n + 1, .d y, u, G, st, x, st', h, r, q => by
    cases h
    exact ⟨G, .refl r, rv_dat q⟩
  | n + 1, .t ys, u, G, st, x, st', h, r, q => by
    have h1 : (match frzL (frzV n) ys st with | some (ds, st') => some (PyData.tuple ds, st') | none => none) = some (x, st') := h
    split at h1
    · rename_i ds st2 e
      cases h1
      cases q with
      | t hs qs =>
        obtain ⟨G', f, d⟩ := frzL_ok (fun v u G st x st' h r q => frzV_ok n v u G st x st' h r q) ys _ G st ds _ e r qs
        exact ⟨G', f, .tup (tupN_mono f.grow hs) d⟩
    · cases h1
  | n + 1, .c i, u, G, st, x, st', h, r, q => by
    have h1 : (match st[i]? with | some (.lst xs) => (match frzL (frzV n) xs (st.set i .dead) with | some (ds, st') => some (PyData.list ds, st') | none => none) | _ => none) = some (x, st') := h
    split at h1
    · rename_i xs e0
      split at h1
      · rename_i ds st2 e
        cases h1
        obtain ⟨a, rfl, ea⟩ := rv_cell q
        obtain ⟨a', vs, e3, e4, e5, e6⟩ := r.at_ e0
        rw [ea] at e3; cases e3
        have li : i < st.length := (List.getElem?_eq_some_iff.mp e0).1
        have rd : Rel K mg ρ G (st.set i .dead) H := by
          refine ⟨by simp [r.len], r.nd, r.sub, fun m b c e1 q nd' => ?_, fun m b c e1 q => ?_⟩
          · by_cases z : m = i
            · subst z; rw [List.getElem?_set_self li] at q; cases q; exact absurd rfl nd'
            · rw [List.getElem?_set_ne (Ne.symm z)] at q; exact r.off m b c e1 q nd'
          · by_cases z : m = i
            · subst z; rw [List.getElem?_set_self li] at q; cases q
              rw [ea] at e1; cases e1
              exact ⟨_, e4⟩
            · rw [List.getElem?_set_ne (Ne.symm z)] at q; exact r.cell m b c e1 q
        obtain ⟨G1, f, d⟩ := frzL_ok (fun v u G st x st' h r q => frzV_ok n v u G st x st' h r q) xs vs G (st.set i .dead) ds _ e rd e5
        have n1 : G1 a = none := by
          cases z : G1 a with
          | none => rfl
          | some o =>
            rcases f.gnew a o z with z | ⟨j, cl, j1, j2, j3⟩
            · rw [e6] at z; cases z
            · have : j = i := by
                obtain ⟨i1, k1⟩ := List.getElem?_eq_some_iff.mp ea
                obtain ⟨i2, k2⟩ := List.getElem?_eq_some_iff.mp j1
                exact (List.getElem_inj r.nd).mp (k2.trans k1.symm)
              subst this
              rw [List.getElem?_set_self li] at j2; cases j2; exact absurd rfl j3
        have dd : st'[i]? = some Cell.dead := f.dead i (List.getElem?_set_self li)
        have gr := upd_grow (o := .lst vs) n1
        refine ⟨upd G1 a (.lst vs), ⟨⟨f.rel.len, f.rel.nd, fun b o z => ?_, fun m b c e1 qq nd' => ?_, fun m b c e1 q => cell_mono ⟨[], by simp⟩ gr (fun _ h => h) (f.rel.cell m b c e1 q)⟩, fun b o z => gr b o (f.grow b o z), fun b o z => ?_, fun j z => ?_, by rw [f.len]; simp⟩, ?_⟩
        · by_cases y : b = a
          · subst y; rw [upd_same] at z; cases z; exact e4
          · rw [upd_ne y] at z; exact f.rel.sub b o z
        · by_cases y : b = a
          · subst y
            have : m = i := by
              obtain ⟨i1, k1⟩ := List.getElem?_eq_some_iff.mp ea
              obtain ⟨i2, k2⟩ := List.getElem?_eq_some_iff.mp e1
              exact (List.getElem_inj r.nd).mp (k2.trans k1.symm)
            subst this
            rw [dd] at qq; cases qq; exact absurd rfl nd'
          · rw [upd_ne y]; exact f.rel.off m b c e1 qq nd'
        · by_cases y : b = a
          · subst y; exact .inr ⟨i, _, ea, e0, by simp⟩
          · rw [upd_ne y] at z
            rcases f.gnew b o z with z | ⟨j, cl, j1, j2, j3⟩
            · exact .inl z
            · by_cases w : j = i
              · subst w; rw [List.getElem?_set_self li] at j2; cases j2; exact absurd rfl j3
              · rw [List.getElem?_set_ne (Ne.symm w)] at j2; exact .inr ⟨j, cl, j1, j2, j3⟩
        · refine f.dead j ?_
          by_cases w : j = i
          · subst w; exact List.getElem?_set_self li
          · rw [List.getElem?_set_ne (Ne.symm w)]; exact z
        · exact .lst upd_same (dqAll_mono gr d)
      · cases h1
    · cases h1
  | n + 1, .g _, _, _, _, _, _, h, _, _ => by cases h
  | n + 1, .s _, _, _, _, _, _, h, _, _ => by cases h
  | n + 1, .p _, _, _, _, _, _, h, _, _ => by cases h
theorem Frz.ext {ρ : List Addr} {G H : Hp} {st : Sto} {G' : Hp} {st' : Sto} (f : Frz (K := K) (mg := mg) ρ G H st G' st') : Ext ρ G H ρ G' H :=
  ⟨⟨[], by simp, by simp⟩, f.grow, fun a o h => by
    rcases f.gnew a o h with h | ⟨j, cl, e, _⟩
    · exact .inl h
    · exact .inr (.inr (List.mem_of_getElem? e)), fun _ _ h _ => h, fun _ o h => ⟨o, h⟩⟩
theorem exitF_ok {ρ : List Addr} {G H : Hp} {st : Sto} {base : Nat} {v : Val} {u : V} {E : XK} {Q : VK} (r : Rel K mg ρ G st H) (q : RV K mg ρ G v u) (h : Ok K mg (RV K mg) ρ G H E (exitF base v st) Q) : Q u H := by
  unfold exitF at h
  split at h
  · exact Ok.ret h r q
  · exact Ok.ret h r q
  · exact Ok.ret h r q
  · split at h
    · exact Ok.ret h r q
    · split at h
      · rename_i x st' e
        obtain ⟨G', f, d⟩ := frzV_ok 8 _ u G st x st' e r q
        exact h ρ G' H u f.ext f.rel (.d d)
      · exact Ok.ret h r q
  · split at h
    · rename_i x st' e
      obtain ⟨G', f, d⟩ := frzV_ok 8 _ u G st x st' e r q
      exact h ρ G' H u f.ext f.rel (.d d)
    · exact Ok.ret h r q
  · exact h.elim
end
end Z

namespace Z
open PySem PySem.Spec PyProof.Rows L2
/-- a statement's surroundings -/
structure Gs (D : Wd) (X : Cx) (W : WX) (N : List Str) (sc : Scp) (k : Nat) : Prop extends Gd D X W N sc k where
  po : PassesOwn (model X.prog X.w) X.A X.env X.xe
  stk : X.stack = X.env :: X.outer
  frm : X.env.frame = some X.env.locals
  hex : X.ex = []
section
variable {D : Wd} {X : Cx} {W : WX} {N ps : List Str} {sc : Scp} {k np : Nat} {e a b c : Expr} {es : List Expr} {m ma mb mc : ME} {mr : MA} {pos : Pos}
theorem er_start {K : PySem.W.Frag} {mg : Str → Option Value} {ρ : List Addr} {G : Hp} {args : List Val} {vs : List V} (q : RVs K mg ρ G args vs) : ER K mg ρ G (args.map some ++ List.replicate (N.length - args.length) none) (L2.start N vs) := by
  unfold L2.start
  refine ⟨by simp [q.len], fun i x h => ?_⟩
  by_cases l : i < args.length
  · rw [List.getElem?_append_left (by simpa using l), List.getElem?_map] at h
    cases z : args[i]? with
    | none => rw [z] at h; cases h
    | some y =>
      rw [z] at h
      cases h
      obtain ⟨v, h1, h2⟩ := q.get z
      refine ⟨v, ?_, h2⟩
      rw [List.getElem?_append_left (by simpa [← q.len] using l), List.getElem?_map, h1]
      rfl
  · rw [List.getElem?_append_right (by simpa using l)] at h
    have := List.mem_of_getElem? h
    have := List.eq_of_mem_replicate this
    cases this
theorem fn_mk {x qual : Str} {params : Arguments} {body : List Stmt} {f : Addr} {fd : FuncData} {m : MS} {sc : Scope} {dvs : List V} {kws : List (Str × V)} (F : FunD D.K x qual params body sc dvs kws f fd) (S : FnScope N ps sc) (hl : ps.length = np)
    (hbody : ∀ X W, Gs D X W N (.df sc) k → SB X W body m) : FnOk D.P D.w D.K D.mg D.base (L2.CX D.P D.w) (k + 1) f fd ps (spOf D.K D.mg np (runF N.length m)) := by
  refine F.ok S (fun vs H Q E h => h.1.trans hl.symm) fun cdv A outer s H vs Q E hr hsp => ?_
  obtain ⟨hvl, ρ, G, st, args, rel, q, h⟩ := hsp
  have gs : Gs D (cxOf (L2.CX D.P D.w) D.P D.w D.K D.mg D.base N qual sc f cdv A outer s H E) (fun cls d _ H => E cls d H) N (.df sc) k :=
    { hP := rfl, hw := rfl, hK := rfl, hmg := rfl, hb := rfl, hN := rfl, nd := S.nd, hsc := rfl, calm := rfl, tk := takes_of rfl rfl rfl rfl, room := hr, fnc := fun _ _ => rfl, po := passes_of rfl, stk := rfl, frm := rfl, hex := rfl }
  obtain ⟨t, p, sound⟩ := hbody _ _ gs
  refine ⟨t, p, sound (L2.start N vs) H _ st ρ G _ (er_start q) rel ?_⟩
  unfold runF at h
  split at h
  · rename_i v st' e
    show OkS _ D.K D.mg ρ G H (m _ st) _
    rw [e]
    exact fun ρ' G' H' u e1 r1 q1 => exitF_ok r1 q1 (Ok.ext e1 h)
  · rename_i env' st' e
    show OkS _ D.K D.mg ρ G H (m _ st) _
    rw [e]
    exact fun ρ' G' H' σ' e1 r1 q1 => h ρ' G' H' V.non e1 r1 (.d .non)
  · rename_i y env' st' e
    show OkS _ D.K D.mg ρ G H (m _ st) _
    rw [e]
    exact fun ρ' G' H' σ' c d e1 r1 _ q1 => h ρ' G' H' c d e1 r1 q1
  · exact h.elim
theorem fnF_mk {x qual : Str} {params : Arguments} {body : List Stmt} {f : Addr} {fd : FuncData} {m : MS} {sc : Scope} {dvs : List V} {kws : List (Str × V)} (F : FunD D.K x qual params body sc dvs kws f fd) (S : FnScope N ps sc) (hl : ps.length = np) (hm : D.mg x = some (.ref f)) (hb : Binds D.K fd ps [])
    (hbody : ∀ X W, Gs D X W N (.df sc) k → SB X W body m) : FnF D x (k + 1) np (runF N.length m) :=
  ⟨f, fd, ps, fn_mk F S hl hbody, hm, F.kp, hb, hl⟩
/-! ### calls -/
def mCall (F : Fn) (np : Nat) (mr : MA) : ME := fun env st => (mr env st).bind fun xs st1 => if xs.length = np then F xs st1 else .bad
theorem se_call {x : Str} {F : Fn} {p : Pos} {j : Nat} (g : Gd D X W N sc k) (hF : FnF D x j np F) (hj : j ≤ k) (hg : glB sc x = true) (ha : SA X W (e :: es) mr) (hdb : (x == ("__debug__" : Str)) = false := by decide)
    (he : starEach (e :: es) X.env = (false, eval e X.env) :: starEach es X.env := by rfl) (hpl : (backTo pos (starEach es X.env)).any (·.1) = false := by rfl) : SE X W (.Call (.Name x p) (e :: es) [] pos) (mCall F np mr) := by
  obtain ⟨f, fd, ps, ok, hm, hk, hb, hl⟩ := hF.ex
  obtain ⟨t, pa, sa⟩ := ha
  rw [← g.hP, ← g.hw, ← g.hK, ← g.hmg, ← g.hb] at ok
  rw [← g.hmg] at hm
  rw [← g.hK] at hk hb
  refine ⟨_, pe_callS ok (g.room.mono hj) (g.gl hg) hm hk hb (passAt g.tk) pa hdb he hpl, fun σ H env st ρ G Q he rl h => ?_⟩
  refine sa σ H env st ρ G _ he rl ((Ok.bind (R := RVs X.K X.mg) h).imp fun us H1 ⟨xs, ρ1, G1, st1, e1, r1, q1, o1⟩ => ?_)
  split at o1
  · rename_i hx
    exact ⟨by rw [← q1.len]; exact hx, ρ1, G1, st1, xs, r1, q1, o1⟩
  · exact o1.elim
/-- no cells among the arguments -/
def pureV : Val → Bool
  | .d _ => true
  | .s _ => true
  | .g _ => true
  | _ => false
theorem pure_rvs {K : PySem.W.Frag} {mg : Str → Option Value} {ρ : List Addr} {G : Hp} : ∀ {xs : List Val} {us : List V}, RVs K mg ρ G xs us → xs.all pureV = true → RVs K mg [] G xs us
  | _, _, .nil, _ => .nil
  | x :: _, _, .cons h r, p => by
    rw [List.all_cons, Bool.and_eq_true] at p
    refine .cons ?_ (pure_rvs r p.2)
    cases h with
    | d h => exact .d h
    | s h => exact .s h
    | g h => exact .g h
    | c _ => cases p.1
    | t _ _ => cases p.1
    | p _ _ => cases p.1
theorem Rel.nil {K : PySem.W.Frag} {mg : Str → Option Value} {ρ : List Addr} {G H : Hp} {st : Sto} (r : Rel K mg ρ G st H) : Rel K mg [] G [] H :=
  ⟨rfl, .nil, r.sub, fun n a cl e => by simp at e, fun n a cl e => by simp at e⟩
theorem Rel.past {K : PySem.W.Frag} {mg : Str → Option Value} {ρ ρ' : List Addr} {G H G' H' : Hp} {st : Sto} (r : Rel K mg ρ G st H) (e : Ext [] G H ρ' G' H') (s : ∀ a o, G' a = some o → H' a = some o) : Ext ρ G H ρ G' H' ∧ Rel K mg ρ G' st H' := by
  have fr : ∀ a o, H a = some o → H' a = some o := fun a o h => e.frame a o h (by simp)
  refine ⟨⟨⟨[], by simp, by simp⟩, e.grow, fun a o h => ?_, fun a o h _ => fr a o h, fun a o h => ⟨o, fr a o h⟩⟩, r.len, r.nd, s, fun n a cl e1 e2 nd => ?_, fun n a cl e1 e2 => cell_mono ⟨[], by simp⟩ e.grow (fr a) (r.cell n a cl e1 e2)⟩
  · rcases e.gnew a o h with h | h | h
    · exact .inl h
    · exact .inr (.inl h)
    · simp at h
  · cases z : G' a with
    | none => rfl
    | some o =>
      rcases e.gnew a o z with q | q | q
      · rw [r.off n a cl e1 e2 nd] at q; cases q
      · exact absurd (List.mem_of_getElem? e1) (r.free q)
      · simp at q
/-- a call with data alone: the callee has a store of its own -/
def Out.alone (o : Out Val) (st : Sto) : Out Val := match o with
  | .ok (.d x) _ => .ok (.d x) st
  | .exc x _ => .exc x st
  | _ => .bad
def mCallP (F : Fn) (np : Nat) (mr : MA) : ME := fun env st => (mr env st).bind fun xs st1 => if xs.length = np ∧ xs.all pureV = true then (F xs []).alone st1 else .bad
theorem alone_ok {K : PySem.W.Frag} {mg : Str → Option Value} {ρ : List Addr} {G H : Hp} {st : Sto} {o : Out Val} {E : XK} {Q : VK} (r : Rel K mg ρ G st H) (h : Ok K mg (RV K mg) ρ G H E (o.alone st) Q) : Ok K mg (RV K mg) [] G H E o Q := by
  cases o with
  | ok v st' =>
    cases v with
    | d x =>
      intro ρ' G' H' u e r' q
      obtain ⟨e2, r2⟩ := r.past e r'.sub
      exact h ρ G' H' u e2 r2 (.d (rv_dat q))
    | c n => exact h.elim
    | t n => exact h.elim
    | g n => exact h.elim
    | s n => exact h.elim
    | p n => exact h.elim
  | exc x st' =>
    intro ρ' G' H' c d e r' q
    obtain ⟨e2, r2⟩ := r.past e r'.sub
    exact h ρ G' H' c d e2 r2 q
  | bad => exact h
theorem se_callP {x : Str} {F : Fn} {p : Pos} {j : Nat} (g : Gd D X W N sc k) (hF : FnF D x j np F) (hj : j ≤ k) (hg : glB sc x = true) (ha : SA X W (e :: es) mr) (hdb : (x == ("__debug__" : Str)) = false := by decide)
    (he : starEach (e :: es) X.env = (false, eval e X.env) :: starEach es X.env := by rfl) (hpl : (backTo pos (starEach es X.env)).any (·.1) = false := by rfl) : SE X W (.Call (.Name x p) (e :: es) [] pos) (mCallP F np mr) := by
  obtain ⟨f, fd, ps, ok, hm, hk, hb, hl⟩ := hF.ex
  obtain ⟨t, pa, sa⟩ := ha
  rw [← g.hP, ← g.hw, ← g.hK, ← g.hmg, ← g.hb] at ok
  rw [← g.hmg] at hm
  rw [← g.hK] at hk hb
  refine ⟨_, pe_callS ok (g.room.mono hj) (g.gl hg) hm hk hb (passAt g.tk) pa hdb he hpl, fun σ H env st ρ G Q he rl h => ?_⟩
  refine sa σ H env st ρ G _ he rl ((Ok.bind (R := RVs X.K X.mg) h).imp fun us H1 ⟨xs, ρ1, G1, st1, e1, r1, q1, o1⟩ => ?_)
  split at o1
  · rename_i hx
    exact ⟨by rw [← q1.len]; exact hx.1, [], G1, [], xs, r1.nil, pure_rvs q1 hx.2, alone_ok r1 o1⟩
  · exact o1.elim
/-! ### built-in calls -/
def Cb (X : Cx) (f : Value) (F : Fn) : Prop :=
  ∃ r : List V → Hp → VK → Prop, CallR X f r ∧ ∀ (ρ : List Addr) (G : Hp) (st : Sto) (H : Hp) (xs : List Val) (us : List V) (E : XK) (Q : VK), Rel X.K X.mg ρ G st H → RVs X.K X.mg ρ G xs us → Ok X.K X.mg (RV X.K X.mg) ρ G H E (F xs st) Q → r us H Q
def mB (F : Fn) (mr : MA) : ME := fun env st => (mr env st).bind F
theorem se_callB {x : Str} {id : String} {F : Fn} {p : Pos} (g : Gd D X W N sc k) (hc : Cb X (.builtin id) F) (hg : glB sc x = true) (hm : D.mg x = none) (hv : bootBuiltins x = some (.builtin id)) (ha : SA X W (e :: es) mr) (hn : x ≠ "__name__" := by decide) (hdb : (x == ("__debug__" : Str)) = false := by decide)
    (he : starEach (e :: es) X.env = (false, eval e X.env) :: starEach es X.env := by rfl) (hpl : (backTo pos (starEach es X.env)).any (·.1) = false := by rfl) : SE X W (.Call (.Name x p) (e :: es) [] pos) (mB F mr) := by
  obtain ⟨r, hr, hF⟩ := hc
  obtain ⟨t, pa, sa⟩ := ha
  refine ⟨_, pe_callB hr (g.gl hg) (by rw [g.hmg]; exact hm) hv pa hn hdb he hpl, fun σ H env st ρ G Q he rl h => ?_⟩
  exact sa σ H env st ρ G _ he rl ((Ok.bind (R := RVs X.K X.mg) h).imp fun us H1 ⟨xs, ρ1, G1, st1, e1, r1, q1, o1⟩ => hF ρ1 G1 st1 H1 xs us _ Q r1 q1 o1)
theorem se_callT {x : Str} {id : String} {F : Fn} {p : Pos} (g : Gd D X W N sc k) (hc : Cb X (.type id) F) (hg : glB sc x = true) (hm : D.mg x = none) (hv : bootBuiltins x = some (.type id)) (ha : SA X W (e :: es) mr) (hn : x ≠ "__name__" := by decide) (hdb : (x == ("__debug__" : Str)) = false := by decide)
    (he : starEach (e :: es) X.env = (false, eval e X.env) :: starEach es X.env := by rfl) (hpl : (backTo pos (starEach es X.env)).any (·.1) = false := by rfl) : SE X W (.Call (.Name x p) (e :: es) [] pos) (mB F mr) := by
  obtain ⟨r, hr, hF⟩ := hc
  obtain ⟨t, pa, sa⟩ := ha
  refine ⟨_, pe_callTy hr (g.gl hg) (by rw [g.hmg]; exact hm) hv pa hn hdb he hpl, fun σ H env st ρ G Q he rl h => ?_⟩
  exact sa σ H env st ρ G _ he rl ((Ok.bind (R := RVs X.K X.mg) h).imp fun us H1 ⟨xs, ρ1, G1, st1, e1, r1, q1, o1⟩ => hF ρ1 G1 st1 H1 xs us _ Q r1 q1 o1)
def lenV (x : Val) (st : Sto) : Option Int := match x with
  | .d (.str s) => if s.length ≤ LINE then some s.length else none
  | x => match seqR st x with
    | some xs => some xs.length
    | none => (seqT x).map fun xs => (xs.length : Int)
def lenF : Fn := fun xs st => match xs with
  | [x] => (match lenV x st with
    | some n => .ok (.d (.int n)) st
    | none => .bad)
  | _ => .bad
theorem rvs1 {K : PySem.W.Frag} {mg : Str → Option Value} {ρ : List Addr} {G : Hp} {x : Val} {us : List V} (q : RVs K mg ρ G [x] us) : ∃ u, us = [u] ∧ RV K mg ρ G x u := by
  cases q with
  | cons h r => cases r; exact ⟨_, rfl, h⟩
theorem rvs2 {K : PySem.W.Frag} {mg : Str → Option Value} {ρ : List Addr} {G : Hp} {x y : Val} {us : List V} (q : RVs K mg ρ G [x, y] us) : ∃ u v, us = [u, v] ∧ RV K mg ρ G x u ∧ RV K mg ρ G y v := by
  cases q with
  | cons h r =>
    obtain ⟨v, rfl, h2⟩ := rvs1 r
    exact ⟨_, v, rfl, h, h2⟩
theorem cb_len : Cb X (.builtin "len") lenF := by
  refine ⟨_, call_len, fun ρ G st H xs us E Q r q h => ?_⟩
  unfold lenF at h
  split at h
  · rename_i x
    obtain ⟨u, rfl, q1⟩ := rvs1 q
    split at h
    · rename_i n e
      unfold lenV at e
      split at e
      · split at e
        · cases e
          rw [rv_str q1]
          exact ⟨_, _, rfl, ⟨by rw [line_eq]; assumption, rfl⟩, ok_ret r (.int _) h⟩
        · cases e
      · split at e
        · rename_i ys z
          cases e
          obtain ⟨a, vs, rfl, t, c⟩ := seqR_ok r z q1
          exact ⟨_, _, rfl, .inl ⟨vs, t, rfl⟩, by rw [← c.len]; exact ok_ret r (.int _) h⟩
        · obtain ⟨ys, z, rfl⟩ := Option.map_eq_some_iff.mp e
          obtain ⟨a, vs, rfl, t, c, _⟩ := seqT_ok r z q1
          exact ⟨_, _, rfl, .inr ⟨vs, t, rfl⟩, by rw [← c.len]; exact ok_ret r (.int _) h⟩
    · exact h.elim
  · exact h.elim
def absF : Fn := fun xs st => match xs with
  | [.d (.int i)] => .ok (.d (.int (if i < 0 then -i else i))) st
  | _ => .bad
theorem cb_abs : Cb X (.builtin "abs") absF := by
  refine ⟨_, call_abs, fun ρ G st H xs us E Q r q h => ?_⟩
  unfold absF at h
  split at h
  · obtain ⟨u, rfl, q1⟩ := rvs1 q
    rw [rv_int q1]
    exact ⟨_, rfl, ok_ret r (.int _) h⟩
  · exact h.elim
def max2F : Fn := fun xs st => match xs with
  | [.d (.int i), .d (.int j)] => .ok (.d (.int (if j > i then j else i))) st
  | _ => .bad
def min2F : Fn := fun xs st => match xs with
  | [.d (.int i), .d (.int j)] => .ok (.d (.int (if j < i then j else i))) st
  | _ => .bad
theorem cb_max2 (hc : X.calm = true) : Cb X (.builtin "max") max2F := by
  refine ⟨_, call_max2 hc, fun ρ G st H xs us E Q r q h => ?_⟩
  unfold max2F at h
  split at h
  · obtain ⟨u, v, rfl, q1, q2⟩ := rvs2 q
    rw [rv_int q1, rv_int q2]
    exact ⟨_, _, rfl, ok_ret r (.int _) h⟩
  · exact h.elim
theorem cb_min2 (hc : X.calm = true) : Cb X (.builtin "min") min2F := by
  refine ⟨_, call_min2 hc, fun ρ G st H xs us E Q r q h => ?_⟩
  unfold min2F at h
  split at h
  · obtain ⟨u, v, rfl, q1, q2⟩ := rvs2 q
    rw [rv_int q1, rv_int q2]
    exact ⟨_, _, rfl, ok_ret r (.int _) h⟩
  · exact h.elim
def intF : Fn := fun xs st => match xs with
  | [.d (.int i)] => .ok (.d (.int i)) st
  | [.d (.bool b)] => .ok (.d (.int (if b then 1 else 0))) st
  | [.d (.str s)] => (match PySem.intText? s with
    | some n => if s.length ≤ 640 then .ok (.d (.int n)) st else .bad
    | none => .bad)
  | _ => .bad
theorem cb_int : Cb X (.type "int") intF := by
  refine ⟨_, CallR.or call_int1 call_int_str, fun ρ G st H xs us E Q r q h => ?_⟩
  unfold intF at h
  split at h
  · obtain ⟨u, rfl, q1⟩ := rvs1 q
    rw [rv_int q1]
    exact .inl (.inl ⟨_, rfl, ok_ret r (.int _) h⟩)
  · obtain ⟨u, rfl, q1⟩ := rvs1 q
    rw [rv_bl q1]
    exact .inl (.inr ⟨_, rfl, ok_ret r (.int _) h⟩)
  · obtain ⟨u, rfl, q1⟩ := rvs1 q
    rw [rv_str q1]
    split at h
    · split at h
      · exact .inr ⟨_, _, rfl, by assumption, by assumption, ok_ret r (.int _) h⟩
      · exact h.elim
    · exact h.elim
  · exact h.elim
def strF : Fn := fun xs st => match xs with
  | [.d (.int i)] => if i.natAbs.log2 < 1920 then .ok (.d (.str (toString i))) st else .bad
  | [.d (.str s)] => .ok (.d (.str s)) st
  | _ => .bad
theorem cb_str : Cb X (.type "str") strF := by
  refine ⟨_, CallR.or call_str_int SkE.call_str_str, fun ρ G st H xs us E Q r q h => ?_⟩
  unfold strF at h
  split at h
  · split at h
    · obtain ⟨u, rfl, q1⟩ := rvs1 q
      rw [rv_int q1]
      exact .inl ⟨_, rfl, by assumption, ok_ret r (.str _) h⟩
    · exact h.elim
  · obtain ⟨u, rfl, q1⟩ := rvs1 q
    rw [rv_str q1]
    exact .inr ⟨_, rfl, ok_ret r (.str _) h⟩
  · exact h.elim
def tupF : Fn := fun xs st => match xs with
  | [.d (.tuple ys)] => .ok (.d (.tuple ys)) st
  | [x] => (match seqR st x with
    | some ys => .ok (mkT ys) st
    | none => .bad)
  | _ => .bad
theorem cb_tup : Cb X (.type "tuple") tupF := by
  refine ⟨_, call_tupleN, fun ρ G st H xs us E Q r q h => ?_⟩
  unfold tupF at h
  split at h
  · rename_i ys
    obtain ⟨u, rfl, q1⟩ := rvs1 q
    obtain ⟨a, vs, rfl, t, c, _⟩ := seqT_ok (x := .d (.tuple ys)) r rfl q1
    exact ⟨a, vs, rfl, .inr ⟨t, ok_ret r (rv_dat q1) h⟩⟩
  · obtain ⟨u, rfl, q1⟩ := rvs1 q
    split at h
    · rename_i ys e
      obtain ⟨a, vs, rfl, t, c⟩ := seqR_ok r e q1
      exact ⟨a, vs, rfl, .inl ⟨t, mkT_ok r c h⟩⟩
    · exact h.elim
  · exact h.elim
def listF (cell : Bool) : Fn := fun xs st => match xs with
  | [x] => (match seqR st x with
    | some ys => lstR cell ys st
    | none => match seqT x with
      | some ys => lstR cell ys st
      | none => .bad)
  | _ => .bad
theorem cb_list (cell : Bool) : Cb X (.type "list") (listF cell) := by
  refine ⟨_, call_list_of, fun ρ G st H xs us E Q r q h => ?_⟩
  unfold listF at h
  split at h
  · obtain ⟨u, rfl, q1⟩ := rvs1 q
    split at h
    · rename_i ys e
      obtain ⟨a, vs, rfl, t, c⟩ := seqR_ok r e q1
      exact ⟨a, vs, rfl, .inl t, fun p hp => lstR_ok r hp c h⟩
    · split at h
      · rename_i ys e
        obtain ⟨a, vs, rfl, t, c, _⟩ := seqT_ok r e q1
        exact ⟨a, vs, rfl, .inr t, fun p hp => lstR_ok r hp c h⟩
      · exact h.elim
  · exact h.elim
/-- all bools -/
def bools : List Val → Option (List Bool)
  | [] => some []
  | .d (.bool b) :: r => (bools r).map (b :: ·)
  | _ :: _ => none
theorem bools_rv {K : PySem.W.Frag} {mg : Str → Option Value} {ρ : List Addr} {G : Hp} : ∀ {xs : List Val} {us : List V} {bs : List Bool}, bools xs = some bs → RVs K mg ρ G xs us → us = bs.map V.bl
  | [], _, _, h, .nil => by cases h; rfl
  | .d (.bool b) :: r, _, _, h, .cons q qs => by
    unfold bools at h
    obtain ⟨cs, h1, rfl⟩ := Option.map_eq_some_iff.mp h
    rw [rv_bl q, bools_rv h1 qs]; rfl
  | .d .none :: _, _, _, h, _ => by cases h
  | .d (.int _) :: _, _, _, h, _ => by cases h
  | .d (.str _) :: _, _, _, h, _ => by cases h
  | .d (.list _) :: _, _, _, h, _ => by cases h
  | .d (.tuple _) :: _, _, _, h, _ => by cases h
  | .d (.dict _) :: _, _, _, h, _ => by cases h
  | .c _ :: _, _, _, h, _ => by cases h
  | .t _ :: _, _, _, h, _ => by cases h
  | .g _ :: _, _, _, h, _ => by cases h
  | .s _ :: _, _, _, h, _ => by cases h
  | .p _ :: _, _, _, h, _ => by cases h
def allF : Fn := fun xs st => match xs with
  | [x] => (match (seqL st x).bind bools with
    | some bs => .ok (.d (.bool (bs.all id))) st
    | none => .bad)
  | _ => .bad
def anyF : Fn := fun xs st => match xs with
  | [x] => (match (seqL st x).bind bools with
    | some bs => .ok (.d (.bool (bs.any id))) st
    | none => .bad)
  | _ => .bad
theorem cb_all (hc : X.calm = true) : Cb X (.builtin "all") allF := by
  refine ⟨_, cr_all hc, fun ρ G st H xs us E Q r q h => ?_⟩
  unfold allF at h
  split at h
  · obtain ⟨u, rfl, q1⟩ := rvs1 q
    split at h
    · rename_i bs e
      obtain ⟨ys, e1, e2⟩ := Option.bind_eq_some_iff.mp e
      obtain ⟨a, vs, rfl, t, c⟩ := seqL_ok r e1 q1
      rw [bools_rv e2 c] at t
      exact ⟨a, bs, rfl, .inl (.inl t), ok_ret r (.bl _) h⟩
    · exact h.elim
  · exact h.elim
theorem cb_any (hc : X.calm = true) : Cb X (.builtin "any") anyF := by
  refine ⟨_, cr_any hc, fun ρ G st H xs us E Q r q h => ?_⟩
  unfold anyF at h
  split at h
  · obtain ⟨u, rfl, q1⟩ := rvs1 q
    split at h
    · rename_i bs e
      obtain ⟨ys, e1, e2⟩ := Option.bind_eq_some_iff.mp e
      obtain ⟨a, vs, rfl, t, c⟩ := seqL_ok r e1 q1
      rw [bools_rv e2 c] at t
      exact ⟨a, bs, rfl, .inl (.inl t), ok_ret r (.bl _) h⟩
    · exact h.elim
  · exact h.elim
end
end Z

namespace Z
open PySem PySem.Spec PyProof.Rows L2
def gdP (o : Option Nat) (st0 st : Sto) : Prop := match o with
  | none => True
  | some n => if n % 2 = 0 then st[n / 2]? = st0[n / 2]? else st.take (n / 2) = st0.take (n / 2)
theorem gdP_cell {n : Nat} {st0 st : Sto} (h : gdP (some (2 * n)) st0 st) : st[n]? = st0[n]? := by
  have h : (if 2 * n % 2 = 0 then st[2 * n / 2]? = st0[2 * n / 2]? else st.take (2 * n / 2) = st0.take (2 * n / 2)) := h
  rw [if_pos (by omega), show 2 * n / 2 = n by omega] at h
  exact h
theorem gdP_pre {n m : Nat} {st0 st : Sto} (h : gdP (some (2 * n + 1)) st0 st) (hm : m < n) : st[m]? = st0[m]? := by
  have h : (if (2 * n + 1) % 2 = 0 then st[(2 * n + 1) / 2]? = st0[(2 * n + 1) / 2]? else st.take ((2 * n + 1) / 2) = st0.take ((2 * n + 1) / 2)) := h
  rw [if_neg (by omega), show (2 * n + 1) / 2 = n by omega] at h
  have := congrArg (fun l : Sto => l[m]?) h
  simpa [List.getElem?_take, hm] using this
theorem gdP_refl (o : Option Nat) (st : Sto) : gdP o st st := by
  cases o with
  | none => trivial
  | some n =>
    show (if n % 2 = 0 then st[n / 2]? = st[n / 2]? else st.take (n / 2) = st.take (n / 2))
    split <;> rfl
def IterOk (K : PySem.W.Frag) (mg : Str → Option Value) (J : It) (items : List Val) (gd : Option Nat) (ρ0 : List Addr) (G0 : Hp) (st0 : Sto) : Prop :=
  ∃ (Gd : Hp → Prop) (Y : Nat → Hp → V → Hp → Prop), Walk J items.length Gd Y ∧
    (∀ ρ G st H, (∃ r, ρ = ρ0 ++ r) → (∀ a o, G0 a = some o → G a = some o) → gdP gd st0 st → Rel K mg ρ G st H → Gd H) ∧
    (∀ i v ρ G st H H', i < items.length → (∃ r, ρ = ρ0 ++ r) → (∀ a o, G0 a = some o → G a = some o) → gdP gd st0 st → Rel K mg ρ G st H → Y i H v H' → ∃ G' x, Ext ρ G H ρ G' H' ∧ Rel K mg ρ G' st H' ∧ items[i]? = some x ∧ RV K mg ρ G' x v)
abbrev MI := Env → Sto → Out (List Val × Option Nat × Sto)
def RI (K : PySem.W.Frag) (mg : Str → Option Value) : List Addr → Hp → (List Val × Option Nat × Sto) → It → Prop := fun ρ G a J => IterOk K mg J a.1 a.2.1 ρ G a.2.2
def SI (X : Cx) (W : WX) (tg it : Expr) (m : MI) : Prop := ∃ wi, PI X tg it wi ∧ ∀ (σ : List (Option V)) H env st ρ G (R : It → Hp → Prop), ER X.K X.mg ρ G env σ → Rel X.K X.mg ρ G st H → Ok X.K X.mg (RI X.K X.mg) ρ G H (fun c d H => W c d σ H) (m env st) R → wi σ H R
section
variable {D : Wd} {X : Cx} {W : WX} {N ps : List Str} {sc : Scp} {k np : Nat} {e a b c tg : Expr} {es : List Expr} {m ma mb mc : ME} {mr : MA} {pos : Pos}
/-! ### lists, tuples -/
theorem pi_seq {l : Expr} {tl : TE} (hl : PE X l tl) : PI X tg l (fun σ H R => tl σ H fun x H1 => ∃ a, x = .ref a ∧ (((∃ xs, SqL X.K H1 a xs) ∧ R (Itl X.K a) H1) ∨ ((∃ xs, SqT X.K H1 a xs) ∧ R (Itt X.K a) H1))) := by
  refine ⟨fun pins s σ H R I h => ?_⟩
  refine thn (hl.run pins s σ H _ I h) fun v s1 ⟨x, H1, I1, r1, q1⟩ => ?_
  obtain ⟨a, e, q⟩ := q1
  subst e
  cases r1
  rcases q with ⟨⟨xs, hq⟩, q⟩ | ⟨⟨xs, hq⟩, q⟩
  · obtain ⟨its, rv, p, hz⟩ := I1.list hq
    refine wpAny_pyIter_list p.isList ?_
    refine ⟨s1.heap.objs.size, [s1.heap.objs.size], _, _, H1, rfl, I1.kept (t' := s1.toks) fun b o e => Heap.get?_push_of_some _ e, turn_list a _, ⟨_, Heap.get?_push_size _ rfl, rfl, rfl⟩, fun b hb => ?_, q⟩
    have e : b = s1.heap.objs.size := by simpa using hb
    subst e
    exact I1.fpOk (Nat.le_refl _) (I1.hok.fresh (Nat.le_refl _))
  · obtain ⟨its, rv, p, hz⟩ := I1.tuple hq
    refine wpAny_pyIter_tuple (show s1.heap.IsTuple a its.toArray from p) ?_
    refine ⟨s1.heap.objs.size, [s1.heap.objs.size], _, _, H1, rfl, I1.kept (t' := s1.toks) fun b o e => Heap.get?_push_of_some _ e, turn_tuple a _, ⟨_, Heap.get?_push_size _ rfl, rfl, rfl⟩, fun b hb => ?_, q⟩
    have e : b = s1.heap.objs.size := by simpa using hb
    subst e
    exact I1.fpOk (Nat.le_refl _) (I1.hok.fresh (Nat.le_refl _))
def cellOf : Val → Option Nat
  | .c n => some (2 * n)
  | _ => none
def itF (x : Val) (st : Sto) : Out (List Val × Option Nat × Sto) := match seqR st x with
  | some xs => .ok (xs, cellOf x, st) st
  | none => match seqT x with
    | some xs => .ok (xs, none, st) st
    | none => .bad
/-- what a list holds later, if the cell is as it was -/
theorem seqR_later {K : PySem.W.Frag} {mg : Str → Option Value} {ρ ρ0 : List Addr} {G G0 : Hp} {st st0 : Sto} {x : Val} {u : V} {xs : List Val} (hp : ∃ r, ρ = ρ0 ++ r) (hg : ∀ a o, G0 a = some o → G a = some o) (gd : gdP (cellOf x) st0 st) (h : seqR st0 x = some xs) (q : RV K mg ρ0 G0 x u) : seqR st x = some xs ∧ RV K mg ρ G x u := by
  refine ⟨?_, rv_mono hp hg q⟩
  cases x with
  | d y => cases y <;> exact h
  | c n =>
    have gd' : st[n]? = st0[n]? := gdP_cell gd
    show (match st[n]? with | some (.lst xs) => some xs | _ => none) = _
    rw [gd']; exact h
  | t ys => exact h
  | g y => exact h
  | s ns => exact h
  | p ns => exact h
theorem it_list {K : PySem.W.Frag} {mg : Str → Option Value} {ρ0 : List Addr} {G0 H0 : Hp} {st0 : Sto} {x : Val} {a : Addr} {xs : List Val} (r0 : Rel K mg ρ0 G0 st0 H0) (h : seqR st0 x = some xs) (q : RV K mg ρ0 G0 x (.ref a)) : IterOk K mg (Itl K a) xs (cellOf x) ρ0 G0 st0 := by
  refine ⟨fun H => ∃ vs, vs.length = xs.length ∧ SqL K H a vs, fun i H v H' => H' = H ∧ ∀ vs, SqL K H a vs → vs[i]? = some v, ⟨?_, ?_, ?_⟩, ?_, ?_⟩
  · rintro i H hi ⟨vs, hl, hv⟩
    have l : i < vs.length := by rw [hl]; exact hi
    exact ⟨vs, vs[i], hv, List.getElem?_eq_getElem l⟩
  · rintro H ⟨vs, hl, hv⟩
    exact ⟨vs, hv, by rw [hl]; exact Nat.le_refl _⟩
  · rintro i v H H' hi ⟨vs, hl, hv⟩ ⟨e, y⟩
    exact ⟨e, y⟩
  · rintro ρ G st H hp hg gd r
    obtain ⟨h2, q2⟩ := seqR_later hp hg gd h q
    obtain ⟨a', vs, e, t, c⟩ := seqR_ok r h2 q2
    cases e
    exact ⟨vs, c.len.symm, t⟩
  · rintro i v ρ G st H H' hi hp hg gd r ⟨rfl, y⟩
    obtain ⟨h2, q2⟩ := seqR_later hp hg gd h q
    obtain ⟨a', vs, e, t, c⟩ := seqR_ok r h2 q2
    cases e
    obtain ⟨w, z1, z2⟩ := c.get (List.getElem?_eq_getElem hi)
    rw [y vs t] at z1; cases z1
    exact ⟨G, _, .refl, r, List.getElem?_eq_getElem hi, z2⟩
theorem it_tup {K : PySem.W.Frag} {mg : Str → Option Value} {ρ0 : List Addr} {G0 H0 : Hp} {st0 : Sto} {x : Val} {a : Addr} {xs : List Val} (r0 : Rel K mg ρ0 G0 st0 H0) (h : seqT x = some xs) (q : RV K mg ρ0 G0 x (.ref a)) : IterOk K mg (Itt K a) xs none ρ0 G0 st0 := by
  refine ⟨fun H => ∃ vs, vs.length = xs.length ∧ SqT K H a vs, fun i H v H' => H' = H ∧ ∀ vs, SqT K H a vs → vs[i]? = some v, ⟨?_, ?_, ?_⟩, ?_, ?_⟩
  · rintro i H hi ⟨vs, hl, hv⟩
    have l : i < vs.length := by rw [hl]; exact hi
    exact ⟨vs, vs[i], hv, List.getElem?_eq_getElem l⟩
  · rintro H ⟨vs, hl, hv⟩
    exact ⟨vs, hv, by rw [hl]; exact Nat.le_refl _⟩
  · rintro i v H H' hi ⟨vs, hl, hv⟩ ⟨e, y⟩
    exact ⟨e, y⟩
  · rintro ρ G st H hp hg gd r
    obtain ⟨a', vs, e, t, c, _⟩ := seqT_ok r h (rv_mono hp hg q)
    cases e
    exact ⟨vs, c.len.symm, t⟩
  · rintro i v ρ G st H H' hi hp hg gd r ⟨rfl, y⟩
    obtain ⟨a', vs, e, t, c, _⟩ := seqT_ok r h (rv_mono hp hg q)
    cases e
    obtain ⟨w, z1, z2⟩ := c.get (List.getElem?_eq_getElem hi)
    rw [y vs t] at z1; cases z1
    exact ⟨G, _, .refl, r, List.getElem?_eq_getElem hi, z2⟩
def mIt (m : ME) : MI := fun env st => (m env st).bind itF
theorem si_seq (h : SE X W e m) : SI X W tg e (mIt m) := by
  obtain ⟨t, p, s⟩ := h
  refine ⟨_, pi_seq p, fun σ H env st ρ G R he hr h => ?_⟩
  refine s σ H env st ρ G _ he hr ((Ok.bind (R := RV X.K X.mg) h).imp fun u H1 ⟨x, ρ1, G1, st1, e1, r1, q1, o1⟩ => ?_)
  unfold itF at o1
  split at o1
  · rename_i xs z
    obtain ⟨a, vs, rfl, t, c⟩ := seqR_ok r1 z q1
    exact ⟨a, rfl, .inl ⟨⟨vs, t⟩, Ok.ret o1 r1 (it_list r1 z q1)⟩⟩
  · split at o1
    · rename_i xs z
      obtain ⟨a, vs, rfl, t, c, _⟩ := seqT_ok r1 z q1
      exact ⟨a, rfl, .inr ⟨⟨vs, t⟩, Ok.ret o1 r1 (it_tup r1 z q1)⟩⟩
    · exact o1.elim
/-! ### ranges -/
def rangeL (lo : Int) (n : Nat) : List Val := (List.range n).map fun i => .d (.int (lo + (i : Nat)))
theorem it_range {K : PySem.W.Frag} {mg : Str → Option Value} {ρ0 : List Addr} {G0 : Hp} {st0 : Sto} {lo : Int} {n : Nat} : IterOk K mg (Itr lo n) (rangeL lo n) none ρ0 G0 st0 := by
  have l : (rangeL lo n).length = n := by simp [rangeL]
  refine ⟨fun _ => True, YFn fun i => .int (lo + (i : Nat)), by rw [l]; exact walk_range, fun _ _ _ _ _ _ _ _ => trivial, ?_⟩
  rintro i v ρ G st H H' hi hp hg gd r ⟨rfl, rfl⟩
  refine ⟨G, .d (.int (lo + (i : Nat))), .refl, r, ?_, .d (.int _)⟩
  rw [l] at hi
  simp [rangeL, hi]
def mRg1 (m : ME) : MI := fun env st => (m env st).bind fun x st1 => match x with
  | .d (.int j) => if -(2 ^ 62) ≤ j ∧ j < 2 ^ 62 then .ok (rangeL 0 j.toNat, none, st1) st1 else .bad
  | _ => .bad
def mRg2 (ma mb : ME) : MI := fun env st => (ma env st).bind fun x st1 => (mb env st1).bind fun y st2 => match x, y with
  | .d (.int i), .d (.int j) => if -(2 ^ 62) ≤ i ∧ i < 2 ^ 62 ∧ -(2 ^ 62) ≤ j ∧ j < 2 ^ 62 then .ok (rangeL i (j - i).toNat, none, st2) st2 else .bad
  | _, _ => .bad
theorem si_range1 {p : Pos} (g : Gd D X W N sc k) (hg : glB sc "range" = true) (hm : D.mg "range" = none) (ha : SE X W a ma) (hs : starEach [a] X.env = [(false, eval a X.env)] := by rfl) : SI X W tg (.Call (.Name "range" p) [a] [] pos) (mRg1 ma) := by
  obtain ⟨t, pa, sa⟩ := ha
  refine ⟨_, pi_range1 (g.gl hg) (by rw [g.hmg]; exact hm) (pa_cons pa pa_nil hs) hs, fun σ H env st ρ G R he hr h => ?_⟩
  refine sa σ H env st ρ G _ he hr ((Ok.bind (R := RV X.K X.mg) h).imp fun us H1 ⟨x, ρ1, G1, st1, e1, r1, q1, o1⟩ => ?_)
  split at o1
  · split at o1
    · rename_i hl
      rw [rv_int q1]
      exact ⟨_, rfl, hl.1, hl.2, Ok.ret o1 r1 it_range⟩
    · exact o1.elim
  · exact o1.elim
theorem si_range2 {p : Pos} (g : Gd D X W N sc k) (hg : glB sc "range" = true) (hm : D.mg "range" = none) (ha : SE X W a ma) (hb : SE X W b mb) (hs : starEach [a, b] X.env = [(false, eval a X.env), (false, eval b X.env)] := by rfl) (hs2 : starEach [b] X.env = [(false, eval b X.env)] := by rfl) : SI X W tg (.Call (.Name "range" p) [a, b] [] pos) (mRg2 ma mb) := by
  obtain ⟨ta, pa, sa⟩ := ha
  obtain ⟨tb, pb, sb⟩ := hb
  refine ⟨_, pi_range2 (g.gl hg) (by rw [g.hmg]; exact hm) (pa_cons pa (pa_cons pb pa_nil hs2) (by rw [hs, hs2])) hs hs2, fun σ H env st ρ G R he hr h => ?_⟩
  refine sa σ H env st ρ G _ he hr ((Ok.bind (R := RV X.K X.mg) h).imp fun u H1 ⟨x, ρ1, G1, st1, e1, r1, q1, o1⟩ => ?_)
  refine sb σ H1 env st1 ρ1 G1 _ (he.ext e1) r1 ((Ok.bind (R := RV X.K X.mg) o1).imp fun v H2 ⟨y, ρ2, G2, st2, e2, r2, q2, o2⟩ => ?_)
  split at o2
  · split at o2
    · rename_i hl
      rw [rv_int q1, rv_int q2]
      exact ⟨_, _, rfl, hl, Ok.ret o2 r2 it_range⟩
    · exact o2.elim
  · exact o2.elim
/-! ### pairs: zip, enumerate -/
/-- a new pair -/
theorem pair_rv {K : PySem.W.Frag} {mg : Str → Option Value} {ρ : List Addr} {G H : Hp} {st : Sto} {T : Addr} {x y : V} {p q : Val} (r : Rel K mg ρ G st H) (hT : H T = none) (hx : RV K mg ρ G p x) (hy : RV K mg ρ G q y) :
    ∃ G', Ext ρ G H ρ G' (upd H T (.tup [x, y])) ∧ Rel K mg ρ G' st (upd H T (.tup [x, y])) ∧ RV K mg ρ G' (.p [p, q]) (.ref T) :=
  ⟨_, .newG hT (r.freeG hT), r.newG hT, .p (.inl (.inl upd_same)) (rvs_mono ⟨[], by simp⟩ (upd_grow (r.freeG hT)) (.cons hx (.cons hy .nil)))⟩
def zipL (xs ys : List Val) : List Val := List.zipWith (fun x y => Val.p [x, y]) xs ys
def zipF (x y : Val) (st : Sto) : Out (List Val × Option Nat × Sto) := match x, y with
  | .d (.list xs), .d (.list ys) => .ok (zipL (xs.map .d) (ys.map .d), none, st) st
  | .d (.tuple xs), .d (.tuple ys) => .ok (zipL (xs.map .d) (ys.map .d), none, st) st
  | .c n, .c m => (match seqL st (.c n), seqL st (.c m) with
    | some xs, some ys => .ok (zipL xs ys, some (2 * (max n m + 1) + 1), st) st
    | _, _ => .bad)
  | _, _ => .bad
def mZip (ma mb : ME) : MI := fun env st => (ma env st).bind fun x st1 => (mb env st1).bind fun y st2 => zipF x y st2
theorem zipL_len (xs ys : List Val) : (zipL xs ys).length = min xs.length ys.length := by simp [zipL]
theorem it_zipL {K : PySem.W.Frag} {mg : Str → Option Value} {ρ0 : List Addr} {G0 : Hp} {st0 : Sto} {a b : Addr} {xs ys : List PyData} (qx : RV K mg ρ0 G0 (.d (.list xs)) (.ref a)) (qy : RV K mg ρ0 G0 (.d (.list ys)) (.ref b)) : IterOk K mg (Itz K a b) (zipL (xs.map .d) (ys.map .d)) none ρ0 G0 st0 := by
  cases rv_dat qx with
  | lst h1 r1 =>
  cases rv_dat qy with
  | lst h2 r2 =>
    rename_i vs us
    have c1 := RVs.of_dq (mg := mg) (ρ := ρ0) r1
    have c2 := RVs.of_dq (mg := mg) (ρ := ρ0) r2
    have hn : (zipL (xs.map .d) (ys.map .d)).length = min vs.length us.length := by rw [zipL_len, c1.len, c2.len]
    refine ⟨_, _, by rw [hn]; exact walk_zip rfl, ?_, ?_⟩
    · rintro ρ G st H hp hg gd r
      exact ⟨.inl (.inl (r.sub _ _ (hg _ _ h1))), .inl (.inl (r.sub _ _ (hg _ _ h2)))⟩
    · rintro i v ρ G st H H' hi hp hg gd r ⟨T, x, y, rfl, hT, rfl, e1, e2⟩
      obtain ⟨l1, l2⟩ : i < (xs.map Val.d).length ∧ i < (ys.map Val.d).length := by rw [zipL_len] at hi; omega
      obtain ⟨w1, z1, z2⟩ := (rvs_mono hp hg c1).get (List.getElem?_eq_getElem l1)
      obtain ⟨w2, z3, z4⟩ := (rvs_mono hp hg c2).get (List.getElem?_eq_getElem l2)
      dsimp only at e1 e2
      rw [e1] at z1; cases z1
      rw [e2] at z3; cases z3
      obtain ⟨G', f1, f2, f3⟩ := pair_rv r hT z2 z4
      exact ⟨G', _, f1, f2, by unfold zipL; rw [List.getElem?_zipWith, List.getElem?_eq_getElem l1, List.getElem?_eq_getElem l2], f3⟩
theorem it_zipC {K : PySem.W.Frag} {mg : Str → Option Value} {ρ0 : List Addr} {G0 : Hp} {st0 : Sto} {a b : Addr} {n m : Nat} {xs ys : List Val} (h1 : seqL st0 (.c n) = some xs) (h2 : seqL st0 (.c m) = some ys) (qx : RV K mg ρ0 G0 (.c n) (.ref a)) (qy : RV K mg ρ0 G0 (.c m) (.ref b)) : IterOk K mg (Itz K a b) (zipL xs ys) (some (2 * (max n m + 1) + 1)) ρ0 G0 st0 := by
  refine ⟨fun H => ∃ vs us, vs.length = xs.length ∧ us.length = ys.length ∧ SqL K H a vs ∧ SqL K H b us, fun i H v H' => ∃ T x y, v = .ref T ∧ H T = none ∧ H' = upd H T (.tup [x, y]) ∧ (∀ xs, SqL K H a xs → xs[i]? = some x) ∧ ∀ ys, SqL K H b ys → ys[i]? = some y, ⟨?_, ?_, ?_⟩, ?_, ?_⟩
  · rintro i H hi ⟨vs, us, e1, e2, hv, hu⟩
    rw [zipL_len] at hi
    have l1 : i < vs.length := by omega
    have l2 : i < us.length := by omega
    exact ⟨vs, us, vs[i], us[i], hv, hu, List.getElem?_eq_getElem l1, List.getElem?_eq_getElem l2⟩
  · rintro H ⟨vs, us, e1, e2, hv, hu⟩
    exact ⟨vs, us, hv, hu, by rw [zipL_len]; omega⟩
  · rintro i H v H' hi _ ⟨T, x, y, e1, e2, e3, e4, e5⟩
    exact ⟨T, x, y, e1, e2, e3, e4, e5⟩
  · rintro ρ G st H hp hg gd r
    have g1 : seqL st (.c n) = some xs := by
      have e := gdP_pre (m := n) gd (by omega)
      show (match st[n]? with | some (.lst xs) => some xs | _ => none) = _
      rw [e]; exact h1
    have g2 : seqL st (.c m) = some ys := by
      have e := gdP_pre (m := m) gd (by omega)
      show (match st[m]? with | some (.lst xs) => some xs | _ => none) = _
      rw [e]; exact h2
    obtain ⟨a', vs, e, t, c⟩ := seqL_ok r g1 (rv_mono hp hg qx)
    cases e
    obtain ⟨b', us, e, t2, c2⟩ := seqL_ok r g2 (rv_mono hp hg qy)
    cases e
    exact ⟨vs, us, c.len.symm, c2.len.symm, .inl (.inl t), .inl (.inl t2)⟩
  · rintro i v ρ G st H H' hi hp hg gd r ⟨T, x, y, rfl, hT, rfl, e1, e2⟩
    have g1 : seqL st (.c n) = some xs := by
      have e := gdP_pre (m := n) gd (by omega)
      show (match st[n]? with | some (.lst xs) => some xs | _ => none) = _
      rw [e]; exact h1
    have g2 : seqL st (.c m) = some ys := by
      have e := gdP_pre (m := m) gd (by omega)
      show (match st[m]? with | some (.lst xs) => some xs | _ => none) = _
      rw [e]; exact h2
    obtain ⟨a', vs, e, t, c⟩ := seqL_ok r g1 (rv_mono hp hg qx)
    cases e
    obtain ⟨b', us, e, t2, c2⟩ := seqL_ok r g2 (rv_mono hp hg qy)
    cases e
    obtain ⟨l1, l2⟩ : i < xs.length ∧ i < ys.length := by rw [zipL_len] at hi; omega
    obtain ⟨w1, z1, z2⟩ := c.get (List.getElem?_eq_getElem l1)
    obtain ⟨w2, z3, z4⟩ := c2.get (List.getElem?_eq_getElem l2)
    rw [e1 vs (.inl (.inl t))] at z1; cases z1
    rw [e2 us (.inl (.inl t2))] at z3; cases z3
    obtain ⟨G', f1, f2, f3⟩ := pair_rv r hT z2 z4
    exact ⟨G', _, f1, f2, by unfold zipL; rw [List.getElem?_zipWith, List.getElem?_eq_getElem l1, List.getElem?_eq_getElem l2], f3⟩
theorem walk_zipT {K : PySem.W.Frag} {a b : Addr} {xs ys : List V} {n : Nat} (hn : n = min xs.length ys.length) : Walk (RZ.ItzT K a b) n (fun H => SqT K H a xs ∧ SqT K H b ys) (YPair (fun i => xs[i]?) (fun i => ys[i]?)) := by
  refine ⟨?_, ?_, ?_⟩
  · rintro i H hi ⟨h1, h2⟩
    have l1 : i < xs.length := by omega
    have l2 : i < ys.length := by omega
    exact ⟨xs, ys, xs[i], ys[i], h1, h2, List.getElem?_eq_getElem l1, List.getElem?_eq_getElem l2⟩
  · rintro H ⟨h1, h2⟩
    exact ⟨xs, ys, h1, h2, by omega⟩
  · rintro i H v H' hi ⟨h1, h2⟩ ⟨T, x, y, e1, e2, e3, e4, e5⟩
    exact ⟨T, x, y, e1, e2, e3, e4 xs h1, e5 ys h2⟩
theorem it_zipT {K : PySem.W.Frag} {mg : Str → Option Value} {ρ0 : List Addr} {G0 : Hp} {st0 : Sto} {a b : Addr} {xs ys : List PyData} (qx : RV K mg ρ0 G0 (.d (.tuple xs)) (.ref a)) (qy : RV K mg ρ0 G0 (.d (.tuple ys)) (.ref b)) : IterOk K mg (RZ.ItzT K a b) (zipL (xs.map .d) (ys.map .d)) none ρ0 G0 st0 := by
  cases rv_dat qx with
  | tup h1 r1 =>
  cases rv_dat qy with
  | tup h2 r2 =>
    rename_i vs us
    have c1 := RVs.of_dq (mg := mg) (ρ := ρ0) r1
    have c2 := RVs.of_dq (mg := mg) (ρ := ρ0) r2
    have hn : (zipL (xs.map .d) (ys.map .d)).length = min vs.length us.length := by rw [zipL_len, c1.len, c2.len]
    refine ⟨_, _, by rw [hn]; exact walk_zipT rfl, ?_, ?_⟩
    · rintro ρ G st H hp hg gd r
      exact ⟨sqT_mono r.sub (sqT_mono hg h1.sq), sqT_mono r.sub (sqT_mono hg h2.sq)⟩
    · rintro i v ρ G st H H' hi hp hg gd r ⟨T, x, y, rfl, hT, rfl, e1, e2⟩
      obtain ⟨l1, l2⟩ : i < (xs.map Val.d).length ∧ i < (ys.map Val.d).length := by rw [zipL_len] at hi; omega
      obtain ⟨w1, z1, z2⟩ := (rvs_mono hp hg c1).get (List.getElem?_eq_getElem l1)
      obtain ⟨w2, z3, z4⟩ := (rvs_mono hp hg c2).get (List.getElem?_eq_getElem l2)
      dsimp only at e1 e2
      rw [e1] at z1; cases z1
      rw [e2] at z3; cases z3
      obtain ⟨G', f1, f2, f3⟩ := pair_rv r hT z2 z4
      exact ⟨G', _, f1, f2, by unfold zipL; rw [List.getElem?_zipWith, List.getElem?_eq_getElem l1, List.getElem?_eq_getElem l2], f3⟩
theorem dq_list {K : PySem.W.Frag} {G : Hp} {u : V} {xs : List PyData} (h : Dq K G u (.list xs)) : ∃ a vs, u = .ref a ∧ G a = some (.lst vs) ∧ DqAll K G vs xs := by
  cases h with | lst h r => exact ⟨_, _, rfl, h, r⟩
theorem dq_tup {K : PySem.W.Frag} {G : Hp} {u : V} {xs : List PyData} (h : Dq K G u (.tuple xs)) : ∃ a vs, u = .ref a ∧ SqT K G a vs ∧ DqAll K G vs xs := by
  cases h with | tup h r => exact ⟨_, _, rfl, h.sq, r⟩
theorem si_zip {p tpos : Pos} {elts : List Expr} {kk : Nat} (g : Gd D X W N sc k) (hg : glB sc "zip" = true) (hm : D.mg "zip" = none) (ha : SE X W a ma) (hb : SE X W b mb) (hs : starEach [a, b] X.env = (false, eval a X.env) :: starEach [b] X.env := by rfl) (hs2 : starEach [b] X.env = (false, eval b X.env) :: starEach [] X.env := by rfl) (hpl : (backTo pos (starEach [b] X.env)).any (·.1) = false := by rfl) : SI X W (.Tuple elts kk tpos) (.Call (.Name "zip" p) [a, b] [] pos) (mZip ma mb) := by
  obtain ⟨ta, pa, sa⟩ := ha
  obtain ⟨tb, pb, sb⟩ := hb
  refine ⟨_, RZ.pi_zipA (g.gl hg) (by rw [g.hmg]; exact hm) (pa_cons pa (pa_cons pb pa_nil hs2) hs) hs hpl, fun σ H env st ρ G R he hr h => ?_⟩
  refine sa σ H env st ρ G _ he hr ((Ok.bind (R := RV X.K X.mg) h).imp fun u H1 ⟨x, ρ1, G1, st1, e1, r1, q1, o1⟩ => ?_)
  refine sb σ H1 env st1 ρ1 G1 _ (he.ext e1) r1 ((Ok.bind (R := RV X.K X.mg) o1).imp fun v H2 ⟨y, ρ2, G2, st2, e2, r2, q2, o2⟩ => ?_)
  have q1 := e2.rv q1
  unfold zipF at o2
  split at o2
  · rename_i xs ys
    obtain ⟨a1, vs, rfl, g1, d1⟩ := dq_list (rv_dat q1)
    obtain ⟨a2, us, rfl, g2, d2⟩ := dq_list (rv_dat q2)
    exact ⟨a1, a2, vs, us, rfl, .inl ⟨.inl (.inl (r2.sub _ _ g1)), .inl (.inl (r2.sub _ _ g2)), Ok.ret o2 r2 (it_zipL q1 q2)⟩⟩
  · rename_i xs ys
    obtain ⟨a1, vs, rfl, g1, d1⟩ := dq_tup (rv_dat q1)
    obtain ⟨a2, us, rfl, g2, d2⟩ := dq_tup (rv_dat q2)
    exact ⟨a1, a2, vs, us, rfl, .inr ⟨sqT_mono r2.sub g1, sqT_mono r2.sub g2, Ok.ret o2 r2 (it_zipT q1 q2)⟩⟩
  · rename_i n m
    split at o2
    · rename_i xs ys h1 h2
      obtain ⟨a1, vs, rfl, t1, d1⟩ := seqL_ok r2 h1 q1
      obtain ⟨a2, us, rfl, t2, d2⟩ := seqL_ok r2 h2 q2
      exact ⟨a1, a2, vs, us, rfl, .inl ⟨.inl (.inl t1), .inl (.inl t2), Ok.ret o2 r2 (it_zipC h1 h2 q1 q2)⟩⟩
    · exact o2.elim
  · exact o2.elim
def enumL (n : Nat) : List Val → List Val
  | [] => []
  | x :: r => Val.p [.d (.int n), x] :: enumL (n + 1) r
theorem enumL_len : ∀ (n : Nat) (xs : List Val), (enumL n xs).length = xs.length
  | _, [] => rfl
  | n, x :: r => by simp [enumL, enumL_len (n + 1) r]
theorem enumL_get : ∀ (n : Nat) (xs : List Val) (i : Nat) (x : Val), xs[i]? = some x → (enumL n xs)[i]? = some (Val.p [.d (.int ((n + i : Nat) : Int)), x])
  | n, y :: r, 0, x, h => by simp at h; subst h; simp [enumL]
  | n, y :: r, i + 1, x, h => by
    have := enumL_get (n + 1) r i x (by simpa using h)
    simp only [enumL, List.getElem?_cons_succ]
    rw [this, show n + 1 + i = n + (i + 1) by omega]
  | _, [], _, _, h => by simp at h
theorem it_enumL {K : PySem.W.Frag} {mg : Str → Option Value} {ρ0 : List Addr} {G0 : Hp} {st0 : Sto} {a : Addr} {x : Val} {xs : List Val} (h : seqR st0 x = some xs) (q : RV K mg ρ0 G0 x (.ref a)) : IterOk K mg (Ite K a) (enumL 0 xs) (cellOf x) ρ0 G0 st0 := by
  refine ⟨fun H => ∃ vs, vs.length = xs.length ∧ SqL K H a vs, fun i H v H' => ∃ T x, v = .ref T ∧ H T = none ∧ H' = upd H T (.tup [.int (i : Nat), x]) ∧ ∀ xs, SqL K H a xs → xs[i]? = some x, ⟨?_, ?_, ?_⟩, ?_, ?_⟩
  · rintro i H hi ⟨vs, hl, hv⟩
    rw [enumL_len] at hi
    have l : i < vs.length := by rw [hl]; exact hi
    exact ⟨vs, vs[i], hv, List.getElem?_eq_getElem l⟩
  · rintro H ⟨vs, hl, hv⟩
    exact ⟨vs, hv, by rw [enumL_len, hl]; exact Nat.le_refl _⟩
  · rintro i v H H' hi ⟨vs, hl, hv⟩ y
    exact y
  · rintro ρ G st H hp hg gd r
    obtain ⟨h2, q2⟩ := seqR_later hp hg gd h q
    obtain ⟨a', vs, e, t, c⟩ := seqR_ok r h2 q2
    cases e
    exact ⟨vs, c.len.symm, t⟩
  · rintro i v ρ G st H H' hi hp hg gd r ⟨T, y, rfl, hT, rfl, f⟩
    rw [enumL_len] at hi
    obtain ⟨h2, q2⟩ := seqR_later hp hg gd h q
    obtain ⟨a', vs, e, t, c⟩ := seqR_ok r h2 q2
    cases e
    obtain ⟨w, z1, z2⟩ := c.get (List.getElem?_eq_getElem hi)
    rw [f vs t] at z1; cases z1
    obtain ⟨G', f1, f2, f3⟩ := pair_rv (p := .d (.int (i : Nat))) r hT (.d (.int _)) z2
    refine ⟨G', _, f1, f2, ?_, f3⟩
    have := enumL_get 0 xs i _ (List.getElem?_eq_getElem hi)
    simpa using this
def enuF (x : Val) (st : Sto) : Out (List Val × Option Nat × Sto) := match seqR st x with
  | some xs => .ok (enumL 0 xs, cellOf x, st) st
  | none => .bad
def mEnu (m : ME) : MI := fun env st => (m env st).bind enuF
theorem si_enumL {p tpos : Pos} {elts : List Expr} {kk : Nat} (g : Gd D X W N sc k) (hg : glB sc "enumerate" = true) (hm : D.mg "enumerate" = none) (ha : SE X W a ma) (hs : starEach [a] X.env = [(false, eval a X.env)] := by rfl) : SI X W (.Tuple elts kk tpos) (.Call (.Name "enumerate" p) [a] [] pos) (mEnu ma) := by
  obtain ⟨ta, pa, sa⟩ := ha
  refine ⟨_, pi_enum (g.gl hg) (by rw [g.hmg]; exact hm) (pa_cons pa pa_nil hs) hs, fun σ H env st ρ G R he hr h => ?_⟩
  refine sa σ H env st ρ G _ he hr ((Ok.bind (R := RV X.K X.mg) h).imp fun u H1 ⟨x, ρ1, G1, st1, e1, r1, q1, o1⟩ => ?_)
  unfold enuF at o1
  split at o1
  · rename_i xs z
    obtain ⟨a, vs, rfl, t, c⟩ := seqR_ok r1 z q1
    exact ⟨a, vs, rfl, t, Ok.ret o1 r1 (it_enumL z q1)⟩
  · exact o1.elim
/-! ### for -/
open Classical in
/-- the turns -/
noncomputable def forM (gd : Option Nat) (st0 : Sto) (g : MTg) (body : MS) (kill : List Nat) : List Val → Env → Sto → Fl
  | [], env, st => if gdP gd st0 st then .next env st else .bad
  | x :: xs, env, st => if gdP gd st0 st then (match g x env with
    | none => .bad
    | some env1 => match body env1 st with
      | .next env2 st2 => forM gd st0 g body kill xs (killE kill env2) st2
      | .cont env2 st2 => forM gd st0 g body kill xs (killE kill env2) st2
      | .brk env2 st2 => .next (killE kill env2) st2
      | f => f) else .bad
noncomputable def sFor (mi : MI) (g : MTg) (body : MS) (kill : List Nat) : MS := fun env st => (mi env st).flo env fun a st1 => forM a.2.1 a.2.2 g body kill a.1 (killE kill env) st1
theorem forM_gd {gd : Option Nat} {st0 : Sto} {g : MTg} {body : MS} {kill : List Nat} {xs : List Val} {env : Env} {st : Sto} {ρ : List Addr} {G H : Hp} {De : Ends} (h : OkS W X.K X.mg ρ G H (forM gd st0 g body kill xs env st) De) : gdP gd st0 st := by
  by_cases z : gdP gd st0 st
  · exact z
  · cases xs with
    | nil => unfold forM at h; rw [if_neg z] at h; exact h.elim
    | cons x xs => unfold forM at h; rw [if_neg z] at h; exact h.elim
theorem ss_for {it : Expr} {body : List Stmt} {mi : MI} {g : MTg} {sl : List Nat} {nb : MS} (kill : List Nat) (gs : Gs D X W N sc k) (hi : SI X W tg it mi) (hg : SG X W tg sl g) (hb : SB X W body nb) (hs : ∀ x, foldedSetIterable it X.env x = pure x := by intro _; rfl) : SS X W (.For tg it body [] pos) (sFor mi g nb kill) := by
  obtain ⟨wi, pi, si⟩ := hi
  obtain ⟨tg', pg, sg⟩ := hg
  obtain ⟨tb, pb, sb⟩ := hb
  refine ⟨_, ps_for gs.po gs.calm pi pg pb hs, fun σ H env st ρ G De he hr h => ?_⟩
  refine si σ H env st ρ G _ he hr ((Ok.flo (R := RI X.K X.mg) he h).imp fun J H1 ⟨⟨items, gd, st0⟩, ρ1, G1, st1, e1, r1, q1, o1⟩ => ?_)
  obtain ⟨Gd, Y, wk, hG, hY⟩ := q1
  refine for_it wk (fun i σ' H' => ∃ ρ2 G2 st2 env2, Ext ρ1 G1 H1 ρ2 G2 H' ∧ Rel X.K X.mg ρ2 G2 st2 H' ∧ ER X.K X.mg ρ2 G2 env2 σ' ∧ OkS W X.K X.mg ρ2 G2 H' (forM gd st0 g nb kill (items.drop i) env2 st2) De)
    ⟨ρ1, G1, st1, killE kill env, .refl, r1, (he.ext e1).kill, o1⟩ ?_ ?_ ?_
  · rintro i σ' H' hi ⟨ρ2, G2, st2, env2, x1, x2, x3, x4⟩
    exact hG ρ2 G2 st2 H' (x1.pre.imp fun _ h => h.1) x1.grow (forM_gd x4) x2
  · rintro i v σ' H' H'' hi ⟨ρ2, G2, st2, env2, x1, x2, x3, x4⟩ y
    have z := forM_gd x4
    obtain ⟨G3, x, y1, y2, y3, y4⟩ := hY i v ρ2 G2 st2 H' H'' hi (x1.pre.imp fun _ h => h.1) x1.grow z x2 y
    have ed : items.drop i = x :: items.drop (i + 1) := by
      rw [List.drop_eq_getElem_cons hi]
      rw [List.getElem?_eq_getElem hi] at y3
      rw [Option.some.inj y3]
    rw [ed] at x4
    unfold forM at x4
    rw [if_pos z] at x4
    have x4 := OkS.ext y1 x4
    have x3 := x3.ext y1
    have xx := x1.trans y1
    split at x4
    · exact x4.elim
    · rename_i env1 ge
      refine sg σ' H'' env2 env1 st2 ρ2 G3 x v _ x3 y2 y4 ge fun σ2 he2 _ => ?_
      refine sb σ2 H'' env1 st2 ρ2 G3 _ he2 y2 ?_
      split at x4
      · rename_i env3 st3 be
        rw [be]
        exact fun ρ4 G4 H4 σ4 w1 w2 w3 => ⟨ρ4, G4, st3, _, xx.trans w1, w2, w3.kill, OkS.ext w1 x4⟩
      · rename_i env3 st3 be
        rw [be]
        exact fun ρ4 G4 H4 σ4 w1 w2 w3 => ⟨ρ4, G4, st3, _, xx.trans w1, w2, w3.kill, OkS.ext w1 x4⟩
      · rename_i env3 st3 be
        rw [be]
        exact fun ρ4 G4 H4 σ4 w1 w2 w3 => x4 ρ4 G4 H4 σ4 w1 w2 w3.kill
      · rename_i n1 n2 n3
        cases be : nb env1 st2 with
        | next env3 st3 => exact absurd be (n1 _ _)
        | cont env3 st3 => exact absurd be (n2 _ _)
        | brk env3 st3 => exact absurd be (n3 _ _)
        | ret w st3 => rw [be] at x4; exact x4
        | exc w env3 st3 => rw [be] at x4; exact x4
        | bad => rw [be] at x4; exact x4
  · rintro σ' H' ⟨ρ2, G2, st2, env2, x1, x2, x3, x4⟩
    have z := forM_gd x4
    rw [List.drop_length] at x4
    unfold forM at x4
    rw [if_pos z] at x4
    exact x4 ρ2 G2 H' σ' .refl x2 x3
/-! ### comprehensions -/
/-- the tests of a clause -/
def PTS (X : Cx) (W : WX) (ifs : List Expr) (m : MT) : Prop := ∃ t, PTs X ifs t ∧ ∀ (σ : List (Option V)) H env st ρ G Q, ER X.K X.mg ρ G env σ → Rel X.K X.mg ρ G st H → Ok X.K X.mg RB ρ G H (fun c d H => W c d σ H) (m env st) Q → t σ H Q
def mYes : MT := fun _ st => .ok true st
theorem pts_no : PTS X W [] mYes := ⟨_, pts_nil, fun σ H env st ρ G Q he hr h => h ρ G H true .refl hr rfl⟩
theorem pts_if {na : MT} (h : ST X W a na) : PTS X W [a] na := let ⟨t, p, s⟩ := h; ⟨t, pts_one p, s⟩
open Classical in
noncomputable def lcM (gd : Option Nat) (st0 : Sto) (g : MTg) (tt : MT) (el : ME) (env : Env) : List Val → Sto → Out (List Val)
  | [], st => if gdP gd st0 st then .ok [] st else .bad
  | x :: xs, st => if gdP gd st0 st then (match g x env with
    | none => .bad
    | some env1 => match tt env1 st with
      | .ok true st1 => (match el env1 st1 with
        | .ok v st2 => (lcM gd st0 g tt el env xs st2).map (v :: ·)
        | _ => .bad)
      | .ok false st1 => lcM gd st0 g tt el env xs st1
      | _ => .bad) else .bad
noncomputable def mLc (cell : Bool) (own : List Nat) (mi : MI) (g : MTg) (tt : MT) (el : ME) : ME := fun env st => (mi env st).bind fun a st1 => if a.1.length ≤ LINE then (lcM a.2.1 a.2.2 g tt el (killE own env) a.1 st1).bind (lstR cell) else .bad
abbrev W0 : WX := fun _ _ _ _ => False
theorem Gd.blk (g : Gd D X W N sc k) {scope : Scope} (s : Shared) (H : Hp) (C : Addr) (cl : List (Str × Addr)) (fp : List Addr) : Gd D (X.blk s H scope (compEnvC scope cl C X.env) fp) W0 N (sc.blk scope) k :=
  { hP := g.hP, hw := g.hw, hK := g.hK, hmg := g.hmg, hb := g.hb, hN := g.hN, nd := g.nd, hsc := by show relS scope X.env.scope = _; rw [g.hsc]; rfl, calm := g.calm, tk := takes0, room := g.room, fnc := fun x h => h }
/-- the state within a comprehension at turn i: the list at L holds us -/
structure LcAt (K : PySem.W.Frag) (mg : Str → Option Value) (ρ1 : List Addr) (G1 H1 : Hp) (L : Addr) (total : Out (List Val)) (rest : Sto → Out (List Val)) (i : Nat) (H' : Hp) : Prop where
  ex : ∃ ρ2 G2 st2 vs us, Ext ρ1 G1 H1 ρ2 G2 H' ∧ Rel K mg ρ2 G2 st2 H' ∧ H' L = some (.lst us) ∧ L ∉ ρ2 ∧ G2 L = none ∧ RVs K mg ρ2 G2 vs us ∧ vs.length ≤ i ∧ total = (rest st2).map (vs ++ ·)
theorem Out.map_map {α β γ : Type} (o : Out α) (f : α → β) (g : β → γ) : (o.map f).map g = o.map (fun x => g (f x)) := by cases o <;> rfl
theorem lc_sound {own : List (Str × Nat)} {mi : MI} {gt : MTg} {sl : List Nat} {tt : MT} {el : ME} {wi : TI} {g : TG} {t3 : TT} {t4 : TE} {XB : Cx}
    (hKB : XB.K = X.K) (hmB : XB.mg = X.mg)
    (hsl : ∀ i ∈ sl, i ∈ own.map (·.2))
    (si : ∀ (σ : List (Option V)) H env st ρ G (R : It → Hp → Prop), ER X.K X.mg ρ G env σ → Rel X.K X.mg ρ G st H → Ok X.K X.mg (RI X.K X.mg) ρ G H (fun c d H => W c d σ H) (mi env st) R → wi σ H R)
    (sg : ∀ (σ : List (Option V)) (H : Hp) (env env' : Env) (st : Sto) (ρ : List Addr) (G : Hp) (v : Val) (u : V) (Q : List (Option V) → Hp → Prop), ER XB.K XB.mg ρ G env σ → Rel XB.K XB.mg ρ G st H → RV XB.K XB.mg ρ G v u → gt v env = some env' →
      (∀ σ', ER XB.K XB.mg ρ G env' σ' → (∀ vs : List Nat, (∀ i ∈ sl, i ∈ vs) → wipe σ' vs = wipe σ vs) → Q σ' H) → g u σ H Q)
    (s3 : ∀ (σ : List (Option V)) H env st ρ G Q, ER XB.K XB.mg ρ G env σ → Rel XB.K XB.mg ρ G st H → Ok XB.K XB.mg RB ρ G H (fun c d H => W0 c d σ H) (tt env st) Q → t3 σ H Q)
    (s4 : ∀ (σ : List (Option V)) H env st ρ G Q, ER XB.K XB.mg ρ G env σ → Rel XB.K XB.mg ρ G st H → Ok XB.K XB.mg (RV XB.K XB.mg) ρ G H (fun c d H => W0 c d σ H) (el env st) Q → t4 σ H Q)
    (cell : Bool) (σ : List (Option V)) (H : Hp) (env : Env) (st : Sto) (ρ : List Addr) (G : Hp) (Q : VK) (he : ER X.K X.mg ρ G env σ) (hr : Rel X.K X.mg ρ G st H)
    (h : Ok X.K X.mg (RV X.K X.mg) ρ G H (fun c d H => W c d σ H) (mLc cell (own.map (·.2)) mi gt tt el env st) Q) : tLc wi g t3 t4 (own.map (·.2)) σ H Q := by
  rw [hKB, hmB] at sg s3 s4
  refine si σ H env st ρ G _ he hr ((Ok.bind (R := RI X.K X.mg) h).imp fun J H1 ⟨⟨items, gd, st0⟩, ρ1, G1, st1, e1, r1, q1, o1⟩ L hL => ?_)
  obtain ⟨Gd, Y, wk, hG, hY⟩ := q1
  dsimp only at o1 hG hY wk
  split at o1
  case isFalse => exact o1.elim
  case isTrue hlen =>
  have sh : sizeLine = LINE := line_eq
  generalize ht : lcM gd st0 gt tt el (killE (own.map (·.2)) env) items st1 = total at o1
  have nb : total ≠ .bad := fun z => by rw [z] at o1; exact o1
  have erw : ∀ ρ' G' H', Ext ρ1 G1 H1 ρ' G' H' → ER X.K X.mg ρ' G' (killE (own.map (·.2)) env) (wipe σ (own.map (·.2))) := fun ρ' G' H' x => by
    have h1 := (he.ext e1).ext x
    have : ∀ (l : List Nat) (env : Env) (τ : List (Option V)), ER X.K X.mg ρ' G' env τ → ER X.K X.mg ρ' G' (killE l env) (wipe τ l) := by
      intro l
      induction l with
      | nil => exact fun _ _ h => h
      | cons i l ih =>
        intro env τ h
        refine ⟨?_, fun j y q => ?_⟩
        · have := (ih (env.set i none) τ (h.wipe i)).1
          rw [wipe_length] at this
          rw [wipe_length]; exact this
        · have hk := ih (env.set i none) τ (h.wipe i)
          obtain ⟨v, v1, v2⟩ := hk.2 j y q
          refine ⟨v, ?_, v2⟩
          have ji : j ≠ i := fun z => by
            subst z
            have : ∀ (l : List Nat) (env : Env), env[j]? = some none ∨ env[j]? = none → (killE l env)[j]? = some none ∨ (killE l env)[j]? = none := by
              intro l
              induction l with
              | nil => exact fun _ h => h
              | cons m l ih2 =>
                intro env h
                refine ih2 _ ?_
                by_cases mj : m = j
                · subst mj
                  by_cases lt : m < env.length
                  · left; rw [List.getElem?_set_self lt]
                  · right; rw [List.getElem?_eq_none]; simpa using lt
                · rw [List.getElem?_set_ne mj]; exact h
            have hh := this l (env.set j none) (by
              by_cases lt : j < env.length
              · left; rw [List.getElem?_set_self lt]
              · right; rw [List.getElem?_eq_none]; simpa using lt)
            have q' : (killE l (env.set j none))[j]? = some (some y) := q
            rcases hh with hh | hh <;> rw [hh] at q' <;> cases q'
          show ((wipe τ l).set i none)[j]? = _
          rw [List.getElem?_set_ne (Ne.symm ji)]
          exact v1
    exact this _ env σ h1
  have turnok : ∀ {i : Nat} {H' : Hp} {xs : List Val} {ρ2 : List Addr} {G2 : Hp} {st2 : Sto} {vs : List Val}, total = (lcM gd st0 gt tt el (killE (own.map (·.2)) env) xs st2).map (vs ++ ·) → gdP gd st0 st2 := fun {i H' xs ρ2 G2 st2 vs} e => by
    refine Classical.byContradiction fun z => nb ?_
    cases xs with
    | nil => rw [e]; unfold lcM; rw [if_neg z]; rfl
    | cons x xs => rw [e]; unfold lcM; rw [if_neg z]; rfl
  refine lc_it wk (fun i H' => LcAt X.K X.mg ρ1 G1 H1 L total (lcM gd st0 gt tt el (killE (own.map (·.2)) env) (items.drop i)) i H') ?_ ?_ ?_ ?_
  · refine ⟨ρ1, G1, st1, [], [], .loose hL, r1.loose hL, upd_same, r1.free hL, r1.freeG hL, .nil, Nat.le_refl _, ?_⟩
    rw [List.drop_zero, ht]
    cases total <;> simp [Out.map]
  · rintro i H' hi ⟨ρ2, G2, st2, vs, us, x1, x2, x3, x4, x5, x6, x7, x8⟩
    exact hG ρ2 G2 st2 H' (x1.pre.imp fun _ h => h.1) x1.grow (turnok (i := i) (H' := H') (ρ2 := ρ2) (G2 := G2) x8) x2
  · rintro i v H' H'' hi ⟨ρ2, G2, st2, vs, us, x1, x2, x3, x4, x5, x6, x7, x8⟩ y
    have z := turnok (i := i) (H' := H') (ρ2 := ρ2) (G2 := G2) x8
    obtain ⟨G3, x, y1, y2, y3, y4⟩ := hY i v ρ2 G2 st2 H' H'' hi (x1.pre.imp fun _ h => h.1) x1.grow z x2 y
    have ed : items.drop i = x :: items.drop (i + 1) := by
      rw [List.drop_eq_getElem_cons hi]
      rw [List.getElem?_eq_getElem hi] at y3
      rw [Option.some.inj y3]
    rw [ed] at x8
    unfold lcM at x8
    rw [if_pos z] at x8
    have xx := x1.trans y1
    have xL : H'' L = some (.lst us) := y1.frame _ _ x3 x4
    have gL : G3 L = none := by
      cases q : G3 L with
      | none => rfl
      | some o =>
        rcases y1.gnew _ _ q with q | q | q
        · rw [x5] at q; cases q
        · rw [x3] at q; cases q
        · exact absurd q x4
    have lus : us.length < sizeLine := by rw [← x6.len, sh]; omega
    split at x8
    · exact absurd x8 nb
    · rename_i env1 ge
      refine sg (wipe σ (own.map (·.2))) H'' _ env1 st2 ρ2 G3 x v _ (erw ρ2 G3 H'' xx) y2 y4 ge ?_
      intro σ2 he2 hw
      refine ⟨?_, ?_⟩
      · rw [hw _ hsl]
        have : ∀ vs : List Nat, wipe (wipe σ vs) vs = wipe σ vs := by
          intro vs
          have key : ∀ (l : List Nat) (τ : List (Option V)), (∀ i ∈ l, τ[i]? = some none ∨ τ[i]? = none) → wipe τ l = τ := by
            intro l
            induction l with
            | nil => exact fun _ _ => rfl
            | cons a l ih =>
              intro τ h
              show (wipe τ l).set a none = τ
              rw [ih τ fun i hi => h i (List.mem_cons_of_mem _ hi)]
              rcases h a (List.mem_cons_self) with q | q
              · obtain ⟨lt, q2⟩ := List.getElem?_eq_some_iff.mp q
                rw [← q2]; exact List.set_getElem_self lt
              · exact List.set_eq_of_length_le (List.getElem?_eq_none_iff.mp q)
          refine key vs _ fun i hi => ?_
          have : ∀ (l : List Nat), i ∈ l → (wipe σ l)[i]? = some none ∨ (wipe σ l)[i]? = none := by
            intro l
            induction l with
            | nil => exact fun h => by simp at h
            | cons a l ih =>
              intro h
              show ((wipe σ l).set a none)[i]? = some none ∨ _
              by_cases ai : a = i
              · subst ai
                by_cases lt : a < (wipe σ l).length
                · left; rw [List.getElem?_set_self lt]
                · right; show ((wipe σ l).set a none)[a]? = none; rw [List.getElem?_eq_none]; simpa using lt
              · have il : i ∈ l := by
                  rcases List.mem_cons.mp h with q | q
                  · exact absurd q.symm ai
                  · exact q
                rw [List.getElem?_set_ne ai]
                rcases ih il with q | q
                · exact .inl q
                · right; show ((wipe σ l).set a none)[i]? = none; rw [List.getElem?_set_ne ai]; exact q
          exact this vs hi
        exact this _
      · refine s3 σ2 H'' env1 st2 ρ2 G3 _ he2 y2 ?_
        split at x8
        · rename_i st3 te
          rw [te]
          intro ρ4 G4 H4 b w1 w2 w3
          cases w3
          rw [if_pos rfl]
          refine s4 σ2 H4 env1 st3 ρ4 G4 _ (he2.ext w1) w2 ?_
          split at x8
          · rename_i v4 st4 ee
            rw [ee]
            intro ρ5 G5 H5 b5 z1 z2 z3
            have wz := w1.trans z1
            have nL : L ∉ ρ5 := fun q => by
              rcases wz.mem q with q | q
              · exact x4 q
              · rw [xL] at q; cases q
            have hL5 : H5 L = some (.lst us) := wz.frame _ _ xL x4
            have gL5 : G5 L = none := by
              cases q : G5 L with
              | none => rfl
              | some o =>
                rcases wz.gnew _ _ q with q | q | q
                · rw [gL] at q; cases q
                · rw [xL] at q; cases q
                · exact absurd q x4
            refine ⟨us, hL5, lus, ?_⟩
            have xE := xx.trans wz
            have extL : Ext ρ1 G1 H1 ρ5 G5 (upd H5 L (.lst (us ++ [b5]))) :=
              ⟨xE.pre, xE.grow, xE.gnew, fun a o q m => by
                have na : a ≠ L := fun z => by subst z; rw [hL] at q; cases q
                rw [upd_ne na]; exact xE.frame a o q m, fun a o q => by
                by_cases na : a = L
                · subst na; exact ⟨_, upd_same⟩
                · rw [upd_ne na]; exact xE.dom a o q⟩
            have relL : Rel X.K X.mg ρ5 G5 st4 (upd H5 L (.lst (us ++ [b5]))) :=
              ⟨z2.len, z2.nd, fun a o q => by
                have na : a ≠ L := fun z => by subst z; rw [gL5] at q; cases q
                rw [upd_ne na]; exact z2.sub a o q, z2.off, fun n a cl q1 q2 => by
                have na : a ≠ L := fun z => by subst z; exact nL (List.mem_of_getElem? q1)
                exact cell_mono ⟨[], by simp⟩ (fun _ _ h => h) (fun o q => by rw [upd_ne na]; exact q) (z2.cell n a cl q1 q2)⟩
            exact ⟨ρ5, G5, st4, vs ++ [v4], us ++ [b5], extL, relL, upd_same, nL, gL5, (wz.rvs (y1.rvs x6)).append (.cons z3 .nil), by simp; omega, by rw [x8, Out.map_map]; congr 1; funext l; simp⟩
          · exact absurd x8 nb
        · rename_i st3 te
          rw [te]
          intro ρ4 G4 H4 b w1 w2 w3
          cases w3
          rw [if_neg Bool.false_ne_true]
          have nL : L ∉ ρ4 := fun q => by
            rcases w1.mem q with q | q
            · exact x4 q
            · rw [xL] at q; cases q
          have gL4 : G4 L = none := by
            cases q : G4 L with
            | none => rfl
            | some o =>
              rcases w1.gnew _ _ q with q | q | q
              · rw [gL] at q; cases q
              · rw [xL] at q; cases q
              · exact absurd q x4
          exact ⟨ρ4, G4, st3, vs, us, xx.trans w1, w2, w1.frame _ _ xL x4, nL, gL4, w1.rvs (y1.rvs x6), by omega, x8⟩
        · exact absurd x8 nb
  · rintro H' ⟨ρ2, G2, st2, vs, us, x1, x2, x3, x4, x5, x6, x7, x8⟩
    have z := turnok (i := 0) (H' := H') (ρ2 := ρ2) (G2 := G2) x8
    rw [List.drop_length] at x8
    unfold lcM at x8
    rw [if_pos z] at x8
    simp only [Out.map, List.append_nil] at x8
    rw [x8] at o1
    have o1 : Ok X.K X.mg (RV X.K X.mg) ρ1 G1 H1 (fun c d H => W c d σ H) (lstR cell vs st2) Q := o1
    unfold lstR at o1
    cases cell with
    | true =>
      rw [if_pos rfl] at o1
      refine o1 (ρ2 ++ [L]) G2 H' (.ref L) ⟨?_, x1.grow, x1.gnew, x1.frame, x1.dom⟩ (x2.takeC x4 x5 (show CellOk X.K X.mg (ρ2 ++ [L]) G2 H' L (.lst vs) from ⟨us, x3, rvs_mono ⟨_, rfl⟩ (fun _ _ h => h) x6⟩)) (.c (by rw [← x2.len]; simp))
      obtain ⟨r, rfl, hr2⟩ := x1.pre
      exact ⟨r ++ [L], by simp, fun a ha => by
        rcases List.mem_append.mp ha with q | q
        · exact hr2 a q
        · rw [List.mem_singleton] at q; rw [q]; exact hL⟩
    | false =>
      rw [if_neg Bool.false_ne_true] at o1
      unfold newL at o1
      split at o1
      · rename_i ds e
        rw [datas_eq e] at x6
        refine o1 ρ2 (upd G2 L (.lst us)) H' (.ref L) ⟨x1.pre, fun a o q => upd_grow x5 a o (x1.grow a o q), fun a o q => ?_, x1.frame, x1.dom⟩ (x2.take x3 x4 x5) (.d (.lst upd_same (dqAll_mono (upd_grow x5) x6.to_dq)))
        by_cases na : a = L
        · subst na; exact .inr (.inl hL)
        · rw [upd_ne na] at q; exact x1.gnew a o q
      · exact o1.elim
/-! the readings that a meaning has -/
def tSE (K : PySem.W.Frag) (mg : Str → Option Value) (W : WX) (m : ME) : TE := fun σ H Q => ∃ env st ρ G, ER K mg ρ G env σ ∧ Rel K mg ρ G st H ∧ Ok K mg (RV K mg) ρ G H (fun c d H => W c d σ H) (m env st) Q
def tSTs (K : PySem.W.Frag) (mg : Str → Option Value) (W : WX) (m : MT) : TT := fun σ H Q => ∃ env st ρ G, ER K mg ρ G env σ ∧ Rel K mg ρ G st H ∧ Ok K mg RB ρ G H (fun c d H => W c d σ H) (m env st) Q
def tSG (K : PySem.W.Frag) (mg : Str → Option Value) (sl : List Nat) (g : MTg) : TG := fun u σ H Q => ∃ (env env' : Env) (st : Sto) (ρ : List Addr) (G : Hp) (v : Val), ER K mg ρ G env σ ∧ Rel K mg ρ G st H ∧ RV K mg ρ G v u ∧ g v env = some env' ∧ ∀ σ', ER K mg ρ G env' σ' → (∀ vs : List Nat, (∀ i ∈ sl, i ∈ vs) → wipe σ' vs = wipe σ vs) → Q σ' H
theorem SE.pe (h : SE X W e m) : PE X e (tSE X.K X.mg W m) := by
  obtain ⟨t, p, s⟩ := h
  exact ⟨fun pins sh σ H Q I ⟨env, st, ρ, G, a, b, c⟩ => p.run pins sh σ H Q I (s σ H env st ρ G Q a b c)⟩
theorem PTS.pts {ifs : List Expr} {m : MT} (h : PTS X W ifs m) : PTs X ifs (tSTs X.K X.mg W m) := by
  obtain ⟨t, p, s⟩ := h
  exact ⟨fun pins sh σ H Q I ⟨env, st, ρ, G, a, b, c⟩ => p.run pins sh σ H Q I (s σ H env st ρ G Q a b c)⟩
theorem SG.pg {sl : List Nat} {g : MTg} (h : SG X W tg sl g) : PG X tg (tSG X.K X.mg sl g) := by
  obtain ⟨t, p, s⟩ := h
  exact ⟨fun pins sh σ H v u Q I r ⟨env, env', st, ρ, G, w, a, b, c, d, f⟩ => p.run pins sh σ H v u Q I r (s σ H env env' st ρ G w v Q a b c d f)⟩
/-- the block of a comprehension: own lists its names with their slots -/
theorem se_lc (cell : Bool) {it elt : Expr} {ifs : List Expr} {scope : Scope} {own : List (Str × Nat)} {mi : MI} {gt : MTg} {sl : List Nat} {tt : MT} {el : ME} (g : Gd D X W N sc k) (hi : SI X W tg it mi) (hsl : sl.all (fun i => (own.map (·.2)).contains i) = true) (ok : blkC N sc.sc scope own = true)
    (hg : ∀ X', Gd D X' W0 N (sc.blk scope) k → SG X' W0 tg sl gt) (ht : ∀ X', Gd D X' W0 N (sc.blk scope) k → PTS X' W0 ifs tt) (he : ∀ X', Gd D X' W0 N (sc.blk scope) k → SE X' W0 elt el) (hs : ∀ x, foldedSetIterable it X.env x = pure x := by intro _; rfl) :
    SE X W (.ListComp elt [⟨tg, it, ifs, 0⟩] scope pos) (mLc cell (own.map (·.2)) mi gt tt el) := by
  obtain ⟨wi, pi, si⟩ := hi
  have eK : ∀ s H C cl fp, (X.blk s H scope (compEnvC scope cl C X.env) fp).K = X.K := fun _ _ _ _ _ => rfl
  refine ⟨_, pe_lc (own := own) (g := tSG X.K X.mg sl gt) (tt := tSTs X.K X.mg W0 tt) (te := tSE X.K X.mg W0 el) g.calm (by rw [g.hN]; exact g.nd) pi (by rw [g.hN, g.hsc]; exact blkOk_by ok)
    (fun s H C cl fp => (hg _ (g.blk s H C cl fp)).pg) (fun s H C cl fp => (ht _ (g.blk s H C cl fp)).pts) (fun s H C cl fp => (he _ (g.blk s H C cl fp)).pe) hs, fun σ H env st ρ G Q he' hr h => ?_⟩
  exact lc_sound (XB := X) rfl rfl (fun i hi => by
      have := List.all_eq_true.mp hsl i hi
      simpa using this) si
    (fun σ H env env' st ρ G v u Q a b c d e => ⟨env, env', st, ρ, G, v, a, b, c, d, e⟩)
    (fun σ H env st ρ G Q a b c => ⟨env, st, ρ, G, a, b, c⟩) (fun σ H env st ρ G Q a b c => ⟨env, st, ρ, G, a, b, c⟩) cell σ H env st ρ G Q he' hr h
end
end Z

namespace Z
open PySem PySem.Spec PyProof.Rows L2
/-! ### isinstance -/
inductive Ty7 where
  | int | bool | str | list | tuple | none | dict
  deriving DecidableEq
def Ty7.nm : Ty7 → String
  | .int => "int"
  | .bool => "bool"
  | .str => "str"
  | .list => "list"
  | .tuple => "tuple"
  | .none => "NoneType"
  | .dict => "dict"
def tyD : PyData → Option Ty7
  | .int _ => some .int
  | .bool _ => some .bool
  | .str _ => some .str
  | .list _ => some .list
  | .tuple _ => some .tuple
  | .none => some .none
  | .dict _ => Option.none
def tyVl (st : Sto) : Val → Option Ty7
  | .d x => tyD x
  | .c n => (match st[n]? with
    | some (.lst _) => some .list
    | _ => none)
  | .t _ => some .tuple
  | .p _ => none
  | .g _ => none
  | .s _ => none
def isaT : Ty7 → Ty7 → Bool
  | .bool, .int => true
  | a, b => decide (a = b)
theorem isaT_kit : ∀ a b : Ty7, b ≠ .none → kitB a.nm b.nm = some (isaT a b) := by
  intro a b h
  cases a <;> cases b <;> first | exact absurd rfl h | decide +kernel
def isaF (T : Ty7) : Val → Sto → Out Val := fun x st => match tyVl st x with
  | some t => .ok (.d (.bool (isaT t T))) st
  | none => .bad
section
variable {K : PySem.W.Frag} {mg : Str → Option Value} {ρ : List Addr} {G H : Hp} {st : Sto} {x : Val} {u v : V} {xs : List Val} {vs : List V} {p : Addr} {E : XK} {Q : VK}
theorem tupN_ty {a : Addr} {vs : List V} (h : TupN K H a vs) : TyX K H (.ref a) (.type "tuple") := by
  rcases h with ⟨o, h, _⟩ | ⟨o, its, n, h1, h2, _⟩
  · exact .fTuple h
  · exact .kTuple h1 h2
theorem tyVl_ok {t : Ty7} (r : Rel K mg ρ G st H) (h : tyVl st x = some t) (q : RV K mg ρ G x u) : TyX K H u (.type t.nm) := by
  cases q with
  | d hd =>
    cases hd with
    | non => cases h; exact .base .non
    | bl b => cases h; exact .base (.bl b)
    | int b => cases h; exact .base (.int b)
    | str b => cases h; exact .base (.str b)
    | lst g _ => cases h; exact .base (.lst (r.sub _ _ g))
    | tup g _ => cases h; exact tupN_ty (tupN_mono r.sub g)
  | c hc =>
    rename_i n a
    have h1 : (match st[n]? with | some (.lst _) => some Ty7.list | _ => none) = some t := h
    split at h1
    · rename_i xs e
      cases h1
      obtain ⟨a', vs, e3, e4, _⟩ := r.at_ e
      rw [hc] at e3; cases e3
      exact .base (.lst e4)
    · cases h1
  | t g _ => cases h; exact tupN_ty (tupN_mono r.sub g)
  | p _ _ => cases h
  | g _ => cases h
  | s _ => cases h
end
section
variable {D : Wd} {X : Cx} {W : WX} {N : List Str} {sc : Scp} {k : Nat} {e o a b c : Expr} {es : List Expr} {m ma mb mc mo : ME} {mr : MA} {pos p1 p2 apos : Pos}
def mIsa (T : Ty7) (m : ME) : ME := fun env st => (m env st).bind (isaF T)
theorem se_isa (g : Gd D X W N sc k) (T : Ty7) {x : Str} (hT : T ≠ .none) (h1 : glB sc "isinstance" = true) (h2 : D.mg "isinstance" = none) (h3 : glB sc x = true) (h4 : D.mg x = none) (h5 : bootBuiltins x = some (.type T.nm)) (ha : SE X W e m)
    (h6 : x ≠ "__name__" := by decide) (h7 : (x == ("__debug__" : Str)) = false := by decide)
    (s1 : starEach [e, .Name x p2] X.env = (false, eval e X.env) :: starEach [.Name x p2] X.env := by rfl) (s2 : starEach [.Name x p2] X.env = (false, eval (.Name x p2) X.env) :: starEach [] X.env := by rfl) (s3 : (backTo pos (starEach [.Name x p2] X.env)).any (·.1) = false := by rfl) :
    SE X W (.Call (.Name "isinstance" p1) [e, .Name x p2] [] pos) (mIsa T m) := by
  obtain ⟨ta, pa, sa⟩ := ha
  have pt : PE X (.Name x p2) (tC (.ty T.nm)) := pe_bltn (g.gl h3) (by rw [g.hmg]; exact h4) h5 rfl h6 h7
  refine ⟨_, pe_callB call_isi (g.gl h1) (by rw [g.hmg]; exact h2) (by with_unfolding_all rfl) (pa_cons pa (pa_cons pt pa_nil s2) s1) (by decide) (by decide) s1 s3, fun σ H env st ρ G Q he rl h => ?_⟩
  refine sa σ H env st ρ G _ he rl ((Ok.bind (R := RV X.K X.mg) h).imp fun u H1 ⟨x, ρ1, G1, st1, e1, r1, q1, o1⟩ => ?_)
  unfold isaF at o1
  split at o1
  · rename_i t et
    exact ⟨u, .ty T.nm, .type t.nm, .type T.nm, _, rfl, .ty _, tyVl_ok r1 et q1, kit_ty (isaT_kit t T hT), ok_ret r1 (.bl _) o1⟩
  · exact o1.elim
/-! ### tuple.count -/
def tyTupN (K : PySem.W.Frag) (x : V) (H : Hp) : Prop := ∃ a xs, x = .ref a ∧ TupN K H a xs
theorem tyTupN_ok : TyOk X "tuple" (tyTupN X.K) := by
  intro pins σ H s x v I r ty
  obtain ⟨a, xs, rfl, h⟩ := ty
  cases r
  obtain ⟨its, rv, ht, hz⟩ := I.tuple h.sq
  refine ⟨⟨_, ht.choose_spec.1, ht.choose_spec.2.1⟩, fun b e => ?_⟩
  cases e
  rcases h with ⟨o, h, d⟩ | ⟨o, its, n, h1, h2, h3, _⟩
  · have := (show ObjOk X.prog X.w H s.heap a (.frz o (.tup xs)) from I.hok a _ h)
    exact ⟨o, this.1, d⟩
  · exact ⟨o, I.kIn a o h1, h3⟩
def rTCnt (K : PySem.W.Frag) : V → List V → Hp → VK → Prop := fun x xs H Q => ∃ y ds d, xs = [y] ∧ Dp K H x (.tuple ds) ∧ Dp K H y d ∧ PyData.plainAll ds = true ∧ d.plain = true ∧ d.depth ≤ 40 ∧ Q (.int ((ds.countP fun z => PyData.eqv z d : Nat) : Int)) H
theorem mt_tcount (hu : X.A.units + 65 < cLine) : MtR X "tuple.count" (rTCnt X.K) := by
  intro pins s σ H x xs v us Q I rx rxs h
  obtain ⟨y, ds, d, rfl, hx, hy, p1, p2, p3, q⟩ := h
  cases rxs with
  | cons ry rt =>
    rename_i uy ut
    cases rt
    obtain ⟨bs, r1⟩ := Dp.reads I d y uy hy ry
    cases hx with
    | tup hs ha =>
      cases rx
      obtain ⟨its, rv, ht, hlen⟩ := I.tuple hs
      obtain ⟨as, h4⟩ := Dp.readsAll I ds _ its ha rv
      have hr : X.A.units + 1 + min (PyData.depthAll ds) d.depth < cLine := by omega
      exact SeqAt.count_tuple_data ht (by simpa using h4) r1 p1 p2 hr ⟨.int ((ds.countP fun z => PyData.eqv z d : Nat) : Int), H, I.tok _, ⟨_, rfl⟩, q⟩
def tcntD (ds : List PyData) : Val → Sto → Out Val := fun y st => match y with
  | .d d => if PyData.plainAll ds && d.plain && decide (d.depth ≤ 40) then .ok (.d (.int ((ds.countP fun z => PyData.eqv z d : Nat) : Int))) st else .bad
  | _ => .bad
def mTCnt (mo m : ME) : ME := fun env st => (mo env st).bind fun x st1 => match x with
  | .d (.tuple ds) => (m env st1).bind (tcntD ds)
  | _ => .bad
theorem se_tcount (g : Gd D X W N sc k) (ho : SE X W o mo) (ha : SE X W e m) (hbase : attributeBase o "count" X.env (eval o X.env) = eval o X.env := by rfl)
    (hfew : ((backTo pos (starEach [e] X.env)).all (fun x => !x.1) && (backToKw pos (keywordEach [] X.env)).all (fun x => x.1.isSome) && decide (([e] : List Expr).length + ([] : List Keyword).length + (if ([] : List Keyword).isEmpty then 0 else 1) < 30)) = true := by rfl)
    (hline : (apos.endLine == pos.line) = true := by rfl) (hs : starEach [e] X.env = (false, eval e X.env) :: starEach [] X.env := by rfl) : SE X W (.Call (.Attribute o "count" apos) [e] [] pos) (mTCnt mo m) := by
  obtain ⟨to, po, so⟩ := ho
  obtain ⟨ta, pa, sa⟩ := ha
  refine ⟨_, pe_mG tyTupN_ok F.plainAttrs_tuple F.slot_tuple_count F.type_tuple_count (mt_tcount (room65 g.room)) po (pa_cons pa pa_nil hs) hbase hfew hline hs rfl, fun σ H env st ρ G Q he rl h => ?_⟩
  refine so σ H env st ρ G _ he rl ((Ok.bind (R := RV X.K X.mg) h).imp fun u H1 ⟨x, ρ1, G1, st1, e1, r1, q1, o1⟩ => ?_)
  split at o1
  · rename_i ds
    have ty : tyTupN X.K u H1 := by
      cases rv_dat q1 with
      | tup g _ => exact ⟨_, _, rfl, tupN_mono r1.sub g⟩
    refine ⟨ty, sa σ H1 env st1 ρ1 G1 _ (he.ext e1) r1 ((Ok.bind (R := RV X.K X.mg) o1).imp fun v H2 ⟨y, ρ2, G2, st2, e2, r2, q2, o2⟩ => ?_)⟩
    unfold tcntD at o2
    split at o2
    · split at o2
      · rename_i d hc
        rw [Bool.and_eq_true, Bool.and_eq_true] at hc
        exact ⟨v, ds, d, rfl, (dq_mono r2.sub (rv_dat (e2.rv q1))).dp, (dq_mono r2.sub (rv_dat q2)).dp, hc.1.1, hc.1.2, of_decide_eq_true hc.2, ok_ret r2 (.int _) o2⟩
      · exact o2.elim
    · exact o2.elim
  · exact o1.elim
/-! ### join, split -/
def txs : List Val → Option (List Str)
  | [] => some []
  | .d (.str x) :: r => (txs r).map (x :: ·)
  | _ :: _ => none
theorem txs_eq : ∀ {vs : List Val} {xs : List Str}, txs vs = some xs → vs = xs.map fun x => .d (.str x)
  | [], xs, h => by cases h; rfl
  | .d (.str x) :: r, xs, h => by
    unfold txs at h
    obtain ⟨ys, h1, rfl⟩ := Option.map_eq_some_iff.mp h
    rw [txs_eq h1]; rfl
  | .d .none :: _, _, h => by cases h
  | .d (.bool _) :: _, _, h => by cases h
  | .d (.int _) :: _, _, h => by cases h
  | .d (.list _) :: _, _, h => by cases h
  | .d (.tuple _) :: _, _, h => by cases h
  | .d (.dict _) :: _, _, h => by cases h
  | .c _ :: _, _, h => by cases h
  | .t _ :: _, _, h => by cases h
  | .g _ :: _, _, h => by cases h
  | .s _ :: _, _, h => by cases h
  | .p _ :: _, _, h => by cases h
theorem txs_map : ∀ xs : List Str, txs (xs.map fun x => Val.d (.str x)) = some xs
  | [] => rfl
  | x :: r => by show (txs (r.map _)).map _ = _; rw [txs_map r]; rfl
theorem rvs_txs {K : PySem.W.Frag} {mg : Str → Option Value} {ρ : List Addr} {G : Hp} : ∀ {xs : List Str} {vs : List V}, RVs K mg ρ G (xs.map fun x => Val.d (.str x)) vs → vs = xs.map V.str
  | [], _, .nil => rfl
  | x :: r, _, .cons h q => by rw [rvs_txs q, rv_str h]; rfl
def seqA (st : Sto) (x : Val) : Option (List Val) := match seqR st x with
  | some xs => some xs
  | none => seqT x
theorem seqA_ok {K : PySem.W.Frag} {mg : Str → Option Value} {ρ : List Addr} {G H : Hp} {st : Sto} {x : Val} {u : V} {xs : List Val} (r : Rel K mg ρ G st H) (h : seqA st x = some xs) (q : RV K mg ρ G x u) : ∃ a vs, u = .ref a ∧ (SqL K H a vs ∨ SqT K H a vs) ∧ RVs K mg ρ G xs vs := by
  unfold seqA at h
  split at h
  · rename_i ys e
    cases h
    obtain ⟨a, vs, h1, h2, h3⟩ := seqR_ok r e q
    exact ⟨a, vs, h1, .inl h2, h3⟩
  · obtain ⟨a, vs, h1, h2, h3, _⟩ := seqT_ok r h q
    exact ⟨a, vs, h1, .inr h2, h3⟩
def joinLen (a : Str) (ys : List Str) : Bool := decide ((ys.map (·.length)).sum + ys.length * a.length ≤ LINE)
def joinF (a : Str) : Val → Sto → Out Val := fun y st => match (seqA st y).bind txs with
  | some ys => if joinLen a ys then .ok (.d (.str (Txt.join a ys))) st else .bad
  | none => .bad
def mJoin (mo m : ME) : ME := fun env st => (mo env st).bind fun x st1 => match x with
  | .d (.str a) => (m env st1).bind (joinF a)
  | _ => .bad
theorem se_join (ho : SE X W o mo) (ha : SE X W e m) (hs : starEach [e] X.env = [(false, eval e X.env)] := by rfl) (hbase : attributeBase o "join" X.env (eval o X.env) = eval o X.env := by rfl) (hline : (apos.endLine == pos.line) = true := by rfl) :
    SE X W (.Call (.Attribute o "join" apos) [e] [] pos) (mJoin mo m) := by
  obtain ⟨to, po, so⟩ := ho
  obtain ⟨ta, pa, sa⟩ := ha
  refine ⟨_, pe_join po pa hs hbase hline, fun σ H env st ρ G Q he rl h => ?_⟩
  refine so σ H env st ρ G _ he rl ((Ok.bind (R := RV X.K X.mg) h).imp fun u H1 ⟨x, ρ1, G1, st1, e1, r1, q1, o1⟩ => ?_)
  split at o1
  · rename_i z
    rw [rv_str q1]
    refine ⟨⟨z, rfl⟩, sa σ H1 env st1 ρ1 G1 _ (he.ext e1) r1 ((Ok.bind (R := RV X.K X.mg) o1).imp fun v H2 ⟨y, ρ2, G2, st2, e2, r2, q2, o2⟩ => ?_)⟩
    unfold joinF at o2
    split at o2
    · rename_i ys ey
      split at o2
      · rename_i hl
        obtain ⟨xs, h1, h2⟩ := Option.bind_eq_some_iff.mp ey
        obtain ⟨p, vs, rfl, t, c⟩ := seqA_ok r2 h1 q2
        rw [txs_eq h2] at c
        rw [rvs_txs c] at t
        exact ⟨z, p, ys, rfl, rfl, t, of_decide_eq_true hl, ok_ret r2 (.str _) o2⟩
      · exact o2.elim
    · exact o2.elim
  · exact o1.elim
def splitF (a : Str) : Val → Sto → Out Val := fun y st => match y with
  | .d (.str b) => if b.length ≠ 0 ∧ a.length + 2 ≤ LINE then .ok (.d (.list ((Txt.split a b).map PyData.str))) st else .bad
  | _ => .bad
def mSplit (mo m : ME) : ME := fun env st => (mo env st).bind fun x st1 => match x with
  | .d (.str a) => (m env st1).bind (splitF a)
  | _ => .bad
theorem dq_txs {K : PySem.W.Frag} {G : Hp} : ∀ xs : List Str, DqAll K G (xs.map V.str) (xs.map PyData.str)
  | [] => .nil
  | x :: r => .cons (.str x) (dq_txs r)
theorem se_split (ho : SE X W o mo) (ha : SE X W e m) (hs : starEach [e] X.env = [(false, eval e X.env)] := by rfl) (hbase : attributeBase o "split" X.env (eval o X.env) = eval o X.env := by rfl) (hline : (apos.endLine == pos.line) = true := by rfl) :
    SE X W (.Call (.Attribute o "split" apos) [e] [] pos) (mSplit mo m) := by
  obtain ⟨to, po, so⟩ := ho
  obtain ⟨ta, pa, sa⟩ := ha
  refine ⟨_, pe_split po pa hs hbase hline, fun σ H env st ρ G Q he rl h => ?_⟩
  refine so σ H env st ρ G _ he rl ((Ok.bind (R := RV X.K X.mg) h).imp fun u H1 ⟨x, ρ1, G1, st1, e1, r1, q1, o1⟩ => ?_)
  split at o1
  · rename_i z
    rw [rv_str q1]
    refine ⟨⟨z, rfl⟩, sa σ H1 env st1 ρ1 G1 _ (he.ext e1) r1 ((Ok.bind (R := RV X.K X.mg) o1).imp fun v H2 ⟨y, ρ2, G2, st2, e2, r2, q2, o2⟩ => ?_)⟩
    unfold splitF at o2
    split at o2
    · rename_i w
      split at o2
      · rename_i hl
        rw [rv_str q2]
        refine ⟨z, w, rfl, rfl, by rw [beq_eq_false_iff_ne]; exact hl.1, by rw [line_eq]; exact hl.2, fun p hp => ?_⟩
        exact newL_ok (xs := ((Txt.split z w).map PyData.str).map Val.d) r2 hp (RVs.of_dq (dq_txs _)) (by unfold newL; rw [datas_map]; exact o2)
      · exact o2.elim
    · exact o2.elim
  · exact o1.elim
/-! ### f'..' -/
def fmtF : Val → Sto → Out Val := fun x st => match x with
  | .d (.str y) => if y.length ≤ LINE then .ok (.d (.str y)) st else .bad
  | .d (.int i) => if i.natAbs.log2 < 1920 then .ok (.d (.str (toString i))) st else .bad
  | _ => .bad
def mFmt (m : ME) : ME := fun env st => (m env st).bind fmtF
theorem se_fmt (ha : SE X W e m) : SE X W (.FormattedValue e (-1) none pos) (mFmt m) := by
  obtain ⟨ta, pa, sa⟩ := ha
  refine ⟨_, pe_fmt pa, fun σ H env st ρ G Q he rl h => ?_⟩
  refine sa σ H env st ρ G _ he rl ((Ok.bind (R := RV X.K X.mg) h).imp fun u H1 ⟨x, ρ1, G1, st1, e1, r1, q1, o1⟩ => ?_)
  unfold fmtF at o1
  split at o1
  · split at o1
    · rw [rv_str q1]; exact .inl ⟨_, rfl, by rw [line_eq]; assumption, ok_ret r1 (.str _) o1⟩
    · exact o1.elim
  · split at o1
    · rw [rv_int q1]; exact .inr ⟨_, rfl, by assumption, ok_ret r1 (.str _) o1⟩
    · exact o1.elim
  · exact o1.elim
def mJs : List ME → Str → ME
  | [], acc => fun _ st => .ok (.d (.str acc)) st
  | m :: ms, acc => fun env st => (m env st).bind fun x st1 => match x with
    | .d (.str y) => if (acc ++ y).length ≤ LINE then mJs ms (acc ++ y) env st1 else .bad
    | _ => .bad
inductive SJs (X : Cx) (W : WX) : List Expr → List ME → Prop
  | nil : SJs X W [] []
  | cons {e : Expr} {m : ME} {es : List Expr} {ms : List ME} (h : SE X W e m) (r : SJs X W es ms) : SJs X W (e :: es) (m :: ms)
theorem SJs.pj {ms : List ME} (h : SJs X W es ms) : ∃ ts, PJ X es ts ∧ ∀ (acc : Str) (σ : List (Option V)) H env st ρ G Q, ER X.K X.mg ρ G env σ → Rel X.K X.mg ρ G st H → Ok X.K X.mg (RV X.K X.mg) ρ G H (fun c d H => W c d σ H) (mJs ms acc env st) Q → tJs ts acc σ H fun out H1 => Q (.str out) H1 := by
  induction h with
  | nil => exact ⟨[], .nil, fun acc σ H env st ρ G Q he rl h => ok_ret rl (.str _) h⟩
  | cons h _ ih =>
    obtain ⟨t, p, s⟩ := h
    obtain ⟨ts, ps, ss⟩ := ih
    refine ⟨t :: ts, .cons p ps, fun acc σ H env st ρ G Q he rl h => ?_⟩
    refine s σ H env st ρ G _ he rl ((Ok.bind (R := RV X.K X.mg) h).imp fun u H1 ⟨x, ρ1, G1, st1, e1, r1, q1, o1⟩ => ?_)
    split at o1
    · rename_i y
      split at o1
      · rename_i hl
        exact ⟨y, rv_str q1, by rw [line_eq]; exact hl, ss _ σ H1 env st1 ρ1 G1 Q (he.ext e1) r1 o1⟩
      · exact o1.elim
    · exact o1.elim
theorem se_joined {v1 v2 : Expr} {rest : List Expr} {ms : List ME} (h : SJs X W (v1 :: v2 :: rest) ms) : SE X W (.JoinedStr (v1 :: v2 :: rest) pos) (mJs ms Str.empty) := by
  obtain ⟨ts, p, s⟩ := h.pj
  exact ⟨_, pe_joined p, fun σ H env st ρ G Q he rl h => s _ σ H env st ρ G Q he rl h⟩
theorem se_joined1 (h : SE X W e m) : SE X W (.JoinedStr [e] pos) m := by
  obtain ⟨t, p, s⟩ := h
  exact ⟨_, pe_joined1 p, s⟩
/-! ### list.append -/
def appF (n : Nat) : Val → Sto → Out Val := fun y st => match st[n]? with
  | some (.lst xs) => if xs.length < LINE then .ok (.d .none) (st.set n (.lst (xs ++ [y]))) else .bad
  | _ => .bad
def mApp (mo m : ME) : ME := fun env st => (mo env st).bind fun x st1 => match x with
  | .c n => match st1[n]? with
    | some (.lst _) => (m env st1).bind (appF n)
    | _ => .bad
  | _ => .bad
theorem se_append (ho : SE X W o mo) (ha : SE X W e m) (hbase : attributeBase o "append" X.env (eval o X.env) = eval o X.env := by rfl)
    (hfew : ((backTo pos (starEach [e] X.env)).all (fun x => !x.1) && (backToKw pos (keywordEach [] X.env)).all (fun x => x.1.isSome) && decide (([e] : List Expr).length + ([] : List Keyword).length + (if ([] : List Keyword).isEmpty then 0 else 1) < 30)) = true := by rfl)
    (hline : (apos.endLine == pos.line) = true := by rfl) (hs : starEach [e] X.env = (false, eval e X.env) :: starEach [] X.env := by rfl) : SE X W (.Call (.Attribute o "append" apos) [e] [] pos) (mApp mo m) := by
  obtain ⟨to, po, so⟩ := ho
  obtain ⟨ta, pa, sa⟩ := ha
  refine ⟨_, pe_bm F.plainAttrs_list F.slot_list_append F.type_list_append mt_append po (pa_cons pa pa_nil hs) hbase hfew hline hs rfl, fun σ H env st ρ G Q he rl h => ?_⟩
  refine so σ H env st ρ G _ he rl ((Ok.bind (R := RV X.K X.mg) h).imp fun u H1 ⟨x, ρ1, G1, st1, e1, r1, q1, o1⟩ => ?_)
  split at o1
  · rename_i n
    split at o1
    · rename_i xs0 ex
      obtain ⟨a, vs, p1, p2, p3, p4⟩ := r1.at_ ex
      obtain ⟨a', rfl, ea⟩ := rv_cell q1
      rw [ea] at p1; cases p1
      refine ⟨.inl ⟨rfl, vs, .inl (.inl p2)⟩, sa σ H1 env st1 ρ1 G1 _ (he.ext e1) r1 ((Ok.bind (R := RV X.K X.mg) o1).imp fun v H2 ⟨y, ρ2, G2, st2, e2, r2, q2, o2⟩ => ?_)⟩
      unfold appF at o2
      split at o2
      · rename_i xs ey
        split at o2
        · rename_i hl
          obtain ⟨b, us, k1, k2, k3, k4⟩ := r2.at_ ey
          obtain ⟨r, er, _⟩ := e2.pre
          have ea2 : ρ2[n]? = some a := by
            rw [er, List.getElem?_append_left (List.getElem?_eq_some_iff.mp ea).1]; exact ea
          rw [ea2] at k1; cases k1
          exact ⟨_, us, v, rfl, rfl, k2, by rw [← k3.len, line_eq]; exact hl, o2 ρ2 G2 _ _ (.put ea2) (r2.putL ea2 ey (k3.append (.cons q2 .nil))) (.d .non)⟩
        · exact o2.elim
      · exact o2.elim
    · exact o1.elim
  · exact o1.elim
/-! ### statements -/
def sBad : MS := fun _ _ => .bad
theorem ss_never {s : Stmt} : SS X W s sBad := ⟨tNever, ps_never, fun σ H env st ρ G De he hr h => h⟩
/-- a, b, c = x, y, z -/
def sPar3 (i j l : Nat) (mr : MA) : MS := fun env st => (mr env st).flo env fun vs st1 => match vs with
  | [u, v, w] => .next (((env.set i (some u)).set j (some v)).set l (some w)) st1
  | _ => .bad
def lcl (sc : Scp) (x : Str) : Bool := sc.sc.names.lookup x == some .local
theorem ss_par3 (g : Gd D X W N sc k) (i j l : Nat) {x y z : Str} {px py pz pt pt2 : Pos} {kt k2 : Nat} (hi : N[i]? = some x) (hj : N[j]? = some y) (hl : N[l]? = some z) (hij : i ≠ j) (hil : i ≠ l) (hjl : j ≠ l)
    (hx : sc.sc.names.lookup x = some .local) (hy : sc.sc.names.lookup y = some .local) (hz : sc.sc.names.lookup z = some .local) (ha : SA X W [a, b, c] mr)
    (hw : swappedStores [.Tuple [.Name x px, .Name y py, .Name z pz] kt pt] (.Tuple [a, b, c] k2 pt2) X.env = pure (some [x, y, z])) (hs : swapsWithSole [.Tuple [.Name x px, .Name y py, .Name z pz] kt pt] (.Tuple [a, b, c] k2 pt2) pos.line X.env = pure false := by rfl) :
    SS X W (.Assign [.Tuple [.Name x px, .Name y py, .Name z pz] kt pt] (.Tuple [a, b, c] k2 pt2) pos) (sPar3 i j l mr) := by
  obtain ⟨ta, pa, sa⟩ := ha
  refine ⟨_, ps_par3 g.calm (by rw [g.hN]; exact g.nd) (by rw [g.hN]; exact hi) (by rw [g.hN]; exact hj) (by rw [g.hN]; exact hl) hij hil hjl (by rw [g.hsc]; exact hx) (by rw [g.hsc]; exact hy) (by rw [g.hsc]; exact hz) pa hw hs, fun σ H env st ρ G De he hr h => ?_⟩
  refine sa σ H env st ρ G _ he hr ((Ok.flo (R := RVs X.K X.mg) he h).imp fun us H1 ⟨vs, ρ1, G1, st1, e1, r1, q1, o1⟩ => ?_)
  split at o1
  · cases q1 with
    | cons q1 q => cases q with
      | cons q2 q => cases q with
        | cons q3 q => cases q; exact ⟨_, _, _, rfl, o1 ρ1 G1 H1 _ .refl r1 ((((he.ext e1).set i q1).set j q2).set l q3)⟩
  · exact o1.elim
def sPar2 (i j : Nat) (mr : MA) : MS := fun env st => (mr env st).flo env fun vs st1 => match vs with
  | [u, v] => .next ((env.set i (some u)).set j (some v)) st1
  | _ => .bad
theorem ss_par2 (g : Gd D X W N sc k) (i j : Nat) {x y : Str} {px py pt pt2 : Pos} {kt k2 : Nat} (hi : N[i]? = some x) (hj : N[j]? = some y) (hij : i ≠ j)
    (hx : sc.sc.names.lookup x = some .local) (hy : sc.sc.names.lookup y = some .local) (ha : SA X W [a, b] mr)
    (hw : swappedStores [.Tuple [.Name x px, .Name y py] kt pt] (.Tuple [a, b] k2 pt2) X.env = pure (some [x, y])) (hs : swapsWithSole [.Tuple [.Name x px, .Name y py] kt pt] (.Tuple [a, b] k2 pt2) pos.line X.env = pure false := by rfl) :
    SS X W (.Assign [.Tuple [.Name x px, .Name y py] kt pt] (.Tuple [a, b] k2 pt2) pos) (sPar2 i j mr) := by
  obtain ⟨ta, pa, sa⟩ := ha
  refine ⟨_, ps_par g.calm (by rw [g.hN]; exact g.nd) (by rw [g.hN]; exact hi) (by rw [g.hN]; exact hj) hij (by rw [g.hsc]; exact hx) (by rw [g.hsc]; exact hy) pa hw hs, fun σ H env st ρ G De he hr h => ?_⟩
  refine sa σ H env st ρ G _ he hr ((Ok.flo (R := RVs X.K X.mg) he h).imp fun us H1 ⟨vs, ρ1, G1, st1, e1, r1, q1, o1⟩ => ?_)
  split at o1
  · cases q1 with
    | cons q1 q => cases q with
      | cons q2 q => cases q; exact ⟨_, _, rfl, o1 ρ1 G1 H1 _ .refl r1 (((he.ext e1).set i q1).set j q2)⟩
  · exact o1.elim
/-- y = [comprehension], on one line -/
theorem ss_setLc (cell : Bool) (i : Nat) {y : Str} {py spos : Pos} {tg it elt : Expr} {ifs : List Expr} {scope : Scope} {own : List (Str × Nat)} {mi : MI} {gt : MTg} {sl : List Nat} {tt : MT} {el : ME} (g : Gd D X W N sc k) (hy : N[i]? = some y) (hyl : sc.sc.names.lookup y = some .local)
    (hk : sc.sc.kind = .function) (hln : (py.line == pos.line) = true) (hsp : spos.line = pos.line) (hno : (scope.names.any fun (n, k) => n == y && (k == .local || k == .cell)) = false)
    (hi : SI X W tg it mi) (hsl : sl.all (fun i => (own.map (·.2)).contains i) = true) (ok : blkC N sc.sc scope own = true)
    (hg : ∀ X', Gd D X' W0 N (sc.blk scope) k → SG X' W0 tg sl gt) (ht : ∀ X', Gd D X' W0 N (sc.blk scope) k → PTS X' W0 ifs tt) (he : ∀ X', Gd D X' W0 N (sc.blk scope) k → SE X' W0 elt el) (hs : ∀ x, foldedSetIterable it X.env x = pure x := by intro _; rfl) :
    SS X W (.Assign [.Name y py] (.ListComp elt [⟨tg, it, ifs, 0⟩] scope pos) spos) (sSet i (mLc cell (own.map (·.2)) mi gt tt el)) := by
  obtain ⟨wi, pi, si⟩ := hi
  refine ⟨_, ps_setLc (own := own) (g := tSG X.K X.mg sl gt) (tt := tSTs X.K X.mg W0 tt) (te := tSE X.K X.mg W0 el) g.calm (by rw [g.hN]; exact g.nd) (by rw [g.hN]; exact hy) (by rw [g.hsc]; exact hyl)
    (by rw [hsp]; exact sw_true (by rw [g.hsc]; exact hk) (by rw [g.hsc]; exact hyl) hln hno) pi (by rw [g.hN, g.hsc]; exact blkOk_by ok)
    (fun s H C cl fp => (hg _ (g.blk s H C cl fp)).pg) (fun s H C cl fp => (ht _ (g.blk s H C cl fp)).pts) (fun s H C cl fp => (he _ (g.blk s H C cl fp)).pe) hs, fun σ H env st ρ G De he' hr h => ?_⟩
  refine lc_sound (XB := X) rfl rfl (fun i hi => by
      have := List.all_eq_true.mp hsl i hi
      simpa using this) si
    (fun σ H env env' st ρ G v u Q a b c d e => ⟨env, env', st, ρ, G, v, a, b, c, d, e⟩)
    (fun σ H env st ρ G Q a b c => ⟨env, st, ρ, G, a, b, c⟩) (fun σ H env st ρ G Q a b c => ⟨env, st, ρ, G, a, b, c⟩) cell σ H env st ρ G _ he' hr ?_
  exact (Ok.flo (R := RV X.K X.mg) he' h).imp fun u H1 ⟨x, ρ1, G1, st1, e1, r1, q1, o1⟩ => o1 ρ1 G1 H1 _ .refl r1 ((he'.ext e1).set i q1)
end
end Z

namespace Z
open PySem PySem.Spec PyProof.Rows L2
section
variable {D : Wd} {X : Cx} {W : WX} {N : List Str} {sc : Scp} {k : Nat} {pos : Pos} {st : List Stmt}
theorem se_globC (g : Gd D X W N sc k) {x : Str} {v : V} {d : PyData} (hg : glB sc x = true) (h : ∃ u, D.mg x = some u ∧ RelV v u) (hd : ∀ G, Dq D.K G v d) (h2 : (x == ("__debug__" : Str)) = false := by decide) : SE X W (.Name x pos) (mD d) :=
  let ⟨_, hm, r⟩ := h; se_glob g hg hm r hd h2
theorem se_globD (g : Gd D X W N sc k) {x : Str} {d : PyData} (hg : glB sc x = true) (h : ∃ a, D.mg x = some (.ref a) ∧ ∀ G, Dq D.K G (.ref a) d) (h2 : (x == ("__debug__" : Str)) = false := by decide) : SE X W (.Name x pos) (mD d) :=
  let ⟨_, hm, hd⟩ := h; se_glob (v := .ref _) g hg hm rfl hd h2
theorem sb_bad : SB X W st sBad := ⟨tNever, pss_never, fun σ H env st ρ G De he hr h => h⟩
theorem Gd.swp (g : Gd D X W N sc k) {ts : List Expr} {v : Expr} {r : Sem (Option (List Str))} (h : ∀ env : PySem.Env, env.scope = sc.sc → swappedStores ts v env = r) : swappedStores ts v X.env = r := h _ g.hsc
end
end Z

namespace Z
open PySem PySem.Spec PyProof.Rows L2
mutual
def okD (K : PySem.W.Frag) : PyData → Value → Bool
  | .none, v => (match v with
    | .none => true
    | _ => false)
  | .bool b, v => (match v with
    | .bool c => b == c
    | _ => false)
  | .int i, v => (match v with
    | .int j _ => decide (j = i)
    | _ => false)
  | .str x, v => (match v with
    | .str y _ => decide (y = x)
    | _ => false)
  | .tuple ds, v => (match v with
    | .ref a => (match K.lookup a with
      | some ⟨.type t, none, .seq its _, _⟩ => t == "tuple" && (decide (its.size ≤ 1000) && okDs K ds its.toList)
      | _ => false)
    | _ => false)
  | .list _, _ => false
  | .dict _, _ => false
def okDs (K : PySem.W.Frag) : List PyData → List Value → Bool
  | [], [] => true
  | d :: ds, v :: vs => okD K d v && okDs K ds vs
  | _, _ => false
end
mutual
theorem okD_dq {K : PySem.W.Frag} {G : Hp} : ∀ {d : PyData} {u : Value}, okD K d u = true → ∃ v, RelV v u ∧ Dq K G v d
  | .none, u, h => by
    cases u <;> simp [okD] at h
    exact ⟨.non, rfl, .non⟩
  | .bool b, u, h => by
    cases u <;> simp [okD] at h
    subst h; exact ⟨.bl _, rfl, .bl _⟩
  | .int i, u, h => by
    cases u <;> simp [okD] at h
    subst h; exact ⟨.int _, ⟨_, rfl⟩, .int _⟩
  | .str x, u, h => by
    cases u <;> simp [okD] at h
    subst h; exact ⟨.str _, ⟨_, rfl⟩, .str _⟩
  | .tuple ds, u, h => by
    cases u <;> simp only [okD] at h <;> try cases h
    rename_i a
    split at h
    · rename_i t its n sl e
      rw [Bool.and_eq_true, Bool.and_eq_true] at h
      have ht : t = "tuple" := by simpa using h.1
      subst ht
      obtain ⟨vs, r, q⟩ := okDs_dq (G := G) h.2.2
      have hz : its.size ≤ sizeLine := by
        have := of_decide_eq_true h.2.1
        rw [sizeLine_eq]; omega
      exact ⟨.ref a, rfl, .tup (.inr ⟨_, its, n, e, rfl, rfl, rfl, hz, r⟩) q⟩
    · cases h
  | .list _, u, h => by simp [okD] at h
  | .dict _, u, h => by simp [okD] at h
theorem okDs_dq {K : PySem.W.Frag} {G : Hp} : ∀ {ds : List PyData} {us : List Value}, okDs K ds us = true → ∃ vs, Vals vs us ∧ DqAll K G vs ds
  | [], [], _ => ⟨[], .nil, .nil⟩
  | d :: ds, u :: us, h => by
    simp only [okDs, Bool.and_eq_true] at h
    obtain ⟨v, r, q⟩ := okD_dq (G := G) h.1
    obtain ⟨vs, rs, qs⟩ := okDs_dq (G := G) h.2
    exact ⟨v :: vs, .cons r rs, .cons q qs⟩
  | [], _ :: _, h => by simp [okDs] at h
  | _ :: _, [], h => by simp [okDs] at h
end
def okC (K : PySem.W.Frag) (c : Str × PyData) : Bool := match PySem.W.nsIn K mainGlobals c.1 with
  | some (some v) => okD K c.2 v
  | _ => false
theorem okC_ok {K : PySem.W.Frag} {h : Heap} {mg : Str → Option Value} (X : K.In h) (G : h.Ns mainGlobals mg) {x : Str} {ds : List PyData} (c : okC K (x, .tuple ds) = true) : ∃ a, mg x = some (.ref a) ∧ ∀ G, Dq K G (.ref a) (.tuple ds) := by
  unfold okC at c
  split at c
  · rename_i v e
    have m := PySem.W.mg_of X G e
    have hv : ∃ a, v = .ref a := by cases v <;> simp [okD] at c ⊢
    obtain ⟨a, rfl⟩ := hv
    refine ⟨a, m, fun G => ?_⟩
    obtain ⟨u, r, q⟩ := okD_dq (G := G) c
    cases q with
    | tup g rr => cases r; exact .tup g rr
  · cases c
abbrev AlZ : Type := He.AlT × List Bool
structure HdI where
  fa : List He.Fa
  fn : List He.DefD
  ts : List He.Tab
  cs : List (Str × PyData)
def obsZ (i : HdI) (K : PySem.W.Frag) : AlZ := (He.obsT i.fa i.fn i.ts K, i.cs.map (okC K))
def valZ (i : HdI) (w : World) : AlZ := (He.valT i.fn i.ts w, i.cs.map fun _ => true)
def obsZG (n : Nat) (i : HdI) (g : Addr → Option Obj) : AlZ := obsZ i (He.frG g (He.asD g n))
def SaysZ (i : HdI) (w : World) (K : PySem.W.Frag) : Prop := obsZ i K = valZ i w
def hookZ (n : Nat) (i : HdI) : PySem.W.Hook where
  α := AlZ
  obs := fun s => obsZG n i s.heap.get?
  val := valZ i
  says := fun w h => ∃ K : PySem.W.Frag, K.In h ∧ SaysZ i w K
  of := fun _ _ e => ⟨_, He.frG_in, e⟩
  keeps := fun _ _ _ ⟨K, a, b⟩ k => ⟨K, a.keeps k, b⟩
theorem obsZG_eq {n : Nat} {i : HdI} {g : Addr → Option Obj} {s : Shared} (h : ∀ a, g a = s.heap.get? a) : obsZG n i g = (hookZ n i).obs s := by
  rw [show g = s.heap.get? from funext h] <;> rfl
section
variable {i : HdI} {w : World} {K : PySem.W.Frag}
theorem SaysZ.t (c : SaysZ i w K) : He.SaysT i.fa i.fn i.ts w K := congrArg (fun z : AlZ => z.1) c
theorem SaysZ.c (c : SaysZ i w K) (j : Nat) {x : Str × PyData} (h : i.cs[j]? = some x := by rfl) : okC K x = true := by
  have e : i.cs.map (okC K) = i.cs.map fun _ => true := congrArg (fun z : AlZ => z.2) c
  have := congrArg (fun l => l[j]?) e
  simpa [h] using this
end
/-! the end of a law -/
theorem walk_ofZ {l : PySem.W.OpenLaw} {m j : Nat} {p : Program} {lo : List Str} {A1 : (Str → Option Value) → Heap → Prop} {B1 : World → Heap → Prop} {rec : DefRec} {y : Str}
    (e1 : l.most = some m) (e2 : m ≤ sizeLine) (e3 : rec.params.defaults = []) (e4 : Room j callerA)
    (tell : ∀ (w : World) (mg : Str → Option Value) (a0 : Addr) (hp : Heap), B1 w hp → hp.Ns mainGlobals mg → mg rec.name = some (.ref a0) →
      ∃ (K : PySem.W.Frag) (fd : FuncData) (F : Fn), K.In hp ∧ (∀ (s : Shared) (u : Value), BindsTo s fd ⟨[u], []⟩ [(y, u)]) ∧ (∀ ns : List Int, ns.length ≤ m → ∃ st, F [.s ns] [] = .ok (.d (.bool true)) st) ∧
        ∀ bs : Heap, K.In bs → bs.Ns mainGlobals mg → FnOk l.prog w K mg bs (L2.CX l.prog w) j a0 fd [y] (spOf K mg 1 F)) :
    PySem.W.WalkO p lo A1 B1 l.row.toRowW rec [] (fun f vs => PySem.call f vs) := by
  refine Att.attach_call e1 e3 fun w s₀ s₁ mg mb a0 o pm cd doc a vs ns Gr Yw h1 h2 h3 h4 h5 h6 h7 h8 => ?_
  obtain ⟨K, fd, F, KX, hb, hF, hok⟩ := tell w mg a0 _ Yw Gr.T.g h4
  refine law_call KX Gr.T.g Gr.T.b Gr.T.builtins Gr.T.nolimit h8 h5 h6 (Nat.le_trans h7 e2) e4 hok hb (fun H _ hS => ?_) (fun H e s' hc => ?_)
  · obtain ⟨st, e⟩ := hF ns h7
    refine ⟨rfl, [], H, [], [.s ns], ⟨rfl, .nil, fun _ _ z => z, fun n a cl z => by simp at z, fun n a cl z => by simp at z⟩, .cons (.s hS) .nil, ?_⟩
    rw [e]
    intro ρ' G' H' b _ _ q
    exact rv_bl q
  · obtain ⟨_, _, _, _, _, _, _, _, _, _, _, _, z⟩ := hc
    exact z
end Z

namespace Z
open PySem PySem.Spec PyProof.Rows L2
abbrev vI (i : Int) : Val := .d (.int i)
abbrev vS (x : Str) : Val := .d (.str x)
abbrev vB (x : Bool) : Val := .d (.bool x)
section
variable {α β : Type} {env env1 : Env} {st st1 : Sto} {a : α} {o o' : Out α} {f : α → Sto → Out β} {g : α → Sto → Fl} {fl fl' : Fl} {n ns nt nu : MS} {x : Exn} {m ma mb mc : ME} {na nb nc : MT} {mr : MA} {i j : Nat} {u v : Val} {us : List Val}
theorem bind_cg (h : o = o') : o.bind f = o'.bind f := by rw [h]
theorem flo_cg (h : o = o') : o.flo env g = o'.flo env g := by rw [h]
theorem then_cg (h : fl = fl') : fl.then n = fl'.then n := by rw [h]
@[simp] theorem bind_ok : (Out.ok a st).bind f = f a st := (rfl)
@[simp] theorem bind_exc : (Out.exc x st : Out α).bind f = .exc x st := (rfl)
@[simp] theorem flo_ok : (Out.ok a st).flo env g = g a st := (rfl)
@[simp] theorem flo_exc : (Out.exc x st : Out α).flo env g = .exc x env st := (rfl)
@[simp] theorem map_ok {f : α → β} : (Out.ok a st).map f = .ok (f a) st := (rfl)
@[simp] theorem map_exc {f : α → β} : (Out.exc x st : Out α).map f = .exc x st := (rfl)
@[simp] theorem then_next : (Fl.next env st).then n = n env st := (rfl)
@[simp] theorem then_ret : (Fl.ret u st).then n = .ret u st := (rfl)
@[simp] theorem then_brk : (Fl.brk env st).then n = .brk env st := (rfl)
@[simp] theorem then_cont : (Fl.cont env st).then n = .cont env st := (rfl)
@[simp] theorem then_exc : (Fl.exc x env st).then n = .exc x env st := (rfl)
/-! expressions -/
def getE (o : Option (Option Val)) (st : Sto) : Out Val := match o with
  | some (some v) => .ok v st
  | _ => .bad
@[simp] theorem getE_some : getE (some (some v)) st = .ok v st := (rfl)
@[simp] theorem ap_var : mVar i env st = getE env[i]? st := (rfl)
@[simp] theorem ap_D {d : PyData} : mD d env st = .ok (.d d) st := (rfl)
@[simp] theorem ap_bin {F : Val → Val → Sto → Out Val} : mBin F ma mb env st = (ma env st).bind fun x st1 => (mb env st1).bind fun y st2 => F x y st2 := (rfl)
@[simp] theorem ap_cmp {F : Val → Val → Sto → Out Bool} : mCmp F ma mb env st = (ma env st).bind fun x st1 => (mb env st1).bind fun y st2 => F x y st2 := (rfl)
def chn2 (F' : Val → Val → Sto → Out Bool) (mc : ME) (y : Val) (env : Env) (k : Bool) (st : Sto) : Out Bool := if k then (mc env st).bind fun z st4 => F' y z st4 else .ok false st
@[simp] theorem chn2_t {F' : Val → Val → Sto → Out Bool} : chn2 F' mc v env true st = (mc env st).bind fun z st4 => F' v z st4 := (rfl)
@[simp] theorem chn2_f {F' : Val → Val → Sto → Out Bool} : chn2 F' mc v env false st = .ok false st := (rfl)
@[simp] theorem ap_chn {F F' : Val → Val → Sto → Out Bool} : mChn F F' ma mb mc env st = (ma env st).bind fun x st1 => (mb env st1).bind fun y st2 => (F x y st2).bind fun k st3 => chn2 F' mc y env k st3 := (rfl)
@[simp] theorem ap_bv : mBv na env st = (na env st).map fun b => .d (.bool b) := (rfl)
@[simp] theorem ap_tru : mTru m env st = (m env st).bind truF := (rfl)
@[simp] theorem ap_not : mNot na env st = (na env st).map not := (rfl)
def andK (nb : MT) (env : Env) (k : Bool) (st : Sto) : Out Bool := if k then nb env st else .ok false st
def orK (nb : MT) (env : Env) (k : Bool) (st : Sto) : Out Bool := if k then .ok true st else nb env st
@[simp] theorem andK_t : andK nb env true st = nb env st := (rfl)
@[simp] theorem andK_f : andK nb env false st = .ok false st := (rfl)
@[simp] theorem orK_t : orK nb env true st = .ok true st := (rfl)
@[simp] theorem orK_f : orK nb env false st = nb env st := (rfl)
@[simp] theorem ap_and : mAnd na nb env st = (na env st).bind fun k st1 => andK nb env k st1 := (rfl)
@[simp] theorem ap_or : mOr na nb env st = (na env st).bind fun k st1 => orK nb env k st1 := (rfl)
def andV (mb : ME) (env : Env) (x : Val) (k : Bool) (st : Sto) : Out Val := if k then mb env st else .ok x st
def orV (mb : ME) (env : Env) (x : Val) (k : Bool) (st : Sto) : Out Val := if k then .ok x st else mb env st
@[simp] theorem andV_t : andV mb env v true st = mb env st := (rfl)
@[simp] theorem andV_f : andV mb env v false st = .ok v st := (rfl)
@[simp] theorem orV_t : orV mb env v true st = .ok v st := (rfl)
@[simp] theorem orV_f : orV mb env v false st = mb env st := (rfl)
@[simp] theorem ap_andV : mAndV ma mb env st = (ma env st).bind fun x st1 => (truF x st1).bind fun k st2 => andV mb env x k st2 := (rfl)
@[simp] theorem ap_orV : mOrV ma mb env st = (ma env st).bind fun x st1 => (truF x st1).bind fun k st2 => orV mb env x k st2 := (rfl)
def ifK (ma mb : ME) (env : Env) (k : Bool) (st : Sto) : Out Val := if k then ma env st else mb env st
@[simp] theorem ifK_t : ifK ma mb env true st = ma env st := (rfl)
@[simp] theorem ifK_f : ifK ma mb env false st = mb env st := (rfl)
@[simp] theorem ap_ifE : mIfE nc ma mb env st = (nc env st).bind fun k st1 => ifK ma mb env k st1 := (rfl)
@[simp] theorem ap_nil : mNil env st = .ok [] st := (rfl)
@[simp] theorem ap_cons : mCons m mr env st = (m env st).bind fun x st1 => (mr env st1).bind fun xs st2 => .ok (x :: xs) st2 := (rfl)
@[simp] theorem ap_tup : mTup mr env st = (mr env st).bind fun xs st1 => if xs.length ≤ 16777216 then .ok (mkT xs) st1 else .bad := (rfl)
@[simp] theorem ap_lst {c : Bool} : mLst c mr env st = (mr env st).bind fun xs st1 => if xs.length ≤ 16777216 then lstR c xs st1 else .bad := (rfl)
@[simp] theorem ap_ix : mIx ma mb env st = (ma env st).bind fun x st1 => (mb env st1).bind fun y st2 => ixF x y st2 := (rfl)
@[simp] theorem ap_sl {c : Bool} {ml mh : MO} : mSl c ma ml mh env st = (ma env st).bind fun x st1 => (ml env st1).bind fun lo st2 => (mh env st2).bind fun hi st3 => slF c x lo hi st3 := (rfl)
@[simp] theorem ap_on : mONone env st = .ok none st := (rfl)
def someI (v : Val) (st : Sto) : Out (Option Int) := match v with
  | .d (.int i) => .ok (some i) st
  | _ => .bad
@[simp] theorem someI_i {i : Int} : someI (.d (.int i)) st = .ok (some i) st := (rfl)
@[simp] theorem ap_os : mOSome ma env st = (ma env st).bind someI := by
  unfold mOSome
  congr 1
@[simp] theorem ap_B {F : Fn} : mB F mr env st = (mr env st).bind F := (rfl)
@[simp] theorem ap_callP {F : Fn} {np : Nat} : mCallP F np mr env st = (mr env st).bind fun xs st1 => if xs.length = np ∧ xs.all pureV = true then (F xs []).alone st1 else .bad := (rfl)
@[simp] theorem ap_call {F : Fn} {np : Nat} : mCall F np mr env st = (mr env st).bind fun xs st1 => if xs.length = np then F xs st1 else .bad := (rfl)
@[simp] theorem alone_ok' {d : PyData} : (Out.ok (.d d) st1 : Out Val).alone st = .ok (.d d) st := (rfl)
@[simp] theorem alone_exc : (Out.exc x st1 : Out Val).alone st = .exc x st := (rfl)
@[simp] theorem ap_un {F : Val → Sto → Out Val} : mUn F ma env st = (ma env st).bind F := (rfl)
@[simp] theorem ap_isa {T : Ty7} : mIsa T m env st = (m env st).bind (isaF T) := (rfl)
@[simp] theorem ap_it : mIt m env st = (m env st).bind itF := (rfl)
@[simp] theorem ap_fmt : mFmt m env st = (m env st).bind fmtF := (rfl)
@[simp] theorem ap_enu : mEnu m env st = (m env st).bind enuF := (rfl)
@[simp] theorem ap_zip : mZip ma mb env st = (ma env st).bind fun x st1 => (mb env st1).bind fun y st2 => zipF x y st2 := (rfl)
def rg1 (v : Val) (st : Sto) : Out (List Val × Option Nat × Sto) := match v with
  | .d (.int j) => if -(2 ^ 62) ≤ j ∧ j < 2 ^ 62 then .ok (rangeL 0 j.toNat, none, st) st else .bad
  | _ => .bad
@[simp] theorem rg1_i {j : Int} : rg1 (.d (.int j)) st = if -(2 ^ 62) ≤ j ∧ j < 2 ^ 62 then .ok (rangeL 0 j.toNat, none, st) st else .bad := (rfl)
@[simp] theorem ap_rg1 : mRg1 m env st = (m env st).bind rg1 := by
  unfold mRg1
  congr 1
@[simp] theorem ap_yes : mYes env st = .ok true st := (rfl)
/-! methods -/
def tcK (m : ME) (env : Env) (v : Val) (st : Sto) : Out Val := match v with
  | .d (.tuple ds) => (m env st).bind (tcntD ds)
  | _ => .bad
@[simp] theorem tcK_t {ds : List PyData} : tcK m env (.d (.tuple ds)) st = (m env st).bind (tcntD ds) := (rfl)
@[simp] theorem ap_tcnt : mTCnt ma m env st = (ma env st).bind fun v st => tcK m env v st := by
  unfold mTCnt
  congr 1
def joK (m : ME) (env : Env) (v : Val) (st : Sto) : Out Val := match v with
  | .d (.str a) => (m env st).bind (joinF a)
  | _ => .bad
@[simp] theorem joK_s {a : Str} : joK m env (.d (.str a)) st = (m env st).bind (joinF a) := (rfl)
@[simp] theorem ap_join : mJoin ma m env st = (ma env st).bind fun v st => joK m env v st := by
  unfold mJoin
  congr 1
def spK (m : ME) (env : Env) (v : Val) (st : Sto) : Out Val := match v with
  | .d (.str a) => (m env st).bind (splitF a)
  | _ => .bad
@[simp] theorem spK_s {a : Str} : spK m env (.d (.str a)) st = (m env st).bind (splitF a) := (rfl)
@[simp] theorem ap_split : mSplit ma m env st = (ma env st).bind fun v st => spK m env v st := by
  unfold mSplit
  congr 1
def apK2 (m : ME) (env : Env) (n : Nat) (o : Option Cell) (st : Sto) : Out Val := match o with
  | some (.lst _) => (m env st).bind (appF n)
  | _ => .bad
@[simp] theorem apK2_l {xs : List Val} : apK2 m env i (some (.lst xs)) st = (m env st).bind (appF i) := (rfl)
def apK (m : ME) (env : Env) (v : Val) (st : Sto) : Out Val := match v with
  | .c n => apK2 m env n st[n]? st
  | _ => .bad
@[simp] theorem apK_c : apK m env (.c i) st = apK2 m env i st[i]? st := (rfl)
@[simp] theorem ap_app : mApp ma m env st = (ma env st).bind fun v st => apK m env v st := by
  unfold mApp
  congr 1
def app2 (n : Nat) (y : Val) (o : Option Cell) (st : Sto) : Out Val := match o with
  | some (.lst xs) => if xs.length < 16777216 then .ok (.d .none) (st.set n (.lst (xs ++ [y]))) else .bad
  | _ => .bad
@[simp] theorem app2_l {xs : List Val} : app2 i v (some (.lst xs)) st = if xs.length < 16777216 then .ok (.d .none) (st.set i (.lst (xs ++ [v]))) else .bad := (rfl)
@[simp] theorem appF_c : appF i v st = app2 i v st[i]? st := (rfl)
/-! f'..' -/
def jsK (ms : List ME) (acc : Str) (env : Env) (v : Val) (st : Sto) : Out Val := match v with
  | .d (.str y) => if (acc ++ y).length ≤ 16777216 then mJs ms (acc ++ y) env st else .bad
  | _ => .bad
@[simp] theorem jsK_s {ms : List ME} {acc y : Str} : jsK ms acc env (.d (.str y)) st = if (acc ++ y).length ≤ 16777216 then mJs ms (acc ++ y) env st else .bad := (rfl)
@[simp] theorem ap_js0 {acc : Str} : mJs [] acc env st = .ok (.d (.str acc)) st := (rfl)
@[simp] theorem ap_js {ms : List ME} {acc : Str} : mJs (m :: ms) acc env st = (m env st).bind fun v st => jsK ms acc env v st := (rfl)
/-! statements -/
@[simp] theorem ap_next : sNext env st = .next env st := (rfl)
@[simp] theorem ap_seq : sSeq ns nt env st = (ns env st).then nt := (rfl)
def ifS (ns nt : MS) (env : Env) (k : Bool) (st : Sto) : Fl := if k then ns env st else nt env st
@[simp] theorem ifS_t : ifS ns nt env true st = ns env st := (rfl)
@[simp] theorem ifS_f : ifS ns nt env false st = nt env st := (rfl)
@[simp] theorem ap_if : sIf nc ns nt env st = (nc env st).flo env fun k st1 => ifS ns nt env k st1 := (rfl)
@[simp] theorem ap_set : sSet i m env st = (m env st).flo env fun v st1 => .next (env.set i (some v)) st1 := (rfl)
@[simp] theorem ap_drop : sDrop m env st = (m env st).flo env fun _ st1 => .next env st1 := (rfl)
@[simp] theorem ap_ret : sRet m env st = (m env st).flo env fun v st1 => .ret v st1 := (rfl)
@[simp] theorem ap_retN : sRetN env st = .ret (.d .none) st := (rfl)
@[simp] theorem ap_brk : sBreak env st = .brk env st := (rfl)
@[simp] theorem ap_cont : sCont env st = .cont env st := (rfl)
@[simp] theorem outF_s : outF (some env) st = .next env st := (rfl)
@[simp] theorem ap_asg {gg : MTg} : sAsg m gg env st = (m env st).flo env fun v st1 => outF (gg v env) st1 := (rfl)
def par3 (i j l : Nat) (env : Env) (vs : List Val) (st : Sto) : Fl := match vs with
  | [u, v, w] => .next (((env.set i (some u)).set j (some v)).set l (some w)) st
  | _ => .bad
@[simp] theorem par3_3 {l : Nat} {w : Val} : par3 i j l env [u, v, w] st = .next (((env.set i (some u)).set j (some v)).set l (some w)) st := (rfl)
@[simp] theorem ap_par3 {l : Nat} : sPar3 i j l mr env st = (mr env st).flo env fun vs st1 => par3 i j l env vs st1 := by
  unfold sPar3
  congr 1
def augK (i : Nat) (m : ME) (F : Val → Val → Sto → Out Val) (o : Option (Option Val)) (env : Env) (st : Sto) : Fl := match o with
  | some (some x) => (m env st).flo env fun y st1 => (F x y st1).flo env fun z st2 => .next (env.set i (some z)) st2
  | _ => .bad
@[simp] theorem augK_s {F : Val → Val → Sto → Out Val} : augK i m F (some (some u)) env st = (m env st).flo env fun y st1 => (F u y st1).flo env fun z st2 => .next (env.set i (some z)) st2 := (rfl)
@[simp] theorem ap_aug {F : Val → Val → Sto → Out Val} : sAug i m F env st = augK i m F env[i]? env st := (rfl)
@[simp] theorem gN_ap : gN i v env = some (env.set i (some v)) := (rfl)
@[simp] theorem gsNil_ap : gsNil [] env = some env := (rfl)
@[simp] theorem gsCons_ap {gg : MTg} {gs : MTgs} : gsCons gg gs (v :: us) env = (gg v env).bind (gs us) := (rfl)
def gtK (k : Nat) (gs : MTgs) (env : Env) (o : Option (List Val)) : Option Env := match o with
  | some xs => if xs.length = k then gs xs env else none
  | none => none
@[simp] theorem gtK_s {gs : MTgs} {k : Nat} : gtK k gs env (some us) = if us.length = k then gs us env else none := (rfl)
@[simp] theorem gT_ap {gs : MTgs} {k : Nat} : gT k gs v env = gtK k gs env (seqT v) := (rfl)
@[simp] theorem kill_nil : killE [] env = env := (rfl)
@[simp] theorem kill_cons {r : List Nat} : killE (i :: r) env = killE r (env.set i none) := (rfl)
end
/-! values -/
section
variable {st : Sto} {i j : Int} {n : Nat} {a b : Str} {x y : Bool} {xs ys : List PyData} {us vs : List Val} {c : Bool} {d e : PyData} {ns : List Int}
def cellL (o : Option Cell) : Option (List Val) := match o with
  | some (.lst xs) => some xs
  | _ => none
@[simp] theorem cellL_l : cellL (some (.lst us)) = some us := (rfl)
@[simp] theorem seqL_d : seqL st (.d (.list xs)) = some (xs.map .d) := (rfl)
@[simp] theorem seqL_c : seqL st (.c n) = cellL st[n]? := by unfold seqL cellL; rfl
@[simp] theorem seqL_i : seqL st (.d (.int i)) = none := (rfl)
@[simp] theorem seqL_b : seqL st (.d (.bool x)) = none := (rfl)
@[simp] theorem seqL_s : seqL st (.d (.str a)) = none := (rfl)
@[simp] theorem seqL_t : seqL st (.d (.tuple xs)) = none := (rfl)
@[simp] theorem seqL_n : seqL st (.d .none) = none := (rfl)
@[simp] theorem seqL_t2 : seqL st (.t us) = none := (rfl)
@[simp] theorem seqL_p : seqL st (.p us) = none := (rfl)
@[simp] theorem seqR_d : seqR st (.d d) = seqL st (.d d) := (rfl)
@[simp] theorem seqR_c : seqR st (.c n) = cellL st[n]? := by show seqL st (.c n) = _; simp
@[simp] theorem seqR_s : seqR st (.s ns) = some (ns.map fun n => .d (.int n)) := (rfl)
@[simp] theorem seqR_t : seqR st (.t us) = none := (rfl)
@[simp] theorem seqR_p : seqR st (.p us) = none := (rfl)
@[simp] theorem seqT_t : seqT (.d (.tuple xs)) = some (xs.map .d) := (rfl)
@[simp] theorem seqT_t2 : seqT (.t us) = some us := (rfl)
@[simp] theorem seqT_p : seqT (.p us) = some us := (rfl)
@[simp] theorem seqT_i : seqT (.d (.int i)) = none := (rfl)
@[simp] theorem seqT_b : seqT (.d (.bool x)) = none := (rfl)
@[simp] theorem seqT_s : seqT (.d (.str a)) = none := (rfl)
@[simp] theorem seqT_l : seqT (.d (.list xs)) = none := (rfl)
@[simp] theorem seqT_n : seqT (.d .none) = none := (rfl)
@[simp] theorem addF_ii : addF c (.d (.int i)) (.d (.int j)) st = .ok (.d (.int (i + j))) st := (rfl)
@[simp] theorem addF_ss : addF c (.d (.str a)) (.d (.str b)) st = if a.length + b.length ≤ 16777216 then .ok (.d (.str (a ++ b))) st else .bad := (rfl)
@[simp] theorem addF_tt : addF c (.d (.tuple xs)) (.d (.tuple ys)) st = if xs.length + ys.length ≤ 16777216 then .ok (.d (.tuple (xs ++ ys))) st else .bad := (rfl)
@[simp] theorem addF_ll : addF c (.d (.list xs)) (.d (.list ys)) st = if xs.length + ys.length ≤ 16777216 then lstR c (xs.map .d ++ ys.map .d) st else .bad := by simp [addF]
@[simp] theorem mulF_ii : mulF c (.d (.int i)) (.d (.int j)) st = if mulOk i j then .ok (.d (.int (i * j))) st else .bad := (rfl)
@[simp] theorem mulF_li : mulF c (.d (.list xs)) (.d (.int j)) st = if -(2 ^ 63) ≤ j ∧ j < 2 ^ 63 ∧ (xs.map Val.d).length * j.toNat ≤ 16777216 then lstR c (List.replicate j.toNat (xs.map Val.d)).flatten st else .bad := by simp [mulF]
@[simp] theorem subF_ii : subF (.d (.int i)) (.d (.int j)) st = .ok (.d (.int (i - j))) st := (rfl)
@[simp] theorem modF_ii : modF (.d (.int i)) (.d (.int j)) st = if 0 < j then .ok (.d (.int (i % j))) st else .bad := (rfl)
@[simp] theorem fdivF_ii : fdivF (.d (.int i)) (.d (.int j)) st = if 0 < j ∧ j < 1073741824 then .ok (.d (.int (i / j))) st else .bad := (rfl)
@[simp] theorem powF_ii : powF (.d (.int i)) (.d (.int j)) st = if 0 ≤ j ∧ j ≤ 1000000 ∧ i.natAbs < 2 ^ 64 then .ok (.d (.int (i ^ j.toNat))) st else .bad := (rfl)
@[simp] theorem negF_i : negF (.d (.int i)) st = .ok (.d (.int (-i))) st := (rfl)
@[simp] theorem ltF_ii : ltF (.d (.int i)) (.d (.int j)) st = .ok (decide (i < j)) st := (rfl)
@[simp] theorem leF_ii : leF (.d (.int i)) (.d (.int j)) st = .ok (decide (i ≤ j)) st := (rfl)
@[simp] theorem gtF_ii : gtF (.d (.int i)) (.d (.int j)) st = .ok (decide (j < i)) st := (rfl)
@[simp] theorem geF_ii : geF (.d (.int i)) (.d (.int j)) st = .ok (decide (j ≤ i)) st := (rfl)
@[simp] theorem eqF_dd : eqF (.d d) (.d e) st = outB (eqD d e) st := (rfl)
@[simp] theorem neF_dd : neF (.d d) (.d e) st = (outB (eqD d e) st).map not := (rfl)
@[simp] theorem outB_s {b : Bool} : outB (some b) st = .ok b st := (rfl)
@[simp] theorem eqD_ii : eqD (.int i) (.int j) = some (i == j) := (rfl)
@[simp] theorem eqD_ss : eqD (.str a) (.str b) = some (a == b) := (rfl)
@[simp] theorem eqD_bb : eqD (.bool x) (.bool y) = some (x == y) := (rfl)
@[simp] theorem inF_dd : inF (.d d) (.d e) st = outB (inD d e) st := (rfl)
@[simp] theorem ninF_dd : ninF (.d d) (.d e) st = (outB (inD d e) st).map not := (rfl)
@[simp] theorem isNF_dn : isNF (.d d) (.d .none) st = .ok (noneB d) st := (rfl)
@[simp] theorem isNnF_dn : isNnF (.d d) (.d .none) st = .ok (!noneB d) st := (rfl)
@[simp] theorem noneB_n : noneB .none = true := (rfl)
@[simp] theorem noneB_i : noneB (.int i) = false := (rfl)
@[simp] theorem noneB_s : noneB (.str a) = false := (rfl)
@[simp] theorem noneB_b : noneB (.bool x) = false := (rfl)
@[simp] theorem noneB_l : noneB (.list xs) = false := (rfl)
@[simp] theorem noneB_t : noneB (.tuple xs) = false := (rfl)
@[simp] theorem truF_n : truF (.d .none) st = .ok false st := (rfl)
@[simp] theorem truF_b : truF (.d (.bool x)) st = .ok x st := (rfl)
@[simp] theorem truF_i : truF (.d (.int i)) st = .ok (i != 0) st := (rfl)
@[simp] theorem truF_l : truF (.d (.list xs)) st = .ok (!xs.isEmpty) st := by cases xs <;> rfl
@[simp] theorem truF_t : truF (.d (.tuple xs)) st = .ok (!xs.isEmpty) st := by cases xs <;> rfl
@[simp] theorem lstR_f : lstR false us st = newL us st := (rfl)
@[simp] theorem lstR_t : lstR true us st = .ok (.c st.length) (st ++ [.lst us]) := (rfl)
def newK (o : Option (List PyData)) (st : Sto) : Out Val := match o with
  | some ds => .ok (.d (.list ds)) st
  | none => .bad
@[simp] theorem newK_s : newK (some xs) st = .ok (.d (.list xs)) st := (rfl)
@[simp] theorem newL_k : newL us st = newK (datas us) st := (rfl)
def mkK (o : Option (List PyData)) (vs : List Val) : Val := match o with
  | some ds => .d (.tuple ds)
  | none => .t vs
@[simp] theorem mkK_s : mkK (some xs) us = .d (.tuple xs) := (rfl)
@[simp] theorem mkT_k : mkT us = mkK (datas us) us := (rfl)
@[simp] theorem datas_nil : datas [] = some [] := (rfl)
@[simp] theorem datas_d : datas (.d d :: us) = (datas us).map (d :: ·) := (rfl)
theorem dats {α : Type} (f : α → PyData) (l : List α) : datas (l.map fun x => Val.d (f x)) = some (l.map f) := by
  induction l with
  | nil => rfl
  | cons a l ih => simp [ih]
@[simp] theorem dats1 {α : Type} (f : α → PyData) (l : List α) : datas (l.map (Val.d ∘ f)) = some (l.map f) := dats f l
@[simp] theorem dats0 (l : List PyData) : datas (l.map Val.d) = some l := datas_map l
@[simp] theorem dats_app (xs ys : List PyData) : datas (xs.map Val.d ++ ys.map Val.d) = some (xs ++ ys) := by rw [← List.map_append]; exact datas_map _
def ix2 (o : Option (List Val)) (x : Val) (i : Int) (st : Sto) : Out Val := match o with
  | some xs => outV (atI xs i) st
  | none => match seqT x with
    | some xs => outV (atI xs i) st
    | none => match x with
      | .d (.str s) => if s.length ≤ 16777216 then (match atI s.cps.toList i with
        | some c => .ok (.d (.str ⟨#[c]⟩)) st
        | none => .bad) else .bad
      | _ => .bad
@[simp] theorem ixF_l : ixF (.d (.list xs)) (.d (.int i)) st = outV (atI (xs.map .d) i) st := (rfl)
@[simp] theorem ixF_t : ixF (.d (.tuple xs)) (.d (.int i)) st = outV (atI (xs.map .d) i) st := (rfl)
@[simp] theorem ixF_s : ixF (.s ns) (.d (.int i)) st = outV (atI (ns.map fun n => .d (.int n)) i) st := (rfl)
@[simp] theorem outV_s {v : Val} : outV (some v) st = .ok v st := (rfl)
@[simp] theorem slF_s {lo hi : Option Int} : slF c (.d (.str a)) lo hi st = if a.length ≤ 16777216 then .ok (.d (.str (cutS a lo hi))) st else .bad := (rfl)
@[simp] theorem slF_t {lo hi : Option Int} : slF c (.d (.tuple xs)) lo hi st = .ok (.d (.tuple (cutL xs lo hi))) st := (rfl)
@[simp] theorem slF_l {lo hi : Option Int} : slF c (.d (.list xs)) lo hi st = lstR c ((cutL xs lo hi).map .d) st := by rw [cutL_map]; rfl
@[simp] theorem slF_r {lo hi : Option Int} : slF c (.s ns) lo hi st = lstR c ((cutL ns lo hi).map fun n => .d (.int n)) st := by rw [cutL_map]; rfl
def isaK (T : Ty7) (o : Option Ty7) (st : Sto) : Out Val := match o with
  | some t => .ok (.d (.bool (isaT t T))) st
  | none => .bad
@[simp] theorem isaK_s {t T : Ty7} : isaK T (some t) st = .ok (.d (.bool (isaT t T))) st := (rfl)
@[simp] theorem isa_d {T : Ty7} : isaF T (.d d) st = isaK T (tyD d) st := (rfl)
@[simp] theorem tyD_i : tyD (.int i) = some .int := (rfl)
@[simp] theorem tyD_b : tyD (.bool x) = some .bool := (rfl)
@[simp] theorem tyD_s : tyD (.str a) = some .str := (rfl)
@[simp] theorem tyD_l : tyD (.list xs) = some .list := (rfl)
@[simp] theorem tyD_t : tyD (.tuple xs) = some .tuple := (rfl)
@[simp] theorem tyD_n : tyD .none = some .none := (rfl)
@[simp] theorem isaT_s (a b : Ty7) : isaT a b = (decide (a = b) || (decide (a = .bool) && decide (b = .int))) := by cases a <;> cases b <;> rfl
@[simp] theorem lenF_l : lenF [.d (.list xs)] st = .ok (.d (.int xs.length)) st := by simp [lenF, lenV]
@[simp] theorem lenF_t : lenF [.d (.tuple xs)] st = .ok (.d (.int xs.length)) st := by simp [lenF, lenV]
@[simp] theorem lenF_s : lenF [.s ns] st = .ok (.d (.int ns.length)) st := by simp [lenF, lenV]
@[simp] theorem lenF_str : lenF [.d (.str a)] st = if a.length ≤ 16777216 then .ok (.d (.int a.length)) st else .bad := by
  simp only [lenF, lenV]; split <;> simp_all
def len2 (o : Option (List Val)) (st : Sto) : Out Val := match o with
  | some xs => .ok (.d (.int xs.length)) st
  | none => .bad
@[simp] theorem len2_s : len2 (some us) st = .ok (.d (.int us.length)) st := (rfl)
@[simp] theorem lenF_c : lenF [.c n] st = len2 (cellL st[n]?) st := by
  simp only [lenF, lenV, seqR_c]
  cases cellL st[n]? <;> simp [len2, seqT]
@[simp] theorem absF_i : absF [.d (.int i)] st = .ok (.d (.int (if i < 0 then -i else i))) st := (rfl)
@[simp] theorem intF_i : intF [.d (.int i)] st = .ok (.d (.int i)) st := (rfl)
@[simp] theorem intF_b : intF [.d (.bool x)] st = .ok (.d (.int (if x then 1 else 0))) st := (rfl)
@[simp] theorem strF_i : strF [.d (.int i)] st = if i.natAbs.log2 < 1920 then .ok (.d (.str (toString i))) st else .bad := (rfl)
@[simp] theorem strF_s : strF [.d (.str a)] st = .ok (.d (.str a)) st := (rfl)
@[simp] theorem max2F_ii : max2F [.d (.int i), .d (.int j)] st = .ok (.d (.int (if j > i then j else i))) st := (rfl)
@[simp] theorem min2F_ii : min2F [.d (.int i), .d (.int j)] st = .ok (.d (.int (if j < i then j else i))) st := (rfl)
@[simp] theorem fmtF_s : fmtF (.d (.str a)) st = if a.length ≤ 16777216 then .ok (.d (.str a)) st else .bad := (rfl)
@[simp] theorem fmtF_i : fmtF (.d (.int i)) st = if i.natAbs.log2 < 1920 then .ok (.d (.str (toString i))) st else .bad := (rfl)
@[simp] theorem tupF_t : tupF [.d (.tuple xs)] st = .ok (.d (.tuple xs)) st := (rfl)
@[simp] theorem tupF_l : tupF [.d (.list xs)] st = .ok (.d (.tuple xs)) st := by simp [tupF]
def tup2 (o : Option (List Val)) (st : Sto) : Out Val := match o with
  | some ys => .ok (mkT ys) st
  | none => .bad
@[simp] theorem tup2_s : tup2 (some us) st = .ok (mkT us) st := (rfl)
@[simp] theorem tupF_c : tupF [.c n] st = tup2 (cellL st[n]?) st := by
  simp only [tupF, seqR_c]
  cases cellL st[n]? <;> rfl
@[simp] theorem listF_l : listF c [.d (.list xs)] st = lstR c (xs.map .d) st := (rfl)
@[simp] theorem listF_t : listF c [.d (.tuple xs)] st = lstR c (xs.map .d) st := (rfl)
@[simp] theorem listF_s : listF c [.s ns] st = lstR c (ns.map fun n => .d (.int n)) st := (rfl)
@[simp] theorem bools_map (l : List Bool) : bools (l.map fun b => .d (.bool b)) = some l := by
  induction l with
  | nil => rfl
  | cons a l ih => show (bools (l.map _)).map _ = _; rw [ih]; rfl
@[simp] theorem bools_map1 (l : List Bool) : bools (l.map (Val.d ∘ PyData.bool)) = some l := bools_map l
@[simp] theorem allF_l {l : List Bool} : allF [.d (.list (l.map .bool))] st = .ok (.d (.bool (l.all id))) st := by simp [allF]
@[simp] theorem anyF_l {l : List Bool} : anyF [.d (.list (l.map .bool))] st = .ok (.d (.bool (l.any id))) st := by simp [anyF]
@[simp] theorem itF_l : itF (.d (.list xs)) st = .ok (xs.map .d, none, st) st := (rfl)
@[simp] theorem itF_t : itF (.d (.tuple xs)) st = .ok (xs.map .d, none, st) st := (rfl)
@[simp] theorem itF_s : itF (.s ns) st = .ok (ns.map fun n => .d (.int n), none, st) st := (rfl)
@[simp] theorem zipF_ll : zipF (.d (.list xs)) (.d (.list ys)) st = .ok (zipL (xs.map .d) (ys.map .d), none, st) st := (rfl)
@[simp] theorem zipF_tt : zipF (.d (.tuple xs)) (.d (.tuple ys)) st = .ok (zipL (xs.map .d) (ys.map .d), none, st) st := (rfl)
@[simp] theorem enuF_l : enuF (.d (.list xs)) st = .ok (enumL 0 (xs.map .d), none, st) st := (rfl)
@[simp] theorem tcntD_d : tcntD xs (.d d) st = if PyData.plainAll xs && d.plain && decide (d.depth ≤ 40) then .ok (.d (.int ((xs.countP fun z => PyData.eqv z d : Nat) : Int))) st else .bad := (rfl)
def joK2 (a : Str) (o : Option (List Str)) (st : Sto) : Out Val := match o with
  | some ys => if joinLen a ys then .ok (.d (.str (Txt.join a ys))) st else .bad
  | none => .bad
@[simp] theorem joK2_s {ys : List Str} : joK2 a (some ys) st = if joinLen a ys then .ok (.d (.str (Txt.join a ys))) st else .bad := (rfl)
@[simp] theorem joinF_k {y : Val} : joinF a y st = joK2 a ((seqA st y).bind txs) st := (rfl)
@[simp] theorem seqA_l : seqA st (.d (.list xs)) = some (xs.map .d) := (rfl)
@[simp] theorem seqA_t : seqA st (.d (.tuple xs)) = some (xs.map .d) := (rfl)
@[simp] theorem seqA_c : seqA st (.c n) = cellL st[n]? := by
  simp only [seqA, seqR_c]
  cases cellL st[n]? <;> rfl
@[simp] theorem txs_nil : txs [] = some [] := (rfl)
@[simp] theorem txs_d : txs (.d (.str a) :: us) = (txs us).map (a :: ·) := (rfl)
@[simp] theorem txs_m1 (l : List Str) : txs (l.map (Val.d ∘ PyData.str)) = some l := txs_map l
@[simp] theorem txs_m2 (l : List Str) : txs (l.map fun x => Val.d (.str x)) = some l := txs_map l
@[simp] theorem splitF_s : splitF a (.d (.str b)) st = if b.length ≠ 0 ∧ a.length + 2 ≤ 16777216 then .ok (.d (.list ((Txt.split a b).map PyData.str))) st else .bad := (rfl)
@[simp] theorem extF_c {y : Val} : extF (.c n) y st = (match cellL st[n]?, seqL st y with
    | some xs, some ys => if xs.length + ys.length ≤ 16777216 then .ok (.c n) (st.set n (.lst (xs ++ ys))) else .bad
    | _, _ => .bad) := by
  unfold extF cellL
  simp only
  cases st[n]? with
  | none => rfl
  | some z => cases z <;> cases seqL st y <;> rfl
@[simp] theorem addI_ii : addI (.d (.int i)) (.d (.int j)) st = .ok (.d (.int (i + j))) st := (rfl)
end
@[simp] theorem atI_nat {α : Type} (xs : List α) (i : Nat) : atI xs (i : Int) = xs[i]? := by
  unfold atI ixN
  rw [if_pos (by omega)]
  by_cases h : i < xs.length
  · rw [if_pos (by omega)]; simp
  · rw [if_neg (by omega)]; simp; omega
@[simp] theorem atI_0 {α : Type} (xs : List α) : atI xs 0 = xs[0]? := atI_nat xs 0
@[simp] theorem atI_1 {α : Type} (xs : List α) : atI xs 1 = xs[1]? := atI_nat xs 1
@[simp] theorem atI_2 {α : Type} (xs : List α) : atI xs 2 = xs[2]? := atI_nat xs 2
@[simp] theorem atI_3 {α : Type} (xs : List α) : atI xs 3 = xs[3]? := atI_nat xs 3
@[simp] theorem atI_4 {α : Type} (xs : List α) : atI xs 4 = xs[4]? := atI_nat xs 4
@[simp] theorem atI_5 {α : Type} (xs : List α) : atI xs 5 = xs[5]? := atI_nat xs 5
@[simp] theorem atI_6 {α : Type} (xs : List α) : atI xs 6 = xs[6]? := atI_nat xs 6
@[simp] theorem atI_7 {α : Type} (xs : List α) : atI xs 7 = xs[7]? := atI_nat xs 7
@[simp] theorem atI_8 {α : Type} (xs : List α) : atI xs 8 = xs[8]? := atI_nat xs 8
@[simp] theorem atI_9 {α : Type} (xs : List α) : atI xs 9 = xs[9]? := atI_nat xs 9
@[simp] theorem atI_10 {α : Type} (xs : List α) : atI xs 10 = xs[10]? := atI_nat xs 10
@[simp] theorem atI_11 {α : Type} (xs : List α) : atI xs 11 = xs[11]? := atI_nat xs 11
@[simp] theorem atI_12 {α : Type} (xs : List α) : atI xs 12 = xs[12]? := atI_nat xs 12
@[simp] theorem atI_13 {α : Type} (xs : List α) : atI xs 13 = xs[13]? := atI_nat xs 13
@[simp] theorem atI_14 {α : Type} (xs : List α) : atI xs 14 = xs[14]? := atI_nat xs 14
@[simp] theorem atI_15 {α : Type} (xs : List α) : atI xs 15 = xs[15]? := atI_nat xs 15
@[simp] theorem gd_none (a b : Sto) : gdP none a b = True := (rfl)
/-! defs -/
def runK (base : Nat) (f : Fl) : Out Val := match f with
  | .ret v st' => exitF base v st'
  | .next _ st' => .ok (.d .none) st'
  | .exc x _ st' => .exc x st'
  | _ => .bad
@[simp] theorem runK_ret {b : Nat} {v : Val} {st : Sto} : runK b (.ret v st) = exitF b v st := (rfl)
@[simp] theorem runK_next {b : Nat} {e : Env} {st : Sto} : runK b (.next e st) = .ok (.d .none) st := (rfl)
@[simp] theorem runK_exc {b : Nat} {e : Env} {x : Exn} {st : Sto} : runK b (.exc x e st) = .exc x st := (rfl)
@[simp] theorem runF_ap {n : Nat} {m : MS} {args : List Val} {st : Sto} : runF n m args st = runK st.length (m (args.map some ++ List.replicate (n - args.length) none) st) := by
  unfold runF runK
  generalize m _ st = z
  cases z <;> rfl
@[simp] theorem exitF_d {b : Nat} {d : PyData} {st : Sto} : exitF b (.d d) st = .ok (.d d) st := (rfl)
def exK (v : Val) (st : Sto) (o : Option (PyData × Sto)) : Out Val := match o with
  | some (x, st') => .ok (.d x) st'
  | none => .ok v st
@[simp] theorem exK_s {v : Val} {d : PyData} {st0 st : Sto} : exK v st0 (some (d, st)) = .ok (.d d) st := (rfl)
@[simp] theorem exK_n {v : Val} {st0 : Sto} : exK v st0 none = .ok v st0 := (rfl)
theorem exK_eq (v : Val) (st : Sto) (z : Option (PyData × Sto)) : (match z with | some (x, st') => (Out.ok (.d x) st' : Out Val) | none => .ok v st) = exK v st z := by
  cases z with
  | none => rfl
  | some z => cases z; rfl
@[simp] theorem exitF_c {b n : Nat} {st : Sto} : exitF b (.c n) st = if n < b then .ok (.c n) st else exK (.c n) st (frzV 8 (.c n) st) :=
  congrArg (fun y : Out Val => if n < b then (Out.ok (Val.c n) st : Out Val) else y) (exK_eq (.c n) st (frzV 8 (.c n) st))
theorem frzL_d {f : Val → Sto → Option (PyData × Sto)} (hf : ∀ d st, f (.d d) st = some (d, st)) : ∀ (l : List PyData) (st : Sto), frzL f (l.map .d) st = some (l, st)
  | [], _ => rfl
  | d :: l, st => by
    simp [frzL, hf, frzL_d hf l st]
def frK (o : Option (List PyData × Sto)) : Option (PyData × Sto) := match o with
  | some (ds, st') => some (.list ds, st')
  | none => none
/-- a cell of data is frozen -/
theorem frz_lst {n k : Nat} {st : Sto} {l : List PyData} (h : st[n]? = some (.lst (l.map .d))) : frzV (k + 2) (.c n) st = some (.list l, st.set n .dead) := by
  unfold frzV
  rw [h]
  simp only
  rw [frzL_d (fun d st => rfl)]
theorem frz_f {n k : Nat} {st : Sto} {α : Type} {f : α → PyData} {l : List α} (h : st[n]? = some (.lst (l.map (Val.d ∘ f)))) : frzV (k + 2) (.c n) st = some (.list (l.map f), st.set n .dead) := frz_lst (by simpa using h)
@[simp] theorem frz_0f {α : Type} {f : α → PyData} {l : List α} : frzV 8 (.c 0) [.lst (l.map (Val.d ∘ f))] = some (.list (l.map f), [.dead]) := frz_f (n := 0) rfl
@[simp] theorem frz_0 {l : List PyData} : frzV 8 (.c 0) [.lst (l.map .d)] = some (.list l, [.dead]) := frz_lst (n := 0) rfl
/-! loops -/
/-- a comprehension over l, pure -/
theorem lc_map {α : Type} (f φ : α → Val) {st0 : Sto} {g : MTg} {tt : MT} {el : ME} {env : Env} {st : Sto} : ∀ (l : List α), (∀ a ∈ l, ∃ env1, g (f a) env = some env1 ∧ tt env1 st = .ok true st ∧ el env1 st = .ok (φ a) st) → lcM none st0 g tt el env (l.map f) st = .ok (l.map φ) st
  | [], _ => by simp [lcM]
  | a :: l, h => by
    obtain ⟨env1, h1, h2, h3⟩ := h a (by simp)
    have ih := lc_map f φ (st0 := st0) (g := g) (tt := tt) (el := el) (env := env) (st := st) l fun b hb => h b (by simp [hb])
    simp [lcM, h1, h2, h3, ih]
/-- a loop that goes on to its end -/
theorem forM_ex {st0 : Sto} {g : MTg} {body : MS} {kill : List Nat} (Inv : Nat → Env → Sto → Prop) : ∀ (l : List Val) (i : Nat) (env : Env) (st : Sto), Inv i env st →
    (∀ j x env st, l[j]? = some x → Inv (i + j) env st → ∃ env1, g x env = some env1 ∧ ∃ env2 st2, (body env1 st = .next env2 st2 ∨ body env1 st = .cont env2 st2) ∧ Inv (i + j + 1) (killE kill env2) st2) →
    ∃ env' st', forM none st0 g body kill l env st = .next env' st' ∧ Inv (i + l.length) env' st'
  | [], i, env, st, h0, _ => ⟨env, st, by simp [forM], h0⟩
  | x :: l, i, env, st, h0, hs => by
    obtain ⟨env1, h1, env2, st2, h2, h3⟩ := hs 0 x env st rfl h0
    obtain ⟨env', st', h4, h5⟩ := forM_ex (st0 := st0) (g := g) (body := body) (kill := kill) Inv l (i + 1) (killE kill env2) st2 h3 fun j y e s hy hI => by
      obtain ⟨e1, z1, e2, s2, z2, z3⟩ := hs (j + 1) y e s (by simpa using hy) (by rw [show i + (j + 1) = i + 1 + j by omega]; exact hI)
      exact ⟨e1, z1, e2, s2, z2, by rw [show i + 1 + j + 1 = i + (j + 1) + 1 by omega]; exact z3⟩
    refine ⟨env', st', ?_, by rw [show i + (x :: l).length = i + 1 + l.length by simp; omega]; exact h5⟩
    unfold forM
    rw [if_pos (by simp)]
    simp only [h1]
    rcases h2 with h2 | h2 <;> simp only [h2] <;> exact h4
theorem rg_ok {n : Nat} {st : Sto} (h : n ≤ 1000000) : rg1 (.d (.int (n : Int))) st = .ok (rangeL 0 n, none, st) st := by
  rw [rg1_i, if_pos ⟨by omega, by omega⟩]; rfl
@[simp] theorem rangeL_len (lo : Int) (n : Nat) : (rangeL lo n).length = n := by simp [rangeL]
theorem rangeL_get {lo : Int} {n i : Nat} {x : Val} (h : (rangeL lo n)[i]? = some x) : i < n ∧ x = vI (lo + i) := by
  have hl : i < n := by
    have := (List.getElem?_eq_some_iff.mp h).1
    simpa using this
  simp [rangeL, hl] at h
  exact ⟨hl, h.symm⟩
end Z

namespace Z
open PySem PySem.Spec PyProof.Rows L2
theorem cut_nn {α : Type} (xs : List α) (a b : Nat) : cutL xs (some (a : Int)) (some (b : Int)) = (xs.take b).drop a := by
  unfold cutL
  rw [HT.sIx_nat, HT.sIx_nat, List.drop_take]
  by_cases h : a ≤ xs.length
  · rw [Nat.min_eq_left h]
    by_cases h2 : b ≤ xs.length
    · rw [Nat.min_eq_left h2]
    · rw [Nat.min_eq_right (show xs.length ≤ b by omega)]
      rw [List.take_of_length_le (by simp), List.take_of_length_le (by simp; omega)]
  · rw [Nat.min_eq_right (show xs.length ≤ a by omega)]
    rw [List.drop_of_length_le (Nat.le_refl _), List.drop_of_length_le (show xs.length ≤ a by omega)]
    simp
theorem cut_on {α : Type} (xs : List α) (b : Nat) : cutL xs none (some (b : Int)) = xs.take b := by
  unfold cutL
  rw [HT.sIx_nat, HT.sIx_none]
  simp [List.take_eq_take_iff]
theorem cut_no {α : Type} (xs : List α) (a : Nat) : cutL xs (some (a : Int)) none = xs.drop a := by
  unfold cutL
  rw [HT.sIx_nat, HT.sIx_none]
  by_cases h : a ≤ xs.length
  · rw [Nat.min_eq_left h, List.take_of_length_le (by simp)]
  · rw [Nat.min_eq_right (show xs.length ≤ a by omega), List.drop_of_length_le (Nat.le_refl _), List.drop_of_length_le (show xs.length ≤ a by omega)]
    simp
@[simp] theorem eqv_ss (a b : Str) : PyData.eqv (.str a) (.str b) = (a == b) := (rfl)
@[simp] theorem eqv_ii (a b : Int) : PyData.eqv (.int a) (.int b) = (a == b) := (rfl)
@[simp] theorem dep_s (a : Str) : PyData.depth (.str a) = 0 := (rfl)
@[simp] theorem pl_s (a : Str) : PyData.plain (.str a) = true := (rfl)
theorem pl_map_s (l : List Str) : PyData.plainAll (l.map .str) = true := by
  induction l with
  | nil => rfl
  | cons a l ih => show (PyData.plain (.str a) && PyData.plainAll (l.map .str)) = true; rw [ih]; rfl
theorem cnt_map (l : List Str) (x : Str) : (l.map PyData.str).countP (fun z => PyData.eqv z (.str x)) = l.count x := by
  rw [List.countP_map]; rfl
@[simp] theorem pureV_d {d : PyData} : pureV (.d d) = true := (rfl)
@[simp] theorem pureV_s {d : List Int} : pureV (.s d) = true := (rfl)
@[simp] theorem dats_rep (n : Nat) (d : PyData) : datas (List.replicate n (Val.d d)) = some (List.replicate n d) := by
  induction n with
  | zero => rfl
  | succ n ih => simp [List.replicate_succ, ih]
@[simp] theorem cnt_map2 (l : List Str) (x : Str) : List.countP ((fun z => PyData.eqv z (.str x)) ∘ PyData.str) l = l.count x := by rfl
/-! step by step -/
section
variable {P : Fl → Prop} {ns nt : MS} {nc : MT} {env e1 : Z.Env} {st s1 : Sto} {k : Bool} {m : ME} {i : Nat} {v : Val}
theorem seqP (h : ns env st = .next e1 s1) (h2 : P (nt e1 s1)) : P (sSeq ns nt env st) := by rw [ap_seq, h]; exact h2
theorem setP (h : m env st = .ok v s1) (h2 : P (nt (env.set i (some v)) s1)) : P (sSeq (sSet i m) nt env st) := by rw [ap_seq, ap_set, h]; exact h2
theorem ifP (h : nc env st = .ok k s1) (h2 : P (ifS ns nt env k s1)) : P (sIf nc ns nt env st) := by rw [ap_if, h]; exact h2
theorem ifSP {nu : MS} (h : nc env st = .ok k s1) (h2 : P ((ifS ns nt env k s1).then nu)) : P (sSeq (sIf nc ns nt) nu env st) := by rw [ap_seq, ap_if, h]; exact h2
end
section
variable {P : Fl → Prop} {ns nt nu : MS} {nc : MT} {env e1 : Z.Env} {st s1 : Sto} {k : Bool} {m : ME} {i : Nat} {v : Val}
theorem setPT (h : m env st = .ok v s1) (h2 : P ((nt (env.set i (some v)) s1).then nu)) : P ((sSeq (sSet i m) nt env st).then nu) := by rw [ap_seq, ap_set, h]; exact h2
theorem set1PT (h : m env st = .ok v s1) (h2 : P (nu (env.set i (some v)) s1)) : P ((sSet i m env st).then nu) := by rw [ap_set, h]; exact h2
theorem ifPT {n3 : MS} (h : nc env st = .ok k s1) (h2 : P (((ifS ns nt env k s1).then n3).then nu)) : P ((sSeq (sIf nc ns nt) n3 env st).then nu) := by rw [ap_seq, ap_if, h]; exact h2
theorem if1PT (h : nc env st = .ok k s1) (h2 : P ((ifS ns nt env k s1).then nu)) : P ((sIf nc ns nt env st).then nu) := by rw [ap_if, h]; exact h2
theorem set1PTT {n3 : MS} (h : m env st = .ok v s1) (h2 : P ((n3 (env.set i (some v)) s1).then nu)) : P (((sSet i m env st).then n3).then nu) := by rw [ap_set, h]; exact h2
end
theorem bind_eq {α β : Type} {o : Out α} {f : α → Sto → Out β} {a : α} {st : Sto} {r : Out β} (h : o = .ok a st) (h2 : f a st = r) : o.bind f = r := by rw [h]; exact h2
/-- l[:n] + [x] + l[n:] -/
theorem ev_ins {env : Z.Env} {st : Sto} {i j : Nat} {l : List Str} {n : Nat} {x : Str} (h6 : env[i]? = some (some (.d (.list (l.map .str))))) (h7 : env[j]? = some (some (vI n))) (hl : l.length ≤ 1000) :
    (mBin (addF false) (mBin (addF false) (mSl false (mVar i) mONone (mOSome (mVar j))) (mLst false (mCons (mD (.str x)) mNil))) (mSl false (mVar i) (mOSome (mVar j)) mONone)) env st = .ok (.d (.list ((l.take n ++ (x :: l.drop n)).map .str))) st := by
  have e1 : cutL (l.map PyData.str) none (some (n : Int)) = (l.take n).map .str := by rw [cut_on, List.map_take]
  have e2 : cutL (l.map PyData.str) (some (n : Int)) none = (l.drop n).map .str := by rw [cut_no, List.map_drop]
  have e3 : datas ((l.take n).map (Val.d ∘ PyData.str) ++ [Val.d (.str x)]) = some ((l.take n).map .str ++ [.str x]) := by
    have := dats_app ((l.take n).map .str) [.str x]
    simpa [List.map_take] using this
  have e4 : datas (((l.take n).map PyData.str ++ [PyData.str x]).map Val.d ++ (l.drop n).map (Val.d ∘ PyData.str)) = some ((l.take n).map .str ++ [.str x] ++ (l.drop n).map .str) := by
    have := dats_app ((l.take n).map .str ++ [.str x]) ((l.drop n).map .str)
    rw [← List.map_map]
    exact this
  have n1 : ((l.take n).map PyData.str).length + 1 ≤ 16777216 := by simp; omega
  have n2 : ((l.take n).map PyData.str ++ [PyData.str x]).length + ((l.drop n).map PyData.str).length ≤ 16777216 := by simp; omega
  rw [ap_bin, ap_bin]
  refine bind_eq (a := .d (.list ((l.take n).map .str ++ [.str x]))) (st := st) ?_ ?_
  · refine bind_eq (a := .d (.list ((l.take n).map .str))) (st := st) ?_ ?_
    · simp [h6, h7, e1, -List.map_take]
    · rw [ap_lst]
      simp only [ap_cons, ap_D, ap_nil, bind_ok, List.length_cons, List.length_nil, lstR_f, newL_k, datas_d, datas_nil, Option.map_some, newK_s, show (0 + 1 ≤ 16777216) = True by simp, if_true, addF_ll, List.map_map]
      rw [if_pos (by simpa using n1)]
      rw [show List.map Val.d [PyData.str x] = [Val.d (.str x)] from rfl, e3, newK_s]
  · simp only [ap_sl, ap_var, h6, h7, getE_some, bind_ok, ap_os, someI_i, ap_on, slF_l, e2, lstR_f, newL_k, dats1, List.map_map, newK_s, addF_ll]
    rw [if_pos n2, e4]
    simp
/-- l[:n] + l[n + 1:] -/
theorem ev_cut {env : Z.Env} {st : Sto} {i j : Nat} {l : List Str} {n : Nat} (h6 : env[i]? = some (some (.d (.list (l.map .str))))) (h7 : env[j]? = some (some (vI n))) (hl : l.length ≤ 1000) :
    (mBin (addF false) (mSl false (mVar i) mONone (mOSome (mVar j))) (mSl false (mVar i) (mOSome (mBin (addF false) (mVar j) (mD (.int 1)))) mONone)) env st = .ok (.d (.list ((l.take n ++ l.drop (n + 1)).map .str))) st := by
  have e1 : cutL (l.map PyData.str) none (some (n : Int)) = (l.take n).map .str := by rw [cut_on, List.map_take]
  have e2 : cutL (l.map PyData.str) (some ((n : Int) + 1)) none = (l.drop (n + 1)).map .str := by
    rw [show (n : Int) + 1 = ((n + 1 : Nat) : Int) by omega, cut_no, List.map_drop]
  have e4 : datas (((l.take n).map PyData.str).map Val.d ++ (l.drop (n + 1)).map (Val.d ∘ PyData.str)) = some ((l.take n).map .str ++ (l.drop (n + 1)).map .str) := by
    have := dats_app ((l.take n).map .str) ((l.drop (n + 1)).map .str)
    rw [← List.map_map]
    exact this
  have n2 : ((l.take n).map PyData.str).length + ((l.drop (n + 1)).map PyData.str).length ≤ 16777216 := by simp; omega
  rw [ap_bin]
  refine bind_eq (a := .d (.list ((l.take n).map .str))) (st := st) ?_ ?_
  · simp [h6, h7, e1, -List.map_take]
  · simp only [ap_sl, ap_var, ap_bin, ap_D, addF_ii, h6, h7, getE_some, bind_ok, ap_os, someI_i, ap_on, slF_l, e2, lstR_f, newL_k, dats1, List.map_map, newK_s, addF_ll]
    rw [if_pos n2]
    rw [← List.map_map, e4]
    simp
/-- l[:n] + [x] + l[n + 1:] -/
theorem ev_put {env : Z.Env} {st : Sto} {i j : Nat} {l : List Str} {n : Nat} {x : Str} {mx : ME} (h6 : env[i]? = some (some (.d (.list (l.map .str))))) (h7 : env[j]? = some (some (vI n))) (hx : mx env st = .ok (vS x) st) (hl : l.length ≤ 1000) :
    (mBin (addF false) (mBin (addF false) (mSl false (mVar i) mONone (mOSome (mVar j))) (mLst false (mCons mx mNil))) (mSl false (mVar i) (mOSome (mBin (addF false) (mVar j) (mD (.int 1)))) mONone)) env st = .ok (.d (.list ((l.take n ++ (x :: l.drop (n + 1))).map .str))) st := by
  have e1 : cutL (l.map PyData.str) none (some (n : Int)) = (l.take n).map .str := by rw [cut_on, List.map_take]
  have e2 : cutL (l.map PyData.str) (some ((n : Int) + 1)) none = (l.drop (n + 1)).map .str := by
    rw [show (n : Int) + 1 = ((n + 1 : Nat) : Int) by omega, cut_no, List.map_drop]
  have e3 : datas ((l.take n).map (Val.d ∘ PyData.str) ++ [Val.d (.str x)]) = some ((l.take n).map .str ++ [.str x]) := by
    have := dats_app ((l.take n).map .str) [.str x]
    simpa [List.map_take] using this
  have e4 : datas (((l.take n).map PyData.str ++ [PyData.str x]).map Val.d ++ (l.drop (n + 1)).map (Val.d ∘ PyData.str)) = some ((l.take n).map .str ++ [.str x] ++ (l.drop (n + 1)).map .str) := by
    have := dats_app ((l.take n).map .str ++ [.str x]) ((l.drop (n + 1)).map .str)
    rw [← List.map_map]
    exact this
  have n1 : ((l.take n).map PyData.str).length + 1 ≤ 16777216 := by simp; omega
  have n2 : ((l.take n).map PyData.str ++ [PyData.str x]).length + ((l.drop (n + 1)).map PyData.str).length ≤ 16777216 := by simp; omega
  rw [ap_bin, ap_bin]
  refine bind_eq (a := .d (.list ((l.take n).map .str ++ [.str x]))) (st := st) ?_ ?_
  · refine bind_eq (a := .d (.list ((l.take n).map .str))) (st := st) ?_ ?_
    · simp [h6, h7, e1, -List.map_take]
    · rw [ap_lst]
      simp only [ap_cons, hx, ap_nil, bind_ok, List.length_cons, List.length_nil, lstR_f, newL_k, datas_d, datas_nil, Option.map_some, newK_s, show (0 + 1 ≤ 16777216) = True by simp, if_true, addF_ll, List.map_map]
      rw [if_pos (by simpa using n1)]
      rw [show List.map Val.d [PyData.str x] = [Val.d (.str x)] from rfl, e3, newK_s]
  · simp only [ap_sl, ap_var, ap_bin, ap_D, addF_ii, h6, h7, getE_some, bind_ok, ap_os, someI_i, ap_on, slF_l, e2, lstR_f, newL_k, dats1, List.map_map, newK_s, addF_ll]
    rw [if_pos n2, e4]
    simp
theorem lc_range {φ : Nat → Val} {st0 : Sto} {g : MTg} {tt : MT} {el : ME} {env : Z.Env} {st : Sto} (n : Nat) (h : ∀ i, i < n → ∃ env1, g (vI i) env = some env1 ∧ tt env1 st = .ok true st ∧ el env1 st = .ok (φ i) st) : lcM none st0 g tt el env (rangeL 0 n) st = .ok ((List.range n).map φ) st := by
  have e : rangeL 0 n = (List.range n).map fun i => vI (i : Nat) := by
    unfold rangeL
    refine List.map_congr_left fun i _ => ?_
    rw [Int.zero_add]
  rw [e]
  exact lc_map _ _ _ fun a ha => h a (List.mem_range.mp ha)
/-- a loop over range(n) that goes on to its end -/
theorem for_range {st0 : Sto} {g : MTg} {body : MS} {kill : List Nat} (Inv : Nat → Z.Env → Sto → Prop) (n : Nat) {env : Z.Env} {st : Sto} (h0 : Inv 0 env st)
    (hs : ∀ i env st, i < n → Inv i env st → ∃ env1, g (vI i) env = some env1 ∧ ∃ env2 st2, (body env1 st = .next env2 st2 ∨ body env1 st = .cont env2 st2) ∧ Inv (i + 1) (killE kill env2) st2) :
    ∃ env' st', forM none st0 g body kill (rangeL 0 n) env st = .next env' st' ∧ Inv n env' st' := by
  obtain ⟨e, s, h1, h2⟩ := forM_ex (st0 := st0) (g := g) (body := body) (kill := kill) Inv (rangeL 0 n) 0 env st h0 (by
    intro j x e s hx hI
    obtain ⟨hj, rfl⟩ := rangeL_get hx
    rw [Nat.zero_add] at hI ⊢
    have := hs j e s hj hI
    rwa [Int.zero_add])
  exact ⟨e, s, h1, by simpa using h2⟩
/-- a comprehension that gives data -/
theorem mlc_data {α : Type} {own : List Nat} {mi : MI} {g : MTg} {el : ME} {env : Z.Env} {st : Sto} (F : α → Val) (φ : α → PyData) (l : List α) (hm : mi env st = .ok (l.map F, none, st) st) (hl : l.length ≤ 1000000)
    (h : ∀ a ∈ l, ∃ env1, g (F a) (killE own env) = some env1 ∧ el env1 st = .ok (.d (φ a)) st) : mLc false own mi g mYes el env st = .ok (.d (.list (l.map φ))) st := by
  have hh := lc_map (st0 := st) (g := g) (tt := mYes) (el := el) (env := killE own env) (st := st) F (fun a => .d (φ a)) l fun a ha => by
    obtain ⟨e1, h1, h2⟩ := h a ha
    exact ⟨e1, h1, rfl, h2⟩
  unfold mLc
  rw [hm, bind_ok]
  simp only [List.length_map]
  rw [if_pos (by show l.length ≤ 16777216; omega), hh]
  simp [dats]
theorem zipL_zip (xs ys : List PyData) : zipL (xs.map .d) (ys.map .d) = (xs.zip ys).map fun p => Val.p [.d p.1, .d p.2] := by
  unfold zipL
  induction xs generalizing ys with
  | nil => simp
  | cons x xs ih => cases ys with
    | nil => simp
    | cons y ys => simp [ih]
theorem zipL_zip2 {α β : Type} (f : α → PyData) (g : β → PyData) (xs : List α) (ys : List β) : zipL ((xs.map f).map .d) ((ys.map g).map .d) = (xs.zip ys).map fun p => Val.p [.d (f p.1), .d (g p.2)] := by
  rw [zipL_zip, List.zip_map, List.map_map]; rfl
theorem enumL_get2 {xs : List PyData} {i : Nat} {x : Val} (h : (enumL 0 (xs.map .d))[i]? = some x) : ∃ d, xs[i]? = some d ∧ x = .p [vI i, .d d] := by
  have key : ∀ (n : Nat) (ys : List Val) (i : Nat) (x : Val), (enumL n ys)[i]? = some x → ∃ y, ys[i]? = some y ∧ x = .p [vI ((n + i : Nat) : Int), y] := by
    intro n ys
    induction ys generalizing n with
    | nil => intro i x h; simp [enumL] at h
    | cons y ys ih =>
      intro i x h
      cases i with
      | zero => simp [enumL] at h; exact ⟨y, rfl, by rw [← h]; simp⟩
      | succ i =>
        simp [enumL] at h
        obtain ⟨z, z1, z2⟩ := ih (n + 1) i x h
        exact ⟨z, by simpa using z1, by rw [z2, show n + 1 + i = n + (i + 1) by omega]⟩
  obtain ⟨y, h1, h2⟩ := key 0 _ i x h
  rw [List.getElem?_map] at h1
  obtain ⟨d, h3, rfl⟩ := Option.map_eq_some_iff.mp h1
  exact ⟨d, h3, by rw [h2, Nat.zero_add]⟩
@[simp] theorem allT {α : Type} (l : List α) (st : Sto) : allF [.d (.list (l.map fun _ => PyData.bool true))] st = .ok (vB true) st := by
  have := allF_l (st := st) (l := l.map fun _ => true)
  rw [List.map_map] at this
  rw [show (l.map fun _ => PyData.bool true) = l.map (PyData.bool ∘ fun _ => true) from rfl, this]
  simp
end Z

namespace PySem.SupX
open PySem PySem.W PySem.Calls PyProof.Rows PySem.HandSPX
def iA (f : Str) (p1 p2 : Pos) : Arguments := { posonlyargs := [], args := [{ arg := "self", annotation := none, pos := p1 }, { arg := f, annotation := none, pos := p2 }], vararg := none, kwonlyargs := [], kw_defaults := [], kwarg := none, defaults := [] }
def iB (f msg : Str) (a1 a2 a3 a4 a5 a6 b1 b2 b3 b4 : Pos) : List Stmt := [.Expr (.Call (.Attribute (.Call (.Name "super" a1) [] [] a2) "__init__" a3) [.Constant (.str msg) 0 a4] [] a5) a6, .Assign [.Attribute (.Name "self" b1) f b2] (.Name f b3) b4]
def iS (f : Str) : Scope := { kind := .function, names := [(PySem.Str.ofString "self", .local), (f, .local), (PySem.Str.ofString "__class__", .free), (PySem.Str.ofString "super", .globalImplicit)], isGenerator := false, isCoroutine := false, more := [] }
theorem at_MethodCall {prog : Program} {w : World} {A : Around} {c : Code} {env : Env} {E : Value → Shared → Prop} {s : Shared} {o : Expr} {name : Str} {apos pos : Pos} {args : List Expr} {Q : Value → Shared → Prop}
    (hfew : methodCallForm (args.length + ([] : List Keyword).length) (backTo pos (starEach args env)) (backToKw pos (keywordEach [] env)) = true) (hline : (apos.endLine == pos.line) = true)
    (h : wpAt (model prog w) A c (attributeBase o name env (eval o env)) (fun ov s₁ => wpAny (model prog w) A (calleeOf true o env ov name) (fun fx s₂ => wpAny (model prog w) A (callWith pos fx.1 fx.2 (backTo pos (starEach args env)) []) Q E s₂) E s₁) E s) :
    wpAt (model prog w) A c (eval (.Call (.Attribute o name apos) args [] pos) env) Q E s := by
  rw [arm_eval_Call]
  refine wpAt_bind (ks_wpAt_mono h (fun ov s₁ h₁ => wpAt_of_wpAny (wpAny_bind (wpAny_standAt ?_))) fun _ _ e => e)
  have hpos : methodCallPos true o env apos pos = pure pos := by unfold methodCallPos; simp [hline]
  unfold methodCall
  rw [hfew]
  exact wpAny_bind (wpAny_holding (wpAny_mono h₁ (fun fx s₂ h₂ => wpAny_bind (wpAny_of_eq hpos h₂)) fun _ _ e => e))
/-- where the text of __init__ stands -/
structure Ps where
  (p1 p2 a1 a2 a3 a4 a5 a6 b1 b2 b3 b4 : Pos)
/-- what the written part says of the class at C, of its __init__ at fI -/
structure SupTxt (P : Program) (K : Frag) (mg : Str → Option Value) (nm f msg : Str) (ps : Ps) (C fI : Addr) : Prop where
  hl : (ps.a3.endLine == ps.a5.line) = true
  gC : mg nm = some (.ref C)
  gS : mg "super" = none
  cls : ∃ nm q N bs bm sn sub ab col dd k0 k1 k2 k3 k5, K.lookup C = some (excClassObj nm q C N bs bm true sn sub ab col dd k0 k1 k2 k3 k5 "ValueError.__new__") ∧ refsVE bm = true
  sup : ks_superIn K C C "__init__" = some (some (.builtin "ValueError.__init__"))
  suB : subIn K (.ref C) (.type "ValueError") = some true
  suC : mroIn K C (.ref C) = some true
  opq : nsIn K cStatics "thirdparty.any" = some none
  sa : findIn K (.ref C) "__setattr__" = some (some (.builtin "object.__setattr__"))
  noN : findIn K (.ref C) f = some none
  iC : findIn K (.ref C) "__init__" = some (some (.ref fI))
  tC : typeIn K (.ref fI) = some (.type "function")
  kC : keepIn K (.ref C) = true
  exC : subIn K (.ref C) (.type "BaseException") = some true
  tyC : typeIn K (.ref C) = some (.type "type")
  ks : (iS f).names.lookup ("super" : Str) = some .globalImplicit
  kc : (iS f).names.lookup ("__class__" : Str) = some .free
  kf : (iS f).names.lookup f = some .local
  nf : (f == ("self" : Str)) = false
  ncl : (f == ("__debug__" : Str)) = false
  bn : ∀ (q : Str) (p1 p2 : Pos) (body : List Stmt) (cc : Addr) (doc pm : Value) (an : Option Addr) (cd ct x v : Value), bindArgs (fnX "__init__" q (iA f p1 p2) body (iS f) [("__class__", cc)] .none .none doc pm an cd ct) ⟨[x, v], []⟩ = pure [(PySem.Str.ofString "self", x), (f, v)]
  top : (P.main.scope.names.lookup ("super" : Str)).isSome = false
  fn : ∃ (oc : Value) (od : Option Addr) (doc pm : Value) (an : Option Addr) (ct : Value) (osl : Array (Option Value)) (q : Str) (cc cda : Addr) (ccl cl : Value) (cdd cld : Option Addr) (ccs csl : Array (Option Value)) (vs : Array Value) (file : Str) (tf : Tok),
    K.lookup fI = some ⟨oc, od, .func (fnX "__init__" q (iA f ps.p1 ps.p2) (iB f msg ps.a1 ps.a2 ps.a3 ps.a4 ps.a5 ps.a6 ps.b1 ps.b2 ps.b3 ps.b4) (iS f) [("__class__", cc)] .none .none doc pm an (.ref cda) ct), osl⟩ ∧ codeIn K (.ref cda) q = true ∧
    K.lookup cda = some ⟨ccl, cdd, .fields vs, ccs⟩ ∧ vs[2]? = some (.str file tf) ∧ ((P.main.file : Str) == file) = true ∧ K.lookup cc = some ⟨cl, cld, .cell (some (.ref C)), csl⟩
theorem kept_but {K : Frag} {h h' : Heap} {x : Addr} (X : K.In h) (hx : K.lookup x = none) (k : ∀ b o, b ≠ x → h.get? b = some o → h'.get? b = some o) : K.In h' := fun a o e =>
  k a o (fun z => by rw [z, hx] at e; cases e) (X a o e)
/-- what __init__ leaves of a fresh exception at x -/
structure InitEnd (f : Str) (h h' : Heap) (x C dx t1 : Addr) (v : Value) : Prop where
  keep : ∀ b o, b ≠ x → h.get? b = some o → h'.get? b = some o
  obj : h'.get? x = some { cls := .ref C, dict := some dx, data := .fields #[.ref t1, .none, .none, .none, .bool false, .none] }
  dbig : h.objs.size ≤ dx
  dne : dx ≠ x
  ns : h'.Ns1 dx (fun y => if y = f then some v else none)
section
variable {P : Program} {w : World} {A : Around} {E : Value → Shared → Prop} {R : Result → Shared → Prop} {s : Shared} {K : Frag} {mg mb : Str → Option Value} {nm f msg : Str} {C fI : Addr} {ps : Ps}
theorem one_size (v : Value) : [v].length ≤ sizeLine := by
  rw [sizeLine_eq]
  exact (by decide : 1 ≤ 16777216)
theorem sup_init (T : SupTxt P K mg nm f msg ps C fI) {x t0 : Addr} {v : Value} (X : K.In s.heap) (hg : s.heap.Ns mainGlobals mg) (hb : s.heap.Ns builtinsNs mb) (hbt : ∀ x : Str, x ≠ "__name__" → mb x = bootBuiltins x) (hlim : s.heap.NoLimit)
    (hx : s.heap.get? x = some (excO C t0)) (hnx : K.lookup x = none) (hroom : A.depth < recursionLimit)
    (hq : ∀ h' tk dx t1, InitEnd f s.heap h' x C dx t1 v → R (.ok (.ret .none)) { s with heap := h', toks := tk }) :
    codeAny (model P w) A (.call (.ref fI) ⟨[.ref x, v], []⟩) R s := by
  obtain ⟨oc, od, doc, pm, an, ct, osl, q, cc, cda, ccl, cl, cdd, cld, ccs, csl, vs, file, tf, ho, hcd, hcode, hvs, hfile, hcell⟩ := T.fn
  obtain ⟨cnm, cq, N, bs, bm, sn, sub, ab, col, dd, k0, k1, k2, k3, k5, hC, hbm⟩ := T.cls
  have hcl : clsIn K C = some { name := cnm, bases := bs, mro := .ref C :: bm, ns := N, qualname := cq, hasDict := true, slotNames := sn, subclasses := sub, abstract := ab, collection := col, hasDel := false } := by unfold clsIn; rw [hC] <;> rfl
  have hself : (("self" : Str) == f) = false := by
    have := T.nf
    rw [beq_eq_false_iff_ne] at this ⊢
    exact fun z => this z.symm
  have hl := T.hl
  obtain ⟨p1, p2, a1, a2, a3, a4, a5, a6, b1, b2, b3, b4⟩ := ps
  dsimp only at hl ho
  refine ks_codeAny_call_defAt (fd := fnX "__init__" q (iA f p1 p2) (iB f msg a1 a2 a3 a4 a5 a6 b1 b2 b3 b4) (iS f) [("__class__", cc)] .none .none doc pm an (.ref cda) ct) (body := iB f msg a1 a2 a3 a4 a5 a6 b1 b2 b3 b4) (binds := [("self", .ref x), (f, v)]) hroom (X _ _ ho) rfl hlim (codeRec_of X hcd) rfl
    (BindsTo.of_eq (T.bn _ _ _ _ _ _ _ _ _ _ _ _)) ?_ ?_ (fun h₁ hns k => ?_) rfl rfl rfl
  · intro y hy
    simp [iS] at hy
    rcases hy with rfl | rfl | rfl | rfl <;> simp
  · intro y hy
    simp at hy
    rcases hy with rfl | rfl
    · rfl
    · exact T.kf
  have X₁ : K.In h₁ := X.keeps k
  have hx₁ := k _ _ hx
  have hC₁ := X₁ _ _ hC
  have ncx : x ≠ C := fun z => by rw [z] at hnx; rw [hC] at hnx; cases hnx
  have hsz : s.heap.objs.size ≤ h₁.objs.size := Nat.le_of_lt hns.lt
  have lself : ([("self", Value.ref x), (f, v)] : List (Str × Value)).reverse.lookup ("self" : Str) = some (.ref x) := by
    show List.lookup ("self" : Str) [(f, v), ("self", Value.ref x)] = _
    simp [List.lookup, hself]
  have lf : ([("self", Value.ref x), (f, v)] : List (Str × Value)).reverse.lookup f = some v := by
    show List.lookup f [(f, v), ("self", Value.ref x)] = _
    simp [List.lookup]
  -- super().__init__(msg)
  refine ks_wpAt_execs_cons (ks_wpAt_Expr_any (at_MethodCall (by rfl) hl ?_))
  refine ks_wpAt_super_base T.ks T.kc (by decide +kernel) rfl (X₁ _ _ ho) rfl rfl rfl (X₁ _ _ hcode) rfl hvs hfile T.top ?_
  refine ks_loadName_global rfl T.ks (loadGlobal_builtin (hg.keeps k) T.gS (hb.keeps k) ((hbt _ (by decide)).trans (by decide +kernel)) ⟨rfl, ?_⟩)
  refine wpAny_loadName_free rfl T.kc rfl ⟨_, X₁ _ _ hcell, rfl⟩ ?_
  refine wpAny_loadName_local rfl rfl hns lself ?_
  refine ks_wpAny_isType_cls hC₁ rfl ⟨rfl, ?_⟩
  refine ks_wpAny_call_super hC₁ rfl hx₁ rfl (fun c e => by cases e) (looks_mroIn X₁ T.suC) (fun h₂ e₂ k₂ => ?_)
  have X₂ : K.In h₂ := X₁.keeps k₂
  have hx₂ := k₂ _ _ hx₁
  have hI : Looks (model P w) h₂ (isInstance (.ref x) (.type "ValueError")) true := (InstAt.type (M := model P w) (⟨hx₂, rfl, rfl, trivial⟩ : InstAt h₂ x (excO C t0) C none)).andThen (looks_subIn X₂ T.suB)
  have hsup := T.sup
  unfold ks_superIn at hsup
  rw [hcl] at hsup
  refine kxs_getMethod kxs_ValueError e₂ (looks_opaque X₂ T.opq) (l₀ := .ref C :: bm) (fun A Q E s k q => wpAny_bind ((looks_clsIn X₂ hcl) A _ E s k (wpAny_pure q))) rfl X₂ hsup hI ncx rfl ?_
  have hp2 : ∀ b o, h₂.get? b = some o → (h₂.push (kxs_mw "ValueError.__init__" x)).get? b = some o := fun b o e => Heap.get?_push_of_some _ e
  have hu : (h₂.push (kxs_mw "ValueError.__init__" x)).get? h₂.objs.size = some (kxs_mw "ValueError.__init__" x) := Heap.get?_push_at rfl rfl
  have hC₃ := hp2 _ _ (X₂ _ _ hC)
  have hx₃ := hp2 _ _ hx₂
  refine kxs_callWith (i := "ValueError.__init__") (x := x) rfl (evalArgs_plain ?_)
  refine Calls.spliced_cons (Calls.Constant_str (k := 0) (pos := a4) (Calls.spliced_nil ⟨hu, ?_⟩))
  -- the bound __init__, called
  refine wpAny_call (codeAny_of_tree ?_)
  show wpAny _ _ (callAny (.ref h₂.objs.size) ⟨[_], []⟩) _ _ _
  simp only [callAny]
  refine wpAny_bind (wpAny_load hu ?_)
  simp only [kxs_mw, show (Value.type "method-wrapper" == Value.type "method" || Value.type "method-wrapper" == Value.type "builtin_function_or_method" || Value.type "method-wrapper" == Value.type "method-wrapper") = true by decide, if_true]
  refine KFB.if_so (by decide) ?_
  refine wpAny_bind (check_bound_init PySem.F.excBase_ValueError.toExcCallFacts hC₃ hx₃ rfl ?_)
  refine wpAny_bind (wpAny_pure (wpAny_pure ?_))
  refine ⟨plainId_quiet PySem.F.excBase_ValueError.init.plain _, codeAny_builtin PySem.F.excBase_ValueError.initEntry ?_⟩
  refine exc_init_tree (cls := .ref C) (t0 := t0) (dv := none) (c2 := .none) (c3 := .none) (b4 := .bool false) hx₃ (one_size _) (fun h₄ k₄ hx₄ _ => ?_)
  -- self.f = f
  have old : ∀ b o, b ≠ x → s.heap.get? b = some o → h₄.get? b = some o := fun b o hb e => k₄ b o hb (hp2 _ _ (k₂ _ _ (k _ _ e)))
  have X₄ : K.In h₄ := kept_but (X.keeps fun b o e => e) hnx old
  have hns₄ : h₄.Ns s.heap.objs.size (fun y => ([("self", Value.ref x), (f, v)] : List (Str × Value)).reverse.lookup y) := by
    obtain ⟨o, es, ep, ho', hr⟩ := hns
    exact ⟨o, es, ep, k₄ _ _ (Nat.ne_of_gt (Heap.lt_size hx)) (hp2 _ _ (k₂ _ _ ho')), hr⟩
  show wpAt _ _ _ (execs _ _) _ _ _
  refine ks_wpAt_execs_cons (ks_wpAt_Assign_Attr (wpAt_of_wpAny ?_))
  refine wpAny_Name (wpAny_loadName_local rfl T.kf hns₄ lf ?_) T.ncl
  refine wpAny_Name (wpAny_loadName_local rfl rfl hns₄ lself ?_) (by decide)
  refine set_plain X₄ (ox := excO C (h₂.push (kxs_mw "ValueError.__init__" x)).objs.size) (od := none) ⟨hx₄, rfl, rfl, trivial⟩ T.sa ?_
  refine exc_osa X₄ hx₄ hcl (show refsVE (.ref C :: bm) = true from hbm) rfl T.noN (fun h₃ tk₃ dx k₃ dn dne hx₃ hn₃ => ?_)
  show wpAt _ _ _ (execs _ _) _ _ _
  refine wpAt_of_wpAny (wpAny_execs_nil (hq h₃ tk₃ dx _ ⟨fun b o hb e => k₃ b o hb (old b o hb e), hx₃, ?_, dne, hn₃⟩))
  have z : s.heap.objs.size < h₄.objs.size := by
    obtain ⟨o, es, ep, ho', hr⟩ := hns₄
    exact Heap.lt_size ho'
  exact Nat.le_trans (Nat.le_of_lt z) dn
/-- a made one -/
structure OwnMade (f : Str) (h h' : Heap) (e C d : Addr) (v : Value) : Prop where
  keep : ∀ b o, h.get? b = some o → h'.get? b = some o
  new : h.objs.size ≤ e
  obj : ∃ oe vs, h'.get? e = some oe ∧ oe.cls = .ref C ∧ oe.dict = some d ∧ oe.data = .fields vs ∧ vs[1]? = some .none
  dbig : h.objs.size ≤ d
  dne : d ≠ e
  ns : h'.Ns1 d (fun y => if y = f then some v else none)
theorem sup_made (T : SupTxt P K mg nm f msg ps C fI) {v : Value} (X : K.In s.heap) (hg : s.heap.Ns mainGlobals mg) (hb : s.heap.Ns builtinsNs mb) (hbt : ∀ x : Str, x ≠ "__name__" → mb x = bootBuiltins x) (hlim : s.heap.NoLimit) (hroom : A.depth + 1 < recursionLimit)
    (hq : ∀ h' tk e d, OwnMade f s.heap h' e C d v → R (.ok (.ret (.ref e))) { s with heap := h', toks := tk }) :
    codeAny (model P w) A (.call (.ref C) ⟨[v], []⟩) R s := by
  obtain ⟨cnm, cq, N, bs, bm, sn, sub, ab, col, dd, k0, k1, k2, k3, k5, hC, hbm⟩ := T.cls
  obtain ⟨hp, g, dr, tk, os⟩ := s
  have k : ∀ b o, hp.get? b = some o → ((hp.push (kdv_tup [v])).push (excO C hp.objs.size)).get? b = some o := fun b o e => Heap.get?_push_of_some _ (Heap.get?_push_of_some _ e)
  have hget : ((hp.push (kdv_tup [v])).push (excO C hp.objs.size)).get? (hp.objs.size + 1) = some (excO C hp.objs.size) := by heap_get
  have hnx : K.lookup (hp.objs.size + 1) = none := by
    cases e : K.lookup (hp.objs.size + 1) with
    | none => rfl
    | some o =>
      have z : hp.get? (hp.objs.size + 1) = some o := X _ _ e
      exact absurd (Nat.lt_of_succ_lt (Heap.lt_size z)) (Nat.lt_irrefl _)
  refine call_own PySem.F.excBase_ValueError (fun X => refsVE_contains X bm hbm) (X _ _ hC) (looks_findIn X T.iC) (fun self => bind_fn X self T.tC) (one_size v) ?_
  refine sup_init (s := ⟨(hp.push (kdv_tup [v])).push (excO C hp.objs.size), g, dr, tk, os⟩) T (X.keeps k) (hg.keeps k) (hb.keeps k) hbt (hlim.keeps k) hget hnx ?_ fun h' tk' dx t1 ⟨k', hx, dn, dne, hns⟩ => ?_
  · show A.depth + 1 < recursionLimit
    exact hroom
  · have old : ∀ b o, hp.get? b = some o → h'.get? b = some o := fun b o e => k' b o (Nat.ne_of_lt (Nat.lt_succ_of_lt (Heap.lt_size e))) (k b o e)
    have z : hp.objs.size + 1 + 1 ≤ dx := by
      first
        | (simpa only [Heap.size_push] using dn)
        | exact dn
        | (have q := dn; rw [Heap.size_push, Heap.size_push] at q; exact q)
    exact ⟨rfl, hq h' tk' (hp.objs.size + 1) dx ⟨old, Nat.le_succ _, ⟨_, _, hx, rfl, rfl, rfl, rfl⟩, Nat.le_trans (Nat.le_trans (Nat.le_succ _) (Nat.le_succ _)) z, dne, hns⟩⟩
end
end PySem.SupX
namespace L2
open PySem PySem.Spec PyProof.Rows
theorem relO_sup {v : V} {v' : Value} (r : RelV v v') (g f : Str) : RelO (List.lookup f [(g, v)]) (if f = g then some v' else none) := by
  by_cases hw : f = g
  · subst hw
    rw [if_pos rfl]
    have q : List.lookup f [(f, v)] = some v := by simp [List.lookup]
    rw [q]
    exact r
  · rw [if_neg hw]
    have qw : (f == g) = false := by simpa using hw
    have q2 : List.lookup f [(g, v)] = none := by simp [List.lookup, qw]
    rw [q2]
    trivial
section
variable {X : Cx} {C fI : Addr} {nm f msg : Str} {ps : PySem.SupX.Ps}
def tMkSup (f : Str) (C : Addr) (ta : TA) : St → Hp → XK → Prop := fun σ H Q => ta σ H fun vs H1 => ∃ v, vs = [v] ∧ ∀ d, H1 d = none → Q (.ref C) (some d) (upd H1 d (.xd [(f, v)]))
theorem pmk_sup {a : Expr} {ta : TA} {p pos : Pos} {k : Nat} (T : PySem.SupX.SupTxt X.prog X.K X.mg nm f msg ps C fI) (hr : Room k X.A) (ha : PA X [a] ta) (hg : Gl X nm) (hdb : (nm == ("__debug__" : Str)) = false := by decide)
    (he : starEach (a :: []) X.env = (false, eval a X.env) :: starEach [] X.env := by rfl) (hpl : (backTo pos (starEach [] X.env)).any (·.1) = false := by rfl) :
    PMk X (.Call (.Name nm p) [a] [] pos) (tMkSup f C ta) := by
  intro pins s σ H Q I h
  refine wpAny_Call_Name_kw (ld_glob I hg T.gC ?_ hdb)
  refine PySem.W.callWith_K (h₀ := X.base) I.ok.mod.kin T.kC (thn (ha.run pos pins s σ H _ I h) fun us s1 hh => ?_) he hpl
  obtain ⟨vs, H1, I1, r1, v, ev, q1⟩ := hh
  subst ev
  refine ⟨I1.kIn, ?_⟩
  cases r1 with
  | cons rv rn =>
    rename_i v' us'
    cases rn
    show wpAny _ _ (call (.ref C) [v']) _ _ _
    have hlim := I1.nolimit
    obtain ⟨mb, hb, hbt⟩ := I1.mod.blt
    have hg' := I1.mod.glob.keeps I1.bk
    have hb' := hb.keeps I1.bk
    have hK := I1.kIn
    obtain ⟨hp, g, dr, tk, os⟩ := s1
    refine wpAny_call (PySem.SupX.sup_made T hK hg' hb' hbt hlim (by have := hr.dp; omega) fun h' tk' e d M => ?_)
    show MkP X pins σ Q (.ref e) ⟨h', g, dr, tk', os⟩
    obtain ⟨oe, fv, hoe, hc, hd, hdat, h1⟩ := M.obj
    have hns := M.ns
    obtain ⟨G', g1, g2⟩ := restrict h' fun b => decide (b ≠ e)
    have gk : ∀ b, b ≠ e → G'.get? b = h'.get? b := fun b hb => g1 b (decide_eq_true hb)
    have ge : G'.get? e = none := g2 e (by simp)
    have old : ∀ b o, hp.get? b = some o → G'.get? b = some o := fun b o q => (gk b (Nat.ne_of_lt (Nat.lt_of_lt_of_le (Heap.lt_size q) M.new))).trans (M.keep b o q)
    have ob : ObjOk X.prog X.w (upd H1 d (.xd [(f, v)])) G' d (.xd [(f, v)]) :=
      ⟨_, hns.at (fun o q => (gk d M.dne).trans q), fun y => relO_sup rv f y⟩
    have J : Inv X pins σ (upd H1 d (.xd [(f, v)])) ⟨G', g, dr, tk', os⟩ := I1.laid (t' := tk') old M.dbig ob
    refine ⟨e, oe, fv, ⟨G', g, dr, tk', os⟩, _, .ref C, some d, rfl, J, fun b o q => ?_, ge, hoe, ⟨hc, hd⟩, hdat, h1, ?_, rfl, I1.bare, raises_own T.exC T.tyC, q1 d (I1.hok.fresh M.dbig)⟩
    · by_cases hb : b = e
      · have q' : G'.get? b = some o := q
        rw [hb, ge] at q'; cases q'
      · exact (gk b hb).symm.trans q
    · rw [upd_ne (Ne.symm M.dne)]
      exact I1.hok.fresh M.new
def tRaiseSup (f : Str) (C : Addr) (W : WX) (ta : TA) : TS := fun _ σ H => tMkSup f C ta σ H fun cls d H' => W cls d σ H'
theorem ps_raiseSup {a : Expr} {ta : TA} {W : WX} {p pos pos2 : Pos} {k : Nat} (hc : X.calm = true) (T : PySem.SupX.SupTxt X.prog X.K X.mg nm f msg ps C fI) (hr : Room k X.A) (tk : Takes X W) (ha : PA X [a] ta) (hg : Gl X nm) (hdb : (nm == ("__debug__" : Str)) = false := by decide)
    (he : starEach (a :: []) X.env = (false, eval a X.env) :: starEach [] X.env := by rfl) (hpl : (backTo pos (starEach [] X.env)).any (·.1) = false := by rfl) :
    PS X (.Raise (some (.Call (.Name nm p) [a] [] pos)) none pos2) (tRaiseSup f C W ta) := ps_raise hc tk (pmk_sup T hr ha hg hdb he hpl)
end
end L2
namespace Z
open PySem PySem.Spec PyProof.Rows L2
theorem sw_cell {elt : Expr} {gs : List Comprehension} {scope : Scope} {pos py : Pos} {y : Str} {l : Nat} {env : PySem.Env} (hy : env.scope.names.lookup y = some .cell) : swapsWith (.ListComp elt gs scope pos) (some (.Name y py)) l env = pure false := by
  have ky : env.kindOf y = some .cell := hy
  unfold swapsWith
  simp only [ky]
  rw [show ((some NameKind.cell == some NameKind.local) = false) from rfl, Bool.and_false, Bool.false_and, Bool.false_and]
end Z

namespace Z
open PySem PySem.Spec PyProof.Rows L2
/-! ### raise -/
/-- X('..'), a class of the text without own __init__ -/
structure ExcF (D : Wd) (x : Str) : Prop where
  ex : ∃ C, D.mg x = some (.ref C) ∧ PySem.W.excIn D.K C He.veBase "ValueError.__new__" = true ∧ PySem.W.keepIn D.K (.ref C) = true ∧ PySem.W.subIn D.K (.ref C) (.type "BaseException") = some true ∧ PySem.W.typeIn D.K (.ref C) = some (.type "type")
def sRaise0 (x : Str) : MS := fun env st => .exc ⟨x, []⟩ env st
section
variable {D : Wd} {X : Cx} {W : WX} {N : List Str} {sc : Scp} {k : Nat} {e a b c : Expr} {es : List Expr} {m ma mb mc : ME} {mr : MA} {pos p p2 p3 : Pos}
theorem ss_raise0 (g : Gd D X W N sc k) {x msg : Str} {j : Nat} (h : ExcF D x) (hg : glB sc x = true) (hdb : (x == ("__debug__" : Str)) = false := by decide) : SS X W (.Raise (some (.Call (.Name x p) [.Constant (.str msg) j p2] [] p3)) none pos) (sRaise0 x) := by
  obtain ⟨C, h1, h2, h3, h4, h5⟩ := h.ex
  rw [← g.hK] at h2 h3 h4 h5
  rw [← g.hmg] at h1
  refine ⟨_, ps_raise g.calm g.tk (pmk_own PySem.F.excBase_ValueError h2 h1 h3 (raises_own h4 h5) (g.gl hg) hdb), fun σ H env st ρ G De he hr h => ?_⟩
  exact h ρ G H σ (.ref C) none .refl hr he ⟨C, h1, rfl, .inl ⟨rfl, rfl⟩⟩
structure SupF (D : Wd) (x f : Str) : Prop where
  ex : ∃ msg ps C fI, PySem.SupX.SupTxt D.P D.K D.mg x f msg ps C fI
/-- X(e), a class of the text whose __init__ stores e as f -/
def sRaiseF (x f : Str) (m : ME) : MS := fun env st => (m env st).flo env fun v st1 => match v with
  | .d d => .exc ⟨x, [(f, d)]⟩ env st1
  | _ => .bad
theorem ss_raiseF (g : Gd D X W N sc k) {x f : Str} (h : SupF D x f) (hg : glB sc x = true) (ha : SE X W a m) (hdb : (x == ("__debug__" : Str)) = false := by decide)
    (hs : starEach (a :: []) X.env = (false, eval a X.env) :: starEach [] X.env := by rfl) (hpl : (backTo p3 (starEach [] X.env)).any (·.1) = false := by rfl) : SS X W (.Raise (some (.Call (.Name x p) [a] [] p3)) none pos) (sRaiseF x f m) := by
  obtain ⟨msg, ps, C, fI, T⟩ := h.ex
  obtain ⟨t, pa, sa⟩ := ha
  rw [← g.hP, ← g.hK, ← g.hmg] at T
  refine ⟨_, ps_raiseSup g.calm T g.room g.tk (pa_cons pa pa_nil hs) (g.gl hg) hdb hs hpl, fun σ H env st ρ G De he hr h => ?_⟩
  refine sa σ H env st ρ G _ he hr ((Ok.flo (R := RV X.K X.mg) he h).imp fun u H1 ⟨x, ρ1, G1, st1, e1, r1, q1, o1⟩ => ?_)
  refine ⟨u, rfl, fun d hd => ?_⟩
  split at o1
  · rename_i y
    have gr := upd_grow (o := HO.xd [(f, u)]) (r1.freeG hd)
    exact o1 ρ1 (upd G1 d (.xd [(f, u)])) _ σ (.ref C) (some d) (.newG hd (r1.freeG hd)) (r1.newG hd) ((he.ext e1).ext (.newG hd (r1.freeG hd)))
      ⟨C, T.gC, rfl, .inr ⟨d, _, rfl, upd_same, rfl, .cons (dq_mono gr (rv_dat q1)) .nil⟩⟩
  · exact o1.elim
end
/-! ### the readings of a block -/
def tSB (K : PySem.W.Frag) (mg : Str → Option Value) (W : WX) (m : MS) : TS := fun De σ H => ∃ env st ρ G, ER K mg ρ G env σ ∧ Rel K mg ρ G st H ∧ OkS W K mg ρ G H (m env st) De
theorem SB.ps {X : Cx} {W : WX} {ss : List Stmt} {m : MS} (h : SB X W ss m) : PSs X ss (tSB X.K X.mg W m) := by
  obtain ⟨t, p, s⟩ := h
  exact ⟨fun pins sh σ H De I ⟨env, st, ρ, G, a, b, c⟩ => p.run pins sh σ H De I (s σ H env st ρ G De a b c)⟩
/-! ### what stands in an except suite: the error at a (class cls, dict d), in slot i -/
abbrev MX := Exn → Env → Sto → Out Val
abbrev MXA := Exn → Env → Sto → Out (List Val)
abbrev MXS := Exn → Env → Sto → Fl
/-- slot i holds the error, if the clause has a name -/
def HasE (i : Option Nat) (a : Addr) (σ : List (Option V)) : Prop := ∀ j, i = some j → σ[j]? = some (some (.ref a))
structure Gx (D : Wd) (X : Cx) (N : List Str) (sc : Scp) : Prop where
  hP : X.prog = D.P
  hw : X.w = D.w
  hK : X.K = D.K
  hmg : X.mg = D.mg
  hN : X.N = N
  nd : N.Nodup
  hsc : X.env.scope = sc.sc
structure Su (X : Cx) (a : Addr) (oe : Obj) (cls : Value) (d : Option Addr) (pn : List (Addr × Obj)) : Prop where
  z : Zc cls d oe
  f : ∃ vs, oe.data = .fields vs
section
variable (X : Cx) (i : Option Nat) (a : Addr) (oe : Obj) (cls : Value) (d : Option Addr) (pn : List (Addr × Obj))
def XE1 (e : Expr) (m : MX) : Prop := ∃ t, PE (X.suite a ((a, oe) :: pn)) e t ∧ ∀ (x : Exn) (σ : List (Option V)) H env st ρ G Q, HasE i a σ → RX X.K X.mg G x cls d H → ER X.K X.mg ρ G env σ → Rel X.K X.mg ρ G st H → Ok X.K X.mg (RV X.K X.mg) ρ G H (fun _ _ _ => False) (m x env st) Q → t σ H Q
def XA1 (es : List Expr) (m : MXA) : Prop := ∃ t, PA (X.suite a ((a, oe) :: pn)) es t ∧ ∀ (x : Exn) (σ : List (Option V)) H env st ρ G Q, HasE i a σ → RX X.K X.mg G x cls d H → ER X.K X.mg ρ G env σ → Rel X.K X.mg ρ G st H → Ok X.K X.mg (RVs X.K X.mg) ρ G H (fun _ _ _ => False) (m x env st) Q → t σ H Q
def XS1 (s : Stmt) (m : MXS) : Prop := ∃ t, PS (X.suite a ((a, oe) :: pn)) s t ∧ ∀ (x : Exn) (σ : List (Option V)) H env st ρ G De, HasE i a σ → RX X.K X.mg G x cls d H → ER X.K X.mg ρ G env σ → Rel X.K X.mg ρ G st H →
  OkS (fun _ _ _ _ => False) X.K X.mg ρ G H (m x env st) { nx := fun σ' H' => HasE i a σ' → De.nx σ' H', rt := De.rt, bk := De.bk, ct := De.ct } → t De σ H
def XB1 (s : List Stmt) (m : MXS) : Prop := ∃ t, PSs (X.suite a ((a, oe) :: pn)) s t ∧ ∀ (x : Exn) (σ : List (Option V)) H env st ρ G De, HasE i a σ → RX X.K X.mg G x cls d H → ER X.K X.mg ρ G env σ → Rel X.K X.mg ρ G st H →
  OkS (fun _ _ _ _ => False) X.K X.mg ρ G H (m x env st) { nx := fun σ' H' => HasE i a σ' → De.nx σ' H', rt := De.rt, bk := De.bk, ct := De.ct } → t De σ H
end
/-! expressions there -/
section
variable {D : Wd} {X : Cx} {N : List Str} {sc : Scp} {i : Option Nat} {a : Addr} {oe : Obj} {cls : Value} {d : Option Addr} {pn : List (Addr × Obj)} {e e1 e2 : Expr} {es : List Expr} {m m1 m2 : MX} {mr : MXA} {ms mt : MXS} {pos p p2 p3 : Pos} {s s1 : Stmt} {ss : List Stmt}
def mxD (v : PyData) : MX := fun _ _ st => .ok (.d v) st
theorem xe_const {v : V} {y : PyData} (h : PE (X.suite a ((a, oe) :: pn)) e (tC v)) (hd : ∀ G, Dq X.K G v y) : XE1 X i a oe cls d pn e (mxD y) :=
  ⟨_, h, fun x σ H env st ρ G Q _ _ he hr o => o ρ G H v .refl hr (.d (hd G))⟩
theorem xe_str {x : Str} {j : Nat} : XE1 X i a oe cls d pn (.Constant (.str x) j pos) (mxD (.str x)) := xe_const pe_str fun _ => .str _
theorem xe_int {x : Int} {j : Nat} : XE1 X i a oe cls d pn (.Constant (.int x) j pos) (mxD (.int x)) := xe_const pe_int fun _ => .int _
theorem xe_bl {x : Bool} {j : Nat} : XE1 X i a oe cls d pn (.Constant (.bool x) j pos) (mxD (.bool x)) := xe_const pe_bl fun _ => .bl _
def mxNeg (m : MX) : MX := fun x env st => (m x env st).bind negF
theorem xe_neg (h : XE1 X i a oe cls d pn e m) : XE1 X i a oe cls d pn (.UnaryOp .USub e pos) (mxNeg m) := by
  obtain ⟨t, pe, s⟩ := h
  refine ⟨_, pe_un un_neg pe, fun x σ H env st ρ G Q hE hx he hr o => s x σ H env st ρ G _ hE hx he hr ((Ok.bind (R := RV X.K X.mg) o).imp fun u H1 ⟨v, ρ1, G1, st1, e1, r1, q1, o1⟩ => ?_)⟩
  unfold negF at o1
  split at o1
  · rw [rv_int q1]; exact ⟨_, rfl, o1 ρ1 G1 H1 _ .refl r1 (.d (.int _))⟩
  · exact o1.elim
/-- a name of the def -/
def mxVar (j : Nat) : MX := fun _ env st => mVar j env st
theorem xe_var (g : Gx D X N sc) (j : Nat) {x : Str} (hi : N[j]? = some x) (hv : visB sc x = true) (hd : (x == ("__debug__" : Str)) = false := by decide) (hcd : (x == ("__classdict__" : Str)) = false := by decide) : XE1 X i a oe cls d pn (.Name x pos) (mxVar j) := by
  have hvis : Vis (X.suite a ((a, oe) :: pn)).env.scope x := by
    show Vis X.env.scope x
    rw [g.hsc]; exact vis_of hv
  refine ⟨_, pe_var (X := X.suite a ((a, oe) :: pn)) (i := j) (by show X.N[j]? = _; rw [g.hN]; exact hi) hvis hd hcd, fun y σ H env st ρ G Q _ _ he hr o => ?_⟩
  unfold mxVar mVar at o
  split at o
  · rename_i v z
    obtain ⟨w, z2, q⟩ := he.2 j v z
    exact ⟨w, z2, o ρ G H w .refl hr q⟩
  · exact o.elim
/-- the error's field -/
structure FldF (D : Wd) (x f : Str) : Prop where
  ex : ∃ C, D.mg x = some (.ref C) ∧ XfC D.K C ∧ PySem.W.findIn D.K (.ref C) f = some none
def mxFld (x f : Str) : MX := fun y _ st => if y.cls = x then (match y.fs.lookup f with
  | some d => .ok (.d d) st
  | none => .bad) else .bad
theorem lookup_dq {K : PySem.W.Frag} {G : Hp} {f : Str} {y : PyData} : ∀ {fs : List (Str × PyData)} {vs : List (Str × V)}, fs.map (·.1) = vs.map (·.1) → DqAll K G (vs.map (·.2)) (fs.map (·.2)) → fs.lookup f = some y → ∃ v, vs.lookup f = some v ∧ Dq K G v y
  | [], _, _, _, h => by cases h
  | (n, z) :: fs, [], e, _, _ => by cases e
  | (n, z) :: fs, (n', v) :: vs, e, q, h => by
    simp only [List.map_cons, List.cons.injEq] at e
    obtain ⟨rfl, e⟩ := e
    cases q with
    | cons q1 q2 =>
      by_cases hf : (f == n) = true
      · simp only [List.lookup, hf] at h ⊢
        cases h
        exact ⟨v, rfl, q1⟩
      · have hf' : (f == n) = false := by simpa using hf
        simp only [List.lookup, hf'] at h ⊢
        exact lookup_dq e q2 h
theorem xe_fld (g : Gx D X N sc) (j : Nat) {n x f : Str} (su : Su X a oe cls d pn) (h : FldF D x f) (hij : i = some j) (hi : N[j]? = some n) (hv : visB sc n = true) (hb : attributeBase (.Name n p) f X.env (eval (.Name n p) X.env) = eval (.Name n p) X.env := by rfl)
    (hd : (n == ("__debug__" : Str)) = false := by decide) (hcd : (n == ("__classdict__" : Str)) = false := by decide) : XE1 X i a oe cls d pn (.Attribute (.Name n p) f pos) (mxFld x f) := by
  obtain ⟨C, h1, h2, h3⟩ := h.ex
  rw [← g.hmg] at h1
  rw [← g.hK] at h2 h3
  have hvis : Vis (X.suite a ((a, oe) :: pn)).env.scope n := by
    show Vis X.env.scope n
    rw [g.hsc]; exact vis_of hv
  refine ⟨_, pe_xf h2 h3 su.z su.f (pe_var (X := X.suite a ((a, oe) :: pn)) (i := j) (by show X.N[j]? = _; rw [g.hN]; exact hi) hvis hd hcd) hb, fun y σ H env st ρ G Q hE hx he hr o => ?_⟩
  refine ⟨_, hE j hij, rfl, ?_⟩
  obtain ⟨C', c1, c2, c3⟩ := hx
  unfold mxFld at o
  split at o
  · rename_i hc
    split at o
    · rename_i z hz
      rw [hc, h1] at c1
      cases c1
      refine ⟨c2, ?_⟩
      rcases c3 with ⟨c3, _⟩ | ⟨dd, vs, c3, c4, c5, c6⟩
      · rw [c3] at hz; cases hz
      · obtain ⟨v, l1, l2⟩ := lookup_dq c5 c6 hz
        exact ⟨dd, vs, v, c3, hr.sub _ _ c4, l1, o ρ G H v .refl hr (.d l2)⟩
    · exact o.elim
  · exact o.elim
/-! isinstance(e, T) -/
structure KxC (K : PySem.W.Frag) (C : Addr) : Prop where
  hcl : (PySem.W.clsIn K C).isSome = true
  hga : PySem.W.findIn K (.ref C) "__getattribute__" = some (some (.builtin "BaseException.__getattribute__"))
  hgt : PySem.W.findIn K (.ref C) "__getattr__" = some none
  hsub : PySem.W.subIn K (.ref C) (.type "BaseException") = some true
  ha : PySem.W.findIn K (.ref C) "__class__" = some (some (.builtin "object.__class__"))
  hn : PySem.W.specialIn K (.builtin "object.__class__") "__get__" = some (some (.builtin "getset_descriptor.__get__"))
  htk : PySem.W.takesIn K (.builtin "object.__class__") = some true
  hm : PySem.W.mroIn K C (.type "object") = some true
def rIsX (K : PySem.W.Frag) (a : Addr) (cls : Value) (d : Option Addr) : List V → Hp → VK → Prop := fun xs H Q => ∃ (C : Addr) (c : V) (cv : Value) (b : Bool), cls = .ref C ∧ KxC K C ∧ xs = [.ref a, c] ∧ (∀ u, RelV c u → u = cv) ∧ PySem.W.kitOne K (.ref C) cv = some b ∧
  (d = none ∨ ∃ dd vs, d = some dd ∧ H dd = some (.xd vs)) ∧ Q (.bl b) H
theorem call_isX (su : Su X a oe cls d pn) : CallR (X.suite a ((a, oe) :: pn)) (.builtin "isinstance") (rIsX X.K a cls d) := by
  intro pins s σ H xs us Q I r h
  obtain ⟨C, c, cv, b, rfl, kc, rfl, hcv, e, hd, q⟩ := h
  obtain ⟨u1, u2, rfl, rx, rt⟩ := vals2 r
  cases rx
  have ec := hcv _ rt
  subst ec
  obtain ⟨hget, _⟩ := I.pin (a, oe) (List.mem_append.mpr (.inl List.mem_cons_self))
  obtain ⟨vs, hv⟩ := su.f
  have hc : PySem.W.notCls oe = true := by unfold PySem.W.notCls; rw [hv] <;> rfl
  have J : ∃ od, PySem.W.InstAt s.heap a oe C od := by
    rcases hd with rfl | ⟨dd, ws, rfl, hd⟩
    · exact ⟨none, hget, su.z.1, hc, by rw [su.z.2]; trivial⟩
    · have hx : ObjOk X.prog X.w H s.heap dd (.xd ws) := I.hok dd _ hd
      obtain ⟨mA, hns, _⟩ := hx
      obtain ⟨od, ho, _⟩ := lookIn_ns hns
      exact ⟨some od, hget, su.z.1, hc, by rw [su.z.2]; exact ho⟩
  obtain ⟨od, J⟩ := J
  exact PySem.W.kia_one (PySem.W.kitx_exc kc.hcl kc.hga kc.hgt kc.hsub kc.ha kc.hn kc.htk kc.hm) I.kIn J e (fun z => nomatch z) fun tk => ⟨.bl b, H, I.kept (t' := tk) fun _ _ z => z, rfl, q⟩
/-- what the class y says to isinstance(.., T) -/
def IsC (D : Wd) (cv : Value) (y : Str) (b : Bool) : Prop := ∃ C, D.mg y = some (.ref C) ∧ KxC D.K C ∧ PySem.W.kitOne D.K (.ref C) cv = some b
structure ClsT (D : Wd) (T : Str) (tbl : List (Str × Bool)) : Prop where
  ex : ∃ C, D.mg T = some (.ref C) ∧ ∀ p ∈ tbl, IsC D (.ref C) p.1 p.2
structure BltT (D : Wd) (T : Str) (n : String) (tbl : List (Str × Bool)) : Prop where
  no : D.mg T = none
  bt : bootBuiltins T = some (.type n)
  ex : ∀ p ∈ tbl, IsC D (.type n) p.1 p.2
def mxIsa (tbl : List (Str × Bool)) : MX := fun x _ st => match tbl.lookup x.cls with
  | some b => .ok (.d (.bool b)) st
  | none => .bad
theorem lookup_mem {tbl : List (Str × Bool)} {x : Str} {b : Bool} (h : tbl.lookup x = some b) : (x, b) ∈ tbl := by
  induction tbl with
  | nil => cases h
  | cons p r ih =>
    obtain ⟨y, c⟩ := p
    by_cases e : (x == y) = true
    · simp only [List.lookup, e] at h
      cases h
      rw [beq_iff_eq.mp e]; exact List.mem_cons_self
    · have e' : (x == y) = false := by simpa using e
      simp only [List.lookup, e'] at h
      exact List.mem_cons_of_mem _ (ih h)
theorem xe_isa_core (g : Gx D X N sc) (j : Nat) {n T : Str} {tbl : List (Str × Bool)} {v : V} {cv : Value} (su : Su X a oe cls d pn) (hT : PE (X.suite a ((a, oe) :: pn)) (.Name T p2) (tC v)) (hv : ∀ u, RelV v u → u = cv) (ht : ∀ p ∈ tbl, IsC D cv p.1 p.2)
    (h1 : glB sc "isinstance" = true) (h2 : D.mg "isinstance" = none) (hij : i = some j) (hi : N[j]? = some n) (hvi : visB sc n = true) (hd : (n == ("__debug__" : Str)) = false) (hcd : (n == ("__classdict__" : Str)) = false)
    (s1 : starEach [.Name n p, .Name T p2] X.env = (false, eval (.Name n p) X.env) :: starEach [.Name T p2] X.env) (s2 : starEach [.Name T p2] X.env = (false, eval (.Name T p2) X.env) :: starEach [] X.env) (s3 : (backTo pos (starEach [.Name T p2] X.env)).any (·.1) = false) :
    XE1 X i a oe cls d pn (.Call (.Name "isinstance" p3) [.Name n p, .Name T p2] [] pos) (mxIsa tbl) := by
  have hvis : Vis (X.suite a ((a, oe) :: pn)).env.scope n := by
    show Vis X.env.scope n
    rw [g.hsc]; exact vis_of hvi
  have gl : Gl (X.suite a ((a, oe) :: pn)) "isinstance" := by
    have h := h1
    unfold glB at h
    split at h
    · show X.env.scope.names.lookup _ = _; rw [g.hsc]; assumption
    · cases h
  refine ⟨_, pe_callB (call_isX su) gl (by show X.mg _ = none; rw [g.hmg]; exact h2) (by with_unfolding_all rfl) (pa_cons (pe_var (X := X.suite a ((a, oe) :: pn)) (i := j) (by show X.N[j]? = _; rw [g.hN]; exact hi) hvis hd hcd) (pa_cons hT pa_nil s2) s1) (by decide) (by decide) s1 s3, fun y σ H env st ρ G Q hE hx he hr o => ?_⟩
  refine ⟨_, hE j hij, ?_⟩
  unfold mxIsa at o
  split at o
  · rename_i b hb
    obtain ⟨C, c1, c2, c3⟩ := ht _ (lookup_mem hb)
    obtain ⟨C', d1, d2, d3⟩ := hx
    rw [g.hmg] at d1
    rw [← g.hK] at c2 c3
    rw [c1] at d1
    cases d1
    refine ⟨C, v, cv, b, d2, c2, rfl, hv, c3, ?_, o ρ G H _ .refl hr (.d (.bl b))⟩
    rcases d3 with ⟨_, d3⟩ | ⟨dd, vs, d3, d4, _⟩
    · exact .inl d3
    · exact .inr ⟨dd, vs, d3, hr.sub _ _ d4⟩
  · exact o.elim
theorem Gx.gl (g : Gx D X N sc) {x : Str} (h : glB sc x = true) : Gl (X.suite a ((a, oe) :: pn)) x := by
  unfold glB at h
  split at h
  · show X.env.scope.names.lookup x = _; rw [g.hsc]; assumption
  · cases h
theorem xe_isaC (g : Gx D X N sc) (j : Nat) {n T : Str} {tbl : List (Str × Bool)} (su : Su X a oe cls d pn) (hT : ClsT D T tbl) (h1 : glB sc "isinstance" = true) (h2 : D.mg "isinstance" = none) (h3 : glB sc T = true) (hij : i = some j) (hi : N[j]? = some n) (hvi : visB sc n = true)
    (hd : (n == ("__debug__" : Str)) = false := by decide) (hcd : (n == ("__classdict__" : Str)) = false := by decide) (hd2 : (T == ("__debug__" : Str)) = false := by decide)
    (s1 : starEach [.Name n p, .Name T p2] X.env = (false, eval (.Name n p) X.env) :: starEach [.Name T p2] X.env := by rfl) (s2 : starEach [.Name T p2] X.env = (false, eval (.Name T p2) X.env) :: starEach [] X.env := by rfl) (s3 : (backTo pos (starEach [.Name T p2] X.env)).any (·.1) = false := by rfl) :
    XE1 X i a oe cls d pn (.Call (.Name "isinstance" p3) [.Name n p, .Name T p2] [] pos) (mxIsa tbl) := by
  obtain ⟨C, h4, h5⟩ := hT.ex
  exact xe_isa_core g j su (v := .ref C) (cv := .ref C) (pe_glob (g.gl h3) (by show X.mg T = _; rw [g.hmg]; exact h4) rfl hd2) (fun u r => r) h5 h1 h2 hij hi hvi hd hcd s1 s2 s3
theorem xe_isaB (g : Gx D X N sc) (j : Nat) {n T : Str} {ty : String} {tbl : List (Str × Bool)} (su : Su X a oe cls d pn) (hT : BltT D T ty tbl) (h1 : glB sc "isinstance" = true) (h2 : D.mg "isinstance" = none) (h3 : glB sc T = true) (hij : i = some j) (hi : N[j]? = some n) (hvi : visB sc n = true)
    (hd : (n == ("__debug__" : Str)) = false := by decide) (hcd : (n == ("__classdict__" : Str)) = false := by decide) (hd2 : (T == ("__debug__" : Str)) = false := by decide) (hn : T ≠ "__name__" := by decide)
    (s1 : starEach [.Name n p, .Name T p2] X.env = (false, eval (.Name n p) X.env) :: starEach [.Name T p2] X.env := by rfl) (s2 : starEach [.Name T p2] X.env = (false, eval (.Name T p2) X.env) :: starEach [] X.env := by rfl) (s3 : (backTo pos (starEach [.Name T p2] X.env)).any (·.1) = false := by rfl) :
    XE1 X i a oe cls d pn (.Call (.Name "isinstance" p3) [.Name n p, .Name T p2] [] pos) (mxIsa tbl) :=
  xe_isa_core g j su (v := .ty ty) (cv := .type ty) (pe_bltn (g.gl h3) (by show X.mg T = _; rw [g.hmg]; exact hT.no) hT.bt rfl hn hd2) (fun u r => r) hT.ex h1 h2 hij hi hvi hd hcd s1 s2 s3
/-! displays, or -/
theorem Ok.fx {x : Exn} {ρ ρ' : List Addr} {G G' H H' : Hp} (e : Ext ρ G H ρ' G' H') (h : RX X.K X.mg G x cls d H) : RX X.K X.mg G' x cls d H' := by
  obtain ⟨C, h1, h2, h3⟩ := h
  refine ⟨C, h1, h2, ?_⟩
  rcases h3 with h3 | ⟨dd, vs, k1, k2, k3, k4⟩
  · exact .inl h3
  · exact .inr ⟨dd, vs, k1, e.grow _ _ k2, k3, dqAll_mono e.grow k4⟩
def mxNil : MXA := fun _ _ st => .ok [] st
theorem xa_nil : XA1 X i a oe cls d pn [] mxNil := ⟨_, pa_nil, fun x σ H env st ρ G Q _ _ he hr o => o ρ G H [] .refl hr .nil⟩
def mxCons (m : MX) (mr : MXA) : MXA := fun x env st => (m x env st).bind fun v st1 => (mr x env st1).bind fun vs st2 => .ok (v :: vs) st2
theorem xa_cons (h : XE1 X i a oe cls d pn e m) (hr : XA1 X i a oe cls d pn es mr) (hs : starEach (e :: es) X.env = (false, eval e X.env) :: starEach es X.env := by rfl) : XA1 X i a oe cls d pn (e :: es) (mxCons m mr) := by
  obtain ⟨t, p, s⟩ := h
  obtain ⟨t2, p2, s2⟩ := hr
  refine ⟨_, pa_cons p p2 hs, fun x σ H env st ρ G Q hE hx he hr o => ?_⟩
  refine s x σ H env st ρ G _ hE hx he hr ((Ok.bind (R := RV X.K X.mg) o).imp fun u H1 ⟨v, ρ1, G1, st1, e1, r1, q1, o1⟩ => ?_)
  refine s2 x σ H1 env st1 ρ1 G1 _ hE (Ok.fx e1 hx) (he.ext e1) r1 ((Ok.bind (R := RVs X.K X.mg) o1).imp fun us H2 ⟨vs, ρ2, G2, st2, e2, r2, q2, o2⟩ => ?_)
  exact o2 ρ2 G2 H2 _ .refl r2 (.cons (e2.rv q1) q2)
def mxLst (mr : MXA) : MX := fun x env st => (mr x env st).bind fun vs st1 => if vs.length ≤ 16777216 then newL vs st1 else .bad
theorem xe_lst (h : XA1 X i a oe cls d pn es mr) : XE1 X i a oe cls d pn (.List es pos) (mxLst mr) := by
  obtain ⟨t, p, s⟩ := h
  refine ⟨_, pe_lst p, fun x σ H env st ρ G Q hE hx he hr o => s x σ H env st ρ G _ hE hx he hr ((Ok.bind (R := RVs X.K X.mg) o).imp fun us H1 ⟨vs, ρ1, G1, st1, e1, r1, q1, o1⟩ => ?_)⟩
  split at o1
  · rename_i hl
    exact ⟨by rw [← q1.len, line_eq]; exact hl, fun p hp => newL_ok r1 hp q1 o1⟩
  · exact o1.elim
def mxTup (mr : MXA) : MX := fun x env st => (mr x env st).bind fun vs st1 => if vs.length ≤ 16777216 then .ok (mkT vs) st1 else .bad
theorem xe_tup {kk : Nat} (h : XA1 X i a oe cls d pn es mr) : XE1 X i a oe cls d pn (.Tuple es kk pos) (mxTup mr) := by
  obtain ⟨t, p, s⟩ := h
  refine ⟨_, pe_tupN p, fun x σ H env st ρ G Q hE hx he hr o => s x σ H env st ρ G _ hE hx he hr ((Ok.bind (R := RVs X.K X.mg) o).imp fun us H1 ⟨vs, ρ1, G1, st1, e1, r1, q1, o1⟩ => ?_)⟩
  split at o1
  · rename_i hl
    exact ⟨by rw [← q1.len, line_eq]; exact hl, mkT_ok r1 q1 o1⟩
  · exact o1.elim
theorem xe_one {op : BoolOp} (h : XE1 X i a oe cls d pn e m) : XE1 X i a oe cls d pn (.BoolOp op [e] pos) m := let ⟨t, p, s⟩ := h; ⟨t, pe_one p, s⟩
def mxOr (m1 m2 : MX) : MX := fun x env st => (m1 x env st).bind fun v st1 => match v with
  | .d (.bool b) => if b then .ok (.d (.bool true)) st1 else m2 x env st1
  | _ => .bad
theorem xe_or (h : XE1 X i a oe cls d pn e m1) (h2 : XE1 X i a oe cls d pn (.BoolOp .Or (e2 :: es) pos) m2) : XE1 X i a oe cls d pn (.BoolOp .Or (e :: e2 :: es) pos) (mxOr m1 m2) := by
  obtain ⟨t, p, s⟩ := h
  obtain ⟨t2, p2, s2⟩ := h2
  refine ⟨_, pe_or p p2, fun x σ H env st ρ G Q hE hx he hr o => s x σ H env st ρ G _ hE hx he hr ((Ok.bind (R := RV X.K X.mg) o).imp fun u H1 ⟨v, ρ1, G1, st1, e1, r1, q1, o1⟩ => ?_)⟩
  split at o1
  · rename_i b
    refine ⟨b, rv_bl q1, ?_⟩
    cases b with
    | true => rw [if_pos rfl] at o1 ⊢; exact o1 ρ1 G1 H1 _ .refl r1 (.d (.bl true))
    | false =>
      rw [if_neg Bool.false_ne_true] at o1 ⊢
      exact s2 x σ H1 env st1 ρ1 G1 _ hE (Ok.fx e1 hx) (he.ext e1) r1 o1
  · exact o1.elim
/-! statements there -/
def sxSet (j : Nat) (m : MX) : MXS := fun x env st => (m x env st).flo env fun v st1 => .next (env.set j (some v)) st1
theorem xs_set (g : Gx D X N sc) (j : Nat) {x : Str} {p' : Pos} (hi : N[j]? = some x) (hx : sc.sc.names.lookup x = some .local) (hij : i ≠ some j) (h : XE1 X i a oe cls d pn e m) (hs : swapsWith e (some (.Name x p')) pos.line X.env = pure false := by rfl) : XS1 X i a oe cls d pn (.Assign [.Name x p'] e pos) (sxSet j m) := by
  obtain ⟨t, p, s⟩ := h
  have hx' : X.env.scope.names.lookup x = some .local := by rw [g.hsc]; exact hx
  refine ⟨_, ps_set (X := X.suite a ((a, oe) :: pn)) (i := j) (by show X.N.Nodup; rw [g.hN]; exact g.nd) (by show X.N[j]? = _; rw [g.hN]; exact hi) (.inl hx') p hs (.inr hx'), fun y σ H env st ρ G De hE hy he hr o => ?_⟩
  refine s y σ H env st ρ G _ hE hy he hr ((Ok.flo (W := fun _ _ _ _ => False) (R := RV X.K X.mg) he o).imp fun u H1 ⟨v, ρ1, G1, st1, e1, r1, q1, o1⟩ => ?_)
  refine o1 ρ1 G1 H1 _ .refl r1 ((he.ext e1).set j q1) fun l hl => ?_
  have : j ≠ l := fun z => hij (by rw [z]; exact hl)
  rw [List.getElem?_set_ne this]
  exact hE l hl
def sxRet (m : MX) : MXS := fun x env st => (m x env st).flo env fun v st1 => .ret v st1
theorem xs_ret (h : XE1 X i a oe cls d pn e m) : XS1 X i a oe cls d pn (.Return (some e) pos) (sxRet m) := by
  obtain ⟨t, p, s⟩ := h
  refine ⟨_, ps_ret p, fun y σ H env st ρ G De hE hy he hr o => ?_⟩
  exact s y σ H env st ρ G _ hE hy he hr ((Ok.flo (W := fun _ _ _ _ => False) (R := RV X.K X.mg) he o).imp fun u H1 ⟨v, ρ1, G1, st1, e1, r1, q1, o1⟩ => o1 ρ1 G1 H1 u .refl r1 q1)
def sxSeq (m1 m2 : MXS) : MXS := fun x env st => match m1 x env st with
  | .next env1 st1 => m2 x env1 st1
  | o => o
theorem xb_one (h : XS1 X i a oe cls d pn s ms) : XB1 X i a oe cls d pn [s] ms := let ⟨t, p, q⟩ := h; ⟨t, pss_one p, q⟩
theorem xb_cons (h1 : XS1 X i a oe cls d pn s ms) (h2 : XB1 X i a oe cls d pn (s1 :: ss) mt) : XB1 X i a oe cls d pn (s :: s1 :: ss) (sxSeq ms mt) := by
  obtain ⟨ta, pa, sa⟩ := h1
  obtain ⟨tb, pb, sb⟩ := h2
  refine ⟨_, pss_cons pa pb, fun y σ H env st ρ G De hE hy he hr o => sa y σ H env st ρ G _ hE hy he hr ?_⟩
  unfold sxSeq at o
  cases z : ms y env st with
  | next env1 st1 =>
    rw [z] at o
    exact fun ρ' G' H' σ' e r he' hE' => sb y σ' H' env1 st1 ρ' G' De hE' (Ok.fx e hy) he' r (OkS.ext e o)
  | ret v st1 => rw [z] at o; exact o
  | brk env1 st1 =>
    rw [z] at o
    exact fun ρ' G' H' σ' e r he' => o ρ' G' H' σ' e r he'
  | cont env1 st1 =>
    rw [z] at o
    exact fun ρ' G' H' σ' e r he' => o ρ' G' H' σ' e r he'
  | exc x2 env1 st1 => rw [z] at o; exact o
  | bad => rw [z] at o; exact o.elim
/-! ### try -/
structure HdT (D : Wd) (x : Str) (tbl : List (Str × Bool)) : Prop where
  ex : ∃ C, D.mg x = some (.ref C) ∧ ∀ p ∈ tbl, ∃ C', D.mg p.1 = some (.ref C') ∧ PySem.W.exmOne D.K (.ref C') (.ref C) = some p.2
theorem ER.blur {K : PySem.W.Frag} {mg : Str → Option Value} {ρ : List Addr} {G : Hp} {env : Env} {σ : List (Option V)} (h : ER K mg ρ G env σ) (i : Nat) (v : Option V) : ER K mg ρ G (env.set i none) (σ.set i v) := by
  refine ⟨by simp [h.1], fun j y e => ?_⟩
  by_cases z : i = j
  · subst z
    have l : i < env.length := by
      have := (List.getElem?_eq_some_iff.mp e).1
      simpa using this
    rw [List.getElem?_set_self l] at e; cases e
  · rw [List.getElem?_set_ne z] at e ⊢
    exact h.2 j y e
def sufE (i : Option Nat) (fl : Fl) : Fl := match i, fl with
  | some i, .next env st => .next (env.set i none) st
  | some i, .brk env st => .brk (env.set i none) st
  | some i, .cont env st => .cont (env.set i none) st
  | _, .exc _ _ _ => .bad
  | _, f => f
def hdlE (i : Option Nat) (tbl : List (Str × Bool)) (ms : MXS) (x : Exn) (env : Env) (st : Sto) : Fl := match tbl.lookup x.cls with
  | some true => (match i with
    | some j => if j < env.length then sufE i (ms x (env.set j none) st) else .bad
    | none => sufE i (ms x env st))
  | some false => .exc x env st
  | none => .bad
def sTry (i : Option Nat) (tbl : List (Str × Bool)) (ms : MXS) (mb : MS) : MS := fun env st => match mb env st with
  | .exc x env1 st1 => hdlE i tbl ms x env1 st1
  | o => o
def tXB (K : PySem.W.Frag) (mg : Str → Option Value) (i : Option Nat) (ms : MXS) (a : Addr) (cls : Value) (d : Option Addr) : TS := fun De σ H => ∃ x env st ρ G, HasE i a σ ∧ RX K mg G x cls d H ∧ ER K mg ρ G env σ ∧ Rel K mg ρ G st H ∧
  OkS (fun _ _ _ _ => False) K mg ρ G H (ms x env st) { nx := fun σ' H' => HasE i a σ' → De.nx σ' H', rt := De.rt, bk := De.bk, ct := De.ct }
theorem XB1.ps (h : XB1 X i a oe cls d pn ss ms) : PSs (X.suite a ((a, oe) :: pn)) ss (tXB X.K X.mg i ms a cls d) := by
  obtain ⟨t, p, s⟩ := h
  exact ⟨fun pins sh σ H De I ⟨x, env, st, ρ, G, a1, a2, a3, a4, a5⟩ => p.run pins sh σ H De I (s x σ H env st ρ G De a1 a2 a3 a4 a5)⟩
end
section
variable {D : Wd} {X : Cx} {W : WX} {N : List Str} {sc : Scp} {k : Nat} {i : Nat} {ms : MXS} {mb : MS} {pos np pos' : Pos} {body suite : List Stmt} {b₀ : Stmt} {tbl : List (Str × Bool)}
theorem Gs.tr (gs : Gs D X W N sc k) {W' : WX} {pn : List (Addr × Obj)} {xe : Value → Shared → Prop} (tk : Takes (X.tr pn xe) W') (po : PassesOwn (model X.prog X.w) X.A X.env xe) : Gs D (X.tr pn xe) W' N sc k :=
  { hP := gs.hP, hw := gs.hw, hK := gs.hK, hmg := gs.hmg, hb := gs.hb, hN := gs.hN, nd := gs.nd, hsc := gs.hsc, calm := gs.calm, tk := tk, room := gs.room, fnc := gs.fnc, po := po, stk := gs.stk, frm := gs.frm, hex := gs.hex }
theorem Gs.gx (gs : Gs D X W N sc k) : Gx D X N sc := ⟨gs.hP, gs.hw, gs.hK, gs.hmg, gs.hN, gs.nd, gs.hsc⟩
theorem hd_lookup {x : Str} {b : Bool} {cls : Value} {dd : Option Addr} {G H : Hp} {e : Exn} (gs : Gs D X W N sc k) {C : Addr} (hm : D.mg x = some (.ref C)) (ht : ∀ p ∈ tbl, ∃ C', D.mg p.1 = some (.ref C') ∧ PySem.W.exmOne D.K (.ref C') (.ref C) = some p.2) (hl : tbl.lookup e.cls = some b) (hx : RX X.K X.mg G e cls dd H) : PySem.W.exmOne X.K cls (.ref C) = some b := by
  obtain ⟨C1, c1, c2⟩ := ht _ (lookup_mem hl)
  obtain ⟨C2, d1, d2, _⟩ := hx
  rw [gs.hmg, c1] at d1
  cases d1
  rw [d2, gs.hK]; exact c2
theorem ss_tryAs (gs : Gs D X W N sc k) (i : Nat) {n x : Str} (hi : N[i]? = some n) (hn : sc.sc.names.lookup n = some .local) (hx : glB sc x = true) (hc : HdT D x tbl) (hb : ∀ X' W', Gs D X' W' N sc k → SB X' W' body mb)
    (hs : ∀ a oe cls d pn, Gx D X N sc → Su X a oe cls d pn → XB1 X (some i) a oe cls d pn (b₀ :: suite) ms) (hdb : (x == ("__debug__" : Str)) = false := by decide) :
    SS X W (.Try body [.ExceptHandler (some (.Name x np)) (some n) (b₀ :: suite) pos'] [] [] pos) (sTry (some i) tbl ms mb) := by
  obtain ⟨C, hm, ht⟩ := hc.ex
  refine ⟨_, ps_try_as (i := i) (tb := fun W => tSB X.K X.mg W mb) (ts := fun a cls d => tXB X.K X.mg (some i) ms a cls d) (Wout := W) gs.stk gs.frm (by rw [gs.hN]; exact gs.nd) (by rw [gs.hN]; exact hi) (by show X.env.scope.names.lookup n = _; rw [gs.hsc]; exact hn)
    ⟨gs.toGd.gl hx, hdb, .inl (by rw [gs.hmg]; exact hm)⟩ gs.tk (fun W' pn xe tk po => (hb (X.tr pn xe) W' (gs.tr tk po)).ps) (fun a oe cls d pn hz hf => (hs a oe cls d pn gs.gx ⟨hz, hf⟩).ps), fun σ H env st ρ G De he hr h => ?_⟩
  refine ⟨env, st, ρ, G, he, hr, ?_⟩
  unfold sTry at h
  cases z : mb env st with
  | next env1 st1 => rw [z] at h; exact h
  | ret v st1 => rw [z] at h; exact h
  | brk env1 st1 => rw [z] at h; exact h
  | cont env1 st1 => rw [z] at h; exact h
  | bad => rw [z] at h; exact h.elim
  | exc x env1 st1 =>
    rw [z] at h
    have h : OkS W X.K X.mg ρ G H (hdlE (some i) tbl ms x env1 st1) De := h
    intro ρ' G' H' σ' cls dd e r he' q
    unfold hdlE at h
    split at h
    · rename_i hl
      refine ⟨true, hd_lookup gs hm ht hl q, fun _ a ha => ?_, fun z => Bool.noConfusion z⟩
      simp only at h
      split at h
      · rename_i hlt
        have h := OkS.ext e h
        refine ⟨x, env1.set i none, st1, ρ', G', fun j hj => ?_, q, he'.blur i _, r, ?_⟩
        · cases hj
          exact List.getElem?_set_self (by rw [← he'.1]; exact hlt)
        · cases zz : ms x (env1.set i none) st1 with
          | next env2 st2 =>
            rw [zz] at h
            exact fun ρ2 G2 H2 σ2 e2 r2 he2 _ => h ρ2 G2 H2 _ e2 r2 (he2.blur i none)
          | ret v st2 => rw [zz] at h; exact h
          | brk env2 st2 =>
            rw [zz] at h
            exact fun ρ2 G2 H2 σ2 e2 r2 he2 => h ρ2 G2 H2 _ e2 r2 (he2.blur i none)
          | cont env2 st2 =>
            rw [zz] at h
            exact fun ρ2 G2 H2 σ2 e2 r2 he2 => h ρ2 G2 H2 _ e2 r2 (he2.blur i none)
          | exc x2 env2 st2 => rw [zz] at h; exact h.elim
          | bad => rw [zz] at h; exact h.elim
      · exact h.elim
    · rename_i hl
      exact ⟨false, hd_lookup gs hm ht hl q, fun z => Bool.noConfusion z, fun _ => h ρ' G' H' σ' cls dd e r he' q⟩
    · exact h.elim
theorem ss_tryOnly (gs : Gs D X W N sc k) {x : Str} (hx : glB sc x = true) (hc : HdT D x tbl) (hb : ∀ X' W', Gs D X' W' N sc k → SB X' W' body mb)
    (hs : ∀ a oe cls d pn, Gx D X N sc → Su X a oe cls d pn → XB1 X none a oe cls d pn (b₀ :: suite) ms) (hdb : (x == ("__debug__" : Str)) = false := by decide) :
    SS X W (.Try body [.ExceptHandler (some (.Name x np)) none (b₀ :: suite) pos'] [] [] pos) (sTry none tbl ms mb) := by
  obtain ⟨C, hm, ht⟩ := hc.ex
  refine ⟨_, ps_try_only (tb := fun W => tSB X.K X.mg W mb) (ts := fun a cls d => tXB X.K X.mg none ms a cls d) (Wout := W) gs.stk gs.frm
    ⟨gs.toGd.gl hx, hdb, .inl (by rw [gs.hmg]; exact hm)⟩ gs.tk (fun W' pn xe tk po => (hb (X.tr pn xe) W' (gs.tr tk po)).ps) (fun a oe cls d pn hz hf => (hs a oe cls d pn gs.gx ⟨hz, hf⟩).ps), fun σ H env st ρ G De he hr h => ?_⟩
  refine ⟨env, st, ρ, G, he, hr, ?_⟩
  unfold sTry at h
  cases z : mb env st with
  | next env1 st1 => rw [z] at h; exact h
  | ret v st1 => rw [z] at h; exact h
  | brk env1 st1 => rw [z] at h; exact h
  | cont env1 st1 => rw [z] at h; exact h
  | bad => rw [z] at h; exact h.elim
  | exc x env1 st1 =>
    rw [z] at h
    have h : OkS W X.K X.mg ρ G H (hdlE none tbl ms x env1 st1) De := h
    intro ρ' G' H' σ' cls dd e r he' q
    unfold hdlE at h
    split at h
    · rename_i hl
      refine ⟨true, hd_lookup gs hm ht hl q, fun _ a ha => ?_, fun z => Bool.noConfusion z⟩
      simp only at h
      have h := OkS.ext e h
      refine ⟨x, env1, st1, ρ', G', fun j hj => (by cases hj), q, he', r, ?_⟩
      cases zz : ms x env1 st1 with
      | next env2 st2 =>
        rw [zz] at h
        exact fun ρ2 G2 H2 σ2 e2 r2 he2 _ => h ρ2 G2 H2 _ e2 r2 he2
      | ret v st2 => rw [zz] at h; exact h
      | brk env2 st2 => rw [zz] at h; exact h
      | cont env2 st2 => rw [zz] at h; exact h
      | exc x2 env2 st2 => rw [zz] at h; exact h.elim
      | bad => rw [zz] at h; exact h.elim
    · rename_i hl
      exact ⟨false, hd_lookup gs hm ht hl q, fun z => Bool.noConfusion z, fun _ => h ρ' G' H' σ' cls dd e r he' q⟩
    · exact h.elim
end
end Z

namespace Z
open PySem PySem.Spec PyProof.Rows L2
/-! ### x, *y = a list -/
section
variable {prog : Program} {w : World} {A : Around} {E : Value → Shared → Prop} {s : Shared}
open PySem.W in
theorem un_star {l : Addr} {items : Array Value} {n i : Nat} {Q : List Value → Shared → Prop} (hl : s.heap.IsList l items) (hh : A.handled = none) (hi : i < n) (hn : n ≤ items.size + 1) (hz : items.size ≤ sizeLine)
    (h : ∀ (h' : Heap) (tk : Nat), (∀ b o, s.heap.get? b = some o → h'.get? b = some o) →
      Q (items.toList.take i ++ [.ref h'.objs.size] ++ (items.toList.drop i).drop (items.size + 1 - n)) { s with heap := h'.push { cls := .type "list", data := .seq ((items.toList.drop i).take (items.size + 1 - n)).toArray }, toks := tk }) : wpAny (model prog w) A (unpackItems (.ref l) n (some i)) Q E s := by
  have hlt : l ≠ s.heap.objs.size := by obtain ⟨o, ho, _⟩ := hl; exact Nat.ne_of_lt (Heap.lt_size ho)
  have hll : l < s.heap.objs.size := by obtain ⟨o, ho, _⟩ := hl; exact Heap.lt_size ho
  unfold unpackItems
  refine wpAny_bind ?_
  unfold notIterableAtAll
  refine wpAny_bind (wpAny_specialOf hl.typeIs slot_list_iter.lookup ?_)
  refine wpAny_pure ?_
  simp only [Bool.false_eq_true, if_false]
  refine wpAny_bind (wpAny_holding (wpAny_pyIter_list hl ?_))
  refine wpAny_bind (wpAny_holding (kun_draw hlt i 0 _ _ ⟨_, Heap.get?_push_size _ rfl, rfl, rfl⟩ (hl.push _) (by omega) fun h₁ hit₁ hs₁ => ?_))
  have hl₁ : h₁.IsList l items := (hl.push _).extBut hs₁.extBut hlt
  rw [Nat.zero_add] at hit₁
  have hit₁' := hit₁
  obtain ⟨oi, hoi, _⟩ := hit₁'
  have hl₁' := hl₁
  obtain ⟨ol, hol, _⟩ := hl₁'
  rw [List.drop_zero]
  have hfl : (items.toList.take i).length = i := by rw [List.length_take, Array.length_toList]; omega
  rw [if_neg (show ¬ ((items.toList.take i).length < i) by rw [hfl]; omega)]
  refine wpAny_bind (wpAny_holding (kun_collect (s := { s with heap := h₁ }) (T := "list_iterator") (.inr (.inr (.inl rfl))) (Walks.list (A := A.in1) hh s.heap.objs.size l hlt items) (fun j u st => st.1.typeIs) (k := i) (by omega) ⟨hit₁, hl₁⟩ (Heap.lt_size hoi) (Heap.lt_size hol) (fun h₂ tk hk => ?_) hz))
  have hrl : (items.toList.drop i).length = items.size - i := by rw [List.length_drop, Array.length_toList]
  have hmid : (items.toList.drop i).length - (n - 1 - i) = items.size + 1 - n := by rw [hrl]; omega
  show wpAny _ _ (if (items.toList.drop i).length < n - 1 - i then _ else _) _ _ _
  rw [if_neg (by rw [hrl]; omega)]
  show wpAny _ _ (newList ((items.toList.drop i).take ((items.toList.drop i).length - (n - 1 - i))) >>= fun d => pure (items.toList.take i ++ [d] ++ (items.toList.drop i).drop ((items.toList.drop i).length - (n - 1 - i)))) _ _ _
  rw [hmid]
  have he : Heap.ExtBut s.heap.objs.size s.heap h₂ := fun b o hb e => hk b o hb (hs₁.extBut b o hb (Heap.get?_push_of_some _ e))
  exact wpAny_bind (wpAny_newList (wpAny_pure (h h₂ tk fun b o e => he b o (Nat.ne_of_lt (Heap.lt_size e)) e)) (by rw [List.length_take, hrl]; exact Nat.le_trans (Nat.min_le_right _ _) (by omega)))
end
section
variable {D : Wd} {X : Cx} {W : WX} {N : List Str} {sc : Scp} {k : Nat} {e a b c o : Expr} {es : List Expr} {m ma mb mc mo mi : ME} {mr : MA} {pos p p2 p3 : Pos}
/-- x, *y = e -/
def sStar (i j : Nat) (m : ME) : MS := fun env st => (m env st).flo env fun v st1 => match seqL st1 v with
  | some (x :: r) => (newL r st1).flo env fun l st2 => .next ((env.set i (some x)).set j (some l)) st2
  | _ => .bad
theorem ss_star (g : Gd D X W N sc k) (i j : Nat) {x y : Str} {px py ps pt : Pos} {kt : Nat} (hi : N[i]? = some x) (hj : N[j]? = some y) (hx : locB sc x = true) (hy : locB sc y = true) (h : SE X W e m)
    (hs : swapsWithSole [.Tuple [.Name x px, .Starred (.Name y py) ps] kt pt] e pos.line X.env = pure false := by rfl) (hw : swappedStores [.Tuple [.Name x px, .Starred (.Name y py) ps] kt pt] e X.env = pure none := by rfl)
    (h1 : (assignEach [.Tuple [.Name x px, .Starred (.Name y py) ps] kt pt] X.env).map (·.2) = [assign (.Tuple [.Name x px, .Starred (.Name y py) ps] kt pt) X.env] := by rfl)
    (h2 : assignEach [.Name x px, .Starred (.Name y py) ps] X.env = [(false, assign (.Name x px) X.env), (true, assign (.Name y py) X.env)] := by rfl) :
    SS X W (.Assign [.Tuple [.Name x px, .Starred (.Name y py) ps] kt pt] e pos) (sStar i j m) := by
  obtain ⟨t, pe, s⟩ := h
  have hnd : X.N.Nodup := by rw [g.hN]; exact g.nd
  have hgs : PGs X [.Name x px, .Name y py] (gCons (gName i) (gCons (gName j) gNil)) :=
    pgs_cons (pg_name hnd (by rw [g.hN]; exact hi) (g.loc hx).1 (g.loc hx).2) (pgs_cons (pg_name hnd (by rw [g.hN]; exact hj) (g.loc hy).1 (g.loc hy).2) pgs_nil)
  have hpg : PG X (.Tuple [.Name x px, .Starred (.Name y py) ps] kt pt) (fun v σ H Q => ∃ a x0 r, v = .ref a ∧ SqL X.K H a (x0 :: r) ∧ ∀ l, H l = none → Q ((σ.set i (some x0)).set j (some (.ref l))) (upd H l (.lst r))) := by
    refine ⟨fun pins s σ H v u Q I r hw => ?_⟩
    obtain ⟨a, x0, r0, rfl, hq, hw⟩ := hw
    cases r
    obtain ⟨its, rv, pl, hz⟩ := I.list hq
    cases rv with
    | @cons _ u0 _ us r0' rr =>
    have hl' : s.heap.IsList a (u0 :: us).toArray := by
      obtain ⟨o, m, e, c, d, q⟩ := pl
      exact ⟨o, e, c, m, q⟩
    rw [PyProof.Rows.assign_Tuple]
    refine wpAny_bind (wpAny_standAt ?_)
    unfold unpack
    rw [h2]
    show wpAny _ _ (holding [.ref a] (unpackItems (.ref a) 2 (some 1)) >>= fun vs => assignInOrder [assign (.Name x px) X.env, assign (.Name y py) X.env] vs) _ _ _
    have hz' : us.length + 1 ≤ sizeLine := by
      have := rr.length
      simp only [List.length_cons] at hz
      omega
    refine wpAny_bind (wpAny_holding (un_star hl' (I.ok.hd g.calm) (by decide) (by simp) (by simpa using hz') fun h' tk kp => ?_))
    have e1 : ((u0 :: us).toArray.toList.drop 1).take ((u0 :: us).toArray.size + 1 - 2) = us := by simp
    have e2 : ((u0 :: us).toArray.toList.drop 1).drop ((u0 :: us).toArray.size + 1 - 2) = [] := by simp
    have e3 : (u0 :: us).toArray.toList.take 1 = [u0] := by simp
    rw [e1, e2, e3]
    have I1 : Inv X pins σ H { s with heap := h' } := I.kept (t' := s.toks) kp
    have hn := I1.hok.fresh (Nat.le_refl _)
    have I2 : Inv X pins σ (upd H h'.objs.size (.lst r0)) { s with heap := h'.push { cls := .type "list", data := .seq us.toArray }, toks := tk } := by
      refine I1.laid (o := .lst r0) (t' := tk) (fun b o e => Heap.get?_push_of_some _ e) (Nat.le_refl _) ?_
      exact ⟨by have := rr.length; omega, us, 0, rr, Heap.get?_push_size _ rfl⟩
    exact hgs.run pins _ σ _ [x0, .ref h'.objs.size] [u0, .ref h'.objs.size] Q I2 (.cons r0' (.cons rfl .nil)) ⟨_, _, rfl, _, _, rfl, rfl, hw _ hn⟩
  refine ⟨_, ps_asg pe hpg hs hw h1, fun σ H env st ρ G De he hr h => ?_⟩
  refine s σ H env st ρ G _ he hr ((Ok.flo (R := RV X.K X.mg) he h).imp fun u H1 ⟨v, ρ1, G1, st1, e1, r1, q1, o1⟩ => ?_)
  split at o1
  · rename_i v0 r0 hq
    obtain ⟨a, vs, rfl, ha, cv⟩ := seqL_ok r1 hq q1
    cases cv with
    | @cons _ u0 _ us q0 qs =>
    refine ⟨a, u0, us, rfl, .inl (.inl ha), fun l hl => ?_⟩
    have he1 := he.ext e1
    refine newL_ok (E := fun c d H => W c d σ H) (Q := fun u H2 => De.nx ((σ.set i (some u0)).set j (some u)) H2) r1 hl qs ?_
    refine ((Ok.flo (R := RV X.K X.mg) he1 o1).imp fun u2 H2 ⟨l2, ρ2, G2, st2, e2, r2, q2, o2⟩ => ?_)
    exact o2 ρ2 G2 H2 _ .refl r2 (((he1.ext e2).set i (e2.rv q0)).set j q2)
  · exact o1.elim
/-! ### a = b = .. = e -/
def setAll {α : Type} (js : List Nat) (v : α) (env : List (Option α)) : List (Option α) := match js with
  | [] => env
  | j :: r => setAll r v (env.set j (some v))
inductive NT (X : Cx) (N : List Str) (sc : Scp) : List Expr → List Nat → Prop
  | nil : NT X N sc [] []
  | cons {x : Str} {j : Nat} {p : Pos} {ts : List Expr} {js : List Nat} (hj : N[j]? = some x) (hx : locB sc x = true) (r : NT X N sc ts js) : NT X N sc (.Name x p :: ts) (j :: js)
theorem ER.setAll {K : PySem.W.Frag} {mg : Str → Option Value} {ρ : List Addr} {G : Hp} {x : Val} {v : V} (q : RV K mg ρ G x v) : ∀ {js : List Nat} {env : Env} {σ : List (Option V)}, ER K mg ρ G env σ → ER K mg ρ G (Z.setAll js x env) (Z.setAll js v σ)
  | [], _, _, h => h
  | j :: js, env, σ, h => ER.setAll (js := js) (env := env.set j (some x)) (σ := σ.set j (some v)) q (h.set j q)
theorem pal (g : Gd D X W N sc k) {ts : List Expr} {js : List Nat} (h : NT X N sc ts js) : ∀ (pins : List (Addr × Obj)) (s : Shared) (σ : List (Option V)) (H : Hp) (v : V) (u : Value) (Q : List (Option V) → Hp → Prop), Inv X pins σ H s → RelV v u → Q (Z.setAll js v σ) H →
    wpAny (model X.prog X.w) X.A (assignAll u (ts.map fun t => assign t X.env)) (fun _ s' => ∃ σ' H', Inv X pins σ' H' s' ∧ Q σ' H') X.xe s := by
  induction h with
  | nil => exact fun pins s σ H v u Q I r q => wpAny_pure ⟨σ, H, I, q⟩
  | @cons x j p ts js hj hx r ih =>
    intro pins s σ H v u Q I rr q
    have st : ∀ (Q' : Unit → Shared → Prop), (∀ s', Inv X pins (σ.set j (some v)) H s' → Q' () s') → wpAny (model X.prog X.w) X.A (assign (.Name x p) X.env u) Q' X.xe s := fun Q' h =>
      wpAny_assign_Name (store_ok I (by rw [g.hN]; exact g.nd) (by rw [g.hN]; exact hj) (g.loc hx).1 rr h (g.loc hx).2)
    cases r with
    | nil => exact st _ fun s' I' => ⟨_, H, I', q⟩
    | cons hj2 hx2 r2 => exact wpAny_bind (wpAny_holding (st _ fun s' I' => ih pins s' _ H v u Q I' rr q))
def sAsgN (js : List Nat) (m : ME) : MS := fun env st => (m env st).flo env fun v st1 => .next (setAll js v env) st1
theorem ss_asgN (g : Gd D X W N sc k) {ts : List Expr} {js : List Nat} (hn : NT X N sc ts js) (h : SE X W e m) (hs : swapsWithSole ts e pos.line X.env = pure false := by rfl) (hw : swappedStores ts e X.env = pure none := by rfl) (h1 : (assignEach ts X.env).map (·.2) = ts.map (fun t => assign t X.env) := by rfl) :
    SS X W (.Assign ts e pos) (sAsgN js m) := by
  obtain ⟨t, p, s⟩ := h
  refine ⟨fun De σ H => t σ H fun x H1 => De.nx (Z.setAll js x σ) H1, ⟨fun pins sh σ H De I h => ?_⟩, fun σ H env st ρ G De he hr h => ?_⟩
  · refine wpAny_Assign_stores (thn (p.run pins sh σ H _ I h) fun v s1 ⟨x, H1, I1, r1, q1⟩ => ?_) hs hw
    rw [h1]
    exact thn (pal g hn pins s1 σ H1 x v De.nx I1 r1 q1) fun _ s2 q => q
  · refine s σ H env st ρ G _ he hr ((Ok.flo (R := RV X.K X.mg) he h).imp fun u H1 ⟨x, ρ1, G1, st1, e1, r1, q1, o1⟩ => ?_)
    exact o1 ρ1 G1 H1 _ .refl r1 (ER.setAll q1 (he.ext e1))
/-! ### xs[i] = e, a list that is a cell -/
def stF (x i v : Val) (st : Sto) : Option Sto := match x, i with
  | .c n, .d (.int k) => (match st[n]? with
    | some (.lst xs) => (ixN xs.length k).map fun j => st.set n (.lst (xs.set j v))
    | _ => none)
  | _, _ => none
def stK (env : Env) (o : Option Sto) : Fl := match o with
  | some st => .next env st
  | none => .bad
def sStore (mo mi m : ME) : MS := fun env st => (m env st).flo env fun v st1 => (mo env st1).flo env fun x st2 => (mi env st2).flo env fun i st3 => stK env (stF x i v st3)
theorem ss_store {i : Expr} (ho : SE X W o mo) (hi : SE X W i mi) (h : SE X W e m) (ha : ∀ v, assign (.Subscript o i p) X.env v = (do
      let ov ← holding [v] (eval o X.env)
      let iv ← holding [v, ov] (eval i X.env)
      standAt p
      holding [v, ov, iv] (setItem ov iv v)
      release [v, ov, iv] []) := by intro _; rfl) (hs : swapsWithSole [.Subscript o i p] e pos.line X.env = pure false := by rfl) (hw : swappedStores [.Subscript o i p] e X.env = pure none := by rfl)
    (h1 : (assignEach [.Subscript o i p] X.env).map (·.2) = [assign (.Subscript o i p) X.env] := by rfl) : SS X W (.Assign [.Subscript o i p] e pos) (sStore mo mi m) := by
  obtain ⟨t, pe, s⟩ := h
  obtain ⟨to, po, so⟩ := ho
  obtain ⟨ti, pi, si⟩ := hi
  refine ⟨_, ps_asg pe (pg_sub po pi set_list ha) hs hw h1, fun σ H env st ρ G De he hr h => ?_⟩
  refine s σ H env st ρ G _ he hr ((Ok.flo (R := RV X.K X.mg) he h).imp fun u H1 ⟨v, ρ1, G1, st1, e1, r1, q1, o1⟩ => ?_)
  have he1 := he.ext e1
  refine so σ H1 env st1 ρ1 G1 _ he1 r1 ((Ok.flo (R := RV X.K X.mg) he1 o1).imp fun uo H2 ⟨x, ρ2, G2, st2, e2, r2, q2, o2⟩ => ?_)
  have he2 := he1.ext e2
  refine si σ H2 env st2 ρ2 G2 _ he2 r2 ((Ok.flo (R := RV X.K X.mg) he2 o2).imp fun ui H3 ⟨y, ρ3, G3, st3, e3, r3, q3, o3⟩ => ?_)
  have he3 := he2.ext e3
  unfold stK at o3
  split at o3
  · rename_i st4 hst
    unfold stF at hst
    split at hst
    · rename_i n kz
      split at hst
      · rename_i xs hx
        obtain ⟨j, hj, rfl⟩ := Option.map_eq_some_iff.mp hst
        obtain ⟨a, rfl, ea⟩ := rv_cell (e3.rv q2)
        obtain ⟨a', vs, k1, k2, k3, _⟩ := r3.at_ hx
        rw [ea] at k1; cases k1
        rw [rv_int q3]
        refine ⟨a, vs, _, j, rfl, rfl, k2, by rw [← k3.len]; exact hj, ?_⟩
        exact o3 ρ3 G3 _ σ (.put ea) (r3.putL ea hx (k3.set (e3.rv (e2.rv q1)) j)) he3
      · cases hst
    · cases hst
  · exact o3.elim
/-! ### the module's tables (text keys) -/
structure TabF (D : Wd) (x : Str) (ks : List Str) : Prop where
  ex : ∃ a es n, D.mg x = some (.ref a) ∧ D.K.lookup a = some ⟨.type "dict", none, .dict es n, #[]⟩ ∧ es.toList.map He.keyOf = He.keysIn D.w.params ks ∧ (a == sysModules) = false
theorem keys_find {P : Params} : ∀ {l : List DictEntry} {ks : List Str} {z : Str}, l.map He.keyOf = He.keysIn P ks → (ks.contains z = true → ∃ e, l.find? (·.key.isStr z) = some e) ∧ (ks.contains z = false → l.find? (·.key.isStr z) = none) ∧ l.any (·.refKey) = false
  | [], [], z, _ => ⟨fun h => by simp at h, fun _ => rfl, rfl⟩
  | [], _ :: _, _, h => by simp [He.keysIn] at h
  | _ :: _, [], _, h => by simp [He.keysIn] at h
  | e :: l, k :: ks, z, h => by
    simp only [He.keysIn, List.map_cons, List.cons.injEq] at h
    obtain ⟨h1, h2⟩ := h
    obtain ⟨i1, i2, i3⟩ := keys_find (l := l) (ks := ks) (z := z) h2
    unfold He.keyOf at h1
    split at h1
    · rename_i x t q
      have h4 := Option.some.inj h1
      obtain ⟨h5, h6⟩ := Prod.mk.inj h4
      subst h5
      have ek : e.key.isStr z = (x == z) := by rw [q]; rfl
      have er : e.refKey = false := by unfold DictEntry.refKey; rw [q]
      refine ⟨fun h => ?_, fun h => ?_, by rw [List.any_cons, er, i3]; rfl⟩
      · by_cases hx : (x == z) = true
        · exact ⟨e, by rw [List.find?_cons, ek, hx]⟩
        · have hx' : (x == z) = false := by simpa using hx
          have : ks.contains z = true := by
            simp only [List.contains_cons, Bool.or_eq_true] at h
            rcases h with h | h
            · rw [beq_iff_eq] at h; subst h; simp at hx
            · exact h
          obtain ⟨e', he⟩ := i1 this
          exact ⟨e', by rw [List.find?_cons, ek, hx']; exact he⟩
      · simp only [List.contains_cons, Bool.or_eq_false_iff] at h
        have hx' : (x == z) = false := by
          have := h.1
          rw [beq_eq_false_iff_ne] at this ⊢
          exact fun y => this y.symm
        rw [List.find?_cons, ek, hx']
        exact i2 h.2
    · cases h1
theorem keysLit_of {P : Params} : ∀ {l : List DictEntry} {ks : List Str}, l.map He.keyOf = He.keysIn P ks → PySem.W.KeysLit P l := fun h => He.keysLit_of h
theorem nsIn_keys {K : PySem.W.Frag} {a : Addr} {es : Array DictEntry} {n : Nat} {P : Params} {ks : List Str} (z : Str) (hl : K.lookup a = some ⟨.type "dict", none, .dict es n, #[]⟩) (hk : es.toList.map He.keyOf = He.keysIn P ks) : ∃ r : Option Value, PySem.W.nsIn K a z = some r ∧ r.isSome = ks.contains z := by
  obtain ⟨h1, h2, h3⟩ := keys_find (z := z) hk
  unfold PySem.W.nsIn
  rw [hl]
  cases hc : ks.contains z with
  | true =>
    obtain ⟨e, he⟩ := h1 hc
    exact ⟨some e.val, by simp [he], rfl⟩
  | false => exact ⟨none, by simp [h2 hc, h3], rfl⟩
def rInTab (K : PySem.W.Frag) (w : World) (ks : List Str) (f : Bool → Bool) : R2 := fun x y H Q => ∃ z a es n, x = .str z ∧ y = .ref a ∧ K.lookup a = some ⟨.type "dict", none, .dict es n, #[]⟩ ∧ es.toList.map He.keyOf = He.keysIn w.params ks ∧ (a == sysModules) = false ∧ Q (.bl (f (ks.contains z))) H
theorem op_inTab (ks : List Str) : OpR X (compareOp .In) (rInTab X.K X.w ks id) := by
  intro pins s σ H x y v u Q I rx ry h
  obtain ⟨z, a, es, n, rfl, rfl, hl, hk, hs, q⟩ := h
  obtain ⟨t, rfl⟩ := rx
  cases ry
  obtain ⟨r, e1, e2⟩ := nsIn_keys z hl hk
  refine wpAny_in_of (strKind_is X.prog X.w z t) hs (PySem.W.mapOf_K (prog := X.prog) (w := X.w) I.kIn hl (keysLit_of hk)) ?_
  rw [PySem.W.find_K hl e1, e2]
  exact ⟨.bl (ks.contains z), H, I.tok _, rfl, q⟩
theorem op_ninTab (ks : List Str) : OpR X (compareOp .NotIn) (rInTab X.K X.w ks not) := by
  intro pins s σ H x y v u Q I rx ry h
  obtain ⟨z, a, es, n, rfl, rfl, hl, hk, hs, q⟩ := h
  obtain ⟨t, rfl⟩ := rx
  cases ry
  obtain ⟨r, e1, e2⟩ := nsIn_keys z hl hk
  refine wpAny_notIn_of (strKind_is X.prog X.w z t) hs (PySem.W.mapOf_K (prog := X.prog) (w := X.w) I.kIn hl (keysLit_of hk)) ?_
  rw [PySem.W.find_K hl e1, e2]
  exact ⟨.bl (!ks.contains z), H, I.tok _, rfl, q⟩
def inTabF (ks : List Str) (f : Bool → Bool) (v : Val) (st : Sto) : Out Bool := match v with
  | .d (.str z) => .ok (f (ks.contains z)) st
  | _ => .bad
def mInTab (ks : List Str) (f : Bool → Bool) (m : ME) : MT := fun env st => (m env st).bind (inTabF ks f)
theorem st_inTab_core (g : Gd D X W N sc k) {x : Str} {ks : List Str} {f : Bool → Bool} {op : CmpOp} (hop : OpR X (compareOp op) (rInTab X.K X.w ks f)) (hT : TabF D x ks) (hg : glB sc x = true) (h : SE X W e m) (hdb : (x == ("__debug__" : Str)) = false) (hm : behindInMarks op (.Name x p) = false) : ST X W (.Compare e [op] [.Name x p] pos) (mInTab ks f m) := by
  obtain ⟨a, es, n, h1, h2, h3, h4⟩ := hT.ex
  obtain ⟨t, pe, s⟩ := h
  refine ⟨_, pt_cmpR hop pe (pe_glob (v := .ref a) (u := .ref a) (g.gl hg) (by rw [g.hmg]; exact h1) rfl hdb) hm, fun σ H env st ρ G Q he rl h => ?_⟩
  refine s σ H env st ρ G _ he rl ((Ok.bind (R := RV X.K X.mg) h).imp fun u H1 ⟨v, ρ1, G1, st1, e1, r1, q1, o1⟩ => ?_)
  unfold inTabF at o1
  split at o1
  · rename_i z
    exact ⟨z, a, es, n, rv_str q1, rfl, by rw [g.hK]; exact h2, by rw [g.hw]; exact h3, h4, _, rfl, o1 ρ1 G1 H1 _ .refl r1 rfl⟩
  · exact o1.elim
theorem st_inTab (g : Gd D X W N sc k) {x : Str} {ks : List Str} (hT : TabF D x ks) (hg : glB sc x = true) (h : SE X W e m) (hdb : (x == ("__debug__" : Str)) = false := by decide) (hm : behindInMarks .In (.Name x p) = false := by with_unfolding_all rfl) : ST X W (.Compare e [.In] [.Name x p] pos) (mInTab ks id m) := st_inTab_core g (op_inTab ks) hT hg h hdb hm
theorem st_ninTab (g : Gd D X W N sc k) {x : Str} {ks : List Str} (hT : TabF D x ks) (hg : glB sc x = true) (h : SE X W e m) (hdb : (x == ("__debug__" : Str)) = false := by decide) (hm : behindInMarks .NotIn (.Name x p) = false := by with_unfolding_all rfl) : ST X W (.Compare e [.NotIn] [.Name x p] pos) (mInTab ks not m) := st_inTab_core g (op_ninTab ks) hT hg h hdb hm
/-- the values -/
structure TabV (D : Wd) (x : Str) (tbl : List (Str × Val)) : Prop where
  ex : ∃ a es n, D.mg x = some (.ref a) ∧ D.K.lookup a = some ⟨.type "dict", none, .dict es n, #[]⟩ ∧ PySem.W.KeysLit D.w.params es.toList ∧ ∀ p ∈ tbl, ∃ u v, PySem.W.nsIn D.K a p.1 = some (some u) ∧ RelV v u ∧ ∀ ρ G, RV D.K D.mg ρ G p.2 v
def tabF (tbl : List (Str × Val)) (v : Val) (st : Sto) : Out Val := match v with
  | .d (.str z) => outV (tbl.lookup z) st
  | _ => .bad
def mTab (tbl : List (Str × Val)) (m : ME) : ME := fun env st => (m env st).bind (tabF tbl)
theorem lookup_memV {tbl : List (Str × Val)} {x : Str} {b : Val} (h : tbl.lookup x = some b) : (x, b) ∈ tbl := by
  induction tbl with
  | nil => cases h
  | cons p r ih =>
    obtain ⟨y, c⟩ := p
    by_cases e : (x == y) = true
    · simp only [List.lookup, e] at h
      cases h
      rw [beq_iff_eq.mp e]; exact List.mem_cons_self
    · have e' : (x == y) = false := by simpa using e
      simp only [List.lookup, e'] at h
      exact List.mem_cons_of_mem _ (ih h)
theorem se_tab (g : Gd D X W N sc k) {x : Str} {tbl : List (Str × Val)} (hT : TabV D x tbl) (hg : glB sc x = true) (h : SE X W e m) (hdb : (x == ("__debug__" : Str)) = false := by decide) (hs : PlainIx e := by exact fun _ _ => rfl) : SE X W (.Subscript (.Name x p) e pos) (mTab tbl m) := by
  obtain ⟨a, es, n, h1, h2, h3, h4⟩ := hT.ex
  obtain ⟨t, pe, s⟩ := h
  refine ⟨_, pe_ix ix_kdict (pe_glob (v := .ref a) (u := .ref a) (g.gl hg) (by rw [g.hmg]; exact h1) rfl hdb) pe hs, fun σ H env st ρ G Q he rl h => ?_⟩
  refine s σ H env st ρ G _ he rl ((Ok.bind (R := RV X.K X.mg) h).imp fun u H1 ⟨v, ρ1, G1, st1, e1, r1, q1, o1⟩ => ?_)
  unfold tabF at o1
  split at o1
  · rename_i z
    unfold outV at o1
    split at o1
    · rename_i y hy
      obtain ⟨w, v2, k1, k2, k3⟩ := h4 _ (lookup_memV hy)
      exact ⟨a, z, v2, rfl, rv_str q1, ⟨es, n, w, by rw [g.hK]; exact h2, by rw [g.hw]; exact h3, by rw [g.hK]; exact k1, k2⟩, o1 ρ1 G1 H1 v2 .refl r1 (by rw [g.hK, g.hmg]; exact k3 ρ1 G1)⟩
    · exact o1.elim
  · exact o1.elim
/-! ### small dicts of texts and whole numbers, cells -/
def keyV : Val → Option L2.Key
  | .d (.str z) => some (.inr z)
  | .d (.int i) => some (.inl i)
  | _ => none
theorem keyV_ok {K : PySem.W.Frag} {mg : Str → Option Value} {ρ : List Addr} {G : Hp} {x : Val} {u : V} {y : L2.Key} (h : keyV x = some y) (q : RV K mg ρ G x u) : u = kV y := by
  unfold keyV at h
  split at h
  · cases h; exact rv_str q
  · cases h; exact rv_int q
  · cases h
def dctGet (kvs : List (L2.Key × Val)) (y : L2.Key) : Option Val := (kvs.find? fun kv => decide (kv.1 = y)).map (·.2)
theorem dct_get {K : PySem.W.Frag} {mg : Str → Option Value} {ρ : List Addr} {G : Hp} (y : L2.Key) : ∀ {kvs : List (L2.Key × Val)} {vs : List (L2.Key × V)}, kvs.map (·.1) = vs.map (·.1) → RVs K mg ρ G (kvs.map (·.2)) (vs.map (·.2)) →
    (dctGet kvs y = none ∧ valV vs y = none) ∨ ∃ x v, dctGet kvs y = some x ∧ valV vs y = some v ∧ RV K mg ρ G x v
  | [], [], _, _ => .inl ⟨rfl, rfl⟩
  | (k, x) :: kvs, (k', v) :: vs, e, q => by
    simp only [List.map_cons, List.cons.injEq] at e
    obtain ⟨rfl, e⟩ := e
    cases q with
    | cons q1 q2 =>
      by_cases h : k = y
      · subst h
        exact .inr ⟨x, v, by simp [dctGet], by simp [valV], q1⟩
      · rcases dct_get y e q2 with ⟨a, b⟩ | ⟨x', v', a, b, c⟩
        · exact .inl ⟨by simpa [dctGet, List.find?_cons, h] using a, by simpa [valV, List.find?_cons, h] using b⟩
        · exact .inr ⟨x', v', by simpa [dctGet, List.find?_cons, h] using a, by simpa [valV, List.find?_cons, h] using b, c⟩
  | [], _ :: _, e, _ => by simp at e
  | _ :: _, [], e, _ => by simp at e
theorem Rel.atD {K : PySem.W.Frag} {mg : Str → Option Value} {ρ : List Addr} {G H : Hp} {st : Sto} {n : Nat} {kvs : List (L2.Key × Val)} (r : Rel K mg ρ G st H) (h : st[n]? = some (.dct kvs)) : ∃ a vs, ρ[n]? = some a ∧ H a = some (.dK vs) ∧ kvs.map (·.1) = vs.map (·.1) ∧ RVs K mg ρ G (kvs.map (·.2)) (vs.map (·.2)) := by
  have l : n < st.length := (List.getElem?_eq_some_iff.mp h).1
  have l2 : n < ρ.length := by rw [r.len]; exact l
  have e := List.getElem?_eq_getElem l2
  obtain ⟨vs, h1, h2, h3⟩ := r.cell n _ _ e h
  exact ⟨_, vs, e, h1, h2, h3⟩
def cellD (o : Option Cell) : Option (List (L2.Key × Val)) := match o with
  | some (.dct kvs) => some kvs
  | _ => none
theorem cellD_eq {o : Option Cell} {kvs : List (L2.Key × Val)} (h : cellD o = some kvs) : o = some (.dct kvs) := by
  unfold cellD at h
  split at h
  · cases h; rfl
  · cases h
def dctV (st : Sto) (x : Val) : Option (List (L2.Key × Val)) := match x with
  | .c n => cellD st[n]?
  | _ => none
def inDF (f : Bool → Bool) (v d : Val) (st : Sto) : Out Bool := match keyV v, dctV st d with
  | some y, some kvs => .ok (f (dctGet kvs y).isSome) st
  | _, _ => .bad
def getDF (d v : Val) (st : Sto) : Out Val := match keyV v, dctV st d with
  | some y, some kvs => outV (dctGet kvs y) st
  | _, _ => .bad
def mInD (f : Bool → Bool) (m mo : ME) : MT := fun env st => (m env st).bind fun v st1 => (mo env st1).bind fun d st2 => inDF f v d st2
def mGetD (mo m : ME) : ME := fun env st => (mo env st).bind fun d st1 => (m env st1).bind fun v st2 => getDF d v st2
theorem dctV_ok {K : PySem.W.Frag} {mg : Str → Option Value} {ρ : List Addr} {G H : Hp} {st : Sto} {x : Val} {u : V} {kvs : List (L2.Key × Val)} (r : Rel K mg ρ G st H) (h : dctV st x = some kvs) (q : RV K mg ρ G x u) : ∃ a vs, u = .ref a ∧ H a = some (.dK vs) ∧ kvs.map (·.1) = vs.map (·.1) ∧ RVs K mg ρ G (kvs.map (·.2)) (vs.map (·.2)) := by
  unfold dctV at h
  split at h
  · obtain ⟨a, rfl, ea⟩ := rv_cell q
    obtain ⟨a', vs, h1, h2, h3, h4⟩ := r.atD (cellD_eq h)
    rw [ea] at h1; cases h1
    exact ⟨a, vs, rfl, h2, h3, h4⟩
  · cases h
theorem st_inDct (g : Gd D X W N sc k) (h : SE X W e m) (ho : SE X W o mo) (hm : behindInMarks .In o = false := by with_unfolding_all rfl) : ST X W (.Compare e [.In] [o] pos) (mInD id m mo) := by
  obtain ⟨t, pe, s⟩ := h
  obtain ⟨to, po, so⟩ := ho
  refine ⟨_, pt_cmp (pc_din (hu_of g.room) pe po) hm, fun σ H env st ρ G Q he rl h => ?_⟩
  refine two (R := RB) (fun Q h => s σ H env st ρ G Q he rl h) (fun H st ρ G Q he rl h => so σ H env st ρ G Q he rl h) he rl h fun ρ G st H x y u v r1 q1 q2 o => ?_
  unfold inDF at o
  split at o
  · rename_i z kvs e1 e2
    obtain ⟨a, vs, rfl, h2, h3, h4⟩ := dctV_ok r1 e2 q2
    rw [keyV_ok e1 q1]
    rcases dct_get z h3 h4 with ⟨k1, k2⟩ | ⟨x', v', k1, k2, _⟩
    · rw [k1] at o
      refine ⟨a, _, rfl, DGet.k h2, ?_⟩
      rw [k2]; exact ⟨_, rfl, o ρ G H _ .refl r1 rfl⟩
    · rw [k1] at o
      refine ⟨a, _, rfl, DGet.k h2, ?_⟩
      rw [k2]; exact ⟨_, rfl, o ρ G H _ .refl r1 rfl⟩
  · exact o.elim
theorem st_ninDct (g : Gd D X W N sc k) (h : SE X W e m) (ho : SE X W o mo) (hm : behindInMarks .NotIn o = false := by with_unfolding_all rfl) : ST X W (.Compare e [.NotIn] [o] pos) (mInD not m mo) := by
  obtain ⟨t, pe, s⟩ := h
  obtain ⟨to, po, so⟩ := ho
  refine ⟨_, pt_cmp (pc_dnotin (hu_of g.room) pe po) hm, fun σ H env st ρ G Q he rl h => ?_⟩
  refine two (R := RB) (fun Q h => s σ H env st ρ G Q he rl h) (fun H st ρ G Q he rl h => so σ H env st ρ G Q he rl h) he rl h fun ρ G st H x y u v r1 q1 q2 o => ?_
  unfold inDF at o
  split at o
  · rename_i z kvs e1 e2
    obtain ⟨a, vs, rfl, h2, h3, h4⟩ := dctV_ok r1 e2 q2
    rw [keyV_ok e1 q1]
    rcases dct_get z h3 h4 with ⟨k1, k2⟩ | ⟨x', v', k1, k2, _⟩
    · rw [k1] at o
      refine ⟨a, _, rfl, DGet.k h2, ?_⟩
      rw [k2]; exact ⟨_, rfl, o ρ G H _ .refl r1 rfl⟩
    · rw [k1] at o
      refine ⟨a, _, rfl, DGet.k h2, ?_⟩
      rw [k2]; exact ⟨_, rfl, o ρ G H _ .refl r1 rfl⟩
  · exact o.elim
theorem se_getDct (g : Gd D X W N sc k) (ho : SE X W o mo) (h : SE X W e m) (hs : NoSl e := by exact fun _ _ => rfl) : SE X W (.Subscript o e pos) (mGetD mo m) := by
  obtain ⟨t, pe, s⟩ := h
  obtain ⟨to, po, so⟩ := ho
  refine ⟨_, pe_dget (hu_of g.room) po pe hs, fun σ H env st ρ G Q he rl h => ?_⟩
  refine two (R := RV X.K X.mg) (fun Q h => so σ H env st ρ G Q he rl h) (fun H st ρ G Q he rl h => s σ H env st ρ G Q he rl h) he rl h fun ρ G st H x y u v r1 q1 q2 o => ?_
  unfold getDF at o
  split at o
  · rename_i z kvs e1 e2
    obtain ⟨a, vs, rfl, h2, h3, h4⟩ := dctV_ok r1 e2 q1
    rw [keyV_ok e1 q2]
    unfold outV at o
    split at o
    · rename_i w hw
      rcases dct_get z h3 h4 with ⟨k1, k2⟩ | ⟨x', v', k1, k2, k3⟩
      · rw [k1] at hw; cases hw
      · rw [k1] at hw; cases hw
        refine ⟨a, v', rfl, ?_, o ρ G H _ .refl r1 k3⟩
        rw [← k2]; exact DGet.k h2
    · exact o.elim
  · exact o.elim
/-- {'a': 1, ..}: texts and constants -/
inductive CPs (X : Cx) (pos : Pos) : List (Option Expr) → List Expr → List (Str × PyData) → Prop
  | nil : CPs X pos [] [] []
  | cons {ke ve : Expr} {x : Str} {v : V} {d : PyData} {ks : List (Option Expr)} {vs : List Expr} {l : List (Str × PyData)} (hk : PE X ke (tC (.str x))) (hv : PE X ve (tC v)) (hd : ∀ G, Dq X.K G v d) (r : CPs X pos ks vs l) : CPs X pos (some ke :: ks) (ve :: vs) ((x, d) :: l)
theorem CPs.pps {ks : List (Option Expr)} {vs : List Expr} {l : List (Str × PyData)} (h : CPs X pos ks vs l) : ∃ trs, ∃ kvs : List (L2.Key × V), PPs X pos ks vs trs ∧ (∀ (σ : List (Option V)) (H : Hp) (Q : List (V × V) → Hp → Prop), Q (kvs.map fun kv => (kV kv.1, kv.2)) H → tPairs trs σ H Q) ∧
    kvs.map (·.1) = l.map (fun p => Sum.inr p.1) ∧ ∀ G, DqAll X.K G (kvs.map (·.2)) (l.map (·.2)) := by
  induction h with
  | nil => exact ⟨[], [], pps_nil, fun σ H Q q => q, rfl, fun _ => .nil⟩
  | @cons ke ve x v d ks vs l hk hv hd r ih =>
    obtain ⟨trs, kvs, h1, h2, h3, h4⟩ := ih
    refine ⟨_, (Sum.inr x, v) :: kvs, pps_cons hk hv h1, fun σ H Q q => ?_, by simp [h3], fun G => .cons (hd G) (h4 G)⟩
    exact h2 σ H _ q
theorem merge_nodup : ∀ (kvs acc : List (L2.Key × V)), ((acc ++ kvs).map (·.1)).Nodup → mergeK acc kvs = acc ++ kvs
  | [], acc, _ => by simp [mergeK]
  | (k, v) :: r, acc, h => by
    have hn : (acc.any fun kv => decide (kv.1 = k)) = false := by
      rw [List.any_eq_false]
      intro p hp q
      have hq := of_decide_eq_true q
      rw [List.map_append, List.nodup_append] at h
      exact h.2.2 p.1 (List.mem_map_of_mem hp) k (by simp) hq
    show mergeK (putK acc k v) r = acc ++ (k, v) :: r
    unfold putK
    rw [hn, if_neg Bool.false_ne_true, merge_nodup r (acc ++ [(k, v)]) (by simpa using h)]
    simp
def mDct (l : List (Str × PyData)) : ME := fun _ st => .ok (.c st.length) (st ++ [.dct (l.map fun p => (Sum.inr p.1, .d p.2))])
theorem se_dct {ks : List (Option Expr)} {vs : List Expr} {l : List (Str × PyData)} (h : CPs X pos ks vs l) (hn : (l.map (·.1)).Nodup) (hall : ks.all (·.isSome) = true) (hl : ks.length = vs.length) (h0 : ks ≠ []) (h15 : ks.length ≤ 15) (h15' : l.length ≤ 15) : SE X W (.Dict ks vs pos) (mDct l) := by
  obtain ⟨trs, kvs, h1, h2, h3, h4⟩ := h.pps
  refine ⟨_, pe_disp h1 hall hl h0 h15, fun σ H env st ρ G Q he hr o => fun p hp => ?_⟩
  refine h2 σ _ _ ⟨upd_same, kvs, rfl, ?_, ?_⟩
  · have := congrArg List.length h3
    simp only [List.length_map] at this
    omega
  · have nd : (kvs.map (·.1)).Nodup := by
      rw [h3, show (l.map fun p => (Sum.inr p.1 : L2.Key)) = (l.map (·.1)).map Sum.inr by simp]
      unfold List.Nodup at hn ⊢
      rw [List.pairwise_map]
      exact hn.imp fun hab q => hab (Sum.inr.inj q)
    have em : mergeK [] kvs = kvs := merge_nodup kvs [] (by simpa using nd)
    rw [em]
    have e2 : upd (upd H p (.dK [])) p (.dK kvs) = upd H p (.dK kvs) := by
      funext b
      by_cases hb : b = p
      · subst hb; rw [upd_same, upd_same]
      · rw [upd_ne hb, upd_ne hb, upd_ne hb]
    rw [e2]
    refine o (ρ ++ [p]) G _ (.ref p) (.newC hp) ((hr.loose hp).takeC (hr.free hp) (hr.freeG hp) ⟨kvs, upd_same, by rw [h3]; simp, ?_⟩) (.c (by rw [← hr.len]; simp))
    have := RVs.of_dq (mg := X.mg) (ρ := ρ ++ [p]) (h4 G)
    rw [List.map_map] at this ⊢
    exact this
/-! ### split, into a cell -/
def splitG (cell : Bool) (a : Str) : Val → Sto → Out Val := fun y st => match y with
  | .d (.str b) => if b.length ≠ 0 ∧ a.length + 2 ≤ LINE then lstR cell ((Txt.split a b).map fun x => .d (.str x)) st else .bad
  | _ => .bad
def spG (cell : Bool) (m : ME) (env : Env) (v : Val) (st : Sto) : Out Val := match v with
  | .d (.str a) => (m env st).bind (splitG cell a)
  | _ => .bad
def mSplitC (cell : Bool) (mo m : ME) : ME := fun env st => (mo env st).bind fun v st1 => spG cell m env v st1
theorem se_splitC (cell : Bool) {apos : Pos} (ho : SE X W o mo) (ha : SE X W e m) (hs : starEach [e] X.env = [(false, eval e X.env)] := by rfl) (hbase : attributeBase o "split" X.env (eval o X.env) = eval o X.env := by rfl) (hline : (apos.endLine == pos.line) = true := by rfl) :
    SE X W (.Call (.Attribute o "split" apos) [e] [] pos) (mSplitC cell mo m) := by
  obtain ⟨to, po, so⟩ := ho
  obtain ⟨ta, pa, sa⟩ := ha
  refine ⟨_, pe_split po pa hs hbase hline, fun σ H env st ρ G Q he rl h => ?_⟩
  refine so σ H env st ρ G _ he rl ((Ok.bind (R := RV X.K X.mg) h).imp fun u H1 ⟨x, ρ1, G1, st1, e1, r1, q1, o1⟩ => ?_)
  unfold spG at o1
  split at o1
  · rename_i z
    rw [rv_str q1]
    refine ⟨⟨z, rfl⟩, sa σ H1 env st1 ρ1 G1 _ (he.ext e1) r1 ((Ok.bind (R := RV X.K X.mg) o1).imp fun v H2 ⟨y, ρ2, G2, st2, e2, r2, q2, o2⟩ => ?_)⟩
    unfold splitG at o2
    split at o2
    · rename_i w
      split at o2
      · rename_i hl
        rw [rv_str q2]
        refine ⟨z, w, rfl, rfl, by rw [beq_eq_false_iff_ne]; exact hl.1, by rw [line_eq]; exact hl.2, fun p hp => ?_⟩
        refine lstR_ok r2 hp ?_ o2
        have : RVs X.K X.mg ρ2 G2 (((Txt.split z w).map PyData.str).map Val.d) ((Txt.split z w).map V.str) := RVs.of_dq (dq_txs _)
        rw [List.map_map] at this
        exact this
      · exact o2.elim
    · exact o2.elim
  · exact o1.elim
end
end Z
namespace Z
open PySem PySem.Spec PyProof.Rows L2
section
variable {D : Wd} {X : Cx} {W : WX} {N : List Str} {sc : Scp} {k : Nat} {o e : Expr} {mo m : ME} {apos pos : Pos}
/-! ### list.count -/
def rLCnt (K : PySem.W.Frag) : V → List V → Hp → VK → Prop := fun x xs H Q => ∃ y ds d, xs = [y] ∧ Dp K H x (.list ds) ∧ Dp K H y d ∧ PyData.plainAll ds = true ∧ d.plain = true ∧ d.depth ≤ 40 ∧ Q (.int ((ds.countP fun z => PyData.eqv z d : Nat) : Int)) H
theorem mt_lcount (hu : X.A.units + 65 < cLine) : MtR X "list.count" (rLCnt X.K) := by
  intro pins s σ H x xs v us Q I rx rxs h
  obtain ⟨y, ds, d, rfl, hx, hy, p1, p2, p3, q⟩ := h
  cases rxs with
  | cons ry rt =>
    rename_i uy ut
    cases rt
    obtain ⟨bs, r1⟩ := Dp.reads I d y uy hy ry
    cases hx with
    | lst hs ha =>
      cases rx
      obtain ⟨its, rv, ⟨o, n, ho, hc, _, hd⟩, hlen⟩ := I.list hs
      obtain ⟨as, h4⟩ := Dp.readsAll I ds _ its ha rv
      have hr : X.A.units + 1 + min (PyData.depthAll ds) d.depth < cLine := by omega
      exact SeqAt.count_list_data ⟨o, ho, hc, n, hd⟩ (by simpa using h4) r1 p1 p2 hr ⟨.int ((ds.countP fun z => PyData.eqv z d : Nat) : Int), H, I.tok _, ⟨_, rfl⟩, q⟩
def mLCnt (mo m : ME) : ME := fun env st => (mo env st).bind fun x st1 => match x with
  | .d (.list ds) => (m env st1).bind (tcntD ds)
  | _ => .bad
theorem se_lcount (g : Gd D X W N sc k) (ho : SE X W o mo) (ha : SE X W e m) (hbase : attributeBase o "count" X.env (eval o X.env) = eval o X.env := by rfl)
    (hfew : ((backTo pos (starEach [e] X.env)).all (fun x => !x.1) && (backToKw pos (keywordEach [] X.env)).all (fun x => x.1.isSome) && decide (([e] : List Expr).length + ([] : List Keyword).length + (if ([] : List Keyword).isEmpty then 0 else 1) < 30)) = true := by rfl)
    (hline : (apos.endLine == pos.line) = true := by rfl) (hs : starEach [e] X.env = (false, eval e X.env) :: starEach [] X.env := by rfl) : SE X W (.Call (.Attribute o "count" apos) [e] [] pos) (mLCnt mo m) := by
  obtain ⟨to, po, so⟩ := ho
  obtain ⟨ta, pa, sa⟩ := ha
  refine ⟨_, pe_bm F.plainAttrs_list F.slot_list_count F.type_list_count (mt_lcount (room65 g.room)) po (pa_cons pa pa_nil hs) hbase hfew hline hs rfl, fun σ H env st ρ G Q he rl h => ?_⟩
  refine so σ H env st ρ G _ he rl ((Ok.bind (R := RV X.K X.mg) h).imp fun u H1 ⟨x, ρ1, G1, st1, e1, r1, q1, o1⟩ => ?_)
  split at o1
  · rename_i ds
    have ty : tyV X.K "list" u H1 := by
      cases rv_dat q1 with
      | lst g _ => exact .inl ⟨rfl, _, .inl (.inl (r1.sub _ _ g))⟩
    refine ⟨ty, sa σ H1 env st1 ρ1 G1 _ (he.ext e1) r1 ((Ok.bind (R := RV X.K X.mg) o1).imp fun v H2 ⟨y, ρ2, G2, st2, e2, r2, q2, o2⟩ => ?_)⟩
    unfold tcntD at o2
    split at o2
    · split at o2
      · rename_i d hc
        rw [Bool.and_eq_true, Bool.and_eq_true] at hc
        exact ⟨v, ds, d, rfl, (dq_mono r2.sub (rv_dat (e2.rv q1))).dp, (dq_mono r2.sub (rv_dat q2)).dp, hc.1.1, hc.1.2, of_decide_eq_true hc.2, ok_ret r2 (.int _) o2⟩
      · exact o2.elim
    · exact o2.elim
  · exact o1.elim
end
end Z

namespace Z
open PySem PySem.Spec PyProof.Rows L2
structure SupI where
  nm : Str
  qual : Str
  f : Str
  msg : Str
  ps : PySem.SupX.Ps
abbrev SupV : Type := Option (Str × Str × Arguments × FuncBody × Scope × Addr × List Str × Addr)
def supO (K : PySem.W.Frag) (i : SupI) : SupV := match K.lookup (He.ma K (He.ga K i.nm) "__init__") with
  | some ⟨_, _, .func fd, _⟩ => some (fd.name, fd.qualname, fd.params, fd.body, fd.scope, fd.globals, fd.closure.map (·.1), fd.builtins)
  | _ => none
def SupI.val (i : SupI) : SupV := some ("__init__", i.qual, PySem.SupX.iA i.f i.ps.p1 i.ps.p2, .stmts (PySem.SupX.iB i.f i.msg i.ps.a1 i.ps.a2 i.ps.a3 i.ps.a4 i.ps.a5 i.ps.a6 i.ps.b1 i.ps.b2 i.ps.b3 i.ps.b4), PySem.SupX.iS i.f, mainGlobals, [PySem.Str.ofString "__class__"], builtinsNs)
def clsVE (K : PySem.W.Frag) (C : Addr) : Bool := match K.lookup C with
  | some ⟨.type "type", _, .cls cd, sl⟩ => (match cd.mro, sl.toList with
    | .ref C' :: bm, [_, _, _, _, some (.builtin n), _] => C' == C && (n == "ValueError.__new__" && (!cd.hasDel && (cd.hasDict && PySem.HandSPX.refsVE bm)))
    | _, _ => false)
  | _ => false
def supC (file : Str) (K : PySem.W.Frag) (C : Addr) (fd : FuncData) : Bool := match fd.defaults, fd.kwdefaults, fd.code, fd.closure with
  | .none, .none, .ref cda, [(_, cc)] => PySem.W.codeIn K (.ref cda) fd.qualname && ((match K.lookup cda with
      | some ⟨_, _, .fields vs, _⟩ => (match (vs[2]? : Option Value) with
        | some (Value.str fl _) => file == fl
        | _ => false)
      | _ => false) && (match K.lookup cc with
      | some ⟨_, _, .cell (some (.ref C')), _⟩ => C' == C
      | _ => false))
  | _, _, _, _ => false
def supFn (file : Str) (K : PySem.W.Frag) (C f1 : Addr) : Bool := match K.lookup f1 with
  | some ⟨_, _, .func fd, _⟩ => supC file K C fd
  | _ => false
def supB (file : Str) (K : PySem.W.Frag) (i : SupI) : Bool :=
  He.eqO (PySem.W.nsIn K mainGlobals i.nm) (some (some (.ref (He.ga K i.nm)))) && (He.eqO (PySem.W.nsIn K mainGlobals "super") (some none) && (clsVE K (He.ga K i.nm) && (He.eqO (PySem.W.ks_superIn K (He.ga K i.nm) (He.ga K i.nm) "__init__") (some (some (.builtin "ValueError.__init__"))) &&
  (decide (PySem.W.subIn K (.ref (He.ga K i.nm)) (.type "ValueError") = some true) && (decide (PySem.W.mroIn K (He.ga K i.nm) (.ref (He.ga K i.nm)) = some true) && (He.eqO (PySem.W.nsIn K cStatics "thirdparty.any") (some none) &&
  (He.eqO (PySem.W.findIn K (.ref (He.ga K i.nm)) "__setattr__") (some (some (.builtin "object.__setattr__"))) && (He.eqO (PySem.W.findIn K (.ref (He.ga K i.nm)) i.f) (some none) && (He.eqO (PySem.W.findIn K (.ref (He.ga K i.nm)) "__init__") (some (some (.ref (He.ma K (He.ga K i.nm) "__init__")))) &&
  (decide (PySem.W.typeIn K (.ref (He.ma K (He.ga K i.nm) "__init__")) = some (.type "function")) && (PySem.W.keepIn K (.ref (He.ga K i.nm)) && (decide (PySem.W.subIn K (.ref (He.ga K i.nm)) (.type "BaseException") = some true) && (decide (PySem.W.typeIn K (.ref (He.ga K i.nm)) = some (.type "type")) &&
  supFn file K (He.ga K i.nm) (He.ma K (He.ga K i.nm) "__init__"))))))))))))))
theorem clsVE_ok {K : PySem.W.Frag} {C : Addr} (q : clsVE K C = true) : ∃ nm q N bs bm sn sub ab col dd k0 k1 k2 k3 k5, K.lookup C = some (excClassObj nm q C N bs bm true sn sub ab col dd k0 k1 k2 k3 k5 "ValueError.__new__") ∧ PySem.HandSPX.refsVE bm = true := by
  unfold clsVE at q
  split at q
  · rename_i dd cd sl ho
    split at q
    · rename_i C' bm k0 k1 k2 k3 n k5 hm hs
      simp only [Bool.and_eq_true, beq_iff_eq, Bool.not_eq_true'] at q
      obtain ⟨rfl, rfl, hdel, hdict, hr⟩ := q
      obtain ⟨nm, bs, mro, ns, qn, hd, sn, sub, ab, col, del⟩ := cd
      dsimp only at hm hdel hdict
      subst hm hdel hdict
      have hsl : sl = #[k0, k1, k2, k3, some (.builtin "ValueError.__new__"), k5] := by
        obtain ⟨l⟩ := sl
        simp only at hs
        rw [hs]
      subst hsl
      exact ⟨nm, qn, ns, bs, bm, sn, sub, ab, col, dd, k0, k1, k2, k3, k5, ho, hr⟩
    · cases q
  · cases q
structure SupI.Ok (i : SupI) : Prop where
  hl : (i.ps.a3.endLine == i.ps.a5.line) = true
  ks : (PySem.SupX.iS i.f).names.lookup ("super" : Str) = some .globalImplicit
  kc : (PySem.SupX.iS i.f).names.lookup ("__class__" : Str) = some .free
  kf : (PySem.SupX.iS i.f).names.lookup i.f = some .local
  nf : (i.f == ("self" : Str)) = false
  ncl : (i.f == ("__debug__" : Str)) = false
  bn : ∀ (q : Str) (p1 p2 : Pos) (body : List Stmt) (cc : Addr) (doc pm : Value) (an : Option Addr) (cd ct x v : Value), bindArgs (PySem.W.fnX "__init__" q (PySem.SupX.iA i.f p1 p2) body (PySem.SupX.iS i.f) [("__class__", cc)] .none .none doc pm an cd ct) ⟨[x, v], []⟩ = pure [(PySem.Str.ofString "self", x), (i.f, v)]
theorem supB_ok {P : Program} {K : PySem.W.Frag} {h : Heap} {mg : Str → Option Value} {i : SupI} {file : Str} (X : K.In h) (G : h.Ns mainGlobals mg) (e : supO K i = i.val) (c : supB file K i = true) (st : i.Ok) (hf : P.main.file = file) (ht : (P.main.scope.names.lookup ("super" : Str)).isSome = false) :
    ∃ C fI, PySem.SupX.SupTxt P K mg i.nm i.f i.msg i.ps C fI := by
  obtain ⟨c1, c⟩ := He.ba c
  obtain ⟨c2, c⟩ := He.ba c
  obtain ⟨c3, c⟩ := He.ba c
  obtain ⟨c4, c⟩ := He.ba c
  obtain ⟨c5, c⟩ := He.ba c
  obtain ⟨c6, c⟩ := He.ba c
  obtain ⟨c7, c⟩ := He.ba c
  obtain ⟨c8, c⟩ := He.ba c
  obtain ⟨c9, c⟩ := He.ba c
  obtain ⟨c10, c⟩ := He.ba c
  obtain ⟨c11, c⟩ := He.ba c
  obtain ⟨c12, c⟩ := He.ba c
  obtain ⟨c13, c⟩ := He.ba c
  obtain ⟨c14, c⟩ := He.ba c
  refine ⟨He.ga K i.nm, He.ma K (He.ga K i.nm) "__init__", { hl := st.hl, gC := PySem.W.mg_of X G (He.eqO_ok c1), gS := PySem.W.mg_none_of X G (He.eqO_ok c2), cls := clsVE_ok c3, sup := He.eqO_ok c4, suB := of_decide_eq_true c5, suC := of_decide_eq_true c6, opq := He.eqO_ok c7, sa := He.eqO_ok c8, noN := He.eqO_ok c9, iC := He.eqO_ok c10, tC := of_decide_eq_true c11, kC := c12, exC := of_decide_eq_true c13, tyC := of_decide_eq_true c14, ks := st.ks, kc := st.kc, kf := st.kf, nf := st.nf, ncl := st.ncl, bn := st.bn, top := ht, fn := ?_ }⟩
  unfold supFn at c
  unfold supO at e
  cases q : K.lookup (He.ma K (He.ga K i.nm) "__init__") with
  | none => rw [q] at c; cases c
  | some o =>
    obtain ⟨oc, od, dt, osl⟩ := o
    rw [q] at c e
    cases dt with
    | func fd =>
      obtain ⟨n1, n2, n3, n4, n5, n6, n7, n8, n9, n10, n11, n12, n13, n14, n15⟩ := fd
      have e2 : (some (n1, n2, n3, n4, n5, n6, n7.map (·.1), n15) : SupV) = i.val := e
      unfold SupI.val at e2
      simp only [Option.some.injEq, Prod.mk.injEq] at e2
      obtain ⟨h1, h2, h3, h4, h5, h6, h7, h8⟩ := e2
      subst h1 h2 h3 h4 h5 h6 h8
      have c' : supC file K (He.ga K i.nm) _ = true := c
      unfold supC at c'
      dsimp only at c'
      split at c'
      · rename_i cda x cc
        obtain ⟨d1, d2⟩ := He.ba c'
        obtain ⟨d3, d4⟩ := He.ba d2
        split at d3
        · rename_i ccl cdd vs ccs hcode
          split at d3
          · rename_i fl tf hvs
            split at d4
            · rename_i cl cld C' csl hcell
              have eC : C' = He.ga K i.nm := beq_iff_eq.mp d4
              subst eC
              simp only [List.map_cons, List.map_nil, List.cons.injEq, and_true] at h7
              subst h7
              exact ⟨oc, od, n10, n11, n12, n14, osl, _, cc, cda, ccl, cl, cdd, cld, ccs, csl, vs, fl, tf, rfl, d1, hcode, hvs, by rw [hf]; exact d3, hcell⟩
            · cases d4
          · cases d3
        · cases d3
      · cases c'
    | _ => cases c
def uV : Value → Option V
  | .none => some .non
  | .bool b => some (.bl b)
  | .int i _ => some (.int i)
  | .str x _ => some (.str x)
  | .bytes b _ => some (.byt b)
  | .float b _ => some (.flt b)
  | .ref a => some (.ref a)
  | .type n => some (.ty n)
  | _ => none
theorem uV_of {v : V} {u : Value} (h : RelV v u) : uV u = some v := by
  cases v with
  | non => have h : u = .none := h; subst h; rfl
  | bl b => have h : u = .bool b := h; subst h; rfl
  | int i => obtain ⟨t, h⟩ := (h : ∃ t, u = .int i t); subst h; rfl
  | str i => obtain ⟨t, h⟩ := (h : ∃ t, u = .str i t); subst h; rfl
  | byt i => obtain ⟨t, h⟩ := (h : ∃ t, u = .bytes i t); subst h; rfl
  | flt i => obtain ⟨t, h⟩ := (h : ∃ t, u = .float i t); subst h; rfl
  | ref a => have h : u = .ref a := h; subst h; rfl
  | ty n => have h : u = .type n := h; subst h; rfl
theorem relV_fun {v v' : V} {u : Value} (h : RelV v u) (h' : RelV v' u) : v = v' := Option.some.inj ((uV_of h).symm.trans (uV_of h'))
/-! ### checks -/
def gloB (K : PySem.W.Frag) (x : Str) : Bool := He.eqO (PySem.W.nsIn K mainGlobals x) (some (some (.ref (He.ga K x))))
def fldB (x f : Str) (K : PySem.W.Frag) : Bool := gloB K x && (xfB K (He.ga K x) && He.eqO (PySem.W.findIn K (.ref (He.ga K x)) f) (some none))
def hdB (x : Str) (tbl : List (Str × Bool)) (K : PySem.W.Frag) : Bool := gloB K x && tbl.all fun p => gloB K p.1 && decide (PySem.W.exmOne K (.ref (He.ga K p.1)) (.ref (He.ga K x)) = some p.2)
def kxB (K : PySem.W.Frag) (C : Addr) : Bool := (PySem.W.clsIn K C).isSome && (He.eqO (PySem.W.findIn K (.ref C) "__getattribute__") (some (some (.builtin "BaseException.__getattribute__"))) && (He.eqO (PySem.W.findIn K (.ref C) "__getattr__") (some none) && (decide (PySem.W.subIn K (.ref C) (.type "BaseException") = some true) &&
  (He.eqO (PySem.W.findIn K (.ref C) "__class__") (some (some (.builtin "object.__class__"))) && (He.eqO (PySem.W.specialIn K (.builtin "object.__class__") "__get__") (some (some (.builtin "getset_descriptor.__get__"))) && (decide (PySem.W.takesIn K (.builtin "object.__class__") = some true) && decide (PySem.W.mroIn K C (.type "object") = some true)))))))
def isB (cv : PySem.W.Frag → Value) (tbl : List (Str × Bool)) (K : PySem.W.Frag) : Bool := tbl.all fun p => gloB K p.1 && (kxB K (He.ga K p.1) && decide (PySem.W.kitOne K (.ref (He.ga K p.1)) (cv K) = some p.2))
def clsB (T : Str) (tbl : List (Str × Bool)) (K : PySem.W.Frag) : Bool := gloB K T && isB (fun K => .ref (He.ga K T)) tbl K
def bltB (T : Str) (n : String) (tbl : List (Str × Bool)) (K : PySem.W.Frag) : Bool := He.eqO (PySem.W.nsIn K mainGlobals T) (some none) && isB (fun _ => .type n) tbl K
def refB (u : Value) (a : Addr) : Bool := match u with
  | .ref b => b == a
  | _ => false
def okV (K : PySem.W.Frag) : Val → Value → Bool
  | .d d, u => okD K d u
  | .g f, u => gloB K f && refB u (He.ga K f)
  | _, _ => false
def valB (x : Str) (tbl : List (Str × Val)) (K : PySem.W.Frag) : Bool := gloB K x && tbl.all fun p => match PySem.W.nsIn K (He.ga K x) p.1 with
  | some (some u) => okV K p.2 u
  | _ => false
section
variable {D : Wd} {h : Heap} (X : D.K.In h) (G : h.Ns mainGlobals D.mg)
include X G
theorem gloB_ok {x : Str} (c : gloB D.K x = true) : D.mg x = some (.ref (He.ga D.K x)) := PySem.W.mg_of X G (He.eqO_ok c)
theorem fldB_ok {x f : Str} (c : fldB x f D.K = true) : FldF D x f := by
  obtain ⟨c1, c⟩ := He.ba c
  obtain ⟨c2, c3⟩ := He.ba c
  exact ⟨_, gloB_ok X G c1, xfB_ok c2, He.eqO_ok c3⟩
theorem hdB_ok {x : Str} {tbl : List (Str × Bool)} (c : hdB x tbl D.K = true) : HdT D x tbl := by
  obtain ⟨c1, c⟩ := He.ba c
  refine ⟨_, gloB_ok X G c1, fun p hp => ?_⟩
  obtain ⟨d1, d2⟩ := He.ba (List.all_eq_true.mp c p hp)
  exact ⟨_, gloB_ok X G d1, of_decide_eq_true d2⟩
omit X G in
theorem kxB_ok {K : PySem.W.Frag} {C : Addr} (c : kxB K C = true) : KxC K C := by
  obtain ⟨c1, c⟩ := He.ba c
  obtain ⟨c2, c⟩ := He.ba c
  obtain ⟨c3, c⟩ := He.ba c
  obtain ⟨c4, c⟩ := He.ba c
  obtain ⟨c5, c⟩ := He.ba c
  obtain ⟨c6, c⟩ := He.ba c
  obtain ⟨c7, c8⟩ := He.ba c
  exact ⟨c1, He.eqO_ok c2, He.eqO_ok c3, of_decide_eq_true c4, He.eqO_ok c5, He.eqO_ok c6, of_decide_eq_true c7, of_decide_eq_true c8⟩
theorem isB_ok {cv : PySem.W.Frag → Value} {tbl : List (Str × Bool)} (c : isB cv tbl D.K = true) : ∀ p ∈ tbl, IsC D (cv D.K) p.1 p.2 := fun p hp => by
  obtain ⟨d1, d⟩ := He.ba (List.all_eq_true.mp c p hp)
  obtain ⟨d2, d3⟩ := He.ba d
  exact ⟨_, gloB_ok X G d1, kxB_ok d2, of_decide_eq_true d3⟩
theorem clsB_ok {T : Str} {tbl : List (Str × Bool)} (c : clsB T tbl D.K = true) : ClsT D T tbl := by
  obtain ⟨c1, c2⟩ := He.ba c
  exact ⟨_, gloB_ok X G c1, isB_ok X G c2⟩
theorem bltB_ok {T : Str} {n : String} {tbl : List (Str × Bool)} (c : bltB T n tbl D.K = true) (hb : bootBuiltins T = some (.type n)) : BltT D T n tbl := by
  obtain ⟨c1, c2⟩ := He.ba c
  exact ⟨PySem.W.mg_none_of X G (He.eqO_ok c1), hb, isB_ok X G c2⟩
theorem okV_ok {x : Val} {u : Value} (c : okV D.K x u = true) : ∃ v, RelV v u ∧ ∀ ρ G', RV D.K D.mg ρ G' x v := by
  cases x with
  | d d =>
    have c : okD D.K d u = true := c
    obtain ⟨v, r, _⟩ := okD_dq (G := fun _ => none) c
    refine ⟨v, r, fun ρ G' => .d ?_⟩
    obtain ⟨v', r', q⟩ := okD_dq (G := G') c
    rw [← relV_fun r' r]; exact q
  | g f =>
    obtain ⟨c1, c2⟩ := He.ba (show (gloB D.K f && refB u (He.ga D.K f)) = true from c)
    cases u with
    | ref a =>
      have e : a = He.ga D.K f := beq_iff_eq.mp c2
      subst e
      exact ⟨.ref _, rfl, fun ρ G' => .g (gloB_ok X G c1)⟩
    | _ => cases c2
  | c n => cases c
  | t n => cases c
  | s n => cases c
  | p n => cases c
theorem valB_ok {x : Str} {tbl : List (Str × Val)} (c : valB x tbl D.K = true) {a : Addr} (hg : D.mg x = some (.ref a)) : ∀ p ∈ tbl, ∃ u v, PySem.W.nsIn D.K a p.1 = some (some u) ∧ RelV v u ∧ ∀ ρ G, RV D.K D.mg ρ G p.2 v := by
  obtain ⟨c1, c2⟩ := He.ba c
  have e := gloB_ok X G c1
  rw [hg] at e
  cases e
  intro p hp
  have d := List.all_eq_true.mp c2 p hp
  split at d
  · rename_i u hu
    obtain ⟨v, r, q⟩ := okV_ok X G d
    exact ⟨u, v, hu, r, q⟩
  · cases d
end
theorem dicW_tab {K : PySem.W.Frag} {a : Addr} {l : List (Option (Str × Int))} (h : He.dicW K a = some l) : ∃ es n, K.lookup a = some ⟨.type "dict", none, .dict es n, #[]⟩ ∧ es.toList.map He.keyOf = l ∧ (a == sysModules) = false := by
  unfold He.dicW at h
  cases q : K.lookup a with
  | none => rw [q] at h; cases h
  | some o =>
    obtain ⟨oc, od, dt, osl⟩ := o
    rw [q] at h
    cases oc with
    | type c =>
      cases od with
      | none =>
        cases dt with
        | dict es n =>
          have h1 : (match decide (c = "dict") && (osl.isEmpty && !(a == sysModules)) with
            | true => some (es.toList.map He.keyOf)
            | false => none) = some l := h
          cases z : decide (c = "dict") && (osl.isEmpty && !(a == sysModules)) with
          | false => rw [z] at h1; cases h1
          | true =>
            rw [z] at h1
            obtain ⟨z1, z2⟩ := He.ba z
            obtain ⟨z3, z4⟩ := He.ba z2
            have e1 : c = "dict" := of_decide_eq_true z1
            have e2 : osl = #[] := Array.isEmpty_iff.mp z3
            subst e1 e2
            exact ⟨es, n, rfl, Option.some.inj h1, by simpa using z4⟩
        | _ => cases h
      | some b => cases dt <;> cases h
    | _ => cases od <;> cases dt <;> cases h
/-! ### the hook -/
structure HdJ where
  fa : List He.Fa
  fn : List He.DefD
  ts : List (Str × List Str)
  cs : List (Str × PyData)
  bs : List (PySem.W.Frag → Bool)
  ss : List SupI
def HdJ.tabs (i : HdJ) : List He.Tab := i.ts.map fun t => ((fun K => He.ga K t.1), t.2)
abbrev AlJ : Type := (He.AlT × List Bool) × (List Bool × List SupV)
def obsJ (i : HdJ) (K : PySem.W.Frag) : AlJ := ((He.obsT i.fa i.fn i.tabs K, i.cs.map (okC K)), (i.bs.map fun f => f K, i.ss.map (supO K)))
def valJ (i : HdJ) (w : World) : AlJ := ((He.valT i.fn i.tabs w, i.cs.map fun _ => true), (i.bs.map fun _ => true, i.ss.map SupI.val))
def obsJG (n : Nat) (i : HdJ) (g : Addr → Option Obj) : AlJ := obsJ i (He.frG g (cStatics :: He.asD g n))
def SaysJ (i : HdJ) (w : World) (K : PySem.W.Frag) : Prop := obsJ i K = valJ i w
def hookJ (n : Nat) (i : HdJ) : PySem.W.Hook where
  α := AlJ
  obs := fun s => obsJG n i s.heap.get?
  val := valJ i
  says := fun w h => ∃ K : PySem.W.Frag, K.In h ∧ SaysJ i w K
  of := fun _ _ e => ⟨_, He.frG_in, e⟩
  keeps := fun _ _ _ ⟨K, a, b⟩ k => ⟨K, a.keeps k, b⟩
theorem obsJG_eq {n : Nat} {i : HdJ} {g : Addr → Option Obj} {s : Shared} (h : ∀ a, g a = s.heap.get? a) : obsJG n i g = (hookJ n i).obs s := by
  rw [show g = s.heap.get? from funext h] <;> rfl
section
variable {i : HdJ} {w : World} {K : PySem.W.Frag}
theorem SaysJ.t (c : SaysJ i w K) : He.SaysT i.fa i.fn i.tabs w K := congrArg (fun z : AlJ => z.1.1) c
theorem SaysJ.c (c : SaysJ i w K) (j : Nat) {x : Str × PyData} (h : i.cs[j]? = some x := by rfl) : okC K x = true := by
  have e : i.cs.map (okC K) = i.cs.map fun _ => true := congrArg (fun z : AlJ => z.1.2) c
  have := congrArg (fun l => l[j]?) e
  simpa [h] using this
theorem SaysJ.b (c : SaysJ i w K) (j : Nat) {f : PySem.W.Frag → Bool} (h : i.bs[j]? = some f := by rfl) : f K = true := by
  have e : (i.bs.map fun f => f K) = i.bs.map fun _ => true := congrArg (fun z : AlJ => z.2.1) c
  have := congrArg (fun l => l[j]?) e
  simpa [h] using this
theorem SaysJ.s (c : SaysJ i w K) (j : Nat) {x : SupI} (h : i.ss[j]? = some x := by rfl) : supO K x = x.val := by
  have e : i.ss.map (supO K) = i.ss.map SupI.val := congrArg (fun z : AlJ => z.2.2) c
  have := congrArg (fun l => l[j]?) e
  simpa [h] using this
theorem SaysJ.tab (c : SaysJ i w K) (j : Nat) {t : Str × List Str} (h : i.ts[j]? = some t := by rfl) : He.dicW K (He.ga K t.1) = some (He.keysIn w.params t.2) := by
  have e : i.tabs.map (fun t => He.dicW K (t.1 K)) = i.tabs.map fun t => some (He.keysIn w.params t.2) := congrArg (fun z : AlJ => z.1.1.2) c
  unfold HdJ.tabs at e
  rw [List.map_map, List.map_map] at e
  have := congrArg (fun l => l[j]?) e
  simpa [h] using this
theorem SaysJ.tabF (c : SaysJ i w K) {P : Program} {base : Heap} {mg : Str → Option Value} (j : Nat) {t : Str × List Str} (hg : mg t.1 = some (.ref (He.ga K t.1))) (h : i.ts[j]? = some t := by rfl) : TabF ⟨P, w, K, mg, base⟩ t.1 t.2 := by
  obtain ⟨es, n, h1, h2, h3⟩ := dicW_tab (c.tab j h)
  exact ⟨_, es, n, hg, h1, h2, h3⟩
theorem SaysJ.tabV (c : SaysJ i w K) {P : Program} {base : Heap} {mg : Str → Option Value} {hp : Heap} (X : K.In hp) (G : hp.Ns mainGlobals mg) (j : Nat) {t : Str × List Str} {tbl : List (Str × Val)} (hg : mg t.1 = some (.ref (He.ga K t.1))) (hv : valB t.1 tbl K = true) (h : i.ts[j]? = some t := by rfl) : TabV ⟨P, w, K, mg, base⟩ t.1 tbl := by
  obtain ⟨es, n, h1, h2, h3⟩ := dicW_tab (c.tab j h)
  exact ⟨_, es, n, hg, h1, He.keysLit_of h2, valB_ok (D := ⟨P, w, K, mg, base⟩) X G hv hg⟩
end
end Z

namespace L2
open PySem PySem.Spec PyProof.Rows
section
variable {X : Cx} {CX : CXT} {k : Nat} {f C : Addr} {fd : FuncData} {ps : List Str} {sp : Sp} {E : St → XK} {x m : Str} {p pos apos : Pos} {e o : Expr} {es : List Expr} {ta : TE} {t : TA}
def tMethE (C : Addr) (m : Str) (sp : Sp) (E : St → XK) (ta : TE) (t : TA) : TE := fun σ H Q => ta σ H fun x H1 => ∃ a dx fs, x = .ref a ∧ H1 a = some (.ins C dx fs) ∧ fs.lookup m = none ∧ t σ H1 fun vs H2 => sp (x :: vs) H2 Q (E σ)
theorem pe_methE {pl : Sem Bool} (he : PE X o ta) (c : Cls X.K C) (hm : Meth X.K C m f) (F : FnOk X.prog X.w X.K X.mg X.base CX k f fd ps sp) (hr : Room k X.A) (hb : Binds X.K fd ps []) (hx : ∀ σ, PassesAt CX X σ (E σ)) (ha : PA X (e :: es) t)
    (hst : starEach (e :: es) X.env = (false, eval e X.env) :: starEach es X.env := by rfl) (hpl : (backTo pos (starEach es X.env)).any (·.1) = false := by rfl)
    (ht : eval (.Call (.Attribute o m apos) (e :: es) [] pos) X.env = (do
      let ov ← eval o X.env
      standAt apos.atName
      let (f, first) ← holding [ov] (getMethod ov m pl)
      callWith pos f first (backTo pos (starEach (e :: es) X.env)) (backToKw pos (keywordEach [] X.env))) := by rfl) :
    PE X (.Call (.Attribute o m apos) (e :: es) [] pos) (tMethE C m sp E ta t) := by
  refine ⟨fun pins s σ H Q I h => ?_⟩
  refine PySem.W.methodCall_KW (pl := pl) (thn (he.run pins s σ H _ I h) fun u s1 ⟨x, H1, I1, rx, a, dx, fs, ex, ea, l, q⟩ => ?_) ht
  subst ex
  obtain rfl : u = Value.ref a := rx
  refine getmeth_ok I1 ea c hm l ?_
  refine PySem.W.callWith_K (first := [.ref a]) (h₀ := X.base) I.ok.mod.kin hm.kp (thn (ha.run pos pins s1 σ H1 _ I1 q) fun us s2 ⟨vs, H2, I2, r, q2⟩ => ⟨I2.kIn, ?_⟩) hst hpl
  exact run_fnS (us := .ref a :: us) (vs := .ref a :: vs) F hr hb (hx σ) I2 (.cons rfl r) q2
theorem pe_methE0 {pl : Sem Bool} (he : PE X o ta) (c : Cls X.K C) (hm : Meth X.K C m f) (F : FnOk X.prog X.w X.K X.mg X.base CX k f fd ps sp) (hr : Room k X.A) (hb : Binds X.K fd ps []) (hx : ∀ σ, PassesAt CX X σ (E σ))
    (ht : eval (.Call (.Attribute o m apos) [] [] pos) X.env = (do
      let ov ← eval o X.env
      standAt apos.atName
      let (f, first) ← holding [ov] (getMethod ov m pl)
      callWith pos f first (backTo pos (starEach [] X.env)) (backToKw pos (keywordEach [] X.env))) := by rfl) :
    PE X (.Call (.Attribute o m apos) [] [] pos) (tMethE C m sp E ta tNil) := by
  refine ⟨fun pins s σ H Q I h => ?_⟩
  refine PySem.W.methodCall_KW (pl := pl) (thn (he.run pins s σ H _ I h) fun u s1 ⟨x, H1, I1, rx, a, dx, fs, ex, ea, l, q⟩ => ?_) ht
  subst ex
  obtain rfl : u = Value.ref a := rx
  refine getmeth_ok I1 ea c hm l ?_
  exact PySem.W.callWith_K0 (first := [.ref a]) I1.kIn hm.kp (run_fnS (us := [.ref a]) (vs := [.ref a]) F hr hb (hx σ) I1 (.cons rfl .nil) q)
def tMakeE (C : Addr) (sp : Sp) (E : St → XK) (t : TA) : TE := fun σ H Q => t σ H fun vs H1 => ∀ x dx, H1 x = none → H1 dx = none → dx ≠ x →
  sp (.ref x :: vs) (upd (upd H1 dx (.own x)) x (.ins C dx [])) (fun v H2 => v = .non ∧ Q (.ref x) H2) (E σ)
theorem run_makeE {pins : List (Addr × Obj)} {σ : St} {H : Hp} {s : Shared} {Q : VK} {us : List Value} {vs : List V} (M : Mk X.K C f) (F : FnOk X.prog X.w X.K X.mg X.base CX k f fd ps sp) (hr : Room (k + 1) X.A) (hb : Binds X.K fd ps [])
    (hx : PassesAt CX X σ (E σ)) (I : Inv X pins σ H s) (r : Vals vs us)
    (h : ∀ x dx, H x = none → H dx = none → dx ≠ x → sp (.ref x :: vs) (upd (upd H dx (.own x)) x (.ins C dx [])) (fun v H2 => v = .non ∧ Q (.ref x) H2) (E σ)) :
    wpAny (model X.prog X.w) X.A (call (.ref C) us) (EP X pins σ Q) X.xe s := by
  have hq := h (s.heap.objs.size + 1) s.heap.objs.size (I.hok.fresh (Nat.le_succ _)) (I.hok.fresh (Nat.le_refl _)) (Nat.ne_of_lt (Nat.lt_succ_self _))
  have I2 := Inv.made (C := C) I
  have r2 : Vals (V.ref (s.heap.objs.size + 1) :: vs) (Value.ref (s.heap.objs.size + 1) :: us) := .cons rfl r
  have hl : (Value.ref (s.heap.objs.size + 1) :: us).length = ps.length := by
    have e := r2.length
    rw [F.len _ _ _ _ hq] at e
    exact e.symm
  have b := hb _ (Value.ref (s.heap.objs.size + 1) :: us) I2.kIn (by rw [List.append_nil]; exact hl)
  rw [List.append_nil] at b
  refine wpAny_call (make_map (f := f) I.kIn M.makes M.init (beq_iff_eq.mp M.fn) (codeAny_mono (F.run _ X.stack _ _ ⟨Value.ref (s.heap.objs.size + 1) :: us, []⟩ (Value.ref (s.heap.objs.size + 1) :: us) _ _ (E σ) (hr.make C us [])
    (I2.env0.make C us []) b r2 hq) fun r s' hq' => ?_))
  cases r with
  | error e => exact hx pins _ _ e s' I2 hq'
  | ok fl =>
    cases fl with
    | ret u =>
      obtain ⟨v, H', I3, rv, ev, q3⟩ := I2.after hq'
      subst ev
      exact ⟨rv, ⟨V.ref (s.heap.objs.size + 1), H', I3, rfl, q3⟩⟩
    | next => exact False.elim hq'
    | brk => exact False.elim hq'
    | cont => exact False.elim hq'
theorem pe_makeE (M : Mk X.K C f) (F : FnOk X.prog X.w X.K X.mg X.base CX k f fd ps sp) (hr : Room (k + 1) X.A) (hg : Gl X x) (hm : X.mg x = some (.ref C)) (hb : Binds X.K fd ps []) (hx : ∀ σ, PassesAt CX X σ (E σ))
    (ha : PA X (e :: es) t) (hdb : (x == ("__debug__" : Str)) = false := by decide) (he : starEach (e :: es) X.env = (false, eval e X.env) :: starEach es X.env := by rfl) (hpl : (backTo pos (starEach es X.env)).any (·.1) = false := by rfl) :
    PE X (.Call (.Name x p) (e :: es) [] pos) (tMakeE C sp E t) := by
  refine ⟨fun pins s σ H Q I h => ?_⟩
  refine wpAny_Call_Name_kw (ld_glob I hg hm ?_ hdb)
  refine PySem.W.callWith_K (h₀ := X.base) I.ok.mod.kin M.kp (thn (ha.run pos pins s σ H _ I h) fun us s1 ⟨vs, H1, I1, r, q⟩ => ⟨I1.kIn, ?_⟩) he hpl
  exact run_makeE M F hr hb (hx σ) I1 r q
end
end L2
namespace Z
open PySem PySem.Spec PyProof.Rows L2
/-- a class of the program -/
structure OwnF (D : Wd) (C : Str) : Prop where
  ex : ∃ Ca, D.mg C = some (.ref Ca) ∧ Cls D.K Ca
/-- no class of C's has the name f -/
structure AtF (D : Wd) (C f : Str) : Prop where
  ex : ∃ Ca, D.mg C = some (.ref Ca) ∧ Cls D.K Ca ∧ NoAttr D.K Ca f
structure FnM (D : Wd) (C m : Str) (k np : Nat) (F : Fn) : Prop where
  ex : ∃ Ca f fd ps, D.mg C = some (.ref Ca) ∧ Cls D.K Ca ∧ Meth D.K Ca m f ∧ FnOk D.P D.w D.K D.mg D.base (L2.CX D.P D.w) k f fd ps (spOf D.K D.mg np F) ∧ Binds D.K fd ps [] ∧ ps.length = np
structure MkF (D : Wd) (C : Str) (k np : Nat) (F : Fn) : Prop where
  ex : ∃ Ca f fd ps, D.mg C = some (.ref Ca) ∧ Mk D.K Ca f ∧ FnOk D.P D.w D.K D.mg D.base (L2.CX D.P D.w) k f fd ps (spOf D.K D.mg np F) ∧ Binds D.K fd ps [] ∧ ps.length = np
structure FnP (D : Wd) (C m : Str) (k : Nat) (F : Fn) : Prop where
  ex : ∃ Ca p g fd ps, D.mg C = some (.ref Ca) ∧ Cls D.K Ca ∧ PropOf D.K Ca m p g ∧ FnOk D.P D.w D.K D.mg D.base (L2.CX D.P D.w) k g fd ps (spOf D.K D.mg 1 F) ∧ Binds D.K fd ps [] ∧ ps.length = 1
section
variable {K : PySem.W.Frag} {mg : Str → Option Value} {ρ : List Addr} {G H : Hp} {st : Sto} {n : Nat}
theorem Rel.atI {C : Str} {fs : List (Str × Val)} (r : Rel K mg ρ G st H) (h : st[n]? = some (.ins C fs)) : ∃ a Ca dx vs, ρ[n]? = some a ∧ mg C = some (.ref Ca) ∧ H a = some (.ins Ca dx vs) ∧ fs.map (·.1) = vs.map (·.1) ∧ RVs K mg ρ G (fs.map (·.2)) (vs.map (·.2)) := by
  have hl : n < ρ.length := by
    rw [r.len]
    exact (List.getElem?_eq_some_iff.mp h).1
  have ea : ρ[n]? = some ρ[n] := List.getElem?_eq_getElem hl
  obtain ⟨Ca, dx, vs, h1, h2, h3, h4⟩ := r.cell n _ _ ea h
  exact ⟨_, Ca, dx, vs, ea, h1, h2, h3, h4⟩
theorem lookup_rv {f : Str} {x : Val} : ∀ {fs : List (Str × Val)} {vs : List (Str × V)}, fs.map (·.1) = vs.map (·.1) → RVs K mg ρ G (fs.map (·.2)) (vs.map (·.2)) → fs.lookup f = some x → ∃ v, vs.lookup f = some v ∧ RV K mg ρ G x v
  | [], _, _, _, h => by cases h
  | (n, z) :: fs, [], e, _, _ => by cases e
  | (n, z) :: fs, (n', v) :: vs, e, q, h => by
    simp only [List.map_cons, List.cons.injEq] at e
    obtain ⟨rfl, e⟩ := e
    cases q with
    | cons q1 q2 =>
      unfold List.lookup at h ⊢
      cases hb : f == n with
      | true =>
        rw [hb] at h
        cases h
        exact ⟨v, rfl, q1⟩
      | false =>
        rw [hb] at h
        exact lookup_rv e q2 h
theorem lookup_no {f : Str} : ∀ {fs : List (Str × Val)} {vs : List (Str × V)}, fs.map (·.1) = vs.map (·.1) → fs.lookup f = none → vs.lookup f = none
  | [], [], _, _ => rfl
  | [], _ :: _, e, _ => by cases e
  | (n, z) :: fs, [], e, _ => by cases e
  | (n, z) :: fs, (n', v) :: vs, e, h => by
    simp only [List.map_cons, List.cons.injEq] at e
    obtain ⟨rfl, e⟩ := e
    unfold List.lookup at h ⊢
    cases hb : f == n with
    | true => rw [hb] at h; cases h
    | false => rw [hb] at h; exact lookup_no e h
def putZ (f : Str) (v : Val) : List (Str × Val) → List (Str × Val)
  | [] => [(f, v)]
  | (g, x) :: r => if g = f then (g, v) :: r else (g, x) :: putZ f v r
theorem putZ_rel {f : Str} {x : Val} {v : V} (q : RV K mg ρ G x v) : ∀ {fs : List (Str × Val)} {vs : List (Str × V)}, fs.map (·.1) = vs.map (·.1) → RVs K mg ρ G (fs.map (·.2)) (vs.map (·.2)) → (putZ f x fs).map (·.1) = (putF f v vs).map (·.1) ∧ RVs K mg ρ G ((putZ f x fs).map (·.2)) ((putF f v vs).map (·.2))
  | [], [], _, _ => ⟨rfl, .cons q .nil⟩
  | [], _ :: _, e, _ => by cases e
  | _ :: _, [], e, _ => by cases e
  | (n, z) :: fs, (n', u) :: vs, e, qs => by
    simp only [List.map_cons, List.cons.injEq] at e
    obtain ⟨rfl, e⟩ := e
    cases qs with
    | cons q1 q2 =>
      unfold putZ putF
      by_cases hb : n = f
      · rw [if_pos hb, if_pos hb]
        exact ⟨by simp [e], .cons q q2⟩
      · rw [if_neg hb, if_neg hb]
        obtain ⟨a, b⟩ := putZ_rel q e q2
        exact ⟨by simp [a], .cons q1 b⟩
end
section
variable {D : Wd} {X : Cx} {W : WX} {N : List Str} {sc : Scp} {k j np : Nat} {o e : Expr} {es : List Expr} {mo m : ME} {mr : MA} {apos pos p : Pos} {C f : Str} {F : Fn}
/-! ### o.f -/
def fldK (C f : Str) (o : Option Cell) (st : Sto) : Out Val := match o with
  | some (.ins D fs) => if D = C then outV (fs.lookup f) st else .bad
  | _ => .bad
def fldR (C f : Str) : Val → Sto → Out Val := fun x st => match x with
  | .c n => fldK C f st[n]? st
  | _ => .bad
def mFld (C f : Str) (mo : ME) : ME := fun env st => (mo env st).bind (fldR C f)
theorem se_fld (g : Gd D X W N sc k) (hA : AtF D C f) (ho : SE X W o mo) (hb : attributeBase o f X.env (eval o X.env) = eval o X.env := by rfl) : SE X W (.Attribute o f pos) (mFld C f mo) := by
  obtain ⟨to, po, so⟩ := ho
  obtain ⟨Ca, c1, c2, c3⟩ := hA.ex
  rw [← g.hmg] at c1
  rw [← g.hK] at c2 c3
  refine ⟨_, pe_fld po hb, fun σ H env st ρ G Q he rl h => ?_⟩
  refine so σ H env st ρ G _ he rl ((Ok.bind (R := RV X.K X.mg) h).imp fun u H1 ⟨x, ρ1, G1, st1, e1, r1, q1, o1⟩ => ?_)
  unfold fldR at o1
  split at o1
  · rename_i n
    unfold fldK at o1
    split at o1
    · rename_i D' fs hx
      split at o1
      · rename_i hD
        subst hD
        unfold outV at o1
        split at o1
        · rename_i v hv
          obtain ⟨a, rfl, ea⟩ := rv_cell q1
          obtain ⟨a', Ca', dx, vs, k1, k2, k3, k4, k5⟩ := r1.atI hx
          rw [ea] at k1; cases k1
          rw [c1] at k2; cases k2
          obtain ⟨w, w1, w2⟩ := lookup_rv k4 k5 hv
          exact ⟨a, Ca, dx, vs, w, rfl, k3, c2, c3, w1, Ok.ret o1 r1 w2⟩
        · exact o1.elim
      · exact o1.elim
    · exact o1.elim
  · exact o1.elim
/-! ### o.f = e -/
def setK (C f : Str) (env : Env) (v : Val) (n : Nat) (o : Option Cell) (st : Sto) : Fl := match o with
  | some (.ins D fs) => if D = C ∧ fs.length < 1000 then .next env (st.set n (.ins C (putZ f v fs))) else .bad
  | _ => .bad
def setR (C f : Str) (env : Env) (v x : Val) (st : Sto) : Fl := match x with
  | .c n => setK C f env v n st[n]? st
  | _ => .bad
def sFldS (C f : Str) (mo m : ME) : MS := fun env st => (m env st).flo env fun v st1 => (mo env st1).flo env fun x st2 => setR C f env v x st2
theorem ss_fld {pos' : Pos} (g : Gd D X W N sc k) (hA : AtF D C f) (ho : SE X W o mo) (h : SE X W e m) (hs : swapsWith e (some (.Attribute o f pos')) pos.line X.env = pure false := by rfl) : SS X W (.Assign [.Attribute o f pos'] e pos) (sFldS C f mo m) := by
  obtain ⟨to, po, so⟩ := ho
  obtain ⟨t, pe, s⟩ := h
  obtain ⟨Ca, c1, c2, c3⟩ := hA.ex
  rw [← g.hmg] at c1
  rw [← g.hK] at c2 c3
  refine ⟨_, ps_fld po pe hs, fun σ H env st ρ G De he hr h => ?_⟩
  refine s σ H env st ρ G _ he hr ((Ok.flo (R := RV X.K X.mg) he h).imp fun u H1 ⟨v, ρ1, G1, st1, e1, r1, q1, o1⟩ => ?_)
  have he1 := he.ext e1
  refine so σ H1 env st1 ρ1 G1 _ he1 r1 ((Ok.flo (R := RV X.K X.mg) he1 o1).imp fun uo H2 ⟨x, ρ2, G2, st2, e2, r2, q2, o2⟩ => ?_)
  have he2 := he1.ext e2
  unfold setR at o2
  split at o2
  · rename_i n
    unfold setK at o2
    split at o2
    · rename_i D' fs hx
      split at o2
      · rename_i hD
        obtain ⟨rfl, hl⟩ := hD
        obtain ⟨a, rfl, ea⟩ := rv_cell q2
        obtain ⟨a', Ca', dx, vs, k1, k2, k3, k4, k5⟩ := r2.atI hx
        rw [ea] at k1; cases k1
        rw [c1] at k2; cases k2
        obtain ⟨w1, w2⟩ := putZ_rel (f := f) (e2.rv q1) k4 k5
        refine ⟨a, Ca, dx, vs, rfl, k3, c2, c3, by have := congrArg List.length k4; simp at this; omega, ?_⟩
        exact o2 ρ2 G2 _ σ (.put ea) (r2.put ea hx (by simp) ⟨Ca, dx, _, c1, upd_same, w1, w2⟩) he2
      · exact o2.elim
    · exact o2.elim
  · exact o2.elim
/-! ### o.m(..) -/
def insK (C m : Str) (o : Option Cell) : Bool := match o with
  | some (.ins D fs) => decide (D = C) && (fs.lookup m).isNone
  | _ => false
def isIns (C m : Str) (x : Val) (st : Sto) : Bool := match x with
  | .c n => insK C m st[n]?
  | _ => false
def mMeth (C m : Str) (F : Fn) (np : Nat) (mo : ME) (mr : MA) : ME := fun env st => (mo env st).bind fun x st1 => if isIns C m x st1 then (mr env st1).bind fun xs st2 => if xs.length + 1 = np then F (x :: xs) st2 else .bad else .bad
theorem isIns_ok {K : PySem.W.Frag} {mg : Str → Option Value} {ρ : List Addr} {G H : Hp} {st : Sto} {x : Val} {u : V} {m : Str} {Ca : Addr} (r : Rel K mg ρ G st H) (q : RV K mg ρ G x u) (hC : mg C = some (.ref Ca)) (h : isIns C m x st = true) : ∃ a dx vs, u = .ref a ∧ H a = some (.ins Ca dx vs) ∧ vs.lookup m = none := by
  unfold isIns at h
  split at h
  · rename_i n
    unfold insK at h
    split at h
    · rename_i D' fs hx
      rw [Bool.and_eq_true] at h
      obtain ⟨h1, h2⟩ := h
      have h1 := of_decide_eq_true h1
      subst h1
      obtain ⟨a, rfl, ea⟩ := rv_cell q
      obtain ⟨a', Ca', dx, vs, k1, k2, k3, k4, k5⟩ := r.atI hx
      rw [ea] at k1; cases k1
      rw [hC] at k2; cases k2
      exact ⟨a, dx, vs, rfl, k3, lookup_no k4 (by simpa using h2)⟩
    · cases h
  · cases h
theorem se_meth {m : Str} (g : Gd D X W N sc k) (hF : FnM D C m j np F) (hj : j ≤ k) (ho : SE X W o mo) (ha : SA X W (e :: es) mr) {pl : Sem Bool}
    (hst : starEach (e :: es) X.env = (false, eval e X.env) :: starEach es X.env := by rfl) (hpl : (backTo pos (starEach es X.env)).any (·.1) = false := by rfl)
    (ht : eval (.Call (.Attribute o m apos) (e :: es) [] pos) X.env = (do
      let ov ← eval o X.env
      standAt apos.atName
      let (f, first) ← holding [ov] (getMethod ov m pl)
      callWith pos f first (backTo pos (starEach (e :: es) X.env)) (backToKw pos (keywordEach [] X.env))) := by rfl) :
    SE X W (.Call (.Attribute o m apos) (e :: es) [] pos) (mMeth C m F np mo mr) := by
  obtain ⟨Ca, f, fd, ps, c1, c2, c3, ok, hb, hl⟩ := hF.ex
  obtain ⟨to, po, so⟩ := ho
  obtain ⟨t, pa, sa⟩ := ha
  rw [← g.hP, ← g.hw, ← g.hK, ← g.hmg, ← g.hb] at ok
  rw [← g.hmg] at c1
  rw [← g.hK] at c2 c3 hb
  refine ⟨_, pe_methE po c2 c3 ok (g.room.mono hj) hb (passAt g.tk) pa hst hpl ht, fun σ H env st ρ G Q he rl h => ?_⟩
  refine so σ H env st ρ G _ he rl ((Ok.bind (R := RV X.K X.mg) h).imp fun u H1 ⟨x, ρ1, G1, st1, e1, r1, q1, o1⟩ => ?_)
  split at o1
  · rename_i hi
    obtain ⟨a, dx, vs, rfl, k1, k2⟩ := isIns_ok r1 q1 c1 hi
    refine ⟨a, dx, vs, rfl, k1, k2, ?_⟩
    refine sa σ H1 env st1 ρ1 G1 _ (he.ext e1) r1 ((Ok.bind (R := RVs X.K X.mg) o1).imp fun us H2 ⟨xs, ρ2, G2, st2, e2, r2, q2, o2⟩ => ?_)
    split at o2
    · rename_i hx
      exact ⟨by rw [List.length_cons, ← q2.len]; exact hx, ρ2, G2, st2, x :: xs, r2, .cons (e2.rv q1) q2, o2⟩
    · exact o2.elim
  · exact o1.elim
theorem se_meth0 {m : Str} (g : Gd D X W N sc k) (hF : FnM D C m j 1 F) (hj : j ≤ k) (ho : SE X W o mo) {pl : Sem Bool}
    (ht : eval (.Call (.Attribute o m apos) [] [] pos) X.env = (do
      let ov ← eval o X.env
      standAt apos.atName
      let (f, first) ← holding [ov] (getMethod ov m pl)
      callWith pos f first (backTo pos (starEach [] X.env)) (backToKw pos (keywordEach [] X.env))) := by rfl) :
    SE X W (.Call (.Attribute o m apos) [] [] pos) (mMeth C m F 1 mo mNil) := by
  obtain ⟨Ca, f, fd, ps, c1, c2, c3, ok, hb, hl⟩ := hF.ex
  obtain ⟨to, po, so⟩ := ho
  rw [← g.hP, ← g.hw, ← g.hK, ← g.hmg, ← g.hb] at ok
  rw [← g.hmg] at c1
  rw [← g.hK] at c2 c3 hb
  refine ⟨_, pe_methE0 po c2 c3 ok (g.room.mono hj) hb (passAt g.tk) ht, fun σ H env st ρ G Q he rl h => ?_⟩
  refine so σ H env st ρ G _ he rl ((Ok.bind (R := RV X.K X.mg) h).imp fun u H1 ⟨x, ρ1, G1, st1, e1, r1, q1, o1⟩ => ?_)
  split at o1
  · rename_i hi
    obtain ⟨a, dx, vs, rfl, k1, k2⟩ := isIns_ok r1 q1 c1 hi
    refine ⟨a, dx, vs, rfl, k1, k2, ?_⟩
    have o2 : Ok X.K X.mg (RV X.K X.mg) ρ1 G1 H1 _ (F [x] st1) Q := o1
    exact ⟨rfl, ρ1, G1, st1, [x], r1, .cons q1 .nil, o2⟩
  · exact o1.elim
/-! ### C(..) -/
def madeK (n : Nat) (v : Val) (st : Sto) : Out Val := match v with
  | .d .none => .ok (.c n) st
  | _ => .bad
def mMake (C : Str) (F : Fn) (np : Nat) (mr : MA) : ME := fun env st => (mr env st).bind fun xs st1 => if xs.length + 1 = np then (F (.c st1.length :: xs) (st1 ++ [.ins C []])).bind (madeK st1.length) else .bad
theorem se_make (g : Gd D X W N sc k) (hF : MkF D C j np F) (hj : j + 1 ≤ k) (hg : glB sc C = true) (ha : SA X W (e :: es) mr) (hdb : (C == ("__debug__" : Str)) = false := by decide)
    (he : starEach (e :: es) X.env = (false, eval e X.env) :: starEach es X.env := by rfl) (hpl : (backTo pos (starEach es X.env)).any (·.1) = false := by rfl) : SE X W (.Call (.Name C p) (e :: es) [] pos) (mMake C F np mr) := by
  obtain ⟨Ca, f, fd, ps, c1, c2, ok, hb, hl⟩ := hF.ex
  obtain ⟨t, pa, sa⟩ := ha
  rw [← g.hP, ← g.hw, ← g.hK, ← g.hmg, ← g.hb] at ok
  rw [← g.hmg] at c1
  rw [← g.hK] at c2 hb
  refine ⟨_, pe_makeE c2 ok (g.room.mono hj) (g.gl hg) c1 hb (passAt g.tk) pa hdb he hpl, fun σ H env st ρ G Q he rl h => ?_⟩
  refine sa σ H env st ρ G _ he rl ((Ok.bind (R := RVs X.K X.mg) h).imp fun us H1 ⟨xs, ρ1, G1, st1, e1, r1, q1, o1⟩ => fun x dx hx hdx hne => ?_)
  split at o1
  · rename_i hn
    have r2 := r1.loose (o := .own x) hdx
    have hx2 : upd H1 dx (.own x) x = none := by rw [upd_ne (Ne.symm hne)]; exact hx
    have e2 : Ext ρ1 G1 H1 (ρ1 ++ [x]) G1 (upd (upd H1 dx (.own x)) x (.ins Ca dx [])) := (Ext.loose hdx).trans (.newC hx2)
    have r3 : Rel X.K X.mg (ρ1 ++ [x]) G1 (st1 ++ [.ins C []]) (upd (upd H1 dx (.own x)) x (.ins Ca dx [])) := (r2.loose hx2).takeC (r2.free hx2) (r2.freeG hx2) ⟨Ca, dx, [], c1, upd_same, rfl, .nil⟩
    have q0 : RV X.K X.mg (ρ1 ++ [x]) G1 (.c st1.length) (.ref x) := .c (by rw [← r1.len]; simp)
    refine ⟨by rw [List.length_cons, ← q1.len]; exact hn, ρ1 ++ [x], G1, _, .c st1.length :: xs, r3, .cons q0 (e2.rvs q1), ?_⟩
    refine (Ok.bind (R := RV X.K X.mg) (Ok.ext e2 o1)).imp fun v H2 ⟨y, ρ4, G4, st4, e4, r4, q4, o4⟩ => ?_
    unfold madeK at o4
    split at o4
    · refine ⟨?_, Ok.ret o4 r4 (e4.rv q0)⟩
      cases rv_dat q4
      rfl
    · exact o4.elim
  · exact o1.elim
/-! ### o.p, a property -/
def noX (o : Out Val) : Out Val := match o with
  | .exc _ _ => .bad
  | o => o
def mProp (C f : Str) (F : Fn) (mo : ME) : ME := fun env st => (mo env st).bind fun x st1 => if isIns C f x st1 then noX (F [x] st1) else .bad
theorem noX_ok {K : PySem.W.Frag} {mg : Str → Option Value} {ρ : List Addr} {G H : Hp} {E E' : XK} {o : Out Val} {Q : VK} (h : Ok K mg (RV K mg) ρ G H E (noX o) Q) : Ok K mg (RV K mg) ρ G H E' o Q := by
  cases o with
  | ok a st => exact h
  | exc x st => exact h.elim
  | bad => exact h.elim
theorem se_prop (g : Gd D X W N sc k) (hF : FnP D C f j F) (hj : j + 1 ≤ k) (ho : SE X W o mo) (hb : attributeBase o f X.env (eval o X.env) = eval o X.env := by rfl) : SE X W (.Attribute o f pos) (mProp C f F mo) := by
  obtain ⟨Ca, p, gf, fd, ps, c1, c2, c3, ok, hbi, hl⟩ := hF.ex
  obtain ⟨to, po, so⟩ := ho
  rw [← g.hP, ← g.hw, ← g.hK, ← g.hmg, ← g.hb] at ok
  rw [← g.hmg] at c1
  rw [← g.hK] at c2 c3 hbi
  refine ⟨_, pe_prop (E := fun _ _ _ => False) po c2 c3 ok ((g.room.mono hj)) hbi .nil (by rintro _ _ _ _ _ _ _ ⟨_, _, _, _, _, _, _, _, _, _, _, _, h⟩; exact h.elim) hb, fun σ H env st ρ G Q he rl h => ?_⟩
  refine so σ H env st ρ G _ he rl ((Ok.bind (R := RV X.K X.mg) h).imp fun u H1 ⟨x, ρ1, G1, st1, e1, r1, q1, o1⟩ => ?_)
  split at o1
  · rename_i hi
    obtain ⟨a, dx, vs, rfl, k1, k2⟩ := isIns_ok r1 q1 c1 hi
    exact ⟨a, dx, vs, rfl, k1, rfl, ρ1, G1, st1, [x], r1, .cons q1 .nil, noX_ok o1⟩
  · exact o1.elim
/-! ### max of a tuple of ints -/
def intsO : List PyData → Option (List Int)
  | [] => some []
  | .int i :: r => (intsO r).map (i :: ·)
  | _ => none
theorem intsO_eq : ∀ {ds : List PyData} {ns : List Int}, intsO ds = some ns → ds = ns.map .int
  | [], _, h => by cases h; rfl
  | .int i :: r, ns, h => by
    unfold intsO at h
    obtain ⟨ms, h1, rfl⟩ := Option.map_eq_some_iff.mp h
    rw [intsO_eq h1]; rfl
  | .none :: _, _, h => by cases h
  | .bool _ :: _, _, h => by cases h
  | .str _ :: _, _, h => by cases h
  | .list _ :: _, _, h => by cases h
  | .tuple _ :: _, _, h => by cases h
  | .dict _ :: _, _, h => by cases h
def rMaxT (K : PySem.W.Frag) : List V → Hp → VK → Prop := fun vs H Q => ∃ a n ns, vs = [V.ref a] ∧ Dp K H (.ref a) (.tuple ((n :: ns).map .int)) ∧ Q (.int (ns.foldl max n)) H
theorem cr_maxT (hc : X.calm = true) (hu : X.A.units + 65 < cLine) : CallR X (.builtin "max") (rMaxT X.K) := by
  intro pins s σ H vs us Q I r h
  obtain ⟨a, n, ns, rfl, hd, q⟩ := h
  obtain ⟨u, rfl, ru⟩ := vals1 r
  obtain rfl : u = Value.ref a := ru
  cases hd with
  | tup hs ha =>
    obtain ⟨its, rv, ht, hlen⟩ := I.tuple hs
    obtain ⟨as, h4⟩ := Dp.readsAll I _ _ its ha rv
    rw [List.map_cons] at h4
    have al : PySem.W.AlikeAll (PyData.int n :: ns.map .int) := by
      have k : ∀ x ∈ PyData.int n :: ns.map .int, ∃ i, x = .int i := by
        intro x hx
        rcases List.mem_cons.mp hx with rfl | hx
        · exact ⟨_, rfl⟩
        · obtain ⟨i, _, rfl⟩ := List.mem_map.mp hx; exact ⟨_, rfl⟩
      refine ⟨fun x hx y hy => ?_, fun x hx => ?_⟩
      · obtain ⟨i, rfl⟩ := k x hx
        obtain ⟨j, rfl⟩ := k y hy
        simp [PySem.W.alike]
      · obtain ⟨i, rfl⟩ := k x hx
        simp
    have hdp : X.A.units + 1 + PyData.depthAll (PyData.int n :: ns.map .int) < cLine := by
      have : ∀ l : List Int, PyData.depthAll (l.map .int) = 0 := by
        intro l
        induction l with
        | nil => rfl
        | cons i l ih => simp [PyData.depthAll, PyData.depth, ih]
      have := this (n :: ns)
      rw [List.map_cons] at this
      omega
    refine PySem.W.max_tuple_data (vs := its.toArray) (I.ok.hd hc) ht (by simpa using h4) al hdp fun i v h' tk bs hv hr hk => ?_
    rw [PySem.W.maxD_ints] at hr
    cases hr
    exact ⟨.int _, H, I.kept hk, ⟨_, rfl⟩, q⟩
def max1F : Fn := fun xs st => match xs with
  | [.d (.tuple ds)] => (match intsO ds with
    | some (n :: ns) => .ok (.d (.int (ns.foldl max n))) st
    | _ => .bad)
  | _ => .bad
theorem cb_max1 (hc : X.calm = true) (hu : X.A.units + 65 < cLine) : Cb X (.builtin "max") max1F := by
  refine ⟨_, cr_maxT hc hu, fun ρ G st H xs us E Q r q h => ?_⟩
  unfold max1F at h
  split at h
  · split at h
    · rename_i ds n ns e
      cases q with
      | cons q1 q2 =>
        cases q2
        have d := (dq_mono r.sub (rv_dat q1)).dp
        rw [intsO_eq e] at d
        cases d with
        | tup hs ha => exact ⟨_, n, ns, rfl, .tup hs ha, ok_ret r (.int _) h⟩
    · exact h.elim
  · exact h.elim
/-! ### defs of a class -/
theorem fnM_mk {ps : List Str} {m qual nm : Str} {params : Arguments} {body : List Stmt} {Ca g : Addr} {fd : FuncData} {ms : MS} {sc : Scope} {dvs : List V} {kws : List (Str × V)} (F : FunD D.K nm qual params body sc dvs kws g fd) (S : FnScope N ps sc) (hl : ps.length = np)
    (hC : D.mg C = some (.ref Ca)) (hc : Cls D.K Ca) (hm : Meth D.K Ca m g) (hb : Binds D.K fd ps [])
    (hbody : ∀ X W, Gs D X W N (.df sc) k → SB X W body ms) : FnM D C m (k + 1) np (runF N.length ms) :=
  ⟨Ca, g, fd, ps, hC, hc, hm, fn_mk F S hl hbody, hb, hl⟩
theorem mkF_mk {ps : List Str} {qual nm : Str} {params : Arguments} {body : List Stmt} {Ca g : Addr} {fd : FuncData} {ms : MS} {sc : Scope} {dvs : List V} {kws : List (Str × V)} (F : FunD D.K nm qual params body sc dvs kws g fd) (S : FnScope N ps sc) (hl : ps.length = np)
    (hC : D.mg C = some (.ref Ca)) (hm : Mk D.K Ca g) (hb : Binds D.K fd ps [])
    (hbody : ∀ X W, Gs D X W N (.df sc) k → SB X W body ms) : MkF D C (k + 1) np (runF N.length ms) :=
  ⟨Ca, g, fd, ps, hC, hm, fn_mk F S hl hbody, hb, hl⟩
theorem fnP_mk {m qual nm self : Str} {params : Arguments} {body : List Stmt} {Ca p g : Addr} {fd : FuncData} {ms : MS} {sc : Scope} {dvs : List V} {kws : List (Str × V)} (F : FunD D.K nm qual params body sc dvs kws g fd) (S : FnScope N [self] sc)
    (hC : D.mg C = some (.ref Ca)) (hc : Cls D.K Ca) (hm : PropOf D.K Ca m p g) (hb : Binds D.K fd [self] [])
    (hbody : ∀ X W, Gs D X W N (.df sc) k → SB X W body ms) : FnP D C m (k + 1) (runF N.length ms) :=
  ⟨Ca, p, g, fd, [self], hC, hc, hm, fn_mk F S rfl hbody, hb, rfl⟩
theorem FnM.mono {m : Str} (h : FnM D C m k np F) (l : k ≤ j) : FnM D C m j np F :=
  let ⟨Ca, f, fd, ps, a, b, c, d, r⟩ := h.ex; ⟨Ca, f, fd, ps, a, b, c, d.mono l, r⟩
end
section
variable {K : PySem.W.Frag} {x qual : Str} {params : Arguments} {body : List Stmt} {scope : Scope} {dvs : List V} {kws : List (Str × V)} {f : Addr} {fd : FuncData} {ps : List Str}
/-- a def with defaults, every argument given -/
theorem bindsD (F : FunD K x qual params body scope dvs kws f fd) (n : Nat) (hd : dvs ≠ []) (hn : n = ps.length)
    (h : ∀ (T : Addr) (kV doc pm : Value) (an : Option Addr) (cdv ct : Value) (us its : List Value), us.length = n → its.length = dvs.length →
      ∃ k, bindArgs (PySem.W.fnOf x qual params body scope (.ref T) kV doc pm an cdv ct) ⟨us, []⟩ = seqItems? (.ref T) >>= k ∧ k (some its.toArray) = pure (ps.zip us)) : Binds K fd ps [] := by
  obtain ⟨ds, h1, h2⟩ := F.binds1 (ps := ps) n dvs.length hd (by omega) fun T kV doc pm an cdv ct us its hu hi => by
    obtain ⟨k, e1, e2⟩ := h T kV doc pm an cdv ct us its hu hi
    refine ⟨k, e1, ?_⟩
    rw [e2, List.drop_eq_nil_of_le (by omega), List.append_nil]
  rw [List.drop_eq_nil_of_le (Nat.le_refl _)] at h1
  cases h1
  exact h2
end
end Z

namespace Z
open PySem PySem.Spec PyProof.Rows L2
section
variable {env env1 : Z.Env} {st st1 : Sto} {m mo mi ma : ME} {i j n : Nat} {u v w : Val} {us vs : List Val} {x f : Str} {tbl : List (Str × Val)} {ks : List Str} {g : Bool → Bool} {ms : MXS} {mb : MS} {d : PyData} {k : Int} {o : Option Nat} {bt : List (Str × Bool)} {y : Exn}
def starK (i j : Nat) (env : Z.Env) (o : Option (List Val)) (st : Sto) : Fl := match o with
  | some (x :: r) => (newL r st).flo env fun l st2 => .next ((env.set i (some x)).set j (some l)) st2
  | _ => .bad
@[simp] theorem starK_s : starK i j env (some (u :: us)) st = (newL us st).flo env fun l st2 => .next ((env.set i (some u)).set j (some l)) st2 := (rfl)
@[simp] theorem ap_star : sStar i j m env st = (m env st).flo env fun v st1 => starK i j env (seqL st1 v) st1 := by
  unfold sStar starK
  congr 1
@[simp] theorem ap_inTab : mInTab ks g m env st = (m env st).bind (inTabF ks g) := (rfl)
@[simp] theorem inTabF_s : inTabF ks g (.d (.str x)) st = .ok (g (ks.contains x)) st := (rfl)
@[simp] theorem ap_tab : mTab tbl m env st = (m env st).bind (tabF tbl) := (rfl)
@[simp] theorem tabF_s : tabF tbl (.d (.str x)) st = outV (tbl.lookup x) st := (rfl)
@[simp] theorem ap_raise0 : sRaise0 x env st = .exc ⟨x, []⟩ env st := (rfl)
def raiseK (x f : Str) (env : Z.Env) (v : Val) (st : Sto) : Fl := match v with
  | .d d => .exc ⟨x, [(f, d)]⟩ env st
  | _ => .bad
@[simp] theorem raiseK_d : raiseK x f env (.d d) st = .exc ⟨x, [(f, d)]⟩ env st := (rfl)
@[simp] theorem ap_raiseF : sRaiseF x f m env st = (m env st).flo env fun v st1 => raiseK x f env v st1 := by
  unfold sRaiseF raiseK
  congr 1
def tryK (o : Option Nat) (bt : List (Str × Bool)) (ms : MXS) (fl : Fl) : Fl := match fl with
  | .exc x env1 st1 => hdlE o bt ms x env1 st1
  | o => o
@[simp] theorem tryK_next : tryK o bt ms (.next env st) = .next env st := (rfl)
@[simp] theorem tryK_ret : tryK o bt ms (.ret u st) = .ret u st := (rfl)
@[simp] theorem tryK_exc : tryK o bt ms (.exc y env st) = hdlE o bt ms y env st := (rfl)
@[simp] theorem ap_try : sTry o bt ms mb env st = tryK o bt ms (mb env st) := by
  unfold sTry tryK
  cases mb env st <;> rfl
@[simp] theorem ap_xSet {m : MX} : sxSet j m y env st = (m y env st).flo env fun v st1 => .next (env.set j (some v)) st1 := (rfl)
@[simp] theorem ap_xD : mxD d y env st = .ok (.d d) st := (rfl)
def stP (o : Option Sto) (env : Z.Env) : Fl := stK env o
@[simp] theorem ap_store : sStore mo mi m env st = (m env st).flo env fun v st1 => (mo env st1).flo env fun x st2 => (mi env st2).flo env fun i st3 => stK env (stF x i v st3) := (rfl)
@[simp] theorem stK_s : stK env (some st) = .next env st := (rfl)
def stL (n : Nat) (k : Int) (v : Val) (st : Sto) (o : Option Cell) : Option Sto := match o with
  | some (.lst xs) => (ixN xs.length k).map fun j => st.set n (.lst (xs.set j v))
  | _ => none
@[simp] theorem stL_l : stL n k v st (some (.lst us)) = (ixN us.length k).map fun j => st.set n (.lst (us.set j v)) := (rfl)
@[simp] theorem stF_c : stF (.c n) (.d (.int k)) v st = stL n k v st st[n]? := (rfl)
theorem ixN_nat {l i : Nat} (h : i < l) : ixN l (i : Int) = some i := by
  unfold ixN
  rw [if_pos (by omega), if_pos (by omega)]; simp
@[simp] theorem ap_asgN {js : List Nat} : sAsgN js m env st = (m env st).flo env fun v st1 => .next (setAll js v env) st1 := (rfl)
@[simp] theorem ap_dct {l : List (Str × PyData)} : mDct l env st = .ok (.c st.length) (st ++ [.dct (l.map fun p => (Sum.inr p.1, .d p.2))]) := (rfl)
@[simp] theorem ap_inD : mInD g m mo env st = (m env st).bind fun v st1 => (mo env st1).bind fun d st2 => inDF g v d st2 := (rfl)
@[simp] theorem ap_getD : mGetD mo m env st = (mo env st).bind fun d st1 => (m env st1).bind fun v st2 => getDF d v st2 := (rfl)
def inDK (g : Bool → Bool) (y : L2.Key) (o : Option (List (L2.Key × Val))) (st : Sto) : Out Bool := match o with
  | some kvs => .ok (g (dctGet kvs y).isSome) st
  | none => .bad
def getDK (y : L2.Key) (o : Option (List (L2.Key × Val))) (st : Sto) : Out Val := match o with
  | some kvs => outV (dctGet kvs y) st
  | none => .bad
@[simp] theorem inDK_s {y : L2.Key} {kvs : List (L2.Key × Val)} : inDK g y (some kvs) st = .ok (g (dctGet kvs y).isSome) st := (rfl)
@[simp] theorem getDK_s {y : L2.Key} {kvs : List (L2.Key × Val)} : getDK y (some kvs) st = outV (dctGet kvs y) st := (rfl)
@[simp] theorem inDF_c : inDF g (.d (.str x)) (.c n) st = inDK g (Sum.inr x) (cellD st[n]?) st := by
  show (match some (Sum.inr x : L2.Key), cellD st[n]? with | some y, some kvs => _ | _, _ => _) = _
  cases cellD st[n]? <;> rfl
@[simp] theorem getDF_c : getDF (.c n) (.d (.str x)) st = getDK (Sum.inr x) (cellD st[n]?) st := by
  show (match some (Sum.inr x : L2.Key), cellD st[n]? with | some y, some kvs => _ | _, _ => _) = _
  cases cellD st[n]? <;> rfl
@[simp] theorem cellD_d {kvs : List (L2.Key × Val)} : cellD (some (.dct kvs)) = some kvs := (rfl)
theorem dctGet_str (l : List (Str × PyData)) (x : Str) : dctGet (l.map fun p => (Sum.inr p.1, .d p.2)) (Sum.inr x) = (l.lookup x).map .d := by
  induction l with
  | nil => rfl
  | cons p l ih =>
    obtain ⟨y, d⟩ := p
    unfold dctGet at ih ⊢
    by_cases h : x = y
    · subst h; simp [List.lookup]
    · have h' : (x == y) = false := by simpa using h
      have h2 : ¬ y = x := fun z => h z.symm
      simp only [List.map_cons, List.find?_cons, List.lookup, h', Sum.inr.injEq, h2, decide_false]
      exact ih
@[simp] theorem ap_splitC {c : Bool} : mSplitC c mo m env st = (mo env st).bind fun v st1 => spG c m env v st1 := (rfl)
@[simp] theorem spG_s {c : Bool} : spG c m env (.d (.str x)) st = (m env st).bind (splitG c x) := (rfl)
@[simp] theorem splitG_s {c : Bool} {y : Str} : splitG c x (.d (.str y)) st = if y.length ≠ 0 ∧ x.length + 2 ≤ 16777216 then lstR c ((Txt.split x y).map fun x => .d (.str x)) st else .bad := (rfl)
def chS (o : Option Nat) (st : Sto) : Out Val := match o with
  | some c => .ok (.d (.str ⟨#[c]⟩)) st
  | none => .bad
@[simp] theorem chS_s {c : Nat} : chS (some c) st = .ok (.d (.str ⟨#[c]⟩)) st := (rfl)
@[simp] theorem ixF_str : ixF (.d (.str x)) (.d (.int k)) st = if x.length ≤ 16777216 then chS (atI x.cps.toList k) st else .bad := by
  have key : ∀ o : Option Nat, (match o with | some c => (.ok (.d (.str ⟨#[c]⟩)) st : Out Val) | none => .bad) = chS o st := fun o => by cases o <;> rfl
  exact congrArg (fun z : Out Val => if x.length ≤ 16777216 then z else .bad) (key _)
def lcntK (m : ME) (env : Z.Env) (x : Val) (st : Sto) : Out Val := match x with
  | .d (.list ds) => (m env st).bind (tcntD ds)
  | _ => .bad
@[simp] theorem lcntK_l {ds : List PyData} : lcntK m env (.d (.list ds)) st = (m env st).bind (tcntD ds) := (rfl)
@[simp] theorem ap_lcnt : mLCnt mo m env st = (mo env st).bind fun x st1 => lcntK m env x st1 := (rfl)
def ixC (o : Option (List Val)) (k : Int) (st : Sto) : Out Val := match o with
  | some xs => outV (atI xs k) st
  | none => .bad
@[simp] theorem ixC_s : ixC (some us) k st = outV (atI us k) st := (rfl)
@[simp] theorem ixF_c : ixF (.c n) (.d (.int k)) st = ixC (cellL st[n]?) k st := by
  simp only [ixF, seqR_c]
  cases cellL st[n]? <;> rfl
def slC (c : Bool) (o : Option (List Val)) (lo hi : Option Int) (st : Sto) : Out Val := match o with
  | some xs => lstR c (cutL xs lo hi) st
  | none => .bad
@[simp] theorem slC_s {c : Bool} {lo hi : Option Int} : slC c (some us) lo hi st = lstR c (cutL us lo hi) st := (rfl)
@[simp] theorem slF_c {c : Bool} {lo hi : Option Int} : slF c (.c n) lo hi st = slC c (cellL st[n]?) lo hi st := by
  simp only [slF, seqR_c]
  cases cellL st[n]? <;> rfl
def addC (c : Bool) (o : Option (List Val)) (p : Option (List Val)) (st : Sto) : Out Val := match o, p with
  | some xs, some ys => if xs.length + ys.length ≤ 16777216 then lstR c (xs ++ ys) st else .bad
  | _, _ => .bad
@[simp] theorem addC_s {c : Bool} : addC c (some us) (some vs) st = if us.length + vs.length ≤ 16777216 then lstR c (us ++ vs) st else .bad := (rfl)
@[simp] theorem addF_cl {c : Bool} {xs : List PyData} : addF c (.c n) (.d (.list xs)) st = addC c (cellL st[n]?) (some (xs.map .d)) st := by
  simp only [addF, seqL_c, seqL_d]
  cases cellL st[n]? <;> rfl
@[simp] theorem addF_cc {c : Bool} {m : Nat} : addF c (.c n) (.c m) st = addC c (cellL st[n]?) (cellL st[m]?) st := by
  simp only [addF, seqL_c]
  cases cellL st[n]? <;> cases cellL st[m]? <;> rfl
@[simp] theorem addF_lc {c : Bool} {xs : List PyData} : addF c (.d (.list xs)) (.c n) st = addC c (some (xs.map .d)) (cellL st[n]?) st := by
  simp only [addF, seqL_c, seqL_d]
  cases cellL st[n]? <;> rfl
@[simp] theorem mulF_t1 {c : Bool} {xs : List PyData} : mulF c (.d (.tuple xs)) (.d (.int 1)) st = .ok (.d (.tuple xs)) st := by simp [mulF, seqL, seqT]
theorem mulF_tk {c : Bool} {xs : List PyData} {k : Int} (h0 : xs ≠ []) (h : 2 ≤ k ∧ k ≤ 1000) (h2 : xs.length ≤ 1000) : mulF c (.d (.tuple xs)) (.d (.int k)) st = .ok (.d (.tuple (List.replicate k.toNat xs).flatten)) st := by
  have e : (List.replicate k.toNat (xs.map Val.d)).flatten = (List.replicate k.toNat xs).flatten.map Val.d := by
    rw [List.map_flatten, List.map_replicate]
  have h1 : ¬ k = 1 := by omega
  simp only [mulF, seqL, seqT, if_neg h1]
  rw [if_pos ⟨by simpa using h0, h.1, h.2, by simpa using h2⟩, mkT_k, e, dats0]
  rfl
end
/-! loops -/
/-- a loop that returns v at the first item that fails -/
theorem for_all {α : Type} {st0 : Sto} {g : MTg} {body : MS} {kill : List Nat} {env : Z.Env} {st : Sto} (F : α → Val) (p : α → Bool) (v : Val) : ∀ (l : List α),
    (∀ a ∈ l, ∃ env1, g (F a) env = some env1 ∧ ((p a = true ∧ ∃ e2, (body env1 st = .next e2 st ∨ body env1 st = .cont e2 st) ∧ killE kill e2 = env) ∨ (p a = false ∧ body env1 st = .ret v st))) →
    forM none st0 g body kill (l.map F) env st = if l.all p then .next env st else .ret v st
  | [], _ => by simp [forM]
  | a :: l, h => by
    obtain ⟨env1, h1, h2⟩ := h a (by simp)
    have ih := for_all (st0 := st0) (g := g) (body := body) (kill := kill) F p v l fun b hb => h b (by simp [hb])
    rw [List.map_cons]
    unfold forM
    rw [if_pos (by simp)]
    simp only [h1]
    rcases h2 with ⟨hp, e2, hb, hk⟩ | ⟨hp, hb⟩
    · rcases hb with hb | hb <;> simp only [hb, hk, ih, List.all_cons, hp, Bool.true_and]
    · simp only [hb, List.all_cons, hp, Bool.false_and]; rfl
/-- a loop that carries a state -/
theorem for_fold {α σ : Type} {st0 : Sto} {g : MTg} {body : MS} {kill : List Nat} (F : α → Val) (E : σ → Z.Env) (S : σ → Sto) (step : σ → α → σ) (I : σ → Prop) : ∀ (l : List α) (s : σ), I s →
    (∀ a ∈ l, ∀ s, I s → ∃ env1, g (F a) (E s) = some env1 ∧ ∃ e2, (body env1 (S s) = .next e2 (S (step s a)) ∨ body env1 (S s) = .cont e2 (S (step s a))) ∧ killE kill e2 = E (step s a) ∧ I (step s a)) →
    forM none st0 g body kill (l.map F) (E s) (S s) = .next (E (l.foldl step s)) (S (l.foldl step s)) ∧ I (l.foldl step s)
  | [], s, h0, _ => by simp [forM, h0]
  | a :: l, s, h0, h => by
    obtain ⟨env1, h1, e2, h2, h3, h4⟩ := h a (by simp) s h0
    have ih := for_fold (st0 := st0) (g := g) (body := body) (kill := kill) F E S step I l (step s a) h4 fun b hb => h b (by simp [hb])
    rw [List.map_cons]
    unfold forM
    rw [if_pos (by simp)]
    simp only [h1, List.foldl_cons]
    rcases h2 with h2 | h2 <;> simp only [h2, h3] <;> exact ih
/-- a comprehension with a test -/
theorem lc_filt {α : Type} (f φ : α → Val) (p : α → Bool) {st0 : Sto} {g : MTg} {tt : MT} {el : ME} {env : Z.Env} {st : Sto} : ∀ (l : List α), (∀ a ∈ l, ∃ env1, g (f a) env = some env1 ∧ tt env1 st = .ok (p a) st ∧ (p a = true → el env1 st = .ok (φ a) st)) → lcM none st0 g tt el env (l.map f) st = .ok ((l.filter p).map φ) st
  | [], _ => by simp [lcM]
  | a :: l, h => by
    obtain ⟨env1, h1, h2, h3⟩ := h a (by simp)
    have ih := lc_filt f φ p (st0 := st0) (g := g) (tt := tt) (el := el) (env := env) (st := st) l fun b hb => h b (by simp [hb])
    rw [List.map_cons]
    unfold lcM
    rw [if_pos (by simp)]
    cases hp : p a with
    | true =>
      rw [hp] at h2
      simp only [h1, h2, h3 hp, ih, List.filter_cons, hp]
      rfl
    | false =>
      rw [hp] at h2
      simp only [h1, h2, ih, List.filter_cons, hp]
      rfl
theorem mlc_filt {α : Type} {own : List Nat} {mi : MI} {g : MTg} {tt : MT} {el : ME} {env : Z.Env} {st : Sto} (F : α → Val) (p : α → Bool) (φ : α → PyData) (l : List α) (hm : mi env st = .ok (l.map F, none, st) st) (hl : l.length ≤ 1000000)
    (h : ∀ a ∈ l, ∃ env1, g (F a) (killE own env) = some env1 ∧ tt env1 st = .ok (p a) st ∧ (p a = true → el env1 st = .ok (.d (φ a)) st)) : mLc false own mi g tt el env st = .ok (.d (.list ((l.filter p).map φ))) st := by
  have hh := lc_filt (st0 := st) (g := g) (tt := tt) (el := el) (env := killE own env) (st := st) F (fun a => .d (φ a)) p l h
  unfold mLc
  rw [hm]
  simp only [bind_ok, List.length_map]
  rw [if_pos (by show _ ≤ 16777216; omega), hh]
  simp [dats]
/-- a loop that ends at the first item with p -/
theorem for_find {α β : Type} {st0 : Sto} {g : MTg} {body : MS} {kill : List Nat} {st : Sto} (F : α → Val) (E : β → Z.Env) (p : α → Bool) (out : α → Fl) : ∀ (l : List α) (b : β),
    (∀ l1 a l2, l = l1 ++ a :: l2 → (∀ c ∈ l1, p c = false) → ∀ b, ∃ env1, g (F a) (E b) = some env1 ∧ ((p a = false ∧ ∃ e2 b2, (body env1 st = .next e2 st ∨ body env1 st = .cont e2 st) ∧ killE kill e2 = E b2) ∨ (p a = true ∧ body env1 st = out a ∧ ((∃ v s, out a = .ret v s) ∨ ∃ y e s, out a = .exc y e s)))) →
    (∃ b2, l.find? p = none ∧ forM none st0 g body kill (l.map F) (E b) st = .next (E b2) st) ∨ ∃ a, l.find? p = some a ∧ forM none st0 g body kill (l.map F) (E b) st = out a
  | [], b, _ => .inl ⟨b, rfl, by simp [forM]⟩
  | a :: l, b, h => by
    obtain ⟨env1, h1, h2⟩ := h [] a l rfl (by simp) b
    rw [List.map_cons]
    unfold forM
    rw [if_pos (by simp)]
    simp only [h1]
    rcases h2 with ⟨hp, e2, b2, hb, hk⟩ | ⟨hp, hb, ho⟩
    · have ih := for_find (st0 := st0) (g := g) (body := body) (kill := kill) (st := st) F E p out l b2 fun l1 c l2 he hc => h (a :: l1) c l2 (by rw [he]; rfl) fun d hd => by
        rcases List.mem_cons.mp hd with rfl | hd
        · exact hp
        · exact hc d hd
      rw [List.find?_cons_of_neg (by simp [hp])]
      rcases hb with hb | hb <;> simp only [hb, hk] <;> exact ih
    · refine .inr ⟨a, List.find?_cons_of_pos hp, ?_⟩
      rcases ho with ⟨v, s, ho⟩ | ⟨y, e, s, ho⟩
      · rw [ho] at hb ⊢; simp only [hb]
      · rw [ho] at hb ⊢; simp only [hb]
theorem range_cut {n i : Nat} {l1 l2 : List Nat} (h : List.range n = l1 ++ i :: l2) : l1 = List.range i ∧ i < n := by
  have hl : l1.length < n := by
    have := congrArg List.length h
    simp at this; omega
  have e1 : (List.range n)[l1.length]? = some i := by rw [h]; simp
  rw [List.getElem?_range hl] at e1
  have e1 := Option.some.inj e1
  subst e1
  refine ⟨?_, hl⟩
  have := congrArg (List.take l1.length) h
  rw [List.take_append_of_le_length (Nat.le_refl _), List.take_length, List.take_range, Nat.min_eq_left (by omega)] at this
  exact this.symm
end Z

namespace Z
open PySem PySem.Spec PyProof.Rows L2
section
variable {env : Z.Env} {st : Sto} {m mo : ME} {mr : MA} {n np : Nat} {u v : Val} {C f D : Str} {F : Fn} {fs : List (Str × Val)} {x : Exn}
@[simp] theorem ap_fld : mFld C f mo env st = (mo env st).bind (fldR C f) := (rfl)
@[simp] theorem fldK_i : fldK C f (some (.ins D fs)) st = if D = C then outV (fs.lookup f) st else .bad := (rfl)
@[simp] theorem fldR_c : fldR C f (.c n) st = fldK C f st[n]? st := (rfl)
@[simp] theorem ap_fldS : sFldS C f mo m env st = (m env st).flo env fun v st1 => (mo env st1).flo env fun x st2 => setR C f env v x st2 := (rfl)
@[simp] theorem setK_i : setK C f env v n (some (.ins D fs)) st = if D = C ∧ fs.length < 1000 then .next env (st.set n (.ins C (putZ f v fs))) else .bad := (rfl)
@[simp] theorem setR_c : setR C f env v (.c n) st = setK C f env v n st[n]? st := (rfl)
@[simp] theorem ap_meth {g : Str} : mMeth C g F np mo mr env st = (mo env st).bind fun x st1 => if isIns C g x st1 then (mr env st1).bind fun xs st2 => if xs.length + 1 = np then F (x :: xs) st2 else .bad else .bad := (rfl)
@[simp] theorem insK_i {g : Str} : insK C g (some (.ins D fs)) = (decide (D = C) && (fs.lookup g).isNone) := (rfl)
@[simp] theorem isIns_c {g : Str} : isIns C g (.c n) st = insK C g st[n]? := (rfl)
@[simp] theorem ap_make : mMake C F np mr env st = (mr env st).bind fun xs st1 => if xs.length + 1 = np then (F (.c st1.length :: xs) (st1 ++ [.ins C []])).bind (madeK st1.length) else .bad := (rfl)
@[simp] theorem madeK_n : madeK n (.d .none) st = .ok (.c n) st := (rfl)
@[simp] theorem ap_prop {g : Str} : mProp C g F mo env st = (mo env st).bind fun x st1 => if isIns C g x st1 then noX (F [x] st1) else .bad := (rfl)
@[simp] theorem noX_o : noX (.ok v st) = .ok v st := (rfl)
@[simp] theorem max1F_t {n : Int} {ns : List Int} : max1F [.d (.tuple (.int n :: ns.map .int))] st = .ok (.d (.int (ns.foldl max n))) st := by
  have : ∀ l : List Int, intsO (l.map .int) = some l := by
    intro l
    induction l with
    | nil => rfl
    | cons a l ih => simp [intsO, ih]
  simp [max1F, intsO, this]
def itK (n : Nat) (o : Option (List Val)) (st : Sto) : Out (List Val × Option Nat × Sto) := match o with
  | some xs => .ok (xs, some (2 * n), st) st
  | none => .bad
@[simp] theorem itK_s {us : List Val} : itK n (some us) st = .ok (us, some (2 * n), st) st := (rfl)
@[simp] theorem itF_c : itF (.c n) st = itK n (cellL st[n]?) st := by
  simp only [itF, seqR_c]
  cases cellL st[n]? <;> rfl
def zipK (n m : Nat) (o p : Option (List Val)) (st : Sto) : Out (List Val × Option Nat × Sto) := match o, p with
  | some xs, some ys => .ok (zipL xs ys, some (2 * (max n m + 1) + 1), st) st
  | _, _ => .bad
@[simp] theorem zipK_s {k : Nat} {us vs : List Val} : zipK n k (some us) (some vs) st = .ok (zipL us vs, some (2 * (max n k + 1) + 1), st) st := (rfl)
@[simp] theorem zipF_cc {k : Nat} : zipF (.c n) (.c k) st = zipK n k (cellL st[n]?) (cellL st[k]?) st := by
  simp only [zipF, seqL_c]
  cases cellL st[n]? <;> cases cellL st[k]? <;> rfl
@[simp] theorem gdP_self (o : Option Nat) (st : Sto) : gdP o st st = True := eq_true (gdP_refl o st)
end
end Z

namespace Lw
open PySem PySem.Spec PyProof.Rows L2 Z
/-! C1: texts: lengths, split and join, digits. -/
abbrev num (n : Nat) : Str := Str.ofString (toString (n : Int))
abbrev SP : Str := " "
abbrev NL : Str := "\n"
theorem joinL_len (S : List Nat) : ∀ l : List (List Nat), (TL.joinL S l).length ≤ (l.map List.length).sum + l.length * S.length
  | [] => by simp [TL.joinL]
  | [p] => by simp [TL.joinL]
  | p :: q :: r => by
    have := joinL_len S (q :: r)
    simp [TL.joinL, Nat.add_mul] at this ⊢
    omega
theorem join_len (a : Str) (ys : List Str) : (Txt.join a ys).length ≤ (ys.map (·.length)).sum + ys.length * a.length := by
  rw [TL.join_eq, TL.len_tl, TL.tl_join]
  have := joinL_len (TL.tl a) (ys.map TL.tl)
  rw [List.map_map, List.length_map] at this
  rw [TL.len_tl a]
  exact this
theorem app_len (a b : Str) : (a ++ b).length = a.length + b.length := by
  rw [TL.len_tl, TL.len_tl, TL.len_tl, TL.tl_append, List.length_append]
theorem sum_le {α : Type} (f : α → Nat) (B : Nat) : ∀ l : List α, (∀ a ∈ l, f a ≤ B) → (l.map f).sum ≤ l.length * B
  | [], _ => by simp
  | a :: l, h => by
    have h1 := sum_le f B l fun b hb => h b (by simp [hb])
    have h2 := h a (by simp)
    simp [Nat.add_mul]; omega
theorem join_le {a : Str} {ys : List Str} {B : Nat} (h : ∀ y ∈ ys, y.length ≤ B) : (Txt.join a ys).length ≤ ys.length * (B + a.length) := by
  have h1 := join_len a ys
  have h2 := sum_le (fun y : Str => y.length) B ys h
  rw [Nat.mul_add]; omega
theorem joinLen_sum {a : Str} {ys : List Str} (h : (ys.map (·.length)).sum + ys.length * a.length ≤ 16777216) : joinLen a ys = true := by
  unfold joinLen
  exact decide_eq_true h
theorem joinLen_ok {a : Str} {ys : List Str} {B : Nat} (h : ∀ y ∈ ys, y.length ≤ B) (h2 : ys.length * (B + a.length) ≤ 16777216) : joinLen a ys = true := by
  have h3 := sum_le (fun y : Str => y.length) B ys h
  rw [Nat.mul_add] at h2
  exact joinLen_sum (by omega)
theorem num_len {n : Nat} (h : n < 10) : (num n).length ≤ 1 := by
  rw [TL.len_tl, TL.tl_num]
  exact TL.numL_len (by decide) (by simpa using h)
theorem num_len1 {n : Nat} (h : n < 10) : (num n).length = 1 := by
  rw [TL.len_tl, TL.tl_num, TL.numL_lt h]; rfl
theorem log_ok {n : Nat} (h : n < 1000) : ((n : Int)).natAbs.log2 < 1920 := by
  have := Nat.log2_le_self n
  simp; omega
theorem str_num {n : Nat} {st : Sto} (h : n < 1000) : strF [vI n] st = .ok (vS (num n)) st := by
  rw [strF_i, if_pos (log_ok h)]
/-! split, then join -/
theorem joinL_cons (S p : List Nat) {l : List (List Nat)} (h : l ≠ []) : TL.joinL S (p :: l) = p ++ (S ++ TL.joinL S l) := by
  cases l with
  | nil => exact absurd rfl h
  | cons q r => rfl
theorem spl_ne (S : List Nat) : ∀ (l : List Nat) (k : Nat) (acc : List Nat), TL.spl S k acc l ≠ []
  | [], k, acc => by rw [TL.spl_nil]; simp
  | c :: r, 0, acc => by
    show (if TL.pre S (c :: r) = true then acc :: TL.spl S (S.length - 1) [] r else TL.spl S 0 (acc ++ [c]) r) ≠ []
    split
    · simp
    · exact spl_ne S r 0 _
  | c :: r, k + 1, acc => spl_ne S r k acc
theorem spl_drop (S : List Nat) : ∀ (k : Nat) (l acc : List Nat), TL.spl S k acc l = TL.spl S 0 acc (l.drop k)
  | 0, l, acc => by simp
  | k + 1, [], acc => by rw [TL.spl_nil]; simp [TL.spl_nil]
  | k + 1, c :: r, acc => by
    show TL.spl S k acc r = _
    rw [spl_drop S k r acc]; simp
theorem joinL_spl (S : List Nat) (hS : S ≠ []) : ∀ (n : Nat) (l acc : List Nat), l.length ≤ n → TL.joinL S (TL.spl S 0 acc l) = acc ++ l := by
  intro n
  induction n with
  | zero =>
    intro l acc h
    have : l = [] := List.eq_nil_of_length_eq_zero (by omega)
    subst this
    rw [TL.spl_nil]; simp [TL.joinL]
  | succ n ih =>
    intro l acc h
    cases l with
    | nil => rw [TL.spl_nil]; simp [TL.joinL]
    | cons c r =>
      cases hp : TL.pre S (c :: r) with
      | true =>
        rw [TL.spl_hit hp, joinL_cons S acc (spl_ne S r _ _), spl_drop S, ih (r.drop (S.length - 1)) [] (by simp at h ⊢; omega), List.nil_append]
        have e : S = (c :: r).take S.length := by
          unfold TL.pre at hp
          exact (beq_iff_eq.mp hp).symm
        have hl : S.length = S.length - 1 + 1 := by
          have := List.length_pos_iff.mpr hS
          omega
        have e2 : (c :: r).drop S.length = r.drop (S.length - 1) := by
          conv => lhs; rw [hl]
          rfl
        rw [← e2]
        congr 1
        conv => lhs; lhs; rw [e]
        exact List.take_append_drop _ _
      | false =>
        rw [TL.spl_miss hp, ih r (acc ++ [c]) (by simp at h; omega)]
        simp
theorem kind_of {y : Str} (h : y.cps.all (· < 256) = true) (x : Str) : ¬ Builtin.Str.strKind x < Builtin.Str.strKind y := TL.kind_ok h
theorem join_split {x y : Str} (hy : TL.tl y ≠ []) (hk : y.cps.all (· < 256) = true) : Txt.join y (Txt.split x y) = x := by
  apply TL.ext_tl
  rw [TL.join_eq, TL.tl_join, TL.split_spl x y hy (TL.kind_ok hk), joinL_spl _ hy (TL.tl x).length (TL.tl x) [] (Nat.le_refl _), List.nil_append]
theorem split_ne {x y : Str} (hy : TL.tl y ≠ []) (hk : y.cps.all (· < 256) = true) : Txt.split x y ≠ [] := by
  intro e
  have h := TL.split_spl x y hy (TL.kind_ok hk)
  rw [e] at h
  exact spl_ne _ _ _ _ h.symm
/-- all parts together are no longer than the text -/
theorem joinL_sum (S : List Nat) (hS : S ≠ []) : ∀ l : List (List Nat), (l.map List.length).sum + (l.length - 1) ≤ (TL.joinL S l).length
  | [] => by simp [TL.joinL]
  | [p] => by simp [TL.joinL]
  | p :: q :: r => by
    have := joinL_sum S hS (q :: r)
    have h2 := List.length_pos_iff.mpr hS
    simp [TL.joinL] at this ⊢
    omega
theorem split_sum {x y : Str} (hy : TL.tl y ≠ []) (hk : y.cps.all (· < 256) = true) : ((Txt.split x y).map (·.length)).sum + ((Txt.split x y).length - 1) ≤ x.length := by
  have h := joinL_sum (TL.tl y) hy ((Txt.split x y).map TL.tl)
  rw [← TL.tl_join, ← TL.join_eq, join_split hy hk, List.map_map, List.length_map, ← TL.len_tl] at h
  exact h
theorem le_sum {α : Type} (f : α → Nat) : ∀ (l : List α) (a : α), a ∈ l → f a ≤ (l.map f).sum
  | b :: l, a, h => by
    rcases List.mem_cons.mp h with rfl | h
    · simp
    · have := le_sum f l a h
      simp; omega
theorem split_part {x y p : Str} (hy : TL.tl y ≠ []) (hk : y.cps.all (· < 256) = true) (h : p ∈ Txt.split x y) : p.length ≤ x.length := by
  have := split_sum (x := x) hy hk
  have := le_sum (fun p : Str => p.length) _ _ h
  omega
theorem split_count {x y : Str} (hy : TL.tl y ≠ []) (hk : y.cps.all (· < 256) = true) : (Txt.split x y).length ≤ x.length + 1 := by
  have := split_sum (x := x) hy hk
  omega
theorem tl_sp : TL.tl SP = 32 :: [] := by decide +kernel
theorem tl_nl : TL.tl NL = 10 :: [] := by decide +kernel
theorem sp_ne : TL.tl SP ≠ [] := by rw [tl_sp]; simp
theorem nl_ne : TL.tl NL ≠ [] := by rw [tl_nl]; simp
theorem sp_k : SP.cps.all (· < 256) = true := by decide +kernel
theorem nl_k : NL.cps.all (· < 256) = true := by decide +kernel
theorem sp1 : SP.length = 1 := by decide +kernel
theorem nl1 : NL.length = 1 := by decide +kernel
theorem split_ev {x y : Str} {st : Sto} (h : x.length ≤ 1000000) (hy : y.length ≠ 0) : splitF x (vS y) st = .ok (.d (.list ((Txt.split x y).map .str))) st := by
  rw [splitF_s, if_pos ⟨hy, by omega⟩]
/-! digits -/
abbrev DIG : Str := "0123456789"
def isDig (w : Str) : Bool := (w.length == 1) && !(Builtin.Str.occurrences DIG w 0 DIG.length 1).isEmpty
theorem dig_num {w : Str} (h : isDig w = true) : ∃ d, d < 10 ∧ w = num d := by
  unfold isDig at h
  rw [Bool.and_eq_true] at h
  obtain ⟨h1, h2⟩ := h
  have h1 : w.length = 1 := by simpa using h1
  rw [TL.len_tl] at h1
  obtain ⟨c, hc⟩ := List.length_eq_one_iff.mp h1
  have e : w = ⟨#[c]⟩ := TL.ext_tl hc
  subst e
  rw [PySem.StrLaws.found_one DIG c] at h2
  have hm := of_decide_eq_true h2
  have key : ∀ c ∈ DIG.cps.toList, ∃ d, d < 10 ∧ c = 48 + d := by decide +kernel
  obtain ⟨d, hd, rfl⟩ := key c hm
  refine ⟨d, hd, TL.ext_tl ?_⟩
  rw [TL.tl_num, TL.numL_lt hd]
theorem dig_of {d : Nat} (h : d < 10) : isDig (num d) = true := by
  have key : ∀ d, d < 10 → isDig (num d) = true := by decide +kernel
  exact key d h
theorem in_str (a b : Str) : inD (.str a) (.str b) = some (!(Builtin.Str.occurrences b a 0 b.length 1).isEmpty) := (rfl)
theorem int_num_ok {n : Nat} (h : n < 10) (st : Sto) : intF [vS (num n)] st = .ok (vI n) st := by
  have e : PySem.intText? (num n) = some (n : Int) := by
    have : ∀ m, m < 10 → PySem.intText? (num m) = some (m : Int) := by decide +kernel
    exact this n h
  have l := num_len h
  unfold intF
  simp only [e]
  rw [if_pos (by omega)]
end Lw

namespace Lw
open PySem PySem.Spec PyProof.Rows L2 Z
/-! C2: data that the comparisons take. -/
def nice : Nat → PyData → Bool
  | _, .none => true
  | _, .bool _ => true
  | _, .int _ => true
  | _, .str x => PyData.strOk x
  | n + 1, .list xs => xs.all (nice n)
  | n + 1, .tuple xs => xs.all (nice n)
  | _, _ => false
theorem nice_all {n : Nat} (ih : ∀ d, nice n d = true → PyData.canLay0 d = true ∧ PyData.depth d ≤ n) : ∀ xs : List PyData, xs.all (nice n) = true → PyData.canLayAll0 xs = true ∧ PyData.depthAll xs ≤ n
  | [], _ => ⟨rfl, by simp [PyData.depthAll]⟩
  | x :: xs, h => by
    rw [List.all_cons, Bool.and_eq_true] at h
    obtain ⟨a, b⟩ := nice_all ih xs h.2
    obtain ⟨c, d⟩ := ih x h.1
    refine ⟨by simp [PyData.canLayAll0, a, c], ?_⟩
    simp only [PyData.depthAll]
    omega
theorem nice_ok : ∀ (n : Nat) (d : PyData), nice n d = true → PyData.canLay0 d = true ∧ PyData.depth d ≤ n
  | n, .none, _ => ⟨by simp [PyData.canLay0], by simp [PyData.depth]⟩
  | n, .bool _, _ => ⟨by simp [PyData.canLay0], by simp [PyData.depth]⟩
  | n, .int _, _ => ⟨by simp [PyData.canLay0], by simp [PyData.depth]⟩
  | n, .str x, h => by
    have h : PyData.strOk x = true := by cases n <;> exact h
    exact ⟨by simp [PyData.canLay0, h], by simp [PyData.depth]⟩
  | 0, .list _, h => by simp [nice] at h
  | 0, .tuple _, h => by simp [nice] at h
  | n + 1, .list xs, h => by
    obtain ⟨a, b⟩ := nice_all (nice_ok n) xs h
    exact ⟨by simpa [PyData.canLay0] using a, by simp only [PyData.depth]; omega⟩
  | n + 1, .tuple xs, h => by
    obtain ⟨a, b⟩ := nice_all (nice_ok n) xs h
    exact ⟨by simpa [PyData.canLay0] using a, by simp only [PyData.depth]; omega⟩
  | 0, .dict _, h => by simp [nice] at h
  | n + 1, .dict _, h => by simp [nice] at h
theorem nice_shaped {n : Nat} {d : PyData} (hn : n ≤ 40) (h : nice n d = true) : SeqAt.shaped d = true := by
  obtain ⟨a, b⟩ := nice_ok n d h
  unfold SeqAt.shaped
  rw [a, decide_eq_true (by omega)]; rfl
theorem nice_plain {n : Nat} {d : PyData} (h : nice n d = true) : PyData.plain d = true := PyData.plain_of_canLay0 d (nice_ok n d h).1
theorem nice_plainAll {n : Nat} {xs : List PyData} (h : xs.all (nice n) = true) : PyData.plainAll xs = true := PyData.plainAll_of_canLay0 xs (nice_all (nice_ok n) xs h).1
theorem nice_depth {n : Nat} {d : PyData} (h : nice n d = true) : PyData.depth d ≤ n := (nice_ok n d h).2
theorem nice_up {n : Nat} : ∀ {d : PyData}, nice n d = true → nice (n + 1) d = true := by
  induction n with
  | zero => intro d h; cases d <;> simp [nice] at h ⊢; exact h
  | succ n ih =>
    intro d h
    cases d with
    | list xs =>
      simp only [nice, List.all_eq_true] at h ⊢
      exact fun x hx => ih (h x hx)
    | tuple xs =>
      simp only [nice, List.all_eq_true] at h ⊢
      exact fun x hx => ih (h x hx)
    | dict _ => simp [nice] at h
    | _ => first | rfl | exact h
theorem nice_le {n m : Nat} {d : PyData} (hm : n ≤ m) (h : nice n d = true) : nice m d = true := by
  induction m with
  | zero => have : n = 0 := by omega
            subst this; exact h
  | succ m ih =>
    by_cases e : n = m + 1
    · subst e; exact h
    · exact nice_up (ih (by omega))
@[simp] theorem nice_int {n : Nat} {i : Int} : nice n (.int i) = true := by cases n <;> rfl
@[simp] theorem nice_bool {n : Nat} {i : Bool} : nice n (.bool i) = true := by cases n <;> rfl
@[simp] theorem nice_none {n : Nat} : nice n .none = true := by cases n <;> rfl
theorem eqv_refl {n : Nat} {d : PyData} (h : nice n d = true) : PyData.eqv d d = true := SeqAt.eqv_refl d (nice_ok n d h).1
theorem eqv_nn {d : PyData} : PyData.eqv d .none = noneB d := by cases d <;> rfl
/-- == of nested data -/
theorem eqD_list {n : Nat} {xs ys : List PyData} (hn : n ≤ 40) (h1 : nice n (.list xs) = true) (h2 : nice n (.list ys) = true) : eqD (.list xs) (.list ys) = some (PyData.eqv (.list xs) (.list ys)) := by
  show (if SeqAt.shaped (.list xs) && SeqAt.shaped (.list ys) then some (PyData.eqv (.list xs) (.list ys)) else none) = _
  rw [nice_shaped hn h1, nice_shaped hn h2]; rfl
theorem eqD_tup {n : Nat} {xs ys : List PyData} (hn : n ≤ 40) (h1 : nice n (.tuple xs) = true) (h2 : nice n (.tuple ys) = true) : eqD (.tuple xs) (.tuple ys) = some (PyData.eqv (.tuple xs) (.tuple ys)) := by
  show (if SeqAt.shaped (.tuple xs) && SeqAt.shaped (.tuple ys) then some (PyData.eqv (.tuple xs) (.tuple ys)) else none) = _
  rw [nice_shaped hn h1, nice_shaped hn h2]; rfl
theorem inD_list {n : Nat} {x : PyData} {ys : List PyData} (hn : n ≤ 40) (h1 : nice n x = true) (h2 : nice n (.list ys) = true) : inD x (.list ys) = some (ys.any fun z => PyData.eqv z x) := by
  show (if SeqAt.shaped x && SeqAt.shaped (.list ys) then some (ys.any fun z => PyData.eqv z x) else none) = _
  rw [nice_shaped hn h1, nice_shaped hn h2]; rfl
theorem inD_tup {n : Nat} {x : PyData} {ys : List PyData} (hn : n ≤ 40) (h1 : nice n x = true) (h2 : nice n (.tuple ys) = true) : inD x (.tuple ys) = some (ys.any fun z => PyData.eqv z x) := by
  show (if SeqAt.shaped x && SeqAt.shaped (.tuple ys) then some (ys.any fun z => PyData.eqv z x) else none) = _
  rw [nice_shaped hn h1, nice_shaped hn h2]; rfl
end Lw

namespace Lw
open PySem PySem.Spec PyProof.Rows L2 Z
def top (i : Nat) : Stmt := PySem.Challenge.pw_lanescounted_k88_no_house.main.body.getD i (.Pass ⟨0, 0, 0, 0⟩)
def meth (i j : Nat) : Stmt := match top i with
  | .ClassDef _ _ _ body _ _ _ _ _ _ _ => body.getD j (.Pass ⟨0, 0, 0, 0⟩)
  | s => s
abbrev FnTd (D : Wd) (x : Str) (st : Stmt) (ps : List Str) : Prop := ∃ f fd dvs kws, FunD D.K x x (defArgs st) (defBody st) (defScope st) dvs kws f fd ∧ D.mg x = some (.ref f) ∧ Binds D.K fd ps []
abbrev MeT (D : Wd) (C m q : Str) (st : Stmt) (ps : List Str) : Prop := ∃ Ca g fd, FunD D.K m q (defArgs st) (defBody st) (defScope st) [] [] g fd ∧ D.mg C = some (.ref Ca) ∧ Cls D.K Ca ∧ Meth D.K Ca m g ∧ Binds D.K fd ps []
abbrev PrT (D : Wd) (C m q : Str) (st : Stmt) (ps : List Str) : Prop := ∃ Ca p g fd, FunD D.K m q (defArgs st) (defBody st) (defScope st) [] [] g fd ∧ D.mg C = some (.ref Ca) ∧ Cls D.K Ca ∧ PropOf D.K Ca m p g ∧ Binds D.K fd ps []
abbrev MkT (D : Wd) (C q : Str) (st : Stmt) (ps : List Str) : Prop := ∃ Ca g fd, FunD D.K "__init__" q (defArgs st) (defBody st) (defScope st) [] [] g fd ∧ D.mg C = some (.ref Ca) ∧ Mk D.K Ca g ∧ Binds D.K fd ps []
abbrev FnT (D : Wd) (x : Str) (st : Stmt) (ps : List Str) : Prop := ∃ f fd, FunD D.K x x (defArgs st) (defBody st) (defScope st) [] [] f fd ∧ D.mg x = some (.ref f) ∧ Binds D.K fd ps []
def d_ADDED : PyData := .tuple [.str "sender"]
def d_NOTES : PyData := .tuple [.str "behind", .str "first", .str "with"]
def d_REFUSALS : PyData := .tuple [.str "back", .str "lost"]
def d_SHOWN_AT_ONCE : PyData := .tuple [.str "order", .str "twice", .str "lost", .str "late"]
def d_WORDS : PyData := .tuple [.str "show", .str "tell", .str "agree", .str "close", .str "clear", .str "drain", .str "copy", .str "open", .str "drop"]
structure Fx (D : Wd) : Prop where
  b_abs : D.mg "abs" = none
  b_all : D.mg "all" = none
  b_any : D.mg "any" = none
  b_bool : D.mg "bool" = none
  b_int : D.mg "int" = none
  b_isinstance : D.mg "isinstance" = none
  b_len : D.mg "len" = none
  b_list : D.mg "list" = none
  b_max : D.mg "max" = none
  b_min : D.mg "min" = none
  b_range : D.mg "range" = none
  b_str : D.mg "str" = none
  b_tuple : D.mg "tuple" = none
  b_zip : D.mg "zip" = none
  c_ADDED : ∃ a, D.mg "ADDED" = some (.ref a) ∧ ∀ G, Dq D.K G (.ref a) d_ADDED
  c_MOST_WORDS : ∃ u, D.mg "MOST_WORDS" = some u ∧ RelV (.int 15) u
  c_NOTES : ∃ a, D.mg "NOTES" = some (.ref a) ∧ ∀ G, Dq D.K G (.ref a) d_NOTES
  c_REFUSALS : ∃ a, D.mg "REFUSALS" = some (.ref a) ∧ ∀ G, Dq D.K G (.ref a) d_REFUSALS
  c_SHOWN_AT_ONCE : ∃ a, D.mg "SHOWN_AT_ONCE" = some (.ref a) ∧ ∀ G, Dq D.K G (.ref a) d_SHOWN_AT_ONCE
  c_WORDS : ∃ a, D.mg "WORDS" = some (.ref a) ∧ ∀ G, Dq D.K G (.ref a) d_WORDS
  at_House_deeds : AtF D "House" "deeds"
  at_House_origin : AtF D "House" "origin"
  at_House_stands : AtF D "House" "stands"
  at_House_told : AtF D "House" "told"
  hd_BadQuestion : HdT D "BadQuestion" [("BadHouse", false), ("BadQuestion", true), ("BadLane", false)]
  hd_LaneError : HdT D "LaneError" [("BadHouse", true), ("BadQuestion", true), ("BadLane", true)]
  ib_ValueError : BltT D "ValueError" "ValueError" [("BadHouse", true), ("BadQuestion", true), ("BadLane", true)]
  ic_BadCase : ClsT D "BadCase" [("BadHouse", false), ("BadQuestion", false), ("BadLane", false)]
  ic_BadHouse : ClsT D "BadHouse" [("BadHouse", true), ("BadQuestion", false), ("BadLane", false)]
  ic_BadText : ClsT D "BadText" [("BadHouse", false), ("BadQuestion", false), ("BadLane", false)]
  x0_BadHouse : ExcF D "BadHouse"
  x0_BadQuestion : ExcF D "BadQuestion"
  f__law_draws : FnT D "_law_draws" (top 52) ["_law_cell_here", "_law_sizes"]
  f__law_plan : FnT D "_law_plan" (top 54) ["_law_cell_here", "_law_most", "_law_shows"]
  f__law_cell : FnT D "_law_cell" (top 51) ["_law_script", "_law_k"]
  f__law_scheme : FnT D "_law_scheme" (top 53) ["_law_draws_here"]
  f__law_house : FnT D "_law_house" (top 55) ["_law_script", "_law_most", "_law_shows"]
  f__law_bad : FnT D "_law_bad" (top 57) ["_law_house_here", "_law_which", "_law_at"]
  f_is_one_of : FnT D "is_one_of" (top 16) ["thing", "words"]
  f_is_scheme : FnT D "is_scheme" (top 17) ["thing"]
  f_is_plan : FnT D "is_plan" (top 18) ["thing"]
  f_is_integer : FnT D "is_integer" (top 9) ["thing", "low", "high"]
  f_is_counts : FnT D "is_counts" (top 10) ["thing"]
  f_fit_together : FnT D "fit_together" (top 20) ["scheme", "plan", "counts"]
  f_is_course : FnT D "is_course" (top 19) ["thing", "counts"]
  f_is_house : FnT D "is_house" (top 21) ["thing"]
  f_need_house : FnT D "need_house" (top 22) ["house"]
  f_nothing_read : FnT D "nothing_read" (top 26) ["house"]
  f_first_state : FnT D "first_state" (top 27) ["house"]
  f_House___init__ : MkT D "House" "House.__init__" (meth 49 0) ["self", "house"]
  f_show_scheme : FnT D "show_scheme" (top 37) ["scheme"]
  f_show_plan : FnT D "show_plan" (top 38) ["plan"]
  f_show_numbers : FnT D "show_numbers" (top 39) ["numbers"]
  f_show_house : FnT D "show_house" (top 40) ["house"]
  f__law_refused : FnT D "_law_refused" (top 58) ["_law_which", "_law_bad_here"]
  f_need_question : FnTd D "need_question" (top 44) ["question", "allowed"]
  f_take_is_early : FnT D "take_is_early" (top 45) ["state", "key", "number"]
  f_shows_step : FnT D "shows_step" (top 46) ["question", "state", "events"]
  f_House_shows : MeT D "House" "shows" "House.shows" (meth 49 12) ["self", "question"]
  f__law_asked : FnT D "_law_asked" (top 59) ["_law_live", "_law_question"]
  f_House_run : MeT D "House" "run" "House.run" (meth 49 5) ["self"]
  f__law_same : FnT D "_law_same" (top 56) ["_law_actual", "_law_due"]
  f_law : FnT D "law" (top 60) ["_law_script"]
/-! _law_draws -/
noncomputable def lb__law_draws_1 : MS :=
  (sIf (mAnd (mCmp geF (mVar 3) (mBin powF (mD (.int 10)) (mD (.int 18)))) (mCmp gtF (mVar 4) (mD (.int 0))))
  (sSeq (sDrop (mApp (mVar 5) (mBin modF (mB intF (mCons (mVar 4) mNil)) (mIx (mVar 1) (mVar 6)))))
  (sSet 4 (mBin fdivF (mVar 4) (mIx (mVar 1) (mVar 6)))))
  (sSeq (sSet 7 (mBin modF (mB intF (mCons (mBin (addF false) (mBin (addF false) (mBin (addF false) (mBin (mulF false) (mVar 3) (mD (.int 48271))) (mBin (mulF false) (mBin (mulF false) (mVar 6) (mVar 6)) (mD (.int 7919)))) (mBin (mulF false) (mVar 6) (mD (.int 69621)))) (mD (.int 11))) mNil)) (mIx (mVar 2) (mBin modF (mVar 6) (mD (.int 8))))))
  (sSeq (sSet 7 (mBin modF (mB intF (mCons (mBin (addF false) (mBin (mulF false) (mVar 7) (mVar 7)) (mBin (mulF false) (mD (.int 40692)) (mVar 6))) mNil)) (mIx (mVar 2) (mBin modF (mBin (addF false) (mVar 6) (mD (.int 3))) (mD (.int 8))))))
  (sDrop (mApp (mVar 5) (mBin modF (mB intF (mCons (mVar 7) mNil)) (mIx (mVar 1) (mVar 6))))))))
noncomputable def l__law_draws_1 : MS :=
  sFor (mRg1 (mB lenF (mCons (mVar 1) mNil))) (gN 6) lb__law_draws_1 [6, 7]

abbrev N__law_draws : List Str := ["_law_cell_here", "_law_sizes", "_law_primes", "_law_base", "_law_rest", "_law_row", "_law_k", "_law_mixed"]
theorem sc__law_draws : FnScope N__law_draws ["_law_cell_here", "_law_sizes"] (defScope (top 52)) := ⟨rfl, rfl, rfl, by decide +kernel, rfl, by decide +kernel, by decide +kernel⟩
noncomputable def m__law_draws : MS :=
  (sSeq (sSet 2 (mLst false (mCons (mD (.int 2147483647)) (mCons (mD (.int 1999999973)) (mCons (mD (.int 1073741789)) (mCons (mD (.int 998244353)) (mCons (mD (.int 1000000007)) (mCons (mD (.int 1000000009)) (mCons (mD (.int 536870909)) (mCons (mD (.int 805306457)) mNil))))))))))
  (sSeq (sSet 3 (mB absF (mCons (mB intF (mCons (mVar 0) mNil)) mNil)))
  (sSeq (sSet 4 (mVar 3))
  (sSeq (sSet 5 (mLst true mNil))
  (sSeq l__law_draws_1
  (sRet (mVar 5)))))))
noncomputable def F__law_draws : Fn := runF 8 m__law_draws
theorem b__law_draws {D : Wd} (h : Fx D) {k : Nat} {X : Cx} {W : WX}  (gs : Gs D X W N__law_draws (.df (defScope (top 52))) k) : SB X W (defBody (top 52)) m__law_draws :=
  (sb_cons (ss_set gs.toGd 2 rfl rfl (se_lst false (sa_cons se_int (sa_cons se_int (sa_cons se_int (sa_cons se_int (sa_cons se_int (sa_cons se_int (sa_cons se_int (sa_cons se_int sa_nil))))))))))
  (sb_cons (ss_set gs.toGd 3 rfl rfl (se_callB gs.toGd cb_abs rfl h.b_abs (by with_unfolding_all rfl) (sa_cons (se_callT gs.toGd cb_int rfl h.b_int (by with_unfolding_all rfl) (sa_cons (se_var gs.toGd 0 rfl rfl) sa_nil)) sa_nil)))
  (sb_cons (ss_set gs.toGd 4 rfl rfl (se_var gs.toGd 3 rfl rfl))
  (sb_cons (ss_set gs.toGd 5 rfl rfl (se_lst true sa_nil))
  (sb_cons (ss_for [6, 7] gs (si_range1 gs.toGd rfl h.b_range (se_callB gs.toGd cb_len rfl h.b_len (by with_unfolding_all rfl) (sa_cons (se_var gs.toGd 1 rfl rfl) sa_nil))) (sg_name gs.toGd 6 rfl rfl)
  (sb_one (ss_if (st_w (sw_and (st_cmp cm_ge (se_var gs.toGd 3 rfl rfl) (se_bin op2_pow se_int se_int) (by with_unfolding_all rfl)) (sw_and1 (st_cmp cm_gt (se_var gs.toGd 4 rfl rfl) se_int (by with_unfolding_all rfl)))))
  (sb_cons (ss_expr (se_append (se_var gs.toGd 5 rfl rfl) (se_bin op2_mod (se_callT gs.toGd cb_int rfl h.b_int (by with_unfolding_all rfl) (sa_cons (se_var gs.toGd 4 rfl rfl) sa_nil)) (se_ix (se_var gs.toGd 1 rfl rfl) (se_var gs.toGd 6 rfl rfl)))))
  (sb_one (ss_set gs.toGd 4 rfl rfl (se_bin op2_fdiv (se_var gs.toGd 4 rfl rfl) (se_ix (se_var gs.toGd 1 rfl rfl) (se_var gs.toGd 6 rfl rfl))))))
  (sb_cons (ss_set gs.toGd 7 rfl rfl (se_bin op2_mod (se_callT gs.toGd cb_int rfl h.b_int (by with_unfolding_all rfl) (sa_cons (se_bin (op2_add false) (se_bin (op2_add false) (se_bin (op2_add false) (se_bin (op2_mul false) (se_var gs.toGd 3 rfl rfl) se_int) (se_bin (op2_mul false) (se_bin (op2_mul false) (se_var gs.toGd 6 rfl rfl) (se_var gs.toGd 6 rfl rfl)) se_int)) (se_bin (op2_mul false) (se_var gs.toGd 6 rfl rfl) se_int)) se_int) sa_nil)) (se_ix (se_var gs.toGd 2 rfl rfl) (se_bin op2_mod (se_var gs.toGd 6 rfl rfl) se_int))))
  (sb_cons (ss_set gs.toGd 7 rfl rfl (se_bin op2_mod (se_callT gs.toGd cb_int rfl h.b_int (by with_unfolding_all rfl) (sa_cons (se_bin (op2_add false) (se_bin (op2_mul false) (se_var gs.toGd 7 rfl rfl) (se_var gs.toGd 7 rfl rfl)) (se_bin (op2_mul false) se_int (se_var gs.toGd 6 rfl rfl))) sa_nil)) (se_ix (se_var gs.toGd 2 rfl rfl) (se_bin op2_mod (se_bin (op2_add false) (se_var gs.toGd 6 rfl rfl) se_int) se_int))))
  (sb_one (ss_expr (se_append (se_var gs.toGd 5 rfl rfl) (se_bin op2_mod (se_callT gs.toGd cb_int rfl h.b_int (by with_unfolding_all rfl) (sa_cons (se_var gs.toGd 7 rfl rfl) sa_nil)) (se_ix (se_var gs.toGd 1 rfl rfl) (se_var gs.toGd 6 rfl rfl)))))))))))
  (sb_one (ss_ret (se_var gs.toGd 5 rfl rfl))))))))
theorem t__law_draws {D : Wd} (h : Fx D) : FnF D "_law_draws" 1 2 F__law_draws := by
  obtain ⟨f, fd, F, hm, hb⟩ := h.f__law_draws
  exact fnF_mk (k := 0) F sc__law_draws rfl hm hb fun X W gs => b__law_draws h  gs
/-! _law_plan -/
noncomputable def c__law_plan_1 : ME :=
  mLc false [8] (mIt (mSl false (mVar 5) (mOSome (mD (.int 8))) (mOSome (mBin (addF false) (mD (.int 8)) (mIx (mVar 5) (mD (.int 4))))))) (gN 8) mYes (mIx (mVar 3) (mVar 8))

abbrev N__law_plan : List Str := ["_law_cell_here", "_law_most", "_law_shows", "_law_words", "_law_bases", "_law_draws_here", "_law_plan_here", "_law_at", "_law_k"]
theorem sc__law_plan : FnScope N__law_plan ["_law_cell_here", "_law_most", "_law_shows"] (defScope (top 54)) := ⟨rfl, rfl, rfl, by decide +kernel, rfl, by decide +kernel, by decide +kernel⟩
noncomputable def m__law_plan : MS :=
  (sSeq (sSet 3 (mLst false (mCons (mD (.str "tell")) (mCons (mD (.str "agree")) (mCons (mD (.str "close")) (mCons (mD (.str "clear")) (mCons (mD (.str "drain")) (mCons (mD (.str "copy")) (mCons (mD (.str "open")) (mCons (mD (.str "drop")) mNil))))))))))
  (sSeq (sSet 4 (mLst false (mCons (mLst false (mCons (mD (.str "show")) (mCons (mD (.str "close")) (mCons (mD (.str "drain")) (mCons (mD (.str "open")) mNil))))) (mCons (mLst false (mCons (mD (.str "show")) (mCons (mD (.str "tell")) (mCons (mD (.str "agree")) (mCons (mD (.str "clear")) (mCons (mD (.str "open")) (mCons (mD (.str "drop")) mNil))))))) mNil))))
  (sSeq (sSet 4 (mBin (addF false) (mVar 4) (mLst false (mCons (mLst false (mCons (mD (.str "show")) (mCons (mD (.str "close")) (mCons (mD (.str "copy")) (mCons (mD (.str "drain")) (mCons (mD (.str "open")) (mCons (mD (.str "tell")) mNil))))))) (mCons (mLst false (mCons (mD (.str "show")) (mCons (mD (.str "open")) (mCons (mD (.str "tell")) (mCons (mD (.str "drain")) (mCons (mD (.str "drop")) mNil)))))) mNil)))))
  (sSeq (sSet 5 (mCallP F__law_draws 2 (mCons (mVar 0) (mCons (mBin (addF false) (mLst false (mCons (mD (.int 2)) (mCons (mD (.int 4)) (mCons (mD (.int 8)) (mCons (mD (.int 3)) (mCons (mVar 1) (mCons (mD (.int 16)) (mCons (mD (.int 3)) (mCons (mD (.int 16)) mNil))))))))) (mBin (mulF false) (mLst false (mCons (mD (.int 8)) mNil)) (mVar 1))) mNil))))
  (sSeq (sSet 6 c__law_plan_1)
  (sSeq (sSet 7 (mBin modF (mIx (mVar 5) (mD (.int 5))) (mBin (addF false) (mB lenF (mCons (mVar 6) mNil)) (mD (.int 1)))))
  (sSeq (sSet 6 (mBin (addF false) (mBin (addF false) (mSl false (mVar 6) mONone (mOSome (mVar 7))) (mLst false (mCons (mD (.str "show")) mNil))) (mSl false (mVar 6) (mOSome (mVar 7)) mONone)))
  (sSeq (sIf (mCmp eqF (mIx (mVar 5) (mD (.int 0))) (mD (.int 1)))
  (sSeq (sSet 6 (mSl false (mIx (mVar 4) (mIx (mVar 5) (mD (.int 1)))) mONone (mOSome (mVar 1))))
  (sSeq (sSet 7 (mBin (addF false) (mD (.int 1)) (mBin modF (mIx (mVar 5) (mD (.int 2))) (mB max2F (mCons (mD (.int 1)) (mCons (mBin subF (mB lenF (mCons (mVar 6) mNil)) (mD (.int 1))) mNil))))))
  (sSeq (sIf (mCmp eqF (mIx (mVar 5) (mD (.int 3))) (mD (.int 1)))
  (sSet 6 (mBin (addF false) (mSl false (mVar 6) mONone (mOSome (mVar 7))) (mSl false (mVar 6) (mOSome (mBin (addF false) (mVar 7) (mD (.int 1)))) mONone)))
  sNext)
  (sIf (mAnd (mCmp eqF (mIx (mVar 5) (mD (.int 3))) (mD (.int 2))) (mCmp ltF (mVar 7) (mB lenF (mCons (mVar 6) mNil))))
  (sSet 6 (mBin (addF false) (mBin (addF false) (mSl false (mVar 6) mONone (mOSome (mVar 7))) (mLst false (mCons (mIx (mVar 3) (mIx (mVar 5) (mD (.int 8)))) mNil))) (mSl false (mVar 6) (mOSome (mBin (addF false) (mVar 7) (mD (.int 1)))) mONone)))
  sNext))))
  sNext)
  (sSeq (sIf (mAnd (mCmp eqF (mVar 2) (mD (.int 2))) (mAnd (mCmp eqF (mIx (mVar 5) (mD (.int 6))) (mD (.int 1))) (mCmp ltF (mB lenF (mCons (mVar 6) mNil)) (mVar 1))))
  (sSeq (sSet 7 (mBin modF (mIx (mVar 5) (mD (.int 7))) (mBin (addF false) (mB lenF (mCons (mVar 6) mNil)) (mD (.int 1)))))
  (sSet 6 (mBin (addF false) (mBin (addF false) (mSl false (mVar 6) mONone (mOSome (mVar 7))) (mLst false (mCons (mD (.str "show")) mNil))) (mSl false (mVar 6) (mOSome (mVar 7)) mONone))))
  sNext)
  (sRet (mB tupF (mCons (mVar 6) mNil))))))))))))
noncomputable def F__law_plan : Fn := runF 9 m__law_plan
theorem b__law_plan {D : Wd} (h : Fx D) {k : Nat} {X : Cx} {W : WX} (hk__law_draws : 1 ≤ k) (gs : Gs D X W N__law_plan (.df (defScope (top 54))) k) : SB X W (defBody (top 54)) m__law_plan :=
  (sb_cons (ss_set gs.toGd 3 rfl rfl (se_lst false (sa_cons se_str (sa_cons se_str (sa_cons se_str (sa_cons se_str (sa_cons se_str (sa_cons se_str (sa_cons se_str (sa_cons se_str sa_nil))))))))))
  (sb_cons (ss_set gs.toGd 4 rfl rfl (se_lst false (sa_cons (se_lst false (sa_cons se_str (sa_cons se_str (sa_cons se_str (sa_cons se_str sa_nil))))) (sa_cons (se_lst false (sa_cons se_str (sa_cons se_str (sa_cons se_str (sa_cons se_str (sa_cons se_str (sa_cons se_str sa_nil))))))) sa_nil))))
  (sb_cons (ss_set gs.toGd 4 rfl rfl (se_bin (op2_add false) (se_var gs.toGd 4 rfl rfl) (se_lst false (sa_cons (se_lst false (sa_cons se_str (sa_cons se_str (sa_cons se_str (sa_cons se_str (sa_cons se_str (sa_cons se_str sa_nil))))))) (sa_cons (se_lst false (sa_cons se_str (sa_cons se_str (sa_cons se_str (sa_cons se_str (sa_cons se_str sa_nil)))))) sa_nil)))))
  (sb_cons (ss_set gs.toGd 5 rfl rfl (se_callP gs.toGd (t__law_draws h) hk__law_draws rfl (sa_cons (se_var gs.toGd 0 rfl rfl) (sa_cons (se_bin (op2_add false) (se_lst false (sa_cons se_int (sa_cons se_int (sa_cons se_int (sa_cons se_int (sa_cons (se_var gs.toGd 1 rfl rfl) (sa_cons se_int (sa_cons se_int (sa_cons se_int sa_nil))))))))) (se_bin (op2_mul false) (se_lst false (sa_cons se_int sa_nil)) (se_var gs.toGd 1 rfl rfl))) sa_nil))))
  (sb_cons (ss_setLc false 6 (own := [("_law_k", 8)]) gs.toGd rfl rfl rfl (by decide) rfl (by decide) (si_seq (se_sl false (se_var gs.toGd 5 rfl rfl) (so_some se_int) (so_some (se_bin (op2_add false) se_int (se_ix (se_var gs.toGd 5 rfl rfl) se_int))))) (by decide) (by decide +kernel) (fun X' g' => (sg_name g' 8 rfl rfl)) (fun X' g' => pts_no) (fun X' g' => (se_ix (se_var g' 3 rfl rfl) (se_var g' 8 rfl rfl))))
  (sb_cons (ss_set gs.toGd 7 rfl rfl (se_bin op2_mod (se_ix (se_var gs.toGd 5 rfl rfl) se_int) (se_bin (op2_add false) (se_callB gs.toGd cb_len rfl h.b_len (by with_unfolding_all rfl) (sa_cons (se_var gs.toGd 6 rfl rfl) sa_nil)) se_int)))
  (sb_cons (ss_set gs.toGd 6 rfl rfl (se_bin (op2_add false) (se_bin (op2_add false) (se_sl false (se_var gs.toGd 6 rfl rfl) so_none (so_some (se_var gs.toGd 7 rfl rfl))) (se_lst false (sa_cons se_str sa_nil))) (se_sl false (se_var gs.toGd 6 rfl rfl) (so_some (se_var gs.toGd 7 rfl rfl)) so_none)))
  (sb_cons (ss_if (st_cmp (cm_eq gs.toGd.room) (se_ix (se_var gs.toGd 5 rfl rfl) se_int) se_int (by with_unfolding_all rfl))
  (sb_cons (ss_set gs.toGd 6 rfl rfl (se_sl false (se_ix (se_var gs.toGd 4 rfl rfl) (se_ix (se_var gs.toGd 5 rfl rfl) se_int)) so_none (so_some (se_var gs.toGd 1 rfl rfl))))
  (sb_cons (ss_set gs.toGd 7 rfl rfl (se_bin (op2_add false) se_int (se_bin op2_mod (se_ix (se_var gs.toGd 5 rfl rfl) se_int) (se_callB gs.toGd (cb_max2 gs.toGd.calm) rfl h.b_max (by with_unfolding_all rfl) (sa_cons se_int (sa_cons (se_bin op2_sub (se_callB gs.toGd cb_len rfl h.b_len (by with_unfolding_all rfl) (sa_cons (se_var gs.toGd 6 rfl rfl) sa_nil)) se_int) sa_nil))))))
  (sb_cons (ss_if (st_cmp (cm_eq gs.toGd.room) (se_ix (se_var gs.toGd 5 rfl rfl) se_int) se_int (by with_unfolding_all rfl))
  (sb_one (ss_set gs.toGd 6 rfl rfl (se_bin (op2_add false) (se_sl false (se_var gs.toGd 6 rfl rfl) so_none (so_some (se_var gs.toGd 7 rfl rfl))) (se_sl false (se_var gs.toGd 6 rfl rfl) (so_some (se_bin (op2_add false) (se_var gs.toGd 7 rfl rfl) se_int)) so_none))))
  sb_nil)
  (sb_one (ss_if (st_w (sw_and (st_cmp (cm_eq gs.toGd.room) (se_ix (se_var gs.toGd 5 rfl rfl) se_int) se_int (by with_unfolding_all rfl)) (sw_and1 (st_cmp cm_lt (se_var gs.toGd 7 rfl rfl) (se_callB gs.toGd cb_len rfl h.b_len (by with_unfolding_all rfl) (sa_cons (se_var gs.toGd 6 rfl rfl) sa_nil)) (by with_unfolding_all rfl)))))
  (sb_one (ss_set gs.toGd 6 rfl rfl (se_bin (op2_add false) (se_bin (op2_add false) (se_sl false (se_var gs.toGd 6 rfl rfl) so_none (so_some (se_var gs.toGd 7 rfl rfl))) (se_lst false (sa_cons (se_ix (se_var gs.toGd 3 rfl rfl) (se_ix (se_var gs.toGd 5 rfl rfl) se_int)) sa_nil))) (se_sl false (se_var gs.toGd 6 rfl rfl) (so_some (se_bin (op2_add false) (se_var gs.toGd 7 rfl rfl) se_int)) so_none))))
  sb_nil)))))
  sb_nil)
  (sb_cons (ss_if (st_w (sw_and (st_cmp (cm_eq gs.toGd.room) (se_var gs.toGd 2 rfl rfl) se_int (by with_unfolding_all rfl)) (sw_and (st_cmp (cm_eq gs.toGd.room) (se_ix (se_var gs.toGd 5 rfl rfl) se_int) se_int (by with_unfolding_all rfl)) (sw_and1 (st_cmp cm_lt (se_callB gs.toGd cb_len rfl h.b_len (by with_unfolding_all rfl) (sa_cons (se_var gs.toGd 6 rfl rfl) sa_nil)) (se_var gs.toGd 1 rfl rfl) (by with_unfolding_all rfl))))))
  (sb_cons (ss_set gs.toGd 7 rfl rfl (se_bin op2_mod (se_ix (se_var gs.toGd 5 rfl rfl) se_int) (se_bin (op2_add false) (se_callB gs.toGd cb_len rfl h.b_len (by with_unfolding_all rfl) (sa_cons (se_var gs.toGd 6 rfl rfl) sa_nil)) se_int)))
  (sb_one (ss_set gs.toGd 6 rfl rfl (se_bin (op2_add false) (se_bin (op2_add false) (se_sl false (se_var gs.toGd 6 rfl rfl) so_none (so_some (se_var gs.toGd 7 rfl rfl))) (se_lst false (sa_cons se_str sa_nil))) (se_sl false (se_var gs.toGd 6 rfl rfl) (so_some (se_var gs.toGd 7 rfl rfl)) so_none)))))
  sb_nil)
  (sb_one (ss_ret (se_callT gs.toGd cb_tup rfl h.b_tuple (by with_unfolding_all rfl) (sa_cons (se_var gs.toGd 6 rfl rfl) sa_nil)))))))))))))
theorem t__law_plan {D : Wd} (h : Fx D) : FnF D "_law_plan" 2 3 F__law_plan := by
  obtain ⟨f, fd, F, hm, hb⟩ := h.f__law_plan
  exact fnF_mk (k := 1) F sc__law_plan rfl hm hb fun X W gs => b__law_plan h (by omega) gs
/-! _law_cell -/

abbrev N__law_cell : List Str := ["_law_script", "_law_k"]
theorem sc__law_cell : FnScope N__law_cell ["_law_script", "_law_k"] (defScope (top 51)) := ⟨rfl, rfl, rfl, by decide +kernel, rfl, by decide +kernel, by decide +kernel⟩
noncomputable def m__law_cell : MS :=
  (sSeq (sIf (mCmp ltF (mVar 1) (mB lenF (mCons (mVar 0) mNil)))
  (sRet (mIx (mVar 0) (mVar 1)))
  sNext)
  (sRet (mD (.int 0))))
noncomputable def F__law_cell : Fn := runF 2 m__law_cell
theorem b__law_cell {D : Wd} (h : Fx D) {k : Nat} {X : Cx} {W : WX}  (gs : Gs D X W N__law_cell (.df (defScope (top 51))) k) : SB X W (defBody (top 51)) m__law_cell :=
  (sb_cons (ss_if (st_cmp cm_lt (se_var gs.toGd 1 rfl rfl) (se_callB gs.toGd cb_len rfl h.b_len (by with_unfolding_all rfl) (sa_cons (se_var gs.toGd 0 rfl rfl) sa_nil)) (by with_unfolding_all rfl))
  (sb_one (ss_ret (se_ix (se_var gs.toGd 0 rfl rfl) (se_var gs.toGd 1 rfl rfl))))
  sb_nil)
  (sb_one (ss_ret se_int)))
theorem t__law_cell {D : Wd} (h : Fx D) : FnF D "_law_cell" 1 2 F__law_cell := by
  obtain ⟨f, fd, F, hm, hb⟩ := h.f__law_cell
  exact fnF_mk (k := 0) F sc__law_cell rfl hm hb fun X W gs => b__law_cell h  gs
/-! _law_scheme -/

abbrev N__law_scheme : List Str := ["_law_draws_here", "_law_notes"]
theorem sc__law_scheme : FnScope N__law_scheme ["_law_draws_here"] (defScope (top 53)) := ⟨rfl, rfl, rfl, by decide +kernel, rfl, by decide +kernel, by decide +kernel⟩
noncomputable def m__law_scheme : MS :=
  (sSeq (sSet 1 (mIx (mLst false (mCons (mD (.str "behind")) (mCons (mD (.str "first")) (mCons (mD (.str "with")) mNil)))) (mIx (mVar 0) (mD (.int 3)))))
  (sRet (mTup (mCons (mBv (mCmp eqF (mIx (mVar 0) (mD (.int 0))) (mD (.int 1)))) (mCons (mBv (mCmp eqF (mIx (mVar 0) (mD (.int 1))) (mD (.int 1)))) (mCons (mIx (mLst false (mCons (mD (.str "back")) (mCons (mD (.str "lost")) mNil))) (mIx (mVar 0) (mD (.int 2)))) (mCons (mVar 1) (mCons (mBv (mCmp eqF (mIx (mVar 0) (mD (.int 4))) (mD (.int 1)))) mNil))))))))
noncomputable def F__law_scheme : Fn := runF 2 m__law_scheme
theorem b__law_scheme {D : Wd} (h : Fx D) {k : Nat} {X : Cx} {W : WX}  (gs : Gs D X W N__law_scheme (.df (defScope (top 53))) k) : SB X W (defBody (top 53)) m__law_scheme :=
  (sb_cons (ss_set gs.toGd 1 rfl rfl (se_ix (se_lst false (sa_cons se_str (sa_cons se_str (sa_cons se_str sa_nil)))) (se_ix (se_var gs.toGd 0 rfl rfl) se_int)))
  (sb_one (ss_ret (se_tup (sa_cons (se_cmp (cm_eq gs.toGd.room) (se_ix (se_var gs.toGd 0 rfl rfl) se_int) se_int (by with_unfolding_all rfl)) (sa_cons (se_cmp (cm_eq gs.toGd.room) (se_ix (se_var gs.toGd 0 rfl rfl) se_int) se_int (by with_unfolding_all rfl)) (sa_cons (se_ix (se_lst false (sa_cons se_str (sa_cons se_str sa_nil))) (se_ix (se_var gs.toGd 0 rfl rfl) se_int)) (sa_cons (se_var gs.toGd 1 rfl rfl) (sa_cons (se_cmp (cm_eq gs.toGd.room) (se_ix (se_var gs.toGd 0 rfl rfl) se_int) se_int (by with_unfolding_all rfl)) sa_nil)))))))))
theorem t__law_scheme {D : Wd} (h : Fx D) : FnF D "_law_scheme" 1 1 F__law_scheme := by
  obtain ⟨f, fd, F, hm, hb⟩ := h.f__law_scheme
  exact fnF_mk (k := 0) F sc__law_scheme rfl hm hb fun X W gs => b__law_scheme h  gs
/-! _law_house -/
noncomputable def c__law_house_1 : ME :=
  mLc false [11] (mIt (mSl false (mVar 4) (mOSome (mD (.int 5))) (mOSome (mBin (addF false) (mD (.int 5)) (mVar 6))))) (gN 11) mYes (mBin (addF false) (mD (.int 1)) (mVar 11))
noncomputable def c__law_house_2 : ME :=
  mLc false [12] (mRg1 (mVar 6)) (gN 12) mYes (mBin modF (mIx (mVar 4) (mBin (addF false) (mBin (addF false) (mD (.int 13)) (mBin (mulF false) (mD (.int 3)) (mVar 9))) (mVar 12))) (mIx (mVar 7) (mVar 12)))
noncomputable def lb__law_house_1 : MS :=
  (sDrop (mApp (mVar 8) (mB tupF (mCons c__law_house_2 mNil))))
noncomputable def l__law_house_1 : MS :=
  sFor (mRg1 (mBin (addF false) (mD (.int 1)) (mIx (mVar 4) (mD (.int 8))))) (gN 9) lb__law_house_1 [9]
noncomputable def c__law_house_3 : ME :=
  mLc false [9] (mRg1 (mB lenF (mCons (mVar 8) mNil))) (gN 9) mYes (mBin (addF false) (mD (.int 1)) (mIx (mVar 4) (mBin (addF false) (mD (.int 10)) (mVar 9))))

abbrev N__law_house : List Str := ["_law_script", "_law_most", "_law_shows", "_law_sizes", "_law_draws_here", "_law_plan_here", "_law_editions", "_law_counts", "_law_courses", "_law_key", "_law_letters", "_law_many", "_law_k"]
theorem sc__law_house : FnScope N__law_house ["_law_script", "_law_most", "_law_shows"] (defScope (top 55)) := ⟨rfl, rfl, rfl, by decide +kernel, rfl, by decide +kernel, by decide +kernel⟩
noncomputable def m__law_house : MS :=
  (sSeq (sSet 3 (mBin (addF false) (mBin (addF false) (mBin (addF false) (mBin (addF false) (mLst false (mCons (mD (.int 2)) (mCons (mD (.int 2)) (mCons (mD (.int 2)) (mCons (mD (.int 3)) (mCons (mD (.int 2)) mNil)))))) (mBin (mulF false) (mLst false (mCons (mD (.int 4)) mNil)) (mD (.int 3)))) (mLst false (mCons (mD (.int 3)) (mCons (mD (.int 3)) mNil)))) (mBin (mulF false) (mLst false (mCons (mD (.int 3)) mNil)) (mD (.int 3)))) (mBin (mulF false) (mLst false (mCons (mD (.int 4)) mNil)) (mD (.int 9)))))
  (sSeq (sSet 4 (mCallP F__law_draws 2 (mCons (mCallP F__law_cell 2 (mCons (mVar 0) (mCons (mD (.int 0)) mNil))) (mCons (mVar 3) mNil))))
  (sSeq (sSet 5 (mCallP F__law_plan 3 (mCons (mCallP F__law_cell 2 (mCons (mVar 0) (mCons (mD (.int 1)) mNil))) (mCons (mVar 1) (mCons (mVar 2) mNil)))))
  (sSeq (sSet 6 (mBin (addF false) (mTCnt (mVar 5) (mD (.str "show"))) (mD (.int 1))))
  (sSeq (sSet 7 (mB tupF (mCons c__law_house_1 mNil)))
  (sSeq (sSet 8 (mLst true mNil))
  (sSeq l__law_house_1
  (sSeq (sSet 10 (mB tupF (mCons c__law_house_3 mNil)))
  (sRet (mTup (mCons (mCallP F__law_scheme 1 (mCons (mVar 4) mNil)) (mCons (mVar 5) (mCons (mVar 7) (mCons (mB tupF (mCons (mVar 8) mNil)) (mCons (mVar 10) (mCons (mBin (addF false) (mD (.int 1)) (mIx (mVar 4) (mD (.int 9)))) mNil))))))))))))))))
noncomputable def F__law_house : Fn := runF 13 m__law_house
theorem b__law_house {D : Wd} (h : Fx D) {k : Nat} {X : Cx} {W : WX} (hk__law_cell : 1 ≤ k) (hk__law_draws : 1 ≤ k) (hk__law_plan : 2 ≤ k) (hk__law_scheme : 1 ≤ k) (gs : Gs D X W N__law_house (.df (defScope (top 55))) k) : SB X W (defBody (top 55)) m__law_house :=
  (sb_cons (ss_set gs.toGd 3 rfl rfl (se_bin (op2_add false) (se_bin (op2_add false) (se_bin (op2_add false) (se_bin (op2_add false) (se_lst false (sa_cons se_int (sa_cons se_int (sa_cons se_int (sa_cons se_int (sa_cons se_int sa_nil)))))) (se_bin (op2_mul false) (se_lst false (sa_cons se_int sa_nil)) se_int)) (se_lst false (sa_cons se_int (sa_cons se_int sa_nil)))) (se_bin (op2_mul false) (se_lst false (sa_cons se_int sa_nil)) se_int)) (se_bin (op2_mul false) (se_lst false (sa_cons se_int sa_nil)) se_int)))
  (sb_cons (ss_set gs.toGd 4 rfl rfl (se_callP gs.toGd (t__law_draws h) hk__law_draws rfl (sa_cons (se_callP gs.toGd (t__law_cell h) hk__law_cell rfl (sa_cons (se_var gs.toGd 0 rfl rfl) (sa_cons se_int sa_nil))) (sa_cons (se_var gs.toGd 3 rfl rfl) sa_nil))))
  (sb_cons (ss_set gs.toGd 5 rfl rfl (se_callP gs.toGd (t__law_plan h) hk__law_plan rfl (sa_cons (se_callP gs.toGd (t__law_cell h) hk__law_cell rfl (sa_cons (se_var gs.toGd 0 rfl rfl) (sa_cons se_int sa_nil))) (sa_cons (se_var gs.toGd 1 rfl rfl) (sa_cons (se_var gs.toGd 2 rfl rfl) sa_nil)))))
  (sb_cons (ss_set gs.toGd 6 rfl rfl (se_bin (op2_add false) (se_tcount gs.toGd (se_var gs.toGd 5 rfl rfl) se_str) se_int))
  (sb_cons (ss_set gs.toGd 7 rfl rfl (se_callT gs.toGd cb_tup rfl h.b_tuple (by with_unfolding_all rfl) (sa_cons (se_lc false (own := [("_law_many", 11)]) gs.toGd (si_seq (se_sl false (se_var gs.toGd 4 rfl rfl) (so_some se_int) (so_some (se_bin (op2_add false) se_int (se_var gs.toGd 6 rfl rfl))))) (by decide) (by decide +kernel) (fun X' g' => (sg_name g' 11 rfl rfl)) (fun X' g' => pts_no) (fun X' g' => (se_bin (op2_add false) se_int (se_var g' 11 rfl rfl)))) sa_nil)))
  (sb_cons (ss_set gs.toGd 8 rfl rfl (se_lst true sa_nil))
  (sb_cons (ss_for [9] gs (si_range1 gs.toGd rfl h.b_range (se_bin (op2_add false) se_int (se_ix (se_var gs.toGd 4 rfl rfl) se_int))) (sg_name gs.toGd 9 rfl rfl)
  (sb_one (ss_expr (se_append (se_var gs.toGd 8 rfl rfl) (se_callT gs.toGd cb_tup rfl h.b_tuple (by with_unfolding_all rfl) (sa_cons (se_lc false (own := [("_law_k", 12)]) gs.toGd (si_range1 gs.toGd rfl h.b_range (se_var gs.toGd 6 rfl rfl)) (by decide) (by decide +kernel) (fun X' g' => (sg_name g' 12 rfl rfl)) (fun X' g' => pts_no) (fun X' g' => (se_bin op2_mod (se_ix (se_var g' 4 rfl rfl) (se_bin (op2_add false) (se_bin (op2_add false) se_int (se_bin (op2_mul false) se_int (se_var g' 9 rfl rfl))) (se_var g' 12 rfl rfl))) (se_ix (se_var g' 7 rfl rfl) (se_var g' 12 rfl rfl))))) sa_nil))))))
  (sb_cons (ss_set gs.toGd 10 rfl rfl (se_callT gs.toGd cb_tup rfl h.b_tuple (by with_unfolding_all rfl) (sa_cons (se_lc false (own := [("_law_key", 9)]) gs.toGd (si_range1 gs.toGd rfl h.b_range (se_callB gs.toGd cb_len rfl h.b_len (by with_unfolding_all rfl) (sa_cons (se_var gs.toGd 8 rfl rfl) sa_nil))) (by decide) (by decide +kernel) (fun X' g' => (sg_name g' 9 rfl rfl)) (fun X' g' => pts_no) (fun X' g' => (se_bin (op2_add false) se_int (se_ix (se_var g' 4 rfl rfl) (se_bin (op2_add false) se_int (se_var g' 9 rfl rfl)))))) sa_nil)))
  (sb_one (ss_ret (se_tup (sa_cons (se_callP gs.toGd (t__law_scheme h) hk__law_scheme rfl (sa_cons (se_var gs.toGd 4 rfl rfl) sa_nil)) (sa_cons (se_var gs.toGd 5 rfl rfl) (sa_cons (se_var gs.toGd 7 rfl rfl) (sa_cons (se_callT gs.toGd cb_tup rfl h.b_tuple (by with_unfolding_all rfl) (sa_cons (se_var gs.toGd 8 rfl rfl) sa_nil)) (sa_cons (se_var gs.toGd 10 rfl rfl) (sa_cons (se_bin (op2_add false) se_int (se_ix (se_var gs.toGd 4 rfl rfl) se_int)) sa_nil)))))))))))))))))
theorem t__law_house {D : Wd} (h : Fx D) : FnF D "_law_house" 3 3 F__law_house := by
  obtain ⟨f, fd, F, hm, hb⟩ := h.f__law_house
  exact fnF_mk (k := 2) F sc__law_house rfl hm hb fun X W gs => b__law_house h (by omega) (by omega) (by omega) (by omega) gs
/-! _law_bad -/

abbrev N__law_bad : List Str := ["_law_house_here", "_law_which", "_law_at", "_law_key", "_law_scheme_here", "_law_plan_here", "_law_counts", "_law_courses", "_law_letters", "_law_senders", "_law_long", "_law_bad_here"]
theorem sc__law_bad : FnScope N__law_bad ["_law_house_here", "_law_which", "_law_at"] (defScope (top 57)) := ⟨rfl, rfl, rfl, by decide +kernel, rfl, by decide +kernel, by decide +kernel⟩
noncomputable def m__law_bad : MS :=
  (sSeq (sAsg (mVar 0) (gT 6 (gsCons (gN 4) (gsCons (gN 5) (gsCons (gN 6) (gsCons (gN 7) (gsCons (gN 8) (gsCons (gN 9) gsNil))))))))
  (sSeq (sSet 3 (mBin modF (mVar 2) (mB lenF (mCons (mVar 7) mNil))))
  (sSeq (sIf (mCmp eqF (mVar 1) (mD (.int 0)))
  (sRet (mIx (mLst false (mCons (mB (listF false) (mCons (mVar 0) mNil)) (mCons (mSl false (mVar 0) mONone (mOSome (mD (.int 5)))) (mCons (mBin (addF false) (mVar 0) (mTup (mCons (mD (.int 1)) mNil))) (mCons (mD .none) (mCons (mD (.str "house")) mNil)))))) (mBin modF (mVar 2) (mD (.int 5)))))
  sNext)
  (sSeq (sIf (mCmp eqF (mVar 1) (mD (.int 1)))
  (sSet 4 (mIx (mLst false (mCons (mSl false (mVar 4) mONone (mOSome (mD (.int 4)))) (mCons (mB (listF false) (mCons (mVar 4) mNil)) (mCons (mBin (addF false) (mTup (mCons (mD (.int 1)) mNil)) (mSl false (mVar 4) (mOSome (mD (.int 1))) mONone)) (mCons (mBin (addF false) (mBin (addF false) (mSl false (mVar 4) mONone (mOSome (mD (.int 2)))) (mTup (mCons (mD (.str "gone")) mNil))) (mSl false (mVar 4) (mOSome (mD (.int 3))) mONone)) mNil))))) (mBin modF (mVar 2) (mD (.int 4)))))
  sNext)
  (sSeq (sIf (mCmp eqF (mVar 1) (mD (.int 2)))
  (sSeq (sSet 10 (mBin (addF false) (mTup (mCons (mD (.str "show")) mNil)) (mBin (mulF false) (mTup (mCons (mD (.str "tell")) mNil)) (mD (.int 15)))))
  (sSet 5 (mIx (mLst false (mCons (mTup mNil) (mCons (mTup (mCons (mD (.str "open")) mNil)) (mCons (mB (listF false) (mCons (mVar 5) mNil)) (mCons (mBin (addF false) (mVar 5) (mTup (mCons (mD (.str "shut")) mNil))) (mCons (mBin (addF false) (mVar 5) (mTup (mCons (mD (.str "show")) (mCons (mD (.str "show")) mNil)))) (mCons (mVar 10) mNil))))))) (mBin modF (mVar 2) (mD (.int 6))))))
  sNext)
  (sSeq (sIf (mCmp eqF (mVar 1) (mD (.int 3)))
  (sSet 6 (mIx (mLst false (mCons (mSl false (mVar 6) mONone (mOSome (mD (.int 1)))) (mCons (mBin (addF false) (mVar 6) (mBin (mulF false) (mTup (mCons (mD (.int 1)) mNil)) (mB lenF (mCons (mVar 6) mNil)))) (mCons (mBin (addF false) (mTup (mCons (mD (.int 0)) mNil)) (mSl false (mVar 6) (mOSome (mD (.int 1))) mONone)) (mCons (mBin (addF false) (mTup (mCons (mD (.int 5)) mNil)) (mSl false (mVar 6) (mOSome (mD (.int 1))) mONone)) (mCons (mB (listF false) (mCons (mVar 6) mNil)) mNil)))))) (mBin modF (mVar 2) (mD (.int 5)))))
  sNext)
  (sSeq (sIf (mCmp eqF (mVar 1) (mD (.int 4)))
  (sSeq (sSet 11 (mLst false (mCons (mSl false (mIx (mVar 7) (mVar 3)) mONone (mOSome (mD (.int 1)))) (mCons (mBin (addF false) (mIx (mVar 7) (mVar 3)) (mTup (mCons (mD (.int 0)) mNil))) (mCons (mBin (addF false) (mTup (mCons (mIx (mVar 6) (mD (.int 0))) mNil)) (mSl false (mIx (mVar 7) (mVar 3)) (mOSome (mD (.int 1))) mONone)) (mCons (mBin (addF false) (mTup (mCons (mUn negF (mD (.int 1))) mNil)) (mSl false (mIx (mVar 7) (mVar 3)) (mOSome (mD (.int 1))) mONone)) (mCons (mD .none) mNil)))))))
  (sSet 7 (mBin (addF false) (mBin (addF false) (mSl false (mVar 7) mONone (mOSome (mVar 3))) (mTup (mCons (mIx (mVar 11) (mBin modF (mBin fdivF (mVar 2) (mD (.int 3))) (mD (.int 5)))) mNil))) (mSl false (mVar 7) (mOSome (mBin (addF false) (mVar 3) (mD (.int 1)))) mONone))))
  sNext)
  (sSeq (sIf (mCmp eqF (mVar 1) (mD (.int 5)))
  (sSet 8 (mBin (addF false) (mBin (addF false) (mSl false (mVar 8) mONone (mOSome (mVar 3))) (mTup (mCons (mIx (mLst false (mCons (mD (.int 0)) (mCons (mD (.int 4)) (mCons (mD (.bool true)) (mCons (mD .none) mNil))))) (mBin modF (mBin fdivF (mVar 2) (mD (.int 3))) (mD (.int 4)))) mNil))) (mSl false (mVar 8) (mOSome (mBin (addF false) (mVar 3) (mD (.int 1)))) mONone)))
  sNext)
  (sSeq (sIf (mCmp eqF (mVar 1) (mD (.int 6)))
  (sSet 9 (mIx (mLst false (mCons (mD (.int 0)) (mCons (mD (.int 4)) (mCons (mD (.bool true)) (mCons (mD .none) (mCons (mD (.str "1")) mNil)))))) (mBin modF (mVar 2) (mD (.int 5)))))
  sNext)
  (sSeq (sIf (mCmp eqF (mVar 1) (mD (.int 7)))
  (sSeq (sSet 7 (mBin (mulF false) (mVar 7) (mD (.int 4))))
  (sSet 8 (mBin (mulF false) (mVar 8) (mD (.int 4)))))
  sNext)
  (sSeq (sIf (mCmp eqF (mVar 1) (mD (.int 8)))
  (sSet 8 (mBin (addF false) (mVar 8) (mTup (mCons (mD (.int 1)) mNil))))
  sNext)
  (sRet (mTup (mCons (mVar 4) (mCons (mVar 5) (mCons (mVar 6) (mCons (mVar 7) (mCons (mVar 8) (mCons (mVar 9) mNil)))))))))))))))))))
noncomputable def F__law_bad : Fn := runF 12 m__law_bad
theorem b__law_bad {D : Wd} (h : Fx D) {k : Nat} {X : Cx} {W : WX}  (gs : Gs D X W N__law_bad (.df (defScope (top 57))) k) : SB X W (defBody (top 57)) m__law_bad :=
  (sb_cons (ss_asg (se_var gs.toGd 0 rfl rfl) (sg_tup gs.toGd (sgs_cons (sg_name gs.toGd 4 rfl rfl) (sgs_cons (sg_name gs.toGd 5 rfl rfl) (sgs_cons (sg_name gs.toGd 6 rfl rfl) (sgs_cons (sg_name gs.toGd 7 rfl rfl) (sgs_cons (sg_name gs.toGd 8 rfl rfl) (sgs_cons (sg_name gs.toGd 9 rfl rfl) sgs_nil))))))))
  (sb_cons (ss_set gs.toGd 3 rfl rfl (se_bin op2_mod (se_var gs.toGd 2 rfl rfl) (se_callB gs.toGd cb_len rfl h.b_len (by with_unfolding_all rfl) (sa_cons (se_var gs.toGd 7 rfl rfl) sa_nil))))
  (sb_cons (ss_if (st_cmp (cm_eq gs.toGd.room) (se_var gs.toGd 1 rfl rfl) se_int (by with_unfolding_all rfl))
  (sb_one (ss_ret (se_ix (se_lst false (sa_cons (se_callT gs.toGd (cb_list false) rfl h.b_list (by with_unfolding_all rfl) (sa_cons (se_var gs.toGd 0 rfl rfl) sa_nil)) (sa_cons (se_sl false (se_var gs.toGd 0 rfl rfl) so_none (so_some se_int)) (sa_cons (se_bin (op2_add false) (se_var gs.toGd 0 rfl rfl) (se_tup (sa_cons se_int sa_nil))) (sa_cons se_non (sa_cons se_str sa_nil)))))) (se_bin op2_mod (se_var gs.toGd 2 rfl rfl) se_int))))
  sb_nil)
  (sb_cons (ss_if (st_cmp (cm_eq gs.toGd.room) (se_var gs.toGd 1 rfl rfl) se_int (by with_unfolding_all rfl))
  (sb_one (ss_set gs.toGd 4 rfl rfl (se_ix (se_lst false (sa_cons (se_sl false (se_var gs.toGd 4 rfl rfl) so_none (so_some se_int)) (sa_cons (se_callT gs.toGd (cb_list false) rfl h.b_list (by with_unfolding_all rfl) (sa_cons (se_var gs.toGd 4 rfl rfl) sa_nil)) (sa_cons (se_bin (op2_add false) (se_tup (sa_cons se_int sa_nil)) (se_sl false (se_var gs.toGd 4 rfl rfl) (so_some se_int) so_none)) (sa_cons (se_bin (op2_add false) (se_bin (op2_add false) (se_sl false (se_var gs.toGd 4 rfl rfl) so_none (so_some se_int)) (se_tup (sa_cons se_str sa_nil))) (se_sl false (se_var gs.toGd 4 rfl rfl) (so_some se_int) so_none)) sa_nil))))) (se_bin op2_mod (se_var gs.toGd 2 rfl rfl) se_int))))
  sb_nil)
  (sb_cons (ss_if (st_cmp (cm_eq gs.toGd.room) (se_var gs.toGd 1 rfl rfl) se_int (by with_unfolding_all rfl))
  (sb_cons (ss_set gs.toGd 10 rfl rfl (se_bin (op2_add false) (se_tup (sa_cons se_str sa_nil)) (se_bin (op2_mul false) (se_tup (sa_cons se_str sa_nil)) se_int)))
  (sb_one (ss_set gs.toGd 5 rfl rfl (se_ix (se_lst false (sa_cons (se_tup sa_nil) (sa_cons (se_tup (sa_cons se_str sa_nil)) (sa_cons (se_callT gs.toGd (cb_list false) rfl h.b_list (by with_unfolding_all rfl) (sa_cons (se_var gs.toGd 5 rfl rfl) sa_nil)) (sa_cons (se_bin (op2_add false) (se_var gs.toGd 5 rfl rfl) (se_tup (sa_cons se_str sa_nil))) (sa_cons (se_bin (op2_add false) (se_var gs.toGd 5 rfl rfl) (se_tup (sa_cons se_str (sa_cons se_str sa_nil)))) (sa_cons (se_var gs.toGd 10 rfl rfl) sa_nil))))))) (se_bin op2_mod (se_var gs.toGd 2 rfl rfl) se_int)))))
  sb_nil)
  (sb_cons (ss_if (st_cmp (cm_eq gs.toGd.room) (se_var gs.toGd 1 rfl rfl) se_int (by with_unfolding_all rfl))
  (sb_one (ss_set gs.toGd 6 rfl rfl (se_ix (se_lst false (sa_cons (se_sl false (se_var gs.toGd 6 rfl rfl) so_none (so_some se_int)) (sa_cons (se_bin (op2_add false) (se_var gs.toGd 6 rfl rfl) (se_bin (op2_mul false) (se_tup (sa_cons se_int sa_nil)) (se_callB gs.toGd cb_len rfl h.b_len (by with_unfolding_all rfl) (sa_cons (se_var gs.toGd 6 rfl rfl) sa_nil)))) (sa_cons (se_bin (op2_add false) (se_tup (sa_cons se_int sa_nil)) (se_sl false (se_var gs.toGd 6 rfl rfl) (so_some se_int) so_none)) (sa_cons (se_bin (op2_add false) (se_tup (sa_cons se_int sa_nil)) (se_sl false (se_var gs.toGd 6 rfl rfl) (so_some se_int) so_none)) (sa_cons (se_callT gs.toGd (cb_list false) rfl h.b_list (by with_unfolding_all rfl) (sa_cons (se_var gs.toGd 6 rfl rfl) sa_nil)) sa_nil)))))) (se_bin op2_mod (se_var gs.toGd 2 rfl rfl) se_int))))
  sb_nil)
  (sb_cons (ss_if (st_cmp (cm_eq gs.toGd.room) (se_var gs.toGd 1 rfl rfl) se_int (by with_unfolding_all rfl))
  (sb_cons (ss_set gs.toGd 11 rfl rfl (se_lst false (sa_cons (se_sl false (se_ix (se_var gs.toGd 7 rfl rfl) (se_var gs.toGd 3 rfl rfl)) so_none (so_some se_int)) (sa_cons (se_bin (op2_add false) (se_ix (se_var gs.toGd 7 rfl rfl) (se_var gs.toGd 3 rfl rfl)) (se_tup (sa_cons se_int sa_nil))) (sa_cons (se_bin (op2_add false) (se_tup (sa_cons (se_ix (se_var gs.toGd 6 rfl rfl) se_int) sa_nil)) (se_sl false (se_ix (se_var gs.toGd 7 rfl rfl) (se_var gs.toGd 3 rfl rfl)) (so_some se_int) so_none)) (sa_cons (se_bin (op2_add false) (se_tup (sa_cons (se_un op1_neg se_int) sa_nil)) (se_sl false (se_ix (se_var gs.toGd 7 rfl rfl) (se_var gs.toGd 3 rfl rfl)) (so_some se_int) so_none)) (sa_cons se_non sa_nil)))))))
  (sb_one (ss_set gs.toGd 7 rfl rfl (se_bin (op2_add false) (se_bin (op2_add false) (se_sl false (se_var gs.toGd 7 rfl rfl) so_none (so_some (se_var gs.toGd 3 rfl rfl))) (se_tup (sa_cons (se_ix (se_var gs.toGd 11 rfl rfl) (se_bin op2_mod (se_bin op2_fdiv (se_var gs.toGd 2 rfl rfl) se_int) se_int)) sa_nil))) (se_sl false (se_var gs.toGd 7 rfl rfl) (so_some (se_bin (op2_add false) (se_var gs.toGd 3 rfl rfl) se_int)) so_none)))))
  sb_nil)
  (sb_cons (ss_if (st_cmp (cm_eq gs.toGd.room) (se_var gs.toGd 1 rfl rfl) se_int (by with_unfolding_all rfl))
  (sb_one (ss_set gs.toGd 8 rfl rfl (se_bin (op2_add false) (se_bin (op2_add false) (se_sl false (se_var gs.toGd 8 rfl rfl) so_none (so_some (se_var gs.toGd 3 rfl rfl))) (se_tup (sa_cons (se_ix (se_lst false (sa_cons se_int (sa_cons se_int (sa_cons se_bl (sa_cons se_non sa_nil))))) (se_bin op2_mod (se_bin op2_fdiv (se_var gs.toGd 2 rfl rfl) se_int) se_int)) sa_nil))) (se_sl false (se_var gs.toGd 8 rfl rfl) (so_some (se_bin (op2_add false) (se_var gs.toGd 3 rfl rfl) se_int)) so_none))))
  sb_nil)
  (sb_cons (ss_if (st_cmp (cm_eq gs.toGd.room) (se_var gs.toGd 1 rfl rfl) se_int (by with_unfolding_all rfl))
  (sb_one (ss_set gs.toGd 9 rfl rfl (se_ix (se_lst false (sa_cons se_int (sa_cons se_int (sa_cons se_bl (sa_cons se_non (sa_cons se_str sa_nil)))))) (se_bin op2_mod (se_var gs.toGd 2 rfl rfl) se_int))))
  sb_nil)
  (sb_cons (ss_if (st_cmp (cm_eq gs.toGd.room) (se_var gs.toGd 1 rfl rfl) se_int (by with_unfolding_all rfl))
  (sb_cons (ss_set gs.toGd 7 rfl rfl (se_bin (op2_mul false) (se_var gs.toGd 7 rfl rfl) se_int))
  (sb_one (ss_set gs.toGd 8 rfl rfl (se_bin (op2_mul false) (se_var gs.toGd 8 rfl rfl) se_int))))
  sb_nil)
  (sb_cons (ss_if (st_cmp (cm_eq gs.toGd.room) (se_var gs.toGd 1 rfl rfl) se_int (by with_unfolding_all rfl))
  (sb_one (ss_set gs.toGd 8 rfl rfl (se_bin (op2_add false) (se_var gs.toGd 8 rfl rfl) (se_tup (sa_cons se_int sa_nil)))))
  sb_nil)
  (sb_one (ss_ret (se_tup (sa_cons (se_var gs.toGd 4 rfl rfl) (sa_cons (se_var gs.toGd 5 rfl rfl) (sa_cons (se_var gs.toGd 6 rfl rfl) (sa_cons (se_var gs.toGd 7 rfl rfl) (sa_cons (se_var gs.toGd 8 rfl rfl) (sa_cons (se_var gs.toGd 9 rfl rfl) sa_nil))))))))))))))))))))
theorem t__law_bad {D : Wd} (h : Fx D) : FnF D "_law_bad" 1 3 F__law_bad := by
  obtain ⟨f, fd, F, hm, hb⟩ := h.f__law_bad
  exact fnF_mk (k := 0) F sc__law_bad rfl hm hb fun X W gs => b__law_bad h  gs
/-! is_one_of -/

abbrev N_is_one_of : List Str := ["thing", "words"]
theorem sc_is_one_of : FnScope N_is_one_of ["thing", "words"] (defScope (top 16)) := ⟨rfl, rfl, rfl, by decide +kernel, rfl, by decide +kernel, by decide +kernel⟩
noncomputable def m_is_one_of : MS :=
  (sRet (mAndV (mIsa .str (mVar 0)) (mBv (mCmp inF (mVar 0) (mVar 1)))))
noncomputable def F_is_one_of : Fn := runF 2 m_is_one_of
theorem b_is_one_of {D : Wd} (h : Fx D) {k : Nat} {X : Cx} {W : WX}  (gs : Gs D X W N_is_one_of (.df (defScope (top 16))) k) : SB X W (defBody (top 16)) m_is_one_of :=
  (sb_one (ss_ret (se_and (se_isa gs.toGd .str (by decide) rfl h.b_isinstance rfl h.b_str (by with_unfolding_all rfl) (se_var gs.toGd 0 rfl rfl)) (se_one (se_cmp (cm_in gs.toGd.room) (se_var gs.toGd 0 rfl rfl) (se_var gs.toGd 1 rfl rfl) (by with_unfolding_all rfl))))))
theorem t_is_one_of {D : Wd} (h : Fx D) : FnF D "is_one_of" 1 2 F_is_one_of := by
  obtain ⟨f, fd, F, hm, hb⟩ := h.f_is_one_of
  exact fnF_mk (k := 0) F sc_is_one_of rfl hm hb fun X W gs => b_is_one_of h  gs
/-! is_scheme -/
noncomputable def c_is_scheme_1 : ME :=
  mLc false [1] (mIt (mTup (mCons (mD (.int 0)) (mCons (mD (.int 1)) (mCons (mD (.int 4)) mNil))))) (gN 1) mYes (mIsa .bool (mIx (mVar 0) (mVar 1)))

abbrev N_is_scheme : List Str := ["thing", "at"]
theorem sc_is_scheme : FnScope N_is_scheme ["thing"] (defScope (top 17)) := ⟨rfl, rfl, rfl, by decide +kernel, rfl, by decide +kernel, by decide +kernel⟩
noncomputable def m_is_scheme : MS :=
  (sSeq (sIf (mOr (mNot (mTru (mIsa .tuple (mVar 0)))) (mCmp neF (mB lenF (mCons (mVar 0) mNil)) (mD (.int 5))))
  (sRet (mD (.bool false)))
  sNext)
  (sSeq (sIf (mNot (mTru (mB allF (mCons c_is_scheme_1 mNil))))
  (sRet (mD (.bool false)))
  sNext)
  (sRet (mAndV (mCallP F_is_one_of 2 (mCons (mIx (mVar 0) (mD (.int 2))) (mCons (mD d_REFUSALS) mNil))) (mCallP F_is_one_of 2 (mCons (mIx (mVar 0) (mD (.int 3))) (mCons (mD d_NOTES) mNil)))))))
noncomputable def F_is_scheme : Fn := runF 2 m_is_scheme
theorem b_is_scheme {D : Wd} (h : Fx D) {k : Nat} {X : Cx} {W : WX} (hk_is_one_of : 1 ≤ k) (gs : Gs D X W N_is_scheme (.df (defScope (top 17))) k) : SB X W (defBody (top 17)) m_is_scheme :=
  (sb_cons (ss_if (st_w (sw_or (st_not (st_tru (se_isa gs.toGd .tuple (by decide) rfl h.b_isinstance rfl h.b_tuple (by with_unfolding_all rfl) (se_var gs.toGd 0 rfl rfl)))) (sw_or1 (st_cmp (cm_ne gs.toGd.room) (se_callB gs.toGd cb_len rfl h.b_len (by with_unfolding_all rfl) (sa_cons (se_var gs.toGd 0 rfl rfl) sa_nil)) se_int (by with_unfolding_all rfl)))))
  (sb_one (ss_ret se_bl))
  sb_nil)
  (sb_cons (ss_if (st_not (st_tru (se_callB gs.toGd (cb_all gs.toGd.calm) rfl h.b_all (by with_unfolding_all rfl) (sa_cons (se_lc false (own := [("at", 1)]) gs.toGd (si_seq (se_tup (sa_cons se_int (sa_cons se_int (sa_cons se_int sa_nil))))) (by decide) (by decide +kernel) (fun X' g' => (sg_name g' 1 rfl rfl)) (fun X' g' => pts_no) (fun X' g' => (se_isa g' .bool (by decide) rfl h.b_isinstance rfl h.b_bool (by with_unfolding_all rfl) (se_ix (se_var g' 0 rfl rfl) (se_var g' 1 rfl rfl))))) sa_nil))))
  (sb_one (ss_ret se_bl))
  sb_nil)
  (sb_one (ss_ret (se_and (se_callP gs.toGd (t_is_one_of h) hk_is_one_of rfl (sa_cons (se_ix (se_var gs.toGd 0 rfl rfl) se_int) (sa_cons (se_globD gs.toGd rfl h.c_REFUSALS) sa_nil))) (se_one (se_callP gs.toGd (t_is_one_of h) hk_is_one_of rfl (sa_cons (se_ix (se_var gs.toGd 0 rfl rfl) se_int) (sa_cons (se_globD gs.toGd rfl h.c_NOTES) sa_nil)))))))))
theorem t_is_scheme {D : Wd} (h : Fx D) : FnF D "is_scheme" 2 1 F_is_scheme := by
  obtain ⟨f, fd, F, hm, hb⟩ := h.f_is_scheme
  exact fnF_mk (k := 1) F sc_is_scheme rfl hm hb fun X W gs => b_is_scheme h (by omega) gs
/-! is_plan -/
noncomputable def c_is_plan_1 : ME :=
  mLc false [1] (mIt (mVar 0)) (gN 1) mYes (mCallP F_is_one_of 2 (mCons (mVar 1) (mCons (mD d_WORDS) mNil)))

abbrev N_is_plan : List Str := ["thing", "word"]
theorem sc_is_plan : FnScope N_is_plan ["thing"] (defScope (top 18)) := ⟨rfl, rfl, rfl, by decide +kernel, rfl, by decide +kernel, by decide +kernel⟩
noncomputable def m_is_plan : MS :=
  (sSeq (sIf (mOr (mNot (mTru (mIsa .tuple (mVar 0)))) (mNot (mChn leF leF (mD (.int 1)) (mB lenF (mCons (mVar 0) mNil)) (mD (.int 15)))))
  (sRet (mD (.bool false)))
  sNext)
  (sSeq (sIf (mNot (mTru (mB allF (mCons c_is_plan_1 mNil))))
  (sRet (mD (.bool false)))
  sNext)
  (sRet (mBv (mCmp inF (mTCnt (mVar 0) (mD (.str "show"))) (mTup (mCons (mD (.int 1)) (mCons (mD (.int 2)) mNil))))))))
noncomputable def F_is_plan : Fn := runF 2 m_is_plan
theorem b_is_plan {D : Wd} (h : Fx D) {k : Nat} {X : Cx} {W : WX} (hk_is_one_of : 1 ≤ k) (gs : Gs D X W N_is_plan (.df (defScope (top 18))) k) : SB X W (defBody (top 18)) m_is_plan :=
  (sb_cons (ss_if (st_w (sw_or (st_not (st_tru (se_isa gs.toGd .tuple (by decide) rfl h.b_isinstance rfl h.b_tuple (by with_unfolding_all rfl) (se_var gs.toGd 0 rfl rfl)))) (sw_or1 (st_not (st_chn cm_le cm_le se_int (se_callB gs.toGd cb_len rfl h.b_len (by with_unfolding_all rfl) (sa_cons (se_var gs.toGd 0 rfl rfl) sa_nil)) (se_globC gs.toGd rfl h.c_MOST_WORDS (fun _ => .int _)))))))
  (sb_one (ss_ret se_bl))
  sb_nil)
  (sb_cons (ss_if (st_not (st_tru (se_callB gs.toGd (cb_all gs.toGd.calm) rfl h.b_all (by with_unfolding_all rfl) (sa_cons (se_lc false (own := [("word", 1)]) gs.toGd (si_seq (se_var gs.toGd 0 rfl rfl)) (by decide) (by decide +kernel) (fun X' g' => (sg_name g' 1 rfl rfl)) (fun X' g' => pts_no) (fun X' g' => (se_callP g' (t_is_one_of h) hk_is_one_of rfl (sa_cons (se_var g' 1 rfl rfl) (sa_cons (se_globD g' rfl h.c_WORDS) sa_nil))))) sa_nil))))
  (sb_one (ss_ret se_bl))
  sb_nil)
  (sb_one (ss_ret (se_cmp (cm_in gs.toGd.room) (se_tcount gs.toGd (se_var gs.toGd 0 rfl rfl) se_str) (se_tup (sa_cons se_int (sa_cons se_int sa_nil))) (by with_unfolding_all rfl))))))
theorem t_is_plan {D : Wd} (h : Fx D) : FnF D "is_plan" 2 1 F_is_plan := by
  obtain ⟨f, fd, F, hm, hb⟩ := h.f_is_plan
  exact fnF_mk (k := 1) F sc_is_plan rfl hm hb fun X W gs => b_is_plan h (by omega) gs
/-! is_integer -/

abbrev N_is_integer : List Str := ["thing", "low", "high"]
theorem sc_is_integer : FnScope N_is_integer ["thing", "low", "high"] (defScope (top 9)) := ⟨rfl, rfl, rfl, by decide +kernel, rfl, by decide +kernel, by decide +kernel⟩
noncomputable def m_is_integer : MS :=
  (sRet (mAndV (mIsa .int (mVar 0)) (mAndV (mBv (mNot (mTru (mIsa .bool (mVar 0))))) (mBv (mChn leF leF (mVar 1) (mVar 0) (mVar 2))))))
noncomputable def F_is_integer : Fn := runF 3 m_is_integer
theorem b_is_integer {D : Wd} (h : Fx D) {k : Nat} {X : Cx} {W : WX}  (gs : Gs D X W N_is_integer (.df (defScope (top 9))) k) : SB X W (defBody (top 9)) m_is_integer :=
  (sb_one (ss_ret (se_and (se_isa gs.toGd .int (by decide) rfl h.b_isinstance rfl h.b_int (by with_unfolding_all rfl) (se_var gs.toGd 0 rfl rfl)) (se_and (se_not (se_isa gs.toGd .bool (by decide) rfl h.b_isinstance rfl h.b_bool (by with_unfolding_all rfl) (se_var gs.toGd 0 rfl rfl))) (se_one (se_chn cm_le cm_le (se_var gs.toGd 1 rfl rfl) (se_var gs.toGd 0 rfl rfl) (se_var gs.toGd 2 rfl rfl)))))))
theorem t_is_integer {D : Wd} (h : Fx D) : FnF D "is_integer" 1 3 F_is_integer := by
  obtain ⟨f, fd, F, hm, hb⟩ := h.f_is_integer
  exact fnF_mk (k := 0) F sc_is_integer rfl hm hb fun X W gs => b_is_integer h  gs
/-! is_counts -/
noncomputable def c_is_counts_1 : ME :=
  mLc false [1] (mIt (mVar 0)) (gN 1) mYes (mCallP F_is_integer 3 (mCons (mVar 1) (mCons (mD (.int 1)) (mCons (mD (.int 4)) mNil))))

abbrev N_is_counts : List Str := ["thing", "count"]
theorem sc_is_counts : FnScope N_is_counts ["thing"] (defScope (top 10)) := ⟨rfl, rfl, rfl, by decide +kernel, rfl, by decide +kernel, by decide +kernel⟩
noncomputable def m_is_counts : MS :=
  (sSeq (sIf (mOr (mNot (mTru (mIsa .tuple (mVar 0)))) (mCmp ninF (mB lenF (mCons (mVar 0) mNil)) (mTup (mCons (mD (.int 2)) (mCons (mD (.int 3)) mNil)))))
  (sRet (mD (.bool false)))
  sNext)
  (sRet (mB allF (mCons c_is_counts_1 mNil))))
noncomputable def F_is_counts : Fn := runF 2 m_is_counts
theorem b_is_counts {D : Wd} (h : Fx D) {k : Nat} {X : Cx} {W : WX} (hk_is_integer : 1 ≤ k) (gs : Gs D X W N_is_counts (.df (defScope (top 10))) k) : SB X W (defBody (top 10)) m_is_counts :=
  (sb_cons (ss_if (st_w (sw_or (st_not (st_tru (se_isa gs.toGd .tuple (by decide) rfl h.b_isinstance rfl h.b_tuple (by with_unfolding_all rfl) (se_var gs.toGd 0 rfl rfl)))) (sw_or1 (st_cmp (cm_nin gs.toGd.room) (se_callB gs.toGd cb_len rfl h.b_len (by with_unfolding_all rfl) (sa_cons (se_var gs.toGd 0 rfl rfl) sa_nil)) (se_tup (sa_cons se_int (sa_cons se_int sa_nil))) (by with_unfolding_all rfl)))))
  (sb_one (ss_ret se_bl))
  sb_nil)
  (sb_one (ss_ret (se_callB gs.toGd (cb_all gs.toGd.calm) rfl h.b_all (by with_unfolding_all rfl) (sa_cons (se_lc false (own := [("count", 1)]) gs.toGd (si_seq (se_var gs.toGd 0 rfl rfl)) (by decide) (by decide +kernel) (fun X' g' => (sg_name g' 1 rfl rfl)) (fun X' g' => pts_no) (fun X' g' => (se_callP g' (t_is_integer h) hk_is_integer rfl (sa_cons (se_var g' 1 rfl rfl) (sa_cons se_int (sa_cons se_int sa_nil)))))) sa_nil)))))
theorem t_is_counts {D : Wd} (h : Fx D) : FnF D "is_counts" 2 1 F_is_counts := by
  obtain ⟨f, fd, F, hm, hb⟩ := h.f_is_counts
  exact fnF_mk (k := 1) F sc_is_counts rfl hm hb fun X W gs => b_is_counts h (by omega) gs
/-! fit_together -/

abbrev N_fit_together : List Str := ["scheme", "plan", "counts"]
theorem sc_fit_together : FnScope N_fit_together ["scheme", "plan", "counts"] (defScope (top 20)) := ⟨rfl, rfl, rfl, by decide +kernel, rfl, by decide +kernel, by decide +kernel⟩
noncomputable def m_fit_together : MS :=
  (sSeq (sIf (mOr (mNot (mTru (mCallP F_is_scheme 1 (mCons (mVar 0) mNil)))) (mOr (mNot (mTru (mCallP F_is_plan 1 (mCons (mVar 1) mNil)))) (mNot (mTru (mCallP F_is_counts 1 (mCons (mVar 2) mNil))))))
  (sRet (mD (.bool false)))
  sNext)
  (sRet (mBv (mCmp eqF (mB lenF (mCons (mVar 2) mNil)) (mBin (addF false) (mTCnt (mVar 1) (mD (.str "show"))) (mD (.int 1)))))))
noncomputable def F_fit_together : Fn := runF 3 m_fit_together
theorem b_fit_together {D : Wd} (h : Fx D) {k : Nat} {X : Cx} {W : WX} (hk_is_counts : 2 ≤ k) (hk_is_plan : 2 ≤ k) (hk_is_scheme : 2 ≤ k) (gs : Gs D X W N_fit_together (.df (defScope (top 20))) k) : SB X W (defBody (top 20)) m_fit_together :=
  (sb_cons (ss_if (st_w (sw_or (st_not (st_tru (se_callP gs.toGd (t_is_scheme h) hk_is_scheme rfl (sa_cons (se_var gs.toGd 0 rfl rfl) sa_nil)))) (sw_or (st_not (st_tru (se_callP gs.toGd (t_is_plan h) hk_is_plan rfl (sa_cons (se_var gs.toGd 1 rfl rfl) sa_nil)))) (sw_or1 (st_not (st_tru (se_callP gs.toGd (t_is_counts h) hk_is_counts rfl (sa_cons (se_var gs.toGd 2 rfl rfl) sa_nil))))))))
  (sb_one (ss_ret se_bl))
  sb_nil)
  (sb_one (ss_ret (se_cmp (cm_eq gs.toGd.room) (se_callB gs.toGd cb_len rfl h.b_len (by with_unfolding_all rfl) (sa_cons (se_var gs.toGd 2 rfl rfl) sa_nil)) (se_bin (op2_add false) (se_tcount gs.toGd (se_var gs.toGd 1 rfl rfl) se_str) se_int) (by with_unfolding_all rfl)))))
theorem t_fit_together {D : Wd} (h : Fx D) : FnF D "fit_together" 3 3 F_fit_together := by
  obtain ⟨f, fd, F, hm, hb⟩ := h.f_fit_together
  exact fnF_mk (k := 2) F sc_fit_together rfl hm hb fun X W gs => b_fit_together h (by omega) (by omega) (by omega) gs
/-! is_course -/
noncomputable def c_is_course_1 : ME :=
  mLc false [2, 3] (mZip (mVar 0) (mVar 1)) (gT 2 (gsCons (gN 2) (gsCons (gN 3) gsNil))) mYes (mCallP F_is_integer 3 (mCons (mVar 2) (mCons (mD (.int 0)) (mCons (mBin subF (mVar 3) (mD (.int 1))) mNil))))

abbrev N_is_course : List Str := ["thing", "counts", "lane", "count"]
theorem sc_is_course : FnScope N_is_course ["thing", "counts"] (defScope (top 19)) := ⟨rfl, rfl, rfl, by decide +kernel, rfl, by decide +kernel, by decide +kernel⟩
noncomputable def m_is_course : MS :=
  (sSeq (sIf (mOr (mNot (mTru (mIsa .tuple (mVar 0)))) (mCmp neF (mB lenF (mCons (mVar 0) mNil)) (mB lenF (mCons (mVar 1) mNil))))
  (sRet (mD (.bool false)))
  sNext)
  (sRet (mB allF (mCons c_is_course_1 mNil))))
noncomputable def F_is_course : Fn := runF 4 m_is_course
theorem b_is_course {D : Wd} (h : Fx D) {k : Nat} {X : Cx} {W : WX} (hk_is_integer : 1 ≤ k) (gs : Gs D X W N_is_course (.df (defScope (top 19))) k) : SB X W (defBody (top 19)) m_is_course :=
  (sb_cons (ss_if (st_w (sw_or (st_not (st_tru (se_isa gs.toGd .tuple (by decide) rfl h.b_isinstance rfl h.b_tuple (by with_unfolding_all rfl) (se_var gs.toGd 0 rfl rfl)))) (sw_or1 (st_cmp (cm_ne gs.toGd.room) (se_callB gs.toGd cb_len rfl h.b_len (by with_unfolding_all rfl) (sa_cons (se_var gs.toGd 0 rfl rfl) sa_nil)) (se_callB gs.toGd cb_len rfl h.b_len (by with_unfolding_all rfl) (sa_cons (se_var gs.toGd 1 rfl rfl) sa_nil)) (by with_unfolding_all rfl)))))
  (sb_one (ss_ret se_bl))
  sb_nil)
  (sb_one (ss_ret (se_callB gs.toGd (cb_all gs.toGd.calm) rfl h.b_all (by with_unfolding_all rfl) (sa_cons (se_lc false (own := [("lane", 2), ("count", 3)]) gs.toGd (si_zip gs.toGd rfl h.b_zip (se_var gs.toGd 0 rfl rfl) (se_var gs.toGd 1 rfl rfl)) (by decide) (by decide +kernel) (fun X' g' => (sg_tup g' (sgs_cons (sg_name g' 2 rfl rfl) (sgs_cons (sg_name g' 3 rfl rfl) sgs_nil)))) (fun X' g' => pts_no) (fun X' g' => (se_callP g' (t_is_integer h) hk_is_integer rfl (sa_cons (se_var g' 2 rfl rfl) (sa_cons se_int (sa_cons (se_bin op2_sub (se_var g' 3 rfl rfl) se_int) sa_nil)))))) sa_nil)))))
theorem t_is_course {D : Wd} (h : Fx D) : FnF D "is_course" 2 2 F_is_course := by
  obtain ⟨f, fd, F, hm, hb⟩ := h.f_is_course
  exact fnF_mk (k := 1) F sc_is_course rfl hm hb fun X W gs => b_is_course h (by omega) gs
/-! is_house -/
noncomputable def c_is_house_1 : ME :=
  mLc false [8] (mIt (mVar 4)) (gN 8) mYes (mCallP F_is_course 2 (mCons (mVar 8) (mCons (mVar 3) mNil)))
noncomputable def c_is_house_2 : ME :=
  mLc false [7] (mIt (mVar 5)) (gN 7) mYes (mCallP F_is_integer 3 (mCons (mVar 7) (mCons (mD (.int 1)) (mCons (mD (.int 3)) mNil))))

abbrev N_is_house : List Str := ["thing", "scheme", "plan", "counts", "courses", "letters", "senders", "many", "course"]
theorem sc_is_house : FnScope N_is_house ["thing"] (defScope (top 21)) := ⟨rfl, rfl, rfl, by decide +kernel, rfl, by decide +kernel, by decide +kernel⟩
noncomputable def m_is_house : MS :=
  (sSeq (sIf (mOr (mNot (mTru (mIsa .tuple (mVar 0)))) (mCmp neF (mB lenF (mCons (mVar 0) mNil)) (mD (.int 6))))
  (sRet (mD (.bool false)))
  sNext)
  (sSeq (sAsg (mVar 0) (gT 6 (gsCons (gN 1) (gsCons (gN 2) (gsCons (gN 3) (gsCons (gN 4) (gsCons (gN 5) (gsCons (gN 6) gsNil))))))))
  (sSeq (sIf (mOr (mNot (mTru (mCallP F_fit_together 3 (mCons (mVar 1) (mCons (mVar 2) (mCons (mVar 3) mNil)))))) (mNot (mTru (mCallP F_is_integer 3 (mCons (mVar 6) (mCons (mD (.int 1)) (mCons (mD (.int 3)) mNil)))))))
  (sRet (mD (.bool false)))
  sNext)
  (sSeq (sIf (mOr (mNot (mTru (mIsa .tuple (mVar 4)))) (mNot (mChn leF leF (mD (.int 1)) (mB lenF (mCons (mVar 4) mNil)) (mD (.int 3)))))
  (sRet (mD (.bool false)))
  sNext)
  (sSeq (sIf (mOr (mNot (mTru (mIsa .tuple (mVar 5)))) (mCmp neF (mB lenF (mCons (mVar 5) mNil)) (mB lenF (mCons (mVar 4) mNil))))
  (sRet (mD (.bool false)))
  sNext)
  (sSeq (sIf (mNot (mTru (mB allF (mCons c_is_house_1 mNil))))
  (sRet (mD (.bool false)))
  sNext)
  (sRet (mB allF (mCons c_is_house_2 mNil)))))))))
noncomputable def F_is_house : Fn := runF 9 m_is_house
theorem b_is_house {D : Wd} (h : Fx D) {k : Nat} {X : Cx} {W : WX} (hk_fit_together : 3 ≤ k) (hk_is_course : 2 ≤ k) (hk_is_integer : 1 ≤ k) (gs : Gs D X W N_is_house (.df (defScope (top 21))) k) : SB X W (defBody (top 21)) m_is_house :=
  (sb_cons (ss_if (st_w (sw_or (st_not (st_tru (se_isa gs.toGd .tuple (by decide) rfl h.b_isinstance rfl h.b_tuple (by with_unfolding_all rfl) (se_var gs.toGd 0 rfl rfl)))) (sw_or1 (st_cmp (cm_ne gs.toGd.room) (se_callB gs.toGd cb_len rfl h.b_len (by with_unfolding_all rfl) (sa_cons (se_var gs.toGd 0 rfl rfl) sa_nil)) se_int (by with_unfolding_all rfl)))))
  (sb_one (ss_ret se_bl))
  sb_nil)
  (sb_cons (ss_asg (se_var gs.toGd 0 rfl rfl) (sg_tup gs.toGd (sgs_cons (sg_name gs.toGd 1 rfl rfl) (sgs_cons (sg_name gs.toGd 2 rfl rfl) (sgs_cons (sg_name gs.toGd 3 rfl rfl) (sgs_cons (sg_name gs.toGd 4 rfl rfl) (sgs_cons (sg_name gs.toGd 5 rfl rfl) (sgs_cons (sg_name gs.toGd 6 rfl rfl) sgs_nil))))))))
  (sb_cons (ss_if (st_w (sw_or (st_not (st_tru (se_callP gs.toGd (t_fit_together h) hk_fit_together rfl (sa_cons (se_var gs.toGd 1 rfl rfl) (sa_cons (se_var gs.toGd 2 rfl rfl) (sa_cons (se_var gs.toGd 3 rfl rfl) sa_nil)))))) (sw_or1 (st_not (st_tru (se_callP gs.toGd (t_is_integer h) hk_is_integer rfl (sa_cons (se_var gs.toGd 6 rfl rfl) (sa_cons se_int (sa_cons se_int sa_nil)))))))))
  (sb_one (ss_ret se_bl))
  sb_nil)
  (sb_cons (ss_if (st_w (sw_or (st_not (st_tru (se_isa gs.toGd .tuple (by decide) rfl h.b_isinstance rfl h.b_tuple (by with_unfolding_all rfl) (se_var gs.toGd 4 rfl rfl)))) (sw_or1 (st_not (st_chn cm_le cm_le se_int (se_callB gs.toGd cb_len rfl h.b_len (by with_unfolding_all rfl) (sa_cons (se_var gs.toGd 4 rfl rfl) sa_nil)) se_int)))))
  (sb_one (ss_ret se_bl))
  sb_nil)
  (sb_cons (ss_if (st_w (sw_or (st_not (st_tru (se_isa gs.toGd .tuple (by decide) rfl h.b_isinstance rfl h.b_tuple (by with_unfolding_all rfl) (se_var gs.toGd 5 rfl rfl)))) (sw_or1 (st_cmp (cm_ne gs.toGd.room) (se_callB gs.toGd cb_len rfl h.b_len (by with_unfolding_all rfl) (sa_cons (se_var gs.toGd 5 rfl rfl) sa_nil)) (se_callB gs.toGd cb_len rfl h.b_len (by with_unfolding_all rfl) (sa_cons (se_var gs.toGd 4 rfl rfl) sa_nil)) (by with_unfolding_all rfl)))))
  (sb_one (ss_ret se_bl))
  sb_nil)
  (sb_cons (ss_if (st_not (st_tru (se_callB gs.toGd (cb_all gs.toGd.calm) rfl h.b_all (by with_unfolding_all rfl) (sa_cons (se_lc false (own := [("course", 8)]) gs.toGd (si_seq (se_var gs.toGd 4 rfl rfl)) (by decide) (by decide +kernel) (fun X' g' => (sg_name g' 8 rfl rfl)) (fun X' g' => pts_no) (fun X' g' => (se_callP g' (t_is_course h) hk_is_course rfl (sa_cons (se_var g' 8 rfl rfl) (sa_cons (se_var g' 3 rfl rfl) sa_nil))))) sa_nil))))
  (sb_one (ss_ret se_bl))
  sb_nil)
  (sb_one (ss_ret (se_callB gs.toGd (cb_all gs.toGd.calm) rfl h.b_all (by with_unfolding_all rfl) (sa_cons (se_lc false (own := [("many", 7)]) gs.toGd (si_seq (se_var gs.toGd 5 rfl rfl)) (by decide) (by decide +kernel) (fun X' g' => (sg_name g' 7 rfl rfl)) (fun X' g' => pts_no) (fun X' g' => (se_callP g' (t_is_integer h) hk_is_integer rfl (sa_cons (se_var g' 7 rfl rfl) (sa_cons se_int (sa_cons se_int sa_nil)))))) sa_nil))))))))))
theorem t_is_house {D : Wd} (h : Fx D) : FnF D "is_house" 4 1 F_is_house := by
  obtain ⟨f, fd, F, hm, hb⟩ := h.f_is_house
  exact fnF_mk (k := 3) F sc_is_house rfl hm hb fun X W gs => b_is_house h (by omega) (by omega) (by omega) gs
/-! need_house -/

abbrev N_need_house : List Str := ["house"]
theorem sc_need_house : FnScope N_need_house ["house"] (defScope (top 22)) := ⟨rfl, rfl, rfl, by decide +kernel, rfl, by decide +kernel, by decide +kernel⟩
noncomputable def m_need_house : MS :=
  (sIf (mNot (mTru (mCallP F_is_house 1 (mCons (mVar 0) mNil))))
  (sRaise0 "BadHouse")
  sNext)
noncomputable def F_need_house : Fn := runF 1 m_need_house
theorem b_need_house {D : Wd} (h : Fx D) {k : Nat} {X : Cx} {W : WX} (hk_is_house : 4 ≤ k) (gs : Gs D X W N_need_house (.df (defScope (top 22))) k) : SB X W (defBody (top 22)) m_need_house :=
  (sb_one (ss_if (st_not (st_tru (se_callP gs.toGd (t_is_house h) hk_is_house rfl (sa_cons (se_var gs.toGd 0 rfl rfl) sa_nil))))
  (sb_one (ss_raise0 gs.toGd h.x0_BadHouse rfl))
  sb_nil))
theorem t_need_house {D : Wd} (h : Fx D) : FnF D "need_house" 5 1 F_need_house := by
  obtain ⟨f, fd, F, hm, hb⟩ := h.f_need_house
  exact fnF_mk (k := 4) F sc_need_house rfl hm hb fun X W gs => b_need_house h (by omega) gs
/-! nothing_read -/

abbrev N_nothing_read : List Str := ["house"]
theorem sc_nothing_read : FnScope N_nothing_read ["house"] (defScope (top 26)) := ⟨rfl, rfl, rfl, by decide +kernel, rfl, by decide +kernel, by decide +kernel⟩
noncomputable def m_nothing_read : MS :=
  (sRet (mIfE (mCmp eqF (mIx (mIx (mVar 0) (mD (.int 0))) (mD (.int 3))) (mD (.str "first"))) (mTup mNil) (mD (.int 0))))
noncomputable def F_nothing_read : Fn := runF 1 m_nothing_read
theorem b_nothing_read {D : Wd} (h : Fx D) {k : Nat} {X : Cx} {W : WX}  (gs : Gs D X W N_nothing_read (.df (defScope (top 26))) k) : SB X W (defBody (top 26)) m_nothing_read :=
  (sb_one (ss_ret (se_ifE (st_cmp (cm_eq gs.toGd.room) (se_ix (se_ix (se_var gs.toGd 0 rfl rfl) se_int) se_int) se_str (by with_unfolding_all rfl)) (se_tup sa_nil) se_int)))
theorem t_nothing_read {D : Wd} (h : Fx D) : FnF D "nothing_read" 1 1 F_nothing_read := by
  obtain ⟨f, fd, F, hm, hb⟩ := h.f_nothing_read
  exact fnF_mk (k := 0) F sc_nothing_read rfl hm hb fun X W gs => b_nothing_read h  gs
/-! first_state -/

abbrev N_first_state : List Str := ["house", "lanes", "keys"]
theorem sc_first_state : FnScope N_first_state ["house"] (defScope (top 27)) := ⟨rfl, rfl, rfl, by decide +kernel, rfl, by decide +kernel, by decide +kernel⟩
noncomputable def m_first_state : MS :=
  (sSeq (sSet 1 (mB max1F (mCons (mIx (mVar 0) (mD (.int 2))) mNil)))
  (sSeq (sSet 2 (mB lenF (mCons (mIx (mVar 0) (mD (.int 3))) mNil)))
  (sRet (mTup (mCons (mD (.int 0)) (mCons (mBin (mulF false) (mTup (mCons (mUn negF (mD (.int 1))) mNil)) (mIx (mVar 0) (mD (.int 5)))) (mCons (mTup mNil) (mCons (mTup mNil) (mCons (mBin (mulF false) (mTup (mCons (mTup mNil) mNil)) (mVar 1)) (mCons (mBin (mulF false) (mTup (mCons (mCallP F_nothing_read 1 (mCons (mVar 0) mNil)) mNil)) (mVar 1)) (mCons (mBin (mulF false) (mTup (mCons (mD (.int 0)) mNil)) (mVar 2)) (mCons (mTup mNil) (mCons (mTup mNil) mNil)))))))))))))
noncomputable def F_first_state : Fn := runF 3 m_first_state
theorem b_first_state {D : Wd} (h : Fx D) {k : Nat} {X : Cx} {W : WX} (hk_nothing_read : 1 ≤ k) (gs : Gs D X W N_first_state (.df (defScope (top 27))) k) : SB X W (defBody (top 27)) m_first_state :=
  (sb_cons (ss_set gs.toGd 1 rfl rfl (se_callB gs.toGd (cb_max1 gs.toGd.calm (room65 gs.toGd.room)) rfl h.b_max (by with_unfolding_all rfl) (sa_cons (se_ix (se_var gs.toGd 0 rfl rfl) se_int) sa_nil)))
  (sb_cons (ss_set gs.toGd 2 rfl rfl (se_callB gs.toGd cb_len rfl h.b_len (by with_unfolding_all rfl) (sa_cons (se_ix (se_var gs.toGd 0 rfl rfl) se_int) sa_nil)))
  (sb_one (ss_ret (se_tup (sa_cons se_int (sa_cons (se_bin (op2_mul false) (se_tup (sa_cons (se_un op1_neg se_int) sa_nil)) (se_ix (se_var gs.toGd 0 rfl rfl) se_int)) (sa_cons (se_tup sa_nil) (sa_cons (se_tup sa_nil) (sa_cons (se_bin (op2_mul false) (se_tup (sa_cons (se_tup sa_nil) sa_nil)) (se_var gs.toGd 1 rfl rfl)) (sa_cons (se_bin (op2_mul false) (se_tup (sa_cons (se_callP gs.toGd (t_nothing_read h) hk_nothing_read rfl (sa_cons (se_var gs.toGd 0 rfl rfl) sa_nil)) sa_nil)) (se_var gs.toGd 1 rfl rfl)) (sa_cons (se_bin (op2_mul false) (se_tup (sa_cons se_int sa_nil)) (se_var gs.toGd 2 rfl rfl)) (sa_cons (se_tup sa_nil) (sa_cons (se_tup sa_nil) sa_nil))))))))))))))
theorem t_first_state {D : Wd} (h : Fx D) : FnF D "first_state" 2 1 F_first_state := by
  obtain ⟨f, fd, F, hm, hb⟩ := h.f_first_state
  exact fnF_mk (k := 1) F sc_first_state rfl hm hb fun X W gs => b_first_state h (by omega) gs
/-! House.__init__ -/

abbrev N_House___init__ : List Str := ["self", "house"]
theorem sc_House___init__ : FnScope N_House___init__ ["self", "house"] (defScope (meth 49 0)) := ⟨rfl, rfl, rfl, by decide +kernel, rfl, by decide +kernel, by decide +kernel⟩
noncomputable def m_House___init__ : MS :=
  (sSeq (sDrop (mCallP F_need_house 1 (mCons (mVar 1) mNil)))
  (sSeq (sFldS "House" "origin" (mVar 0) (mVar 1))
  (sSeq (sFldS "House" "deeds" (mVar 0) (mLst true mNil))
  (sSeq (sFldS "House" "stands" (mVar 0) (mLst true (mCons (mCallP F_first_state 1 (mCons (mVar 1) mNil)) mNil)))
  (sFldS "House" "told" (mVar 0) (mLst true mNil))))))
noncomputable def F_House___init__ : Fn := runF 2 m_House___init__
theorem b_House___init__ {D : Wd} (h : Fx D) {k : Nat} {X : Cx} {W : WX} (hk_first_state : 2 ≤ k) (hk_need_house : 5 ≤ k) (gs : Gs D X W N_House___init__ (.df (defScope (meth 49 0))) k) : SB X W (defBody (meth 49 0)) m_House___init__ :=
  (sb_cons (ss_expr (se_callP gs.toGd (t_need_house h) hk_need_house rfl (sa_cons (se_var gs.toGd 1 rfl rfl) sa_nil)))
  (sb_cons (ss_fld gs.toGd h.at_House_origin (se_var gs.toGd 0 rfl rfl) (se_var gs.toGd 1 rfl rfl))
  (sb_cons (ss_fld gs.toGd h.at_House_deeds (se_var gs.toGd 0 rfl rfl) (se_lst true sa_nil))
  (sb_cons (ss_fld gs.toGd h.at_House_stands (se_var gs.toGd 0 rfl rfl) (se_lst true (sa_cons (se_callP gs.toGd (t_first_state h) hk_first_state rfl (sa_cons (se_var gs.toGd 1 rfl rfl) sa_nil)) sa_nil)))
  (sb_one (ss_fld gs.toGd h.at_House_told (se_var gs.toGd 0 rfl rfl) (se_lst true sa_nil)))))))
theorem t_House___init__ {D : Wd} (h : Fx D) : MkF D "House" 6 2 F_House___init__ := by
  obtain ⟨Ca, g, fd, F, hC, hm, hb⟩ := h.f_House___init__
  exact mkF_mk (k := 5) F sc_House___init__ rfl hC hm hb fun X W gs => b_House___init__ h (by omega) (by omega) gs
/-! show_scheme -/

abbrev N_show_scheme : List Str := ["scheme", "words", "asks", "paced", "refused", "notes", "steady"]
theorem sc_show_scheme : FnScope N_show_scheme ["scheme"] (defScope (top 37)) := ⟨rfl, rfl, rfl, by decide +kernel, rfl, by decide +kernel, by decide +kernel⟩
noncomputable def m_show_scheme : MS :=
  (sSeq (sAsg (mVar 0) (gT 5 (gsCons (gN 2) (gsCons (gN 3) (gsCons (gN 4) (gsCons (gN 5) (gsCons (gN 6) gsNil)))))))
  (sSeq (sSet 1 (mLst false (mCons (mIfE (mTru (mVar 2)) (mD (.str "asks")) (mD (.str "quiet"))) (mCons (mIfE (mTru (mVar 3)) (mD (.str "paced")) (mD (.str "piped"))) (mCons (mVar 4) (mCons (mVar 5) mNil))))))
  (sRet (mJoin (mD (.str " ")) (mBin (addF false) (mVar 1) (mLst false (mCons (mIfE (mTru (mVar 6)) (mD (.str "steady")) (mD (.str "handed"))) mNil)))))))
noncomputable def F_show_scheme : Fn := runF 7 m_show_scheme
theorem b_show_scheme {D : Wd} (h : Fx D) {k : Nat} {X : Cx} {W : WX}  (gs : Gs D X W N_show_scheme (.df (defScope (top 37))) k) : SB X W (defBody (top 37)) m_show_scheme :=
  (sb_cons (ss_asg (se_var gs.toGd 0 rfl rfl) (sg_tup gs.toGd (sgs_cons (sg_name gs.toGd 2 rfl rfl) (sgs_cons (sg_name gs.toGd 3 rfl rfl) (sgs_cons (sg_name gs.toGd 4 rfl rfl) (sgs_cons (sg_name gs.toGd 5 rfl rfl) (sgs_cons (sg_name gs.toGd 6 rfl rfl) sgs_nil)))))))
  (sb_cons (ss_set gs.toGd 1 rfl rfl (se_lst false (sa_cons (se_ifE (st_tru (se_var gs.toGd 2 rfl rfl)) se_str se_str) (sa_cons (se_ifE (st_tru (se_var gs.toGd 3 rfl rfl)) se_str se_str) (sa_cons (se_var gs.toGd 4 rfl rfl) (sa_cons (se_var gs.toGd 5 rfl rfl) sa_nil))))))
  (sb_one (ss_ret (se_join se_str (se_bin (op2_add false) (se_var gs.toGd 1 rfl rfl) (se_lst false (sa_cons (se_ifE (st_tru (se_var gs.toGd 6 rfl rfl)) se_str se_str) sa_nil))))))))
theorem t_show_scheme {D : Wd} (h : Fx D) : FnF D "show_scheme" 1 1 F_show_scheme := by
  obtain ⟨f, fd, F, hm, hb⟩ := h.f_show_scheme
  exact fnF_mk (k := 0) F sc_show_scheme rfl hm hb fun X W gs => b_show_scheme h  gs
/-! show_plan -/

abbrev N_show_plan : List Str := ["plan"]
theorem sc_show_plan : FnScope N_show_plan ["plan"] (defScope (top 38)) := ⟨rfl, rfl, rfl, by decide +kernel, rfl, by decide +kernel, by decide +kernel⟩
noncomputable def m_show_plan : MS :=
  (sRet (mJoin (mD (.str " ")) (mVar 0)))
noncomputable def F_show_plan : Fn := runF 1 m_show_plan
theorem b_show_plan {D : Wd} (h : Fx D) {k : Nat} {X : Cx} {W : WX}  (gs : Gs D X W N_show_plan (.df (defScope (top 38))) k) : SB X W (defBody (top 38)) m_show_plan :=
  (sb_one (ss_ret (se_join se_str (se_var gs.toGd 0 rfl rfl))))
theorem t_show_plan {D : Wd} (h : Fx D) : FnF D "show_plan" 1 1 F_show_plan := by
  obtain ⟨f, fd, F, hm, hb⟩ := h.f_show_plan
  exact fnF_mk (k := 0) F sc_show_plan rfl hm hb fun X W gs => b_show_plan h  gs
/-! show_numbers -/
noncomputable def c_show_numbers_1 : ME :=
  mLc false [1] (mIt (mVar 0)) (gN 1) mYes (mB strF (mCons (mVar 1) mNil))

abbrev N_show_numbers : List Str := ["numbers", "number"]
theorem sc_show_numbers : FnScope N_show_numbers ["numbers"] (defScope (top 39)) := ⟨rfl, rfl, rfl, by decide +kernel, rfl, by decide +kernel, by decide +kernel⟩
noncomputable def m_show_numbers : MS :=
  (sRet (mJoin (mD (.str " ")) c_show_numbers_1))
noncomputable def F_show_numbers : Fn := runF 2 m_show_numbers
theorem b_show_numbers {D : Wd} (h : Fx D) {k : Nat} {X : Cx} {W : WX}  (gs : Gs D X W N_show_numbers (.df (defScope (top 39))) k) : SB X W (defBody (top 39)) m_show_numbers :=
  (sb_one (ss_ret (se_join se_str (se_lc false (own := [("number", 1)]) gs.toGd (si_seq (se_var gs.toGd 0 rfl rfl)) (by decide) (by decide +kernel) (fun X' g' => (sg_name g' 1 rfl rfl)) (fun X' g' => pts_no) (fun X' g' => (se_callT g' cb_str rfl h.b_str (by with_unfolding_all rfl) (sa_cons (se_var g' 1 rfl rfl) sa_nil)))))))
theorem t_show_numbers {D : Wd} (h : Fx D) : FnF D "show_numbers" 1 1 F_show_numbers := by
  obtain ⟨f, fd, F, hm, hb⟩ := h.f_show_numbers
  exact fnF_mk (k := 0) F sc_show_numbers rfl hm hb fun X W gs => b_show_numbers h  gs
/-! show_house -/
noncomputable def c_show_house_1 : ME :=
  mLc false [8, 9] (mZip (mVar 5) (mVar 6)) (gT 2 (gsCons (gN 8) (gsCons (gN 9) gsNil))) mYes (mJs [(mD (.str "key ")), (mFmt (mCallP F_show_numbers 1 (mCons (mVar 8) mNil))), (mD (.str " x ")), (mFmt (mVar 9))] Str.empty)

abbrev N_show_house : List Str := ["house", "lines", "scheme", "plan", "counts", "courses", "letters", "senders", "course", "many"]
theorem sc_show_house : FnScope N_show_house ["house"] (defScope (top 40)) := ⟨rfl, rfl, rfl, by decide +kernel, rfl, by decide +kernel, by decide +kernel⟩
noncomputable def m_show_house : MS :=
  (sSeq (sDrop (mCallP F_need_house 1 (mCons (mVar 0) mNil)))
  (sSeq (sAsg (mVar 0) (gT 6 (gsCons (gN 2) (gsCons (gN 3) (gsCons (gN 4) (gsCons (gN 5) (gsCons (gN 6) (gsCons (gN 7) gsNil))))))))
  (sSeq (sSet 1 (mLst true (mCons (mCallP F_show_scheme 1 (mCons (mVar 2) mNil)) (mCons (mCallP F_show_plan 1 (mCons (mVar 3) mNil)) (mCons (mJs [(mD (.str "counts ")), (mFmt (mCallP F_show_numbers 1 (mCons (mVar 4) mNil)))] Str.empty) (mCons (mJs [(mD (.str "senders ")), (mFmt (mVar 7))] Str.empty) mNil))))))
  (sSeq (sAug 1 c_show_house_1 extF)
  (sRet (mJoin (mD (.str "\n")) (mVar 1)))))))
noncomputable def F_show_house : Fn := runF 10 m_show_house
theorem b_show_house {D : Wd} (h : Fx D) {k : Nat} {X : Cx} {W : WX} (hk_need_house : 5 ≤ k) (hk_show_numbers : 1 ≤ k) (hk_show_plan : 1 ≤ k) (hk_show_scheme : 1 ≤ k) (gs : Gs D X W N_show_house (.df (defScope (top 40))) k) : SB X W (defBody (top 40)) m_show_house :=
  (sb_cons (ss_expr (se_callP gs.toGd (t_need_house h) hk_need_house rfl (sa_cons (se_var gs.toGd 0 rfl rfl) sa_nil)))
  (sb_cons (ss_asg (se_var gs.toGd 0 rfl rfl) (sg_tup gs.toGd (sgs_cons (sg_name gs.toGd 2 rfl rfl) (sgs_cons (sg_name gs.toGd 3 rfl rfl) (sgs_cons (sg_name gs.toGd 4 rfl rfl) (sgs_cons (sg_name gs.toGd 5 rfl rfl) (sgs_cons (sg_name gs.toGd 6 rfl rfl) (sgs_cons (sg_name gs.toGd 7 rfl rfl) sgs_nil))))))))
  (sb_cons (ss_set gs.toGd 1 rfl rfl (se_lst true (sa_cons (se_callP gs.toGd (t_show_scheme h) hk_show_scheme rfl (sa_cons (se_var gs.toGd 2 rfl rfl) sa_nil)) (sa_cons (se_callP gs.toGd (t_show_plan h) hk_show_plan rfl (sa_cons (se_var gs.toGd 3 rfl rfl) sa_nil)) (sa_cons (se_joined (.cons se_str (.cons (se_fmt (se_callP gs.toGd (t_show_numbers h) hk_show_numbers rfl (sa_cons (se_var gs.toGd 4 rfl rfl) sa_nil))) .nil))) (sa_cons (se_joined (.cons se_str (.cons (se_fmt (se_var gs.toGd 7 rfl rfl)) .nil))) sa_nil))))))
  (sb_cons (ss_aug gs.toGd 1 rfl rfl (se_lc false (own := [("course", 8), ("many", 9)]) gs.toGd (si_zip gs.toGd rfl h.b_zip (se_var gs.toGd 5 rfl rfl) (se_var gs.toGd 6 rfl rfl)) (by decide) (by decide +kernel) (fun X' g' => (sg_tup g' (sgs_cons (sg_name g' 8 rfl rfl) (sgs_cons (sg_name g' 9 rfl rfl) sgs_nil)))) (fun X' g' => pts_no) (fun X' g' => (se_joined (.cons se_str (.cons (se_fmt (se_callP g' (t_show_numbers h) hk_show_numbers rfl (sa_cons (se_var g' 8 rfl rfl) sa_nil))) (.cons se_str (.cons (se_fmt (se_var g' 9 rfl rfl)) .nil))))))) ip_ext)
  (sb_one (ss_ret (se_join se_str (se_var gs.toGd 1 rfl rfl))))))))
theorem t_show_house {D : Wd} (h : Fx D) : FnF D "show_house" 6 1 F_show_house := by
  obtain ⟨f, fd, F, hm, hb⟩ := h.f_show_house
  exact fnF_mk (k := 5) F sc_show_house rfl hm hb fun X W gs => b_show_house h (by omega) (by omega) (by omega) (by omega) gs
/-! _law_refused -/

abbrev N__law_refused : List Str := ["_law_which", "_law_bad_here", "_law_kinds", "e"]
theorem sc__law_refused : FnScope N__law_refused ["_law_which", "_law_bad_here"] (defScope (top 58)) := ⟨rfl, rfl, rfl, by decide +kernel, rfl, by decide +kernel, by decide +kernel⟩
noncomputable def m__law_refused : MS :=
  (sSeq (sSet 2 (mLst false mNil))
  (sSeq (sTry (some 3) [("BadHouse", true), ("BadQuestion", true), ("BadLane", true)] (sxSet 2 (mxLst (mxCons (mxIsa [("BadHouse", true), ("BadQuestion", false), ("BadLane", false)]) (mxCons (mxIsa [("BadHouse", true), ("BadQuestion", true), ("BadLane", true)]) (mxCons (mxOr (mxIsa [("BadHouse", false), ("BadQuestion", false), ("BadLane", false)]) (mxIsa [("BadHouse", false), ("BadQuestion", false), ("BadLane", false)])) mxNil))))) (sIf (mCmp eqF (mVar 0) (mD (.int 0)))
  (sDrop (mMake "House" F_House___init__ 2 (mCons (mVar 1) mNil)))
  (sDrop (mCallP F_show_house 1 (mCons (mVar 1) mNil)))))
  (sRet (mBv (mCmp eqF (mVar 2) (mLst false (mCons (mD (.bool true)) (mCons (mD (.bool true)) (mCons (mD (.bool false)) mNil)))))))))
noncomputable def F__law_refused : Fn := runF 4 m__law_refused
theorem b__law_refused {D : Wd} (h : Fx D) {k : Nat} {X : Cx} {W : WX} (hk_House___init__ : 7 ≤ k) (hk_show_house : 6 ≤ k) (gs : Gs D X W N__law_refused (.df (defScope (top 58))) k) : SB X W (defBody (top 58)) m__law_refused :=
  (sb_cons (ss_set gs.toGd 2 rfl rfl (se_lst false sa_nil))
  (sb_cons (ss_tryAs gs 3 rfl rfl rfl h.hd_LaneError (fun X W gs => (sb_one (ss_if (st_cmp (cm_eq gs.toGd.room) (se_var gs.toGd 0 rfl rfl) se_int (by with_unfolding_all rfl))
  (sb_one (ss_expr (se_make gs.toGd (t_House___init__ h) hk_House___init__ rfl (sa_cons (se_var gs.toGd 1 rfl rfl) sa_nil))))
  (sb_one (ss_expr (se_callP gs.toGd (t_show_house h) hk_show_house rfl (sa_cons (se_var gs.toGd 1 rfl rfl) sa_nil))))))) (fun a oe cls d pn gx su => (xb_one (xs_set gx 2 rfl rfl (by decide) (xe_lst (xa_cons (xe_isaC gx 3 su h.ic_BadHouse rfl h.b_isinstance rfl rfl rfl rfl) (xa_cons (xe_isaB gx 3 su h.ib_ValueError rfl h.b_isinstance rfl rfl rfl rfl) (xa_cons (xe_or (xe_isaC gx 3 su h.ic_BadCase rfl h.b_isinstance rfl rfl rfl rfl) (xe_one (xe_isaC gx 3 su h.ic_BadText rfl h.b_isinstance rfl rfl rfl rfl))) xa_nil))))))))
  (sb_one (ss_ret (se_cmp (cm_eq gs.toGd.room) (se_var gs.toGd 2 rfl rfl) (se_lst false (sa_cons se_bl (sa_cons se_bl (sa_cons se_bl sa_nil)))) (by with_unfolding_all rfl))))))
theorem t__law_refused {D : Wd} (h : Fx D) : FnF D "_law_refused" 8 2 F__law_refused := by
  obtain ⟨f, fd, F, hm, hb⟩ := h.f__law_refused
  exact fnF_mk (k := 7) F sc__law_refused rfl hm hb fun X W gs => b__law_refused h (by omega) (by omega) gs
/-! need_question -/

abbrev N_need_question : List Str := ["question", "allowed"]
theorem sc_need_question : FnScope N_need_question ["question", "allowed"] (defScope (top 44)) := ⟨rfl, rfl, rfl, by decide +kernel, rfl, by decide +kernel, by decide +kernel⟩
noncomputable def m_need_question : MS :=
  (sIf (mOr (mNot (mTru (mIsa .str (mVar 0)))) (mCmp ninF (mVar 0) (mVar 1)))
  (sRaise0 "BadQuestion")
  sNext)
noncomputable def F_need_question : Fn := runF 2 m_need_question
theorem b_need_question {D : Wd} (h : Fx D) {k : Nat} {X : Cx} {W : WX}  (gs : Gs D X W N_need_question (.df (defScope (top 44))) k) : SB X W (defBody (top 44)) m_need_question :=
  (sb_one (ss_if (st_w (sw_or (st_not (st_tru (se_isa gs.toGd .str (by decide) rfl h.b_isinstance rfl h.b_str (by with_unfolding_all rfl) (se_var gs.toGd 0 rfl rfl)))) (sw_or1 (st_cmp (cm_nin gs.toGd.room) (se_var gs.toGd 0 rfl rfl) (se_var gs.toGd 1 rfl rfl) (by with_unfolding_all rfl)))))
  (sb_one (ss_raise0 gs.toGd h.x0_BadQuestion rfl))
  sb_nil))
theorem t_need_question {D : Wd} (h : Fx D) : FnF D "need_question" 1 2 F_need_question := by
  obtain ⟨f, fd, _, _, F, hm, hb⟩ := h.f_need_question
  exact fnF_mk (k := 0) F sc_need_question rfl hm hb fun X W gs => b_need_question h  gs
/-! take_is_early -/
noncomputable def c_take_is_early_1 : ME :=
  mLc false [3] (mRg1 (mVar 2)) (gN 3) mYes (mAndV (mBv (mCmp ninF (mTup (mCons (mVar 1) (mCons (mVar 3) mNil))) (mIx (mVar 0) (mD (.int 7))))) (mBv (mCmp ninF (mTup (mCons (mVar 1) (mCons (mVar 3) mNil))) (mIx (mVar 0) (mD (.int 8))))))

abbrev N_take_is_early : List Str := ["state", "key", "number", "k"]
theorem sc_take_is_early : FnScope N_take_is_early ["state", "key", "number"] (defScope (top 45)) := ⟨rfl, rfl, rfl, by decide +kernel, rfl, by decide +kernel, by decide +kernel⟩
noncomputable def m_take_is_early : MS :=
  (sRet (mB anyF (mCons c_take_is_early_1 mNil)))
noncomputable def F_take_is_early : Fn := runF 4 m_take_is_early
theorem b_take_is_early {D : Wd} (h : Fx D) {k : Nat} {X : Cx} {W : WX}  (gs : Gs D X W N_take_is_early (.df (defScope (top 45))) k) : SB X W (defBody (top 45)) m_take_is_early :=
  (sb_one (ss_ret (se_callB gs.toGd (cb_any gs.toGd.calm) rfl h.b_any (by with_unfolding_all rfl) (sa_cons (se_lc false (own := [("k", 3)]) gs.toGd (si_range1 gs.toGd rfl h.b_range (se_var gs.toGd 2 rfl rfl)) (by decide) (by decide +kernel) (fun X' g' => (sg_name g' 3 rfl rfl)) (fun X' g' => pts_no) (fun X' g' => (se_and (se_cmp (cm_nin g'.room) (se_tup (sa_cons (se_var g' 1 rfl rfl) (sa_cons (se_var g' 3 rfl rfl) sa_nil))) (se_ix (se_var g' 0 rfl rfl) se_int) (by with_unfolding_all rfl)) (se_one (se_cmp (cm_nin g'.room) (se_tup (sa_cons (se_var g' 1 rfl rfl) (sa_cons (se_var g' 3 rfl rfl) sa_nil))) (se_ix (se_var g' 0 rfl rfl) se_int) (by with_unfolding_all rfl)))))) sa_nil))))
theorem t_take_is_early {D : Wd} (h : Fx D) : FnF D "take_is_early" 1 3 F_take_is_early := by
  obtain ⟨f, fd, F, hm, hb⟩ := h.f_take_is_early
  exact fnF_mk (k := 0) F sc_take_is_early rfl hm hb fun X W gs => b_take_is_early h  gs
/-! shows_step -/
noncomputable def lb_shows_step_1 : MS :=
  (sSeq (sIf (mAnd (mCmp inF (mVar 0) (mTup (mCons (mD (.str "lost")) (mCons (mD (.str "late")) mNil)))) (mCmp eqF (mIx (mVar 3) (mD (.int 0))) (mVar 0)))
  (sRet (mD (.bool true)))
  sNext)
  (sIf (mCmp eqF (mIx (mVar 3) (mD (.int 0))) (mD (.str "take")))
  (sSeq (sIf (mAnd (mCmp eqF (mVar 0) (mD (.str "order"))) (mTru (mCallP F_take_is_early 3 (mCons (mVar 1) (mCons (mIx (mVar 3) (mD (.int 2))) (mCons (mIx (mVar 3) (mD (.int 3))) mNil))))))
  (sRet (mD (.bool true)))
  sNext)
  (sIf (mAnd (mCmp eqF (mVar 0) (mD (.str "twice"))) (mCmp inF (mSl false (mVar 3) (mOSome (mD (.int 2))) mONone) (mIx (mVar 1) (mD (.int 7)))))
  (sRet (mD (.bool true)))
  sNext))
  sNext))
noncomputable def l_shows_step_1 : MS :=
  sFor (mIt (mVar 2)) (gN 3) lb_shows_step_1 [3]

abbrev N_shows_step : List Str := ["question", "state", "events", "event"]
theorem sc_shows_step : FnScope N_shows_step ["question", "state", "events"] (defScope (top 46)) := ⟨rfl, rfl, rfl, by decide +kernel, rfl, by decide +kernel, by decide +kernel⟩
noncomputable def m_shows_step : MS :=
  (sSeq l_shows_step_1
  (sRet (mD (.bool false))))
noncomputable def F_shows_step : Fn := runF 4 m_shows_step
theorem b_shows_step {D : Wd} (h : Fx D) {k : Nat} {X : Cx} {W : WX} (hk_take_is_early : 1 ≤ k) (gs : Gs D X W N_shows_step (.df (defScope (top 46))) k) : SB X W (defBody (top 46)) m_shows_step :=
  (sb_cons (ss_for [3] gs (si_seq (se_var gs.toGd 2 rfl rfl)) (sg_name gs.toGd 3 rfl rfl)
  (sb_cons (ss_if (st_w (sw_and (st_cmp (cm_in gs.toGd.room) (se_var gs.toGd 0 rfl rfl) (se_tup (sa_cons se_str (sa_cons se_str sa_nil))) (by with_unfolding_all rfl)) (sw_and1 (st_cmp (cm_eq gs.toGd.room) (se_ix (se_var gs.toGd 3 rfl rfl) se_int) (se_var gs.toGd 0 rfl rfl) (by with_unfolding_all rfl)))))
  (sb_one (ss_ret se_bl))
  sb_nil)
  (sb_one (ss_if (st_cmp (cm_eq gs.toGd.room) (se_ix (se_var gs.toGd 3 rfl rfl) se_int) se_str (by with_unfolding_all rfl))
  (sb_cons (ss_if (st_w (sw_and (st_cmp (cm_eq gs.toGd.room) (se_var gs.toGd 0 rfl rfl) se_str (by with_unfolding_all rfl)) (sw_and1 (st_tru (se_callP gs.toGd (t_take_is_early h) hk_take_is_early rfl (sa_cons (se_var gs.toGd 1 rfl rfl) (sa_cons (se_ix (se_var gs.toGd 3 rfl rfl) se_int) (sa_cons (se_ix (se_var gs.toGd 3 rfl rfl) se_int) sa_nil))))))))
  (sb_one (ss_ret se_bl))
  sb_nil)
  (sb_one (ss_if (st_w (sw_and (st_cmp (cm_eq gs.toGd.room) (se_var gs.toGd 0 rfl rfl) se_str (by with_unfolding_all rfl)) (sw_and1 (st_cmp (cm_in gs.toGd.room) (se_sl false (se_var gs.toGd 3 rfl rfl) (so_some se_int) so_none) (se_ix (se_var gs.toGd 1 rfl rfl) se_int) (by with_unfolding_all rfl)))))
  (sb_one (ss_ret se_bl))
  sb_nil)))
  sb_nil))))
  (sb_one (ss_ret se_bl)))
theorem t_shows_step {D : Wd} (h : Fx D) : FnF D "shows_step" 2 3 F_shows_step := by
  obtain ⟨f, fd, F, hm, hb⟩ := h.f_shows_step
  exact fnF_mk (k := 1) F sc_shows_step rfl hm hb fun X W gs => b_shows_step h (by omega) gs
/-! House.shows -/
noncomputable def c_House_shows_1 : ME :=
  mLc false [2, 3] (mZip (mFld "House" "stands" (mVar 0)) (mFld "House" "told" (mVar 0))) (gT 2 (gsCons (gN 2) (gsCons (gN 3) gsNil))) mYes (mCallP F_shows_step 3 (mCons (mVar 1) (mCons (mVar 2) (mCons (mVar 3) mNil))))

abbrev N_House_shows : List Str := ["self", "question", "state", "events"]
theorem sc_House_shows : FnScope N_House_shows ["self", "question"] (defScope (meth 49 12)) := ⟨rfl, rfl, rfl, by decide +kernel, rfl, by decide +kernel, by decide +kernel⟩
noncomputable def m_House_shows : MS :=
  (sSeq (sDrop (mCallP F_need_question 2 (mCons (mVar 1) (mCons (mD d_SHOWN_AT_ONCE) mNil))))
  (sRet (mB anyF (mCons c_House_shows_1 mNil))))
noncomputable def F_House_shows : Fn := runF 4 m_House_shows
theorem b_House_shows {D : Wd} (h : Fx D) {k : Nat} {X : Cx} {W : WX} (hk_need_question : 1 ≤ k) (hk_shows_step : 2 ≤ k) (gs : Gs D X W N_House_shows (.df (defScope (meth 49 12))) k) : SB X W (defBody (meth 49 12)) m_House_shows :=
  (sb_cons (ss_expr (se_callP gs.toGd (t_need_question h) hk_need_question rfl (sa_cons (se_var gs.toGd 1 rfl rfl) (sa_cons (se_globD gs.toGd rfl h.c_SHOWN_AT_ONCE) sa_nil))))
  (sb_one (ss_ret (se_callB gs.toGd (cb_any gs.toGd.calm) rfl h.b_any (by with_unfolding_all rfl) (sa_cons (se_lc false (own := [("state", 2), ("events", 3)]) gs.toGd (si_zip gs.toGd rfl h.b_zip (se_fld gs.toGd h.at_House_stands (se_var gs.toGd 0 rfl rfl)) (se_fld gs.toGd h.at_House_told (se_var gs.toGd 0 rfl rfl))) (by decide) (by decide +kernel) (fun X' g' => (sg_tup g' (sgs_cons (sg_name g' 2 rfl rfl) (sgs_cons (sg_name g' 3 rfl rfl) sgs_nil)))) (fun X' g' => pts_no) (fun X' g' => (se_callP g' (t_shows_step h) hk_shows_step rfl (sa_cons (se_var g' 1 rfl rfl) (sa_cons (se_var g' 2 rfl rfl) (sa_cons (se_var g' 3 rfl rfl) sa_nil)))))) sa_nil)))))
theorem t_House_shows {D : Wd} (h : Fx D) : FnM D "House" "shows" 3 2 F_House_shows := by
  obtain ⟨Ca, g, fd, F, hC, hc, hm, hb⟩ := h.f_House_shows
  exact fnM_mk (k := 2) F sc_House_shows rfl hC hc hm hb fun X W gs => b_House_shows h (by omega) (by omega) gs
/-! _law_asked -/

abbrev N__law_asked : List Str := ["_law_live", "_law_question", "_law_told"]
theorem sc__law_asked : FnScope N__law_asked ["_law_live", "_law_question"] (defScope (top 59)) := ⟨rfl, rfl, rfl, by decide +kernel, rfl, by decide +kernel, by decide +kernel⟩
noncomputable def m__law_asked : MS :=
  (sSeq (sSet 2 (mD (.str "none")))
  (sSeq (sTry none [("BadHouse", false), ("BadQuestion", true), ("BadLane", false)] (sxSet 2 (mxD (.str "bad"))) (sSet 2 (mMeth "House" "shows" F_House_shows 2 (mVar 0) (mCons (mVar 1) mNil))))
  (sRet (mVar 2))))
noncomputable def F__law_asked : Fn := runF 3 m__law_asked
theorem b__law_asked {D : Wd} (h : Fx D) {k : Nat} {X : Cx} {W : WX} (hk_House_shows : 3 ≤ k) (gs : Gs D X W N__law_asked (.df (defScope (top 59))) k) : SB X W (defBody (top 59)) m__law_asked :=
  (sb_cons (ss_set gs.toGd 2 rfl rfl se_str)
  (sb_cons (ss_tryOnly gs rfl h.hd_BadQuestion (fun X W gs => (sb_one (ss_set gs.toGd 2 rfl rfl (se_meth gs.toGd (t_House_shows h) hk_House_shows (se_var gs.toGd 0 rfl rfl) (sa_cons (se_var gs.toGd 1 rfl rfl) sa_nil))))) (fun a oe cls d pn gx su => (xb_one (xs_set gx 2 rfl rfl (by decide) xe_str))))
  (sb_one (ss_ret (se_var gs.toGd 2 rfl rfl)))))
theorem t__law_asked {D : Wd} (h : Fx D) : FnF D "_law_asked" 4 2 F__law_asked := by
  obtain ⟨f, fd, F, hm, hb⟩ := h.f__law_asked
  exact fnF_mk (k := 3) F sc__law_asked rfl hm hb fun X W gs => b__law_asked h (by omega) gs
/-! House.run -/
noncomputable def c_House_run_1 : ME :=
  mLc false [1] (mIt (mFld "House" "deeds" (mVar 0))) (gN 1) (mCmp neF (mVar 1) (mD d_ADDED)) (mVar 1)

abbrev N_House_run : List Str := ["self", "deed"]
theorem sc_House_run : FnScope N_House_run ["self"] (defScope (meth 49 5)) := ⟨rfl, rfl, rfl, by decide +kernel, rfl, by decide +kernel, by decide +kernel⟩
noncomputable def m_House_run : MS :=
  (sRet c_House_run_1)
noncomputable def F_House_run : Fn := runF 2 m_House_run
theorem b_House_run {D : Wd} (h : Fx D) {k : Nat} {X : Cx} {W : WX}  (gs : Gs D X W N_House_run (.df (defScope (meth 49 5))) k) : SB X W (defBody (meth 49 5)) m_House_run :=
  (sb_one (ss_ret (se_lc false (own := [("deed", 1)]) gs.toGd (si_seq (se_fld gs.toGd h.at_House_deeds (se_var gs.toGd 0 rfl rfl))) (by decide) (by decide +kernel) (fun X' g' => (sg_name g' 1 rfl rfl)) (fun X' g' => (pts_if (st_cmp (cm_ne g'.room) (se_var g' 1 rfl rfl) (se_globD g' rfl h.c_ADDED) (by with_unfolding_all rfl)))) (fun X' g' => (se_var g' 1 rfl rfl)))))
theorem t_House_run {D : Wd} (h : Fx D) : FnM D "House" "run" 1 1 F_House_run := by
  obtain ⟨Ca, g, fd, F, hC, hc, hm, hb⟩ := h.f_House_run
  exact fnM_mk (k := 0) F sc_House_run rfl hC hc hm hb fun X W gs => b_House_run h  gs
/-! _law_same -/
noncomputable def lb__law_same_1 (fu__law_same : Fn) : MS :=
  (sIf (mNot (mTru (mCallP fu__law_same 2 (mCons (mIx (mVar 0) (mVar 2)) (mCons (mIx (mVar 1) (mVar 2)) mNil)))))
  (sRet (mD (.bool false)))
  sNext)
noncomputable def l__law_same_1 (fu__law_same : Fn) : MS :=
  sFor (mRg1 (mB lenF (mCons (mVar 1) mNil))) (gN 2) (lb__law_same_1 fu__law_same) [2]

abbrev N__law_same : List Str := ["_law_actual", "_law_due", "_law_k"]
theorem sc__law_same : FnScope N__law_same ["_law_actual", "_law_due"] (defScope (top 56)) := ⟨rfl, rfl, rfl, by decide +kernel, rfl, by decide +kernel, by decide +kernel⟩
noncomputable def m__law_same (fu__law_same : Fn) : MS :=
  (sSeq (sIf (mTru (mIsa .tuple (mVar 1)))
  (sIf (mOr (mNot (mTru (mIsa .tuple (mVar 0)))) (mCmp neF (mB lenF (mCons (mVar 0) mNil)) (mB lenF (mCons (mVar 1) mNil))))
  (sRet (mD (.bool false)))
  sNext)
  (sIf (mTru (mIsa .list (mVar 1)))
  (sIf (mOr (mNot (mTru (mIsa .list (mVar 0)))) (mCmp neF (mB lenF (mCons (mVar 0) mNil)) (mB lenF (mCons (mVar 1) mNil))))
  (sRet (mD (.bool false)))
  sNext)
  (sIf (mCmp isNF (mVar 1) (mD .none))
  (sRet (mBv (mCmp isNF (mVar 0) (mD .none))))
  (sIf (mTru (mIsa .bool (mVar 1)))
  (sRet (mAndV (mIsa .bool (mVar 0)) (mBv (mCmp eqF (mVar 0) (mVar 1)))))
  (sIf (mTru (mIsa .int (mVar 1)))
  (sRet (mAndV (mIsa .int (mVar 0)) (mAndV (mBv (mNot (mTru (mIsa .bool (mVar 0))))) (mBv (mCmp eqF (mVar 0) (mVar 1))))))
  (sRet (mAndV (mIsa .str (mVar 0)) (mBv (mCmp eqF (mVar 0) (mVar 1))))))))))
  (sSeq (l__law_same_1 fu__law_same)
  (sRet (mD (.bool true)))))
noncomputable def F__law_same : Nat → Fn
  | 0 => runF 3 sBad
  | n + 1 => runF 3 (m__law_same (F__law_same n))
theorem b__law_same {D : Wd} (h : Fx D) {k j : Nat} {X : Cx} {W : WX} {fu__law_same : Fn}  (hr : FnF D "_law_same" j 2 fu__law_same) (hk__law_same : j ≤ k) (gs : Gs D X W N__law_same (.df (defScope (top 56))) k) : SB X W (defBody (top 56)) (m__law_same fu__law_same) :=
  (sb_cons (ss_if (st_tru (se_isa gs.toGd .tuple (by decide) rfl h.b_isinstance rfl h.b_tuple (by with_unfolding_all rfl) (se_var gs.toGd 1 rfl rfl)))
  (sb_one (ss_if (st_w (sw_or (st_not (st_tru (se_isa gs.toGd .tuple (by decide) rfl h.b_isinstance rfl h.b_tuple (by with_unfolding_all rfl) (se_var gs.toGd 0 rfl rfl)))) (sw_or1 (st_cmp (cm_ne gs.toGd.room) (se_callB gs.toGd cb_len rfl h.b_len (by with_unfolding_all rfl) (sa_cons (se_var gs.toGd 0 rfl rfl) sa_nil)) (se_callB gs.toGd cb_len rfl h.b_len (by with_unfolding_all rfl) (sa_cons (se_var gs.toGd 1 rfl rfl) sa_nil)) (by with_unfolding_all rfl)))))
  (sb_one (ss_ret se_bl))
  sb_nil))
  (sb_one (ss_if (st_tru (se_isa gs.toGd .list (by decide) rfl h.b_isinstance rfl h.b_list (by with_unfolding_all rfl) (se_var gs.toGd 1 rfl rfl)))
  (sb_one (ss_if (st_w (sw_or (st_not (st_tru (se_isa gs.toGd .list (by decide) rfl h.b_isinstance rfl h.b_list (by with_unfolding_all rfl) (se_var gs.toGd 0 rfl rfl)))) (sw_or1 (st_cmp (cm_ne gs.toGd.room) (se_callB gs.toGd cb_len rfl h.b_len (by with_unfolding_all rfl) (sa_cons (se_var gs.toGd 0 rfl rfl) sa_nil)) (se_callB gs.toGd cb_len rfl h.b_len (by with_unfolding_all rfl) (sa_cons (se_var gs.toGd 1 rfl rfl) sa_nil)) (by with_unfolding_all rfl)))))
  (sb_one (ss_ret se_bl))
  sb_nil))
  (sb_one (ss_if (st_cmp cm_isN (se_var gs.toGd 1 rfl rfl) se_non (by with_unfolding_all rfl))
  (sb_one (ss_ret (se_cmp cm_isN (se_var gs.toGd 0 rfl rfl) se_non (by with_unfolding_all rfl))))
  (sb_one (ss_if (st_tru (se_isa gs.toGd .bool (by decide) rfl h.b_isinstance rfl h.b_bool (by with_unfolding_all rfl) (se_var gs.toGd 1 rfl rfl)))
  (sb_one (ss_ret (se_and (se_isa gs.toGd .bool (by decide) rfl h.b_isinstance rfl h.b_bool (by with_unfolding_all rfl) (se_var gs.toGd 0 rfl rfl)) (se_one (se_cmp (cm_eq gs.toGd.room) (se_var gs.toGd 0 rfl rfl) (se_var gs.toGd 1 rfl rfl) (by with_unfolding_all rfl))))))
  (sb_one (ss_if (st_tru (se_isa gs.toGd .int (by decide) rfl h.b_isinstance rfl h.b_int (by with_unfolding_all rfl) (se_var gs.toGd 1 rfl rfl)))
  (sb_one (ss_ret (se_and (se_isa gs.toGd .int (by decide) rfl h.b_isinstance rfl h.b_int (by with_unfolding_all rfl) (se_var gs.toGd 0 rfl rfl)) (se_and (se_not (se_isa gs.toGd .bool (by decide) rfl h.b_isinstance rfl h.b_bool (by with_unfolding_all rfl) (se_var gs.toGd 0 rfl rfl))) (se_one (se_cmp (cm_eq gs.toGd.room) (se_var gs.toGd 0 rfl rfl) (se_var gs.toGd 1 rfl rfl) (by with_unfolding_all rfl)))))))
  (sb_one (ss_ret (se_and (se_isa gs.toGd .str (by decide) rfl h.b_isinstance rfl h.b_str (by with_unfolding_all rfl) (se_var gs.toGd 0 rfl rfl)) (se_one (se_cmp (cm_eq gs.toGd.room) (se_var gs.toGd 0 rfl rfl) (se_var gs.toGd 1 rfl rfl) (by with_unfolding_all rfl)))))))))))))))
  (sb_cons (ss_for [2] gs (si_range1 gs.toGd rfl h.b_range (se_callB gs.toGd cb_len rfl h.b_len (by with_unfolding_all rfl) (sa_cons (se_var gs.toGd 1 rfl rfl) sa_nil))) (sg_name gs.toGd 2 rfl rfl)
  (sb_one (ss_if (st_not (st_tru (se_callP gs.toGd hr hk__law_same rfl (sa_cons (se_ix (se_var gs.toGd 0 rfl rfl) (se_var gs.toGd 2 rfl rfl)) (sa_cons (se_ix (se_var gs.toGd 1 rfl rfl) (se_var gs.toGd 2 rfl rfl)) sa_nil)))))
  (sb_one (ss_ret se_bl))
  sb_nil)))
  (sb_one (ss_ret se_bl))))
theorem t__law_same {D : Wd} (h : Fx D) : ∀ n, FnF D "_law_same" (n + 1) 2 (F__law_same n) := by
  intro n
  obtain ⟨f, fd, F, hm, hb⟩ := h.f__law_same
  induction n with
  | zero => exact (fnF_mk (m := sBad) F sc__law_same rfl hm hb fun X W gs => sb_bad : FnF D "_law_same" (0 + 1) 2 (F__law_same 0)).mono (by omega)
  | succ n ih => exact (fnF_mk (k := n + 1) F sc__law_same rfl hm hb fun X W gs => b__law_same h  ih (Nat.le_refl _) gs).mono (by omega)
/-! law -/
noncomputable def lb_law_1 : MS :=
  (sIf (mNot (mTru (mCallP (F__law_same 8) 2 (mCons (mCall F__law_asked 2 (mCons (mVar 5) (mCons (mVar 6) mNil))) (mCons (mD (.bool false)) mNil)))))
  (sRet (mD (.bool false)))
  sNext)
noncomputable def l_law_1 : MS :=
  sFor (mIt (mLst false (mCons (mD (.str "order")) (mCons (mD (.str "twice")) (mCons (mD (.str "lost")) (mCons (mD (.str "late")) mNil)))))) (gN 6) lb_law_1 []
noncomputable def lb_law_2 : MS :=
  (sSeq (sSet 3 (mCallP F__law_draws 2 (mCons (mCallP F__law_cell 2 (mCons (mVar 0) (mCons (mBin (addF false) (mD (.int 2)) (mVar 2)) mNil))) (mCons (mLst false (mCons (mD (.int 9)) (mCons (mD (.int 60)) (mCons (mD (.int 8)) mNil)))) mNil))))
  (sSeq (sSet 4 (mCallP F__law_bad 3 (mCons (mVar 1) (mCons (mIx (mVar 3) (mD (.int 0))) (mCons (mIx (mVar 3) (mD (.int 1))) mNil)))))
  (sSeq (sIf (mOr (mNot (mTru (mCallP F__law_refused 2 (mCons (mD (.int 0)) (mCons (mVar 4) mNil))))) (mNot (mTru (mCallP F__law_refused 2 (mCons (mD (.int 1)) (mCons (mVar 4) mNil))))))
  (sRet (mD (.bool false)))
  sNext)
  (sSeq (sSet 5 (mMake "House" F_House___init__ 2 (mCons (mVar 1) mNil)))
  (sSeq (sSet 6 (mIx (mLst false (mCons (mD (.str "stuck")) (mCons (mD (.str "left")) (mCons (mD (.str "")) (mCons (mD (.str "Order")) (mCons (mD (.str "order ")) (mCons (mD .none) (mCons (mD (.int 0)) (mCons (mTup (mCons (mD (.str "order")) mNil)) mNil))))))))) (mIx (mVar 3) (mD (.int 2)))))
  (sSeq (sIf (mOr (mCmp neF (mCall F__law_asked 2 (mCons (mVar 5) (mCons (mVar 6) mNil))) (mD (.str "bad"))) (mOr (mCmp neF (mMeth "House" "run" F_House_run 1 (mVar 5) mNil) (mLst false mNil)) (mNot (mTru (mIsa .str (mCallP F_show_house 1 (mCons (mVar 1) mNil)))))))
  (sRet (mD (.bool false)))
  sNext)
  l_law_1))))))
noncomputable def l_law_2 : MS :=
  sFor (mRg1 (mB max2F (mCons (mD (.int 1)) (mCons (mB min2F (mCons (mD (.int 40)) (mCons (mBin subF (mB lenF (mCons (mVar 0) mNil)) (mD (.int 2))) mNil))) mNil)))) (gN 2) lb_law_2 [2, 3, 4, 5, 6]

abbrev N_law : List Str := ["_law_script", "_law_house_here", "_law_k", "_law_draws_here", "_law_bad_here", "_law_live", "_law_question"]
theorem sc_law : FnScope N_law ["_law_script"] (defScope (top 60)) := ⟨rfl, rfl, rfl, by decide +kernel, rfl, by decide +kernel, by decide +kernel⟩
noncomputable def m_law : MS :=
  (sSeq (sSet 1 (mCallP F__law_house 3 (mCons (mVar 0) (mCons (mD (.int 15)) (mCons (mD (.int 2)) mNil)))))
  (sSeq l_law_2
  (sRet (mD (.bool true)))))
noncomputable def F_law : Fn := runF 7 m_law
theorem b_law {D : Wd} (h : Fx D) {k : Nat} {X : Cx} {W : WX} (hk_House___init__ : 7 ≤ k) (hk_House_run : 1 ≤ k) (hk__law_asked : 4 ≤ k) (hk__law_bad : 1 ≤ k) (hk__law_cell : 1 ≤ k) (hk__law_draws : 1 ≤ k) (hk__law_house : 3 ≤ k) (hk__law_refused : 8 ≤ k) (hk__law_same : 9 ≤ k) (hk_show_house : 6 ≤ k) (gs : Gs D X W N_law (.df (defScope (top 60))) k) : SB X W (defBody (top 60)) m_law :=
  (sb_cons (ss_set gs.toGd 1 rfl rfl (se_callP gs.toGd (t__law_house h) hk__law_house rfl (sa_cons (se_var gs.toGd 0 rfl rfl) (sa_cons se_int (sa_cons se_int sa_nil)))))
  (sb_cons (ss_for [2, 3, 4, 5, 6] gs (si_range1 gs.toGd rfl h.b_range (se_callB gs.toGd (cb_max2 gs.toGd.calm) rfl h.b_max (by with_unfolding_all rfl) (sa_cons se_int (sa_cons (se_callB gs.toGd (cb_min2 gs.toGd.calm) rfl h.b_min (by with_unfolding_all rfl) (sa_cons se_int (sa_cons (se_bin op2_sub (se_callB gs.toGd cb_len rfl h.b_len (by with_unfolding_all rfl) (sa_cons (se_var gs.toGd 0 rfl rfl) sa_nil)) se_int) sa_nil))) sa_nil)))) (sg_name gs.toGd 2 rfl rfl)
  (sb_cons (ss_set gs.toGd 3 rfl rfl (se_callP gs.toGd (t__law_draws h) hk__law_draws rfl (sa_cons (se_callP gs.toGd (t__law_cell h) hk__law_cell rfl (sa_cons (se_var gs.toGd 0 rfl rfl) (sa_cons (se_bin (op2_add false) se_int (se_var gs.toGd 2 rfl rfl)) sa_nil))) (sa_cons (se_lst false (sa_cons se_int (sa_cons se_int (sa_cons se_int sa_nil)))) sa_nil))))
  (sb_cons (ss_set gs.toGd 4 rfl rfl (se_callP gs.toGd (t__law_bad h) hk__law_bad rfl (sa_cons (se_var gs.toGd 1 rfl rfl) (sa_cons (se_ix (se_var gs.toGd 3 rfl rfl) se_int) (sa_cons (se_ix (se_var gs.toGd 3 rfl rfl) se_int) sa_nil)))))
  (sb_cons (ss_if (st_w (sw_or (st_not (st_tru (se_callP gs.toGd (t__law_refused h) hk__law_refused rfl (sa_cons se_int (sa_cons (se_var gs.toGd 4 rfl rfl) sa_nil))))) (sw_or1 (st_not (st_tru (se_callP gs.toGd (t__law_refused h) hk__law_refused rfl (sa_cons se_int (sa_cons (se_var gs.toGd 4 rfl rfl) sa_nil))))))))
  (sb_one (ss_ret se_bl))
  sb_nil)
  (sb_cons (ss_set gs.toGd 5 rfl rfl (se_make gs.toGd (t_House___init__ h) hk_House___init__ rfl (sa_cons (se_var gs.toGd 1 rfl rfl) sa_nil)))
  (sb_cons (ss_set gs.toGd 6 rfl rfl (se_ix (se_lst false (sa_cons se_str (sa_cons se_str (sa_cons se_str (sa_cons se_str (sa_cons se_str (sa_cons se_non (sa_cons se_int (sa_cons (se_tup (sa_cons se_str sa_nil)) sa_nil))))))))) (se_ix (se_var gs.toGd 3 rfl rfl) se_int)))
  (sb_cons (ss_if (st_w (sw_or (st_cmp (cm_ne gs.toGd.room) (se_call gs.toGd (t__law_asked h) hk__law_asked rfl (sa_cons (se_var gs.toGd 5 rfl rfl) (sa_cons (se_var gs.toGd 6 rfl rfl) sa_nil))) se_str (by with_unfolding_all rfl)) (sw_or (st_cmp (cm_ne gs.toGd.room) (se_meth0 gs.toGd (t_House_run h) hk_House_run (se_var gs.toGd 5 rfl rfl)) (se_lst false sa_nil) (by with_unfolding_all rfl)) (sw_or1 (st_not (st_tru (se_isa gs.toGd .str (by decide) rfl h.b_isinstance rfl h.b_str (by with_unfolding_all rfl) (se_callP gs.toGd (t_show_house h) hk_show_house rfl (sa_cons (se_var gs.toGd 1 rfl rfl) sa_nil)))))))))
  (sb_one (ss_ret se_bl))
  sb_nil)
  (sb_one (ss_for [] gs (si_seq (se_lst false (sa_cons se_str (sa_cons se_str (sa_cons se_str (sa_cons se_str sa_nil)))))) (sg_name gs.toGd 6 rfl rfl)
  (sb_one (ss_if (st_not (st_tru (se_callP gs.toGd (t__law_same h 8) hk__law_same rfl (sa_cons (se_call gs.toGd (t__law_asked h) hk__law_asked rfl (sa_cons (se_var gs.toGd 5 rfl rfl) (sa_cons (se_var gs.toGd 6 rfl rfl) sa_nil))) (sa_cons se_bl sa_nil)))))
  (sb_one (ss_ret se_bl))
  sb_nil)))))))))))
  (sb_one (ss_ret se_bl))))
theorem t_law {D : Wd} (h : Fx D) : FnF D "law" 10 1 F_law := by
  obtain ⟨f, fd, F, hm, hb⟩ := h.f_law
  exact fnF_mk (k := 9) F sc_law rfl hm hb fun X W gs => b_law h (by omega) (by omega) (by omega) (by omega) (by omega) (by omega) (by omega) (by omega) (by omega) (by omega) gs
end Lw

namespace Lw
open PySem PySem.Spec PyProof.Rows L2 Z
def fa0 : List He.Fa := [.free "abs",
  .free "all",
  .free "any",
  .free "bool",
  .free "int",
  .free "isinstance",
  .free "len",
  .free "list",
  .free "max",
  .free "min",
  .free "range",
  .free "str",
  .free "tuple",
  .free "zip",
  .int "MOST_WORDS" 15,
  .glo "House",
  .cls "House",
  .noat "House" "deeds",
  .noat "House" "origin",
  .noat "House" "stands",
  .noat "House" "told",
  .exc "BadHouse",
  .glo "BadHouse",
  .exc "BadQuestion",
  .glo "BadQuestion",
  .glo "_law_draws",
  .glo "_law_plan",
  .glo "_law_cell",
  .glo "_law_scheme",
  .glo "_law_house",
  .glo "_law_bad",
  .glo "is_one_of",
  .glo "is_scheme",
  .glo "is_plan",
  .glo "is_integer",
  .glo "is_counts",
  .glo "fit_together",
  .glo "is_course",
  .glo "is_house",
  .glo "need_house",
  .glo "nothing_read",
  .glo "first_state",
  .mkr "House",
  .glo "show_scheme",
  .glo "show_plan",
  .glo "show_numbers",
  .glo "show_house",
  .glo "_law_refused",
  .glo "need_question",
  .glo "take_is_early",
  .glo "shows_step",
  .meth "House" "shows",
  .glo "_law_asked",
  .meth "House" "run",
  .glo "_law_same",
  .glo "law"]
def fn0 : List He.DefD := [⟨("_law_draws", none), "_law_draws", "_law_draws", defArgs (top 52), defBody (top 52), defScope (top 52), [], []⟩,
  ⟨("_law_plan", none), "_law_plan", "_law_plan", defArgs (top 54), defBody (top 54), defScope (top 54), [], []⟩,
  ⟨("_law_cell", none), "_law_cell", "_law_cell", defArgs (top 51), defBody (top 51), defScope (top 51), [], []⟩,
  ⟨("_law_scheme", none), "_law_scheme", "_law_scheme", defArgs (top 53), defBody (top 53), defScope (top 53), [], []⟩,
  ⟨("_law_house", none), "_law_house", "_law_house", defArgs (top 55), defBody (top 55), defScope (top 55), [], []⟩,
  ⟨("_law_bad", none), "_law_bad", "_law_bad", defArgs (top 57), defBody (top 57), defScope (top 57), [], []⟩,
  ⟨("is_one_of", none), "is_one_of", "is_one_of", defArgs (top 16), defBody (top 16), defScope (top 16), [], []⟩,
  ⟨("is_scheme", none), "is_scheme", "is_scheme", defArgs (top 17), defBody (top 17), defScope (top 17), [], []⟩,
  ⟨("is_plan", none), "is_plan", "is_plan", defArgs (top 18), defBody (top 18), defScope (top 18), [], []⟩,
  ⟨("is_integer", none), "is_integer", "is_integer", defArgs (top 9), defBody (top 9), defScope (top 9), [], []⟩,
  ⟨("is_counts", none), "is_counts", "is_counts", defArgs (top 10), defBody (top 10), defScope (top 10), [], []⟩,
  ⟨("fit_together", none), "fit_together", "fit_together", defArgs (top 20), defBody (top 20), defScope (top 20), [], []⟩,
  ⟨("is_course", none), "is_course", "is_course", defArgs (top 19), defBody (top 19), defScope (top 19), [], []⟩,
  ⟨("is_house", none), "is_house", "is_house", defArgs (top 21), defBody (top 21), defScope (top 21), [], []⟩,
  ⟨("need_house", none), "need_house", "need_house", defArgs (top 22), defBody (top 22), defScope (top 22), [], []⟩,
  ⟨("nothing_read", none), "nothing_read", "nothing_read", defArgs (top 26), defBody (top 26), defScope (top 26), [], []⟩,
  ⟨("first_state", none), "first_state", "first_state", defArgs (top 27), defBody (top 27), defScope (top 27), [], []⟩,
  ⟨("House", some "__init__"), "__init__", "House.__init__", defArgs (meth 49 0), defBody (meth 49 0), defScope (meth 49 0), [], []⟩,
  ⟨("show_scheme", none), "show_scheme", "show_scheme", defArgs (top 37), defBody (top 37), defScope (top 37), [], []⟩,
  ⟨("show_plan", none), "show_plan", "show_plan", defArgs (top 38), defBody (top 38), defScope (top 38), [], []⟩,
  ⟨("show_numbers", none), "show_numbers", "show_numbers", defArgs (top 39), defBody (top 39), defScope (top 39), [], []⟩,
  ⟨("show_house", none), "show_house", "show_house", defArgs (top 40), defBody (top 40), defScope (top 40), [], []⟩,
  ⟨("_law_refused", none), "_law_refused", "_law_refused", defArgs (top 58), defBody (top 58), defScope (top 58), [], []⟩,
  ⟨("need_question", none), "need_question", "need_question", defArgs (top 44), defBody (top 44), defScope (top 44), [.glo "QUESTIONS"], []⟩,
  ⟨("take_is_early", none), "take_is_early", "take_is_early", defArgs (top 45), defBody (top 45), defScope (top 45), [], []⟩,
  ⟨("shows_step", none), "shows_step", "shows_step", defArgs (top 46), defBody (top 46), defScope (top 46), [], []⟩,
  ⟨("House", some "shows"), "shows", "House.shows", defArgs (meth 49 12), defBody (meth 49 12), defScope (meth 49 12), [], []⟩,
  ⟨("_law_asked", none), "_law_asked", "_law_asked", defArgs (top 59), defBody (top 59), defScope (top 59), [], []⟩,
  ⟨("House", some "run"), "run", "House.run", defArgs (meth 49 5), defBody (meth 49 5), defScope (meth 49 5), [], []⟩,
  ⟨("_law_same", none), "_law_same", "_law_same", defArgs (top 56), defBody (top 56), defScope (top 56), [], []⟩,
  ⟨("law", none), "law", "law", defArgs (top 60), defBody (top 60), defScope (top 60), [], []⟩]
def lo0 : List Str := [("_wall" : Str),
  ("LaneError" : Str),
  ("BadHouse" : Str),
  ("BadCase" : Str),
  ("BadQuestion" : Str),
  ("BadLane" : Str),
  ("BadText" : Str),
  ("is_integer" : Str),
  ("is_counts" : Str),
  ("WORDS" : Str),
  ("REFUSALS" : Str),
  ("NOTES" : Str),
  ("MOST_WORDS" : Str),
  ("is_one_of" : Str),
  ("is_scheme" : Str),
  ("is_plan" : Str),
  ("is_course" : Str),
  ("fit_together" : Str),
  ("is_house" : Str),
  ("need_house" : Str)]
def lo1 : List Str := [("words_done" : Str),
  ("can_be_read" : Str),
  ("nothing_read" : Str),
  ("first_state" : Str),
  ("lane_of_entry" : Str),
  ("word_can_be_done" : Str),
  ("sender_steps" : Str),
  ("next_can_be_sent" : Str),
  ("letter_steps" : Str),
  ("reader_words" : Str),
  ("reader_steps" : Str),
  ("steps_of" : Str),
  ("show_scheme" : Str),
  ("show_plan" : Str),
  ("show_numbers" : Str),
  ("show_house" : Str),
  ("SHOWN_AT_ONCE" : Str),
  ("QUESTIONS" : Str),
  ("need_question" : Str),
  ("take_is_early" : Str)]
def lo2 : List Str := [("shows_step" : Str),
  ("ADDED" : Str),
  ("House" : Str),
  ("_law_cell" : Str),
  ("_law_draws" : Str),
  ("_law_scheme" : Str),
  ("_law_plan" : Str),
  ("_law_house" : Str),
  ("_law_same" : Str),
  ("_law_bad" : Str),
  ("_law_refused" : Str),
  ("_law_asked" : Str)]
abbrev hd : HdJ := ⟨fa0, fn0, [], [("ADDED", d_ADDED),
  ("NOTES", d_NOTES),
  ("REFUSALS", d_REFUSALS),
  ("SHOWN_AT_ONCE", d_SHOWN_AT_ONCE),
  ("WORDS", d_WORDS)], [hdB "BadQuestion" [("BadHouse", false), ("BadQuestion", true), ("BadLane", false)],
  hdB "LaneError" [("BadHouse", true), ("BadQuestion", true), ("BadLane", true)],
  bltB "ValueError" "ValueError" [("BadHouse", true), ("BadQuestion", true), ("BadLane", true)],
  clsB "BadCase" [("BadHouse", false), ("BadQuestion", false), ("BadLane", false)],
  clsB "BadHouse" [("BadHouse", true), ("BadQuestion", false), ("BadLane", false)],
  clsB "BadText" [("BadHouse", false), ("BadQuestion", false), ("BadLane", false)]], []⟩
abbrev loose : List Str := lo0 ++ lo1 ++ lo2
abbrev R : PySem.W.OpenRow := PySem.W.OpenLaw.row PySem.Challenge.rw_lanescounted_k88_no_house
abbrev hk : PySem.W.Hook := hookJ 4 hd
def ob (s : PySem.W.SharedT) : AlJ := obsJG 4 hd (HandSHeadRun.getT s)
theorem ob_eq (s : PySem.W.SharedT) : ob s = hk.obs s.abs := obsJG_eq (HandSHeadRun.getT_eq s)
theorem run (w : World) : HandSHeadRun.RunEq R (PySem.W.view R.prog [60]) hk ob 20000 loose w := by
  refine PySem.W.byRow2 "special-get-raises" (P := fun w => HandSHeadRun.RunEq R (PySem.W.view R.prog [60]) hk ob 20000 loose w) (fun w => ?_) (fun w => ?_) w
  · intro os
    kernel_rfl
  · intro os
    kernel_rfl
theorem facts {w : World} {K : PySem.W.Frag} {h : Heap} {mg : Str → Option Value} (X : K.In h) (G : h.Ns mainGlobals mg) (c : SaysJ hd w K) (base : Heap) : Fx ⟨(PySem.Challenge.rw_lanescounted_k88_no_house).prog, w, K, mg, base⟩ where
  b_abs := He.free_ok X G (c.t.d.fact 0 (f := .free "abs") rfl)
  b_all := He.free_ok X G (c.t.d.fact 1 (f := .free "all") rfl)
  b_any := He.free_ok X G (c.t.d.fact 2 (f := .free "any") rfl)
  b_bool := He.free_ok X G (c.t.d.fact 3 (f := .free "bool") rfl)
  b_int := He.free_ok X G (c.t.d.fact 4 (f := .free "int") rfl)
  b_isinstance := He.free_ok X G (c.t.d.fact 5 (f := .free "isinstance") rfl)
  b_len := He.free_ok X G (c.t.d.fact 6 (f := .free "len") rfl)
  b_list := He.free_ok X G (c.t.d.fact 7 (f := .free "list") rfl)
  b_max := He.free_ok X G (c.t.d.fact 8 (f := .free "max") rfl)
  b_min := He.free_ok X G (c.t.d.fact 9 (f := .free "min") rfl)
  b_range := He.free_ok X G (c.t.d.fact 10 (f := .free "range") rfl)
  b_str := He.free_ok X G (c.t.d.fact 11 (f := .free "str") rfl)
  b_tuple := He.free_ok X G (c.t.d.fact 12 (f := .free "tuple") rfl)
  b_zip := He.free_ok X G (c.t.d.fact 13 (f := .free "zip") rfl)
  c_ADDED := okC_ok X G (c.c 0)
  c_MOST_WORDS := let ⟨t, e⟩ := He.int_ok X G (c.t.d.fact 14 (f := .int "MOST_WORDS" 15) rfl); ⟨_, e, ⟨t, rfl⟩⟩
  c_NOTES := okC_ok X G (c.c 1)
  c_REFUSALS := okC_ok X G (c.c 2)
  c_SHOWN_AT_ONCE := okC_ok X G (c.c 3)
  c_WORDS := okC_ok X G (c.c 4)
  at_House_deeds := ⟨⟨_, (He.glo_ok X G (c.t.d.fact 15 (f := .glo "House") rfl)), He.cls_ok (c.t.d.fact 16 (f := .cls "House") rfl), He.noat_ok (c.t.d.fact 17 (f := .noat "House" "deeds") rfl)⟩⟩
  at_House_origin := ⟨⟨_, (He.glo_ok X G (c.t.d.fact 15 (f := .glo "House") rfl)), He.cls_ok (c.t.d.fact 16 (f := .cls "House") rfl), He.noat_ok (c.t.d.fact 18 (f := .noat "House" "origin") rfl)⟩⟩
  at_House_stands := ⟨⟨_, (He.glo_ok X G (c.t.d.fact 15 (f := .glo "House") rfl)), He.cls_ok (c.t.d.fact 16 (f := .cls "House") rfl), He.noat_ok (c.t.d.fact 19 (f := .noat "House" "stands") rfl)⟩⟩
  at_House_told := ⟨⟨_, (He.glo_ok X G (c.t.d.fact 15 (f := .glo "House") rfl)), He.cls_ok (c.t.d.fact 16 (f := .cls "House") rfl), He.noat_ok (c.t.d.fact 20 (f := .noat "House" "told") rfl)⟩⟩
  hd_BadQuestion := hdB_ok (D := ⟨(PySem.Challenge.rw_lanescounted_k88_no_house).prog, w, K, mg, base⟩) X G (c.b 0)
  hd_LaneError := hdB_ok (D := ⟨(PySem.Challenge.rw_lanescounted_k88_no_house).prog, w, K, mg, base⟩) X G (c.b 1)
  ib_ValueError := bltB_ok (D := ⟨(PySem.Challenge.rw_lanescounted_k88_no_house).prog, w, K, mg, base⟩) X G (c.b 2) (by with_unfolding_all rfl)
  ic_BadCase := clsB_ok (D := ⟨(PySem.Challenge.rw_lanescounted_k88_no_house).prog, w, K, mg, base⟩) X G (c.b 3)
  ic_BadHouse := clsB_ok (D := ⟨(PySem.Challenge.rw_lanescounted_k88_no_house).prog, w, K, mg, base⟩) X G (c.b 4)
  ic_BadText := clsB_ok (D := ⟨(PySem.Challenge.rw_lanescounted_k88_no_house).prog, w, K, mg, base⟩) X G (c.b 5)
  x0_BadHouse := let z := He.exc_ok (c.t.d.fact 21 (f := .exc "BadHouse") rfl); ⟨⟨_, (He.glo_ok X G (c.t.d.fact 22 (f := .glo "BadHouse") rfl)), z.1, z.2.1, z.2.2.1, z.2.2.2⟩⟩
  x0_BadQuestion := let z := He.exc_ok (c.t.d.fact 23 (f := .exc "BadQuestion") rfl); ⟨⟨_, (He.glo_ok X G (c.t.d.fact 24 (f := .glo "BadQuestion") rfl)), z.1, z.2.1, z.2.2.1, z.2.2.2⟩⟩
  f__law_draws := let ⟨fd, F⟩ := c.t.d.def_ 0 (d := ⟨("_law_draws", none), "_law_draws", "_law_draws", defArgs (top 52), defBody (top 52), defScope (top 52), [], []⟩) rfl; ⟨_, fd, F, (He.glo_ok X G (c.t.d.fact 25 (f := .glo "_law_draws") rfl)), F.bindsN fun _ _ _ _ _ _ us hl => match us, hl with | [_, _], _ => rfl⟩
  f__law_plan := let ⟨fd, F⟩ := c.t.d.def_ 1 (d := ⟨("_law_plan", none), "_law_plan", "_law_plan", defArgs (top 54), defBody (top 54), defScope (top 54), [], []⟩) rfl; ⟨_, fd, F, (He.glo_ok X G (c.t.d.fact 26 (f := .glo "_law_plan") rfl)), F.bindsN fun _ _ _ _ _ _ us hl => match us, hl with | [_, _, _], _ => rfl⟩
  f__law_cell := let ⟨fd, F⟩ := c.t.d.def_ 2 (d := ⟨("_law_cell", none), "_law_cell", "_law_cell", defArgs (top 51), defBody (top 51), defScope (top 51), [], []⟩) rfl; ⟨_, fd, F, (He.glo_ok X G (c.t.d.fact 27 (f := .glo "_law_cell") rfl)), F.bindsN fun _ _ _ _ _ _ us hl => match us, hl with | [_, _], _ => rfl⟩
  f__law_scheme := let ⟨fd, F⟩ := c.t.d.def_ 3 (d := ⟨("_law_scheme", none), "_law_scheme", "_law_scheme", defArgs (top 53), defBody (top 53), defScope (top 53), [], []⟩) rfl; ⟨_, fd, F, (He.glo_ok X G (c.t.d.fact 28 (f := .glo "_law_scheme") rfl)), F.bindsN fun _ _ _ _ _ _ us hl => match us, hl with | [_], _ => rfl⟩
  f__law_house := let ⟨fd, F⟩ := c.t.d.def_ 4 (d := ⟨("_law_house", none), "_law_house", "_law_house", defArgs (top 55), defBody (top 55), defScope (top 55), [], []⟩) rfl; ⟨_, fd, F, (He.glo_ok X G (c.t.d.fact 29 (f := .glo "_law_house") rfl)), F.bindsN fun _ _ _ _ _ _ us hl => match us, hl with | [_, _, _], _ => rfl⟩
  f__law_bad := let ⟨fd, F⟩ := c.t.d.def_ 5 (d := ⟨("_law_bad", none), "_law_bad", "_law_bad", defArgs (top 57), defBody (top 57), defScope (top 57), [], []⟩) rfl; ⟨_, fd, F, (He.glo_ok X G (c.t.d.fact 30 (f := .glo "_law_bad") rfl)), F.bindsN fun _ _ _ _ _ _ us hl => match us, hl with | [_, _, _], _ => rfl⟩
  f_is_one_of := let ⟨fd, F⟩ := c.t.d.def_ 6 (d := ⟨("is_one_of", none), "is_one_of", "is_one_of", defArgs (top 16), defBody (top 16), defScope (top 16), [], []⟩) rfl; ⟨_, fd, F, (He.glo_ok X G (c.t.d.fact 31 (f := .glo "is_one_of") rfl)), F.bindsN fun _ _ _ _ _ _ us hl => match us, hl with | [_, _], _ => rfl⟩
  f_is_scheme := let ⟨fd, F⟩ := c.t.d.def_ 7 (d := ⟨("is_scheme", none), "is_scheme", "is_scheme", defArgs (top 17), defBody (top 17), defScope (top 17), [], []⟩) rfl; ⟨_, fd, F, (He.glo_ok X G (c.t.d.fact 32 (f := .glo "is_scheme") rfl)), F.bindsN fun _ _ _ _ _ _ us hl => match us, hl with | [_], _ => rfl⟩
  f_is_plan := let ⟨fd, F⟩ := c.t.d.def_ 8 (d := ⟨("is_plan", none), "is_plan", "is_plan", defArgs (top 18), defBody (top 18), defScope (top 18), [], []⟩) rfl; ⟨_, fd, F, (He.glo_ok X G (c.t.d.fact 33 (f := .glo "is_plan") rfl)), F.bindsN fun _ _ _ _ _ _ us hl => match us, hl with | [_], _ => rfl⟩
  f_is_integer := let ⟨fd, F⟩ := c.t.d.def_ 9 (d := ⟨("is_integer", none), "is_integer", "is_integer", defArgs (top 9), defBody (top 9), defScope (top 9), [], []⟩) rfl; ⟨_, fd, F, (He.glo_ok X G (c.t.d.fact 34 (f := .glo "is_integer") rfl)), F.bindsN fun _ _ _ _ _ _ us hl => match us, hl with | [_, _, _], _ => rfl⟩
  f_is_counts := let ⟨fd, F⟩ := c.t.d.def_ 10 (d := ⟨("is_counts", none), "is_counts", "is_counts", defArgs (top 10), defBody (top 10), defScope (top 10), [], []⟩) rfl; ⟨_, fd, F, (He.glo_ok X G (c.t.d.fact 35 (f := .glo "is_counts") rfl)), F.bindsN fun _ _ _ _ _ _ us hl => match us, hl with | [_], _ => rfl⟩
  f_fit_together := let ⟨fd, F⟩ := c.t.d.def_ 11 (d := ⟨("fit_together", none), "fit_together", "fit_together", defArgs (top 20), defBody (top 20), defScope (top 20), [], []⟩) rfl; ⟨_, fd, F, (He.glo_ok X G (c.t.d.fact 36 (f := .glo "fit_together") rfl)), F.bindsN fun _ _ _ _ _ _ us hl => match us, hl with | [_, _, _], _ => rfl⟩
  f_is_course := let ⟨fd, F⟩ := c.t.d.def_ 12 (d := ⟨("is_course", none), "is_course", "is_course", defArgs (top 19), defBody (top 19), defScope (top 19), [], []⟩) rfl; ⟨_, fd, F, (He.glo_ok X G (c.t.d.fact 37 (f := .glo "is_course") rfl)), F.bindsN fun _ _ _ _ _ _ us hl => match us, hl with | [_, _], _ => rfl⟩
  f_is_house := let ⟨fd, F⟩ := c.t.d.def_ 13 (d := ⟨("is_house", none), "is_house", "is_house", defArgs (top 21), defBody (top 21), defScope (top 21), [], []⟩) rfl; ⟨_, fd, F, (He.glo_ok X G (c.t.d.fact 38 (f := .glo "is_house") rfl)), F.bindsN fun _ _ _ _ _ _ us hl => match us, hl with | [_], _ => rfl⟩
  f_need_house := let ⟨fd, F⟩ := c.t.d.def_ 14 (d := ⟨("need_house", none), "need_house", "need_house", defArgs (top 22), defBody (top 22), defScope (top 22), [], []⟩) rfl; ⟨_, fd, F, (He.glo_ok X G (c.t.d.fact 39 (f := .glo "need_house") rfl)), F.bindsN fun _ _ _ _ _ _ us hl => match us, hl with | [_], _ => rfl⟩
  f_nothing_read := let ⟨fd, F⟩ := c.t.d.def_ 15 (d := ⟨("nothing_read", none), "nothing_read", "nothing_read", defArgs (top 26), defBody (top 26), defScope (top 26), [], []⟩) rfl; ⟨_, fd, F, (He.glo_ok X G (c.t.d.fact 40 (f := .glo "nothing_read") rfl)), F.bindsN fun _ _ _ _ _ _ us hl => match us, hl with | [_], _ => rfl⟩
  f_first_state := let ⟨fd, F⟩ := c.t.d.def_ 16 (d := ⟨("first_state", none), "first_state", "first_state", defArgs (top 27), defBody (top 27), defScope (top 27), [], []⟩) rfl; ⟨_, fd, F, (He.glo_ok X G (c.t.d.fact 41 (f := .glo "first_state") rfl)), F.bindsN fun _ _ _ _ _ _ us hl => match us, hl with | [_], _ => rfl⟩
  f_House___init__ := let ⟨fd, F⟩ := c.t.d.def_ 17 (d := ⟨("House", some "__init__"), "__init__", "House.__init__", defArgs (meth 49 0), defBody (meth 49 0), defScope (meth 49 0), [], []⟩) rfl; ⟨_, _, fd, F, (He.glo_ok X G (c.t.d.fact 15 (f := .glo "House") rfl)), He.mkr_ok (c.t.d.fact 42 (f := .mkr "House") rfl), F.bindsN fun _ _ _ _ _ _ us hl => match us, hl with | [_, _], _ => rfl⟩
  f_show_scheme := let ⟨fd, F⟩ := c.t.d.def_ 18 (d := ⟨("show_scheme", none), "show_scheme", "show_scheme", defArgs (top 37), defBody (top 37), defScope (top 37), [], []⟩) rfl; ⟨_, fd, F, (He.glo_ok X G (c.t.d.fact 43 (f := .glo "show_scheme") rfl)), F.bindsN fun _ _ _ _ _ _ us hl => match us, hl with | [_], _ => rfl⟩
  f_show_plan := let ⟨fd, F⟩ := c.t.d.def_ 19 (d := ⟨("show_plan", none), "show_plan", "show_plan", defArgs (top 38), defBody (top 38), defScope (top 38), [], []⟩) rfl; ⟨_, fd, F, (He.glo_ok X G (c.t.d.fact 44 (f := .glo "show_plan") rfl)), F.bindsN fun _ _ _ _ _ _ us hl => match us, hl with | [_], _ => rfl⟩
  f_show_numbers := let ⟨fd, F⟩ := c.t.d.def_ 20 (d := ⟨("show_numbers", none), "show_numbers", "show_numbers", defArgs (top 39), defBody (top 39), defScope (top 39), [], []⟩) rfl; ⟨_, fd, F, (He.glo_ok X G (c.t.d.fact 45 (f := .glo "show_numbers") rfl)), F.bindsN fun _ _ _ _ _ _ us hl => match us, hl with | [_], _ => rfl⟩
  f_show_house := let ⟨fd, F⟩ := c.t.d.def_ 21 (d := ⟨("show_house", none), "show_house", "show_house", defArgs (top 40), defBody (top 40), defScope (top 40), [], []⟩) rfl; ⟨_, fd, F, (He.glo_ok X G (c.t.d.fact 46 (f := .glo "show_house") rfl)), F.bindsN fun _ _ _ _ _ _ us hl => match us, hl with | [_], _ => rfl⟩
  f__law_refused := let ⟨fd, F⟩ := c.t.d.def_ 22 (d := ⟨("_law_refused", none), "_law_refused", "_law_refused", defArgs (top 58), defBody (top 58), defScope (top 58), [], []⟩) rfl; ⟨_, fd, F, (He.glo_ok X G (c.t.d.fact 47 (f := .glo "_law_refused") rfl)), F.bindsN fun _ _ _ _ _ _ us hl => match us, hl with | [_, _], _ => rfl⟩
  f_need_question := let ⟨fd, F⟩ := c.t.d.def_ 23 (d := ⟨("need_question", none), "need_question", "need_question", defArgs (top 44), defBody (top 44), defScope (top 44), [.glo "QUESTIONS"], []⟩) rfl; ⟨_, fd, _, _, F, (He.glo_ok X G (c.t.d.fact 48 (f := .glo "need_question") rfl)), bindsD F 2 (List.cons_ne_nil _ _) rfl fun _ _ _ _ _ _ _ us its hl h2 => match us, hl, its, h2 with | [_, _], _, [_], _ => ⟨_, rfl, rfl⟩⟩
  f_take_is_early := let ⟨fd, F⟩ := c.t.d.def_ 24 (d := ⟨("take_is_early", none), "take_is_early", "take_is_early", defArgs (top 45), defBody (top 45), defScope (top 45), [], []⟩) rfl; ⟨_, fd, F, (He.glo_ok X G (c.t.d.fact 49 (f := .glo "take_is_early") rfl)), F.bindsN fun _ _ _ _ _ _ us hl => match us, hl with | [_, _, _], _ => rfl⟩
  f_shows_step := let ⟨fd, F⟩ := c.t.d.def_ 25 (d := ⟨("shows_step", none), "shows_step", "shows_step", defArgs (top 46), defBody (top 46), defScope (top 46), [], []⟩) rfl; ⟨_, fd, F, (He.glo_ok X G (c.t.d.fact 50 (f := .glo "shows_step") rfl)), F.bindsN fun _ _ _ _ _ _ us hl => match us, hl with | [_, _, _], _ => rfl⟩
  f_House_shows := let ⟨fd, F⟩ := c.t.d.def_ 26 (d := ⟨("House", some "shows"), "shows", "House.shows", defArgs (meth 49 12), defBody (meth 49 12), defScope (meth 49 12), [], []⟩) rfl; ⟨_, _, fd, F, (He.glo_ok X G (c.t.d.fact 15 (f := .glo "House") rfl)), He.cls_ok (c.t.d.fact 16 (f := .cls "House") rfl), He.meth_ok (c.t.d.fact 51 (f := .meth "House" "shows") rfl), F.bindsN fun _ _ _ _ _ _ us hl => match us, hl with | [_, _], _ => rfl⟩
  f__law_asked := let ⟨fd, F⟩ := c.t.d.def_ 27 (d := ⟨("_law_asked", none), "_law_asked", "_law_asked", defArgs (top 59), defBody (top 59), defScope (top 59), [], []⟩) rfl; ⟨_, fd, F, (He.glo_ok X G (c.t.d.fact 52 (f := .glo "_law_asked") rfl)), F.bindsN fun _ _ _ _ _ _ us hl => match us, hl with | [_, _], _ => rfl⟩
  f_House_run := let ⟨fd, F⟩ := c.t.d.def_ 28 (d := ⟨("House", some "run"), "run", "House.run", defArgs (meth 49 5), defBody (meth 49 5), defScope (meth 49 5), [], []⟩) rfl; ⟨_, _, fd, F, (He.glo_ok X G (c.t.d.fact 15 (f := .glo "House") rfl)), He.cls_ok (c.t.d.fact 16 (f := .cls "House") rfl), He.meth_ok (c.t.d.fact 53 (f := .meth "House" "run") rfl), F.bindsN fun _ _ _ _ _ _ us hl => match us, hl with | [_], _ => rfl⟩
  f__law_same := let ⟨fd, F⟩ := c.t.d.def_ 29 (d := ⟨("_law_same", none), "_law_same", "_law_same", defArgs (top 56), defBody (top 56), defScope (top 56), [], []⟩) rfl; ⟨_, fd, F, (He.glo_ok X G (c.t.d.fact 54 (f := .glo "_law_same") rfl)), F.bindsN fun _ _ _ _ _ _ us hl => match us, hl with | [_, _], _ => rfl⟩
  f_law := let ⟨fd, F⟩ := c.t.d.def_ 30 (d := ⟨("law", none), "law", "law", defArgs (top 60), defBody (top 60), defScope (top 60), [], []⟩) rfl; ⟨_, fd, F, (He.glo_ok X G (c.t.d.fact 55 (f := .glo "law") rfl)), F.bindsN fun _ _ _ _ _ _ us hl => match us, hl with | [_], _ => rfl⟩
end Lw
open PySem PySem.W PySem.Calls PyProof.Rows
theorem holds (law_ok : ∀ ns : List Int, ns.length ≤ 63 → ∃ st, Lw.F_law [.s ns] [] = .ok (.d (.bool true)) st) : PySem.Challenge.rw_lanescounted_k88_no_house.Holds := by
  w_on; o_law
  refine HandSHeadRun.head_any (r := OpenLaw.row PySem.Challenge.rw_lanescounted_k88_no_house) (q := view (OpenLaw.row PySem.Challenge.rw_lanescounted_k88_no_house).prog [60]) (H := Lw.hk) (ob := Lw.ob) (M := 20000) (loose := Lw.loose) (d := HandSHeadRun.topDef (OpenLaw.row PySem.Challenge.rw_lanescounted_k88_no_house).prog 60) (kwd := []) Lw.ob_eq
    (by kernel_rfl) (fun s => by kernel_rfl) Lw.run (by kernel_rfl) (by kernel_rfl) (by kernel_rfl) (by rfl) (by first | assumption | decide +kernel) (by decide +kernel) ⟨rfl, rfl, rfl, rfl, rfl, by decide +kernel⟩ ?hw ?hc
  case hw => w_witness2
  case hc =>
    refine Z.walk_ofZ (l := PySem.Challenge.rw_lanescounted_k88_no_house) (m := 63) (j := 10) (y := "_law_script") rfl (by decide) (by kernel_rfl) ⟨rfl, by decide, by decide⟩ ?F
    intro w mg fa h Y G hmg0
    obtain ⟨K, KX, c⟩ := Y
    have hmg : mg ("law" : PySem.Str) = some (.ref fa) := by
      have e : (HandSHeadRun.topDef (OpenLaw.row PySem.Challenge.rw_lanescounted_k88_no_house).prog 60).name = ("law" : PySem.Str) := by kernel_rfl
      rw [← e]
      exact hmg0
    obtain ⟨f, fd, F, e, hb⟩ := (Lw.facts (w := w) KX G c h).f_law
    cases hmg.symm.trans e
    have b := L2.FunD.bindsA (ps := ["_law_script"]) F fun _ _ _ _ _ _ us hl => match us, hl with | [_], _ => rfl
    refine ⟨K, fd, Lw.F_law, KX, fun s v => b s [v] rfl, law_ok, fun base hK hbs => ?_⟩
    exact Z.fn_mk (D := ⟨(PySem.Challenge.rw_lanescounted_k88_no_house).prog, w, K, mg, base⟩) (k := 9) (np := 1) F Lw.sc_law rfl fun X W gs => Lw.b_law (Lw.facts (w := w) hK hbs c base) (by omega) (by omega) (by omega) (by omega) (by omega) (by omega) (by omega) (by omega) (by omega) (by omega) gs

namespace Lw
open PySem PySem.Spec PyProof.Rows L2 Z
/-! draws -/
abbrev primes : List Int := [2147483647, 1999999973, 1073741789, 998244353, 1000000007, 1000000009, 536870909, 805306457]
theorem prime_at (i : Int) (h : 0 ≤ i) : ∃ p, atI (primes.map (Val.d ∘ PyData.int)) (i % 8) = some (vI p) ∧ 0 < p ∧ p ≤ 2147483647 := by
  have h1 := Int.emod_nonneg i (show (8 : Int) ≠ 0 by decide)
  have h2 := Int.emod_lt_of_pos i (show (0 : Int) < 8 by decide)
  generalize i % 8 = j at *
  have : j = 0 ∨ j = 1 ∨ j = 2 ∨ j = 3 ∨ j = 4 ∨ j = 5 ∨ j = 6 ∨ j = 7 := by omega
  rcases this with rfl | rfl | rfl | rfl | rfl | rfl | rfl | rfl <;> exact ⟨_, rfl, by decide, by decide⟩
theorem mulOk_r {i j : Int} (h : -(2 ^ 64) < j) (h2 : j < 2 ^ 64) : mulOk i j = true := by
  unfold mulOk
  rw [decide_eq_true h, decide_eq_true h2]; simp
theorem draws_step (c base rest : Int) (ps sizes row : List Int) (i : Nat) (s p1 p2 : Int) (e1 : atI (ps.map (Val.d ∘ PyData.int)) ((i : Int) % 8) = some (vI p1)) (q1 : 0 < p1) (q2 : p1 ≤ 2147483647) (e2 : atI (ps.map (Val.d ∘ PyData.int)) (((i : Int) + 3) % 8) = some (vI p2)) (q3 : 0 < p2) (q4 : p2 ≤ 2147483647)
    (hs : sizes[i]? = some s) (h0 : 0 < s) (h1 : s < 1073741824) (hi : i ≤ 1000) (hb : 0 ≤ base) (hr : 0 ≤ rest) (hl : row.length ≤ 1000) :
    ∃ r rest', 0 ≤ r ∧ r < s ∧ 0 ≤ rest' ∧ ∃ x, lb__law_draws_1 [some (vI c), some (.d (.list (sizes.map .int))), some (.d (.list (ps.map .int))), some (vI base), some (vI rest), some (.c 0), some (vI i), none] [.lst (row.map (Val.d ∘ PyData.int))] =
      .next [some (vI c), some (.d (.list (sizes.map .int))), some (.d (.list (ps.map .int))), some (vI base), some (vI rest'), some (.c 0), some (vI i), x] [.lst ((row ++ [r]).map (Val.d ∘ PyData.int))] := by
  have hl' : row.length < 16777216 := by omega
  have m1 : mulOk base 48271 = true := mulOk_r (by decide) (by decide)
  have m2 : mulOk (i : Int) (i : Int) = true := mulOk_r (by omega) (by omega)
  have m3 : mulOk ((i : Int) * (i : Int)) 7919 = true := mulOk_r (by decide) (by decide)
  have m4 : mulOk (i : Int) 69621 = true := mulOk_r (by decide) (by decide)
  have m5 : mulOk 40692 (i : Int) = true := mulOk_r (by omega) (by omega)
  have m6 : ∀ z : Int, mulOk (z % p1) (z % p1) = true := fun z => by
    have := Int.emod_nonneg z (show p1 ≠ 0 by omega)
    have := Int.emod_lt_of_pos z q1
    exact mulOk_r (by omega) (by omega)
  by_cases hc : 1000000000000000000 ≤ base ∧ 0 < rest
  · refine ⟨rest % s, rest / s, Int.emod_nonneg _ (by omega), Int.emod_lt_of_pos _ h0, Int.ediv_nonneg hr (by omega), none, ?_⟩
    simp [lb__law_draws_1, hs, hc.1, hc.2, h0, h1, hl']
  · generalize hz : ((base * 48271 + (i : Int) * i * 7919 + i * 69621 + 11) % p1 * ((base * 48271 + (i : Int) * i * 7919 + i * 69621 + 11) % p1) + 40692 * i) % p2 = z
    refine ⟨z % s, rest, Int.emod_nonneg _ (by omega), Int.emod_lt_of_pos _ h0, hr, some (vI z), ?_⟩
    by_cases hd : 1000000000000000000 ≤ base
    · have he : ¬ 0 < rest := fun z => hc ⟨hd, z⟩
      simp [lb__law_draws_1, hs, hd, he, h0, h1, hl', m1, m2, m3, m4, m5, m6, e1, e2, q1, q3, hz]
    · simp [lb__law_draws_1, hs, hd, h0, h1, hl', m1, m2, m3, m4, m5, m6, e1, e2, q1, q3, hz]
theorem e_draws (c : Int) (sizes : List Int) (hs : ∀ s ∈ sizes, 0 < s ∧ s < 1073741824) (hl : sizes.length ≤ 1000) : ∃ row : List Int, row.length = sizes.length ∧ (∀ (j : Nat) (r s : Int), row[j]? = some r → sizes[j]? = some s → 0 ≤ r ∧ r < s) ∧ ∃ st, F__law_draws [vI c, .d (.list (sizes.map .int))] [] = .ok (.d (.list (row.map .int))) st := by
  obtain ⟨env', st', h1, base, rest, row, e1, e2, b0, r0, rl, rr⟩ := forM_ex (st0 := [.lst []]) (g := gN 6) (body := lb__law_draws_1) (kill := [6, 7])
    (fun i env st => ∃ base rest : Int, ∃ row : List Int, env = [some (vI c), some (.d (.list (sizes.map .int))), some (.d (.list (primes.map .int))), some (vI base), some (vI rest), some (.c 0), none, none] ∧ st = [.lst (row.map (Val.d ∘ PyData.int))] ∧ 0 ≤ base ∧ 0 ≤ rest ∧ row.length = i ∧ (∀ (j : Nat) (r s : Int), row[j]? = some r → sizes[j]? = some s → 0 ≤ r ∧ r < s))
    (rangeL 0 sizes.length) 0 [some (vI c), some (.d (.list (sizes.map .int))), some (.d (.list (primes.map .int))), some (vI (if c < 0 then -c else c)), some (vI (if c < 0 then -c else c)), some (.c 0), none, none] [.lst []]
    ⟨_, _, [], rfl, rfl, by split <;> omega, by split <;> omega, rfl, by simp⟩
    (by
      rintro j x env st hx ⟨base, rest, row, rfl, rfl, b0, r0, rl, rr⟩
      obtain ⟨hj, rfl⟩ := rangeL_get hx
      rw [Nat.zero_add] at rl
      obtain ⟨p1, e1, q1, q2⟩ := prime_at j (by omega)
      obtain ⟨p2, e2, q3, q4⟩ := prime_at ((j : Int) + 3) (by omega)
      have hsj := List.getElem?_eq_getElem hj
      obtain ⟨s0, s1⟩ := hs _ (List.getElem_mem hj)
      obtain ⟨r, rest', k0, k1, k2, y, e⟩ := draws_step c base rest primes sizes row j _ p1 p2 e1 q1 q2 e2 q3 q4 hsj s0 s1 (by omega) b0 r0 (by omega)
      refine ⟨_, rfl, _, _, .inl (by simpa using e), base, rest', row ++ [r], rfl, rfl, b0, k2, by simp [rl], ?_⟩
      intro m r' s' h1 h2
      by_cases hm : m < row.length
      · rw [List.getElem?_append_left hm] at h1; exact rr m r' s' h1 h2
      · rw [List.getElem?_append_right (by omega)] at h1
        have : m = j := by
          by_cases q : m - row.length = 0
          · omega
          · simp [List.getElem?_singleton, q] at h1
        subst this
        rw [hsj] at h2; cases h2
        simp [rl] at h1; subst h1; exact ⟨k0, k1⟩)
  refine ⟨row, by simpa using rl, rr, [.dead], ?_⟩
  have h2 : l__law_draws_1 [some (vI c), some (.d (.list (sizes.map .int))), some (.d (.list (primes.map .int))), some (vI (if c < 0 then -c else c)), some (vI (if c < 0 then -c else c)), some (.c 0), none, none] [.lst []] = .next env' st' := by
    rw [← h1]
    simp [-rg1_i, l__law_draws_1, sFor, rg_ok (show sizes.length ≤ 1000000 by omega)]
  simp at h2
  simp [F__law_draws, m__law_draws, h2, e1, e2]
abbrev nI : Nat → PyData := fun r => .int (r : Int)
/-- draws as natural numbers -/
theorem n_draws (c : Int) (sizes : List Int) (hs : ∀ s ∈ sizes, 0 < s ∧ s < 1073741824) (hl : sizes.length ≤ 1000) : ∃ row : List Nat, row.length = sizes.length ∧ (∀ (j : Nat) (r : Nat) (s : Int), row[j]? = some r → sizes[j]? = some s → (r : Int) < s) ∧ ∃ st, F__law_draws [vI c, .d (.list (sizes.map .int))] [] = .ok (.d (.list (row.map nI))) st := by
  obtain ⟨row, h1, h2, st, h3⟩ := e_draws c sizes hs hl
  have hp : ∀ r ∈ row, 0 ≤ r := fun r hr => by
    obtain ⟨j, hj, rfl⟩ := List.getElem_of_mem hr
    exact (h2 j row[j] (sizes[j]'(by omega)) (List.getElem?_eq_getElem hj) (List.getElem?_eq_getElem (by omega))).1
  refine ⟨row.map Int.toNat, by simp [h1], fun j r s a b => ?_, st, ?_⟩
  · rw [List.getElem?_map] at a
    obtain ⟨z, a1, rfl⟩ := Option.map_eq_some_iff.mp a
    have := h2 j z s a1 b
    omega
  · have e : row.map PyData.int = (row.map Int.toNat).map nI := by
      rw [List.map_map]
      refine List.map_congr_left fun r hr => ?_
      have := hp r hr
      show PyData.int r = .int ((r.toNat : Nat) : Int)
      rw [Int.toNat_of_nonneg this]
    rw [h3, e]
theorem e_cellS (ns : List Int) (k : Nat) (st : Sto) : F__law_cell [.s ns, vI k] st = .ok (vI ((ns[k]?).getD 0)) st := by
  by_cases h : k < ns.length
  · simp [F__law_cell, m__law_cell, h]
  · simp [F__law_cell, m__law_cell, h]
end Lw

namespace Lw
open PySem PySem.Spec PyProof.Rows L2 Z
/-- draws as natural numbers -/
theorem e_cell (ns : List Int) (k : Nat) (st : Sto) : F__law_cell [.d (.list (ns.map .int)), vI k] st = .ok (vI ((ns[k]?).getD 0)) st := by
  by_cases h : k < ns.length
  · simp [F__law_cell, m__law_cell, h]
  · simp [F__law_cell, m__law_cell, h]
abbrev W8 : List Str := ["tell", "agree", "close", "clear", "drain", "copy", "open", "drop"]
abbrev SHOW : Str := "show"
/-- one show, the rest other words -/
def One (l : List Str) : Prop := ∃ p r, l = p ++ SHOW :: r ∧ (∀ w ∈ p, w ∈ W8) ∧ ∀ w ∈ r, w ∈ W8
/-- .. in the first place -/
def Fst (l : List Str) : Prop := ∃ r, l = SHOW :: r ∧ ∀ w ∈ r, w ∈ W8
theorem Fst.one {l : List Str} (h : Fst l) : One l := let ⟨r, h1, h2⟩ := h; ⟨[], r, h1, by simp, h2⟩
theorem w8_show : ∀ w ∈ W8, (w == SHOW) = false := by decide +kernel
theorem cnt0 {r : List Str} (h : ∀ w ∈ r, w ∈ W8) : r.count SHOW = 0 := by
  rw [List.count_eq_zero]
  intro hm
  have := w8_show _ (h _ hm)
  simp at this
theorem One.count {l : List Str} (h : One l) : l.count SHOW = 1 := by
  obtain ⟨p, r, rfl, h1, h2⟩ := h
  simp [List.count_append, cnt0 h1, cnt0 h2]
theorem One.ins {l : List Str} (h : One l) (n : Nat) : (l.take n ++ (SHOW :: l.drop n)).count SHOW = 2 := by
  have := h.count
  rw [← List.take_append_drop n l] at this
  rw [List.count_append] at this
  simp [List.count_append]; omega
def WordsOk (l : List Str) : Prop := ∀ w ∈ l, w ∈ SHOW :: W8
theorem One.words {l : List Str} (h : One l) : WordsOk l := by
  obtain ⟨p, r, rfl, h1, h2⟩ := h
  intro w hw
  rcases List.mem_append.mp hw with hw | hw
  · exact List.mem_cons_of_mem _ (h1 w hw)
  · rcases List.mem_cons.mp hw with rfl | hw
    · exact List.mem_cons_self
    · exact List.mem_cons_of_mem _ (h2 w hw)
theorem WordsOk.ins {l : List Str} (h : WordsOk l) (n : Nat) : WordsOk (l.take n ++ (SHOW :: l.drop n)) := by
  intro w hw
  rcases List.mem_append.mp hw with hw | hw
  · exact h w (List.mem_of_mem_take hw)
  · rcases List.mem_cons.mp hw with rfl | hw
    · exact List.mem_cons_self
    · exact h w (List.mem_of_mem_drop hw)
theorem Fst.cut {l : List Str} (h : Fst l) (n : Nat) : Fst (l.take (n + 1) ++ l.drop (n + 2)) := by
  obtain ⟨r, rfl, h2⟩ := h
  exact ⟨r.take n ++ r.drop (n + 1), by simp, fun w hw => by
    rcases List.mem_append.mp hw with hw | hw
    · exact h2 w (List.mem_of_mem_take hw)
    · exact h2 w (List.mem_of_mem_drop hw)⟩
theorem Fst.put {l : List Str} (h : Fst l) (n : Nat) {x : Str} (hx : x ∈ W8) : Fst (l.take (n + 1) ++ (x :: l.drop (n + 2))) := by
  obtain ⟨r, rfl, h2⟩ := h
  exact ⟨r.take n ++ (x :: r.drop (n + 1)), by simp, fun w hw => by
    rcases List.mem_append.mp hw with hw | hw
    · exact h2 w (List.mem_of_mem_take hw)
    · rcases List.mem_cons.mp hw with rfl | hw
      · exact hx
      · exact h2 w (List.mem_of_mem_drop hw)⟩
theorem one_of {l : List Str} (h : ∀ w ∈ l, w ∈ W8) (n : Nat) : One (l.take n ++ (SHOW :: l.drop n)) :=
  ⟨_, _, rfl, fun w hw => h w (List.mem_of_mem_take hw), fun w hw => h w (List.mem_of_mem_drop hw)⟩
abbrev bases : List (List Str) := [["show", "close", "drain", "open"], ["show", "tell", "agree", "clear", "open", "drop"], ["show", "close", "copy", "drain", "open", "tell"], ["show", "open", "tell", "drain", "drop"]]
theorem base_fst {k n : Nat} (hk : k < 4) : ∃ b, bases[k]? = some b ∧ Fst (b.take (n + 1)) ∧ b.length ≤ 15 := by
  have : k = 0 ∨ k = 1 ∨ k = 2 ∨ k = 3 := by omega
  have key : ∀ r : List Str, r.all (fun w => W8.contains w) = true → Fst ((SHOW :: r).take (n + 1)) := fun r hr => by
    refine ⟨r.take n, by simp, fun w hw => ?_⟩
    have := List.all_eq_true.mp hr w (List.mem_of_mem_take hw)
    simpa using this
  rcases this with rfl | rfl | rfl | rfl
  · exact ⟨_, rfl, key _ (by decide +kernel), by decide⟩
  · exact ⟨_, rfl, key _ (by decide +kernel), by decide⟩
  · exact ⟨_, rfl, key _ (by decide +kernel), by decide⟩
  · exact ⟨_, rfl, key _ (by decide +kernel), by decide⟩
structure PlanOk (most : Nat) (shows : Int) (l : List Str) : Prop where
  len : 1 ≤ l.length
  len2 : l.length ≤ most
  words : WordsOk l
  cnt : l.count SHOW = 1 ∨ (shows = 2 ∧ l.count SHOW = 2)
theorem plan_end {most : Nat} {shows : Int} {l : List Str} (h : One l) (hl : l.length ≤ most) : PlanOk most shows l :=
  ⟨by obtain ⟨p, r, rfl, _, _⟩ := h; simp; omega, hl, h.words, .inl h.count⟩
theorem plan_ins {most n : Nat} {l : List Str} (h : One l) (hl : l.length < most) : PlanOk most 2 (l.take n ++ (SHOW :: l.drop n)) := by
  refine ⟨by simp; omega, ?_, h.words.ins n, .inr ⟨rfl, h.ins n⟩⟩
  have := congrArg List.length (List.take_append_drop n l)
  simp at this ⊢
  omega
abbrev wd (x : Nat) : Str := W8[x]?.getD ""
theorem wd_mem {x : Nat} (h : x < 8) : wd x ∈ W8 := by
  have : x = 0 ∨ x = 1 ∨ x = 2 ∨ x = 3 ∨ x = 4 ∨ x = 5 ∨ x = 6 ∨ x = 7 := by omega
  rcases this with rfl | rfl | rfl | rfl | rfl | rfl | rfl | rfl <;> decide +kernel
theorem wd_at {x : Nat} (h : x < 8) : (W8.map (Val.d ∘ PyData.str))[x]? = some (.d (.str (wd x))) := by
  have hl : x < W8.length := h
  simp only [List.getElem?_map, wd, List.getElem?_eq_getElem hl]; rfl
theorem c_plan {e0 e1 e2 e4 e6 e7 : Option Val} (row : List Nat) (d4 : Nat) (hd : d4 ≤ 1000) (hr : ∀ x ∈ row.drop 8, x < 8) (h4 : row[4]? = some d4) :
    c__law_plan_1 [e0, e1, e2, some (.d (.list (W8.map .str))), e4, some (.d (.list (row.map nI))), e6, e7, none] [] = .ok (.d (.list (((row.drop 8).take d4).map fun x => .str (wd x)))) [] := by
  have e : cutL (row.map nI) (some 8) (some (8 + (d4 : Int))) = ((row.drop 8).take d4).map nI := by
    have := cut_nn (row.map nI) 8 (8 + d4)
    rw [show (8 : Int) + d4 = ((8 + d4 : Nat) : Int) by omega]
    rw [show (some (8 : Int)) = some ((8 : Nat) : Int) from rfl, this]
    rw [← List.map_take, ← List.map_drop, List.drop_take]
    simp
  have hm : ∀ x ∈ (row.drop 8).take d4, x < 8 := fun x hx => hr x (List.mem_of_mem_take hx)
  have el : ((row.drop 8).take d4).length ≤ 16777216 := by simp; omega
  have h4' : (row.map (Val.d ∘ nI))[4]? = some (vI d4) := by rw [List.getElem?_map, h4]; rfl
  generalize (row.drop 8).take d4 = l at *
  have hh := lc_map (st0 := []) (g := gN 8) (tt := mYes) (el := mIx (mVar 3) (mVar 8)) (env := [e0, e1, e2, some (.d (.list (W8.map .str))), e4, some (.d (.list (row.map nI))), e6, e7, none]) (st := []) (Val.d ∘ nI) (fun x => .d (.str (wd x))) l (by
    intro x hx
    refine ⟨_, rfl, rfl, ?_⟩
    have := wd_at (hm x hx)
    simp [-List.map_cons, -List.map_nil, -List.getElem?_map, this])
  simp [-List.map_cons, -List.map_nil, -List.getElem?_map, c__law_plan_1, mLc, h4', e, el, hh, dats]
def FinP (most : Nat) (shows : Int) (f : Fl) : Prop := ∃ l, PlanOk most shows l ∧ ∃ st, f = .ret (.d (.tuple (l.map .str))) st
theorem fin_end {most : Nat} {shows : Int} {l : List Str} {env : Z.Env} {st : Sto} (h6 : env[6]? = some (some (.d (.list (l.map .str))))) (h : PlanOk most shows l) : FinP most shows (sRet (mB tupF (mCons (mVar 6) mNil)) env st) :=
  ⟨l, h, st, by simp [h6]⟩
theorem e_plan (c : Int) (most : Nat) (hm : 1 ≤ most) (hm2 : most ≤ 15) (shows : Int) : ∃ l, PlanOk most shows l ∧ ∃ st, F__law_plan [vI c, vI most, vI shows] [] = .ok (.d (.tuple (l.map .str))) st := by
  obtain ⟨row, h1, h2, st0, h3⟩ := n_draws c ([2, 4, 8, 3, (most : Int), 16, 3, 16] ++ List.replicate most 8) (by
    intro s hs
    simp at hs
    omega) (by simp; omega)
  simp at h1
  have dr : ∀ (j : Nat) (s : Int), ([2, 4, 8, 3, (most : Int), 16, 3, 16] ++ List.replicate most 8)[j]? = some s → ∃ d, row[j]? = some d ∧ (d : Int) < s := fun j s hs => by
    have hj : j < row.length := by
      have := (List.getElem?_eq_some_iff.mp hs).1
      simp at this; omega
    exact ⟨row[j], List.getElem?_eq_getElem hj, h2 j _ s (List.getElem?_eq_getElem hj) hs⟩
  obtain ⟨d0, r0, b0⟩ := dr 0 2 rfl
  obtain ⟨d1, r1, b1⟩ := dr 1 4 rfl
  obtain ⟨d2, r2, b2⟩ := dr 2 8 rfl
  obtain ⟨d3, r3, b3⟩ := dr 3 3 rfl
  obtain ⟨d4, r4, b4⟩ := dr 4 most rfl
  obtain ⟨d5, r5, b5⟩ := dr 5 16 rfl
  obtain ⟨d6, r6, b6⟩ := dr 6 3 rfl
  obtain ⟨d7, r7, b7⟩ := dr 7 16 rfl
  obtain ⟨d8, r8, b8⟩ := dr 8 8 (by rw [List.getElem?_append_right (by simp), List.getElem?_replicate]; simp; omega)
  have hr : ∀ x ∈ row.drop 8, x < 8 := fun x hx => by
    obtain ⟨j, hj, rfl⟩ := List.getElem_of_mem hx
    have hj' : 8 + j < row.length := by simp at hj; omega
    have hz : ([2, 4, 8, 3, (most : Int), 16, 3, 16] ++ List.replicate most 8)[8 + j]? = some 8 := by
      rw [List.getElem?_append_right (by simp), List.getElem?_replicate]
      simp; omega
    have := h2 (8 + j) row[8 + j] 8 (List.getElem?_eq_getElem hj') hz
    rw [List.getElem_drop]; omega
  have g : ∀ (j d : Nat), row[j]? = some d → (row.map nI)[j]? = some (nI d) := fun j d h => by rw [List.getElem?_map, h]; rfl
  suffices FinP most shows (m__law_plan [some (vI c), some (vI most), some (vI shows), none, none, none, none, none, none] []) by
    obtain ⟨l, h, st, e⟩ := this
    exact ⟨l, h, st, by rw [F__law_plan, runF_ap]; simp [e]⟩
  have a1 : (most : Int) < 9223372036854775808 := by omega
  have a2 : most ≤ 16777216 := by omega
  have a3 : 8 + most ≤ 16777216 := by omega
  simp at h3
  unfold m__law_plan
  refine setP (v := .d (.list (W8.map .str))) (s1 := []) (by simp) ?_
  refine setP (v := .d (.list ((bases.take 2).map fun b => .list (b.map .str)))) (s1 := []) (by simp) ?_
  refine setP (v := .d (.list (bases.map fun b => .list (b.map .str)))) (s1 := []) (by simp) ?_
  refine setP (v := .d (.list (row.map nI))) (s1 := []) (by simp [h3, a1, a2, a3]) ?_
  simp only [List.set_cons_zero, List.set_cons_succ]
  refine setP (c_plan row d4 (by omega) hr r4) ?_
  have l0m : ∀ w ∈ ((row.drop 8).take d4).map wd, w ∈ W8 := fun w hw => by
    obtain ⟨x, hx, rfl⟩ := List.mem_map.mp hw
    exact wd_mem (hr x (List.mem_of_mem_take hx))
  have l0l : (((row.drop 8).take d4).map wd).length = d4 := by simp; omega
  rw [show ((row.drop 8).take d4).map (fun x => PyData.str (wd x)) = (((row.drop 8).take d4).map wd).map .str by rw [List.map_map]; rfl]
  generalize ((row.drop 8).take d4).map wd = l0 at l0m l0l
  simp only [List.set_cons_zero, List.set_cons_succ]
  refine setP (v := vI ((d5 % (l0.length + 1) : Nat) : Int)) (s1 := []) (by simp [r5]) ?_
  generalize d5 % (l0.length + 1) = n5
  simp only [List.set_cons_zero, List.set_cons_succ]
  refine setP (ev_ins (l := l0) (n := n5) rfl rfl (by omega)) ?_
  have one1 := one_of l0m n5
  have len1 : (l0.take n5 ++ (SHOW :: l0.drop n5)).length ≤ most := by
    have := congrArg List.length (List.take_append_drop n5 l0)
    simp at this ⊢; omega
  generalize l0.take n5 ++ (SHOW :: l0.drop n5) = l1 at one1 len1
  simp only [List.set_cons_zero, List.set_cons_succ]
  have tail : ∀ (l : List Str) (n : Nat), One l → l.length ≤ most → FinP most shows ((sSeq (sIf (mAnd (mCmp eqF (mVar 2) (mD (.int 2))) (mAnd (mCmp eqF (mIx (mVar 5) (mD (.int 6))) (mD (.int 1))) (mCmp ltF (mB lenF (mCons (mVar 6) mNil)) (mVar 1))))
      (sSeq (sSet 7 (mBin modF (mIx (mVar 5) (mD (.int 7))) (mBin (addF false) (mB lenF (mCons (mVar 6) mNil)) (mD (.int 1)))))
      (sSet 6 (mBin (addF false) (mBin (addF false) (mSl false (mVar 6) mONone (mOSome (mVar 7))) (mLst false (mCons (mD (.str "show")) mNil))) (mSl false (mVar 6) (mOSome (mVar 7)) mONone))))
      sNext) (sRet (mB tupF (mCons (mVar 6) mNil)))) [some (vI c), some (vI most), some (vI shows), some (.d (.list (W8.map .str))), some (.d (.list (bases.map fun b => .list (b.map .str)))), some (.d (.list (row.map nI))), some (.d (.list (l.map .str))), some (vI n), none] []) := by
    intro l n ol ll
    by_cases hc : shows = 2 ∧ d6 = 1 ∧ l.length < most
    · obtain ⟨rfl, rfl, hl⟩ := hc
      refine ifSP (k := true) (s1 := []) (by simp [r6, hl]) ?_
      rw [ifS_t]
      refine setPT (v := vI ((d7 % (l.length + 1) : Nat) : Int)) (s1 := []) (by simp [r7]) ?_
      simp only [List.set_cons_zero, List.set_cons_succ]
      refine set1PT (ev_ins (l := l) rfl rfl (by omega)) ?_
      exact fin_end rfl (plan_ins ol hl)
    · refine ifSP (k := false) (s1 := []) ?_ ?_
      · by_cases q : shows = 2
        · by_cases q2 : d6 = 1
          · have q3 : ¬ l.length < most := fun z => hc ⟨q, q2, z⟩
            simp [r6, q, q2, q3]
          · have q2' : ((d6 : Int) == 1) = false := by simp; omega
            simp [r6, q, q2']
        · have q' : (shows == 2) = false := by simpa using q
          simp [q']
      · exact fin_end rfl (plan_end ol ll)
  by_cases hc : d0 = 1
  · refine ifSP (k := true) (s1 := []) (by simp [r0, hc]) ?_
    rw [ifS_t]
    obtain ⟨b, eb, fb, lb⟩ := base_fst (k := d1) (n := most - 1) (by omega)
    rw [show most - 1 + 1 = most by omega] at fb
    refine setPT (v := .d (.list ((b.take most).map .str))) (s1 := []) ?_ ?_
    · have e1 : cutL (b.map PyData.str) none (some (most : Int)) = (b.take most).map .str := by rw [cut_on, List.map_take]
      simp [-List.map_cons, -List.map_nil, -List.map_take, r1, eb, e1]
    have lb2 : (b.take most).length ≤ most := by simp; omega
    generalize b.take most = l2 at fb lb2
    simp only [List.set_cons_zero, List.set_cons_succ]
    obtain ⟨n7, e7⟩ : ∃ n7 : Nat, (1 : Int) + (d2 : Int) % (if (l2.length : Int) - 1 > 1 then (l2.length : Int) - 1 else 1) = ((n7 + 1 : Nat) : Int) := by
      refine ⟨((d2 : Int) % (if (l2.length : Int) - 1 > 1 then (l2.length : Int) - 1 else 1)).toNat, ?_⟩
      have := Int.emod_nonneg (d2 : Int) (show (if (l2.length : Int) - 1 > 1 then (l2.length : Int) - 1 else 1) ≠ 0 by split <;> omega)
      omega
    have e7p : 0 < (if (l2.length : Int) - 1 > 1 then (l2.length : Int) - 1 else 1) := by split <;> omega
    refine setPT (v := vI ((n7 + 1 : Nat) : Int)) (s1 := []) (by simp only [ap_bin, ap_D, bind_ok, ap_ix, ap_var, List.getElem?_cons_zero, List.getElem?_cons_succ, getE_some, ixF_l, atI_2, List.map_map, List.getElem?_map, r2, Option.map_some, outV_s, ap_B, ap_cons, ap_nil, lenF_l, subF_ii, max2F_ii, modF_ii, List.length_map, Function.comp_apply, if_pos e7p, addF_ii, e7]) ?_
    simp only [List.set_cons_zero, List.set_cons_succ]
    by_cases h31 : d3 = 1
    · refine ifPT (k := true) (s1 := []) (by simp [r3, h31]) ?_
      rw [ifS_t]
      refine set1PTT (ev_cut (l := l2) (n := n7 + 1) rfl rfl (by omega)) ?_
      simp only [List.set_cons_zero, List.set_cons_succ]
      refine if1PT (k := false) (s1 := []) (by simp [r3, h31]) ?_
      exact tail _ _ (fb.cut n7).one (by have := congrArg List.length (List.take_append_drop (n7 + 1) l2); simp at this ⊢; omega)
    · have q' : ((d3 : Int) == 1) = false := by simp; omega
      refine ifPT (k := false) (s1 := []) (by simp [r3, q']) ?_
      rw [ifS_f, ap_next, then_next]
      by_cases h32 : d3 = 2 ∧ n7 + 1 < l2.length
      · refine if1PT (k := true) (s1 := []) (by simp [r3, h32.1]; omega) ?_
        rw [ifS_t]
        refine set1PT (ev_put (l := l2) (n := n7 + 1) (x := wd d8) rfl rfl ?_ (by omega)) ?_
        · have := wd_at (show d8 < 8 by omega)
          have g8 : (row.map (Val.d ∘ nI))[8]? = some (vI d8) := by rw [List.getElem?_map, r8]; rfl
          simp [-List.map_cons, -List.map_nil, -List.getElem?_map, this, g8]
        · simp only [List.set_cons_zero, List.set_cons_succ]
          exact tail _ _ (fb.put n7 (wd_mem (by omega))).one (by have := congrArg List.length (List.take_append_drop (n7 + 1) l2); simp at this ⊢; omega)
      · refine if1PT (k := false) (s1 := []) ?_ ?_
        · by_cases q3 : d3 = 2
          · have q4 : ¬ n7 + 1 < l2.length := fun z => h32 ⟨q3, z⟩
            simp [r3, q3]; omega
          · have q5 : ((d3 : Int) == 2) = false := by simp; omega
            simp [r3, q5]
        · exact tail _ _ fb.one lb2
  · have q' : ((d0 : Int) == 1) = false := by simp; omega
    refine ifSP (k := false) (s1 := []) (by simp [r0, q']) ?_
    exact tail l1 n5 one1 len1
end Lw

namespace Lw
open PySem PySem.Spec PyProof.Rows L2 Z
structure Hs where
  asks : Bool
  paced : Bool
  refused : Str
  notes : Str
  steady : Bool
  plan : List Str
  counts : List Nat
  courses : List (List Nat)
  letters : List Nat
  senders : Nat
abbrev tI (l : List Nat) : PyData := .tuple (l.map nI)
def Hs.sch (h : Hs) : PyData := .tuple [.bool h.asks, .bool h.paced, .str h.refused, .str h.notes, .bool h.steady]
def Hs.d (h : Hs) : PyData := .tuple [h.sch, .tuple (h.plan.map .str), tI h.counts, .tuple (h.courses.map tI), tI h.letters, nI h.senders]
abbrev REF : List Str := ["back", "lost"]
abbrev NOT : List Str := ["behind", "first", "with"]
structure Good (h : Hs) : Prop where
  ref : h.refused ∈ REF
  note : h.notes ∈ NOT
  plan : PlanOk 15 2 h.plan
  cnts : h.counts.length = h.plan.count SHOW + 1
  cnt : ∀ c ∈ h.counts, 1 ≤ c ∧ c ≤ 4
  crs1 : 1 ≤ h.courses.length
  crs3 : h.courses.length ≤ 3
  let_ : h.letters.length = h.courses.length
  let3 : ∀ c ∈ h.letters, 1 ≤ c ∧ c ≤ 3
  crs : ∀ c ∈ h.courses, c.length = h.counts.length ∧ ∀ (i : Nat) (a b : Nat), c[i]? = some a → h.counts[i]? = some b → a < b
  snd : 1 ≤ h.senders ∧ h.senders ≤ 3
theorem e_scheme (row : List Nat) (d0 d1 d2 d3 d4 : Nat) (r0 : row[0]? = some d0) (r1 : row[1]? = some d1) (r2 : row[2]? = some d2) (r3 : row[3]? = some d3) (r4 : row[4]? = some d4) (b2 : d2 < 2) (b3 : d3 < 3) :
    ∃ re ∈ REF, ∃ no ∈ NOT, F__law_scheme [.d (.list (row.map nI))] [] = .ok (.d (.tuple [.bool ((d0 : Int) == 1), .bool ((d1 : Int) == 1), .str re, .str no, .bool ((d4 : Int) == 1)])) [] := by
  have h2 : d2 = 0 ∨ d2 = 1 := by omega
  have h3 : d3 = 0 ∨ d3 = 1 ∨ d3 = 2 := by omega
  rcases h2 with rfl | rfl <;> rcases h3 with rfl | rfl | rfl <;>
  · refine ⟨_, ?_, _, ?_, by simp [F__law_scheme, m__law_scheme, r0, r1, r2, r3, r4]; exact ⟨rfl, rfl⟩⟩ <;> decide +kernel
abbrev sizes : List Int := [2, 2, 2, 3, 2, 4, 4, 4, 3, 3, 3, 3, 3, 4, 4, 4, 4, 4, 4, 4, 4, 4]
section
variable {e0 e1 e2 e3 e5 e7 e8 e9 e10 : Option Val} {st : Sto}
theorem c_house1 (row : List Nat) (n : Nat) (he : n ≤ 3) :
    c__law_house_1 [e0, e1, e2, e3, some (.d (.list (row.map nI))), e5, some (vI n), e7, e8, e9, e10, none, none] st = .ok (.d (.list ((((row.drop 5).take n).map (1 + ·)).map nI))) st := by
  have e : cutL (row.map nI) (some 5) (some (5 + (n : Int))) = ((row.drop 5).take n).map nI := by
    have := cut_nn (row.map nI) 5 (5 + n)
    rw [show (5 : Int) + n = ((5 + n : Nat) : Int) by omega]
    rw [show (some (5 : Int)) = some ((5 : Nat) : Int) from rfl, this]
    rw [← List.map_take, ← List.map_drop, List.drop_take]
    simp
  have el : ((row.drop 5).take n).length ≤ 16777216 := by simp; omega
  generalize (row.drop 5).take n = l at *
  have hh := lc_map (st0 := st) (g := gN 11) (tt := mYes) (el := mBin (addF false) (mD (.int 1)) (mVar 11)) (env := [e0, e1, e2, e3, some (.d (.list (row.map nI))), e5, some (vI n), e7, e8, e9, e10, none, none]) (st := st) (Val.d ∘ nI) (fun x => .d (nI (1 + x))) l (by
    intro x hx
    refine ⟨_, rfl, rfl, ?_⟩
    simp)
  have e2 : (l.map fun x => Val.d (nI (1 + x))) = ((l.map (1 + ·)).map nI).map Val.d := by simp
  rw [e2] at hh
  simp [-List.map_map, c__law_house_1, mLc, e]
  rw [List.map_map, hh]
  simp [el]
def crs (row counts : List Nat) (n key : Nat) : List Nat := (List.range n).map fun k => (row[13 + 3 * key + k]?.getD 0) % (counts[k]?.getD 1)
theorem c_house2 (row counts : List Nat) (n key : Nat) (hn : n ≤ 3) (hk : key < 3) (hr : row.length = 22) (hc : counts.length = n) (hp : ∀ c ∈ counts, 1 ≤ c) :
    c__law_house_2 [e0, e1, e2, e3, some (.d (.list (row.map nI))), e5, some (vI n), some (.d (tI counts)), e8, some (vI key), e10, none, none] st = .ok (.d (.list ((crs row counts n key).map nI))) st := by
  have hh := lc_range (st0 := st) (g := gN 12) (tt := mYes) (el := mBin modF (mIx (mVar 4) (mBin (addF false) (mBin (addF false) (mD (.int 13)) (mBin (mulF false) (mD (.int 3)) (mVar 9))) (mVar 12))) (mIx (mVar 7) (mVar 12)))
    (env := [e0, e1, e2, e3, some (.d (.list (row.map nI))), e5, some (vI n), some (.d (tI counts)), e8, some (vI key), e10, none, none]) (st := st)
    (φ := fun k => .d (nI ((row[13 + 3 * key + k]?.getD 0) % (counts[k]?.getD 1)))) n (by
    intro k hk
    refine ⟨_, rfl, rfl, ?_⟩
    have h1 : 13 + 3 * key + k < row.length := by omega
    have h2 : k < counts.length := by omega
    have h3 := hp _ (List.getElem_mem h2)
    have m1 : mulOk 3 (key : Int) = true := mulOk_r (by omega) (by omega)
    have e1 : (13 : Int) + 3 * (key : Int) + (k : Int) = ((13 + 3 * key + k : Nat) : Int) := by omega
    have h3' : 0 < ((counts[k] : Nat) : Int) := by omega
    have a1 : atI (row.map (Val.d ∘ nI)) (13 + 3 * (key : Int) + (k : Int)) = some (vI row[13 + 3 * key + k]) := by
      rw [e1, Z.atI_nat]; simp [h1]
    simp [m1, a1, h1, h2, h3', show 0 < counts[k] by omega])
  have e2 : ((List.range n).map fun k => Val.d (nI ((row[13 + 3 * key + k]?.getD 0) % (counts[k]?.getD 1)))) = ((crs row counts n key).map nI).map Val.d := by simp [crs]
  rw [e2] at hh
  simp [-List.map_map, -rg1_i, rg_ok (show n ≤ 1000000 by omega), c__law_house_2, mLc, show n ≤ 16777216 by omega]
  rw [hh]
  simp
theorem c_house3 (row : List Nat) (n : Nat) (vs : List Val) (hn : n ≤ 3) (hv : vs.length = n) (hr : row.length = 22) :
    c__law_house_3 [e0, e1, e2, e3, some (.d (.list (row.map nI))), e5, e6, e7, some (.c 0), none, e10, none, none] [.lst vs] = .ok (.d (.list (((List.range n).map fun k => 1 + (row[10 + k]?.getD 0)).map nI))) [.lst vs] := by
  have hh := lc_range (st0 := [.lst vs]) (g := gN 9) (tt := mYes) (el := mBin (addF false) (mD (.int 1)) (mIx (mVar 4) (mBin (addF false) (mD (.int 10)) (mVar 9))))
    (env := [e0, e1, e2, e3, some (.d (.list (row.map nI))), e5, e6, e7, some (.c 0), none, e10, none, none]) (st := [.lst vs])
    (φ := fun k => .d (nI (1 + (row[10 + k]?.getD 0)))) n (by
    intro k hk
    refine ⟨_, rfl, rfl, ?_⟩
    have h1 : 10 + k < row.length := by omega
    have e1 : (10 : Int) + (k : Int) = ((10 + k : Nat) : Int) := by omega
    have a1 : atI (row.map (Val.d ∘ nI)) (10 + (k : Int)) = some (vI row[10 + k]) := by
      rw [e1, Z.atI_nat]; simp [h1]
    simp [a1, h1])
  have e2 : ((List.range n).map fun k => Val.d (nI (1 + (row[10 + k]?.getD 0)))) = (((List.range n).map fun k => 1 + (row[10 + k]?.getD 0)).map nI).map Val.d := by simp
  rw [e2] at hh
  simp [-List.map_map, -rg1_i, hv, rg_ok (show n ≤ 1000000 by omega), c__law_house_3, mLc, show n ≤ 16777216 by omega]
  rw [hh]
  simp
end
theorem e_house (ns : List Int) : ∃ h : Hs, Good h ∧ ∃ st, F__law_house [.s ns, vI 15, vI 2] [] = .ok (.d h.d) st := by
  obtain ⟨row, h1, h2, st0, h3⟩ := n_draws ((ns[0]?).getD 0) sizes (by decide) (by decide)
  obtain ⟨plan, hp, st1, h4⟩ := e_plan ((ns[1]?).getD 0) 15 (by decide) (by decide) 2
  have c0 := e_cellS ns 0 []
  have c1 := e_cellS ns 1 []
  have dr : ∀ (j : Nat) (s : Int), sizes[j]? = some s → ∃ d, row[j]? = some d ∧ (d : Int) < s := fun j s hs => by
    have hj : j < row.length := by
      have := (List.getElem?_eq_some_iff.mp hs).1
      omega
    exact ⟨row[j], List.getElem?_eq_getElem hj, h2 j _ s (List.getElem?_eq_getElem hj) hs⟩
  obtain ⟨d0, r0, b0⟩ := dr 0 2 rfl
  obtain ⟨d1, r1, b1⟩ := dr 1 2 rfl
  obtain ⟨d2, r2, b2⟩ := dr 2 2 rfl
  obtain ⟨d3, r3, b3⟩ := dr 3 3 rfl
  obtain ⟨d4, r4, b4⟩ := dr 4 2 rfl
  obtain ⟨d5, r5, b5⟩ := dr 5 4 rfl
  obtain ⟨d6, r6, b6⟩ := dr 6 4 rfl
  obtain ⟨d7, r7, b7⟩ := dr 7 4 rfl
  obtain ⟨d8, r8, b8⟩ := dr 8 3 rfl
  obtain ⟨d9, r9, b9⟩ := dr 9 3 rfl
  obtain ⟨d10, r10, b10⟩ := dr 10 3 rfl
  obtain ⟨d11, r11, b11⟩ := dr 11 3 rfl
  obtain ⟨d12, r12, b12⟩ := dr 12 3 rfl
  obtain ⟨re, hre, no, hno, h5⟩ := e_scheme row d0 d1 d2 d3 d4 r0 r1 r2 r3 r4 (by omega) (by omega)
  have cc : (plan.map PyData.str).countP (fun z => PyData.eqv z (.str SHOW)) = plan.count SHOW := cnt_map plan SHOW
  have hed : plan.count SHOW + 1 ≤ 3 := by rcases hp.cnt with h | ⟨_, h⟩ <;> omega
  obtain ⟨ed, eed⟩ : ∃ ed, plan.count SHOW + 1 = ed := ⟨_, rfl⟩
  rw [eed] at hed
  obtain ⟨nk, enk⟩ : ∃ nk, 1 + d8 = nk := ⟨_, rfl⟩
  have pl : PyData.plainAll (plan.map .str) = true := pl_map_s plan
  have hrow : row.length = 22 := h1
  have hce : ∃ counts : List Nat, counts = ((row.drop 5).take ed).map (1 + ·) ∧ counts.length = ed ∧ ∀ c ∈ counts, 1 ≤ c ∧ c ≤ 4 := by
    refine ⟨_, rfl, by simp; omega, fun c hc => ?_⟩
    obtain ⟨z, hz, rfl⟩ := List.mem_map.mp hc
    obtain ⟨j, hj, rfl⟩ := List.getElem_of_mem hz
    simp at hj
    have hj3 : j = 0 ∨ j = 1 ∨ j = 2 := by omega
    rw [List.getElem_take, List.getElem_drop]
    have g5 := (List.getElem?_eq_some_iff.mp r5).2
    have g6 := (List.getElem?_eq_some_iff.mp r6).2
    have g7 := (List.getElem?_eq_some_iff.mp r7).2
    rcases hj3 with rfl | rfl | rfl <;> simp [g5, g6, g7] <;> omega
  obtain ⟨counts, ec, lc, bc⟩ := hce
  simp only [vI, List.map_cons, List.map_nil, sizes] at h3
  unfold F__law_house
  rw [runF_ap]
  have key : ∃ st, m__law_house [some (.s ns), some (vI 15), some (vI 2), none, none, none, none, none, none, none, none, none, none] [] = .ret (.d (Hs.d ⟨(d0 : Int) == 1, (d1 : Int) == 1, re, no, (d4 : Int) == 1, plan, counts, (List.range nk).map (crs row counts ed), (List.range nk).map fun k => 1 + (row[10 + k]?.getD 0), 1 + d9⟩)) st := by
    unfold m__law_house
    let P : Fl → Prop := fun f => ∃ st, f = .ret (.d (Hs.d ⟨(d0 : Int) == 1, (d1 : Int) == 1, re, no, (d4 : Int) == 1, plan, counts, (List.range nk).map (crs row counts ed), (List.range nk).map fun k => 1 + (row[10 + k]?.getD 0), 1 + d9⟩)) st
    show P _
    refine setP (v := .d (.list (sizes.map .int))) (s1 := []) (by simp) ?_
    refine setP (v := .d (.list (row.map nI))) (s1 := []) (by simp at c0; simp [c0, h3]) ?_
    refine setP (v := .d (.tuple (plan.map .str))) (s1 := []) (by simp at c1; simp at h4; simp [c1, h4]) ?_
    refine setP (v := vI (ed : Int)) (s1 := []) (by simp [pl, cc]; omega) ?_
    simp only [List.set_cons_zero, List.set_cons_succ]
    refine setP (v := .d (tI counts)) (s1 := []) (by
      simp only [ap_B, ap_cons, ap_nil]
      rw [c_house1 row _ hed]
      simp only [bind_ok, tupF_l, ec]) ?_
    refine setP (v := .c 0) (s1 := [.lst []]) (by simp) ?_
    simp only [List.set_cons_zero, List.set_cons_succ]
    obtain ⟨env', st', f1, f2⟩ := for_range (st0 := [.lst []]) (g := gN 9) (body := lb__law_house_1) (kill := [9])
      (fun i env st => env = [some (.s ns), some (vI 15), some (vI 2), some (.d (.list (sizes.map .int))), some (.d (.list (row.map nI))), some (.d (.tuple (plan.map .str))), some (vI (ed : Int)), some (.d (tI counts)), some (.c 0), none, none, none, none] ∧ st = [.lst (((List.range i).map fun k => tI (crs row counts ed k)).map Val.d)]) nk ⟨rfl, rfl⟩ (by
      rintro i env st hi ⟨rfl, rfl⟩
      refine ⟨_, rfl, _, _, .inl (by
        simp only [List.set_cons_zero, List.set_cons_succ]
        simp [-List.map_map, lb__law_house_1, c_house2 row counts ed i hed (by omega) hrow lc (fun c hc => (bc c hc).1), show i < 16777216 by omega]
        first | exact ⟨rfl, rfl⟩ | rfl), ?_, ?_⟩
      · rfl
      · simp [List.range_succ])
    obtain ⟨rfl, rfl⟩ := f2
    refine seqP (e1 := _) (s1 := _) (by
      rw [← f1]
      have : (1 : Int) + (d8 : Int) = (nk : Int) := by omega
      simp [-rg1_i, l__law_house_1, sFor, r8, this, rg_ok (show nk ≤ 1000000 by omega)]) ?_
    refine setP (v := .d (tI ((List.range nk).map fun k => 1 + (row[10 + k]?.getD 0)))) (s1 := _) (by
      simp only [ap_B, ap_cons, ap_nil]
      rw [c_house3 row nk _ (by omega) (by simp) hrow]
      simp [-List.map_map]
      rfl) ?_
    simp only [List.set_cons_zero, List.set_cons_succ]
    refine ⟨[.lst (((List.range nk).map fun k => tI (crs row counts ed k)).map Val.d)], ?_⟩
    simp [-List.map_map, h5, r9, Hs.d, Hs.sch]
    rw [List.map_map]; rfl
  obtain ⟨st, key⟩ := key
  refine ⟨_, ?_, _, by rw [show ([Val.s ns, vI 15, vI 2].map some ++ List.replicate (13 - [Val.s ns, vI 15, vI 2].length) none : Z.Env) = [some (.s ns), some (vI 15), some (vI 2), none, none, none, none, none, none, none, none, none, none] from rfl, key]; rfl⟩
  refine ⟨hre, hno, hp, lc.trans eed.symm, bc, by simp <;> omega, by simp <;> omega, by simp, ?_, ?_, by simp <;> omega⟩
  · intro c hc
    simp at hc
    obtain ⟨k, hk, rfl⟩ := hc
    have hk3 : k = 0 ∨ k = 1 ∨ k = 2 := by omega
    rcases hk3 with rfl | rfl | rfl <;> simp [r10, r11, r12] <;> omega
  · intro c hc
    simp at hc
    obtain ⟨k, hk, rfl⟩ := hc
    refine ⟨by simp [crs, lc], fun i a b ha hb => ?_⟩
    obtain ⟨hi, he⟩ := List.getElem?_eq_some_iff.mp ha
    simp only [crs, List.getElem_map, List.getElem_range] at he
    rw [← he, hb]
    have := (bc b (List.mem_of_getElem? hb)).1
    exact Nat.mod_lt _ (by simp; omega)
end Lw

namespace Lw
open PySem PySem.Spec PyProof.Rows L2 Z
/-! what the program asks of a house -/
theorem e_integer (x lo hi : Int) (st : Sto) : F_is_integer [vI x, vI lo, vI hi] st = .ok (vB (decide (lo ≤ x) && decide (x ≤ hi))) st := by
  by_cases a : lo ≤ x <;> by_cases b : x ≤ hi <;> simp [F_is_integer, m_is_integer, a, b]
theorem e_int_ok {x lo hi : Int} {st : Sto} (a : lo ≤ x) (b : x ≤ hi) : F_is_integer [vI x, vI lo, vI hi] st = .ok (vB true) st := by
  rw [e_integer]; simp [a, b]
theorem e_one_of {ws : PyData} {x : Str} {st : Sto} (h : inD (.str x) ws = some true) : F_is_one_of [vS x, .d ws] st = .ok (vB true) st := by
  simp [F_is_one_of, m_is_one_of, h]
theorem in_words : ∀ w ∈ SHOW :: W8, inD (.str w) d_WORDS = some true := by decide +kernel
theorem in_ref : ∀ w ∈ REF, inD (.str w) d_REFUSALS = some true := by decide +kernel
theorem in_not : ∀ w ∈ NOT, inD (.str w) d_NOTES = some true := by decide +kernel
theorem e_is_scheme {h : Hs} (g : Good h) (st : Sto) : F_is_scheme [.d h.sch] st = .ok (vB true) st := by
  have c : c_is_scheme_1 [some (.d h.sch), none] st = .ok (.d (.list ([0, 1, 4].map fun _ : Int => PyData.bool true))) st := by
    refine mlc_data vI _ [0, 1, 4] (by simp) (by decide) fun a ha => ⟨[some (.d h.sch), some (vI a)], rfl, ?_⟩
    simp at ha
    rcases ha with rfl | rfl | rfl <;> simp [Hs.sch]
  have l5 : lenF [.d h.sch] st = .ok (vI 5) st := by simp [Hs.sch]
  have i2 : ixF (.d h.sch) (vI 2) st = .ok (vS h.refused) st := by simp [Hs.sch]
  have i3 : ixF (.d h.sch) (vI 3) st = .ok (vS h.notes) st := by simp [Hs.sch]
  have o1 := e_one_of (st := []) (in_ref _ g.ref)
  have o2 := e_one_of (st := []) (in_not _ g.note)
  have a3 : allF [.d (.list [.bool true, .bool true, .bool true])] st = .ok (vB true) st := allT ([0, 1, 4] : List Int) st
  simp [F_is_scheme, m_is_scheme, a3, l5, i2, i3, o1, o2, c, show tyD h.sch = some .tuple from rfl]
theorem pl_in : ∀ k : Nat, k = 1 ∨ k = 2 → inD (.int (k : Int)) (.tuple [.int 1, .int 2]) = some true := by
  rintro k (rfl | rfl) <;> decide +kernel
theorem e_is_plan {p : List Str} (hp : PlanOk 15 2 p) (st : Sto) : F_is_plan [.d (.tuple (p.map .str))] st = .ok (vB true) st := by
  have c : c_is_plan_1 [some (.d (.tuple (p.map .str))), none] st = .ok (.d (.list (p.map fun _ => PyData.bool true))) st := by
    refine mlc_data vS _ p (by simp) (by have := hp.len2; omega) fun a ha => ⟨[some (.d (.tuple (p.map .str))), some (vS a)], rfl, ?_⟩
    simp [e_one_of (in_words a (hp.words a ha))]
  have l1 := hp.len
  have l2 := hp.len2
  have cn := pl_in (p.count SHOW) (by rcases hp.cnt with h | ⟨_, h⟩ <;> omega)
  have l1' : (1 : Int) ≤ (p.length : Int) := by omega
  have l2' : (p.length : Int) ≤ 15 := by omega
  simp [F_is_plan, m_is_plan, c, cnt_map, pl_map_s, cn, show 1 ≤ p.length from l1, l2, l1', l2']
theorem e_is_counts {cs : List Nat} (h1 : cs.length = 2 ∨ cs.length = 3) (h2 : ∀ c ∈ cs, 1 ≤ c ∧ c ≤ 4) (st : Sto) : F_is_counts [.d (tI cs)] st = .ok (vB true) st := by
  have c : c_is_counts_1 [some (.d (tI cs)), none] st = .ok (.d (.list (cs.map fun _ => PyData.bool true))) st := by
    refine mlc_data (Val.d ∘ nI) _ cs (by simp) (by omega) fun a ha => ⟨[some (.d (tI cs)), some (.d (nI a))], rfl, ?_⟩
    obtain ⟨b1, b2⟩ := h2 a ha
    have := e_int_ok (st := []) (show (1 : Int) ≤ (a : Int) by omega) (show (a : Int) ≤ 4 by omega)
    simp [this]
  have i : inD (.int ((cs.length : Nat) : Int)) (.tuple [.int 2, .int 3]) = some true := by
    rcases h1 with h | h <;> rw [h] <;> decide +kernel
  simp [F_is_counts, m_is_counts, c, i]
theorem e_is_course {co cs : List Nat} (hl : co.length = cs.length) (h2 : ∀ (i : Nat) (a b : Nat), co[i]? = some a → cs[i]? = some b → a < b) (hn : cs.length ≤ 100) (st : Sto) : F_is_course [.d (tI co), .d (tI cs)] st = .ok (vB true) st := by
  have c : c_is_course_1 [some (.d (tI co)), some (.d (tI cs)), none, none] st = .ok (.d (.list ((co.zip cs).map fun _ => PyData.bool true))) st := by
    refine mlc_data (fun p : Nat × Nat => .p [.d (nI p.1), .d (nI p.2)]) _ (co.zip cs) ?_ (by simp; omega) fun a ha => ⟨[some (.d (tI co)), some (.d (tI cs)), some (.d (nI a.1)), some (.d (nI a.2))], rfl, ?_⟩
    · simp [-List.map_map, zipL_zip2]
    · obtain ⟨j, hj, rfl⟩ := List.getElem_of_mem ha
      simp at hj
      have hb := h2 j co[j] cs[j] (List.getElem?_eq_getElem (by omega)) (List.getElem?_eq_getElem (by omega))
      have := e_int_ok (st := []) (show (0 : Int) ≤ ((co.zip cs)[j].1 : Int) by omega) (show ((co.zip cs)[j].1 : Int) ≤ ((co.zip cs)[j].2 : Int) - 1 by simp; omega)
      simp at this ⊢
      simp [this]
  simp [F_is_course, m_is_course, c, hl]
theorem Good.cl {h : Hs} (g : Good h) : h.counts.length = 2 ∨ h.counts.length = 3 := by
  rw [g.cnts]; rcases g.plan.cnt with q | ⟨_, q⟩ <;> omega
theorem e_fit {h : Hs} (g : Good h) (st : Sto) : F_fit_together [.d h.sch, .d (.tuple (h.plan.map .str)), .d (tI h.counts)] st = .ok (vB true) st := by
  simp [F_fit_together, m_fit_together, e_is_scheme g, e_is_plan g.plan, e_is_counts g.cl g.cnt, cnt_map, pl_map_s, g.cnts]
theorem e_is_house {h : Hs} (g : Good h) (st : Sto) : F_is_house [.d h.d] st = .ok (vB true) st := by
  have l6 : lenF [.d h.d] st = .ok (vI 6) st := by simp [Hs.d]
  have s6 : seqT (.d h.d) = some [.d h.sch, .d (.tuple (h.plan.map .str)), .d (tI h.counts), .d (.tuple (h.courses.map tI)), .d (tI h.letters), .d (nI h.senders)] := rfl
  have c1 : c_is_house_1 [some (.d h.d), some (.d h.sch), some (.d (.tuple (h.plan.map .str))), some (.d (tI h.counts)), some (.d (.tuple (h.courses.map tI))), some (.d (tI h.letters)), some (.d (nI h.senders)), none, none] st = .ok (.d (.list (h.courses.map fun _ => PyData.bool true))) st := by
    refine mlc_data (Val.d ∘ tI) _ h.courses (by simp) (by have := g.crs3; omega) fun a ha => ⟨_, rfl, ?_⟩
    obtain ⟨q1, q2⟩ := g.crs a ha
    simp [e_is_course q1 q2 (by have := g.cl; omega)]
  have c2 : c_is_house_2 [some (.d h.d), some (.d h.sch), some (.d (.tuple (h.plan.map .str))), some (.d (tI h.counts)), some (.d (.tuple (h.courses.map tI))), some (.d (tI h.letters)), some (.d (nI h.senders)), none, none] st = .ok (.d (.list (h.letters.map fun _ => PyData.bool true))) st := by
    refine mlc_data (Val.d ∘ nI) _ h.letters (by simp) (by have := g.crs3; have := g.let_; omega) fun a ha => ⟨_, rfl, ?_⟩
    obtain ⟨b1, b2⟩ := g.let3 a ha
    have := e_int_ok (st := []) (show (1 : Int) ≤ (a : Int) by omega) (show (a : Int) ≤ 3 by omega)
    simp [this]
  have k1 := e_int_ok (st := []) (show (1 : Int) ≤ (h.senders : Int) by have := g.snd; omega) (show (h.senders : Int) ≤ 3 by have := g.snd; omega)
  have k2 := g.crs1
  have k3 := g.crs3
  have k2' : (1 : Int) ≤ (h.courses.length : Int) := by omega
  have k3' : (h.courses.length : Int) ≤ 3 := by omega
  simp [F_is_house, m_is_house, l6, s6, show tyD h.d = some .tuple from rfl, e_fit g, k1, k2, k3, k2', k3', g.let_, c1, c2]
theorem e_need {h : Hs} (g : Good h) (st : Sto) : F_need_house [.d h.d] st = .ok (.d .none) st := by
  simp [F_need_house, m_need_house, e_is_house g]
end Lw

namespace Lw
open PySem PySem.Spec PyProof.Rows L2 Z
abbrev nums (cs : List Nat) : Str := Txt.join SP (cs.map num)
def l0 (h : Hs) : Str := Txt.join SP [if h.asks then "asks" else "quiet", if h.paced then "paced" else "piped", h.refused, h.notes, if h.steady then "steady" else "handed"]
def l1 (h : Hs) : Str := Txt.join SP h.plan
def l2 (h : Hs) : Str := Str.empty ++ "counts " ++ nums h.counts
def l3 (h : Hs) : Str := Str.empty ++ "senders " ++ num h.senders
def lk (p : List Nat × Nat) : Str := Str.empty ++ "key " ++ nums p.1 ++ " x " ++ num p.2
def linesOf (h : Hs) : List Str := [l0 h, l1 h, l2 h, l3 h] ++ (h.courses.zip h.letters).map lk
def textOf (h : Hs) : Str := Txt.join NL (linesOf h)
/-! lengths -/
theorem word_len : ∀ w ∈ SHOW :: W8, w.length ≤ 8 := by decide +kernel
theorem ref_len : ∀ w ∈ REF, w.length ≤ 8 := by decide +kernel
theorem not_len : ∀ w ∈ NOT, w.length ≤ 8 := by decide +kernel
theorem nums_len {cs : List Nat} (hl : cs.length ≤ 3) (h : ∀ c ∈ cs, c < 10) : (nums cs).length ≤ 6 := by
  have := join_le (a := SP) (ys := cs.map num) (B := 1) (by
    intro y hy
    obtain ⟨c, hc, rfl⟩ := List.mem_map.mp hy
    exact num_len (h c hc))
  rw [List.length_map] at this
  have e : SP.length = 1 := by decide +kernel
  rw [e] at this
  show (Txt.join SP (cs.map num)).length ≤ 6
  omega
theorem e_numbers {cs : List Nat} (hl : cs.length ≤ 3) (h : ∀ c ∈ cs, c < 10) (st : Sto) : F_show_numbers [.d (tI cs)] st = .ok (vS (nums cs)) st := by
  have c : c_show_numbers_1 [some (.d (tI cs)), none] st = .ok (.d (.list (cs.map fun n => PyData.str (num n)))) st := by
    refine mlc_data (Val.d ∘ nI) _ cs (by simp) (by omega) fun a ha => ⟨[some (.d (tI cs)), some (.d (nI a))], rfl, ?_⟩
    have := log_ok (show a < 1000 by have := h a ha; omega)
    simp at this
    simp [this]
    rfl
  have e : SP.length = 1 := by decide +kernel
  have j : joinLen SP (cs.map num) = true := joinLen_ok (B := 1) (by
    intro y hy
    obtain ⟨c, hc, rfl⟩ := List.mem_map.mp hy
    exact num_len (h c hc)) (by rw [List.length_map, e]; omega)
  have m : (cs.map fun n => PyData.str (num n)) = (cs.map num).map PyData.str := by rw [List.map_map]; rfl
  rw [m] at c
  simp [-List.map_map, F_show_numbers, m_show_numbers, c]
  rw [List.map_map, txs_m1]
  simp [j]
theorem Good.c10 {h : Hs} (g : Good h) : ∀ c ∈ h.counts, c < 10 := fun c hc => by have := g.cnt c hc; omega
theorem Good.k10 {h : Hs} (g : Good h) : ∀ co ∈ h.courses, co.length ≤ 3 ∧ ∀ c ∈ co, c < 10 := fun co hc => by
  obtain ⟨q1, q2⟩ := g.crs co hc
  refine ⟨by have := g.cl; omega, fun c h2 => ?_⟩
  obtain ⟨j, hj, rfl⟩ := List.getElem_of_mem h2
  have b := q2 j co[j] (h.counts[j]'(by omega)) (List.getElem?_eq_getElem hj) (List.getElem?_eq_getElem (by omega))
  have := g.cnt _ (List.getElem_mem (show j < h.counts.length by omega))
  omega
theorem e_show_scheme {h : Hs} (g : Good h) (st : Sto) : F_show_scheme [.d h.sch] st = .ok (vS (l0 h)) st := by
  have s5 : seqT (.d h.sch) = some [vB h.asks, vB h.paced, vS h.refused, vS h.notes, vB h.steady] := rfl
  have e : SP.length = 1 := by decide +kernel
  have j : joinLen SP [if h.asks then "asks" else "quiet", if h.paced then "paced" else "piped", h.refused, h.notes, if h.steady then "steady" else "handed"] = true := joinLen_ok (B := 8) (by
    intro y hy
    simp only [List.mem_cons, List.not_mem_nil, or_false] at hy
    rcases hy with rfl | rfl | rfl | rfl | rfl
    · cases h.asks <;> decide +kernel
    · cases h.paced <;> decide +kernel
    · exact ref_len _ g.ref
    · exact not_len _ g.note
    · cases h.steady <;> decide +kernel) (by rw [e]; simp)
  cases ha : h.asks <;> cases hp : h.paced <;> cases hs : h.steady <;> simp [ha, hp, hs] at j s5 <;> simp [F_show_scheme, m_show_scheme, s5, l0, ha, hp, hs, j]
theorem e_show_plan {p : List Str} (hp : PlanOk 15 2 p) (st : Sto) : F_show_plan [.d (.tuple (p.map .str))] st = .ok (vS (Txt.join SP p)) st := by
  have e : SP.length = 1 := by decide +kernel
  have j : joinLen SP p = true := joinLen_ok (B := 8) (fun y hy => word_len y (hp.words y hy)) (by have := hp.len2; rw [e]; omega)
  simp [F_show_plan, m_show_plan, j]
/-! lengths of the lines -/
theorem l0_len {h : Hs} (g : Good h) : (l0 h).length ≤ 100 := by
  have e : SP.length = 1 := by decide +kernel
  have := join_le (a := SP) (B := 8) (ys := [if h.asks then "asks" else "quiet", if h.paced then "paced" else "piped", h.refused, h.notes, if h.steady then "steady" else "handed"]) (by
    intro y hy
    simp only [List.mem_cons, List.not_mem_nil, or_false] at hy
    rcases hy with rfl | rfl | rfl | rfl | rfl
    · cases h.asks <;> decide +kernel
    · cases h.paced <;> decide +kernel
    · exact ref_len _ g.ref
    · exact not_len _ g.note
    · cases h.steady <;> decide +kernel)
  rw [e] at this
  simp at this
  unfold l0; omega
theorem l1_len {h : Hs} (g : Good h) : (l1 h).length ≤ 200 := by
  have e : SP.length = 1 := by decide +kernel
  have := join_le (a := SP) (B := 8) (ys := h.plan) fun y hy => word_len y (g.plan.words y hy)
  rw [e] at this
  have := g.plan.len2
  unfold l1; omega
end Lw

namespace Lw
open PySem PySem.Spec PyProof.Rows L2 Z
theorem em0 : Str.empty.length = 0 := by decide +kernel
theorem l2_len {h : Hs} (g : Good h) : (l2 h).length ≤ 100 := by
  have := nums_len (cs := h.counts) (by have := g.cl; omega) g.c10
  unfold l2
  rw [app_len, app_len, em0, show ("counts " : Str).length = 7 by decide +kernel]; omega
theorem l3_len {h : Hs} (g : Good h) : (l3 h).length ≤ 100 := by
  have := num_len (n := h.senders) (by have := g.snd; omega)
  unfold l3
  rw [app_len, app_len, em0, show ("senders " : Str).length = 8 by decide +kernel]; omega
theorem Good.kl {h : Hs} (g : Good h) : ∀ p ∈ h.courses.zip h.letters, (p.1.length ≤ 3 ∧ ∀ c ∈ p.1, c < 10) ∧ p.2 < 10 := fun p hp => by
  obtain ⟨a, b⟩ := p
  have h1 := g.k10 a (List.of_mem_zip hp).1
  have h2 := g.let3 b (List.of_mem_zip hp).2
  exact ⟨h1, by show b < 10; omega⟩
theorem lk_len {p : List Nat × Nat} (h1 : p.1.length ≤ 3) (h2 : ∀ c ∈ p.1, c < 10) (h3 : p.2 < 10) : (lk p).length ≤ 100 := by
  have := nums_len h1 h2
  have := num_len h3
  unfold lk
  rw [app_len, app_len, app_len, app_len, em0, show ("key " : Str).length = 4 by decide +kernel, show (" x " : Str).length = 3 by decide +kernel]; omega
theorem lines_len {h : Hs} (g : Good h) : ∀ l ∈ linesOf h, l.length ≤ 200 := fun l hl => by
  unfold linesOf at hl
  rcases List.mem_append.mp hl with hl | hl
  · simp at hl
    rcases hl with rfl | rfl | rfl | rfl
    · have := l0_len g; omega
    · exact l1_len g
    · have := l2_len g; omega
    · have := l3_len g; omega
  · obtain ⟨p, hp, rfl⟩ := List.mem_map.mp hl
    obtain ⟨⟨q1, q2⟩, q3⟩ := g.kl p hp
    have := lk_len q1 q2 q3; omega
theorem lines_n {h : Hs} (g : Good h) : (linesOf h).length = 4 + h.courses.length := by
  unfold linesOf
  simp [g.let_]; omega
theorem lines_join {h : Hs} (g : Good h) : joinLen NL (linesOf h) = true :=
  joinLen_ok (B := 200) (lines_len g) (by rw [nl1, lines_n g]; have := g.crs3; omega)
theorem e_show_house {h : Hs} (g : Good h) : ∃ st, F_show_house [.d h.d] [] = .ok (vS (textOf h)) st := by
  have s6 : seqT (.d h.d) = some [.d h.sch, .d (.tuple (h.plan.map .str)), .d (tI h.counts), .d (.tuple (h.courses.map tI)), .d (tI h.letters), .d (nI h.senders)] := rfl
  have n1 := e_numbers (cs := h.counts) (by have := g.cl; omega) g.c10 []
  have nl := nums_len (cs := h.counts) (by have := g.cl; omega) g.c10
  have k1 : (Str.empty ++ "counts " : Str).length ≤ 16777216 := by decide +kernel
  have k2 : (Str.empty ++ "counts " ++ nums h.counts).length ≤ 16777216 := by have := l2_len g; unfold l2 at this; omega
  have k3 : (Str.empty ++ "senders " : Str).length ≤ 16777216 := by decide +kernel
  have k4 : (Str.empty ++ "senders " ++ num h.senders).length ≤ 16777216 := by have := l3_len g; unfold l3 at this; omega
  have k5 := log_ok (n := h.senders) (by have := g.snd; omega)
  have c : ∀ st, c_show_house_1 [some (.d h.d), some (.c 0), some (.d h.sch), some (.d (.tuple (h.plan.map .str))), some (.d (tI h.counts)), some (.d (.tuple (h.courses.map tI))), some (.d (tI h.letters)), some (.d (nI h.senders)), none, none] st = .ok (.d (.list ((h.courses.zip h.letters).map fun p => .str (lk p)))) st := fun st => by
    refine mlc_data (fun p : List Nat × Nat => .p [.d (tI p.1), .d (nI p.2)]) _ _ ?_ (by simp; have := g.crs3; omega) fun a ha => ⟨_, rfl, ?_⟩
    · simp [-List.map_map, zipL_zip2]
    · obtain ⟨⟨q1, q2⟩, q3⟩ := g.kl a ha
      have m1 := e_numbers q1 q2 []
      have m2 := nums_len q1 q2
      have m3 := log_ok (Nat.lt_trans q3 (by decide))
      have m4 := lk_len q1 q2 q3
      have m5 : (Str.empty ++ "key " : Str).length ≤ 16777216 := by decide +kernel
      have m6 : (Str.empty ++ "key " ++ nums a.1 : Str).length ≤ 16777216 := by unfold lk at m4; simp only [app_len] at m4 ⊢; omega
      have m7 : (Str.empty ++ "key " ++ nums a.1 ++ " x " : Str).length ≤ 16777216 := by unfold lk at m4; simp only [app_len] at m4 ⊢; omega
      have m8 : (Str.empty ++ "key " ++ nums a.1 ++ " x " ++ num a.2 : Str).length ≤ 16777216 := by unfold lk at m4; omega
      have m2' : (nums a.1).length ≤ 16777216 := by omega
      have m9 : fmtF (.d (nI a.2)) st = .ok (vS (num a.2)) st := by rw [fmtF_i, if_pos m3]
      simp [-fmtF_i, m1, m2', m5, m6, m7, m8, m9, lk]
  have j := lines_join g
  let P : Fl → Prop := fun f => ∃ st, runK 0 f = .ok (vS (textOf h)) st
  unfold F_show_house
  rw [runF_ap]
  show P _
  unfold m_show_house
  refine seqP (e1 := [some (.d h.d), none, none, none, none, none, none, none, none, none]) (s1 := []) (by simp [e_need g]) ?_
  refine seqP (e1 := [some (.d h.d), none, some (.d h.sch), some (.d (.tuple (h.plan.map .str))), some (.d (tI h.counts)), some (.d (.tuple (h.courses.map tI))), some (.d (tI h.letters)), some (.d (nI h.senders)), none, none]) (s1 := []) (by simp [s6]) ?_
  have nl' : (nums h.counts).length ≤ 16777216 := by omega
  have m9 : ∀ st, fmtF (.d (nI h.senders)) st = .ok (vS (num h.senders)) st := fun st => by rw [fmtF_i, if_pos k5]
  refine setP (v := .c 0) (s1 := [.lst [vS (l0 h), vS (l1 h), vS (l2 h), vS (l3 h)]]) (by
    simp [-fmtF_i, e_show_scheme g, e_show_plan g.plan, n1, nl', k1, k2, k3, k4, m9, l2, l3, l1]) ?_
  simp only [List.set_cons_zero, List.set_cons_succ]
  have e4 : [vS (l0 h), vS (l1 h), vS (l2 h), vS (l3 h)] ++ (((h.courses.zip h.letters).map fun p => PyData.str (lk p)).map Val.d) = (linesOf h).map (Val.d ∘ PyData.str) := by
    unfold linesOf; rw [List.map_append, List.map_map, List.map_map]; rfl
  refine seqP (e1 := [some (.d h.d), some (.c 0), some (.d h.sch), some (.d (.tuple (h.plan.map .str))), some (.d (tI h.counts)), some (.d (.tuple (h.courses.map tI))), some (.d (tI h.letters)), some (.d (nI h.senders)), none, none]) (s1 := [.lst ((linesOf h).map (Val.d ∘ PyData.str))]) (by
    rw [ap_aug]
    simp only [List.getElem?_cons_zero, List.getElem?_cons_succ, augK_s, c, flo_ok]
    rw [← e4]
    have := g.crs3
    simp [-List.map_map]
    rw [if_pos (by omega)]
    simp) ?_
  refine ⟨[.lst ((linesOf h).map (Val.d ∘ PyData.str))], ?_⟩
  simp [j, textOf]
end Lw

namespace Lw
open PySem PySem.Spec PyProof.Rows L2 Z
/-! what is no house -/
def NoHouse (B : PyData) : Prop := ∀ st, F_is_house [.d B] st = .ok (vB false) st
theorem no_type {B : PyData} (h : ∀ st, isaF .tuple (.d B) st = .ok (vB false) st) : NoHouse B := fun st => by
  simp [-isa_d, F_is_house, m_is_house, h]
theorem no_len {xs : List PyData} (h : xs.length ≠ 6) : NoHouse (.tuple xs) := fun st => by
  have h' : ((xs.length : Int) == 6) = false := by simp; omega
  simp [F_is_house, m_is_house, h']
section
variable {a b c d e f : PyData}
theorem no_fit (h : ∀ st, F_fit_together [.d a, .d b, .d c] st = .ok (vB false) st) : NoHouse (.tuple [a, b, c, d, e, f]) := fun st => by
  simp [F_is_house, m_is_house, h]
theorem no_snd (h : ∀ st, F_fit_together [.d a, .d b, .d c] st = .ok (vB true) st) (h2 : ∀ st, F_is_integer [.d f, vI 1, vI 3] st = .ok (vB false) st) : NoHouse (.tuple [a, b, c, d, e, f]) := fun st => by
  simp [F_is_house, m_is_house, h, h2]
theorem no_crs (h : ∀ st, F_fit_together [.d a, .d b, .d c] st = .ok (vB true) st) (h2 : ∀ st, F_is_integer [.d f, vI 1, vI 3] st = .ok (vB true) st) {xs : List PyData} (h3 : 3 < xs.length) : NoHouse (.tuple [a, b, c, .tuple xs, e, f]) := fun st => by
  have l1 : (1 : Int) ≤ (xs.length : Int) := by omega
  have l2 : ¬ (xs.length : Int) ≤ 3 := by omega
  have l3 : 1 ≤ xs.length := by omega
  have l4 : ¬ xs.length ≤ 3 := by omega
  simp [F_is_house, m_is_house, h, h2, l1, l2, l3, l4]
theorem no_let (h : ∀ st, F_fit_together [.d a, .d b, .d c] st = .ok (vB true) st) (h2 : ∀ st, F_is_integer [.d f, vI 1, vI 3] st = .ok (vB true) st) {xs ys : List PyData} (h3 : 1 ≤ xs.length ∧ xs.length ≤ 3) (h4 : ys.length ≠ xs.length) : NoHouse (.tuple [a, b, c, .tuple xs, .tuple ys, f]) := fun st => by
  have l1 : (1 : Int) ≤ (xs.length : Int) := by omega
  have l2 : (xs.length : Int) ≤ 3 := by omega
  have l5 : ((ys.length : Int) == (xs.length : Int)) = false := by simp; omega
  simp [F_is_house, m_is_house, h, h2, l1, l2, h3.1, h3.2, l5]
theorem no_each {α : Type} {xs : List PyData} {ys : List PyData} (h : ∀ st, F_fit_together [.d a, .d b, .d c] st = .ok (vB true) st) (h2 : ∀ st, F_is_integer [.d f, vI 1, vI 3] st = .ok (vB true) st) (h3 : 1 ≤ xs.length ∧ xs.length ≤ 3) (h4 : ys.length = xs.length)
    (p : PyData → Bool) (q : PyData → Bool) (h5 : ∀ x ∈ xs, ∀ st, F_is_course [.d x, .d c] st = .ok (vB (p x)) st) (h6 : ∀ y ∈ ys, ∀ st, F_is_integer [.d y, vI 1, vI 3] st = .ok (vB (q y)) st) (h7 : (xs.all p && ys.all q) = false) : NoHouse (.tuple [a, b, c, .tuple xs, .tuple ys, f]) := fun st => by
  have l1 : (1 : Int) ≤ (xs.length : Int) := by omega
  have l2 : (xs.length : Int) ≤ 3 := by omega
  have c1 : c_is_house_1 [some (.d (.tuple [a, b, c, .tuple xs, .tuple ys, f])), some (.d a), some (.d b), some (.d c), some (.d (.tuple xs)), some (.d (.tuple ys)), some (.d f), none, none] st = .ok (.d (.list ((xs.map p).map .bool))) st := by
    rw [List.map_map]
    refine mlc_data Val.d _ xs (by simp) (by omega) fun x hx => ⟨_, rfl, ?_⟩
    have := h5 x hx []
    simp [this]
  have c2 : c_is_house_2 [some (.d (.tuple [a, b, c, .tuple xs, .tuple ys, f])), some (.d a), some (.d b), some (.d c), some (.d (.tuple xs)), some (.d (.tuple ys)), some (.d f), none, none] st = .ok (.d (.list ((ys.map q).map .bool))) st := by
    rw [List.map_map]
    refine mlc_data Val.d _ ys (by simp) (by omega) fun x hx => ⟨_, rfl, ?_⟩
    have := h6 x hx []
    simp [this]
  have a1 : allF [.d (.list ((xs.map p).map .bool))] st = .ok (vB (xs.all p)) st := by rw [allF_l, List.all_map]; rfl
  have a2 : allF [.d (.list ((ys.map q).map .bool))] st = .ok (vB (ys.all q)) st := by rw [allF_l, List.all_map]; rfl
  generalize xs.all p = b1 at *
  generalize ys.all q = b2 at *
  generalize xs.map p = z1 at *
  generalize ys.map q = z2 at *
  cases b1 with
  | false => simp [-allF_l, F_is_house, m_is_house, h, h2, l1, l2, h3.1, h3.2, h4, c1, a1]
  | true =>
    rw [Bool.true_and] at h7
    subst h7
    simp [-allF_l, F_is_house, m_is_house, h, h2, l1, l2, h3.1, h3.2, h4, c1, c2, a1, a2]
end
end Lw

namespace Lw
open PySem PySem.Spec PyProof.Rows L2 Z
abbrev okT (x : Str) : Bool := PyData.strOk x
theorem eqv_ss (a b : Str) : PyData.eqv (.str a) (.str b) = (a == b) := by simp [PyData.eqv]
theorem any_has (w : Str) : ∀ ws : List Str, ((ws.map PyData.str).any fun z => PyData.eqv z (.str w)) = ws.contains w
  | [] => rfl
  | a :: l => by
    rw [List.map_cons, List.any_cons, any_has w l, eqv_ss, List.contains_cons, BEq.comm]
theorem nice_strs {ws : List Str} (h : ∀ w ∈ ws, okT w = true) : (ws.map PyData.str).all (nice 1) = true := by
  rw [List.all_map, List.all_eq_true]; exact h
theorem in_tupS {w : Str} {ws : List Str} (hw : okT w = true) (h : ∀ w ∈ ws, okT w = true) : inD (.str w) (.tuple (ws.map .str)) = some (ws.contains w) := by
  rw [inD_tup (n := 2) (by decide) (show nice 2 (.str w) = true from hw) (nice_strs h), any_has]
theorem okT_lits : (∀ w ∈ REF, okT w = true) ∧ (∀ w ∈ NOT, okT w = true) ∧ (∀ w ∈ SHOW :: W8, okT w = true) := by decide +kernel
theorem in_two (k a b : Int) : inD (.int k) (.tuple [.int a, .int b]) = some (decide (a = k) || decide (b = k)) := by
  rw [inD_tup (n := 2) (by decide) rfl rfl]
  simp [PyData.eqv]
  rfl
/-! whole numbers -/
theorem int_bool (b : Bool) (lo hi : Int) (st : Sto) : F_is_integer [vB b, vI lo, vI hi] st = .ok (vB false) st := by simp [F_is_integer, m_is_integer]
theorem int_none (lo hi : Int) (st : Sto) : F_is_integer [.d .none, vI lo, vI hi] st = .ok (vB false) st := by simp [F_is_integer, m_is_integer]
theorem int_str (x : Str) (lo hi : Int) (st : Sto) : F_is_integer [vS x, vI lo, vI hi] st = .ok (vB false) st := by simp [F_is_integer, m_is_integer]
/-! courses -/
def crsI (co : List Int) (cs : List Nat) : Bool := decide (co.length = cs.length) && (co.zip cs).all fun p => decide (0 ≤ p.1) && decide (p.1 ≤ (p.2 : Int) - 1)
theorem q_course {co : List Int} {cs : List Nat} (hl : co.length ≤ 1000000) (st : Sto) : F_is_course [.d (.tuple (co.map .int)), .d (tI cs)] st = .ok (vB (crsI co cs)) st := by
  have c : c_is_course_1 [some (.d (.tuple (co.map .int))), some (.d (tI cs)), none, none] st = .ok (.d (.list (((co.zip cs).map fun p => decide (0 ≤ p.1) && decide (p.1 ≤ (p.2 : Int) - 1)).map .bool))) st := by
    rw [List.map_map]
    refine mlc_data (fun p : Int × Nat => .p [.d (.int p.1), .d (nI p.2)]) _ (co.zip cs) ?_ (by simp; omega) fun a ha => ⟨[some (.d (.tuple (co.map .int))), some (.d (tI cs)), some (.d (.int a.1)), some (.d (nI a.2))], rfl, ?_⟩
    · simp [-List.map_map, zipL_zip2]
    · obtain ⟨x, y⟩ := a
      have := e_integer x 0 ((y : Int) - 1) []
      show _ = Out.ok (vB (decide (0 ≤ x) && decide (x ≤ (y : Int) - 1))) st
      generalize (decide (0 ≤ x) && decide (x ≤ (y : Int) - 1)) = b at this ⊢
      simp [this]
  have al : allF [.d (.list (((co.zip cs).map fun p => decide (0 ≤ p.1) && decide (p.1 ≤ (p.2 : Int) - 1)).map .bool))] st = .ok (vB ((co.zip cs).all fun p => decide (0 ≤ p.1) && decide (p.1 ≤ (p.2 : Int) - 1))) st := by
    rw [allF_l, List.all_map]; rfl
  unfold crsI
  generalize ((co.zip cs).map fun p => decide (0 ≤ p.1) && decide (p.1 ≤ (p.2 : Int) - 1)) = z at c al
  generalize ((co.zip cs).all fun p => decide (0 ≤ p.1) && decide (p.1 ≤ (p.2 : Int) - 1)) = b at al ⊢
  by_cases hz : co.length = cs.length
  · rw [decide_eq_true hz, Bool.true_and]
    simp [-allF_l, F_is_course, m_is_course, c, hz, al]
  · have e : ((co.length : Int) == (cs.length : Int)) = false := by simp; omega
    rw [decide_eq_false hz, Bool.false_and]
    simp [-allF_l, F_is_course, m_is_course, e]
theorem course_none (x : PyData) (st : Sto) : F_is_course [.d .none, .d x] st = .ok (vB false) st := by simp [F_is_course, m_is_course]
/-! plans -/
def planG (p : List Str) : Bool := decide (1 ≤ p.length) && decide (p.length ≤ 15) && (p.all fun w => (SHOW :: W8).contains w) && (decide (p.count SHOW = 1) || decide (p.count SHOW = 2))
theorem q_plan {p : List Str} (hl : p.length ≤ 1000000) (hw : ∀ w ∈ p, okT w = true) (st : Sto) : F_is_plan [.d (.tuple (p.map .str))] st = .ok (vB (planG p)) st := by
  unfold planG
  by_cases l1 : 1 ≤ p.length
  · by_cases h15 : p.length ≤ 15
    · rw [decide_eq_true l1, decide_eq_true h15, Bool.true_and, Bool.true_and]
      have l1' : (1 : Int) ≤ (p.length : Int) := by omega
      have l2' : (p.length : Int) ≤ 15 := by omega
      have c : c_is_plan_1 [some (.d (.tuple (p.map .str))), none] st = .ok (.d (.list ((p.map fun w => (SHOW :: W8).contains w).map .bool))) st := by
        rw [List.map_map]
        refine mlc_data vS _ p (by simp) (by omega) fun a ha => ⟨[some (.d (.tuple (p.map .str))), some (vS a)], rfl, ?_⟩
        have := in_tupS (hw a ha) okT_lits.2.2
        change inD _ d_WORDS = _ at this
        show _ = Out.ok (vB ((SHOW :: W8).contains a)) st
        generalize (SHOW :: W8).contains a = b at this ⊢
        simp [F_is_one_of, m_is_one_of, this]
      have al : allF [.d (.list ((p.map fun w => (SHOW :: W8).contains w).map .bool))] st = .ok (vB (p.all fun w => (SHOW :: W8).contains w)) st := by rw [allF_l, List.all_map]; rfl
      have cn := in_two (p.count SHOW : Nat) 1 2
      have e1 : decide ((1 : Int) = ((p.count SHOW : Nat) : Int)) = decide (p.count SHOW = 1) := by
        by_cases q : p.count SHOW = 1
        · rw [decide_eq_true q, decide_eq_true (by omega)]
        · rw [decide_eq_false q, decide_eq_false (by omega)]
      have e2 : decide ((2 : Int) = ((p.count SHOW : Nat) : Int)) = decide (p.count SHOW = 2) := by
        by_cases q : p.count SHOW = 2
        · rw [decide_eq_true q, decide_eq_true (by omega)]
        · rw [decide_eq_false q, decide_eq_false (by omega)]
      rw [e1, e2] at cn
      generalize (decide (p.count SHOW = 1) || decide (p.count SHOW = 2)) = b at cn ⊢
      generalize (p.map fun w => (SHOW :: W8).contains w) = z at c al
      generalize (p.all fun w => (SHOW :: W8).contains w) = b2 at al ⊢
      cases b2 <;> simp [-allF_l, F_is_plan, m_is_plan, c, al, cnt_map, pl_map_s, cn, l1, h15, l1', l2']
    · rw [decide_eq_false h15, Bool.and_false, Bool.false_and, Bool.false_and]
      have l1' : (1 : Int) ≤ (p.length : Int) := by omega
      have l2' : ¬ (p.length : Int) ≤ 15 := by omega
      simp [F_is_plan, m_is_plan, l1, h15, l1', l2']
  · rw [decide_eq_false l1, Bool.false_and, Bool.false_and, Bool.false_and]
    have l1' : ¬ (1 : Int) ≤ (p.length : Int) := by omega
    simp [F_is_plan, m_is_plan, l1, l1']
theorem plan_list (xs : List PyData) (st : Sto) : F_is_plan [.d (.list xs)] st = .ok (vB false) st := by simp [F_is_plan, m_is_plan]
/-! counts -/
def cntI (cs : List Int) : Bool := (decide (cs.length = 2) || decide (cs.length = 3)) && cs.all fun c => decide (1 ≤ c) && decide (c ≤ 4)
theorem q_counts {cs : List Int} (hl : cs.length ≤ 1000000) (st : Sto) : F_is_counts [.d (.tuple (cs.map .int))] st = .ok (vB (cntI cs)) st := by
  have c : c_is_counts_1 [some (.d (.tuple (cs.map .int))), none] st = .ok (.d (.list ((cs.map fun c => decide (1 ≤ c) && decide (c ≤ 4)).map .bool))) st := by
    rw [List.map_map]
    refine mlc_data vI _ cs (by simp) (by omega) fun a ha => ⟨[some (.d (.tuple (cs.map .int))), some (vI a)], rfl, ?_⟩
    have := e_integer a 1 4 []
    show _ = Out.ok (vB (decide (1 ≤ a) && decide (a ≤ 4))) st
    generalize (decide (1 ≤ a) && decide (a ≤ 4)) = b at this ⊢
    simp [this]
  have i := in_two (cs.length : Nat) 2 3
  have e1 : decide ((2 : Int) = ((cs.length : Nat) : Int)) = decide (cs.length = 2) := by
    by_cases q : cs.length = 2
    · rw [decide_eq_true q, decide_eq_true (by omega)]
    · rw [decide_eq_false q, decide_eq_false (by omega)]
  have e2 : decide ((3 : Int) = ((cs.length : Nat) : Int)) = decide (cs.length = 3) := by
    by_cases q : cs.length = 3
    · rw [decide_eq_true q, decide_eq_true (by omega)]
    · rw [decide_eq_false q, decide_eq_false (by omega)]
  rw [e1, e2] at i
  have al : allF [.d (.list ((cs.map fun c => decide (1 ≤ c) && decide (c ≤ 4)).map .bool))] st = .ok (vB (cs.all fun c => decide (1 ≤ c) && decide (c ≤ 4))) st := by
    rw [allF_l, List.all_map]; rfl
  unfold cntI
  generalize (cs.map fun c => decide (1 ≤ c) && decide (c ≤ 4)) = z at c al
  generalize (cs.all fun c => decide (1 ≤ c) && decide (c ≤ 4)) = b at al ⊢
  generalize (decide (cs.length = 2) || decide (cs.length = 3)) = b2 at i ⊢
  cases b2 <;> simp [-allF_l, F_is_counts, m_is_counts, c, i, al]
theorem counts_list (xs : List PyData) (st : Sto) : F_is_counts [.d (.list xs)] st = .ok (vB false) st := by simp [F_is_counts, m_is_counts]
/-! schemes -/
theorem sch_list (xs : List PyData) (st : Sto) : F_is_scheme [.d (.list xs)] st = .ok (vB false) st := by simp [F_is_scheme, m_is_scheme]
theorem sch_len {xs : List PyData} (h : xs.length ≠ 5) (st : Sto) : F_is_scheme [.d (.tuple xs)] st = .ok (vB false) st := by
  have h' : ((xs.length : Int) == 5) = false := by simp; omega
  simp [F_is_scheme, m_is_scheme, h']
theorem sch_int (b c d e : PyData) (i : Int) (hb : ∃ x, b = .bool x) (he : ∃ x, e = .bool x) (st : Sto) : F_is_scheme [.d (.tuple [.int i, b, c, d, e])] st = .ok (vB false) st := by
  obtain ⟨x, rfl⟩ := hb
  obtain ⟨y, rfl⟩ := he
  have c1 : c_is_scheme_1 [some (.d (.tuple [.int i, .bool x, c, d, .bool y])), none] st = .ok (.d (.list ([false, true, true].map PyData.bool))) st := by
    have : ([false, true, true].map PyData.bool) = ([0, 1, 4] : List Int).map fun k => PyData.bool (k != 0) := rfl
    rw [this]
    refine mlc_data vI _ [0, 1, 4] (by simp) (by decide) fun a ha => ⟨_, rfl, ?_⟩
    simp at ha
    rcases ha with rfl | rfl | rfl <;> simp <;> rfl
  have al : allF [.d (.list ([false, true, true].map PyData.bool))] st = .ok (vB false) st := by rw [allF_l]; rfl
  simp [-allF_l] at c1 al
  simp [-allF_l, F_is_scheme, m_is_scheme, c1, al]
theorem sch_gone (x y z : Bool) (w g : Str) (hg : inD (.str g) d_REFUSALS = some false) (st : Sto) : F_is_scheme [.d (.tuple [.bool x, .bool y, .str g, .str w, .bool z])] st = .ok (vB false) st := by
  have c1 : c_is_scheme_1 [some (.d (.tuple [.bool x, .bool y, .str g, .str w, .bool z])), none] st = .ok (.d (.list ([true, true, true].map PyData.bool))) st := by
    have : ([true, true, true].map PyData.bool) = ([0, 1, 4] : List Int).map fun k => PyData.bool true := rfl
    rw [this]
    refine mlc_data vI _ [0, 1, 4] (by simp) (by decide) fun a ha => ⟨_, rfl, ?_⟩
    simp at ha
    rcases ha with rfl | rfl | rfl <;> simp
  have al : allF [.d (.list ([true, true, true].map PyData.bool))] st = .ok (vB true) st := by rw [allF_l]; rfl
  simp [-allF_l] at c1 al
  simp [-allF_l, F_is_scheme, m_is_scheme, c1, al, F_is_one_of, m_is_one_of, hg]
/-! together -/
section
variable {a b c : PyData}
theorem fit_a (h : ∀ st, F_is_scheme [.d a] st = .ok (vB false) st) (st : Sto) : F_fit_together [.d a, .d b, .d c] st = .ok (vB false) st := by simp [F_fit_together, m_fit_together, h]
theorem fit_b (h : ∀ st, F_is_scheme [.d a] st = .ok (vB true) st) (h2 : ∀ st, F_is_plan [.d b] st = .ok (vB false) st) (st : Sto) : F_fit_together [.d a, .d b, .d c] st = .ok (vB false) st := by simp [F_fit_together, m_fit_together, h, h2]
theorem fit_c (h : ∀ st, F_is_scheme [.d a] st = .ok (vB true) st) (h2 : ∀ st, F_is_plan [.d b] st = .ok (vB true) st) (h3 : ∀ st, F_is_counts [.d c] st = .ok (vB false) st) (st : Sto) : F_fit_together [.d a, .d b, .d c] st = .ok (vB false) st := by simp [F_fit_together, m_fit_together, h, h2, h3]
end
end Lw

namespace Lw
open PySem PySem.Spec PyProof.Rows L2 Z
noncomputable def valB (F : Fn) (args : List Val) : Bool := match F args [] with
  | .ok (.d (.bool b)) _ => b
  | _ => false
theorem valB_ok {F : Fn} {args : List Val} {b : Bool} (h : ∀ st, F args st = .ok (vB b) st) : valB F args = b := by
  unfold valB; rw [h []]
abbrev PL (h : Hs) : PyData := .tuple (h.plan.map .str)
abbrev CO (h : Hs) : PyData := .tuple (h.courses.map tI)
theorem six (h : Hs) : seqT (.d h.d) = some [.d h.sch, .d (PL h), .d (tI h.counts), .d (CO h), .d (tI h.letters), .d (nI h.senders)] := rfl
structure Bd (h : Hs) (a : Nat) (key : Nat) : Prop where
  lt : key < h.courses.length
  ev : ∀ st, modF (vI a) (vI (h.courses.length : Nat)) st = .ok (vI key) st
  ln : ∀ st, lenF [.d (CO h)] st = .ok (vI (h.courses.length : Nat)) st
theorem bd {h : Hs} (g : Good h) (a : Nat) : ∃ key, Bd h a key := by
  have := g.crs1
  refine ⟨a % h.courses.length, Nat.mod_lt _ (by omega), fun st => ?_, fun st => by simp⟩
  rw [modF_ii, if_pos (by omega)]; rfl
theorem md (a n : Nat) (h : 0 < n) : ∃ r, r < n ∧ ∀ st, modF (vI a) (vI n) st = .ok (vI r) st :=
  ⟨a % n, Nat.mod_lt _ h, fun st => by rw [modF_ii, if_pos (by omega)]; rfl⟩
theorem dv (a : Nat) : ∃ q : Nat, ∀ st, fdivF (vI a) (vI 3) st = .ok (vI q) st :=
  ⟨a / 3, fun st => by rw [fdivF_ii, if_pos (by decide)]; rfl⟩
theorem snd_ok {h : Hs} (g : Good h) (st : Sto) : F_is_integer [.d (nI h.senders), vI 1, vI 3] st = .ok (vB true) st := e_int_ok (by have := g.snd; omega) (by have := g.snd; omega)
section
variable {h : Hs} (g : Good h)
include g
theorem bad0 (a : Nat) : ∃ B, F__law_bad [.d h.d, vI 0, vI a] [] = .ok (.d B) [] ∧ NoHouse B := by
  obtain ⟨key, k1, k2, k3⟩ := bd g a
  obtain ⟨r, hr, er⟩ := md a 5 (by decide)
  have er : ∀ st, modF (vI a) (vI 5) st = .ok (vI r) st := er
  have e5 : cutL [h.sch, PL h, tI h.counts, CO h, tI h.letters, nI h.senders] none (some 5) = [h.sch, PL h, tI h.counts, CO h, tI h.letters] := cut_on _ 5
  have s5 : ∀ st, slF false (.d h.d) none (some 5) st = .ok (.d (.tuple [h.sch, PL h, tI h.counts, CO h, tI h.letters])) st := fun st => by rw [Hs.d, slF_t, e5]
  have l6 : ∀ st, listF false [.d h.d] st = .ok (.d (.list [h.sch, PL h, tI h.counts, CO h, tI h.letters, nI h.senders])) st := fun st => by
    rw [Hs.d, listF_t, lstR_f, newL_k, dats0, newK_s]
  have a7 : ∀ st, addF false (.d h.d) (.d (.tuple [.int 1])) st = .ok (.d (.tuple [h.sch, PL h, tI h.counts, CO h, tI h.letters, nI h.senders, .int 1])) st := fun st => by
    rw [Hs.d, addF_tt, if_pos (by simp)]; rfl
  have s6 := six h
  have z : r = 0 ∨ r = 1 ∨ r = 2 ∨ r = 3 ∨ r = 4 := by omega
  generalize h.d = HD at *
  rcases z with rfl | rfl | rfl | rfl | rfl
  · exact ⟨_, by simp [-modF_ii, -lenF_t, F__law_bad, m__law_bad, s6, k2, k3, er, s5, l6, a7]; rfl, no_type fun st => by simp⟩
  · exact ⟨_, by simp [-modF_ii, -lenF_t, F__law_bad, m__law_bad, s6, k2, k3, er, s5, l6, a7]; rfl, no_len (by simp)⟩
  · exact ⟨_, by simp [-modF_ii, -lenF_t, F__law_bad, m__law_bad, s6, k2, k3, er, s5, l6, a7]; rfl, no_len (by simp)⟩
  · exact ⟨_, by simp [-modF_ii, -lenF_t, F__law_bad, m__law_bad, s6, k2, k3, er, s5, l6, a7]; rfl, no_type fun st => by simp⟩
  · exact ⟨_, by simp [-modF_ii, -lenF_t, F__law_bad, m__law_bad, s6, k2, k3, er, s5, l6, a7]; rfl, no_type fun st => by simp⟩
theorem bad1 (a : Nat) : ∃ B, F__law_bad [.d h.d, vI 1, vI a] [] = .ok (.d B) [] ∧ NoHouse B := by
  obtain ⟨key, k1, k2, k3⟩ := bd g a
  obtain ⟨r, hr, er⟩ := md a 4 (by decide)
  have er : ∀ st, modF (vI a) (vI 4) st = .ok (vI r) st := er
  have e1 : cutL [PyData.bool h.asks, .bool h.paced, .str h.refused, .str h.notes, .bool h.steady] none (some 4) = [.bool h.asks, .bool h.paced, .str h.refused, .str h.notes] := cut_on _ 4
  have e2 : cutL [PyData.bool h.asks, .bool h.paced, .str h.refused, .str h.notes, .bool h.steady] none (some 2) = [.bool h.asks, .bool h.paced] := cut_on _ 2
  have e3 : cutL [PyData.bool h.asks, .bool h.paced, .str h.refused, .str h.notes, .bool h.steady] (some 1) none = [.bool h.paced, .str h.refused, .str h.notes, .bool h.steady] := cut_no _ 1
  have e4 : cutL [PyData.bool h.asks, .bool h.paced, .str h.refused, .str h.notes, .bool h.steady] (some 3) none = [.str h.notes, .bool h.steady] := cut_no _ 3
  have s6 := six h
  generalize h.d = HD at *
  unfold Hs.sch at *
  have z : r = 0 ∨ r = 1 ∨ r = 2 ∨ r = 3 := by omega
  rcases z with rfl | rfl | rfl | rfl
  · exact ⟨.tuple [.tuple [.bool h.asks, .bool h.paced, .str h.refused, .str h.notes], PL h, tI h.counts, CO h, tI h.letters, nI h.senders], by simp [-modF_ii, -lenF_t, F__law_bad, m__law_bad, s6, k2, k3, er, e1, e2, e3, e4], no_fit (fit_a (sch_len (by simp)))⟩
  · exact ⟨.tuple [.list [.bool h.asks, .bool h.paced, .str h.refused, .str h.notes, .bool h.steady], PL h, tI h.counts, CO h, tI h.letters, nI h.senders], by simp [-modF_ii, -lenF_t, F__law_bad, m__law_bad, s6, k2, k3, er, e1, e2, e3, e4], no_fit (fit_a (sch_list _))⟩
  · exact ⟨.tuple [.tuple [.int 1, .bool h.paced, .str h.refused, .str h.notes, .bool h.steady], PL h, tI h.counts, CO h, tI h.letters, nI h.senders], by simp [-modF_ii, -lenF_t, F__law_bad, m__law_bad, s6, k2, k3, er, e1, e2, e3, e4], no_fit (fit_a (sch_int _ _ _ _ _ ⟨_, rfl⟩ ⟨_, rfl⟩))⟩
  · exact ⟨.tuple [.tuple [.bool h.asks, .bool h.paced, .str "gone", .str h.notes, .bool h.steady], PL h, tI h.counts, CO h, tI h.letters, nI h.senders], by simp [-modF_ii, -lenF_t, F__law_bad, m__law_bad, s6, k2, k3, er, e1, e2, e3, e4], no_fit (fit_a (sch_gone _ _ _ _ "gone" (by decide +kernel)))⟩
abbrev LONG : List Str := ["show", "tell", "tell", "tell", "tell", "tell", "tell", "tell", "tell", "tell", "tell", "tell", "tell", "tell", "tell", "tell"]
abbrev SHUT : List Str := ["shut"]
abbrev SS : List Str := ["show", "show"]
theorem bad2 (a : Nat) : ∃ B, F__law_bad [.d h.d, vI 2, vI a] [] = .ok (.d B) [] ∧ NoHouse B := by
  obtain ⟨key, k1, k2, k3⟩ := bd g a
  obtain ⟨r, hr, er⟩ := md a 6 (by decide)
  have er : ∀ st, modF (vI a) (vI 6) st = .ok (vI r) st := er
  have s6 := six h
  generalize h.d = HD at *
  have pl := g.plan.len
  have pl2 := g.plan.len2
  have pw := g.plan.words
  have pc := g.plan.cnt
  have fb : ∀ (p : List Str), p.length ≤ 1000 → (∀ w ∈ p, okT w = true) → planG p = false → NoHouse (.tuple [h.sch, .tuple (p.map .str), tI h.counts, CO h, tI h.letters, nI h.senders]) := fun p h1 h2 h3 => no_fit (fit_b (e_is_scheme g) fun st => by rw [q_plan (by omega) h2, h3])
  have mt : ∀ st, mulF false (.d (.tuple [.str "tell"])) (vI 15) st = .ok (.d (.tuple ((LONG.drop 1).map .str))) st := fun st => by
    rw [mulF_tk (by simp) (by decide) (by decide)]; rfl
  have at_ : ∀ st, addF false (.d (.tuple [.str "show"])) (.d (.tuple ((LONG.drop 1).map .str))) st = .ok (.d (.tuple (LONG.map .str))) st := fun st => by
    rw [addF_tt, if_pos (by decide)]; rfl
  have sw : ∀ (x : List Str), x.length ≤ 10 → ∀ st, addF false (.d (PL h)) (.d (.tuple (x.map .str))) st = .ok (.d (.tuple ((h.plan ++ x).map .str))) st := fun x hx st => by
    rw [addF_tt, if_pos (by simp; omega), ← List.map_append]
  have a1 := sw SHUT (by decide)
  have a2 := sw SS (by decide)
  have okp : ∀ w ∈ h.plan, okT w = true := fun w hw => okT_lits.2.2 w (pw w hw)
  have l5 : ∀ st, listF false [.d (PL h)] st = .ok (.d (.list (h.plan.map .str))) st := fun st => by
    rw [listF_t, lstR_f, newL_k, dats0, newK_s]
  have g1 : planG (h.plan ++ SHUT) = false := by
    unfold planG
    have : ((h.plan ++ SHUT).all fun w => (SHOW :: W8).contains w) = false := by
      rw [List.all_append]
      have : (SHUT.all fun w => (SHOW :: W8).contains w) = false := by decide +kernel
      rw [this, Bool.and_false]
    rw [this, Bool.and_false, Bool.false_and]
  have g2 : planG (h.plan ++ SS) = false := by
    unfold planG
    have c : (h.plan ++ SS).count SHOW = h.plan.count SHOW + 2 := by
      rw [List.count_append]
      have : List.count SHOW SS = 2 := by decide +kernel
      rw [this]
    rw [c]
    have : (decide (h.plan.count SHOW + 2 = 1) || decide (h.plan.count SHOW + 2 = 2)) = false := by
      rcases pc with q | ⟨_, q⟩ <;> rw [q] <;> decide
    rw [this, Bool.and_false]
  have n1 := fb (h.plan ++ SHUT) (by simp; omega) (fun w hw => by
    rcases List.mem_append.mp hw with q | q
    · exact okp w q
    · have : ∀ w ∈ SHUT, okT w = true := by decide +kernel
      exact this w q) g1
  have n2 := fb (h.plan ++ SS) (by simp; omega) (fun w hw => by
    rcases List.mem_append.mp hw with q | q
    · exact okp w q
    · have : ∀ w ∈ SS, okT w = true := by decide +kernel
      exact this w q) g2
  have n3 := fb LONG (by decide) (by decide +kernel) (by decide +kernel)
  have n4 := fb [] (by decide) (by decide +kernel) (by decide +kernel)
  have n5 := fb ["open"] (by decide) (by decide +kernel) (by decide +kernel)
  have n6 : NoHouse (.tuple [h.sch, .list (h.plan.map .str), tI h.counts, CO h, tI h.letters, nI h.senders]) := no_fit (fit_b (e_is_scheme g) (plan_list _))
  generalize (h.plan ++ SHUT).map PyData.str = P1 at *
  generalize (h.plan ++ SS).map PyData.str = P2 at *
  generalize LONG.map PyData.str = P3 at *
  generalize (LONG.drop 1).map PyData.str = P4 at *
  generalize h.plan.map PyData.str = P0 at *
  simp only [List.map_cons, List.map_nil] at a1 a2 n4 n5
  have z : r = 0 ∨ r = 1 ∨ r = 2 ∨ r = 3 ∨ r = 4 ∨ r = 5 := by omega
  rcases z with rfl | rfl | rfl | rfl | rfl | rfl
  · exact ⟨_, by simp [-modF_ii, -lenF_t, -addF_tt, F__law_bad, m__law_bad, s6, k2, k3, er, mt, at_, a1, a2, l5], n4⟩
  · exact ⟨_, by simp [-modF_ii, -lenF_t, -addF_tt, F__law_bad, m__law_bad, s6, k2, k3, er, mt, at_, a1, a2, l5], n5⟩
  · exact ⟨_, by simp [-modF_ii, -lenF_t, -addF_tt, F__law_bad, m__law_bad, s6, k2, k3, er, mt, at_, a1, a2, l5], n6⟩
  · exact ⟨_, by simp [-modF_ii, -lenF_t, -addF_tt, F__law_bad, m__law_bad, s6, k2, k3, er, mt, at_, a1, a2, l5], n1⟩
  · exact ⟨_, by simp [-modF_ii, -lenF_t, -addF_tt, F__law_bad, m__law_bad, s6, k2, k3, er, mt, at_, a1, a2, l5], n2⟩
  · exact ⟨_, by simp [-modF_ii, -lenF_t, -addF_tt, F__law_bad, m__law_bad, s6, k2, k3, er, mt, at_, a1, a2, l5], n3⟩
end
end Lw

namespace Lw
open PySem PySem.Spec PyProof.Rows L2 Z
section
variable {h : Hs} (g : Good h)
include g
theorem bad3 (a : Nat) : ∃ B, F__law_bad [.d h.d, vI 3, vI a] [] = .ok (.d B) [] ∧ NoHouse B := by
  obtain ⟨key, k1, k2, k3⟩ := bd g a
  obtain ⟨r, hr, er⟩ := md a 5 (by decide)
  have er : ∀ st, modF (vI a) (vI 5) st = .ok (vI r) st := er
  have s6 := six h
  generalize h.d = HD at *
  have cl := g.cl
  have fb : ∀ (p : List Int), p.length ≤ 1000 → cntI p = false → NoHouse (.tuple [h.sch, PL h, .tuple (p.map .int), CO h, tI h.letters, nI h.senders]) := fun p h1 h3 => no_fit (fit_c (e_is_scheme g) (e_is_plan g.plan) fun st => by rw [q_counts (by omega), h3])
  have n6 : NoHouse (.tuple [h.sch, PL h, .list (h.counts.map nI), CO h, tI h.letters, nI h.senders]) := no_fit (fit_c (e_is_scheme g) (e_is_plan g.plan) (counts_list _))
  obtain ⟨ci, hci, hcl⟩ : ∃ ci : List Int, h.counts.map nI = ci.map .int ∧ ci.length = h.counts.length := ⟨h.counts.map fun n : Nat => (n : Int), by rw [List.map_map]; rfl, by simp⟩
  have ln : ∀ st, lenF [.d (tI h.counts)] st = .ok (vI (h.counts.length : Nat)) st := fun st => by simp
  have l5 : ∀ st, listF false [.d (tI h.counts)] st = .ok (.d (.list (h.counts.map nI))) st := fun st => by
    rw [listF_t, lstR_f, newL_k, dats0, newK_s]
  have e1 : ∀ st, slF false (.d (tI h.counts)) none (some 1) st = .ok (.d (.tuple ((ci.take 1).map .int))) st := fun st => by
    rw [slF_t, hci, show (1 : Int) = ((1 : Nat) : Int) from rfl, cut_on, List.map_take]
  have e2 : ∀ st, slF false (.d (tI h.counts)) (some 1) none st = .ok (.d (.tuple ((ci.drop 1).map .int))) st := fun st => by
    rw [slF_t, hci, show (1 : Int) = ((1 : Nat) : Int) from rfl, cut_no, List.map_drop]
  have m1 : ∀ st, mulF false (.d (.tuple [.int 1])) (vI (h.counts.length : Nat)) st = .ok (.d (.tuple ((List.replicate h.counts.length (1 : Int)).map .int))) st := fun st => by
    rw [mulF_tk (by simp) (by omega) (by simp)]
    congr 3
    rw [Int.toNat_natCast, List.map_replicate]
    simp
  have a1 : ∀ st, addF false (.d (tI h.counts)) (.d (.tuple ((List.replicate h.counts.length (1 : Int)).map .int))) st = .ok (.d (.tuple ((ci ++ List.replicate h.counts.length (1 : Int)).map .int))) st := fun st => by
    rw [addF_tt, hci, if_pos (by simp; omega), List.map_append]
  have a2 : ∀ (z : Int) st, addF false (.d (.tuple [.int z])) (.d (.tuple ((ci.drop 1).map .int))) st = .ok (.d (.tuple ((z :: ci.drop 1).map .int))) st := fun z st => by
    rw [addF_tt, if_pos (by simp; omega)]; rfl
  have n1 := fb (ci.take 1) (by simp; omega) (by
    unfold cntI
    have : (ci.take 1).length = 1 := by simp; omega
    rw [this]; rfl)
  have n2 := fb (ci ++ List.replicate h.counts.length (1 : Int)) (by simp; omega) (by
    unfold cntI
    have : (ci ++ List.replicate h.counts.length (1 : Int)).length = 2 * h.counts.length := by simp; omega
    rw [this]
    rcases cl with q | q <;> rw [q] <;> rfl)
  have n3 := fb (0 :: ci.drop 1) (by simp; omega) (by unfold cntI; simp)
  have n4 := fb (5 :: ci.drop 1) (by simp; omega) (by unfold cntI; simp)
  have b1 := a2 0
  have b2 := a2 5
  clear a2
  generalize (ci.take 1).map PyData.int = C1 at *
  generalize (ci ++ List.replicate h.counts.length (1 : Int)).map PyData.int = C2 at *
  generalize (List.replicate h.counts.length (1 : Int)).map PyData.int = C5 at *
  generalize ((0 : Int) :: ci.drop 1).map PyData.int = C3 at *
  generalize ((5 : Int) :: ci.drop 1).map PyData.int = C4 at *
  generalize (ci.drop 1).map PyData.int = C6 at *
  have z : r = 0 ∨ r = 1 ∨ r = 2 ∨ r = 3 ∨ r = 4 := by omega
  rcases z with rfl | rfl | rfl | rfl | rfl
  · exact ⟨_, by simp [-modF_ii, -lenF_t, -addF_tt, -slF_t, -listF_t, F__law_bad, m__law_bad, s6, k2, k3, er, ln, l5, e1, e2, m1, a1, b1, b2], n1⟩
  · exact ⟨_, by simp [-modF_ii, -lenF_t, -addF_tt, -slF_t, -listF_t, F__law_bad, m__law_bad, s6, k2, k3, er, ln, l5, e1, e2, m1, a1, b1, b2], n2⟩
  · exact ⟨_, by simp [-modF_ii, -lenF_t, -addF_tt, -slF_t, -listF_t, F__law_bad, m__law_bad, s6, k2, k3, er, ln, l5, e1, e2, m1, a1, b1, b2], n3⟩
  · exact ⟨_, by simp [-modF_ii, -lenF_t, -addF_tt, -slF_t, -listF_t, F__law_bad, m__law_bad, s6, k2, k3, er, ln, l5, e1, e2, m1, a1, b1, b2], n4⟩
  · exact ⟨_, by simp [-modF_ii, -lenF_t, -addF_tt, -slF_t, -listF_t, F__law_bad, m__law_bad, s6, k2, k3, er, ln, l5, e1, e2, m1, a1, b1, b2], n6⟩
theorem bad6 (a : Nat) : ∃ B, F__law_bad [.d h.d, vI 6, vI a] [] = .ok (.d B) [] ∧ NoHouse B := by
  obtain ⟨key, k1, k2, k3⟩ := bd g a
  obtain ⟨r, hr, er⟩ := md a 5 (by decide)
  have er : ∀ st, modF (vI a) (vI 5) st = .ok (vI r) st := er
  have s6 := six h
  generalize h.d = HD at *
  have fb : ∀ f, (∀ st, F_is_integer [.d f, vI 1, vI 3] st = .ok (vB false) st) → NoHouse (.tuple [h.sch, PL h, tI h.counts, CO h, tI h.letters, f]) := fun f hf => no_snd (e_fit g) hf
  have n1 := fb (.int 0) fun st => by rw [e_integer]; rfl
  have n2 := fb (.int 4) fun st => by rw [e_integer]; rfl
  have n3 := fb (.bool true) (int_bool _ _ _)
  have n4 := fb .none (int_none _ _)
  have n5 := fb (.str "1") (int_str _ _ _)
  have z : r = 0 ∨ r = 1 ∨ r = 2 ∨ r = 3 ∨ r = 4 := by omega
  rcases z with rfl | rfl | rfl | rfl | rfl
  · exact ⟨_, by simp [-modF_ii, -lenF_t, F__law_bad, m__law_bad, s6, k2, k3, er], n1⟩
  · exact ⟨_, by simp [-modF_ii, -lenF_t, F__law_bad, m__law_bad, s6, k2, k3, er], n2⟩
  · exact ⟨_, by simp [-modF_ii, -lenF_t, F__law_bad, m__law_bad, s6, k2, k3, er], n3⟩
  · exact ⟨_, by simp [-modF_ii, -lenF_t, F__law_bad, m__law_bad, s6, k2, k3, er], n4⟩
  · exact ⟨_, by simp [-modF_ii, -lenF_t, F__law_bad, m__law_bad, s6, k2, k3, er], n5⟩
theorem bad7 (a : Nat) : ∃ B, F__law_bad [.d h.d, vI 7, vI a] [] = .ok (.d B) [] ∧ NoHouse B := by
  obtain ⟨key, k1, k2, k3⟩ := bd g a
  have s6 := six h
  generalize h.d = HD at *
  have c1 := g.crs1
  have c3 := g.crs3
  have cl := g.let_
  have ne : ∀ {xs : List PyData}, 1 ≤ xs.length → xs ≠ [] := fun h e => by subst e; simp at h
  have m1 : ∀ st, mulF false (.d (CO h)) (vI 4) st = .ok (.d (.tuple (List.replicate (4 : Int).toNat (h.courses.map tI)).flatten)) st := fun st => mulF_tk (ne (by simp; omega)) (by decide) (by simp; omega)
  have m2 : ∀ st, mulF false (.d (tI h.letters)) (vI 4) st = .ok (.d (.tuple (List.replicate (4 : Int).toNat (h.letters.map nI)).flatten)) st := fun st => mulF_tk (ne (by simp; omega)) (by decide) (by simp; omega)
  have hl : 3 < (List.replicate (4 : Int).toNat (h.courses.map tI)).flatten.length := by
    simp [List.length_flatten]; omega
  generalize (List.replicate (4 : Int).toNat (h.courses.map tI)).flatten = X at *
  generalize (List.replicate (4 : Int).toNat (h.letters.map nI)).flatten = Y at *
  exact ⟨.tuple [h.sch, PL h, tI h.counts, .tuple X, .tuple Y, nI h.senders], by simp [-modF_ii, -lenF_t, F__law_bad, m__law_bad, s6, k2, k3, m1, m2], no_crs (e_fit g) (snd_ok g) hl⟩
theorem bad8 (a : Nat) : ∃ B, F__law_bad [.d h.d, vI 8, vI a] [] = .ok (.d B) [] ∧ NoHouse B := by
  obtain ⟨key, k1, k2, k3⟩ := bd g a
  have s6 := six h
  generalize h.d = HD at *
  have c1 := g.crs1
  have c3 := g.crs3
  have cl := g.let_
  have m2 : ∀ st, addF false (.d (tI h.letters)) (.d (.tuple [.int 1])) st = .ok (.d (.tuple (h.letters.map nI ++ [.int 1]))) st := fun st => by
    rw [addF_tt, if_pos (by simp; omega)]
  have hl : (h.letters.map nI ++ [PyData.int 1]).length ≠ (h.courses.map tI).length := by simp; omega
  generalize h.letters.map nI ++ [PyData.int 1] = Y at *
  exact ⟨_, by simp [-modF_ii, -lenF_t, -addF_tt, F__law_bad, m__law_bad, s6, k2, k3, m2], no_let (e_fit g) (snd_ok g) ⟨by simp; omega, by simp; omega⟩ hl⟩
end
end Lw

namespace Lw
open PySem PySem.Spec PyProof.Rows L2 Z
/-- one of a row exchanged -/
theorem mem_put {α : Type} {l : List α} {k : Nat} {x y : α} (h : y ∈ l.take k ++ [x] ++ l.drop (k + 1)) : y ∈ l ∨ y = x := by
  rcases List.mem_append.mp h with h | h
  · rcases List.mem_append.mp h with h | h
    · exact .inl (List.mem_of_mem_take h)
    · exact .inr (List.mem_singleton.mp h)
  · exact .inl (List.mem_of_mem_drop h)
theorem len_put {α : Type} {l : List α} {k : Nat} {x : α} (h : k < l.length) : (l.take k ++ [x] ++ l.drop (k + 1)).length = l.length := by
  simp; omega
section
variable {h : Hs} (g : Good h)
include g
theorem put_ev {xs : List PyData} (hl : xs.length ≤ 1000) (k : Nat) (b : PyData) : (∀ st, slF false (.d (.tuple xs)) none (some (k : Int)) st = .ok (.d (.tuple (xs.take k))) st) ∧ (∀ st, slF false (.d (.tuple xs)) (some ((k : Int) + 1)) none st = .ok (.d (.tuple (xs.drop (k + 1)))) st) ∧
    (∀ st, addF false (.d (.tuple (xs.take k))) (.d (.tuple [b])) st = .ok (.d (.tuple (xs.take k ++ [b]))) st) ∧ ∀ st, addF false (.d (.tuple (xs.take k ++ [b]))) (.d (.tuple (xs.drop (k + 1)))) st = .ok (.d (.tuple (xs.take k ++ [b] ++ xs.drop (k + 1)))) st := by
  refine ⟨fun st => ?_, fun st => ?_, fun st => ?_, fun st => ?_⟩
  · rw [slF_t, cut_on]
  · rw [slF_t, show (k : Int) + 1 = ((k + 1 : Nat) : Int) by omega, cut_no]
  · rw [addF_tt, if_pos (by simp; omega)]
  · rw [addF_tt, if_pos (by simp; omega)]
theorem let_bad {key : Nat} (hk : key < h.letters.length) {b : PyData} (hb : ∀ st, F_is_integer [.d b, vI 1, vI 3] st = .ok (vB false) st) : NoHouse (.tuple [h.sch, PL h, tI h.counts, CO h, .tuple ((h.letters.map nI).take key ++ [b] ++ (h.letters.map nI).drop (key + 1)), nI h.senders]) := by
  have c1 := g.crs1
  have c3 := g.crs3
  have cl := g.let_
  refine no_each (α := Nat) (e_fit g) (snd_ok g) ⟨by simp; omega, by simp; omega⟩ (by rw [len_put (by simpa using hk)]; simp; omega) (fun x => valB F_is_course [.d x, .d (tI h.counts)]) (fun x => valB F_is_integer [.d x, vI 1, vI 3]) (fun x hx st => ?_) (fun y hy st => ?_) ?_
  · obtain ⟨c, hc, rfl⟩ := List.mem_map.mp hx
    obtain ⟨q1, q2⟩ := g.crs c hc
    have := e_is_course q1 q2 (by have := g.cl; omega)
    rw [this, valB_ok this]
  · rcases mem_put hy with hy | rfl
    · obtain ⟨c, hc, rfl⟩ := List.mem_map.mp hy
      obtain ⟨b1, b2⟩ := g.let3 c hc
      have : ∀ st, F_is_integer [.d (nI c), vI 1, vI 3] st = .ok (vB true) st := fun st => e_int_ok (by omega) (by omega)
      rw [this, valB_ok this]
    · rw [hb, valB_ok hb]
  · have : ((h.letters.map nI).take key ++ [b] ++ (h.letters.map nI).drop (key + 1)).all (fun x => valB F_is_integer [.d x, vI 1, vI 3]) = false := by
      rw [List.all_append, List.all_append]
      have : ([b] : List PyData).all (fun x => valB F_is_integer [.d x, vI 1, vI 3]) = false := by
        simp [valB_ok hb]
      rw [this, Bool.and_false, Bool.false_and]
    rw [this, Bool.and_false]
theorem crs_bad {key : Nat} (hk : key < h.courses.length) {b : PyData} (hb : ∀ st, F_is_course [.d b, .d (tI h.counts)] st = .ok (vB false) st) : NoHouse (.tuple [h.sch, PL h, tI h.counts, .tuple ((h.courses.map tI).take key ++ [b] ++ (h.courses.map tI).drop (key + 1)), tI h.letters, nI h.senders]) := by
  have c1 := g.crs1
  have c3 := g.crs3
  have cl := g.let_
  have lp := len_put (x := b) (show key < (h.courses.map tI).length by simpa using hk)
  refine no_each (α := Nat) (e_fit g) (snd_ok g) ⟨by rw [lp]; simp; omega, by rw [lp]; simp; omega⟩ (by rw [lp]; simp; omega) (fun x => valB F_is_course [.d x, .d (tI h.counts)]) (fun x => valB F_is_integer [.d x, vI 1, vI 3]) (fun x hx st => ?_) (fun y hy st => ?_) ?_
  · rcases mem_put hx with hx | rfl
    · obtain ⟨c, hc, rfl⟩ := List.mem_map.mp hx
      obtain ⟨q1, q2⟩ := g.crs c hc
      have := e_is_course q1 q2 (by have := g.cl; omega)
      rw [this, valB_ok this]
    · rw [hb, valB_ok hb]
  · obtain ⟨c, hc, rfl⟩ := List.mem_map.mp hy
    obtain ⟨b1, b2⟩ := g.let3 c hc
    have : ∀ st, F_is_integer [.d (nI c), vI 1, vI 3] st = .ok (vB true) st := fun st => e_int_ok (by omega) (by omega)
    rw [this, valB_ok this]
  · have : ((h.courses.map tI).take key ++ [b] ++ (h.courses.map tI).drop (key + 1)).all (fun x => valB F_is_course [.d x, .d (tI h.counts)]) = false := by
      rw [List.all_append, List.all_append]
      have : ([b] : List PyData).all (fun x => valB F_is_course [.d x, .d (tI h.counts)]) = false := by
        simp [valB_ok hb]
      rw [this, Bool.and_false, Bool.false_and]
    rw [this, Bool.false_and]
theorem bad5 (a : Nat) : ∃ B, F__law_bad [.d h.d, vI 5, vI a] [] = .ok (.d B) [] ∧ NoHouse B := by
  obtain ⟨key, k1, k2, k3⟩ := bd g a
  obtain ⟨q, eq⟩ := dv a
  obtain ⟨r, hr, er⟩ := md q 4 (by decide)
  have er : ∀ st, modF (vI q) (vI 4) st = .ok (vI r) st := er
  have s6 := six h
  generalize h.d = HD at *
  have cl := g.let_
  have c3 := g.crs3
  have pe := fun b => put_ev g (xs := h.letters.map nI) (by simp; omega) key b
  have nb := fun b => let_bad g (key := key) (b := b) (by omega)
  have i1 := nb (.int 0) fun st => by rw [e_integer]; rfl
  have i2 := nb (.int 4) fun st => by rw [e_integer]; rfl
  have i3 := nb (.bool true) (int_bool _ _ _)
  have i4 := nb .none (int_none _ _)
  obtain ⟨p1, p2, p3, p4⟩ := pe (.int 0)
  obtain ⟨_, _, q3, q4⟩ := pe (.int 4)
  obtain ⟨_, _, r3, r4⟩ := pe (.bool true)
  obtain ⟨_, _, t3, t4⟩ := pe .none
  clear pe nb
  generalize (h.letters.map nI).take key ++ [PyData.int 0] ++ (h.letters.map nI).drop (key + 1) = Y1 at *
  generalize (h.letters.map nI).take key ++ [PyData.int 4] ++ (h.letters.map nI).drop (key + 1) = Y2 at *
  generalize (h.letters.map nI).take key ++ [PyData.bool true] ++ (h.letters.map nI).drop (key + 1) = Y3 at *
  generalize (h.letters.map nI).take key ++ [PyData.none] ++ (h.letters.map nI).drop (key + 1) = Y4 at *
  generalize (h.letters.map nI).take key ++ [PyData.int 0] = X1 at *
  generalize (h.letters.map nI).take key ++ [PyData.int 4] = X2 at *
  generalize (h.letters.map nI).take key ++ [PyData.bool true] = X3 at *
  generalize (h.letters.map nI).take key ++ [PyData.none] = X4 at *
  generalize (h.letters.map nI).take key = X at *
  generalize (h.letters.map nI).drop (key + 1) = Z at *
  have z : r = 0 ∨ r = 1 ∨ r = 2 ∨ r = 3 := by omega
  rcases z with rfl | rfl | rfl | rfl
  · exact ⟨_, by simp [-modF_ii, -lenF_t, -addF_tt, -slF_t, -fdivF_ii, F__law_bad, m__law_bad, s6, k2, k3, eq, er, p1, p2, p3, p4], i1⟩
  · exact ⟨_, by simp [-modF_ii, -lenF_t, -addF_tt, -slF_t, -fdivF_ii, F__law_bad, m__law_bad, s6, k2, k3, eq, er, p1, p2, q3, q4], i2⟩
  · exact ⟨_, by simp [-modF_ii, -lenF_t, -addF_tt, -slF_t, -fdivF_ii, F__law_bad, m__law_bad, s6, k2, k3, eq, er, p1, p2, r3, r4], i3⟩
  · exact ⟨_, by simp [-modF_ii, -lenF_t, -addF_tt, -slF_t, -fdivF_ii, F__law_bad, m__law_bad, s6, k2, k3, eq, er, p1, p2, t3, t4], i4⟩
end
end Lw

namespace Lw
open PySem PySem.Spec PyProof.Rows L2 Z
section
variable {h : Hs} (g : Good h)
include g
theorem bad4 (a : Nat) : ∃ B, F__law_bad [.d h.d, vI 4, vI a] [] = .ok (.d B) [] ∧ NoHouse B := by
  obtain ⟨key, k1, k2, k3⟩ := bd g a
  obtain ⟨q, eq⟩ := dv a
  obtain ⟨r, hr, er⟩ := md q 5 (by decide)
  have er : ∀ st, modF (vI q) (vI 5) st = .ok (vI r) st := er
  have s6 := six h
  generalize h.d = HD at *
  have c3 := g.crs3
  have cl := g.cl
  obtain ⟨c, hc⟩ : ∃ c, h.courses[key]? = some c := ⟨_, List.getElem?_eq_getElem k1⟩
  obtain ⟨clen, _⟩ := g.crs c (List.mem_of_getElem? hc)
  obtain ⟨ci, hci, hcl⟩ : ∃ ci : List Int, c.map nI = ci.map .int ∧ ci.length = c.length := ⟨c.map fun n : Nat => (n : Int), by rw [List.map_map]; rfl, by simp⟩
  obtain ⟨c0, cr, hcr⟩ : ∃ c0 cr, h.counts = c0 :: cr := by
    cases hq : h.counts with
    | nil => rw [hq] at cl; simp at cl
    | cons x y => exact ⟨x, y, rfl⟩
  have x7 : ∀ st, ixF (.d (CO h)) (vI key) st = .ok (.d (.tuple (ci.map .int))) st := fun st => by
    rw [ixF_t, List.map_map, Z.atI_nat, List.getElem?_map, hc, ← hci]; rfl
  have x6 : ∀ st, ixF (.d (tI h.counts)) (vI 0) st = .ok (vI (c0 : Int)) st := fun st => by
    simp [hcr]
  have e1 : ∀ st, slF false (.d (.tuple (ci.map .int))) none (some 1) st = .ok (.d (.tuple ((ci.take 1).map .int))) st := fun st => by
    rw [slF_t, show (1 : Int) = ((1 : Nat) : Int) from rfl, cut_on, List.map_take]
  have e2 : ∀ st, slF false (.d (.tuple (ci.map .int))) (some 1) none st = .ok (.d (.tuple ((ci.drop 1).map .int))) st := fun st => by
    rw [slF_t, show (1 : Int) = ((1 : Nat) : Int) from rfl, cut_no, List.map_drop]
  have a1 : ∀ st, addF false (.d (.tuple (ci.map .int))) (.d (.tuple [.int 0])) st = .ok (.d (.tuple ((ci ++ [0]).map .int))) st := fun st => by
    rw [addF_tt, if_pos (by simp; omega), List.map_append]; rfl
  have a2 : ∀ (z : Int) st, addF false (.d (.tuple [.int z])) (.d (.tuple ((ci.drop 1).map .int))) st = .ok (.d (.tuple ((z :: ci.drop 1).map .int))) st := fun z st => by
    rw [addF_tt, if_pos (by simp; omega)]; rfl
  have b1 := a2 c0
  have b2 := a2 (-1)
  clear a2
  have pe := fun b => put_ev g (xs := h.courses.map tI) (by simp; omega) key b
  have nb := fun b => crs_bad g (key := key) (b := b) k1
  have f1 : crsI (ci.take 1) h.counts = false := by
    unfold crsI
    rw [decide_eq_false (by simp; omega)]; rfl
  have f2 : crsI (ci ++ [0]) h.counts = false := by
    unfold crsI
    rw [decide_eq_false (by simp; omega)]; rfl
  have f3 : crsI ((c0 : Int) :: ci.drop 1) h.counts = false := by
    unfold crsI
    rw [hcr, List.zip_cons_cons, List.all_cons]
    have : decide ((c0 : Int) ≤ (c0 : Int) - 1) = false := decide_eq_false (by omega)
    simp only [this, Bool.and_false, Bool.false_and]
  have f4 : crsI ((-1 : Int) :: ci.drop 1) h.counts = false := by
    unfold crsI
    rw [hcr, List.zip_cons_cons, List.all_cons]
    have : decide ((0 : Int) ≤ -1) = false := by decide
    simp only [this, Bool.and_false, Bool.false_and]
  have i1 := nb (.tuple ((ci.take 1).map .int)) fun st => by rw [q_course (by simp; omega), f1]
  have i2 := nb (.tuple ((ci ++ [0]).map .int)) fun st => by rw [q_course (by simp; omega), f2]
  have i3 := nb (.tuple (((c0 : Int) :: ci.drop 1).map .int)) fun st => by rw [q_course (by simp; omega), f3]
  have i4 := nb (.tuple (((-1 : Int) :: ci.drop 1).map .int)) fun st => by rw [q_course (by simp; omega), f4]
  have i5 := nb .none (course_none _)
  obtain ⟨p1, p2, p3, p4⟩ := pe (.tuple ((ci.take 1).map .int))
  obtain ⟨_, _, q3, q4⟩ := pe (.tuple ((ci ++ [0]).map .int))
  obtain ⟨_, _, r3, r4⟩ := pe (.tuple (((c0 : Int) :: ci.drop 1).map .int))
  obtain ⟨_, _, t3, t4⟩ := pe (.tuple (((-1 : Int) :: ci.drop 1).map .int))
  obtain ⟨_, _, u3, u4⟩ := pe .none
  clear pe nb f1 f2 f3 f4
  generalize (ci.take 1).map PyData.int = V1 at *
  generalize (ci ++ [0]).map PyData.int = V2 at *
  generalize ((c0 : Int) :: ci.drop 1).map PyData.int = V3 at *
  generalize ((-1 : Int) :: ci.drop 1).map PyData.int = V4 at *
  generalize (ci.drop 1).map PyData.int = V5 at *
  generalize ci.map PyData.int = V0 at *
  generalize (h.courses.map tI).take key ++ [PyData.tuple V1] ++ (h.courses.map tI).drop (key + 1) = Y1 at *
  generalize (h.courses.map tI).take key ++ [PyData.tuple V2] ++ (h.courses.map tI).drop (key + 1) = Y2 at *
  generalize (h.courses.map tI).take key ++ [PyData.tuple V3] ++ (h.courses.map tI).drop (key + 1) = Y3 at *
  generalize (h.courses.map tI).take key ++ [PyData.tuple V4] ++ (h.courses.map tI).drop (key + 1) = Y4 at *
  generalize (h.courses.map tI).take key ++ [PyData.none] ++ (h.courses.map tI).drop (key + 1) = Y5 at *
  generalize (h.courses.map tI).take key ++ [PyData.tuple V1] = X1 at *
  generalize (h.courses.map tI).take key ++ [PyData.tuple V2] = X2 at *
  generalize (h.courses.map tI).take key ++ [PyData.tuple V3] = X3 at *
  generalize (h.courses.map tI).take key ++ [PyData.tuple V4] = X4 at *
  generalize (h.courses.map tI).take key ++ [PyData.none] = X5 at *
  generalize (h.courses.map tI).take key = X at *
  generalize (h.courses.map tI).drop (key + 1) = Z at *
  have z : r = 0 ∨ r = 1 ∨ r = 2 ∨ r = 3 ∨ r = 4 := by omega
  rcases z with rfl | rfl | rfl | rfl | rfl
  · exact ⟨_, by simp [-modF_ii, -lenF_t, -addF_tt, -slF_t, -fdivF_ii, -ixF_t, F__law_bad, m__law_bad, s6, k2, k3, eq, er, x7, x6, e1, e2, a1, b1, b2, p1, p2, p3, p4], i1⟩
  · exact ⟨_, by simp [-modF_ii, -lenF_t, -addF_tt, -slF_t, -fdivF_ii, -ixF_t, F__law_bad, m__law_bad, s6, k2, k3, eq, er, x7, x6, e1, e2, a1, b1, b2, p1, p2, q3, q4], i2⟩
  · exact ⟨_, by simp [-modF_ii, -lenF_t, -addF_tt, -slF_t, -fdivF_ii, -ixF_t, F__law_bad, m__law_bad, s6, k2, k3, eq, er, x7, x6, e1, e2, a1, b1, b2, p1, p2, r3, r4], i3⟩
  · exact ⟨_, by simp [-modF_ii, -lenF_t, -addF_tt, -slF_t, -fdivF_ii, -ixF_t, F__law_bad, m__law_bad, s6, k2, k3, eq, er, x7, x6, e1, e2, a1, b1, b2, p1, p2, t3, t4], i4⟩
  · exact ⟨_, by simp [-modF_ii, -lenF_t, -addF_tt, -slF_t, -fdivF_ii, -ixF_t, F__law_bad, m__law_bad, s6, k2, k3, eq, er, x7, x6, e1, e2, a1, b1, b2, p1, p2, u3, u4], i5⟩
theorem e_bad {w a : Nat} (hw : w < 9) : ∃ B, F__law_bad [.d h.d, vI w, vI a] [] = .ok (.d B) [] ∧ NoHouse B := by
  have : w = 0 ∨ w = 1 ∨ w = 2 ∨ w = 3 ∨ w = 4 ∨ w = 5 ∨ w = 6 ∨ w = 7 ∨ w = 8 := by omega
  rcases this with rfl | rfl | rfl | rfl | rfl | rfl | rfl | rfl | rfl
  · exact bad0 g a
  · exact bad1 g a
  · exact bad2 g a
  · exact bad3 g a
  · exact bad4 g a
  · exact bad5 g a
  · exact bad6 g a
  · exact bad7 g a
  · exact bad8 g a
end
end Lw

namespace Lw
open PySem PySem.Spec PyProof.Rows L2 Z
/-! the object -/
theorem ne_flds : (("origin" : Str) = "deeds") = False ∧ (("origin" : Str) = "stands") = False ∧ (("deeds" : Str) = "stands") = False ∧ (("origin" : Str) = "told") = False ∧ (("deeds" : Str) = "told") = False ∧ (("stands" : Str) = "told") = False := by
  refine ⟨?_, ?_, ?_, ?_, ?_, ?_⟩ <;> exact eq_false (by decide +kernel)
section
variable (a b c d : Val)
abbrev FS : List (Str × Val) := [("origin", a), ("deeds", b), ("stands", c), ("told", d)]
theorem lk_gen (x : Str) (i : Nat) (h : (["origin", "deeds", "stands", "told"] : List Str).findIdx? (x == ·) = some i) : List.lookup x (FS a b c d) = [a, b, c, d][i]? := by
  have key : ∀ (l : List (Str × Val)) (i : Nat), (l.map (·.1)).findIdx? (x == ·) = some i → List.lookup x l = (l.map (·.2))[i]? := by
    intro l
    induction l with
    | nil => intro i h; simp at h
    | cons p l ih =>
      intro i h
      obtain ⟨n, v⟩ := p
      rw [List.map_cons, List.findIdx?_cons] at h
      cases hb : x == n with
      | true =>
        rw [hb] at h
        simp at h
        subst h
        simp [List.lookup, hb]
      | false =>
        rw [hb] at h
        simp at h
        obtain ⟨j, hj, rfl⟩ := h
        have := ih j (by simpa using hj)
        simp [List.lookup, hb, this]
  exact key (FS a b c d) i h
theorem lk_stands : List.lookup ("stands" : Str) (FS a b c d) = some c := lk_gen a b c d _ 2 (by decide +kernel)
theorem lk_told : List.lookup ("told" : Str) (FS a b c d) = some d := lk_gen a b c d _ 3 (by decide +kernel)
theorem lk_deeds : List.lookup ("deeds" : Str) (FS a b c d) = some b := lk_gen a b c d _ 1 (by decide +kernel)
theorem lk_no (x : Str) (h : (["origin", "deeds", "stands", "told"] : List Str).contains x = false) : List.lookup x (FS a b c d) = none := by
  have key : ∀ (l : List (Str × Val)), (l.map (·.1)).contains x = false → List.lookup x l = none := by
    intro l
    induction l with
    | nil => intro _; rfl
    | cons p l ih =>
      intro h
      obtain ⟨n, v⟩ := p
      rw [List.map_cons, List.contains_cons, Bool.or_eq_false_iff] at h
      have := ih h.2
      simp [List.lookup, h.1, this]
  exact key (FS a b c d) h
end
theorem no_shows (a b c d : Val) : List.lookup ("shows" : Str) (FS a b c d) = none := lk_no a b c d _ (by decide +kernel)
theorem no_run (a b c d : Val) : List.lookup ("run" : Str) (FS a b c d) = none := lk_no a b c d _ (by decide +kernel)
theorem mul_any (x : PyData) {k : Int} (h : 1 ≤ k ∧ k ≤ 1000) (st : Sto) : mulF false (.d (.tuple [x])) (vI k) st = .ok (.d (.tuple (List.replicate k.toNat x))) st := by
  by_cases h1 : k = 1
  · subst h1; rw [mulF_t1]; rfl
  · rw [mulF_tk (by simp) (by omega) (by simp)]
    simp
theorem fold_max : ∀ (l : List Nat) (n : Nat), (∀ c ∈ l, 1 ≤ c ∧ c ≤ 4) → 1 ≤ n → n ≤ 4 → ∃ m : Nat, 1 ≤ m ∧ m ≤ 4 ∧ (l.map fun c : Nat => (c : Int)).foldl max (n : Int) = (m : Int)
  | [], n, _, h1, h2 => ⟨n, h1, h2, rfl⟩
  | c :: l, n, h, h1, h2 => by
    obtain ⟨c1, c2⟩ := h c (by simp)
    rw [List.map_cons, List.foldl_cons]
    by_cases q : n ≤ c
    · rw [Int.max_eq_right (by omega)]
      exact fold_max l c (fun x hx => h x (by simp [hx])) c1 c2
    · rw [Int.max_eq_left (by omega)]
      exact fold_max l n (fun x hx => h x (by simp [hx])) h1 h2
theorem e_first {h : Hs} (g : Good h) : ∃ s0 : PyData, F_first_state [.d h.d] [] = .ok (.d s0) [] := by
  have cl := g.cl
  have sn := g.snd
  have c1 := g.crs1
  have c3 := g.crs3
  have i2 : ∀ st, ixF (.d h.d) (vI 2) st = .ok (.d (tI h.counts)) st := fun st => by simp [Hs.d]
  have i3 : ∀ st, ixF (.d h.d) (vI 3) st = .ok (.d (CO h)) st := fun st => by simp [Hs.d]
  have i5 : ∀ st, ixF (.d h.d) (vI 5) st = .ok (.d (nI h.senders)) st := fun st => by simp [Hs.d]
  have i0 : ∀ st, ixF (.d h.d) (vI 0) st = .ok (.d h.sch) st := fun st => by simp [Hs.d]
  have j3 : ∀ st, ixF (.d h.sch) (vI 3) st = .ok (vS h.notes) st := fun st => by simp [Hs.sch]
  obtain ⟨c0, cr, hcr⟩ : ∃ c0 cr, h.counts = c0 :: cr := by
    cases hq : h.counts with
    | nil => rw [hq] at cl; simp at cl
    | cons x y => exact ⟨x, y, rfl⟩
  have hc := g.cnt
  rw [hcr] at hc
  obtain ⟨m, m1, m2, m3⟩ := fold_max cr c0 (fun c hx => hc c (by simp [hx])) (hc c0 (by simp)).1 (hc c0 (by simp)).2
  have mx : ∀ st, max1F [.d (tI h.counts)] st = .ok (vI (m : Int)) st := fun st => by
    have : tI h.counts = .tuple (.int (c0 : Int) :: (cr.map fun c : Nat => (c : Int)).map .int) := by
      rw [hcr, List.map_map]; rfl
    rw [this, max1F_t, m3]
  obtain ⟨nr, hn⟩ : ∃ nr, ∀ st, F_nothing_read [.d h.d] st = .ok (.d nr) st := by
    cases hb : h.notes == "first" with
    | true => exact ⟨.tuple [], fun st => by simp [-ixF_t, F_nothing_read, m_nothing_read, i0, j3, hb]⟩
    | false => exact ⟨.int 0, fun st => by simp [-ixF_t, F_nothing_read, m_nothing_read, i0, j3, hb]⟩
  have mm := fun x st => mul_any x (k := (m : Int)) (by omega) st
  have ms := fun x st => mul_any x (k := (h.senders : Int)) (by omega) st
  have mk := fun x st => mul_any x (k := (h.courses.length : Int)) (by omega) st
  have ln : ∀ st, lenF [.d (CO h)] st = .ok (vI (h.courses.length : Nat)) st := fun st => by simp
  exact ⟨_, by simp [-ixF_t, -lenF_t, F_first_state, m_first_state, i2, i3, i5, mx, hn, mm, ms, mk, ln]; rfl⟩
/-! a house made -/
def AL (n : Nat) (h : Hs) (s0 : PyData) : Sto := [.ins "House" (FS (.d h.d) (.c (n + 1)) (.c (n + 2)) (.c (n + 3))), .lst [], .lst [.d s0], .lst []]
theorem e_init {h : Hs} (g : Good h) {s0 : PyData} (h0 : F_first_state [.d h.d] [] = .ok (.d s0) []) (st : Sto) : F_House___init__ [.c st.length, .d h.d] (st ++ [.ins "House" []]) = .ok (.d .none) (st ++ AL st.length h s0) := by
  have nd := e_need g []
  obtain ⟨q1, q2, q3, q4, q5, q6⟩ := ne_flds
  simp [F_House___init__, m_House___init__, nd, h0, putZ, q1, q2, q3, q4, q5, q6, AL]
end Lw

namespace Lw
open PySem PySem.Spec PyProof.Rows L2 Z
/-! refused -/
theorem need_bad {B : PyData} (h : NoHouse B) (st : Sto) : F_need_house [.d B] st = .exc ⟨"BadHouse", []⟩ st := by
  have := h []
  simp [F_need_house, m_need_house, this]
theorem show_bad {B : PyData} (h : NoHouse B) (st : Sto) : F_show_house [.d B] st = .exc ⟨"BadHouse", []⟩ st := by
  have := need_bad h []
  simp [F_show_house, m_show_house, this]
theorem init_bad {B : PyData} (h : NoHouse B) (n : Nat) (st : Sto) : F_House___init__ [.c n, .d B] st = .exc ⟨"BadHouse", []⟩ st := by
  have := need_bad h []
  simp [F_House___init__, m_House___init__, this]
theorem e_refused {B : PyData} (h : NoHouse B) (w : Int) (hw : w = 0 ∨ w = 1) : ∃ st, F__law_refused [vI w, .d B] [] = .ok (vB true) st := by
  have s1 := show_bad h []
  have i1 := init_bad h
  have e : eqD (.list [.bool true, .bool true, .bool false]) (.list [.bool true, .bool true, .bool false]) = some true := by
    rw [eqD_list (n := 2) (by decide) rfl rfl]; rfl
  rcases hw with rfl | rfl
  · exact ⟨_, by simp [F__law_refused, m__law_refused, i1, hdlE, sufE, List.lookup_cons_self, mxLst, mxCons, mxNil, mxIsa, mxOr, e]; rfl⟩
  · exact ⟨_, by simp [F__law_refused, m__law_refused, s1, hdlE, sufE, List.lookup_cons_self, mxLst, mxCons, mxNil, mxIsa, mxOr, e]; rfl⟩
/-! asked -/
abbrev QS : List Str := ["order", "twice", "lost", "late"]
theorem qs_ok : ∀ q ∈ QS, inD (.str q) d_SHOWN_AT_ONCE = some true := by decide +kernel
abbrev NQ : List PyData := [.str "stuck", .str "left", .str "", .str "Order", .str "order ", .none, .int 0, .tuple [.str "order"]]
theorem need_q {q : Str} (h : q ∈ QS) (st : Sto) : F_need_question [vS q, .d d_SHOWN_AT_ONCE] st = .ok (.d .none) st := by
  have := qs_ok q h
  simp [F_need_question, m_need_question, this]
theorem need_nq {d : PyData} (h : d ∈ NQ) (st : Sto) : F_need_question [.d d, .d d_SHOWN_AT_ONCE] st = .exc ⟨"BadQuestion", []⟩ st := by
  have k : ∀ q ∈ (["stuck", "left", "", "Order", "order "] : List Str), inD (.str q) d_SHOWN_AT_ONCE = some false := by decide +kernel
  simp only [NQ, List.mem_cons, List.not_mem_nil, or_false] at h
  have s : ∀ q ∈ (["stuck", "left", "", "Order", "order "] : List Str), F_need_question [vS q, .d d_SHOWN_AT_ONCE] st = .exc ⟨"BadQuestion", []⟩ st := fun q hq => by
    have := k q hq
    simp [F_need_question, m_need_question, this]
  rcases h with rfl | rfl | rfl | rfl | rfl | rfl | rfl | rfl
  · exact s _ (by decide +kernel)
  · exact s _ (by decide +kernel)
  · exact s _ (by decide +kernel)
  · exact s _ (by decide +kernel)
  · exact s _ (by decide +kernel)
  · simp [F_need_question, m_need_question]
  · simp [F_need_question, m_need_question]
  · simp [F_need_question, m_need_question]
theorem lk_bq : List.lookup ("BadQuestion" : Str) [(("BadHouse" : Str), false), ("BadQuestion", true), ("BadLane", false)] = some true := by decide +kernel
theorem e_asked_nq {d : PyData} (hd : d ∈ NQ) (st : Sto) (h : Hs) (s0 : PyData) : F__law_asked [.c st.length, .d d] (st ++ AL st.length h s0) = .ok (vS "bad") (st ++ AL st.length h s0) := by
  have n := need_nq hd []
  have ns := no_shows (.d h.d) (.c (st.length + 1)) (.c (st.length + 2)) (.c (st.length + 3))
  simp [F__law_asked, m__law_asked, F_House_shows, m_House_shows, n, AL, ns, hdlE, sufE, lk_bq]
theorem e_asked {q : Str} (hq : q ∈ QS) (st : Sto) (h : Hs) (s0 : PyData) : F__law_asked [.c st.length, vS q] (st ++ AL st.length h s0) = .ok (vB false) (st ++ AL st.length h s0) := by
  have n := need_q hq []
  have ns := no_shows (.d h.d) (.c (st.length + 1)) (.c (st.length + 2)) (.c (st.length + 3))
  have l1 := lk_stands (.d h.d) (.c (st.length + 1)) (.c (st.length + 2)) (.c (st.length + 3))
  have l2 := lk_told (.d h.d) (.c (st.length + 1)) (.c (st.length + 2)) (.c (st.length + 3))
  have c : c_House_shows_1 [some (.c st.length), some (vS q), none, none] (st ++ AL st.length h s0) = .ok (.d (.list [])) (st ++ AL st.length h s0) := by
    simp [c_House_shows_1, mLc, AL, l1, l2, zipL, lcM]
  have a : anyF [.d (.list [])] (st ++ AL st.length h s0) = .ok (vB false) (st ++ AL st.length h s0) := anyF_l (l := [])
  have i : insK "House" "shows" (st ++ AL st.length h s0)[st.length]? = true := by simp [AL, ns]
  simp [F__law_asked, m__law_asked, F_House_shows, m_House_shows, n, i, c, a]
theorem e_run (st : Sto) (h : Hs) (s0 : PyData) : F_House_run [.c st.length] (st ++ AL st.length h s0) = .ok (.d (.list [])) (st ++ AL st.length h s0) := by
  have l1 := lk_deeds (.d h.d) (.c (st.length + 1)) (.c (st.length + 2)) (.c (st.length + 3))
  have c : c_House_run_1 [some (.c st.length), none] (st ++ AL st.length h s0) = .ok (.d (.list [])) (st ++ AL st.length h s0) := by
    simp [c_House_run_1, mLc, AL, l1, lcM]
  simp [F_House_run, m_House_run, c]
theorem same_bool (n : Nat) (x : Bool) : F__law_same (n + 1) [vB x, vB x] [] = .ok (vB true) [] := by
  show runF 3 (m__law_same (F__law_same n)) _ _ = _
  simp [m__law_same]
end Lw

namespace Lw
open PySem PySem.Spec PyProof.Rows L2 Z
theorem nq_at {d : Nat} (h : d < 8) : ∃ x ∈ NQ, atI (NQ.map Val.d) (d : Int) = some (.d x) := by
  have : d = 0 ∨ d = 1 ∨ d = 2 ∨ d = 3 ∨ d = 4 ∨ d = 5 ∨ d = 6 ∨ d = 7 := by omega
  rcases this with rfl | rfl | rfl | rfl | rfl | rfl | rfl | rfl <;> exact ⟨_, by simp [NQ], rfl⟩
theorem e_row {h : Hs} (g : Good h) {s0 : PyData} (h0 : F_first_state [.d h.d] [] = .ok (.d s0) []) (ns : List Int) (k : Nat) (st : Sto) : ∃ e3 e4 e5 e6, lb_law_2 [some (.s ns), some (.d h.d), some (vI k), none, none, none, none] st = .next [some (.s ns), some (.d h.d), some (vI k), e3, e4, e5, e6] (st ++ AL st.length h s0) := by
  obtain ⟨row, r1, r2, st1, e2⟩ := n_draws ((ns[2 + k]?).getD 0) [9, 60, 8] (by decide) (by decide)
  have e1 := e_cellS ns (2 + k) []
  rw [show ((2 + k : Nat) : Int) = 2 + (k : Int) by omega] at e1
  obtain ⟨x0, x1, x2, rfl⟩ : ∃ x0 x1 x2, row = [x0, x1, x2] := by
    match row, r1 with
    | [x0, x1, x2], _ => exact ⟨x0, x1, x2, rfl⟩
  have h1 := r2 0 x0 9 rfl rfl
  have h2 := r2 2 x2 8 rfl rfl
  simp only [List.map_cons, List.map_nil] at e2
  obtain ⟨B, b1, nb⟩ := e_bad g (w := x0) (a := x1) (by omega)
  obtain ⟨sa, ra⟩ := e_refused nb 0 (.inl rfl)
  obtain ⟨sb, rb⟩ := e_refused nb 1 (.inr rfl)
  have mk := e_init g h0 st
  obtain ⟨d, hd, dn⟩ := nq_at (show x2 < 8 by omega)
  have dx : ∀ st, ixF (.d (.list NQ)) (vI x2) st = .ok (.d d) st := fun st => by rw [ixF_l, dn]; rfl
  have an := e_asked_nq hd st h s0
  have ru := e_run st h s0
  obtain ⟨ss, sh⟩ := e_show_house g
  have ins : insK "House" "run" (st ++ AL st.length h s0)[st.length]? = true := by
    have := no_run (.d h.d) (.c (st.length + 1)) (.c (st.length + 2)) (.c (st.length + 3))
    simp [AL, this]
  have el : eqD (.list []) (.list []) = some true := by
    rw [eqD_list (n := 2) (by decide) rfl rfl]; rfl
  have lo : ∀ e3 e4 e6, ∃ o, l_law_1 [some (.s ns), some (.d h.d), some (vI k), e3, e4, some (.c st.length), e6] (st ++ AL st.length h s0) = .next [some (.s ns), some (.d h.d), some (vI k), e3, e4, some (.c st.length), o] (st ++ AL st.length h s0) := by
    intro e3 e4 e6
    have sm := same_bool 7 false
    have ev : ∀ q ∈ QS, lb_law_1 [some (.s ns), some (.d h.d), some (vI k), e3, e4, some (.c st.length), some (vS q)] (st ++ AL st.length h s0) = .next [some (.s ns), some (.d h.d), some (vI k), e3, e4, some (.c st.length), some (vS q)] (st ++ AL st.length h s0) := by
      intro q hq
      have as_ := e_asked hq st h s0
      generalize st ++ AL st.length h s0 = S at *
      simp [lb_law_1, as_, sm]
    have a1 := ev "order" (by decide +kernel)
    have a2 := ev "twice" (by decide +kernel)
    have a3 := ev "lost" (by decide +kernel)
    have a4 := ev "late" (by decide +kernel)
    generalize st ++ AL st.length h s0 = S at *
    exact ⟨some (vS "late"), by simp [l_law_1, sFor, Z.forM, a1, a2, a3, a4]⟩
  have kn : (∀ st, itF (.d (.list (NQ.map id))) st = .ok (NQ.map Val.d, none, st) st) := fun st => by simp
  obtain ⟨o, lo⟩ := lo (some (.d (.list [nI x0, nI x1, nI x2]))) (some (.d B)) (some (.d d))
  have al1 : ∀ st', mLst false (mCons (mD (.str "stuck")) (mCons (mD (.str "left")) (mCons (mD (.str "")) (mCons (mD (.str "Order")) (mCons (mD (.str "order ")) (mCons (mD .none) (mCons (mD (.int 0)) (mCons (mTup (mCons (mD (.str "order")) mNil)) mNil)))))))) [some (.s ns), some (.d h.d), some (vI k), some (.d (.list [nI x0, nI x1, nI x2])), some (.d B), some (.c st.length), none] st' = .ok (.d (.list NQ)) st' := fun st' => by
    simp
  have i0 : ∀ st, ixF (.d (.list [nI x0, nI x1, nI x2])) (vI 0) st = .ok (.d (nI x0)) st := fun st => by simp
  have i1 : ∀ st, ixF (.d (.list [nI x0, nI x1, nI x2])) (vI 1) st = .ok (.d (nI x1)) st := fun st => by simp
  have i2 : ∀ st, ixF (.d (.list [nI x0, nI x1, nI x2])) (vI 2) st = .ok (.d (nI x2)) st := fun st => by simp
  refine ⟨some (.d (.list [nI x0, nI x1, nI x2])), some (.d B), some (.c st.length), o, ?_⟩
  unfold lb_law_2
  generalize hm : mLst false (mCons (mD (.str "stuck")) (mCons (mD (.str "left")) (mCons (mD (.str "")) (mCons (mD (.str "Order")) (mCons (mD (.str "order ")) (mCons (mD .none) (mCons (mD (.int 0)) (mCons (mTup (mCons (mD (.str "order")) mNil)) mNil)))))))) = NM at *
  generalize st ++ AL st.length h s0 = S at *
  generalize NQ = Nq at *
  simp [-ixF_l, i0, i1, i2, e1, e2, b1, ra, rb, mk, al1, dx, an, ru, sh, ins, el, lo]
theorem law_ok (ns : List Int) (hn : ns.length ≤ 63) : ∃ st, F_law [.s ns] [] = .ok (.d (.bool true)) st := by
  obtain ⟨h, g, st1, e1⟩ := e_house ns
  obtain ⟨s0, h0⟩ := e_first g
  obtain ⟨env', st', q1, q2⟩ := forM_ex (st0 := []) (g := gN 2) (body := lb_law_2) (kill := [2, 3, 4, 5, 6])
    (fun i env st => env = [some (.s ns), some (.d h.d), none, none, none, none, none]) (rangeL 0 (if (1 : Int) < (if (ns.length : Int) - 2 < 40 then (ns.length : Int) - 2 else 40) then (if (ns.length : Int) - 2 < 40 then (ns.length : Int) - 2 else 40) else 1).toNat) 0 [some (.s ns), some (.d h.d), none, none, none, none, none] [] rfl (by
    rintro j x env st hx rfl
    obtain ⟨hj, rfl⟩ := rangeL_get hx
    rw [Int.zero_add]
    obtain ⟨e3, e4, e5, e6, e⟩ := e_row g h0 ns j st
    exact ⟨_, rfl, _, _, .inl e, rfl⟩)
  subst q2
  have l1 : l_law_2 [some (.s ns), some (.d h.d), none, none, none, none, none] [] = .next [some (.s ns), some (.d h.d), none, none, none, none, none] st' := by
    rw [← q1]
    simp [-rg1_i, l_law_2, sFor]
    rw [rg1_i, if_pos (by constructor <;> (repeat' split) <;> omega)]
    rfl
  refine ⟨st', ?_⟩
  simp [F_law, m_law, e1, l1]
end Lw

theorem PySem.Challenge.cw_lanescounted_k88_no_house_holds : PySem.Challenge.rw_lanescounted_k88_no_house.Holds :=
  holds Lw.law_ok
