import PyProof.Rows.All
import Wide.All
import OpenK.AllK
import Wide.FinOn
import KE.KStateDown
import Lean
import HandS.ForMost
import HandS.ForExc
import HandS.TupAny
import HandS.TupMul
import HandS.Defaults
import HandS.Wide
import HandS.WideBits
import HandS.IsInst
import HandS.Deep
import HandS.Style
import KE.GoesMore
import KE.DataFind
import HandS.Head0
import HandS.Head1
import HandS.Head2
import HandS.HeadEnd
import HandS.HeadHook1
import HandS.HeadHook2
import HandS.ExcInit
import HandS.ExcField
import HandS.ExcIs
import HandS.TryMany
import HandS.ClsMeth
import HandS.HotCalls
import HandS.Small
import KE.DataEq
import KE.DataMinMax
import PyProof.SumAnyB
import HandS.RaiseMore
import HandS.Flow
import HandS.Rev
import HandS.RevRange
import HandS.Zip
import KE.GoesEnum
import PyProof.Draws
import KE.GoesZip
import HandS.TryOnly
import HandS.Strs
import PyProof.SliceList
import PySem.Challenge.RW_gentlebends_k24_whole_pulls_are_pairings
set_option Elab.async false
set_option linter.all false
set_option maxRecDepth 100000
set_option maxHeartbeats 8000000
set_option exponentiation.threshold 20000
/-! GB0: tuples of which it is known that no dict hangs on them. -/
namespace L2
open PySem PySem.Spec PyProof.Rows HT
/-- the object of a new tuple -/
abbrev tOb (its : List Value) : Obj := { cls := .type "tuple", data := .seq its.toArray }
/-- a tuple without a dict: one made here, or one of the module -/
def SqN (K : PySem.W.Frag) (H : Hp) (a : Addr) (xs : List V) : Prop := (∃ o, H a = some (.frz o (.tup xs)) ∧ o.dict = none) ∨
  ∃ (o : Obj) (its : Array Value) (n : Nat), K.lookup a = some o ∧ o.cls = .type "tuple" ∧ o.dict = none ∧ o.data = .seq its n ∧ its.size ≤ sizeLine ∧ Vals xs its.toList
theorem SqN.t {K : PySem.W.Frag} {H : Hp} {a : Addr} {xs : List V} (h : SqN K H a xs) : SqT K H a xs := by
  rcases h with ⟨o, h, _⟩ | ⟨o, its, n, h1, h2, _, h3, h4, h5⟩
  · exact .inl (.inr ⟨o, h⟩)
  · exact .inr ⟨o, its, n, h1, h2, h3, h4, h5⟩
/-- a new tuple handed on -/
def nwT (xs : List V) (Q : VK) (H : Hp) : Prop := ∀ (p : Addr) (o : Obj), H p = none → o.dict = none → Q (.ref p) (upd H p (.frz o (.tup xs)))
section
variable {X : Cx} {pins : List (Addr × Obj)} {σ : St} {H : Hp} {s : Shared}
theorem tOb_ok {P : Program} {w : World} {h : Heap} {a : Addr} {vs : List V} {its : List Value} (z : vs.length ≤ sizeLine) (r : Vals vs its) (e : h.get? a = some (tOb its)) : ObjOk P w H h a (.frz (tOb its) (.tup vs)) :=
  ⟨e, z, its, r, _, e, rfl, _, rfl⟩
/-- laying one -/
theorem lay_tup {vs : List V} {its : List Value} {Q : VK} {k : Nat} (I : Inv X pins σ H s) (z : vs.length ≤ sizeLine) (r : Vals vs its) (q : nwT vs Q H) : EP X pins σ Q (.ref s.heap.objs.size) { s with heap := s.heap.push (tOb its), toks := k } := by
  refine ⟨.ref s.heap.objs.size, upd H s.heap.objs.size (.frz (tOb its) (.tup vs)), I.laid (t' := k) (fun b u e => Heap.get?_push_of_some _ e) (Nat.le_refl _) ?_, rfl, q _ _ (I.hok.fresh (Nat.le_refl _)) rfl⟩
  exact tOb_ok z r (Heap.get?_push_size _ rfl)
/-- no dict hangs on it -/
theorem Inv.noDict (I : Inv X pins σ H s) {a : Addr} {xs : List V} (h : SqN X.K H a xs) : ∃ o, s.heap.get? a = some o ∧ o.cls = .type "tuple" ∧ o.dict = none := by
  rcases h with ⟨o, h, d⟩ | ⟨o, its, n, h1, h2, d, _⟩
  · obtain ⟨e, _, _, _, o2, e2, c, _⟩ := I.hok a _ h
    rw [e] at e2
    cases e2
    exact ⟨o, e, c, d⟩
  · exact ⟨o, I.kIn a o h1, h2, d⟩
end
section
variable {X : Cx} {e : Expr} {es : List Expr} {te : TE} {t : TA} {pos : Pos}
def tTupN (t : TA) : TE := fun σ H Q => t σ H fun xs H1 => xs.length ≤ sizeLine ∧ nwT xs Q H1
theorem pe_tupN {x1} (h : PA X es t) : PE X (.Tuple es x1 pos) (tTupN t) := by
  refine ⟨fun pins s σ H Q I hq => wpAny_Tuple_spliced (thn (h.run pos pins s σ H _ I hq) fun us s1 ⟨xs, H1, I1, r, z, q⟩ => ⟨by rw [← r.length]; exact z, ?_⟩)⟩
  exact lay_tup (k := s1.toks) I1 z r q
/-- tuple(x) -/
theorem call_tuple_N : CallR X (.type "tuple") (fun xs H Q => ∃ p ys, xs = [.ref p] ∧ ((SqL X.K H p ys ∧ nwT ys Q H) ∨ (SqT X.K H p ys ∧ Q (.ref p) H))) := by
  rintro pins s σ H xs us Q I r ⟨p, ys, rfl, h⟩
  obtain ⟨u, rfl, rx⟩ := vals1 r
  cases rx
  rcases h with ⟨hq, q⟩ | ⟨hq, q⟩
  · obtain ⟨its, r', pl, hz⟩ := I.list hq
    have hlen := r'.length
    refine call_tuple_list pl.isList (fun h' kp => ?_) (by simp only [List.size_toArray] <;> omega)
    exact lay_tup (k := s.toks) (s := { s with heap := h' }) (I.kept (t' := s.toks) kp) hz r' q
  · obtain ⟨its, r', pl, hz⟩ := I.tuple hq
    exact call_tuple_same pl ⟨.ref p, H, I, rfl, q⟩
/-- t + u -/
def rCatN (K : PySem.W.Frag) : R2 := fun x y H Q => ∃ a b xs ys, x = .ref a ∧ y = .ref b ∧ SqT K H a xs ∧ SqT K H b ys ∧ xs.length + ys.length ≤ sizeLine ∧ (xs = [] → Q (.ref b) H) ∧ (xs ≠ [] → ys = [] → Q (.ref a) H) ∧ (xs ≠ [] → ys ≠ [] → nwT (xs ++ ys) Q H)
theorem op_catN : OpR X (binaryOp .Add) (rCatN X.K) := by
  rintro pins s σ H x y v u Q I rx ry ⟨a, b, xs, ys, rfl, rfl, ha, hb, hz, q0, q1, q2⟩
  cases rx
  cases ry
  obtain ⟨its, r1, p1, _⟩ := I.tuple ha
  obtain ⟨its2, r2, p2, _⟩ := I.tuple hb
  by_cases hx : xs = []
  · subst hx
    cases r1
    exact cat_tup0 p1 p2 ⟨.ref b, H, I, rfl, q0 rfl⟩
  · refine HT.cat_tup p1 p2 (fun z => hx (r1.nil_iff.mp z)) (fun z => ⟨.ref a, H, I, rfl, q1 hx (r2.nil_iff.mp z)⟩) (fun z => ?_) (by rw [← r1.length, ← r2.length]; exact hz)
    exact lay_tup (k := s.toks) I (by rw [List.length_append]; exact hz) (r1.append r2) (q2 hx fun w => z (r2.nil_iff.mpr w))
/-- t[lo:hi] -/
def rSlN (K : PySem.W.Frag) : V → Option Int → Option Int → Hp → VK → Prop := fun x lo hi H Q => ∃ a xs, x = .ref a ∧ SqT K H a xs ∧
  (HT.sIx xs.length 0 lo = 0 ∧ HT.sIx xs.length xs.length hi = xs.length → Q (.ref a) H) ∧ (¬ (HT.sIx xs.length 0 lo = 0 ∧ HT.sIx xs.length xs.length hi = xs.length) → nwT (cutV xs lo hi) Q H)
theorem sl_tupN : SlR X (rSlN X.K) := by
  rintro pins s σ H x v vl vu lo hi sl Q I rx hs pl pu ⟨a, xs, rfl, hx, q1, q2⟩
  cases rx
  obtain ⟨its, r, ht, hz⟩ := I.tuple hx
  have hlen : its.toArray.size = xs.length := by rw [List.size_toArray]; exact r.length.symm
  refine ⟨"tuple", _, PyProof.Rows.slot_tuple_getitem.lookup, ht.typeIs, ?_⟩
  by_cases hw : HT.sIx xs.length 0 lo = 0 ∧ HT.sIx xs.length xs.length hi = xs.length
  · exact getItem_tuple_whole ht hs pl pu (by rw [hlen]; exact hw) ⟨.ref a, H, I, rfl, q1 hw⟩
  · refine HT.getItem_tuple_cut ht hs pl pu (by rw [hlen]; exact hw) ?_ (by rw [hlen]; exact hz)
    rw [hlen]
    exact lay_tup (k := s.toks) I (Nat.le_trans (cutV_length xs lo hi) hz) ((r.drop (HT.sIx xs.length 0 lo)).take (HT.sIx xs.length xs.length hi - HT.sIx xs.length 0 lo)) (q2 hw)
theorem tuple_mul0 (l : Addr) (items : Array Value) (n : Nat) (dd : Option Addr) (sl : Array (Option Value)) (u : Tok) (c1 : (items.isEmpty || (0 : Int) == 1) = false) :
    Meets (Builtin.«tuple.__mul__» ⟨[.ref l, .int 0 u], []⟩) (fun _ R s => s.heap.get? l = some { cls := .type "tuple", dict := dd, data := .seq items n, slots := sl } ∧
      R (.ok (.ret (Value.ref s.heap.objs.size))) { s with heap := s.heap.push { cls := Value.type "tuple", data := Data.seq #[] }, toks := s.toks }) :=
  .of_wp fun prog w A R s h => by
    obtain ⟨hp, g, d, tk, os⟩ := s
    obtain ⟨hl, h⟩ := h
    have f1 := AutoSeq1.idx_int
    wp_walk using wpAny_loadPart' hl
    repeat (first
      | (refine wpAny_ite_false (decide_eq_false (by rw [c1]; exact Bool.false_ne_true)) ?_; wp_walk using wpAny_loadPart' hl))
    exact ⟨_, rfl, h⟩
/-- t * 0 -/
def rRepN0 (K : PySem.W.Frag) : R2 := fun x y H Q => ∃ l xs, x = .ref l ∧ y = .int 0 ∧ SqT K H l xs ∧ xs ≠ [] ∧ nwT [] Q H
theorem op_repN0 : OpR X (binaryOp .Mult) (rRepN0 X.K) := by
  rintro pins s σ H x y v u Q I rx ry ⟨l, xs, rfl, rfl, hT, hne, q⟩
  cases rx
  obtain ⟨tk, rfl⟩ := ry
  obtain ⟨its, r, ⟨⟨oc, od, dt, sl⟩, ho, c0, n, d0⟩, _⟩ := I.tuple hT
  simp only at c0 d0
  subst c0 d0
  have le := r.length
  have ne : its.toArray.isEmpty = false := by
    cases its with
    | nil => exact absurd (List.eq_nil_of_length_eq_zero le) hne
    | cons _ _ => rfl
  have g1 : (its.toArray.isEmpty || (0 : Int) == 1) = false := Bool.or_eq_false_iff.mpr ⟨ne, beq_eq_false_iff_ne.mpr (by omega)⟩
  have run := tuple_mul0 l its.toArray n od sl tk g1
  refine wpAny_binaryOp_repeat_ref (T := "tuple") (U := "int") (by decide) ⟨_, ho, rfl⟩ (fun s' => typeIs_int s' 0 tk) noFill_tuple_mul F.fills_int_mul F.slot_int_rmul repeat_tuple F.slot_int_index.lookup
    (call_meets F.slot_int_rmul (typeIs_int s 0 tk) F.entry_int_rmul (F.args_int_rmul_2 _ _) (int_rmul_tuple 0 tk l its.toArray n od sl) ⟨ho, rfl, ⟨_, ho, rfl⟩, call_meets F.slot_tuple_mul ⟨_, ho, rfl⟩ F.entry_tuple_mul (F.args_tuple_mul_2 _ _) run ⟨ho, ?_⟩⟩)
  exact lay_tup (k := s.toks) (its := []) (vs := []) I (Nat.zero_le _) .nil q
/-- t * k, k from 2 on -/
def rRepN (K : PySem.W.Frag) : R2 := fun x y H Q => ∃ l k xs, x = .ref l ∧ y = .int k ∧ SqT K H l xs ∧ xs ≠ [] ∧ 2 ≤ k ∧ k ≤ 1000 ∧ xs.length ≤ 1000 ∧ nwT (List.replicate k.toNat xs).flatten Q H
theorem op_repN : OpR X (binaryOp .Mult) (rRepN X.K) := by
  rintro pins s σ H x y v u Q I rx ry ⟨l, k, xs, rfl, rfl, hT, hne, k2, k3, few, q⟩
  cases rx
  obtain ⟨tk, rfl⟩ := ry
  obtain ⟨its, r, ⟨⟨oc, od, dt, sl⟩, ho, c0, n, d0⟩, _⟩ := I.tuple hT
  simp only at c0 d0
  subst c0 d0
  have le := r.length
  have ne : its.toArray.isEmpty = false := by
    cases its with
    | nil => exact absurd (List.eq_nil_of_length_eq_zero le) hne
    | cons _ _ => rfl
  have sz : its.toArray.size = xs.length := by rw [List.size_toArray, le]
  have big : (xs.length : Int) * k ≤ 1000 * 1000 := by
    have a := Int.mul_le_mul_of_nonneg_right (show (xs.length : Int) ≤ 1000 by omega) (show 0 ≤ k by omega)
    omega
  have fl : ∀ {α : Type} (zs : List α), zs.length = xs.length → (List.replicate k.toNat zs).flatten.length ≤ sizeLine := by
    intro α zs hz
    have a : k.toNat * zs.length ≤ 1000 * 1000 := Nat.mul_le_mul (by omega) (by omega)
    rw [PyProof.Rows.lm_len_rep_flat, sizeLine_eq]
    omega
  have g0 : (decide (k < -(2 ^ 63)) || decide (k ≥ 2 ^ 63)) = false := Bool.or_eq_false_iff.mpr ⟨decide_eq_false (by omega), decide_eq_false (by omega)⟩
  have g1 : (its.toArray.isEmpty || k == 1) = false := Bool.or_eq_false_iff.mpr ⟨ne, beq_eq_false_iff_ne.mpr (by omega)⟩
  have g2 : (decide (k ≤ 0) || its.toArray.isEmpty) = false := Bool.or_eq_false_iff.mpr ⟨decide_eq_false (by omega), ne⟩
  have g4 : Builtin.Tuple.tupleTooMany (((its.toArray.size : Nat) : Int) * k) = false := by
    unfold Builtin.Tuple.tupleTooMany
    rw [sizeLine_eq, sz]
    exact decide_eq_false (by omega)
  have run := tuple_mulW l its.toArray n od sl k tk g0 g1 g2 (by rw [sz]; omega) g4 (by rw [size_rep, List.size_toArray]; exact fl its le.symm)
  refine wpAny_binaryOp_repeat_ref (T := "tuple") (U := "int") (by decide) ⟨_, ho, rfl⟩ (fun s' => typeIs_int s' k tk) noFill_tuple_mul F.fills_int_mul F.slot_int_rmul repeat_tuple F.slot_int_index.lookup
    (call_meets F.slot_int_rmul (typeIs_int s k tk) F.entry_int_rmul (F.args_int_rmul_2 _ _) (int_rmul_tuple k tk l its.toArray n od sl) ⟨ho, rfl, ⟨_, ho, rfl⟩, call_meets F.slot_tuple_mul ⟨_, ho, rfl⟩ F.entry_tuple_mul (F.args_tuple_mul_2 _ _) run ⟨ho, ?_⟩⟩)
  rw [size_rep]
  exact lay_tup (k := s.toks) I (fl xs rfl) (r.rep k.toNat) q
end
/-! ### lists and tuples alike: k true says a tuple -/
def SqK (K : PySem.W.Frag) (k : Bool) (H : Hp) (a : Addr) (xs : List V) : Prop := match k with
  | true => SqT K H a xs
  | false => SqL K H a xs
def atK (k : Bool) (h : Heap) (it a : Addr) (i : Nat) : Prop := match k with
  | true => h.IsTupleIter it a i
  | false => h.IsListIter it a i
def isK (k : Bool) (h : Heap) (a : Addr) (items : Array Value) : Prop := match k with
  | true => h.IsTuple a items
  | false => h.IsList a items
section
variable {X : Cx} {pins : List (Addr × Obj)} {σ : St} {H : Hp} {s : Shared} {k : Bool} {a it : Addr} {xs ys : List V} {h h' : Heap} {i : Nat} {items : Array Value}
theorem Inv.sqk (I : Inv X pins σ H s) (q : SqK X.K k H a xs) : ∃ its : List Value, Vals xs its ∧ isK k s.heap a its.toArray := by
  cases k with
  | true =>
    obtain ⟨its, r, p, _⟩ := I.tuple q
    exact ⟨its, r, p⟩
  | false =>
    obtain ⟨its, r, p, _⟩ := I.list q
    exact ⟨its, r, p.isList⟩
theorem Inv.sqk_inj (I : Inv X pins σ H s) (q : SqK X.K k H a xs) (q' : SqK X.K k H a ys) : xs = ys := by
  cases k with
  | true => exact I.tuple_inj q q'
  | false => exact I.list_inj q q'
theorem isK_lt (p : isK k h a items) : a < h.objs.size := by
  cases k with
  | true => obtain ⟨_, e, _⟩ := p; exact Heap.lt_size e
  | false => obtain ⟨_, e, _⟩ := p; exact Heap.lt_size e
theorem atK_at (p : atK k h it a i) (e : ∀ o, h.get? it = some o → h'.get? it = some o) : atK k h' it a i := by
  cases k with
  | true => exact Heap.IsTupleIter.at p e
  | false => exact Heap.IsListIter.at p e
theorem isK_at (p : isK k h a items) (e : ∀ o, h.get? a = some o → h'.get? a = some o) : isK k h' a items := by
  cases k with
  | true => exact Heap.IsTuple.at p e
  | false => exact Heap.IsList.at p e
theorem atK_obj (p : atK k h it a i) : ∃ o, h.get? it = some o ∧ ∃ fs, o.data = .fields fs := by
  cases k with
  | true => obtain ⟨o, e, _, d⟩ := p; exact ⟨o, e, _, d⟩
  | false => obtain ⟨o, e, _, d⟩ := p; exact ⟨o, e, _, d⟩
theorem atK_ne (p : isK k h a items) (q : atK k h it a i) : a ≠ it := by
  cases k with
  | true =>
    obtain ⟨o, e, c, _⟩ := p
    obtain ⟨o2, e2, c2, _⟩ := q
    intro z
    subst z
    rw [e] at e2
    cases e2
    rw [c] at c2
    exact absurd (Value.type.inj c2) (by decide)
  | false =>
    obtain ⟨o, e, c, _⟩ := p
    obtain ⟨o2, e2, c2, _⟩ := q
    intro z
    subst z
    rw [e] at e2
    cases e2
    rw [c] at c2
    exact absurd (Value.type.inj c2) (by decide)
end
section
variable {prog : Program} {w : World} {A : Around} {k : Bool}
theorem drawK (hh : A.handled = none) (it t : Addr) (ne : t ≠ it) (items : Array Value) : Draws prog w A it [it, t] items.size (fun i v => items[i]? = some v) (fun i h => atK k h it t i ∧ isK k h t items) := by
  cases k with
  | true => exact Draws.tuple hh it t ne items
  | false => exact Draws.list hh it t ne items
theorem endK (hh : A.handled = none) (it t : Addr) (items : Array Value) {i : Nat} (hi : items.size ≤ i) : Draws prog w A it [it, t] i (fun _ _ => False) (fun j h => j = i ∧ atK k h it t j ∧ isK k h t items) where
  live := fun _ _ st => let ⟨o, ho, _⟩ := atK_obj st.2.1; ⟨o, ho⟩
  frame := fun _ _ _ st hk => ⟨st.1, atK_at st.2.1 fun o e => hk it (by simp) o e, isK_at st.2.2 fun o e => hk t (by simp) o e⟩
  item := fun j s Q E hj st hQ => absurd st.1 (by omega)
  done := fun s Q E st hE => by
    obtain ⟨_, p, q⟩ := st
    have l : items[i]? = none := by simp; exact hi
    cases k with
    | true => exact wpAny_nextOf_tuple_end hh p q l hE
    | false => exact wpAny_nextOf_list_end hh p q l hE
end
end L2

/-! GB1: pure data over the abstract heap; lifted readings. -/
namespace GB
open PySem PySem.Spec PyProof.Rows L2

/-- pure data: tuples are trees; lst: a list that nobody changes any more; ref: a list or dict that lives in the store -/
inductive D where
  | non
  | bl (b : Bool)
  | int (i : Int)
  | str (x : Str)
  | tup (xs : List D)
  | lst (xs : List D)
  | rls (xs : List D)
  | dct (kvs : List (Key × D))
  | ref (a : Addr)
  deriving Inhabited

inductive Cell where
  | lst (xs : List D)
  | dct (kvs : List (Key × D))

abbrev Sto := Addr → Option Cell
abbrev Dts := List (Option D)
abbrev FK := PySem.W.Frag
abbrev VS := L2.St

mutual
inductive Rep (K : FK) (F : Hp) : D → V → Prop
  | non : Rep K F .non .non
  | bl (b : Bool) : Rep K F (.bl b) (.bl b)
  | int (i : Int) : Rep K F (.int i) (.int i)
  | str (x : Str) : Rep K F (.str x) (.str x)
  | ref (a : Addr) : Rep K F (.ref a) (.ref a)
  | tup {p : Addr} {vs : List V} {ds : List D} : SqN K F p vs → RepL K F ds vs → Rep K F (.tup ds) (.ref p)
  | lst {p : Addr} {vs : List V} {ds : List D} : F p = some (.lst vs) → RepL K F ds vs → Rep K F (.lst ds) (.ref p)
  | rls {p : Addr} {vs : List V} {ds : List D} : SqL K F p vs → RepL K F ds vs → Rep K F (.rls ds) (.ref p)
  | dct {p : Addr} {kvs : List (Key × V)} {dvs : List (Key × D)} : F p = some (.dK kvs) → RepK K F dvs kvs → Rep K F (.dct dvs) (.ref p)
inductive RepL (K : FK) (F : Hp) : List D → List V → Prop
  | nil : RepL K F [] []
  | cons {d : D} {v : V} {ds : List D} {vs : List V} : Rep K F d v → RepL K F ds vs → RepL K F (d :: ds) (v :: vs)
inductive RepK (K : FK) (F : Hp) : List (Key × D) → List (Key × V) → Prop
  | nil : RepK K F [] []
  | cons {k : Key} {d : D} {v : V} {ds : List (Key × D)} {vs : List (Key × V)} : Rep K F d v → RepK K F ds vs → RepK K F ((k, d) :: ds) ((k, v) :: vs)
end

theorem sqN_mono {K : FK} {F G : Hp} {a : Addr} {xs : List V} (e : Same F G) (h : SqN K F a xs) : SqN K G a xs := by
  rcases h with ⟨o, q, d⟩ | q
  · exact .inl ⟨o, e _ _ q, d⟩
  · exact .inr q
theorem sqT_mono {K : FK} {F G : Hp} {a : Addr} {xs : List V} (e : Same F G) (h : SqT K F a xs) : SqT K G a xs := by
  rcases h with (q | ⟨o, q⟩) | q
  · exact .inl (.inl (e _ _ q))
  · exact .inl (.inr ⟨o, e _ _ q⟩)
  · exact .inr q
mutual
theorem Rep.mono {K : FK} {F G : Hp} (e : Same F G) : ∀ {d : D} {v : V}, Rep K F d v → Rep K G d v
  | _, _, .non => .non
  | _, _, .bl b => .bl b
  | _, _, .int b => .int b
  | _, _, .str b => .str b
  | _, _, .ref b => .ref b
  | _, _, .tup h t => .tup (sqN_mono e h) (RepL.mono e t)
  | _, _, .lst h t => .lst (e _ _ h) (RepL.mono e t)
  | _, _, .rls h t => .rls (e.seq h) (RepL.mono e t)
  | _, _, .dct h t => .dct (e _ _ h) (RepK.mono e t)
theorem RepL.mono {K : FK} {F G : Hp} (e : Same F G) : ∀ {d : List D} {v : List V}, RepL K F d v → RepL K G d v
  | _, _, .nil => .nil
  | _, _, .cons h t => .cons (Rep.mono e h) (RepL.mono e t)
theorem RepK.mono {K : FK} {F G : Hp} (e : Same F G) : ∀ {d : List (Key × D)} {v : List (Key × V)}, RepK K F d v → RepK K G d v
  | _, _, .nil => .nil
  | _, _, .cons h t => .cons (Rep.mono e h) (RepK.mono e t)
end

/-! ### lists of data -/
section
variable {K : FK} {F : Hp}
theorem RepL.length : ∀ {ds : List D} {vs : List V}, RepL K F ds vs → ds.length = vs.length
  | _, _, .nil => rfl
  | _, _, .cons _ t => by rw [List.length_cons, List.length_cons, RepL.length t]
theorem RepL.app : ∀ {ds es : List D} {vs us : List V}, RepL K F ds vs → RepL K F es us → RepL K F (ds ++ es) (vs ++ us)
  | _, _, _, _, .nil, h => h
  | _, _, _, _, .cons r t, h => .cons r (RepL.app t h)
theorem RepL.get : ∀ {ds : List D} {vs : List V} {i : Nat} {d : D}, RepL K F ds vs → ds[i]? = some d → ∃ v, vs[i]? = some v ∧ Rep K F d v
  | _, _, i, _, .nil, e => by simp at e
  | _, _, 0, _, .cons r t, e => by simp at e; subst e; exact ⟨_, rfl, r⟩
  | _, _, i + 1, _, .cons r t, e => by
    obtain ⟨v, h1, h2⟩ := RepL.get (i := i) t (by simpa using e)
    exact ⟨v, by simpa using h1, h2⟩
theorem RepL.get' : ∀ {ds : List D} {vs : List V} {i : Nat} {v : V}, RepL K F ds vs → vs[i]? = some v → ∃ d, ds[i]? = some d ∧ Rep K F d v
  | _, _, i, _, .nil, e => by simp at e
  | _, _, 0, _, .cons r t, e => by simp at e; subst e; exact ⟨_, rfl, r⟩
  | _, _, i + 1, _, .cons r t, e => by
    obtain ⟨v, h1, h2⟩ := RepL.get' (i := i) t (by simpa using e)
    exact ⟨v, by simpa using h1, h2⟩
theorem RepL.drop : ∀ {ds : List D} {vs : List V} (n : Nat), RepL K F ds vs → RepL K F (ds.drop n) (vs.drop n)
  | _, _, 0, h => h
  | _, _, _ + 1, .nil => .nil
  | _, _, n + 1, .cons _ t => RepL.drop n t
theorem RepL.take : ∀ {ds : List D} {vs : List V} (n : Nat), RepL K F ds vs → RepL K F (ds.take n) (vs.take n)
  | _, _, 0, _ => .nil
  | _, _, _ + 1, .nil => .nil
  | _, _, n + 1, .cons r t => .cons r (RepL.take n t)
theorem RepL.rev : ∀ {ds : List D} {vs : List V}, RepL K F ds vs → RepL K F ds.reverse vs.reverse
  | _, _, .nil => .nil
  | _, _, .cons r t => by
    rw [List.reverse_cons, List.reverse_cons]
    exact RepL.app (RepL.rev t) (.cons r .nil)
theorem RepL.set {d : D} {v : V} (r : Rep K F d v) : ∀ {ds : List D} {vs : List V} (n : Nat), RepL K F ds vs → RepL K F (ds.set n d) (vs.set n v)
  | _, _, _, .nil => .nil
  | _, _, 0, .cons _ t => .cons r t
  | _, _, n + 1, .cons q t => .cons q (RepL.set r n t)
theorem RepL.dropLast : ∀ {ds : List D} {vs : List V}, RepL K F ds vs → RepL K F ds.dropLast vs.dropLast
  | _, _, .nil => .nil
  | _, _, .cons r .nil => .nil
  | _, _, .cons r (.cons q t) => .cons r (RepL.dropLast (.cons q t))
theorem RepL.erase : ∀ {ds : List D} {vs : List V} (n : Nat), RepL K F ds vs → RepL K F (ds.eraseIdx n) (vs.eraseIdx n)
  | _, _, _, .nil => .nil
  | _, _, 0, .cons _ t => t
  | _, _, n + 1, .cons q t => .cons q (RepL.erase n t)
theorem RepL.rep {ds : List D} {vs : List V} (h : RepL K F ds vs) : ∀ n : Nat, RepL K F (List.replicate n ds).flatten (List.replicate n vs).flatten
  | 0 => .nil
  | n + 1 => by
    rw [List.replicate_succ, List.replicate_succ, List.flatten_cons, List.flatten_cons]
    exact RepL.app h (RepL.rep h n)
theorem RepL.atI {ds : List D} {vs : List V} {i : Int} {d : D} (h : RepL K F ds vs) (e : L2.atI ds i = some d) : ∃ v, L2.atI vs i = some v ∧ Rep K F d v := by
  unfold L2.atI at e ⊢
  rw [h.length] at e
  cases q : ixN vs.length i with
  | none => rw [q] at e; cases e
  | some j => rw [q] at e; exact h.get e
theorem RepL.ints : ∀ (ns : List Int), RepL K F (ns.map D.int) (ns.map V.int)
  | [] => .nil
  | n :: ns => .cons (.int n) (RepL.ints ns)
end

/-! ### the store against the heap -/
def CRep (K : FK) (F : Hp) : Cell → HO → Prop
  | .lst ds, .lst vs => RepL K F ds vs
  | .dct ds, .dK vs => RepK K F ds vs
  | _, _ => False
theorem CRep.mono {K : FK} {F G : Hp} (e : Same F G) {c : Cell} {o : HO} (h : CRep K F c o) : CRep K G c o := by
  cases c <;> cases o <;> first
    | exact False.elim h
    | exact RepL.mono e h
    | exact RepK.mono e h
theorem CRep.lst {K : FK} {F : Hp} {ds : List D} {o : HO} (h : CRep K F (.lst ds) o) : ∃ vs, o = .lst vs ∧ RepL K F ds vs := by
  cases o <;> first
    | exact False.elim h
    | exact ⟨_, rfl, h⟩
theorem CRep.dct {K : FK} {F : Hp} {ds : List (Key × D)} {o : HO} (h : CRep K F (.dct ds) o) : ∃ vs, o = .dK vs ∧ RepK K F ds vs := by
  cases o <;> first
    | exact False.elim h
    | exact ⟨_, rfl, h⟩

/-- Z: hidden (a list that is being made) -/
structure RelH (K : FK) (Z F : Hp) (S : Sto) (H : Hp) : Prop where
  fz : Same F H
  hid : ∀ p o, Z p = some o → F p = none ∧ S p = none ∧ H p = some o
  st : ∀ p c, S p = some c → F p = none ∧ ∃ o, H p = some o ∧ CRep K F c o
structure RelS (K : FK) (F : Hp) (δ : Dts) (σ : VS) : Prop where
  len : δ.length = σ.length
  at_ : ∀ (i : Nat) (d : D), δ[i]? = some (some d) → ∃ v, σ[i]? = some (some v) ∧ Rep K F d v
theorem RelS.mono {K : FK} {F G : Hp} {δ : Dts} {σ : VS} (h : RelS K F δ σ) (e : Same F G) : RelS K G δ σ :=
  ⟨h.len, fun i d q => let ⟨v, a, b⟩ := h.at_ i d q; ⟨v, a, b.mono e⟩⟩
theorem RelS.set {K : FK} {F : Hp} {δ : Dts} {σ : VS} {d : D} {v : V} (h : RelS K F δ σ) (r : Rep K F d v) (i : Nat) : RelS K F (δ.set i (some d)) (σ.set i (some v)) := by
  refine ⟨by rw [List.length_set, List.length_set, h.len], fun j e q => ?_⟩
  by_cases hj : i = j
  · subst hj
    by_cases hl : i < δ.length
    · rw [List.getElem?_set_self hl] at q
      cases q
      exact ⟨v, List.getElem?_set_self (by rw [← h.len]; exact hl), r⟩
    · rw [List.getElem?_eq_none (by rw [List.length_set]; omega)] at q
      cases q
  · rw [List.getElem?_set_ne hj] at q ⊢
    exact h.at_ j e q
/-- forgetting slots -/
theorem RelS.wipe {K : FK} {F : Hp} {δ : Dts} {σ : VS} (h : RelS K F δ σ) (i : Nat) : RelS K F (δ.set i none) (σ.set i none) := by
  refine ⟨by rw [List.length_set, List.length_set, h.len], fun j e q => ?_⟩
  by_cases hj : i = j
  · subst hj
    by_cases hl : i < δ.length
    · rw [List.getElem?_set_self hl] at q
      cases q
    · rw [List.getElem?_eq_none (by rw [List.length_set]; omega)] at q
      cases q
  · rw [List.getElem?_set_ne hj] at q ⊢
    exact h.at_ j e q

def supd (S : Sto) (p : Addr) (c : Cell) : Sto := fun q => if q = p then some c else S q
def sdel (S : Sto) (p : Addr) : Sto := fun q => if q = p then none else S q
@[simp] theorem supd_same {S : Sto} {p : Addr} {c : Cell} : supd S p c p = some c := if_pos rfl
theorem supd_ne {S : Sto} {p q : Addr} {c : Cell} (h : q ≠ p) : supd S p c q = S q := if_neg h
theorem sdel_ne {S : Sto} {p q : Addr} (h : q ≠ p) : sdel S p q = S q := if_neg h

section
variable {K : FK} {Z F : Hp} {S : Sto} {H : Hp}
theorem RelH.hz (R : RelH K Z F S H) {p : Addr} (h : H p = Option.none) : Z p = Option.none := by
  cases e : Z p with
  | none => rfl
  | some o => rw [(R.hid _ _ e).2.2] at h; cases h
theorem RelH.sz (R : RelH K Z F S H) {p : Addr} {c : Cell} (h : S p = some c) : Z p = Option.none := by
  cases e : Z p with
  | none => rfl
  | some o => rw [(R.hid _ _ e).2.1] at h; cases h
theorem RelH.none (R : RelH K Z F S H) {p : Addr} (h : H p = Option.none) : F p = Option.none ∧ S p = Option.none := by
  constructor
  · cases e : F p with
    | none => rfl
    | some o => rw [R.fz _ _ e] at h; cases h
  · cases e : S p with
    | none => rfl
    | some c =>
      obtain ⟨_, o, q, _⟩ := R.st p c e
      rw [q] at h; cases h
theorem same_upd {G : Hp} {p : Addr} {o : HO} (h : G p = none) : Same G (upd G p o) := fun b u e => by
  rw [upd_ne (ne_of_none e h)]; exact e
/-- a new thing that nobody will change -/
theorem RelH.newF (R : RelH K Z F S H) {p : Addr} {o : HO} (h : H p = Option.none) : Same F (upd F p o) ∧ RelH K Z (upd F p o) S (upd H p o) := by
  obtain ⟨f0, s0⟩ := R.none h
  have sf : Same F (upd F p o) := same_upd f0
  refine ⟨sf, fun b u e => ?_, fun q u e => ?_, fun q c e => ?_⟩
  rotate_left
  · have hq := ne_of_none e (R.hz h)
    obtain ⟨a, b, c⟩ := R.hid q u e
    exact ⟨by rw [upd_ne hq]; exact a, b, by rw [upd_ne hq]; exact c⟩
  rotate_left
  · by_cases hb : b = p
    · subst hb; rw [upd_same] at e ⊢; exact e
    · rw [upd_ne hb] at e ⊢; exact R.fz _ _ e
  · have hq : q ≠ p := fun z => by subst z; rw [s0] at e; cases e
    obtain ⟨a, u, b, c'⟩ := R.st q c e
    exact ⟨by rw [upd_ne hq]; exact a, u, by rw [upd_ne hq]; exact b, c'.mono sf⟩
/-- a new list or dict of the store -/
theorem RelH.newS (R : RelH K Z F S H) {p : Addr} {o : HO} {c : Cell} (h : H p = Option.none) (r : CRep K F c o) : RelH K Z F (supd S p c) (upd H p o) := by
  obtain ⟨f0, s0⟩ := R.none h
  refine ⟨fun b u e => ?_, fun q u e => ?_, fun q d e => ?_⟩
  rotate_left
  · have hq := ne_of_none e (R.hz h)
    obtain ⟨a, b, c⟩ := R.hid q u e
    exact ⟨a, by rw [supd_ne hq]; exact b, by rw [upd_ne hq]; exact c⟩
  rotate_left
  · rw [upd_ne (ne_of_none e f0)]; exact R.fz _ _ e
  · by_cases hq : q = p
    · subst hq
      rw [supd_same] at e; cases e
      exact ⟨f0, o, upd_same, r⟩
    · rw [supd_ne hq] at e
      obtain ⟨a, u, b, c'⟩ := R.st q d e
      exact ⟨a, u, by rw [upd_ne hq]; exact b, c'⟩
/-- a cell of the store is written -/
theorem RelH.write (R : RelH K Z F S H) {p : Addr} {o : HO} {c c' : Cell} (h : S p = some c) (r : CRep K F c' o) : RelH K Z F (supd S p c') (upd H p o) := by
  obtain ⟨f0, _, _, _⟩ := R.st p c h
  refine ⟨fun b u e => ?_, fun q u e => ?_, fun q d e => ?_⟩
  rotate_left
  · have hq := ne_of_none e (R.sz h)
    obtain ⟨a, b, c⟩ := R.hid q u e
    exact ⟨a, by rw [supd_ne hq]; exact b, by rw [upd_ne hq]; exact c⟩
  rotate_left
  · rw [upd_ne (ne_of_none e f0)]; exact R.fz _ _ e
  · by_cases hq : q = p
    · subst hq
      rw [supd_same] at e; cases e
      exact ⟨f0, o, upd_same, r⟩
    · rw [supd_ne hq] at e
      obtain ⟨a, u, b, c'⟩ := R.st q d e
      exact ⟨a, u, by rw [upd_ne hq]; exact b, c'⟩
/-- less is known of the store -/
theorem RelH.less (R : RelH K Z F S H) {S' : Sto} (h : ∀ p c, S' p = some c → S p = some c) : RelH K Z F S' H := by
  refine ⟨R.fz, fun p o e => ?_, fun p c e => R.st p c (h p c e)⟩
  obtain ⟨a, b, c⟩ := R.hid p o e
  refine ⟨a, ?_, c⟩
  cases q : S' p with
  | none => rfl
  | some c => rw [h p c q] at b; cases b
/-- a cell is frozen -/
theorem RelH.freeze (R : RelH K Z F S H) {p : Addr} {c : Cell} (h : S p = some c) : ∃ o, H p = some o ∧ CRep K (upd F p o) c o ∧ Same F (upd F p o) ∧ RelH K Z (upd F p o) (sdel S p) H := by
  obtain ⟨f0, o, ho, r⟩ := R.st p c h
  have sf : Same F (upd F p o) := same_upd f0
  refine ⟨o, ho, r.mono sf, sf, fun b u e => ?_, fun q u e => ?_, fun q d e => ?_⟩
  rotate_left
  · have hq := ne_of_none e (R.sz h)
    obtain ⟨a, b, c⟩ := R.hid q u e
    exact ⟨by rw [upd_ne hq]; exact a, by rw [sdel_ne hq]; exact b, c⟩
  rotate_left
  · by_cases hb : b = p
    · subst hb; rw [upd_same] at e; cases e; exact ho
    · rw [upd_ne hb] at e; exact R.fz _ _ e
  · have hq : q ≠ p := fun z => by
      subst z
      unfold sdel at e
      rw [if_pos rfl] at e; cases e
    rw [sdel_ne hq] at e
    obtain ⟨a, u, b, c'⟩ := R.st q d e
    exact ⟨by rw [upd_ne hq]; exact a, u, b, c'.mono sf⟩
end
end GB

/-! GB2: lifted readings, calls of defs. -/
namespace GB
open PySem PySem.Spec PyProof.Rows L2

/-- an exception: its class by name, its fields -/
structure Ex where
  cls : Str
  fs : List (Str × D)
/-- what is wanted of exceptions; the one that is handled -/
structure XP where
  x : Ex → Dts → Sto → Prop
  h : Option (Addr × Ex) := none
/-- none may come -/
abbrev XP0 : XP := ⟨fun _ _ _ => False, none⟩
abbrev EQ := D → Sto → Prop
abbrev MG := Str → Option Value

inductive RepF (K : FK) (F : Hp) : List (Str × D) → List (Str × V) → Prop
  | nil : RepF K F [] []
  | cons {k : Str} {d : D} {v : V} {ds : List (Str × D)} {vs : List (Str × V)} : Rep K F d v → RepF K F ds vs → RepF K F ((k, d) :: ds) ((k, v) :: vs)
def XRep (K : FK) (mg : MG) (F : Hp) (x : Ex) (cls : Value) (d : Option Addr) : Prop :=
  mg x.cls = some cls ∧ ((x.fs = [] ∧ d = none) ∨ ∃ dx vs, d = some dx ∧ F dx = some (.xd vs) ∧ RepF K F x.fs vs)
theorem RepF.mono {K : FK} {F G : Hp} (e : Same F G) : ∀ {ds : List (Str × D)} {vs : List (Str × V)}, RepF K F ds vs → RepF K G ds vs
  | _, _, .nil => .nil
  | _, _, .cons h t => .cons (h.mono e) (RepF.mono e t)
theorem XRep.mono {K : FK} {mg : MG} {F G : Hp} {x : Ex} {cls : Value} {d : Option Addr} (h : XRep K mg F x cls d) (e : Same F G) : XRep K mg G x cls d := by
  refine ⟨h.1, h.2.imp id ?_⟩
  rintro ⟨dx, vs, h1, h2, h3⟩
  exact ⟨dx, vs, h1, e _ _ h2, h3.mono e⟩

/-- what follows, of data and of values -/
def Ct (K : FK) (Z F : Hp) (P : EQ) (Q : VK) : Prop := ∀ F' H' S' d v, Same F F' → RelH K Z F' S' H' → Rep K F' d v → P d S' → Q v H'
theorem Ct.mono {K : FK} {Z F G : Hp} {P : EQ} {Q : VK} (h : Ct K Z F P Q) (e : Same F G) : Ct K Z G P Q := fun F' H' S' d v s => h F' H' S' d v (e.trans s)

abbrev WpE := Dts → Sto → EQ → Prop
abbrev WpT := Dts → Sto → (Bool → Sto → Prop) → Prop
abbrev WpA := Dts → Sto → (List D → Sto → Prop) → Prop
structure Pst where
  nx : Dts → Sto → Prop
  rt : EQ
  bk : Dts → Sto → Prop
  ct : Dts → Sto → Prop
abbrev WpS := Pst → Dts → Sto → Prop
abbrev WpG := D → Dts → Sto → (Dts → Sto → Prop) → Prop
abbrev WpGs := List D → Dts → Sto → (Dts → Sto → Prop) → Prop

def LE (K : FK) (Z F0 : Hp) (w : WpE) : TE := fun σ H Q => ∃ F δ S P, Same F0 F ∧ RelS K F δ σ ∧ RelH K Z F S H ∧ w δ S P ∧ Ct K Z F P Q
def LT (K : FK) (Z F0 : Hp) (w : WpT) : TT := fun σ H Q => ∃ F δ S P, Same F0 F ∧ RelS K F δ σ ∧ RelH K Z F S H ∧ w δ S P ∧
  ∀ F' H' S' b, Same F F' → RelH K Z F' S' H' → P b S' → Q b H'
def LA (K : FK) (Z F0 : Hp) (w : WpA) : TA := fun σ H Q => ∃ F δ S P, Same F0 F ∧ RelS K F δ σ ∧ RelH K Z F S H ∧ w δ S P ∧
  ∀ F' H' S' ds vs, Same F F' → RelH K Z F' S' H' → RepL K F' ds vs → P ds S' → Q vs H'
def Cs (K : FK) (Z F : Hp) (P : Dts → Sto → Prop) (Q : VS → Hp → Prop) : Prop := ∀ F' H' S' δ σ, Same F F' → RelS K F' δ σ → RelH K Z F' S' H' → P δ S' → Q σ H'
theorem Cs.mono {K : FK} {Z F G : Hp} {P : Dts → Sto → Prop} {Q : VS → Hp → Prop} (h : Cs K Z F P Q) (e : Same F G) : Cs K Z G P Q := fun F' H' S' d v s => h F' H' S' d v (e.trans s)
def LS (K : FK) (Z F0 : Hp) (w : WpS) : TS := fun E σ H => ∃ F δ S P, Same F0 F ∧ RelS K F δ σ ∧ RelH K Z F S H ∧ w P δ S ∧
  Cs K Z F P.nx E.nx ∧ Ct K Z F P.rt E.rt ∧ Cs K Z F P.bk E.bk ∧ Cs K Z F P.ct E.ct
def LG (K : FK) (Z F0 : Hp) (w : WpG) : TG := fun v σ H Q => ∃ F δ S P d, Same F0 F ∧ RelS K F δ σ ∧ RelH K Z F S H ∧ Rep K F d v ∧ w d δ S P ∧ Cs K Z F P Q
def LGs (K : FK) (Z F0 : Hp) (w : WpGs) : TGs := fun vs σ H Q => ∃ F δ S P ds, Same F0 F ∧ RelS K F δ σ ∧ RelH K Z F S H ∧ RepL K F ds vs ∧ w ds δ S P ∧ Cs K Z F P Q

theorem PE_imp {X : Cx} {e : Expr} {t t' : TE} (h : PE X e t) (i : ∀ σ H Q, t' σ H Q → t σ H Q) : PE X e t' := ⟨fun pins s σ H Q I q => h.run pins s σ H Q I (i σ H Q q)⟩
theorem PT_imp {X : Cx} {e : Expr} {t t' : TT} (h : PT X e t) (i : ∀ σ H Q, t' σ H Q → t σ H Q) : PT X e t' := ⟨fun pins s σ H Q I q => h.run pins s σ H Q I (i σ H Q q)⟩
theorem PW_imp {X : Cx} {e : Expr} {t t' : TT} (h : PW X e t) (i : ∀ σ H Q, t' σ H Q → t σ H Q) : PW X e t' := ⟨fun wh pins s σ H Q I q => h.run wh pins s σ H Q I (i σ H Q q)⟩
theorem PA_imp {X : Cx} {e : List Expr} {t t' : TA} (h : PA X e t) (i : ∀ σ H Q, t' σ H Q → t σ H Q) : PA X e t' := ⟨fun pos pins s σ H Q I q => h.run pos pins s σ H Q I (i σ H Q q)⟩
theorem PS_imp {X : Cx} {e : Stmt} {t t' : TS} (h : PS X e t) (i : ∀ D σ H, t' D σ H → t D σ H) : PS X e t' := ⟨fun pins s σ H Q I q => h.run pins s σ H Q I (i Q σ H q)⟩
theorem PSs_imp {X : Cx} {e : List Stmt} {t t' : TS} (h : PSs X e t) (i : ∀ D σ H, t' D σ H → t D σ H) : PSs X e t' := ⟨fun pins s σ H Q I q => h.run pins s σ H Q I (i Q σ H q)⟩
theorem PG_imp {X : Cx} {e : Expr} {t t' : TG} (h : PG X e t) (i : ∀ v σ H Q, t' v σ H Q → t v σ H Q) : PG X e t' := ⟨fun pins s σ H v u Q I r q => h.run pins s σ H v u Q I r (i v σ H Q q)⟩
theorem PGs_imp {X : Cx} {e : List Expr} {t t' : TGs} (h : PGs X e t) (i : ∀ v σ H Q, t' v σ H Q → t v σ H Q) : PGs X e t' := ⟨fun pins s σ H v u Q I r q => h.run pins s σ H v u Q I r (i v σ H Q q)⟩

/-- what is wanted of an exception, of data -/
def LX (K : FK) (mg : MG) (Z F0 : Hp) (xq : XP) : WX := fun cls d σ H => ∃ F δ S x, Same F0 F ∧ RelS K F δ σ ∧ RelH K Z F S H ∧ XRep K mg F x cls d ∧ xq.x x δ S

/-! ### a def's promise, of data -/
abbrev Spec := List D → Sto → EQ → (Ex → Sto → Prop) → Prop
def LSp (K : FK) (mg : MG) (sp : Spec) : Sp := fun vs H Q E => ∃ Z F S ds P U, RelH K Z F S H ∧ RepL K F ds vs ∧ sp ds S P U ∧ Ct K Z F P Q ∧
  ∀ F' H' S' x cls d, Same F F' → RelH K Z F' S' H' → XRep K mg F' x cls d → U x S' → E cls d H'

/-- as FnOk, where no repr is under way -/
structure FOk (P : Program) (w : World) (K : FK) (mg : MG) (base : Heap) (k : Nat) (f : Addr) (fd : FuncData) (ps : List Str) (sp : Sp) : Prop where
  len : ∀ vs H Q E, sp vs H Q E → vs.length = ps.length
  run : ∀ (A : Around) (outer : List Env) (s : Shared) (H : Hp) (args : Args) (us : List Value) (vs : List V) (Q : VK) (E : XK),
    Room k A → A.guards = some [] → Env0 P w K mg base A outer s H → BindsTo s fd args (ps.zip us) → Vals vs us → sp vs H Q E →
    codeAny (model P w) A (.call (.ref f) args) (CR (L2.CX P w) outer P w H s Q E) s
theorem FOk.up {P : Program} {w : World} {K : FK} {mg : MG} {base : Heap} {j k : Nat} {f : Addr} {fd : FuncData} {ps : List Str} {sp : Sp} (h : FOk P w K mg base j f fd ps sp) (le : j ≤ k) : FOk P w K mg base k f fd ps sp :=
  ⟨h.len, fun A outer s H args us vs Q E r => h.run A outer s H args us vs Q E (r.mono le)⟩
theorem FOk.weak {P : Program} {w : World} {K : FK} {mg : MG} {base : Heap} {k : Nat} {f : Addr} {fd : FuncData} {ps : List Str} {sp sp' : Sp} (h : FOk P w K mg base k f fd ps sp) (i : ∀ vs H Q E, sp' vs H Q E → sp vs H Q E) : FOk P w K mg base k f fd ps sp' :=
  ⟨fun vs H Q E q => h.len vs H Q E (i _ _ _ _ q), fun A outer s H args us vs Q E r g e b v q => h.run A outer s H args us vs Q E r g e b v (i _ _ _ _ q)⟩

/-- the callee runs -/
theorem run_g {X : Cx} {W : WX} {k : Nat} {f : Addr} {fd : FuncData} {ps : List Str} {sp : Sp} {pins : List (Addr × Obj)} {σ : VS} {H : Hp} {s : Shared} {Q : VK} {us : List Value} {vs : List V}
    (F : FOk X.prog X.w X.K X.mg X.base k f fd ps sp) (hr : Room k X.A) (hg : X.A.guards = some []) (hb : Binds X.K fd ps []) (tk : Takes X W)
    (I : Inv X pins σ H s) (r : Vals vs us) (h : sp vs H Q (WE W σ)) : wpAny (model X.prog X.w) X.A (call (.ref f) us) (EP X pins σ Q) X.xe s := by
  have hl : us.length = ps.length := r.length.symm.trans (F.len _ _ _ _ h)
  have b : BindsTo s fd ⟨us, []⟩ (ps.zip us) := by
    have z := hb s us I.kIn (by rw [List.append_nil]; exact hl)
    rwa [List.append_nil] at z
  refine wpAny_call (codeAny_mono (F.run X.A X.stack s H _ us vs Q (WE W σ) hr hg I.env0 b r h) ?_)
  intro r s' hq
  cases r with
  | error e => exact passAt tk σ pins H s e s' I hq
  | ok fl =>
    cases fl with
    | ret u => exact I.after hq
    | next => exact absurd hq id
    | brk => exact absurd hq id
    | cont => exact absurd hq id

/-- f(a, ..) -/
theorem pe_callG {X : Cx} {W : WX} {k : Nat} {f : Addr} {fd : FuncData} {ps : List Str} {sp : Sp} {x : Str} {p pos : Pos} {e : Expr} {es : List Expr} {t : TA}
    (F : FOk X.prog X.w X.K X.mg X.base k f fd ps sp) (hr : Room k X.A) (hg : X.A.guards = some []) (hb : Binds X.K fd ps []) (tk : Takes X W)
    (gx : Gl X x) (hm : X.mg x = some (.ref f)) (hk : PySem.W.keepIn X.K (.ref f) = true) (ha : PA X (e :: es) t) (hdb : (x == ("__debug__" : Str)) = false)
    (h1 : starEach (e :: es) X.env = (false, eval e X.env) :: starEach es X.env) (h2 : (backTo pos (starEach es X.env)).any (·.1) = false) :
    PE X (.Call (.Name x p) (e :: es) [] pos) (fun σ H Q => t σ H fun vs H1 => sp vs H1 Q (WE W σ)) := by
  refine ⟨fun pins s σ H Q I h => wpAny_Call_Name_kw (ld_glob I gx hm ?_ hdb)⟩
  exact PySem.W.callWith_K (h₀ := X.base) I.ok.mod.kin hk (thn (ha.run pos pins s σ H _ I h) fun us s1 ⟨vs, H1, I1, r1, q1⟩ => ⟨I1.kIn, run_g F hr hg hb tk I1 r1 q1⟩) h1 h2
theorem pe_callG0 {X : Cx} {W : WX} {k : Nat} {f : Addr} {fd : FuncData} {ps : List Str} {sp : Sp} {x : Str} {p pos : Pos}
    (F : FOk X.prog X.w X.K X.mg X.base k f fd ps sp) (hr : Room k X.A) (hg : X.A.guards = some []) (hb : Binds X.K fd ps []) (tk : Takes X W)
    (gx : Gl X x) (hm : X.mg x = some (.ref f)) (hk : PySem.W.keepIn X.K (.ref f) = true) (hdb : (x == ("__debug__" : Str)) = false) :
    PE X (.Call (.Name x p) [] [] pos) (fun σ H Q => sp [] H Q (WE W σ)) := by
  refine ⟨fun pins s σ H Q I h => wpAny_Call_Name_kw (ld_glob I gx hm ?_ hdb)⟩
  exact PySem.W.callWith_K0 I.kIn hk (run_g (us := []) F hr hg hb tk I .nil h)

/-! ### a def by its body -/
theorem guards_deeper {A : Around} {env : Env} (h : A.guards = some []) : (A.deeper env).guards = some [] := by
  first
    | exact h
    | (unfold Around.deeper; exact h)
    | (simp [Around.deeper, h])

theorem def_by_body {P : Program} {w : World} {K : FK} {mg : MG} {base : Heap} {x qual : Str} {params : Arguments} {body : List Stmt} {scope : Scope} {f : Addr} {fd : FuncData} {N ps : List Str} {k : Nat} {sp : Sp}
    (F : FunD K x qual params body scope [] [] f fd) (S : FnScope N ps scope) (len : ∀ vs H Q E, sp vs H Q E → vs.length = ps.length)
    (hb : ∀ (cdv : Value) (A : Around) (outer : List Env) (s : Shared) (H : Hp) (vs : List V) (Q : VK) (E : XK),
      Room k (A.deeper (envOfC qual scope s.heap.objs.size f cdv)) → (A.deeper (envOfC qual scope s.heap.objs.size f cdv)).guards = some [] → sp vs H Q E →
      ∃ t, PSs (cxOf (L2.CX P w) P w K mg base N qual scope f cdv A outer s H E) body t ∧ t { nx := fun _ H' => Q .non H', rt := Q } (start N vs) H) :
    FOk P w K mg base (k + 1) f fd ps sp := by
  obtain ⟨oc, od, dV, kV, doc, pm, an, cdv, ct, osl, rfl, lk, hcd, hD, hK⟩ := F.ex
  refine ⟨len, ?_⟩
  intro A outer s H args us vs Q E hr hg e0 bd r hsp
  have hl := len _ _ _ _ hsp
  have kin : K.In s.heap := e0.mod.kin.keeps (fun b o e => (e0.bs b o e).1)
  have lim := e0.mod.nolimit.keeps (fun b o e => (e0.bs b o e).1)
  have par : ∀ y ∈ ps.zip us, scope.names.lookup y.1 = some .local ∨ (scope.names.lookup y.1 = some .cell ∧ ((cellsFrom (s.heap.objs.size + 1) scope.names []).lookup y.1).isSome = true) := by
    rintro ⟨n, v⟩ hy
    cases S.par n (List.of_mem_zip hy).1 with
    | inl q => exact .inl q
    | inr q => exact .inr ⟨q, PySem.W.cellsFrom_some _ _ _ (.inl q)⟩
  refine codeAny_call_function hr.depth (kin _ _ lk) rfl S.co S.gen rfl (PySem.W.codeRec_of kin hcd) (bd _ _ _ _ ?_)
  refine wpAny_newFunctionEnv_cells S.kind par ?_
  intro env he s1 c
  subst he
  refine ⟨lim.keeps c.toInCall.keep, codeAny_func ?_⟩
  obtain ⟨t, ht, hq⟩ := hb cdv A outer s H vs Q E (hr.deeper _) (guards_deeper hg) hsp
  have I := inv_start (CX := L2.CX P w) (E := E) (qual := qual) (f := f) (cd := cdv) S hr.hd e0 hl r c
  refine wpAny_mono (ht.run [] s1 (start N vs) H _ I hq) ?_ (fun _ _ z => z)
  intro fl s' hs
  cases fl with
  | ret u =>
    obtain ⟨v, σ', H', J, rv, q⟩ := hs
    exact ⟨v, H', J.os, J.bare, J.base, J.hok, rv, q⟩
  | next =>
    obtain ⟨σ', H', J, q⟩ := hs
    exact ⟨.non, H', J.os, J.bare, J.base, J.hok, rfl, q⟩
  | brk =>
    obtain ⟨_, _, _, q⟩ := hs
    exact absurd q id
  | cont =>
    obtain ⟨_, _, _, q⟩ := hs
    exact absurd q id
end GB

/-! GBx1: own exceptions: classes, their making. -/
namespace GB
open PySem PySem.Spec PyProof.Rows L2

/-- the fields of an own exception -/
def exFs (c : Str) : List Str :=
  if c = "NoText" then ["at"] else
  if c = "NoPlace" ∨ c = "NoPoint" ∨ c = "Twice" then ["place"] else
  if c = "NoCut" ∨ c = "NoSmooth" ∨ c = "NoShares" ∨ c = "NoKnot" then ["number"] else
  if c = "NoTask" ∨ c = "NoPaper" ∨ c = "NoKnots" ∨ c = "NoSheet" then ["word", "number"] else []
/-- is a class under the other -/
def subC (n m : Str) : Bool := decide (n = m) || (decide (m = "BendError") || decide (m = "ValueError"))
abbrev exT : Value := .type "type"
def oexB (K : FK) (C : Addr) : Bool := match K.lookup C with
  | some ⟨.type "type", _, .cls cd, sl⟩ => (match cd.mro, sl.toList with
    | .ref C' :: bm, [_, _, _, _, some (.builtin n), _] => C' == C && n == "ValueError.__new__" && !cd.hasDel && cd.hasDict && PySem.HandSPX.refsVE bm
    | _, _ => false)
  | _ => false
theorem oexB_ok {K : FK} {C : Addr} (q : oexB K C = true) : ∃ nm q N bs bm sn sub ab col dd k0 k1 k2 k3 k5, K.lookup C = some (excClassObj nm q C N bs bm true sn sub ab col dd k0 k1 k2 k3 k5 "ValueError.__new__") ∧ PySem.HandSPX.refsVE bm = true := by
  unfold oexB at q
  split at q
  · rename_i dd cd sl ho
    split at q
    · rename_i C' bm k0 k1 k2 k3 n k5 hm hs
      simp only [Bool.and_eq_true, beq_iff_eq, Bool.not_eq_true'] at q
      obtain ⟨⟨⟨⟨rfl, rfl⟩, hdel⟩, hdi⟩, ht⟩ := q
      obtain ⟨nm, bs, mro, ns, qn, hd, sn, sub, ab, col, del⟩ := cd
      dsimp only at hm hdel hdi
      subst hm hdel hdi
      have hsl : sl = #[k0, k1, k2, k3, some (.builtin "ValueError.__new__"), k5] := by
        obtain ⟨l⟩ := sl
        simp only at hs
        rw [hs]
      subst hsl
      exact ⟨nm, qn, ns, bs, bm, sn, sub, ab, col, dd, k0, k1, k2, k3, k5, ho, ht⟩
    · cases q
  · cases q
/-- what the text says of a class of exceptions -/
structure ExC (K : FK) (ct : List Str) (n : Str) : Prop where
  kp : PySem.W.keepIn K (.ref (He.ga K n)) = true
  xf : XfC K (He.ga K n)
  ec : ExcC K (He.ga K n)
  ty : PySem.W.typeIn K (.ref (He.ga K n)) = some exT
  nof : ∀ f ∈ exFs n, PySem.W.findIn K (.ref (He.ga K n)) f = some none
  sub : ∀ m ∈ ct, PySem.W.kitOne K (.ref (He.ga K n)) (.ref (He.ga K m)) = some (subC n m) ∧ PySem.W.exmOne K (.ref (He.ga K n)) (.ref (He.ga K m)) = some (subC n m)
  ve : PySem.W.kitOne K (.ref (He.ga K n)) (.type "ValueError") = some true
  mk0 : exFs n = [] → PySem.W.excIn K (He.ga K n) He.veBase "ValueError.__new__" = true
  ini : exFs n ≠ [] → OexC K (He.ga K n) ∧ PySem.W.findIn K (.ref (He.ga K n)) "__init__" = some (some (.ref (He.ma K (He.ga K n) "__init__"))) ∧ PySem.W.typeIn K (.ref (He.ma K (He.ga K n) "__init__")) = some (.type "function")
def eqV (a b : Option Value) : Bool := decide (a = b)
def mkB (K : FK) (n : Str) : Bool := match exFs n with
  | [] => PySem.W.excIn K (He.ga K n) He.veBase "ValueError.__new__"
  | _ => oexB K (He.ga K n) && (He.eqO (PySem.W.findIn K (.ref (He.ga K n)) "__setattr__") (some (some (.builtin "object.__setattr__"))) &&
      (He.eqO (PySem.W.findIn K (.ref (He.ga K n)) "__init__") (some (some (.ref (He.ma K (He.ga K n) "__init__")))) && eqV (PySem.W.typeIn K (.ref (He.ma K (He.ga K n) "__init__"))) (some (.type "function"))))
def ccB (K : FK) (n : Str) : Bool := He.eqO (PySem.W.findIn K (.ref (He.ga K n)) "__class__") (some (some (.builtin "object.__class__"))) && (He.eqO (PySem.W.specialIn K (.builtin "object.__class__") "__get__") (some (some (.builtin "getset_descriptor.__get__"))) &&
    (decide (PySem.W.takesIn K (.builtin "object.__class__") = some true) && decide (PySem.W.mroIn K (He.ga K n) (.type "object") = some true)))
def exB (K : FK) (ct : List Str) (n : Str) : Bool :=
  PySem.W.keepIn K (.ref (He.ga K n)) && (xfB K (He.ga K n) && (ccB K n && (eqV (PySem.W.typeIn K (.ref (He.ga K n))) (some exT) && ((exFs n).all (fun f => He.eqO (PySem.W.findIn K (.ref (He.ga K n)) f) (some none)) &&
  (ct.all (fun m => decide (PySem.W.kitOne K (.ref (He.ga K n)) (.ref (He.ga K m)) = some (subC n m)) && decide (PySem.W.exmOne K (.ref (He.ga K n)) (.ref (He.ga K m)) = some (subC n m))) &&
  (decide (PySem.W.kitOne K (.ref (He.ga K n)) (.type "ValueError") = some true) && mkB K n))))))
theorem exB_ok {K : FK} {ct : List Str} {n : Str} (h : exB K ct n = true) : ExC K ct n := by
  obtain ⟨h1, h⟩ := He.ba h
  obtain ⟨h2, h⟩ := He.ba h
  obtain ⟨h3, h⟩ := He.ba h
  obtain ⟨h4, h⟩ := He.ba h
  obtain ⟨h5, h⟩ := He.ba h
  obtain ⟨h6, h⟩ := He.ba h
  obtain ⟨h7, h8⟩ := He.ba h
  obtain ⟨a1, a⟩ := He.ba h3
  obtain ⟨a2, a⟩ := He.ba a
  obtain ⟨a3, a4⟩ := He.ba a
  have X := xfB_ok h2
  have T := of_decide_eq_true h4
  refine ⟨h1, X, ⟨X.ga, X.gg, X.exC, X.hdC, He.eqO_ok a1, He.eqO_ok a2, of_decide_eq_true a3, of_decide_eq_true a4⟩, T, fun f hf => He.eqO_ok (List.all_eq_true.mp h5 f hf), fun m hm => ?_, of_decide_eq_true h7, fun e => ?_, fun e => ?_⟩
  · obtain ⟨b1, b2⟩ := He.ba (List.all_eq_true.mp h6 m hm)
    exact ⟨of_decide_eq_true b1, of_decide_eq_true b2⟩
  · unfold mkB at h8
    rw [e] at h8
    exact h8
  · cases q : exFs n with
    | nil => exact absurd q e
    | cons f r =>
      unfold mkB at h8
      rw [q] at h8
      obtain ⟨c1, c⟩ := He.ba h8
      obtain ⟨c2, c⟩ := He.ba c
      obtain ⟨c3, c4⟩ := He.ba c
      exact ⟨⟨oexB_ok c1, He.eqO_ok c2, X.exC, T, h1⟩, He.eqO_ok c3, of_decide_eq_true c4⟩

/-- what __init__ leaves -/
def spIni (C : Addr) (fs : List Str) : Sp := fun vs H Q _ => match fs, vs with
  | [f], [.ref a, y] => H a = some (exo a C none) ∧ ∀ dx, H dx = none → dx ≠ a → Q .non (upd (upd H dx (exd dx [(f, y)])) a (exo a C (some dx)))
  | [f, g], [.ref a, y, z] => H a = some (exo a C none) ∧ ∀ dx, H dx = none → dx ≠ a → Q .non (upd (upd (upd H dx (exd dx [(f, y)])) a (exo a C (some dx))) dx (exd dx [(g, z), (f, y)]))
  | _, _ => False
/-! ### BendError.__init__(self, 'm') -/
structure BaI (K : FK) (B : Addr) : Prop where
  rd : PySem.W.readsIn K B exT = true
  ga : PySem.W.specialIn K (.ref B) "__getattribute__" = some (some (.builtin "type.__getattribute__"))
  at_ : PySem.W.findCls K (.ref B) exT "__init__" = some (.val (.builtin "ValueError.__init__"))
def fcB (K : FK) (B : Addr) : Bool := match PySem.W.findCls K (.ref B) exT "__init__" with
  | some (.val v) => decide (v = .builtin "ValueError.__init__")
  | _ => false
def baB (K : FK) : Bool := PySem.W.readsIn K (He.ga K "BendError") exT && (He.eqO (PySem.W.specialIn K (.ref (He.ga K "BendError")) "__getattribute__") (some (some (.builtin "type.__getattribute__"))) && fcB K (He.ga K "BendError"))
theorem baB_ok {K : FK} (h : baB K = true) : BaI K (He.ga K "BendError") := by
  obtain ⟨h1, h⟩ := He.ba h
  obtain ⟨h2, h3⟩ := He.ba h
  refine ⟨h1, He.eqO_ok h2, ?_⟩
  unfold fcB at h3
  split at h3
  · rename_i v e
    rw [e, of_decide_eq_true h3]
  · cases h3
section
variable {X : Cx} {e : Expr} {es : List Expr} {ta : TA} {p1 p2 pos : Pos}
theorem pe_beinit {pl : Sem Bool} {B : Addr} (hg : Gl X "BendError") (hm : X.mg "BendError" = some (.ref B)) (bi : BaI X.K B) (ha : PA X (e :: es) ta)
    (hc : eval (.Call (.Attribute (.Name "BendError" p1) "__init__" p2) (e :: es) [] pos) X.env = (do
      let ov ← eval (.Name "BendError" p1) X.env
      standAt p2.atName
      let (f, first) ← holding [ov] (getMethod ov "__init__" pl)
      callWith pos f first (backTo pos (starEach (e :: es) X.env)) (backToKw pos (keywordEach [] X.env))) := by rfl)
    (he : starEach (e :: es) X.env = (false, eval e X.env) :: starEach es X.env := by rfl) (hpl : (backTo pos (starEach es X.env)).any (·.1) = false := by rfl) :
    PE X (.Call (.Attribute (.Name "BendError" p1) "__init__" p2) (e :: es) [] pos) (tVeI X.K ta) := by
  refine ⟨fun pins s σ H Q I h => ?_⟩
  refine PySem.W.methodCall_KW (ld_glob I hg hm ?_ (by decide)) hc
  refine PySem.W.method_cls I.kIn bi.ga (PySem.W.cls_value I.kIn bi.rd bi.at_ (by decide +kernel) ?_)
  show wpAny _ _ (callWith pos (Value.builtin "ValueError.__init__") [] (backTo pos (starEach (e :: es) X.env)) []) _ _ _
  refine PyProof.Rows.callWith_method1 (thn (ha.run pos pins _ σ H _ (I.tok _) h) fun us s1 ⟨vs, H1, I1, r1, a, C, ws, ev, hl, T, ea, q⟩ => ?_) he hpl
  subst ev
  cases r1 with
  | @cons _ u0 _ ur ra rw' =>
    obtain rfl : u0 = Value.ref a := ra
    have hlen : ur.length ≤ sizeLine := by
      rw [← Paired.length rw', sizeLine_eq]
      omega
    exact oinit_ok T I1 ea hlen fun s' J => ⟨.non, H1, J, rfl, q⟩
end
end GB

/-! GB3: the end of a law. -/
namespace GB
open PySem PySem.Spec PyProof.Rows L2

section
variable {P : Program} {w : World} {K : FK} {mg mb : MG} {k : Nat} {fa a : Addr} {fd : FuncData} {x : Str} {sp : Sp} {s1 : Shared} {vs : List Value} {ns : List Int}
/-- the run over an abstract heap in which the script alone may stand -/
theorem law_core (H : Hp) (hO : Only H) (hS : SqL K H a (ns.map V.int)) (hok : HOk P w H s1.heap) (hA : ∀ b, H b ≠ none → b = a) (hK : H a ≠ none → K.lookup a = none)
    (kin : K.In s1.heap) (gl : s1.heap.Ns mainGlobals mg) (bl : s1.heap.Ns builtinsNs mb) (bb : ∀ y : Str, y ≠ "__name__" → mb y = bootBuiltins y) (nl : s1.heap.NoLimit) (g0 : s1.gens = #[])
    (at_ : s1.heap.get? a = some { cls := .type "list", data := .seq vs.toArray }) (hr : Room k callerA)
    (F : ∀ base : Heap, K.In base → base.Ns mainGlobals mg → FOk P w K mg base k fa fd [x] sp) (hb : ∀ (s : Shared) (u : Value), BindsTo s fd ⟨[u], []⟩ [(x, u)])
    (hsp : sp [.ref a] H (fun v _ => v = .bl true) fun _ _ _ => False) :
    codeAny (model P w) callerA (.call (.ref fa) ⟨[.ref a], []⟩) (fun r s' => r = .ok (.ret (.bool true)) ∧ OldK s1.heap s'.heap ∧ s'.os = s1.os ∧ AllBare s'.gens) s1 := by
  have only : ∀ (b : Addr) (u : HO), H b = some u → b = a := by
    intro b u e
    exact hA b (by rw [e]; exact fun z => nomatch z)
  have base : ∀ (b : Addr) (o : Obj), s1.heap.get? b = some o → H b = none → (hidT s1.heap H).get? b = some o := by
    intro b o e n
    exact hidT_get e n
  have nodict : ∀ (b : Addr) (o : Obj) (es : Array DictEntry) (ep : Nat), s1.heap.get? b = some o → o.data = .dict es ep → H b = none := by
    intro b o es ep e d
    cases q : H b with
    | none => rfl
    | some u =>
      obtain rfl := only b u q
      rw [at_] at e
      obtain rfl := Option.some.inj e
      exact nomatch d
  have ns' : ∀ {b : Addr} {m : MG}, s1.heap.Ns b m → (hidT s1.heap H).Ns b m := by
    rintro b m ⟨o, es, ep, e, d, r⟩
    exact ⟨o, es, ep, base b o e (nodict b o _ _ e d), d, r⟩
  have kin' : K.In (hidT s1.heap H) := by
    intro b o e
    refine base b o (kin b o e) ?_
    cases q : H b with
    | none => rfl
    | some u =>
      obtain rfl := only b u q
      rw [hK (by rw [q]; exact fun z => nomatch z)] at e
      cases e
  obtain ⟨mc, c1, c2⟩ := nl
  have md : Mod K mg (hidT s1.heap H) := ⟨kin', ns' gl, ⟨mb, ns' bl, bb⟩, ⟨mc, ns' c1, c2⟩⟩
  have e0 : Env0 P w K mg (hidT s1.heap H) callerA [] s1 H := by
    refine ⟨rfl, md, fun b o e => of_hidT e, Nat.le_of_eq (hidT_size _ _), trivial, ?_, hok, .of_eq g0⟩
    intro b z
    exact absurd z (by simp [frs])
  have go := (F _ kin' (ns' gl)).run callerA [] s1 H ⟨[.ref a], []⟩ [.ref a] [.ref a] _ _ hr rfl e0 (hb s1 (.ref a)) (.cons rfl .nil) hsp
  refine codeAny_mono go ?_
  intro r s' h
  cases r with
  | error e =>
    obtain ⟨_, _, _, _, _, _, _, _, _, _, _, _, z⟩ := h
    exact absurd z id
  | ok fl =>
    cases fl with
    | next => exact absurd h id
    | brk => exact absurd h id
    | cont => exact absurd h id
    | ret u =>
      obtain ⟨v, H', os, bare, un, hok', rv, q⟩ := h
      subst q
      cases rv
      refine ⟨rfl, OldK.of_keep ?_, os, bare⟩
      intro b o e
      cases q : H b with
      | none => exact un.keep b o e q (by simp [frs]) (by simp)
      | some u =>
        rcases hO b with z | ⟨ob, xs, z⟩
        · rw [q] at z; cases z
        · obtain ⟨e1, _⟩ := hok b _ z
          obtain ⟨e2, _⟩ := hok' b _ (un.frzs b ob _ z)
          rw [e] at e1
          obtain rfl := Option.some.inj e1
          exact e2
end

/-- the abstract heap of a law's start: the script, frozen (where it is no object of the module) -/
theorem law_run {P : Program} {w : World} {K : FK} {mg mb : MG} {k : Nat} {fa a : Addr} {fd : FuncData} {x : Str} {sp : Sp} {s1 : Shared} {vs : List Value} {ns : List Int}
    (kin : K.In s1.heap) (gl : s1.heap.Ns mainGlobals mg) (bl : s1.heap.Ns builtinsNs mb) (bb : ∀ y : Str, y ≠ "__name__" → mb y = bootBuiltins y) (nl : s1.heap.NoLimit) (g0 : s1.gens = #[])
    (at_ : s1.heap.get? a = some { cls := .type "list", data := .seq vs.toArray }) (hi : IntsAre vs ns) (hl : ns.length ≤ sizeLine) (hr : Room k callerA)
    (F : ∀ base : Heap, K.In base → base.Ns mainGlobals mg → FOk P w K mg base k fa fd [x] sp) (hb : ∀ (s : Shared) (u : Value), BindsTo s fd ⟨[u], []⟩ [(x, u)])
    (hsp : ∀ H : Hp, Only H → SqL K H a (ns.map V.int) → sp [.ref a] H (fun v _ => v = .bl true) fun _ _ _ => False) :
    codeAny (model P w) callerA (.call (.ref fa) ⟨[.ref a], []⟩) (fun r s' => r = .ok (.ret (.bool true)) ∧ OldK s1.heap s'.heap ∧ s'.os = s1.os ∧ AllBare s'.gens) s1 := by
  have rv := vals_ints hi
  have hlen : vs.length = ns.length := hi.length
  cases q : K.lookup a with
  | some o =>
    have e := kin a o q
    rw [at_] at e
    obtain rfl := Option.some.inj e
    have hS : SqL K (fun _ => none) a (ns.map V.int) := .inr ⟨_, vs.toArray, _, q, rfl, rfl, rfl, by rw [List.size_toArray, hlen]; exact hl, by simpa using rv⟩
    exact law_core (fun _ => none) (fun _ => .inl rfl) hS (fun b u z => nomatch z) (fun b z => absurd rfl z) (fun z => absurd rfl z) kin gl bl bb nl g0 at_ hr F hb (hsp _ (fun _ => .inl rfl) hS)
  | none =>
    let o0 : Obj := { cls := .type "list", data := .seq vs.toArray }
    let H : Hp := fun b => if b = a then some (.frz o0 (.lst (ns.map V.int))) else none
    have here : H a = some (.frz o0 (.lst (ns.map V.int))) := if_pos rfl
    have other : ∀ b, b ≠ a → H b = none := fun b z => if_neg z
    have hO : Only H := by
      intro b
      by_cases z : b = a
      · subst z; exact .inr ⟨_, _, here⟩
      · exact .inl (other b z)
    have hS : SqL K H a (ns.map V.int) := .inl (.inr ⟨_, here⟩)
    refine law_core H hO hS ?_ ?_ (fun _ => q) kin gl bl bb nl g0 at_ hr F hb (hsp _ hO hS)
    · intro b u z
      by_cases e : b = a
      · subst e
        rw [here] at z
        obtain rfl := Option.some.inj z
        exact ⟨at_, by rw [List.length_map]; exact hl, vs, _, rv, at_⟩
      · rw [other b e] at z; cases z
    · intro b z
      by_cases e : b = a
      · exact e
      · exact absurd (other b e) z

/-- a law's walk, from its def's promise -/
theorem walk_G {l : PySem.W.OpenLaw} {n k : Nat} {q : Program} {loose : List Str} {XP' : MG → Heap → Prop} {YP : World → Heap → Prop} {d : DefRec} {x : Str}
    (hn : l.most = some n) (hn2 : n ≤ sizeLine) (hdf : d.params.defaults = []) (hr : Room k callerA)
    (F : ∀ (w : World) (mg : MG) (fa : Addr) (h : Heap), YP w h → h.Ns mainGlobals mg → mg d.name = some (.ref fa) →
      ∃ (K : FK) (fd : FuncData) (sp : Spec), K.In h ∧ (∀ (s : Shared) (u : Value), BindsTo s fd ⟨[u], []⟩ [(x, u)]) ∧
        (∀ ns : List Int, ns.length ≤ n → sp [.rls (ns.map D.int)] (fun _ => none) (fun d _ => d = .bl true) fun _ _ => False) ∧
        ∀ base : Heap, K.In base → base.Ns mainGlobals mg → FOk l.prog w K mg base k fa fd [x] (LSp K mg sp)) :
    PySem.W.WalkO q loose XP' YP l.row.toRowW d [] (fun f vs => PySem.call f vs) := by
  refine Att.attach_call hn hdf ?_
  intro w s0 s1 mg mb fa o pm cd doc a vs ns G Y ho hd hcd hmg hobj hints hlen hg
  obtain ⟨K, fd, sp, kin, hb, hsp, hF⟩ := F w mg fa _ Y G.T.g hmg
  refine law_run kin G.T.g G.T.b G.T.builtins G.T.nolimit hg hobj hints (Nat.le_trans hlen hn2) hr hF hb ?_
  intro H hO hS
  refine ⟨fun _ => none, H, fun _ => none, [.rls (ns.map D.int)], _, _, ⟨fun _ _ e => e, fun _ _ e => (nomatch e), fun _ _ e => (nomatch e)⟩, .cons (.rls hS (RepL.ints ns)) .nil, hsp ns hlen, ?_, ?_⟩
  · intro F' H' S' d v _ _ r e
    subst e
    cases r
    rfl
  · intro _ _ _ _ _ _ _ _ _ z
    exact absurd z id
end GB

/-! GB4: operators of data, the small syntax, its weakest preconditions. -/
namespace GB
open PySem PySem.Spec PyProof.Rows L2

/-! ### operators of data -/
def cL : Option Cell → Option (List D)
  | some (.lst ds) => some ds
  | _ => none
def cK : Option Cell → Option (List (Key × D))
  | some (.dct ds) => some ds
  | _ => none
/-- a list's items: a frozen one, or one of the store -/
def mls (S : Sto) : D → Option (List D)
  | .lst ds => some ds
  | .ref p => cL (S p)
  | _ => none
/-- .. or one that is only read -/
def lsx (S : Sto) : D → Option (List D)
  | .lst ds => some ds
  | .rls ds => some ds
  | .ref p => cL (S p)
  | _ => none
/-- a list's or a tuple's items -/
def sqx (S : Sto) : D → Option (List D)
  | .tup ds => some ds
  | x => lsx S x
/-- a new list: of the store (m), or never changed -/
def nwL (m : Bool) (ds : List D) (S : Sto) (P : EQ) : Prop := match m with
  | true => ∀ p, S p = none → P (.ref p) (supd S p (.lst ds))
  | false => P (.lst ds) S
def nwD (m : Bool) (ds : List (Key × D)) (S : Sto) (P : EQ) : Prop := match m with
  | true => ∀ p, S p = none → P (.ref p) (supd S p (.dct ds))
  | false => P (.dct ds) S

def addD (m : Bool) (x y : D) (S : Sto) (P : EQ) : Prop := match x with
  | .int i => (match y with
    | .int j => P (.int (i + j)) S
    | _ => False)
  | .str a => (match y with
    | .str b => a.length + b.length ≤ sizeLine ∧ P (.str (a ++ b)) S
    | _ => False)
  | .tup a => (match y with
    | .tup b => a.length + b.length ≤ sizeLine ∧ P (.tup (a ++ b)) S
    | _ => False)
  | .lst a => ∃ b, mls S y = some b ∧ a.length + b.length ≤ sizeLine ∧ nwL m (a ++ b) S P
  | .ref p => ∃ a b, mls S (.ref p) = some a ∧ mls S y = some b ∧ a.length + b.length ≤ sizeLine ∧ nwL m (a ++ b) S P
  | _ => False
def subD (x y : D) (S : Sto) (P : EQ) : Prop := match x with
  | .int i => (match y with
    | .int j => P (.int (i - j)) S
    | _ => False)
  | _ => False
def mulD (m : Bool) (x y : D) (S : Sto) (P : EQ) : Prop := match x with
  | .int i => (match y with
    | .int j => CMulW i j ∧ P (.int (i * j)) S
    | _ => False)
  | .lst a => (match y with
    | .int k => (-(2 ^ 63) ≤ k ∧ k < 2 ^ 63 ∧ a.length * k.toNat ≤ sizeLine) ∧ nwL m (List.replicate k.toNat a).flatten S P
    | _ => False)
  | .tup a => (match y with
    | .int k => (0 ≤ k ∧ k ≤ 1000 ∧ a ≠ [] ∧ a.length ≤ 1000) ∧ P (.tup (List.replicate k.toNat a).flatten) S
    | _ => False)
  | _ => False
def CDvD (j : Int) : Prop := j ≠ 0 ∧ j.natAbs.log2 < 9000
def fdivD (x y : D) (S : Sto) (P : EQ) : Prop := match x with
  | .int i => (match y with
    | .int j => CDvD j ∧ P (.int (i.fdiv j)) S
    | _ => False)
  | _ => False
def modD (x y : D) (S : Sto) (P : EQ) : Prop := match x with
  | .int i => (match y with
    | .int j => j ≠ 0 ∧ P (.int (i.fmod j)) S
    | _ => False)
  | _ => False
def CPwD (i j : Int) : Prop := 0 ≤ j ∧ (i.natAbs.log2 + 1) * j.toNat ≤ 134217728
def powD (x y : D) (S : Sto) (P : EQ) : Prop := match x with
  | .int i => (match y with
    | .int j => CPwD i j ∧ P (.int (i ^ j.toNat)) S
    | _ => False)
  | _ => False

/-- data as the library's data, lists of the store read (n deep) -/
def pyL (f : D → Option PyData) : List D → Option (List PyData)
  | [] => some []
  | d :: ds => (match f d with
    | some x => (match pyL f ds with
      | some xs => some (x :: xs)
      | none => none)
    | none => none)
def pyOf (S : Sto) : Nat → D → Option PyData
  | 0, _ => none
  | _ + 1, .non => some .none
  | _ + 1, .bl b => some (.bool b)
  | _ + 1, .int i => some (.int i)
  | _ + 1, .str x => some (.str x)
  | n + 1, .tup ds => (pyL (pyOf S n) ds).map .tuple
  | n + 1, .lst ds => (pyL (pyOf S n) ds).map .list
  | n + 1, .rls ds => (pyL (pyOf S n) ds).map .list
  | n + 1, .ref p => (match cL (S p) with
    | some ds => (pyL (pyOf S n) ds).map .list
    | none => none)
  | _ + 1, .dct _ => none
/-- data without dicts, not too deep -/
def shp (d : PyData) : Bool := d.plain && decide (d.depth ≤ 64)
def eqD (neg : Bool) (x y : D) (S : Sto) (P : EQ) : Prop := match x, y with
  | .int i, .int j => P (.bl (xor neg (decide (i = j)))) S
  | .str i, .str j => P (.bl (xor neg (decide (i = j)))) S
  | .bl i, .bl j => P (.bl (xor neg (decide (i = j)))) S
  | x, y => ∃ n d e, pyOf S n x = some d ∧ pyOf S n y = some e ∧ shp d = true ∧ shp e = true ∧ P (.bl (xor neg (PyData.eqv d e))) S

inductive COp where | eq | ne | lt | le | gt | ge | isN | noN | inn | nin
def inD (neg : Bool) (x y : D) (S : Sto) (P : EQ) : Prop := ∃ n d e ds, pyOf S n x = some d ∧ pyOf S n y = some e ∧ (e = .list ds ∨ e = .tuple ds) ∧ (shp d = true ∧ d.depth ≤ 60) ∧ shp e = true ∧ P (.bl (xor neg (ds.any fun z => PyData.eqv z d))) S
def tupB : D → Bool
  | .tup _ => true
  | _ => false
def sqP (k : Bool) (ds : List PyData) : PyData := match k with
  | true => .tuple ds
  | false => .list ds
/-- how often y stands in the list or tuple x -/
def cntD (x y : D) (S : Sto) (P : EQ) : Prop := ∃ n d ds, pyOf S n y = some d ∧ pyOf S n x = some (sqP (tupB x) ds) ∧ shp d = true ∧ shp (sqP (tupB x) ds) = true ∧ d.depth ≤ 60 ∧ P (.int ((ds.countP fun z => PyData.eqv z d : Nat) : Int)) S
/-- where y stands first in it -/
def idxD (x y : D) (S : Sto) (P : EQ) : Prop := ∃ n d ds j, pyOf S n y = some d ∧ pyOf S n x = some (sqP (tupB x) ds) ∧ shp d = true ∧ shp (sqP (tupB x) ds) = true ∧ d.depth ≤ 60 ∧ (ds.findIdx? fun z => PyData.eqv z d) = some j ∧ j < 1000000 ∧ P (.int (j : Int)) S
/-- built-in types that isinstance is asked of -/
inductive TY where | non | bool | int | str | tuple | list | dict
def TY.nm : TY → String
  | .non => "NoneType"
  | .bool => "bool"
  | .int => "int"
  | .str => "str"
  | .tuple => "tuple"
  | .list => "list"
  | .dict => "dict"
def tyC : Option Cell → Option TY
  | some (.lst _) => some .list
  | some (.dct _) => some .dict
  | none => none
def tyD (S : Sto) : D → Option TY
  | .non => some .non
  | .bl _ => some .bool
  | .int _ => some .int
  | .str _ => some .str
  | .tup _ => some .tuple
  | .lst _ => some .list
  | .rls _ => some .list
  | .dct _ => some .dict
  | .ref p => tyC (S p)
def tyOk : TY → Bool
  | .non => false
  | _ => true
/-- is a value of the first of the second -/
def isiB : TY → TY → Bool
  | .bool, .int => true
  | .non, .non => true
  | .bool, .bool => true
  | .int, .int => true
  | .str, .str => true
  | .tuple, .tuple => true
  | .list, .list => true
  | .dict, .dict => true
  | _, _ => false
def isiD (t : TY) (x : D) (S : Sto) (P : EQ) : Prop := match tyD S x with
  | some k => P (.bl (isiB k t)) S
  | none => False
def icmp (p : Int → Int → Bool) (x y : D) (S : Sto) (P : EQ) : Prop := match x with
  | .int i => (match y with
    | .int j => P (.bl (p i j)) S
    | _ => False)
  | _ => False
def isNon : D → Bool
  | .non => true
  | _ => false
/-- no truth -/
def notB : D → Bool
  | .bl _ => false
  | _ => true
def notV (x : V) : Prop := x = .non ∨ (∃ i, x = .int i) ∨ (∃ t, x = .str t) ∨ ∃ a, x = .ref a
def cmpD (o : COp) (x y : D) (S : Sto) (P : EQ) : Prop := match o with
  | .eq => eqD false x y S P
  | .ne => eqD true x y S P
  | .lt => icmp (fun i j => decide (i < j)) x y S P
  | .le => icmp (fun i j => decide (i ≤ j)) x y S P
  | .gt => icmp (fun i j => decide (j < i)) x y S P
  | .ge => icmp (fun i j => decide (j ≤ i)) x y S P
  | .isN => (isNon y = true ∧ P (.bl (isNon x)) S) ∨ (∃ c d, (x = .bl c ∧ y = .bl d) ∧ P (.bl (c == d)) S) ∨ ∃ d, (notB x = true ∧ y = .bl d) ∧ P (.bl false) S
  | .noN => (isNon y = true ∧ P (.bl (!isNon x)) S) ∨ (∃ c d, (x = .bl c ∧ y = .bl d) ∧ P (.bl (c != d)) S) ∨ ∃ d, (notB x = true ∧ y = .bl d) ∧ P (.bl true) S
  | .inn => inD false x y S P
  | .nin => inD true x y S P

inductive BOp where | add | sub | mul | fdiv | mod | pow | shl | shr | band
def shlD (x y : D) (S : Sto) (P : EQ) : Prop := match x with
  | .int i => (match y with
    | .int j => (0 ≤ j ∧ CShl i j) ∧ P (.int (i * 2 ^ j.toNat)) S
    | _ => False)
  | _ => False
def shrD (x y : D) (S : Sto) (P : EQ) : Prop := match x with
  | .int i => (match y with
    | .int j => 0 ≤ j ∧ P (.int (i / 2 ^ j.toNat)) S
    | _ => False)
  | _ => False
/-- the last bit -/
def bandD (x y : D) (S : Sto) (P : EQ) : Prop := match x with
  | .int i => (match y with
    | .int j => j = 1 ∧ P (.int (i % 2)) S
    | _ => False)
  | _ => False
def binD (o : BOp) (m : Bool) (x y : D) (S : Sto) (P : EQ) : Prop := match o with
  | .add => addD m x y S P
  | .sub => subD x y S P
  | .mul => mulD m x y S P
  | .fdiv => fdivD x y S P
  | .mod => modD x y S P
  | .pow => powD x y S P
  | .shl => shlD x y S P
  | .shr => shrD x y S P
  | .band => bandD x y S P

def negD (x : D) (S : Sto) (P : EQ) : Prop := match x with
  | .int i => P (.int (-i)) S
  | _ => False
/-- truth -/
def truD (x : D) (S : Sto) (P : Bool → Sto → Prop) : Prop := match x with
  | .bl b => P b S
  | .int i => P (i != 0) S
  | .non => P false S
  | .tup ds => P (!ds.isEmpty) S
  | .lst ds => P (!ds.isEmpty) S
  | .str z => z.length ≤ sizeLine ∧ P ((z.length : Int) != 0) S
  | .ref p => ∃ ds, cL (S p) = some ds ∧ P (!ds.isEmpty) S
  | _ => False
def lookK : List (Key × D) → Key → Option D
  | [], _ => none
  | (k, d) :: r, q => if k = q then some d else lookK r q
def putK : List (Key × D) → Key → D → List (Key × D)
  | [], q, e => [(q, e)]
  | (k, d) :: r, q, e => if k = q then (k, e) :: r else (k, d) :: putK r q e
def keyD : D → Option Key
  | .int i => some (.inl i)
  | .str x => some (.inr x)
  | _ => none
/-- the pairs of a dict -/
def dcx (S : Sto) : D → Option (List (Key × D))
  | .dct ds => some ds
  | .ref p => cK (S p)
  | _ => none
def ixC (c : Option Cell) (y : D) (S : Sto) (P : EQ) : Prop := match c with
  | some (.lst ds) => (match y with
    | .int i => ∃ d, atI ds i = some d ∧ P d S
    | _ => False)
  | some (.dct ds) => ∃ k d, keyD y = some k ∧ lookK ds k = some d ∧ P d S
  | none => False
/-- d.get(k, z) -/
def getD (x y z : D) (S : Sto) (P : EQ) : Prop := ∃ p ds k, x = .ref p ∧ S p = some (.dct ds) ∧ keyD y = some k ∧ P ((lookK ds k).getD z) S
def ixD (x y : D) (S : Sto) (P : EQ) : Prop := match x with
  | .tup ds => (match y with
    | .int i => ∃ d, atI ds i = some d ∧ P d S
    | _ => False)
  | .lst ds => (match y with
    | .int i => ∃ d, atI ds i = some d ∧ P d S
    | _ => False)
  | .rls ds => (match y with
    | .int i => ∃ d, atI ds i = some d ∧ P d S
    | _ => False)
  | .str z => (match y with
    | .int i => z.length ≤ sizeLine ∧ ∃ c, atI z.cps.toList i = some c ∧ P (.str ⟨#[c]⟩) S
    | _ => False)
  | .ref p => ixC (S p) y S P
  | _ => False
def cutD (xs : List D) (lo hi : Option Int) : List D := (xs.drop (HT.sIx xs.length 0 lo)).take (HT.sIx xs.length xs.length hi - HT.sIx xs.length 0 lo)
def slD (m : Bool) (x : D) (lo hi : Option Int) (S : Sto) (P : EQ) : Prop := match x with
  | .tup ds => P (.tup (cutD ds lo hi)) S
  | .str z => z.length ≤ sizeLine ∧ P (.str (cutS z lo hi)) S
  | x => ∃ ds, lsx S x = some ds ∧ nwL m (cutD ds lo hi) S P

/-! ### the small syntax -/
inductive BI where | len | abs | repr | int1 | str1 | tuple | list | max2 | min2 | sum | all | any | max1 | min1 | srt
inductive MT where | append | pop | popAt | reverse | clear | extend | insert | count | index
mutual
inductive E where
  | v (i : Nat)
  | cN
  | cB (b : Bool)
  | cI (i : Int)
  | cS (x : Str)
  | gl (x : Str) (d : D)
  | bin (o : BOp) (m : Bool) (a b : E)
  | neg (a : E)
  | cmp (o : COp) (a b : E)
  | cmp2 (o o2 : COp) (a b c : E)
  | and_ (es : Es)
  | or_ (es : Es)
  | not_ (a : E)
  | ite (t a b : E)
  | tup (es : Es)
  | lst (m : Bool) (es : Es)
  | dct (m : Bool) (es : Es)
  | ix (a i : E)
  | sl (m : Bool) (a : E) (lo hi : Eo)
  | slr (m : Bool) (a : E)
  | call (x : Str) (sp : Spec) (es : Es)
  | bi (b : BI) (m : Bool) (es : Es)
  | mt (f : MT) (a : E) (es : Es)
  | lc (m : Bool) (elt : E) (tg : G) (it : It') (ifs : Es)
  | frz (a : E)
  | isi (t : TY) (a : E)
  | cnt (a b : E)
  | dget (a b c : E)
  | sl2 (m : Bool) (a : E)
  | idx (a b : E)
  | lrg1 (m : Bool) (b : E)
  | lrg2 (m : Bool) (a b : E)
  | isx (ct : List Str) (a : E) (cs : List Str)
  | fld (ct : List Str) (a : E) (f : Str)
  | callh (x : Str) (sp : Addr × Ex → Spec) (es : Es)
inductive Es where
  | nil
  | cons (e : E) (r : Es)
inductive Eo where
  | none
  | some (e : E)
inductive It' where
  | val (a : E)
  | r1 (a : E)
  | r2 (a b : E)
  | r3 (a b c : E)
  | enum (a : E)
  | zip (a b : E)
  | rev (a : E)
inductive G where
  | nm (i : Nat)
  | tp (gs : Gs)
inductive Gs where
  | nil
  | cons (g : G) (r : Gs)
end
mutual
inductive Sm where
  | asg (g : G) (e : E)
  | par (is : List Nat) (es : Es)
  | asgL (i : Nat) (e : E)
  | setI (a i e : E)
  | swp (a i b j e : E)
  | ex (e : E)
  | ite (t : E) (a b : Sms)
  | for_ (g : G) (it : It') (b : Sms)
  | wh (t : E) (b : Sms)
  | ret (e : E)
  | retN
  | pass
  | brk
  | cont
  | rz
  | raise_ (c : Str) (es : Es)
  | try_ (ct : List Str) (b : Sms) (hs : Hds)
inductive Hds where
  | nil
  | cons (c : Str) (nm : Option Nat) (su : Sms) (r : Hds)
inductive Sms where
  | nil
  | cons (s : Sm) (r : Sms)
end
end GB

/-! GBx9: a tuple once. -/
namespace L2
open PySem PySem.Spec PyProof.Rows
theorem tuple_mul1 (l : Addr) (items : Array Value) (n : Nat) (dd : Option Addr) (sl : Array (Option Value)) (u : Tok) :
    Meets (Builtin.«tuple.__mul__» ⟨[.ref l, .int 1 u], []⟩) (fun _ R s => s.heap.get? l = some { cls := .type "tuple", dict := dd, data := .seq items n, slots := sl } ∧
      R (.ok (.ret (Value.ref l))) s) :=
  .of_wp fun prog w A R s h => by
    obtain ⟨hp, g, d, tk, os⟩ := s
    obtain ⟨hl, h⟩ := h
    have f1 := AutoSeq1.idx_int
    have c1 : (items.isEmpty || ((1 : Int) == 1)) = true := by cases items.isEmpty <;> rfl
    wp_walk using wpAny_loadPart' hl
    exact ⟨_, rfl, h⟩
def rRepT1 (K : PySem.W.Frag) : R2 := fun x y H Q => ∃ l xs, x = .ref l ∧ y = .int 1 ∧ SqT K H l xs ∧ Q (.ref l) H
section
variable {X : Cx}
theorem op_repT1 : OpR X (binaryOp .Mult) (rRepT1 X.K) := by
  intro pins s σ H x y v u Q I rx ry h
  obtain ⟨l, xs, rfl, rfl, hT, q⟩ := h
  cases rx
  obtain ⟨t, rfl⟩ := ry
  obtain ⟨its, r, ⟨⟨cls, dd, data, sl⟩, ho, hc, n, hd⟩, hs⟩ := I.tuple hT
  simp only at hc hd
  subst hc hd
  refine wpAny_binaryOp_repeat_ref (T := "tuple") (U := "int") (by decide) ⟨_, ho, rfl⟩ (fun s' => typeIs_int s' 1 t) noFill_tuple_mul F.fills_int_mul F.slot_int_rmul repeat_tuple F.slot_int_index.lookup
    (call_meets F.slot_int_rmul (typeIs_int s 1 t) F.entry_int_rmul (F.args_int_rmul_2 _ _) (int_rmul_tuple 1 t l its.toArray n dd sl)
      ⟨ho, rfl, ⟨_, ho, rfl⟩, call_meets F.slot_tuple_mul ⟨_, ho, rfl⟩ F.entry_tuple_mul (F.args_tuple_mul_2 _ _) (tuple_mul1 l its.toArray n dd sl t) ⟨ho, ?_⟩⟩)
  exact ⟨.ref l, H, I, rfl, q⟩
end
end L2

/-! GB5: operators of values against operators of data. -/
namespace GB
open PySem PySem.Spec PyProof.Rows L2

abbrev Opd := D → D → Sto → EQ → Prop
def OpL (K : FK) (r : R2) (o : Opd) : Prop := ∀ (Z F : Hp) (S : Sto) (H : Hp) (x y : D) (v u : V) (P : EQ) (Q : VK), RelH K Z F S H → Rep K F x v → Rep K F y u → o x y S P → Ct K Z F P Q → r v u H Q
def UnL (K : FK) (r : V → Hp → VK → Prop) (o : D → Sto → EQ → Prop) : Prop := ∀ (Z F : Hp) (S : Sto) (H : Hp) (x : D) (v : V) (P : EQ) (Q : VK), RelH K Z F S H → Rep K F x v → o x S P → Ct K Z F P Q → r v H Q

def wBin (o : Opd) (wa wb : WpE) : WpE := fun δ S P => wa δ S fun x S1 => wb δ S1 fun y S2 => o x y S2 P
theorem bin_lift {K : FK} {Z F0 : Hp} {r : R2} {o : Opd} {wa wb : WpE} (h : OpL K r o) {σ : VS} {H : Hp} {Q : VK} (q : LE K Z F0 (wBin o wa wb) σ H Q) : tOp r (LE K Z F0 wa) (LE K Z F0 wb) σ H Q := by
  obtain ⟨F, δ, S, P, sf, rs, rh, w, c⟩ := q
  refine ⟨F, δ, S, _, sf, rs, rh, w, ?_⟩
  intro F1 H1 S1 x v s1 rh1 rx w1
  refine ⟨F1, δ, S1, _, sf.trans s1, rs.mono s1, rh1, w1, ?_⟩
  intro F2 H2 S2 y u s2 rh2 ry w2
  exact h Z F2 S2 H2 x y v u P Q rh2 (rx.mono s2) ry w2 (c.mono (s1.trans s2))
theorem pe_bin {X : Cx} {Z F0 : Hp} {op : Operator} {r : R2} {o : Opd} {a b : Expr} {wa wb : WpE} {pos : Pos} (hr : OpR X (binaryOp op) r) (h : OpL X.K r o) (ha : PE X a (LE X.K Z F0 wa)) (hb : PE X b (LE X.K Z F0 wb)) :
    PE X (.BinOp a op b pos) (LE X.K Z F0 (wBin o wa wb)) := PE_imp (pe_op hr ha hb) fun _ _ _ q => bin_lift h q

section
variable {K : FK} {Z F : Hp} {S : Sto} {H : Hp}
/-- the value of an int, a text .. -/
theorem Rep.int_ {i : Int} {v : V} (h : Rep K F (.int i) v) : v = .int i := by cases h; rfl
theorem Rep.bl_ {i : Bool} {v : V} (h : Rep K F (.bl i) v) : v = .bl i := by cases h; rfl
theorem Rep.str_ {i : Str} {v : V} (h : Rep K F (.str i) v) : v = .str i := by cases h; rfl
theorem Rep.non_ {v : V} (h : Rep K F .non v) : v = .non := by cases h; rfl
theorem Rep.ref_ {a : Addr} {v : V} (h : Rep K F (.ref a) v) : v = .ref a := by cases h; rfl
theorem Rep.tup_ {ds : List D} {v : V} (h : Rep K F (.tup ds) v) : ∃ p vs, v = .ref p ∧ SqT K F p vs ∧ RepL K F ds vs := by cases h with | tup a b => exact ⟨_, _, rfl, a.t, b⟩
theorem Rep.tupN {ds : List D} {v : V} (h : Rep K F (.tup ds) v) : ∃ p vs, v = .ref p ∧ SqN K F p vs ∧ RepL K F ds vs := by cases h with | tup a b => exact ⟨_, _, rfl, a, b⟩
theorem mls_of {x : D} {ds : List D} {v : V} (R : RelH K Z F S H) (r : Rep K F x v) (h : mls S x = some ds) : ∃ p vs, v = .ref p ∧ H p = some (.lst vs) ∧ RepL K F ds vs := by
  cases r with
  | lst a b =>
    obtain rfl := Option.some.inj h
    exact ⟨_, _, rfl, R.fz _ _ a, b⟩
  | ref p =>
    have h : cL (S p) = some ds := h
    cases e : S p with
    | none => rw [e] at h; cases h
    | some c =>
      rw [e] at h
      cases c with
      | dct _ => cases h
      | lst es =>
        obtain rfl := Option.some.inj h
        obtain ⟨_, o, ho, cr⟩ := R.st p _ e
        obtain ⟨vs, rfl, rl⟩ := cr.lst
        exact ⟨p, vs, rfl, ho, rl⟩
  | _ => cases h
theorem lsx_of {x : D} {ds : List D} {v : V} (R : RelH K Z F S H) (r : Rep K F x v) (h : lsx S x = some ds) : ∃ p vs, v = .ref p ∧ SqL K H p vs ∧ RepL K F ds vs := by
  cases r with
  | lst a b =>
    obtain rfl := Option.some.inj h
    exact ⟨_, _, rfl, SqL.of (R.fz _ _ a), b⟩
  | rls a b =>
    obtain rfl := Option.some.inj h
    exact ⟨_, _, rfl, R.fz.seq a, b⟩
  | ref p =>
    obtain ⟨q, vs, e, ho, rl⟩ := mls_of R (.ref p) (show mls S (.ref p) = some ds from h)
    exact ⟨q, vs, e, SqL.of ho, rl⟩
  | _ => cases h
theorem sqx_of {x : D} {ds : List D} {v : V} (R : RelH K Z F S H) (r : Rep K F x v) (h : sqx S x = some ds) : ∃ p vs, v = .ref p ∧ (SqL K H p vs ∨ SqT K H p vs) ∧ RepL K F ds vs := by
  cases r with
  | tup a b =>
    obtain rfl := Option.some.inj h
    exact ⟨_, _, rfl, .inr (sqT_mono R.fz a.t), b⟩
  | lst a b =>
    obtain ⟨p, vs, e, q, rl⟩ := lsx_of R (.lst a b) (show lsx S _ = some ds from h)
    exact ⟨p, vs, e, .inl q, rl⟩
  | rls a b =>
    obtain ⟨p, vs, e, q, rl⟩ := lsx_of R (.rls a b) (show lsx S _ = some ds from h)
    exact ⟨p, vs, e, .inl q, rl⟩
  | ref a =>
    obtain ⟨p, vs, e, q, rl⟩ := lsx_of R (.ref a) (show lsx S _ = some ds from h)
    exact ⟨p, vs, e, .inl q, rl⟩
  | _ => cases h
/-- a new list -/
theorem nwL_ok {m : Bool} {ds : List D} {vs : List V} {P : EQ} {Q : VK} (R : RelH K Z F S H) (r : RepL K F ds vs) (w : nwL m ds S P) (c : Ct K Z F P Q) : ∀ p, H p = none → Q (.ref p) (upd H p (.lst vs)) := by
  intro p hp
  cases m with
  | true =>
    refine c F _ _ _ _ (Same.refl F) (R.newS (c := .lst ds) hp r) (.ref p) (w p (R.none hp).2)
  | false =>
    obtain ⟨s1, R1⟩ := R.newF (o := .lst vs) hp
    exact c _ _ _ _ _ s1 R1 (.lst upd_same (r.mono s1)) w
theorem newT_ok {ds : List D} {vs : List V} {P : EQ} {Q : VK} (R : RelH K Z F S H) (r : RepL K F ds vs) (w : P (.tup ds) S) (c : Ct K Z F P Q) : nwT vs Q H := by
  intro p o hp d
  obtain ⟨s1, R1⟩ := R.newF (o := .frz o (.tup vs)) hp
  exact c _ _ _ _ _ s1 R1 (.tup (.inl ⟨o, upd_same, d⟩) (r.mono s1)) w
/-- the same thing handed on -/
theorem same_ok {x : D} {v : V} {P : EQ} {Q : VK} (R : RelH K Z F S H) (r : Rep K F x v) (w : P x S) (c : Ct K Z F P Q) : Q v H := c F H S x v (Same.refl F) R r w
theorem nwD_ok {m : Bool} {ds : List (Key × D)} {vs : List (Key × V)} {P : EQ} {Q : VK} (R : RelH K Z F S H) (r : RepK K F ds vs) (w : nwD m ds S P) (c : Ct K Z F P Q) : ∀ p, H p = none → Q (.ref p) (upd H p (.dK vs)) := by
  intro p hp
  cases m with
  | true =>
    refine c F _ _ _ _ (Same.refl F) (R.newS (c := .dct ds) hp r) (.ref p) (w p (R.none hp).2)
  | false =>
    obtain ⟨s1, R1⟩ := R.newF (o := .dK vs) hp
    exact c _ _ _ _ _ s1 R1 (.dct upd_same (r.mono s1)) w
end

/-! ### + -/
def rAddA (K : FK) : R2 := fun x y H Q => rI0 (fun i j => .int (i + j)) x y H Q ∨ (∃ i j, x = .str i ∧ y = .str j ∧ i.length + j.length ≤ sizeLine ∧ Q (.str (i ++ j)) H) ∨ rCatN K x y H Q ∨ rCat x y H Q
theorem op_addA {X : Cx} : OpR X (binaryOp .Add) (rAddA X.K) := op_add.or (op_add_str.or (op_catN.or op_cat))
theorem addL {K : FK} {m : Bool} : OpL K (rAddA K) (addD m) := by
  intro Z F S H x y v u P Q R rx ry w c
  cases x with
  | int i =>
    cases y with
    | int j =>
      cases rx; cases ry
      exact .inl ⟨i, j, rfl, rfl, same_ok R (.int _) w c⟩
    | _ => exact absurd w id
  | str i =>
    cases y with
    | str j =>
      cases rx; cases ry
      exact .inr (.inl ⟨i, j, rfl, rfl, w.1, same_ok R (.str _) w.2 c⟩)
    | _ => exact absurd w id
  | tup a =>
    cases y with
    | tup b =>
      obtain ⟨p, vs, rfl, h1, r1⟩ := rx.tup_
      obtain ⟨q, us, rfl, h2, r2⟩ := ry.tup_
      obtain ⟨hl, w⟩ := w
      refine .inr (.inr (.inl ⟨p, q, vs, us, rfl, rfl, sqT_mono R.fz h1, sqT_mono R.fz h2, by rw [← r1.length, ← r2.length]; exact hl, ?_, ?_, ?_⟩))
      · rintro rfl
        cases r1
        exact same_ok R ry (show P (.tup b) S from w) c
      · rintro _ rfl
        cases r2
        rw [List.append_nil] at w
        exact same_ok R rx w c
      · intro _ _
        exact newT_ok R (r1.app r2) w c
    | _ => exact absurd w id
  | lst a =>
    obtain ⟨b, hb, hl, w⟩ := w
    obtain ⟨p, vs, rfl, h1, r1⟩ := mls_of R rx (show mls S (.lst a) = some a from rfl)
    obtain ⟨q, us, rfl, h2, r2⟩ := mls_of R ry hb
    exact .inr (.inr (.inr ⟨p, q, vs, us, rfl, rfl, h1, h2, by rw [← r1.length, ← r2.length]; exact hl, nwL_ok R (r1.app r2) w c⟩))
  | ref a =>
    obtain ⟨a', b, ha, hb, hl, w⟩ := w
    obtain ⟨p, vs, rfl, h1, r1⟩ := mls_of R rx ha
    obtain ⟨q, us, rfl, h2, r2⟩ := mls_of R ry hb
    exact .inr (.inr (.inr ⟨p, q, vs, us, rfl, rfl, h1, h2, by rw [← r1.length, ← r2.length]; exact hl, nwL_ok R (r1.app r2) w c⟩))
  | _ => exact absurd w id

theorem subL {K : FK} : OpL K (rI0 fun i j => .int (i - j)) subD := by
  intro Z F S H x y v u P Q R rx ry w c
  cases x with
  | int i =>
    cases y with
    | int j =>
      cases rx; cases ry
      exact ⟨i, j, rfl, rfl, same_ok R (.int _) w c⟩
    | _ => exact absurd w id
  | _ => exact absurd w id
def rMulA (K : FK) : R2 := fun x y H Q => rI CMulW (fun i j => .int (i * j)) x y H Q ∨ rRep x y H Q ∨ rRepT1 K x y H Q ∨ rRepN K x y H Q ∨ rRepN0 K x y H Q
theorem op_mulA {X : Cx} : OpR X (binaryOp .Mult) (rMulA X.K) := op_mulW.or (op_rep.or (op_repT1.or (op_repN.or op_repN0)))
theorem mulL {K : FK} {m : Bool} : OpL K (rMulA K) (mulD m) := by
  intro Z F S H x y v u P Q R rx ry w c
  cases x with
  | int i =>
    cases y with
    | int j =>
      cases rx; cases ry
      exact .inl ⟨i, j, rfl, rfl, w.1, same_ok R (.int _) w.2 c⟩
    | _ => exact absurd w id
  | lst a =>
    cases y with
    | int k =>
      obtain ⟨⟨h1, h2, h3⟩, w⟩ := w
      obtain ⟨p, vs, rfl, h4, r1⟩ := mls_of R rx (show mls S (.lst a) = some a from rfl)
      cases ry
      exact .inr (.inl ⟨p, k, vs, rfl, rfl, h4, h1, h2, by rw [← r1.length]; exact h3, nwL_ok R (r1.rep _) w c⟩)
    | _ => exact absurd w id
  | tup a =>
    cases y with
    | int k =>
      obtain ⟨⟨h1, h2, h3, h4⟩, w⟩ := w
      obtain ⟨p, vs, rfl, hv, r1⟩ := rx.tup_
      cases ry
      by_cases k1 : k = 1
      · subst k1
        have e : (List.replicate (Int.toNat 1) a).flatten = a := by
          show (a ++ []) = a
          exact List.append_nil a
        rw [e] at w
        exact .inr (.inr (.inl ⟨p, vs, rfl, rfl, sqT_mono R.fz hv, same_ok R rx w c⟩))
      · have hn : vs ≠ [] := by
          rintro rfl
          cases r1
          exact h3 rfl
        by_cases k0 : k = 0
        · subst k0
          have e : (List.replicate (Int.toNat 0) a).flatten = [] := rfl
          rw [e] at w
          exact .inr (.inr (.inr (.inr ⟨p, vs, rfl, rfl, sqT_mono R.fz hv, hn, newT_ok R .nil w c⟩)))
        · exact .inr (.inr (.inr (.inl ⟨p, k, vs, rfl, rfl, sqT_mono R.fz hv, hn, by omega, h2, by rw [← r1.length]; exact h4, newT_ok R (r1.rep _) w c⟩)))
    | _ => exact absurd w id
  | _ => exact absurd w id
theorem op_fdivA {X : Cx} : OpR X (binaryOp .FloorDiv) (rI (fun _ j => CDvD j) fun i j => .int (i.fdiv j)) :=
  opI fun i j _ _ _ _ _ hc q => floordiv_int hc.1 q (.inl (PyProof.noPylong_of_log2 hc.2))
theorem fdivL {K : FK} : OpL K (rI (fun _ j => CDvD j) fun i j => .int (i.fdiv j)) fdivD := by
  intro Z F S H x y v u P Q R rx ry w c
  cases x with
  | int i =>
    cases y with
    | int j =>
      cases rx; cases ry
      exact ⟨i, j, rfl, rfl, w.1, same_ok R (.int _) w.2 c⟩
    | _ => exact absurd w id
  | _ => exact absurd w id
theorem modL {K : FK} : OpL K (rI (fun _ j => j ≠ 0) fun i j => .int (i.fmod j)) modD := by
  intro Z F S H x y v u P Q R rx ry w c
  cases x with
  | int i =>
    cases y with
    | int j =>
      cases rx; cases ry
      exact ⟨i, j, rfl, rfl, w.1, same_ok R (.int _) w.2 c⟩
    | _ => exact absurd w id
  | _ => exact absurd w id
theorem op_powA {X : Cx} : OpR X (binaryOp .Pow) (rI CPwD fun i j => .int (i ^ j.toNat)) := by
  refine opI fun i j _ _ _ _ _ hc q => ?_
  refine pow_int hc.1 ?_ q
  have e : Builtin.Int.intBits i ≤ i.natAbs.log2 + 1 := by
    unfold Builtin.Int.intBits
    split <;> omega
  obtain ⟨k, rfl⟩ : ∃ k : Nat, j = (k : Int) := ⟨j.toNat, by have := hc.1; omega⟩
  have h2 : (i.natAbs.log2 + 1) * k ≤ 134217728 := hc.2
  have h3 : Builtin.Int.intBits i * k ≤ (i.natAbs.log2 + 1) * k := Nat.mul_le_mul_right k e
  have h4 : Builtin.Int.intBits i * k ≤ 134217728 := Nat.le_trans h3 h2
  have e27 : (2 : Int) ^ 27 = 134217728 := by decide
  rw [e27]
  have h5 : ((Builtin.Int.intBits i * k : Nat) : Int) ≤ ((134217728 : Nat) : Int) := Int.ofNat_le.mpr h4
  rw [Int.natCast_mul] at h5
  exact h5
theorem powL {K : FK} : OpL K (rI CPwD fun i j => .int (i ^ j.toNat)) powD := by
  intro Z F S H x y v u P Q R rx ry w c
  cases x with
  | int i =>
    cases y with
    | int j =>
      cases rx; cases ry
      exact ⟨i, j, rfl, rfl, w.1, same_ok R (.int _) w.2 c⟩
    | _ => exact absurd w id
  | _ => exact absurd w id

/-! ### comparisons -/
mutual
theorem py_of {K : FK} {Z F : Hp} {S : Sto} {H : Hp} (R : RelH K Z F S H) : ∀ (n : Nat) (x : D) (v : V) (d : PyData), Rep K F x v → pyOf S n x = some d → Dp K H v d
  | n + 1, .non, _, _, r, h => by cases r; cases h; exact .non
  | n + 1, .bl b, _, _, r, h => by cases r; cases h; exact .bl b
  | n + 1, .int b, _, _, r, h => by cases r; cases h; exact .int b
  | n + 1, .str b, _, _, r, h => by cases r; cases h; exact .str b
  | n + 1, .tup ds, _, d, r, h => by
    obtain ⟨p, vs, rfl, h1, r1⟩ := r.tup_
    unfold pyOf at h
    cases e : pyL (pyOf S n) ds with
    | none => rw [e] at h; cases h
    | some xs =>
      rw [e] at h; cases h
      exact .tup (sqT_mono R.fz h1) (pyL_of R n ds vs xs r1 e)
  | n + 1, .lst ds, v, d, r, h => by
    obtain ⟨p, vs, rfl, h1, r1⟩ := mls_of R r (show mls S (.lst ds) = some ds from rfl)
    unfold pyOf at h
    cases e : pyL (pyOf S n) ds with
    | none => rw [e] at h; cases h
    | some xs =>
      rw [e] at h; cases h
      exact .lst (SqL.of h1) (pyL_of R n ds vs xs r1 e)
  | n + 1, .rls ds, v, d, r, h => by
    obtain ⟨p, vs, rfl, h1, r1⟩ := lsx_of R r (show lsx S (.rls ds) = some ds from rfl)
    unfold pyOf at h
    cases e : pyL (pyOf S n) ds with
    | none => rw [e] at h; cases h
    | some xs =>
      rw [e] at h; cases h
      exact .lst h1 (pyL_of R n ds vs xs r1 e)
  | n + 1, .ref a, v, d, r, h => by
    unfold pyOf at h
    cases q : cL (S a) with
    | none => rw [q] at h; cases h
    | some ds =>
      rw [q] at h
      obtain ⟨p, vs, rfl, h1, r1⟩ := mls_of R r (show mls S (.ref a) = some ds from q)
      have h' : (pyL (pyOf S n) ds).map PyData.list = some d := h
      cases e : pyL (pyOf S n) ds with
      | none => rw [e] at h'; cases h'
      | some xs =>
        rw [e] at h'; cases h'
        exact .lst (SqL.of h1) (pyL_of R n ds vs xs r1 e)
  | n + 1, .dct _, _, _, r, h => by cases h
theorem pyL_of {K : FK} {Z F : Hp} {S : Sto} {H : Hp} (R : RelH K Z F S H) : ∀ (n : Nat) (ds : List D) (vs : List V) (xs : List PyData), RepL K F ds vs → pyL (pyOf S n) ds = some xs → DpAll K H vs xs
  | n, [], _, _, r, h => by cases r; cases h; exact .nil
  | n, d :: ds, _, xs, .cons r t, h => by
    unfold pyL at h
    cases e : pyOf S n d with
    | none => rw [e] at h; cases h
    | some y =>
      rw [e] at h
      cases e2 : pyL (pyOf S n) ds with
      | none => rw [e2] at h; cases h
      | some ys =>
        rw [e2] at h; cases h
        exact .cons (py_of R n d _ y r e) (pyL_of R n ds _ ys t e2)
end
def rEqP (K : FK) : R2 := fun x y H Q => ∃ d e, Dp K H x d ∧ Dp K H y e ∧ shp d = true ∧ shp e = true ∧ Q (.bl (PyData.eqv d e)) H
def rNeP (K : FK) : R2 := fun x y H Q => ∃ d e, Dp K H x d ∧ Dp K H y e ∧ shp d = true ∧ shp e = true ∧ Q (.bl (!PyData.eqv d e)) H
theorem shp_p {d : PyData} (h : shp d = true) : d.plain = true ∧ d.depth ≤ 64 := ⟨(Bool.and_eq_true_iff.mp h).1, of_decide_eq_true (Bool.and_eq_true_iff.mp h).2⟩
theorem op_eqP {X : Cx} (hu : X.A.units + 64 < cLine) : OpR X (compareOp .Eq) (rEqP X.K) := by
  intro pins s σ H x y v u Q I rx ry h
  obtain ⟨d, e, hd, he, sd, se, q⟩ := h
  obtain ⟨as, r1⟩ := Dp.reads I d x v hd rx
  obtain ⟨bs, r2⟩ := Dp.reads I e y u he ry
  have := (shp_p sd).2
  exact SeqAt.eq_plain r1 r2 (shp_p sd).1 (shp_p se).1 (by omega) ⟨.bl _, H, I, rfl, q⟩
theorem op_neP {X : Cx} (hu : X.A.units + 64 < cLine) : OpR X (compareOp .NotEq) (rNeP X.K) := by
  intro pins s σ H x y v u Q I rx ry h
  obtain ⟨d, e, hd, he, sd, se, q⟩ := h
  obtain ⟨as, r1⟩ := Dp.reads I d x v hd rx
  obtain ⟨bs, r2⟩ := Dp.reads I e y u he ry
  have := (shp_p sd).2
  exact SeqAt.ne_plain r1 r2 (shp_p sd).1 (shp_p se).1 (by omega) ⟨.bl _, H, I, rfl, q⟩
def rEqA (K : FK) : R2 := fun x y H Q => rEq x y H Q ∨ rEqP K x y H Q
def rNeA (K : FK) : R2 := fun x y H Q => rNe x y H Q ∨ rNeP K x y H Q
theorem op_eqA {X : Cx} (hu : X.A.units + 64 < cLine) : OpR X (compareOp .Eq) (rEqA X.K) := op_eq.or (op_eqP hu)
theorem op_neA {X : Cx} (hu : X.A.units + 64 < cLine) : OpR X (compareOp .NotEq) (rNeA X.K) := op_ne.or (op_neP hu)
theorem eqL {K : FK} : OpL K (rEqA K) (eqD false) := by
  intro Z F S H x y v u P Q R rx ry w c
  have gen : (∃ n d e, pyOf S n x = some d ∧ pyOf S n y = some e ∧ shp d = true ∧ shp e = true ∧ P (.bl (xor false (PyData.eqv d e))) S) → rEqA K v u H Q := by
    rintro ⟨n, d, e, h1, h2, s1, s2, q⟩
    rw [Bool.false_xor] at q
    exact .inr ⟨d, e, py_of R n x v d rx h1, py_of R n y u e ry h2, s1, s2, same_ok R (.bl _) q c⟩
  cases x <;> cases y <;> first
    | exact gen w
    | (cases rx; cases ry
       refine .inl ⟨rfl, ?_⟩
       have q := same_ok R (.bl _) w c
       rw [Bool.false_xor] at q
       first
         | (have e : ∀ i j : Int, decide (V.int i = V.int j) = decide (i = j) := fun i j => by rw [dec_int, Bool.beq_eq_decide_eq]
            rw [e]; exact q)
         | (have e : ∀ i j : Str, decide (V.str i = V.str j) = decide (i = j) := fun i j => by rw [dec_str, Bool.beq_eq_decide_eq]
            rw [e]; exact q)
         | (have e : ∀ i j : Bool, decide (V.bl i = V.bl j) = decide (i = j) := fun i j => by rw [dec_bl, Bool.beq_eq_decide_eq]
            rw [e]; exact q))
theorem neL {K : FK} : OpL K (rNeA K) (eqD true) := by
  intro Z F S H x y v u P Q R rx ry w c
  have gen : (∃ n d e, pyOf S n x = some d ∧ pyOf S n y = some e ∧ shp d = true ∧ shp e = true ∧ P (.bl (xor true (PyData.eqv d e))) S) → rNeA K v u H Q := by
    rintro ⟨n, d, e, h1, h2, s1, s2, q⟩
    rw [Bool.true_xor] at q
    exact .inr ⟨d, e, py_of R n x v d rx h1, py_of R n y u e ry h2, s1, s2, same_ok R (.bl _) q c⟩
  cases x <;> cases y <;> first
    | exact gen w
    | (cases rx; cases ry
       refine .inl ⟨rfl, ?_⟩
       have q := same_ok R (.bl _) w c
       rw [Bool.true_xor] at q
       first
         | (have e : ∀ i j : Int, decide (V.int i = V.int j) = decide (i = j) := fun i j => by rw [dec_int, Bool.beq_eq_decide_eq]
            rw [e]; exact q)
         | (have e : ∀ i j : Str, decide (V.str i = V.str j) = decide (i = j) := fun i j => by rw [dec_str, Bool.beq_eq_decide_eq]
            rw [e]; exact q)
         | (have e : ∀ i j : Bool, decide (V.bl i = V.bl j) = decide (i = j) := fun i j => by rw [dec_bl, Bool.beq_eq_decide_eq]
            rw [e]; exact q))
theorem icmpL {K : FK} (p : Int → Int → Bool) : OpL K (rI0 fun i j => .bl (p i j)) (icmp p) := by
  intro Z F S H x y v u P Q R rx ry w c
  cases x with
  | int i =>
    cases y with
    | int j =>
      cases rx; cases ry
      exact ⟨i, j, rfl, rfl, same_ok R (.bl _) w c⟩
    | _ => exact absurd w id
  | _ => exact absurd w id
theorem isNon_of {K : FK} {F : Hp} {x : D} {v : V} (r : Rep K F x v) : decide (v = V.non) = isNon x := by cases r <;> rfl
theorem notV_of {K : FK} {F : Hp} {x : D} {v : V} (r : Rep K F x v) (h : notB x = true) : notV v := by
  cases r <;> first
    | exact .inl rfl
    | exact .inr (.inl ⟨_, rfl⟩)
    | exact .inr (.inr (.inl ⟨_, rfl⟩))
    | exact .inr (.inr (.inr ⟨_, rfl⟩))
    | cases h
theorem isNL {K : FK} : OpL K (fun x y H Q => (y = .non ∧ Q (.bl (decide (x = .non))) H) ∨ (∃ c d, (x = .bl c ∧ y = .bl d) ∧ Q (.bl (c == d)) H) ∨ ∃ d, (notV x ∧ y = .bl d) ∧ Q (.bl false) H) (cmpD .isN) := by
  intro Z F S H x y v u P Q R rx ry w c
  rcases w with w | ⟨a, b, ⟨rfl, rfl⟩, w⟩ | ⟨b, ⟨hn, rfl⟩, w⟩
  · have e := isNon_of ry
    rw [w.1] at e
    refine .inl ⟨of_decide_eq_true e, ?_⟩
    rw [isNon_of rx]
    exact same_ok R (.bl _) w.2 c
  · cases rx
    cases ry
    exact .inr (.inl ⟨a, b, ⟨rfl, rfl⟩, same_ok R (.bl _) w c⟩)
  · cases ry
    exact .inr (.inr ⟨b, ⟨notV_of rx hn, rfl⟩, same_ok R (.bl _) w c⟩)
theorem noNL {K : FK} : OpL K (fun x y H Q => (y = .non ∧ Q (.bl (!decide (x = .non))) H) ∨ (∃ c d, (x = .bl c ∧ y = .bl d) ∧ Q (.bl (c != d)) H) ∨ ∃ d, (notV x ∧ y = .bl d) ∧ Q (.bl true) H) (cmpD .noN) := by
  intro Z F S H x y v u P Q R rx ry w c
  rcases w with w | ⟨a, b, ⟨rfl, rfl⟩, w⟩ | ⟨b, ⟨hn, rfl⟩, w⟩
  · have e := isNon_of ry
    rw [w.1] at e
    refine .inl ⟨of_decide_eq_true e, ?_⟩
    rw [isNon_of rx]
    exact same_ok R (.bl _) w.2 c
  · cases rx
    cases ry
    exact .inr (.inl ⟨a, b, ⟨rfl, rfl⟩, same_ok R (.bl _) w c⟩)
  · cases ry
    exact .inr (.inr ⟨b, ⟨notV_of rx hn, rfl⟩, same_ok R (.bl _) w c⟩)

/-! ### in, not in -/
def rInA (K : FK) (neg : Bool) : R2 := fun x y H Q => ∃ d e ds, Dp K H x d ∧ Dp K H y e ∧ (e = .list ds ∨ e = .tuple ds) ∧ (shp d = true ∧ d.depth ≤ 60) ∧ shp e = true ∧ Q (.bl (xor neg (ds.any fun z => PyData.eqv z d))) H
theorem room_inA {A : Around} {d : PyData} {n : Nat} (sd : d.depth ≤ 60) (hu : A.units + 64 < cLine) : A.units + 1 + min n d.depth < cLine := by
  have : min n d.depth ≤ d.depth := Nat.min_le_right _ _
  omega
theorem op_inA {X : Cx} (hu : X.A.units + 64 < cLine) : OpR X (compareOp .In) (rInA X.K false) := by
  intro pins s σ H x y v u Q I rx ry h
  obtain ⟨d, e, ds, hd, he, he2, ⟨sd, sd2⟩, se, q⟩ := h
  obtain ⟨as, r1⟩ := Dp.reads I d x v hd rx
  obtain ⟨bs, r2⟩ := Dp.reads I e y u he ry
  rw [Bool.false_xor] at q
  rcases he2 with rfl | rfl
  · exact SeqAt.in_list_data r2 r1 (shp_p se).1 (shp_p sd).1 (room_inA sd2 hu) ⟨.bl _, H, I, rfl, q⟩
  · exact SeqAt.in_tuple_data r2 r1 (shp_p se).1 (shp_p sd).1 (room_inA sd2 hu) ⟨.bl _, H, I, rfl, q⟩
theorem op_notInA {X : Cx} (hu : X.A.units + 64 < cLine) : OpR X (compareOp .NotIn) (rInA X.K true) := by
  intro pins s σ H x y v u Q I rx ry h
  obtain ⟨d, e, ds, hd, he, he2, ⟨sd, sd2⟩, se, q⟩ := h
  obtain ⟨as, r1⟩ := Dp.reads I d x v hd rx
  obtain ⟨bs, r2⟩ := Dp.reads I e y u he ry
  rw [Bool.true_xor] at q
  rcases he2 with rfl | rfl
  · exact SeqAt.notIn_list_data r2 r1 (shp_p se).1 (shp_p sd).1 (room_inA sd2 hu) ⟨.bl _, H, I, rfl, q⟩
  · exact SeqAt.notIn_tuple_data r2 r1 (shp_p se).1 (shp_p sd).1 (room_inA sd2 hu) ⟨.bl _, H, I, rfl, q⟩
theorem inL {K : FK} {neg : Bool} : OpL K (rInA K neg) (inD neg) := by
  intro Z F S H x y v u P Q R rx ry w c
  obtain ⟨n, d, e, ds, h1, h2, h3, s1, s2, q⟩ := w
  exact ⟨d, e, ds, py_of R n x v d rx h1, py_of R n y u e ry h2, h3, s1, s2, same_ok R (.bl _) q c⟩
/-! ### shifts -/
def rShlA : R2 := fun x y H Q => ∃ (i : Int) (k : Nat), x = .int i ∧ y = .int (k : Int) ∧ CShl i (k : Int) ∧ Q (.int (i * 2 ^ k)) H
def rShrA : R2 := fun x y H Q => ∃ (i : Int) (k : Nat), x = .int i ∧ y = .int (k : Int) ∧ Q (.int (i / 2 ^ k)) H
def rAndA : R2 := fun x y H Q => ∃ (i : Int) (k : Nat), x = .int i ∧ y = .int (2 ^ k - 1) ∧ Q (.int (i % 2 ^ k)) H
theorem shlL {K : FK} : OpL K rShlA shlD := by
  intro Z F S H x y v u P Q R rx ry w c
  cases x with
  | int i =>
    cases y with
    | int j =>
      cases rx; cases ry
      obtain ⟨⟨h0, h1⟩, w⟩ := w
      exact ⟨i, j.toNat, rfl, by rw [Int.toNat_of_nonneg h0], by rw [Int.toNat_of_nonneg h0]; exact h1, same_ok R (.int _) w c⟩
    | _ => exact absurd w id
  | _ => exact absurd w id
theorem shrL {K : FK} : OpL K rShrA shrD := by
  intro Z F S H x y v u P Q R rx ry w c
  cases x with
  | int i =>
    cases y with
    | int j =>
      cases rx; cases ry
      obtain ⟨h0, w⟩ := w
      exact ⟨i, j.toNat, rfl, by rw [Int.toNat_of_nonneg h0], same_ok R (.int _) w c⟩
    | _ => exact absurd w id
  | _ => exact absurd w id
theorem bandL {K : FK} : OpL K rAndA bandD := by
  intro Z F S H x y v u P Q R rx ry w c
  cases x with
  | int i =>
    cases y with
    | int j =>
      cases rx; cases ry
      obtain ⟨rfl, w⟩ := w
      exact ⟨i, 1, rfl, rfl, same_ok R (.int _) w c⟩
    | _ => exact absurd w id
  | _ => exact absurd w id

/-! ### places, slices, truth -/
def dIx (hu : Nat) : R2 := fun x y H Q => ∃ a v, x = .ref a ∧ DGet H a y (some v) ∧ Q v H
theorem ix_dict {X : Cx} (hu : X.A.units + 1 < cLine) : IxR X (dIx 0) := by
  intro value slice pins s σ H x y v u Q I rx ry h hs
  obtain ⟨a, z, rfl, g, q⟩ := h
  cases rx
  exact tail_any (dict_typeIs I g) PySem.F.slot_dict_getitem.lookup (d_getItem hu I g ry fun w' s3 I3 rw' => ⟨z, H, I3, rw', q⟩) hs
def rIxA (K : FK) : R2 := fun x y H Q => rIx K x y H Q ∨ dIx 0 x y H Q
theorem ix_any {X : Cx} (hu : X.A.units + 1 < cLine) : IxR X (rIxA X.K) := ix_seq.or (ix_dict hu)
theorem key_of {K : FK} {F : Hp} {y : D} {u : V} {k : Key} (r : Rep K F y u) (h : keyD y = some k) : u = kV k := by
  cases r <;> first
    | (cases h; rfl)
    | cases h
theorem look_of {K : FK} {F : Hp} : ∀ {ds : List (Key × D)} {vs : List (Key × V)} {k : Key} {d : D}, RepK K F ds vs → lookK ds k = some d → ∃ v, valV vs k = some v ∧ Rep K F d v
  | _, _, _, _, .nil, h => by cases h
  | _, _, k, d, @RepK.cons _ _ k0 d0 v0 ds vs r t, h => by
    unfold lookK at h
    by_cases e : k0 = k
    · rw [if_pos e] at h
      cases h
      exact ⟨v0, by simp [valV, List.find?_cons, e], r⟩
    · rw [if_neg e] at h
      obtain ⟨v, h1, h2⟩ := look_of t h
      refine ⟨v, ?_, h2⟩
      unfold valV at h1 ⊢
      rw [List.find?_cons]
      simp only [e, decide_false]
      exact h1
theorem ixL {K : FK} : OpL K (rIxA K) ixD := by
  intro Z F S H x y v u P Q R rx ry w c
  have list : ∀ (ds : List D) (i : Int) (d : D), lsx S x = some ds → y = .int i → atI ds i = some d → P d S → rIxA K v u H Q := by
    rintro ds i d e rfl hd p
    obtain ⟨a, vs, rfl, h1, r1⟩ := lsx_of R rx e
    obtain ⟨z, hz, rz⟩ := r1.atI hd
    cases ry
    exact .inl (.inl ⟨a, vs, i, z, rfl, rfl, h1, hz, same_ok R rz p c⟩)
  cases x with
  | tup ds =>
    cases y with
    | int i =>
      obtain ⟨d, hd, p⟩ := w
      obtain ⟨a, vs, rfl, h1, r1⟩ := rx.tup_
      obtain ⟨z, hz, rz⟩ := r1.atI hd
      cases ry
      exact .inl (.inr (.inl ⟨a, vs, i, z, rfl, rfl, sqT_mono R.fz h1, hz, same_ok R rz p c⟩))
    | _ => exact absurd w id
  | lst ds =>
    cases y with
    | int i =>
      obtain ⟨d, hd, p⟩ := w
      exact list ds i d rfl rfl hd p
    | _ => exact absurd w id
  | rls ds =>
    cases y with
    | int i =>
      obtain ⟨d, hd, p⟩ := w
      exact list ds i d rfl rfl hd p
    | _ => exact absurd w id
  | str z =>
    cases y with
    | int i =>
      obtain ⟨hl, ch, hc, p⟩ := w
      cases rx; cases ry
      exact .inl (.inr (.inr ⟨z, i, ch, rfl, rfl, hl, hc, same_ok R (.str _) p c⟩))
    | _ => exact absurd w id
  | ref a =>
    have w : ixC (S a) y S P := w
    cases e : S a with
    | none => rw [e] at w; exact absurd w id
    | some ce =>
      rw [e] at w
      cases ce with
      | lst ds =>
        cases y with
        | int i =>
          obtain ⟨d, hd, p⟩ := w
          exact list ds i d (show cL (S a) = some ds by rw [e]; rfl) rfl hd p
        | _ => exact absurd w id
      | dct ds =>
        obtain ⟨k, d, hk, hd, p⟩ := w
        obtain ⟨_, o, ho, cr⟩ := R.st a _ e
        obtain ⟨vs, rfl, rk⟩ := cr.dct
        obtain ⟨z, hz, rz⟩ := look_of rk hd
        cases rx
        obtain rfl := key_of ry hk
        refine .inr ⟨a, z, rfl, ?_, same_ok R rz p c⟩
        rw [← hz]
        exact DGet.k ho
  | _ => exact absurd w id

abbrev RSl := V → Option Int → Option Int → Hp → VK → Prop
def rSlX (K : FK) : RSl := fun x lo hi H Q => rSlL K x lo hi H Q ∨ rSlN K x lo hi H Q ∨ rSlS x lo hi H Q
theorem sl_any {X : Cx} : SlR X (rSlX X.K) := sl_list.or (sl_tupN.or sl_str)
theorem RepL.cut {K : FK} {F : Hp} {ds : List D} {vs : List V} (r : RepL K F ds vs) (lo hi : Option Int) : RepL K F (cutD ds lo hi) (cutV vs lo hi) := by
  unfold cutD cutV
  rw [r.length]
  exact (r.drop _).take _
theorem cut_whole {ds : List D} {lo hi : Option Int} (h : HT.sIx ds.length 0 lo = 0 ∧ HT.sIx ds.length ds.length hi = ds.length) : cutD ds lo hi = ds := by
  unfold cutD
  rw [h.1, h.2]
  simp
theorem slL {K : FK} {m : Bool} {Z F : Hp} {S : Sto} {H : Hp} {x : D} {v : V} {lo hi : Option Int} {P : EQ} {Q : VK} (R : RelH K Z F S H) (rx : Rep K F x v) (w : slD m x lo hi S P) (c : Ct K Z F P Q) : rSlX K v lo hi H Q := by
  have gen : (∃ ds, lsx S x = some ds ∧ nwL m (cutD ds lo hi) S P) → rSlX K v lo hi H Q := by
    rintro ⟨ds, e, w⟩
    obtain ⟨p, vs, rfl, h1, r1⟩ := lsx_of R rx e
    exact .inl ⟨p, vs, rfl, h1, nwL_ok R (r1.cut lo hi) w c⟩
  cases x with
  | tup ds =>
    obtain ⟨p, vs, rfl, h1, r1⟩ := rx.tup_
    refine .inr (.inl ⟨p, vs, rfl, sqT_mono R.fz h1, ?_, ?_⟩)
    · intro hw
      rw [← r1.length] at hw
      have w' : P (.tup (cutD ds lo hi)) S := w
      rw [cut_whole hw] at w'
      exact same_ok R rx w' c
    · intro _
      exact newT_ok R (r1.cut lo hi) w c
  | str z =>
    cases rx
    exact .inr (.inr ⟨z, rfl, w.1, same_ok R (.str _) w.2 c⟩)
  | _ => exact gen w
theorem truL {K : FK} {Z F : Hp} {S : Sto} {H : Hp} {x : D} {v : V} {P : Bool → Sto → Prop} (R : RelH K Z F S H) (rx : Rep K F x v) (w : truD x S P) : ∃ k, TruV K v H k ∧ P k S := by
  have emp : ∀ {ds : List D} {vs : List V}, RepL K F ds vs → (!ds.isEmpty) = !vs.isEmpty := by
    intro ds vs r
    cases r <;> rfl
  cases x with
  | non => cases rx; exact ⟨_, rfl, w⟩
  | bl b => cases rx; exact ⟨_, rfl, w⟩
  | int i => cases rx; exact ⟨_, rfl, w⟩
  | str z => cases rx; exact ⟨_, ⟨w.1, rfl⟩, w.2⟩
  | tup ds =>
    obtain ⟨p, vs, rfl, h1, r1⟩ := rx.tup_
    exact ⟨_, .inr (.inl ⟨vs, sqT_mono R.fz h1, emp r1⟩), w⟩
  | lst ds =>
    obtain ⟨p, vs, rfl, h1, r1⟩ := mls_of R rx (show mls S (.lst ds) = some ds from rfl)
    exact ⟨_, .inl ⟨vs, SqL.of h1, emp r1⟩, w⟩
  | ref a =>
    obtain ⟨ds, e, w⟩ := w
    obtain ⟨p, vs, rfl, h1, r1⟩ := mls_of R rx (show mls S (.ref a) = some ds from e)
    exact ⟨_, .inl ⟨vs, SqL.of h1, emp r1⟩, w⟩
  | _ => exact absurd w id
end GB

/-! GBx11: the sum of truths. -/
namespace PySem
open PySem.Spec PySem.W
def cntB : List Bool → Int
  | [] => 0
  | b :: bs => (if b = true then 1 else 0) + cntB bs
theorem preB : ∀ (f : Nat → Int) (bs : List Bool) (k : Nat), (∀ i, i < bs.length → f (k + i) = if bs.getD i false = true then 1 else 0) → preSum f (k + bs.length) = preSum f k + cntB bs
  | f, [], k, _ => by
    show preSum f k = preSum f k + 0
    omega
  | f, b :: bs, k, h => by
    have i := preB f bs (k + 1) fun i hi => by
      have := h (i + 1) (by rw [List.length_cons]; omega)
      rw [show k + 1 + i = k + (i + 1) by omega, this]
      rfl
    have h0 := h 0 (by rw [List.length_cons]; omega)
    rw [List.length_cons, show k + (bs.length + 1) = k + 1 + bs.length by omega, i]
    show preSum f k + f k + cntB bs = preSum f k + ((if b = true then 1 else 0) + cntB bs)
    have h0 : f k = if b = true then 1 else 0 := h0
    rw [h0]
    omega
theorem sum_bools {prog : Program} {w : World} {A : Around} {E : Value → Shared → Prop} {s : Shared} {l : Addr} {vs : Array Value} {bs : List Bool} {Q : Value → Shared → Prop} (hh : A.handled = none) (hl : s.heap.IsList l vs) (hb : vs.toList = bs.map Value.bool)
    (h : ∀ h' tk t', (∀ b o, s.heap.get? b = some o → h'.get? b = some o) → Q (.int (cntB bs) t') { s with heap := h', toks := tk }) : wpAny (model prog w) A (call (.builtin "sum") [.ref l]) Q E s := by
  have hn : vs.size = bs.length := by
    have := congrArg List.length hb
    simpa using this
  refine call_sum_walkAnyB (iter_listW (A := A.in1) hh hl fun s₂ e W st hfp hw hk => ?_)
  refine ⟨_, _, _, _, _, _, _, (fun i => if bs.getD i false = true then 1 else 0), rfl, W, st, hfp, fun i v hv => ?_, fun s' t' m => ?_⟩
  · have hv2 : vs.toList[i]? = some v := by
      rw [Array.getElem?_toList]
      exact hv
    rw [hb, List.getElem?_map] at hv2
    cases q : bs[i]? with
    | none => rw [q] at hv2; cases hv2
    | some b =>
      rw [q] at hv2
      cases hv2
      refine .inr ⟨b, rfl, ?_⟩
      show (if bs.getD i false = true then (1 : Int) else 0) = _
      rw [List.getD_eq_getElem?_getD, q]
      rfl
  · obtain ⟨h', tk, rfl, hk'⟩ := moved_old e rfl m
    have := preB (fun i => if bs.getD i false = true then 1 else 0) bs 0 fun i _ => by rw [Nat.zero_add]
    have e0 : preSum (fun i => if bs.getD i false = true then 1 else 0) vs.size = cntB bs := by
      rw [hn]
      rw [Nat.zero_add] at this
      rw [this]
      show 0 + cntB bs = cntB bs
      omega
    rw [e0]
    exact h h' tk t' hk'
end PySem
namespace GB
open PySem PySem.Spec PyProof.Rows L2
theorem vals_bls : ∀ {bs : List Bool} {us : List Value}, Vals (bs.map V.bl) us → us = bs.map Value.bool
  | [], _, .nil => rfl
  | b :: bs, _, .cons r t => by
    cases r
    rw [List.map_cons, vals_bls t]
def rSumA (K : FK) : List V → Hp → VK → Prop := fun vs H Q => rSum K vs H Q ∨ ∃ (a : Addr) (bs : List Bool), vs = [V.ref a] ∧ SqL K H a (bs.map V.bl) ∧ Q (.int (cntB bs)) H
theorem cr_sumA {X : Cx} (hc : X.calm = true) : CallR X (.builtin "sum") (rSumA X.K) := by
  intro pins s σ H vs us Q I r h
  rcases h with h | ⟨a, bs, rfl, hs, q⟩
  · exact cr_sum hc pins s σ H vs us Q I r h
  · obtain ⟨its, rv, hl, _⟩ := I.list hs
    rw [Vals.ref1 r]
    exact sum_bools (I.ok.hd hc) hl.isList (vals_bls rv) fun h' tk t' hk => ⟨.int _, H, I.kept hk, ⟨_, rfl⟩, q⟩
end GB

/-! GB6: built-in functions and methods of data. -/
namespace GB
open PySem PySem.Spec PyProof.Rows L2

/-! ### repr -/
def reprD (x : D) (S : Sto) (P : EQ) : Prop := ∃ n d, pyOf S n x = some d ∧ d.showable = true ∧ d.hasDict = false ∧ d.depth ≤ 60 ∧ d.shown.length ≤ sizeLine ∧ P (.str d.shown) S
def rRepr (K : FK) : List V → Hp → VK → Prop := fun xs H Q => ∃ x d, xs = [x] ∧ Dp K H x d ∧ d.showable = true ∧ d.hasDict = false ∧ d.depth ≤ 60 ∧ d.shown.length ≤ sizeLine ∧ Q (.str d.shown) H
theorem cr_repr {X : Cx} (hg : X.A.guards = some []) (hu : X.A.units + 64 < cLine) : CallR X (.builtin "repr") (rRepr X.K) := by
  intro pins s σ H xs us Q I rs h
  obtain ⟨x, d, rfl, hd, h1, h2, h3, h4, q⟩ := h
  obtain ⟨u, rfl, rx⟩ := vals1 rs
  have fin : ∀ (h' : Heap) (t : Tok) (tk : Nat), (∀ b o, s.heap.get? b = some o → h'.get? b = some o) → EP X pins σ Q (.str d.shown t) { s with heap := h', toks := tk } := by
    intro h' t tk k
    exact ⟨.str _, H, I.kept (t' := tk) k, ⟨_, rfl⟩, q⟩
  obtain ⟨as, rd⟩ := Dp.reads I d x u hd rx
  cases hd with
  | non => cases rx; exact PySem.P.repr_of_none (fin s.heap _ _ fun _ _ e => e)
  | bl b => cases rx; exact PySem.P.repr_of_bool (fin s.heap _ _ fun _ _ e => e)
  | int i =>
    obtain ⟨t, rfl⟩ := rx
    exact PySem.P.repr_of_int (of_decide_eq_true h1) (fin s.heap _ _ fun _ _ e => e)
  | str z =>
    obtain ⟨t, rfl⟩ := rx
    exact PySem.P.repr_of_str (fin s.heap _ _ fun _ _ e => e) h4
  | lst a b =>
    cases rx
    exact repr_of_reads' rd h1 (PyData.noDict_hsm h2) hg (by omega) (fun _ _ e => e) (fun h' u tk k => fin h' u tk k) h4
  | tup a b =>
    cases rx
    exact repr_of_reads' rd h1 (PyData.noDict_hsm h2) hg (by omega) (fun _ _ e => e) (fun h' u tk k => fin h' u tk k) h4

/-! ### built-ins by their data -/
abbrev OpdA := List D → Sto → EQ → Prop
def CaL (K : FK) (r : List V → Hp → VK → Prop) (o : OpdA) : Prop := ∀ (Z F : Hp) (S : Sto) (H : Hp) (xs : List D) (vs : List V) (P : EQ) (Q : VK), RelH K Z F S H → RepL K F xs vs → o xs S P → Ct K Z F P Q → r vs H Q
theorem RepL.one {K : FK} {F : Hp} {d : D} {vs : List V} (h : RepL K F [d] vs) : ∃ v, vs = [v] ∧ Rep K F d v := by
  cases h with
  | cons a b => cases b; exact ⟨_, rfl, a⟩
theorem RepL.two {K : FK} {F : Hp} {d e : D} {vs : List V} (h : RepL K F [d, e] vs) : ∃ v u, vs = [v, u] ∧ Rep K F d v ∧ Rep K F e u := by
  cases h with
  | cons a b =>
    obtain ⟨u, rfl, c⟩ := b.one
    exact ⟨_, u, rfl, a, c⟩

def lenO : OpdA := fun xs S P => match xs with
  | [.str z] => z.length ≤ sizeLine ∧ P (.int z.length) S
  | [.dct ds] => P (.int ds.length) S
  | [x] => ∃ ds, sqx S x = some ds ∧ P (.int ds.length) S
  | _ => False
def absO : OpdA := fun xs S P => match xs with
  | [.int i] => P (.int (if i < 0 then -i else i)) S
  | _ => False
def reprO : OpdA := fun xs S P => match xs with
  | [x] => reprD x S P
  | _ => False
def intO : OpdA := fun xs S P => match xs with
  | [.int i] => P (.int i) S
  | [.bl b] => P (.int (if b then 1 else 0)) S
  | _ => False
def strO : OpdA := fun xs S P => match xs with
  | [.int i] => i.natAbs.log2 < 1920 ∧ P (.str (toString i)) S
  | [.str z] => P (.str z) S
  | _ => False
def tupO : OpdA := fun xs S P => match xs with
  | [.tup ds] => P (.tup ds) S
  | [x] => ∃ ds, lsx S x = some ds ∧ P (.tup ds) S
  | _ => False
def lstO (m : Bool) : OpdA := fun xs S P => match xs with
  | [x] => ∃ ds, sqx S x = some ds ∧ nwL m ds S P
  | _ => False
def maxO : OpdA := fun xs S P => match xs with
  | [.int i, .int j] => P (.int (if j > i then j else i)) S
  | _ => False
def minO : OpdA := fun xs S P => match xs with
  | [.int i, .int j] => P (.int (if j < i then j else i)) S
  | _ => False
def blL : List D → Option (List Bool)
  | [] => some []
  | .bl b :: r => (match blL r with
    | some bs => some (b :: bs)
    | none => none)
  | _ :: _ => none
def allO : OpdA := fun xs S P => match xs with
  | [x] => ∃ ds bs, lsx S x = some ds ∧ blL ds = some bs ∧ P (.bl (bs.all id)) S
  | _ => False
def anyO : OpdA := fun xs S P => match xs with
  | [x] => ∃ ds bs, lsx S x = some ds ∧ blL ds = some bs ∧ P (.bl (bs.any id)) S
  | _ => False
theorem blL_of {K : FK} {F : Hp} : ∀ {ds : List D} {vs : List V} {bs : List Bool}, RepL K F ds vs → blL ds = some bs → vs = bs.map V.bl
  | _, _, bs, .nil, h => by
    cases h; rfl
  | _, _, bs, .cons (d := d) r t, h => by
    cases d with
    | bl b =>
      unfold blL at h
      cases q : blL _ with
      | none => rw [q] at h; cases h
      | some cs =>
        rw [q] at h
        cases h
        cases r
        rw [blL_of t q]; rfl
    | _ => cases h
def intL : List D → Option (List Int)
  | [] => some []
  | .int b :: r => (match intL r with
    | some bs => some (b :: bs)
    | none => none)
  | _ :: _ => none
theorem intL_of {K : FK} {F : Hp} : ∀ {ds : List D} {vs : List V} {bs : List Int}, RepL K F ds vs → intL ds = some bs → vs = bs.map V.int
  | _, _, bs, .nil, h => by
    cases h; rfl
  | _, _, bs, .cons (d := d) r t, h => by
    cases d with
    | int b =>
      unfold intL at h
      cases q : intL _ with
      | none => rw [q] at h; cases h
      | some cs =>
        rw [q] at h
        cases h
        cases r
        rw [intL_of t q]; rfl
    | _ => cases h
theorem repL_int {K : FK} {F : Hp} : ∀ ns : List Int, RepL K F (ns.map D.int) (ns.map V.int)
  | [] => .nil
  | n :: ns => .cons (.int n) (repL_int ns)
def sumO : OpdA := fun xs S P => match xs with
  | [x] => ∃ ds, lsx S x = some ds ∧ ((∃ ns, intL ds = some ns ∧ P (.int ns.sum) S) ∨ ∃ bs, blL ds = some bs ∧ P (.int (cntB bs)) S)
  | _ => False
def maxL : OpdA := fun xs S P => match xs with
  | [x] => ∃ ds ns, lsx S x = some ds ∧ intL ds = some ns ∧ 0 < ns.length ∧ ∀ m, m ∈ ns → (∀ y, y ∈ ns → y ≤ m) → P (.int m) S
  | _ => False
def minL : OpdA := fun xs S P => match xs with
  | [x] => ∃ ds ns, lsx S x = some ds ∧ intL ds = some ns ∧ 0 < ns.length ∧ ∀ m, m ∈ ns → (∀ y, y ∈ ns → m ≤ y) → P (.int m) S
  | _ => False
def srtO (m : Bool) : OpdA := fun xs S P => match xs with
  | [x] => ∃ ds ns, lsx S x = some ds ∧ intL ds = some ns ∧ ns.length < 64 ∧ ∀ ns' : List Int, ns'.Perm ns → ns'.Pairwise (· ≤ ·) → nwL m (ns'.map D.int) S P
  | _ => False
def biO (b : BI) (m : Bool) : OpdA := match b with
  | .len => lenO
  | .abs => absO
  | .repr => reprO
  | .int1 => intO
  | .str1 => strO
  | .tuple => tupO
  | .list => lstO m
  | .max2 => maxO
  | .min2 => minO
  | .all => allO
  | .any => anyO
  | .sum => sumO
  | .max1 => maxL
  | .min1 => minL
  | .srt => srtO m

/-- built-ins that can be asked in an except suite -/
def biHot : BI → Bool
  | .max2 | .min2 | .all | .any | .sum | .max1 | .min1 | .srt => false
  | _ => true
/-- what a built-in name stands for -/
def biV : BI → Str × Value
  | .len => ("len", .builtin "len")
  | .abs => ("abs", .builtin "abs")
  | .repr => ("repr", .builtin "repr")
  | .int1 => ("int", .type "int")
  | .str1 => ("str", .type "str")
  | .tuple => ("tuple", .type "tuple")
  | .list => ("list", .type "list")
  | .max2 => ("max", .builtin "max")
  | .min2 => ("min", .builtin "min")
  | .sum => ("sum", .builtin "sum")
  | .all => ("all", .builtin "all")
  | .any => ("any", .builtin "any")
  | .max1 => ("max", .builtin "max")
  | .min1 => ("min", .builtin "min")
  | .srt => ("sorted", .builtin "sorted")
theorem biV_boot : ∀ b : BI, bootBuiltins (biV b).1 = some (biV b).2 := by
  intro b
  cases b <;> decide +kernel
theorem biV_name : ∀ b : BI, (biV b).1 ≠ "__name__" ∧ ((biV b).1 == ("__debug__" : Str)) = false := by
  intro b
  cases b <;> decide +kernel

theorem Rep.dct_ {K : FK} {F : Hp} {ds : List (Key × D)} {v : V} (h : Rep K F (.dct ds) v) : ∃ p vs, v = .ref p ∧ F p = some (.dK vs) ∧ RepK K F ds vs := by cases h with | dct a b => exact ⟨_, _, rfl, a, b⟩
theorem RepK.length {K : FK} {F : Hp} : ∀ {ds : List (Key × D)} {vs : List (Key × V)}, RepK K F ds vs → ds.length = vs.length
  | _, _, .nil => rfl
  | _, _, .cons _ t => by rw [List.length_cons, List.length_cons, RepK.length t]
def rLenA (K : FK) : List V → Hp → VK → Prop := fun xs H Q => (∃ p ys, xs = [.ref p] ∧ (SqL K H p ys ∨ SqT K H p ys) ∧ Q (.int ys.length) H) ∨ (∃ z, xs = [.str z] ∧ z.length ≤ sizeLine ∧ Q (.int z.length) H) ∨
  (∃ p kvs, xs = [.ref p] ∧ H p = some (.dK kvs) ∧ Q (.int kvs.length) H)
theorem lenD_ok {X : Cx} : CallR X (.builtin "len") (fun xs H Q => ∃ p kvs, xs = [.ref p] ∧ H p = some (.dK kvs) ∧ Q (.int kvs.length) H) := by
  intro pins s σ H xs us Q I rs h
  obtain ⟨p, kvs, rfl, hp, q⟩ := h
  exact call_lenD pins s σ H _ us Q I rs ⟨p, kvs, rfl, hp, q⟩

theorem call_bi {X : Cx} {b : BI} (hc : biHot b = false → X.calm = true) (hg : X.A.guards = some []) (hu : X.A.units + 64 < cLine) (m : Bool) : ∃ r, CallR X (biV b).2 r ∧ CaL X.K r (biO b m) := by
  cases b with
  | len =>
    refine ⟨rLenA X.K, call_len_seq.or (call_len_str.or lenD_ok), ?_⟩
    intro Z F S H xs vs P Q R rx w c
    match xs, w with
    | [.str z], w =>
      obtain ⟨v, rfl, r⟩ := rx.one
      cases r
      exact .inr (.inl ⟨z, rfl, w.1, same_ok R (.int _) w.2 c⟩)
    | [.dct ds], w =>
      obtain ⟨v, rfl, r⟩ := rx.one
      obtain ⟨p, vs, rfl, h1, r1⟩ := r.dct_
      refine .inr (.inr ⟨p, vs, rfl, R.fz _ _ h1, ?_⟩)
      rw [← r1.length]
      exact same_ok R (.int _) w c
    | [.tup ds], w =>
      obtain ⟨v, rfl, r⟩ := rx.one
      obtain ⟨ds', e, w⟩ := w
      obtain ⟨p, vs, rfl, h1, r1⟩ := sqx_of R r e
      refine .inl ⟨p, vs, rfl, h1, ?_⟩
      rw [← r1.length]
      exact same_ok R (.int _) w c
    | [.lst ds], w =>
      obtain ⟨v, rfl, r⟩ := rx.one
      obtain ⟨ds', e, w⟩ := w
      obtain ⟨p, vs, rfl, h1, r1⟩ := sqx_of R r e
      refine .inl ⟨p, vs, rfl, h1, ?_⟩
      rw [← r1.length]
      exact same_ok R (.int _) w c
    | [.rls ds], w =>
      obtain ⟨v, rfl, r⟩ := rx.one
      obtain ⟨ds', e, w⟩ := w
      obtain ⟨p, vs, rfl, h1, r1⟩ := sqx_of R r e
      refine .inl ⟨p, vs, rfl, h1, ?_⟩
      rw [← r1.length]
      exact same_ok R (.int _) w c
    | [.ref a], w =>
      obtain ⟨v, rfl, r⟩ := rx.one
      obtain ⟨ds', e, w⟩ := w
      obtain ⟨p, vs, rfl, h1, r1⟩ := sqx_of R r e
      refine .inl ⟨p, vs, rfl, h1, ?_⟩
      rw [← r1.length]
      exact same_ok R (.int _) w c
    | [.non], w => obtain ⟨ds', e, w⟩ := w; cases e
    | [.bl _], w => obtain ⟨ds', e, w⟩ := w; cases e
    | [.int _], w => obtain ⟨ds', e, w⟩ := w; cases e
  | abs =>
    refine ⟨_, call_abs, ?_⟩
    intro Z F S H xs vs P Q R rx w c
    match xs, w with
    | [.int i], w =>
      obtain ⟨v, rfl, r⟩ := rx.one
      cases r
      exact ⟨i, rfl, same_ok R (.int _) w c⟩
  | repr =>
    refine ⟨_, cr_repr hg hu, ?_⟩
    intro Z F S H xs vs P Q R rx w c
    match xs, w with
    | [x], w =>
      obtain ⟨v, rfl, r⟩ := rx.one
      obtain ⟨n, d, h1, h2, h3, h4, h5, p⟩ := w
      exact ⟨v, d, rfl, py_of R n x v d r h1, h2, h3, h4, h5, same_ok R (.str _) p c⟩
  | int1 =>
    refine ⟨_, call_int1, ?_⟩
    intro Z F S H xs vs P Q R rx w c
    match xs, w with
    | [.int i], w =>
      obtain ⟨v, rfl, r⟩ := rx.one
      cases r
      exact .inl ⟨i, rfl, same_ok R (.int _) w c⟩
    | [.bl i], w =>
      obtain ⟨v, rfl, r⟩ := rx.one
      cases r
      exact .inr ⟨i, rfl, same_ok R (.int _) w c⟩
  | str1 =>
    refine ⟨_, call_str_int.or SkE.call_str_str, ?_⟩
    intro Z F S H xs vs P Q R rx w c
    match xs, w with
    | [.int i], w =>
      obtain ⟨v, rfl, r⟩ := rx.one
      cases r
      exact .inl ⟨i, rfl, w.1, same_ok R (.str _) w.2 c⟩
    | [.str i], w =>
      obtain ⟨v, rfl, r⟩ := rx.one
      cases r
      exact .inr ⟨i, rfl, same_ok R (.str _) w c⟩
  | tuple =>
    refine ⟨_, call_tuple_N, ?_⟩
    intro Z F S H xs vs P Q R rx w c
    have gen : ∀ x, xs = [x] → (∃ ds, lsx S x = some ds ∧ P (.tup ds) S) → ∃ p ys, vs = [.ref p] ∧ ((SqL X.K H p ys ∧ nwT ys Q H) ∨ (SqT X.K H p ys ∧ Q (.ref p) H)) := by
      rintro x rfl ⟨ds, e, w⟩
      obtain ⟨v, rfl, r⟩ := rx.one
      obtain ⟨p, us, rfl, h1, r1⟩ := lsx_of R r e
      exact ⟨p, us, rfl, .inl ⟨h1, newT_ok R r1 w c⟩⟩
    match xs, w with
    | [.tup ds], w =>
      obtain ⟨v, rfl, r⟩ := rx.one
      obtain ⟨p, us, rfl, h1, r1⟩ := r.tup_
      exact ⟨p, us, rfl, .inr ⟨sqT_mono R.fz h1, same_ok R r w c⟩⟩
    | [.lst ds], w => exact gen _ rfl w
    | [.rls ds], w => exact gen _ rfl w
    | [.ref ds], w => exact gen _ rfl w
    | [.non], w => obtain ⟨ds', e, w⟩ := w; cases e
    | [.bl _], w => obtain ⟨ds', e, w⟩ := w; cases e
    | [.int _], w => obtain ⟨ds', e, w⟩ := w; cases e
    | [.str _], w => obtain ⟨ds', e, w⟩ := w; cases e
    | [.dct _], w => obtain ⟨ds', e, w⟩ := w; cases e
  | list =>
    refine ⟨_, call_list_of, ?_⟩
    intro Z F S H xs vs P Q R rx w c
    match xs, w with
    | [x], w =>
      obtain ⟨v, rfl, r⟩ := rx.one
      obtain ⟨ds, e, w⟩ := w
      obtain ⟨p, us, rfl, h1, r1⟩ := sqx_of R r e
      exact ⟨p, us, rfl, h1, nwL_ok R r1 w c⟩
  | max2 =>
    refine ⟨_, call_max2 (hc rfl), ?_⟩
    intro Z F S H xs vs P Q R rx w c
    match xs, w with
    | [.int i, .int j], w =>
      obtain ⟨v, u, rfl, r, r2⟩ := rx.two
      cases r; cases r2
      exact ⟨i, j, rfl, same_ok R (.int _) w c⟩
  | min2 =>
    refine ⟨_, call_min2 (hc rfl), ?_⟩
    intro Z F S H xs vs P Q R rx w c
    match xs, w with
    | [.int i, .int j], w =>
      obtain ⟨v, u, rfl, r, r2⟩ := rx.two
      cases r; cases r2
      exact ⟨i, j, rfl, same_ok R (.int _) w c⟩
  | sum =>
    refine ⟨_, cr_sumA (hc rfl), ?_⟩
    intro Z F S H xs vs P Q R rx w c
    match xs, w with
    | [x], w =>
      obtain ⟨v, rfl, r⟩ := rx.one
      obtain ⟨ds, e, w⟩ := w
      obtain ⟨p, us, rfl, h1, r1⟩ := lsx_of R r e
      rcases w with ⟨ns, e2, w⟩ | ⟨bs, e2, w⟩
      · obtain rfl := intL_of r1 e2
        exact .inl ⟨p, ns, rfl, h1, same_ok R (.int _) w c⟩
      · obtain rfl := blL_of r1 e2
        exact .inr ⟨p, bs, rfl, h1, same_ok R (.int _) w c⟩
  | max1 =>
    refine ⟨_, cr_max (hc rfl), ?_⟩
    intro Z F S H xs vs P Q R rx w c
    match xs, w with
    | [x], w =>
      obtain ⟨v, rfl, r⟩ := rx.one
      obtain ⟨ds, ns, e, e2, w⟩ := w
      obtain ⟨p, us, rfl, h1, r1⟩ := lsx_of R r e
      obtain rfl := intL_of r1 e2
      exact ⟨p, ns, rfl, h1, w.1, fun m a b => same_ok R (.int _) (w.2 m a b) c⟩
  | min1 =>
    refine ⟨_, cr_min (hc rfl), ?_⟩
    intro Z F S H xs vs P Q R rx w c
    match xs, w with
    | [x], w =>
      obtain ⟨v, rfl, r⟩ := rx.one
      obtain ⟨ds, ns, e, e2, w⟩ := w
      obtain ⟨p, us, rfl, h1, r1⟩ := lsx_of R r e
      obtain rfl := intL_of r1 e2
      exact ⟨p, ns, rfl, h1, w.1, fun m a b => same_ok R (.int _) (w.2 m a b) c⟩
  | srt =>
    refine ⟨_, cr_sorted, ?_⟩
    intro Z F S H xs vs P Q R rx w c
    match xs, w with
    | [x], w =>
      obtain ⟨v, rfl, r⟩ := rx.one
      obtain ⟨ds, ns, e, e2, w⟩ := w
      obtain ⟨p, us, rfl, h1, r1⟩ := lsx_of R r e
      obtain rfl := intL_of r1 e2
      exact ⟨p, ns, rfl, h1, w.1, fun ns2 q a b hq => nwL_ok R (repL_int ns2) (w.2 ns2 a b) c q hq⟩
  | all =>
    refine ⟨_, cr_all (hc rfl), ?_⟩
    intro Z F S H xs vs P Q R rx w c
    match xs, w with
    | [x], w =>
      obtain ⟨v, rfl, r⟩ := rx.one
      obtain ⟨ds, bs, e, e2, w⟩ := w
      obtain ⟨p, us, rfl, h1, r1⟩ := lsx_of R r e
      obtain rfl := blL_of r1 e2
      exact ⟨p, bs, rfl, h1, same_ok R (.bl _) w c⟩
  | any =>
    refine ⟨_, cr_any (hc rfl), ?_⟩
    intro Z F S H xs vs P Q R rx w c
    match xs, w with
    | [x], w =>
      obtain ⟨v, rfl, r⟩ := rx.one
      obtain ⟨ds, bs, e, e2, w⟩ := w
      obtain ⟨p, us, rfl, h1, r1⟩ := lsx_of R r e
      obtain rfl := blL_of r1 e2
      exact ⟨p, bs, rfl, h1, same_ok R (.bl _) w c⟩
end GB

/-! GB7: weakest preconditions of the small syntax. -/
namespace GB
open PySem PySem.Spec PyProof.Rows L2

/-! ### methods, stores -/
def putD (ds : List (Key × D)) (k : Key) (v : D) : List (Key × D) :=
  if (ds.any fun kv => decide (kv.1 = k)) = true then ds.map (fun kv => if kv.1 = k then (kv.1, v) else kv) else ds ++ [(k, v)]
def setC (p : Addr) (c : Option Cell) (y z : D) (S : Sto) (P : Sto → Prop) : Prop := match c with
  | some (.lst ds) => ∃ k j, y = .int k ∧ ixN ds.length k = some j ∧ P (supd S p (.lst (ds.set j z)))
  | some (.dct ds) => ∃ k, keyD y = some k ∧ ds.length < sizeLine ∧ P (supd S p (.dct (putD ds k z)))
  | none => False
def setD (x y z : D) (S : Sto) (P : Sto → Prop) : Prop := match x with
  | .ref p => setC p (S p) y z S P
  | _ => False
/-- the receiver is a list of the store -/
def mtT (x : D) (S : Sto) : Prop := ∃ p ds, x = .ref p ∧ S p = some (.lst ds)
def mtO (f : MT) (x : D) (xs : List D) (S : Sto) (P : EQ) : Prop := match f with
  | .append => ∃ p ds y, x = .ref p ∧ xs = [y] ∧ S p = some (.lst ds) ∧ ds.length < sizeLine ∧ P .non (supd S p (.lst (ds ++ [y])))
  | .pop => ∃ p ds y, x = .ref p ∧ xs = [] ∧ S p = some (.lst ds) ∧ ds[ds.length - 1]? = some y ∧ P y (supd S p (.lst ds.dropLast))
  | .reverse => ∃ p ds, x = .ref p ∧ xs = [] ∧ S p = some (.lst ds) ∧ P .non (supd S p (.lst ds.reverse))
  | .clear => ∃ p ds, x = .ref p ∧ xs = [] ∧ S p = some (.lst ds) ∧ P .non (supd S p (.lst []))
  | .extend => ∃ p ds y es, x = .ref p ∧ xs = [y] ∧ S p = some (.lst ds) ∧ mls S y = some es ∧ ds.length + es.length ≤ sizeLine ∧ P .non (supd S p (.lst (ds ++ es)))
  | .insert => ∃ p ds i y, x = .ref p ∧ xs = [.int i, y] ∧ S p = some (.lst ds) ∧ ds.length < sizeLine ∧ 0 ≤ i ∧ i < 2 ^ 63 ∧ P .non (supd S p (.lst (ds.take i.toNat ++ [y] ++ ds.drop i.toNat)))
  | _ => False

/-! ### targets -/
mutual
def wG : G → D → Dts → Sto → (Dts → Prop) → Prop
  | .nm i, d, δ, _, P => P (δ.set i (some d))
  | .tp gs, d, δ, S, P => ∃ ds, sqx S d = some ds ∧ wGs gs ds δ S P
def wGs : Gs → List D → Dts → Sto → (Dts → Prop) → Prop
  | .nil, ds, δ, _, P => ds = [] ∧ P δ
  | .cons g r, ds, δ, S, P => ∃ d es, ds = d :: es ∧ wG g d δ S fun δ' => wGs r es δ' S P
end
mutual
def gSl : G → List Nat
  | .nm i => [i]
  | .tp gs => gsSl gs
def gsSl : Gs → List Nat
  | .nil => []
  | .cons g r => gSl g ++ gsSl r
end
def wipeD (δ : Dts) : List Nat → Dts
  | [] => δ
  | v :: vs => (wipeD δ vs).set v none

/-! ### expressions -/
structure WE2 where
  e : WpE
  t : WpT
def tv (we : WpE) : WpT := fun δ S P => we δ S fun x S1 => truD x S1 P
def both (we : WpE) : WE2 := ⟨we, tv we⟩
structure WEs where
  all : WpA
  an : WE2
  or : WE2
  ifs : WpT
/-- keys and values by turns -/
def kvL : List D → Option (List (Key × D))
  | [] => some []
  | [_] => none
  | k :: v :: r => match keyD k with
    | some q => (match kvL r with
      | some kvs => some ((q, v) :: kvs)
      | none => none)
    | none => none
def mergeD (kvs more : List (Key × D)) : List (Key × D) := more.foldl (fun acc kv => putD acc kv.1 kv.2) kvs
def rngD (lo : Int) (n : Nat) : List D := (List.range n).map fun (i : Nat) => D.int (lo + (i : Int))
def dwnD (lo : Int) (n : Nat) : List D := (List.range n).map fun (i : Nat) => D.int (lo + (i : Int) * (-1))
def enuD (n : Nat) : List D → List D
  | [] => []
  | d :: ds => .tup [.int (n : Int), d] :: enuD (n + 1) ds
def zipD : List D → List D → List D
  | a :: as, b :: bs => .tup [a, b] :: zipD as bs
  | _, _ => []
abbrev WpI := Dts → Sto → (List D → (Sto → Prop) → Sto → Prop) → Prop
def ItP (x : D) (S : Sto) (P : List D → (Sto → Prop) → Sto → Prop) : Prop := match x with
  | .tup ds => P ds (fun _ => True) S
  | .lst ds => P ds (fun _ => True) S
  | .rls ds => P ds (fun _ => True) S
  | .ref p => ∃ ds, cL (S p) = some ds ∧ P ds (fun S' => cL (S' p) = some ds) S
  | .str z => P (z.cps.toList.map fun c => D.str ⟨#[c]⟩) (fun _ => True) S
  | _ => False
/-- only lists -/
def ItL (x : D) (S : Sto) (P : List D → (Sto → Prop) → Sto → Prop) : Prop := match x with
  | .lst ds => P ds (fun _ => True) S
  | .rls ds => P ds (fun _ => True) S
  | .ref p => ∃ ds, cL (S p) = some ds ∧ P ds (fun S' => cL (S' p) = some ds) S
  | _ => False
def ItQ (x : D) (S : Sto) (P : List D → (Sto → Prop) → Sto → Prop) : Prop := match x with
  | .tup ds => P ds (fun _ => True) S
  | .lst ds => P ds (fun _ => True) S
  | .rls ds => P ds (fun _ => True) S
  | .ref p => ∃ ds, cL (S p) = some ds ∧ P ds (fun S' => cL (S' p) = some ds) S
  | _ => False
def R62 (i : Int) : Prop := -(2 ^ 62) ≤ i ∧ i < 2 ^ 62
/-- the turns of a comprehension -/
def wLc (m : Bool) (tg : G) (ifs : WpT) (elt : WpE) (src : Sto → Prop) (δ : Dts) (P : EQ) : List D → List D → Sto → Prop
  | [], acc, S => nwL m acc S P
  | d :: ds, acc, S => wG tg d δ S fun δ' => ifs δ' S fun b S3 => if b = true then elt δ' S3 fun y S4 => src S4 ∧ acc.length < sizeLine ∧ wLc m tg ifs elt src δ P ds (acc ++ [y]) S4
    else src S3 ∧ wLc m tg ifs elt src δ P ds acc S3

def isCmpTrue (P : Bool → Sto → Prop) : EQ := fun x S => ∃ k, x = .bl k ∧ P k S
def frzC (p : Addr) (c : Option Cell) (S : Sto) (P : EQ) : Prop := match c with
  | some (.lst ds) => P (.lst ds) (sdel S p)
  | some (.dct ds) => P (.dct ds) (sdel S p)
  | none => False
def frzD (x : D) (S : Sto) (P : EQ) : Prop := match x with
  | .ref p => frzC p (S p) S P
  | x => P x S
/-- xs[::2] -/
def evn {α : Type} (xs : List α) : List α := (List.range ((xs.length + 1) / 2)).filterMap fun k => xs[2 * k]?
def sl2D (m : Bool) (x : D) (S : Sto) (P : EQ) : Prop := ∃ ds, lsx S x = some ds ∧ nwL m (evn ds) S P
def slrD (m : Bool) (x : D) (S : Sto) (P : EQ) : Prop := match x with
  | .tup ds => P (.tup ds.reverse) S
  | x => ∃ ds, lsx S x = some ds ∧ nwL m ds.reverse S P
def zipP (x y : D) (S : Sto) (P : List D → (Sto → Prop) → Sto → Prop) : Prop := match x with
  | .tup as => (match y with
    | .tup bs => P (zipD as bs) (fun _ => True) S
    | y => ItL y S fun bs s2 S3 => P (zipD as bs) s2 S3)
  | x => ItL x S fun as s1 S3 => ItL y S3 fun bs s2 S4 => P (zipD as bs) (fun S => s1 S ∧ s2 S) S4
/-- its class is known, and has such a field -/
def hotC (h : Option (Addr × Ex)) (ct : List Str) : Prop := match h with
  | some (_, x) => x.cls ∈ ct
  | none => False
def hotF (h : Option (Addr × Ex)) (ct : List Str) (f : Str) : Prop := match h with
  | some (_, x) => x.cls ∈ ct ∧ f ∈ exFs x.cls
  | none => False
/-- isinstance of the exception that is handled -/
def isxD (h : Option (Addr × Ex)) (cs : List Str) (v : D) (S : Sto) (P : EQ) : Prop := match h with
  | some (a, x) => v = .ref a ∧ P (.bl (cs.any fun c => subC x.cls c)) S
  | none => False
/-- its field -/
def fldD (h : Option (Addr × Ex)) (f : Str) (v : D) (S : Sto) (P : EQ) : Prop := match h with
  | some (a, x) => v = .ref a ∧ ∃ d, x.fs.lookup f = some d ∧ P d S
  | none => False
/-- a def called while it is handled -/
def clhD (h : Option (Addr × Ex)) (sp : Addr × Ex → Spec) (ds : List D) (S : Sto) (P : EQ) : Prop := match h with
  | some p => sp p ds S P fun _ _ => False
  | none => False
mutual
def w (X : XP) : E → WE2
  | .v i => both fun δ S P => ∃ d, δ[i]? = some (some d) ∧ P d S
  | .cN => both fun _ S P => P .non S
  | .cB b => both fun _ S P => P (.bl b) S
  | .cI i => both fun _ S P => P (.int i) S
  | .cS x => both fun _ S P => P (.str x) S
  | .gl _ d => both fun _ S P => P d S
  | .bin o m a b => both (wBin (binD o m) (w X a).e (w X b).e)
  | .neg a => both fun δ S P => (w X a).e δ S fun x S1 => negD x S1 P
  | .cmp o a b => ⟨wBin (cmpD o) (w X a).e (w X b).e, fun δ S P => wBin (cmpD o) (w X a).e (w X b).e δ S (isCmpTrue P)⟩
  | .cmp2 o o2 a b c =>
    let f : WpE := fun δ S P => (w X a).e δ S fun x S1 => (w X b).e δ S1 fun y S2 => cmpD o x y S2 fun r S3 => ∃ k, r = .bl k ∧ if k = true then (w X c).e δ S3 fun z S4 => cmpD o2 y z S4 P else P (.bl false) S3
    ⟨f, fun δ S P => f δ S (isCmpTrue P)⟩
  | .and_ es => (ws X es).an
  | .or_ es => (ws X es).or
  | .not_ a => ⟨fun δ S P => (w X a).e δ S fun x S1 => truD x S1 fun b S2 => P (.bl (!b)) S2, fun δ S P => (w X a).t δ S fun b S1 => P (!b) S1⟩
  | .ite t a b => ⟨fun δ S P => (w X t).t δ S fun k S1 => if k = true then (w X a).e δ S1 P else (w X b).e δ S1 P, fun δ S P => (w X t).t δ S fun k S1 => if k = true then (w X a).t δ S1 P else (w X b).t δ S1 P⟩
  | .tup es => both fun δ S P => (ws X es).all δ S fun ds S1 => ds.length ≤ sizeLine ∧ P (.tup ds) S1
  | .lst m es => both fun δ S P => (ws X es).all δ S fun ds S1 => ds.length ≤ sizeLine ∧ nwL m ds S1 P
  | .dct m es => both fun δ S P => (ws X es).all δ S fun ds S1 => ∃ kvs, kvL ds = some kvs ∧ nwD m (mergeD [] kvs) S1 P
  | .ix a i => both (wBin ixD (w X a).e (w X i).e)
  | .sl m a lo hi => both fun δ S P => (w X a).e δ S fun x S1 => wo X lo δ S1 fun l S2 => wo X hi δ S2 fun h S3 => slD m x l h S3 P
  | .slr m a => both fun δ S P => (w X a).e δ S fun x S1 => slrD m x S1 P
  | .call _ sp es => both fun δ S P => (ws X es).all δ S fun ds S1 => sp ds S1 P fun x S2 => X.x x δ S2
  | .bi b m es => both fun δ S P => (ws X es).all δ S fun ds S1 => biO b m ds S1 P
  | .mt f a es => both fun δ S P => (w X a).e δ S fun x S1 => mtT x S1 ∧ (ws X es).all δ S1 fun ds S2 => mtO f x ds S2 P
  | .lc m elt tg it ifs => both fun δ S P => wi X it δ S fun ds src S1 => wLc m tg (ws XP0 ifs).ifs (w XP0 elt).e src (wipeD δ (gSl tg)) P ds [] S1
  | .frz a => ⟨fun δ S P => (w X a).e δ S fun x S1 => frzD x S1 P, (w X a).t⟩
  | .isi t a => both fun δ S P => (w X a).e δ S fun x S1 => isiD t x S1 P
  | .cnt a b => both fun δ S P => (w X a).e δ S fun x S1 => (∃ ds, sqx S1 x = some ds) ∧ (w X b).e δ S1 fun y S2 => cntD x y S2 P
  | .sl2 m a => both fun δ S P => (w X a).e δ S fun x S1 => sl2D m x S1 P
  | .dget a b c => both fun δ S P => (w X a).e δ S fun x S1 => (∃ p ds, x = .ref p ∧ S1 p = some (.dct ds)) ∧ (w X b).e δ S1 fun y S2 => (w X c).e δ S2 fun z S3 => getD x y z S3 P
  | .idx a b => both fun δ S P => (w X a).e δ S fun x S1 => (∃ ds, sqx S1 x = some ds) ∧ (w X b).e δ S1 fun y S2 => idxD x y S2 P
  | .lrg1 m b => both fun δ S P => (w X b).e δ S fun y S1 => ∃ j, y = .int j ∧ (R62 j ∧ j ≤ 10000) ∧ nwL m (rngD 0 j.toNat) S1 P
  | .lrg2 m a b => both fun δ S P => (w X a).e δ S fun x S1 => (w X b).e δ S1 fun y S2 => ∃ i j, x = .int i ∧ y = .int j ∧ (R62 i ∧ R62 j ∧ j - i ≤ 10000) ∧ nwL m (rngD i (j - i).toNat) S2 P
  | .isx ct a cs => both fun δ S P => hotC X.h ct ∧ (w X a).e δ S fun v S1 => isxD X.h cs v S1 P
  | .fld ct a f => both fun δ S P => hotF X.h ct f ∧ (w X a).e δ S fun v S1 => fldD X.h f v S1 P
  | .callh _ sp es => both fun δ S P => (ws X es).all δ S fun ds S1 => clhD X.h sp ds S1 P
def ws (X : XP) : Es → WEs
  | .nil => ⟨fun _ S P => P [] S, both (fun _ _ _ => False), both (fun _ _ _ => False), fun _ S P => P true S⟩
  | .cons a .nil => ⟨fun δ S P => (w X a).e δ S fun x S1 => P [x] S1, w X a, w X a, (w X a).t⟩
  | .cons a (.cons b r) => ⟨fun δ S P => (w X a).e δ S fun x S1 => (ws X (.cons b r)).all δ S1 fun xs S2 => P (x :: xs) S2,
    ⟨fun δ S P => (w X a).e δ S fun x S1 => truD x S1 fun k S2 => if k = true then (ws X (.cons b r)).an.e δ S2 P else P x S2, fun δ S P => (w X a).t δ S fun k S1 => if k = true then (ws X (.cons b r)).an.t δ S1 P else P false S1⟩,
    ⟨fun δ S P => (w X a).e δ S fun x S1 => truD x S1 fun k S2 => if k = true then P x S2 else (ws X (.cons b r)).or.e δ S2 P, fun δ S P => (w X a).t δ S fun k S1 => if k = true then P true S1 else (ws X (.cons b r)).or.t δ S1 P⟩, fun _ _ _ => False⟩
def wo (X : XP) : Eo → Dts → Sto → (Option Int → Sto → Prop) → Prop
  | .none => fun _ S P => P none S
  | .some e => fun δ S P => (w X e).e δ S fun x S1 => ∃ i, x = .int i ∧ P (some i) S1
def wi (X : XP) : It' → WpI
  | .val a => fun δ S P => (w X a).e δ S fun x S1 => ItP x S1 P
  | .r1 a => fun δ S P => (w X a).e δ S fun x S1 => ∃ j, x = .int j ∧ R62 j ∧ P (rngD 0 j.toNat) (fun _ => True) S1
  | .r2 a b => fun δ S P => (w X a).e δ S fun x S1 => (w X b).e δ S1 fun y S2 => ∃ i j, x = .int i ∧ y = .int j ∧ (R62 i ∧ R62 j) ∧ P (rngD i (j - i).toNat) (fun _ => True) S2
  | .r3 a b c => fun δ S P => (w X a).e δ S fun x S1 => (w X b).e δ S1 fun y S2 => (w X c).e δ S2 fun z S3 => ∃ i j, x = .int i ∧ y = .int j ∧ z = .int (-1) ∧ (R62 i ∧ R62 j) ∧ P (dwnD i (i - j).toNat) (fun _ => True) S3
  | .enum a => fun δ S P => (w X a).e δ S fun x S1 => ItQ x S1 fun ds src S2 => P (enuD 0 ds) src S2
  | .zip a b => fun δ S P => (w X a).e δ S fun x S1 => (w X b).e δ S1 fun y S2 => zipP x y S2 P
  | .rev a => fun δ S P => (w X a).e δ S fun x S1 => ItQ x S1 fun ds src S2 => P ds.reverse src S2
end
end GB

/-! GB8: statements; the look that a tree of the text is a small tree. -/
namespace GB
open PySem PySem.Spec PyProof.Rows L2

/-! ### statements -/
def parD : List Nat → List D → Dts → Dts
  | i :: is, d :: ds, δ => parD is ds (δ.set i (some d))
  | _, _, δ => δ
def wFor (g : G) (body : WpS) (src : Sto → Prop) (P : Pst) : List D → Dts → Sto → Prop
  | [], δ, S => P.nx δ S
  | d :: ds, δ, S => wG g d δ S fun δ' => body ⟨fun δ2 S2 => src S2 ∧ wFor g body src P ds δ2 S2, P.rt, P.nx, fun δ2 S2 => src S2 ∧ wFor g body src P ds δ2 S2⟩ δ' S
def wWh (t : WpT) (body : WpS) (P : Pst) : Nat → Dts → Sto → Prop
  | 0, _, _ => False
  | n + 1, δ, S => t δ S fun b S1 => if b = true then body ⟨wWh t body P n, P.rt, P.nx, wWh t body P n⟩ δ S1 else P.nx δ S1
/-- an own exception, made -/
def mkEx (c : Str) (ds : List D) : Option Ex := match exFs c, ds with
  | [], [_] => some ⟨c, []⟩
  | [f], [d] => some ⟨c, [(f, d)]⟩
  | [f, g], [d, e] => some ⟨c, [(g, e), (f, d)]⟩
  | _, _ => none
/-- the name of an except clause goes -/
def wpP (i : Nat) (P : Pst) : Pst := ⟨fun δ S => P.nx (δ.set i none) S, P.rt, fun δ S => P.bk (δ.set i none) S, fun δ S => P.ct (δ.set i none) S⟩
mutual
def wS (X : XP) : Sm → WpS
  | .asg g e => fun P δ S => (w X e).e δ S fun x S1 => wG g x δ S1 fun δ' => P.nx δ' S1
  | .par is es => fun P δ S => (ws X es).all δ S fun ds S1 => ds.length = is.length ∧ P.nx (parD is ds δ) S1
  | .asgL i e => fun P δ S => (w X e).e δ S fun x S1 => P.nx (δ.set i (some x)) S1
  | .swp a i b j e => fun P δ S => (w X e).e δ S fun d S1 => ∃ u v, d = .tup [u, v] ∧ (w X a).e δ S1 fun x S2 => (w X i).e δ S2 fun y S3 => setD x y u S3 fun S4 => (w X b).e δ S4 fun x2 S5 => (w X j).e δ S5 fun y2 S6 => setD x2 y2 v S6 fun S7 => P.nx δ S7
  | .setI a i e => fun P δ S => (w X e).e δ S fun z S1 => (w X a).e δ S1 fun x S2 => (w X i).e δ S2 fun y S3 => setD x y z S3 fun S4 => P.nx δ S4
  | .ex e => fun P δ S => (w X e).e δ S fun _ S1 => P.nx δ S1
  | .ite t a b => fun P δ S => (w X t).t δ S fun k S1 => if k = true then wSs X a P δ S1 else wSs X b P δ S1
  | .for_ g it b => fun P δ S => wi X it δ S fun ds src S1 => wFor g (wSs X b) src P ds δ S1
  | .wh t b => fun P δ S => ∃ n, wWh (w X t).t (wSs X b) P n δ S
  | .ret e => fun P δ S => (w X e).e δ S fun x S1 => P.rt x S1
  | .retN => fun P δ S => P.rt .non S
  | .pass => fun P δ S => P.nx δ S
  | .brk => fun P δ S => P.bk δ S
  | .cont => fun P δ S => P.ct δ S
  | .rz => fun _ _ _ => False
  | .raise_ c es => fun _ δ S => (ws X es).all δ S fun ds S1 => ∃ e, mkEx c ds = some e ∧ X.x e δ S1
  | .try_ ct b hs => fun P δ S => wSs ⟨fun x δ' S' => x.cls ∈ ct ∧ wH X hs P x δ' S', X.h⟩ b P δ S
def wH (X : XP) : Hds → Pst → Ex → Dts → Sto → Prop
  | .nil => fun _ x δ S => X.x x δ S
  | .cons c none su r => fun P x δ S => if subC x.cls c = true then ∀ a, wSs ⟨fun _ _ _ => False, some (a, x)⟩ su P δ S else wH X r P x δ S
  | .cons c (some i) su r => fun P x δ S => if subC x.cls c = true then ∀ a, wSs ⟨fun _ _ _ => False, some (a, x)⟩ su (wpP i P) (δ.set i (some (.ref a))) S else wH X r P x δ S
def wSs (X : XP) : Sms → WpS
  | .nil => fun P δ S => P.nx δ S
  | .cons s r => fun P δ S => wS X s ⟨wSs X r P, P.rt, P.bk, P.ct⟩ δ S
end

/-! ### what a tree leans on -/
structure Tx where
  P : Program
  w : World
  K : FK
  mg : MG
  base : Heap
def Callee (T : Tx) (k : Nat) (x : Str) (sp : Spec) : Prop := ∃ f fd ps, T.mg x = some (.ref f) ∧ PySem.W.keepIn T.K (.ref f) = true ∧ Binds T.K fd ps [] ∧ FOk T.P T.w T.K T.mg T.base k f fd ps (LSp T.K T.mg sp)
def Global (T : Tx) (x : Str) (d : D) : Prop := ∃ u v, T.mg x = some u ∧ RelV v u ∧ ∀ F, Rep T.K F d v
inductive Nd where
  | call (x : Str) (sp : Spec)
  | glob (x : Str) (d : D)
  | free (x : Str)
  | exc (ct : List Str)
  | rz (c : Str)
  | callh (x : Str) (sp : Addr × Ex → Spec)
/-- as FnOk, called while an exception is handled, raising nothing -/
structure FHk (P : Program) (w : World) (K : FK) (mg : MG) (base : Heap) (k : Nat) (f : Addr) (fd : FuncData) (ps : List Str) (sp : Addr × Ex → Spec) : Prop where
  len : ∀ p ds S Q U, sp p ds S Q U → ds.length = ps.length
  run : ∀ (A : Around) (outer : List Env) (s : Shared) (H : Hp) (args : Args) (us : List Value) (vs : List V) (Q : VK) (p : Addr × Obj) (x : Ex) (cls : Value) (d : Option Addr) (Z F : Hp) (S : Sto) (ds : List D) (Pq : EQ),
    L2H.RoomH k A → A.guards = some [] → L2H.PinOk outer H s p → Zc cls d p.2 → (∃ vs, p.2.data = .fields vs) → XRep K mg F x cls d → Env0 P w K mg base A outer s H → BindsTo s fd args (ps.zip us) → Vals vs us →
    RelH K Z F S H → RepL K F ds vs → sp (p.1, x) ds S Pq (fun _ _ => False) → Ct K Z F Pq Q →
    codeAny (model P w) A (.call (.ref f) args) (CR (L2.CX P w) outer P w H s Q fun _ _ _ => False) s
def CalleeH (T : Tx) (k : Nat) (x : Str) (sp : Addr × Ex → Spec) : Prop := ∃ f fd ps, T.mg x = some (.ref f) ∧ PySem.W.keepIn T.K (.ref f) = true ∧ Binds T.K fd ps [] ∧ FHk T.P T.w T.K T.mg T.base k f fd ps sp
/-- the class can be raised -/
def CanR (T : Tx) (k : Nat) (c : Str) : Prop := T.mg c = some (.ref (He.ga T.K c)) ∧ (c == ("__debug__" : Str)) = false ∧ 2 ≤ k ∧ (∃ ct, ExC T.K ct c) ∧
  (exFs c ≠ [] → ∃ fd ps, ps.length = (exFs c).length + 1 ∧ FnOk T.P T.w T.K T.mg T.base (L2.CX T.P T.w) 1 (He.ma T.K (He.ga T.K c) "__init__") fd ps (spIni (He.ga T.K c) (exFs c)) ∧ Binds T.K fd ps [])
def ExT (T : Tx) (ct : List Str) : Prop := T.mg "isinstance" = none ∧ T.mg "ValueError" = none ∧ ∀ n ∈ ct, T.mg n = some (.ref (He.ga T.K n)) ∧ ExC T.K ct n ∧ (n == ("__debug__" : Str)) = false ∧ n ≠ "__name__"
def Nd.ok (T : Tx) (k : Nat) : Nd → Prop
  | .call x sp => Callee T k x sp
  | .glob x d => Global T x d
  | .free x => T.mg x = none
  | .exc ct => ExT T ct
  | .rz c => CanR T k c
  | .callh x sp => CalleeH T k x sp
mutual
def nd : E → List Nd
  | .v _ | .cN | .cB _ | .cI _ | .cS _ => []
  | .gl x d => [.glob x d]
  | .bin _ _ a b => nd a ++ nd b
  | .neg a => nd a
  | .cmp _ a b => nd a ++ nd b
  | .cmp2 _ _ a b c => nd a ++ (nd b ++ nd c)
  | .and_ es => nds es
  | .or_ es => nds es
  | .not_ a => nd a
  | .ite t a b => nd t ++ (nd a ++ nd b)
  | .tup es => nds es
  | .lst _ es => nds es
  | .dct _ es => nds es
  | .ix a i => nd a ++ nd i
  | .sl _ a lo hi => nd a ++ (ndo lo ++ ndo hi)
  | .slr _ a => nd a
  | .call x sp es => .call x sp :: nds es
  | .bi b _ es => .free (biV b).1 :: nds es
  | .mt _ a es => nd a ++ nds es
  | .lc _ elt _ it ifs => nd elt ++ (ndi it ++ nds ifs)
  | .frz a => nd a
  | .isi t a => .free "isinstance" :: .free t.nm :: nd a
  | .cnt a b => nd a ++ nd b
  | .sl2 _ a => nd a
  | .dget a b c => nd a ++ (nd b ++ nd c)
  | .idx a b => nd a ++ nd b
  | .lrg1 _ b => .free "list" :: .free "range" :: nd b
  | .lrg2 _ a b => .free "list" :: .free "range" :: (nd a ++ nd b)
  | .isx ct a _ => .exc ct :: nd a
  | .fld ct a _ => .exc ct :: nd a
  | .callh x sp es => .callh x sp :: nds es
def nds : Es → List Nd
  | .nil => []
  | .cons e r => nd e ++ nds r
def ndo : Eo → List Nd
  | .none => []
  | .some e => nd e
def ndi : It' → List Nd
  | .val a => nd a
  | .r1 a => .free "range" :: nd a
  | .r2 a b => .free "range" :: (nd a ++ nd b)
  | .r3 a b c => .free "range" :: (nd a ++ (nd b ++ nd c))
  | .enum a => .free "enumerate" :: nd a
  | .zip a b => .free "zip" :: (nd a ++ nd b)
  | .rev a => .free "reversed" :: nd a
end
mutual
def nS : Sm → List Nd
  | .asg _ e => nd e
  | .par _ es => nds es
  | .asgL _ e => nd e
  | .swp a i b j e => nd a ++ (nd i ++ (nd b ++ (nd j ++ nd e)))
  | .setI a i e => nd a ++ (nd i ++ nd e)
  | .ex e => nd e
  | .ite t a b => nd t ++ (nSs a ++ nSs b)
  | .for_ _ it b => ndi it ++ nSs b
  | .wh t b => nd t ++ nSs b
  | .ret e => nd e
  | .retN | .pass | .brk | .cont | .rz => []
  | .raise_ c es => .rz c :: nds es
  | .try_ ct b hs => .exc ct :: (nSs b ++ nHs hs)
def nHs : Hds → List Nd
  | .nil => []
  | .cons _ _ su r => nSs su ++ nHs r
def nSs : Sms → List Nd
  | .nil => []
  | .cons s r => nS s ++ nSs r
end

/-! ### the look -/
/-- a def's body, a comprehension's block, an except suite (or a def called there) -/
inductive Md where | df | bk | ht
def Md.nb : Md → Bool
  | .bk => false
  | _ => true
def Md.cold : Md → Bool
  | .ht => false
  | _ => true
def Md.hot : Md → Bool
  | .ht => true
  | _ => false
def Md.isDf : Md → Bool
  | .df => true
  | _ => false
def inB (N : List Str) (i : Nat) (x : Str) : Bool := match N[i]? with
  | some y => decide (y = x)
  | none => false
def visB (N : List Str) (sc : Scope) (i : Nat) (x : Str) : Bool :=
  inB N i x && ((match sc.names.lookup x with
    | some .local => true
    | some .cell => true
    | some .free => true
    | _ => false) && (!(x == ("__debug__" : Str)) && !(x == ("__classdict__" : Str))))
def isLoc (sc : Scope) (x : Str) : Bool := match sc.names.lookup x with
  | some .local => true
  | _ => false
def isCell (sc : Scope) (x : Str) : Bool := match sc.names.lookup x with
  | some .cell => true
  | _ => false
def locB (N : List Str) (sc : Scope) (blk : Md) (i : Nat) (x : Str) : Bool := inB N i x && (isLoc sc x || (blk.nb && isCell sc x))
def glB (sc : Scope) (x : Str) : Bool := (match sc.names.lookup x with
  | some .globalImplicit => true
  | _ => false) && !(x == ("__debug__" : Str))
/-- a comprehension's target that an inner comprehension holds: a cell of the block's own -/
def ownG (N : List Str) (scope : Scope) : G → Expr → Bool
  | .nm i, .Name x _ => inB N i x && isCell scope x
  | _, _ => false
def bopB : BOp → Operator → Bool
  | .add, .Add => true
  | .sub, .Sub => true
  | .mul, .Mult => true
  | .fdiv, .FloorDiv => true
  | .mod, .Mod => true
  | .pow, .Pow => true
  | .shl, .LShift => true
  | .shr, .RShift => true
  | .band, .BitAnd => true
  | _, _ => false
def copB : COp → CmpOp → Bool
  | .eq, .Eq => true
  | .ne, .NotEq => true
  | .lt, .Lt => true
  | .le, .LtE => true
  | .gt, .Gt => true
  | .ge, .GtE => true
  | .isN, .Is => true
  | .noN, .IsNot => true
  | .inn, .In => true
  | .nin, .NotIn => true
  | _, _ => false
def inB2 : COp → Bool
  | .inn => true
  | .nin => true
  | _ => false
def nst : Expr → Bool
  | .Starred .. => false
  | _ => true
def nSlice : Expr → Bool
  | .Slice .. => false
  | _ => true
def nCall : Expr → Bool
  | .Call .. => false
  | _ => true
def nComp : Expr → Bool
  | .ListComp .. => false
  | .SetComp .. => false
  | .DictComp .. => false
  | _ => true
def nTuple : Expr → Bool
  | .Tuple .. => false
  | _ => true
def nSet : Expr → Bool
  | .Set .. => false
  | _ => true
def mtN : MT → Str
  | .append => "append"
  | .pop => "pop"
  | .popAt => "pop"
  | .reverse => "reverse"
  | .clear => "clear"
  | .extend => "extend"
  | .insert => "insert"
  | .count => "count"
  | .index => "index"
/-- how many arguments (of the methods that are carried) -/
def mtA : MT → Option Nat
  | .append => some 1
  | .pop => some 0
  | .reverse => some 0
  | .clear => some 0
  | .extend => some 1
  | .insert => some 2
  | _ => none
def bOpB (o : BoolOp) (a : Bool) : Bool := match o with
  | .And => a
  | .Or => !a
/-- classes: one, or a tuple of them -/
def chkC1 (sc : Scope) (ct : List Str) (c : Str) : Expr → Bool
  | .Name y _ => decide (y = c) && (glB sc y && (ct.contains c || decide (c = ("ValueError" : Str))))
  | _ => false
def chkCs (sc : Scope) (ct : List Str) : List Str → List Expr → Bool
  | [], [] => true
  | c :: cs, p :: ps => chkC1 sc ct c p && chkCs sc ct cs ps
  | _, _ => false
def chkC (sc : Scope) (ct : List Str) : List Str → Expr → Bool
  | cs, .Tuple ps _ _ => decide (ps.length ≤ 20) && (!ps.isEmpty && chkCs sc ct cs ps)
  | [c], p => chkC1 sc ct c p
  | _, _ => false
mutual
def chkG (N : List Str) (sc : Scope) (blk : Md) : G → Expr → Bool
  | .nm i, .Name x _ => locB N sc blk i x
  | .tp gs, .Tuple ts _ _ => blk.cold && chkGs N sc blk gs ts
  | _, _ => false
def chkGs (N : List Str) (sc : Scope) (blk : Md) : Gs → List Expr → Bool
  | .nil, [] => true
  | .cons g r, t :: ts => nst t && (chkG N sc blk g t && chkGs N sc blk r ts)
  | _, _ => false
end
mutual
def chk (N : List Str) (sc : Scope) (blk : Md) : E → Expr → Bool
  | .v i, .Name x _ => visB N sc i x
  | .cN, .Constant .none _ _ => true
  | .cB b, .Constant (.bool c) _ _ => decide (b = c)
  | .cI i, .Constant (.int j) _ _ => decide (i = j)
  | .cS x, .Constant (.str y) _ _ => decide (x = y)
  | .gl x _, .Name y _ => decide (x = y) && glB sc y
  | .bin o _ a b, .BinOp pa op pb _ => bopB o op && (chk N sc blk a pa && chk N sc blk b pb)
  | .neg a, .UnaryOp .USub p _ => chk N sc blk a p
  | .cmp o a b, .Compare pa [op] [pb] _ => (copB o op && !behindInMarks op pb) && (chk N sc blk a pa && chk N sc blk b pb)
  | .cmp2 o o2 a b c, .Compare pa [op, op2] [pb, pc] _ => copB o op && ((copB o2 op2 && (!inB2 o && !inB2 o2)) && (chk N sc blk a pa && (chk N sc blk b pb && chk N sc blk c pc)))
  | .and_ es, .BoolOp o ps _ => bOpB o true && (!ps.isEmpty && chks N sc blk es ps)
  | .or_ es, .BoolOp o ps _ => bOpB o false && (!ps.isEmpty && chks N sc blk es ps)
  | .not_ a, .UnaryOp .Not p _ => chk N sc blk a p
  | .ite t a b, .IfExp pt pa pb _ => chk N sc blk t pt && (chk N sc blk a pa && chk N sc blk b pb)
  | .tup es, .Tuple ps _ _ => chks N sc blk es ps
  | .lst _ es, .List ps _ => chks N sc blk es ps
  | .dct _ es, .Dict ks vs _ => decide (ks.length ≤ 15) && chkD N sc blk es ks vs
  | .ix a i, .Subscript pa pi _ => nSlice pi && (chk N sc blk a pa && chk N sc blk i pi)
  | .sl _ a lo hi, .Subscript pa (.Slice pl ph none _) _ => chk N sc blk a pa && (chko N sc blk lo pl && chko N sc blk hi ph)
  | .call x _ es, .Call (.Name y _) ps [] _ => blk.cold && (decide (x = y) && (glB sc y && chks N sc blk es ps))
  | .bi b _ es, .Call (.Name y _) ps [] _ => (blk.cold || biHot b) && (decide ((biV b).1 = y) && (glB sc y && (!ps.isEmpty && chks N sc blk es ps)))
  | .mt f a es, .Call (.Attribute pa nm ap) ps [] cp => decide (mtN f = nm) && ((ap.endLine == cp.line) && (nCall pa && (decide (mtA f = some ps.length) && (chk N sc blk a pa && chks N sc blk es ps))))
  | .lc _ elt tg it ifs, .ListComp pelt [c] scope _ => blk.cold && (decide (c.is_async = 0) && (chki N sc blk it c.target c.iter && (blkC N sc scope ((gSl tg).map fun i => (N.getD i Str.empty, i)) &&
      (nSet c.iter && ((chkG N (relS scope sc) .bk tg c.target || ownG N scope tg c.target) && (chk N (relS scope sc) .bk elt pelt && (decide (c.ifs.length ≤ 1) && chks N (relS scope sc) .bk ifs c.ifs)))))))
  | .frz a, p => chk N sc blk a p
  | .slr _ a, .Subscript pa (.Slice none none (some (.UnaryOp .USub (.Constant (.int 1) _ _) _)) _) _ => chk N sc blk a pa
  | .isi t a, .Call (.Name y _) [pa, .Name z _] [] _ => decide (y = ("isinstance" : Str)) && (glB sc y && (decide (z = (t.nm : Str)) && (glB sc z && (tyOk t && (nst pa && chk N sc blk a pa)))))
  | .sl2 _ a, .Subscript pa (.Slice none none (some (.Constant (.int 2) _ _)) _) _ => chk N sc blk a pa
  | .dget a b c, .Call (.Attribute pa nm ap) [pb, pc] [] cp => decide (nm = ("get" : Str)) && ((ap.endLine == cp.line) && (nCall pa && (nst pb && (nst pc && (chk N sc blk a pa && (chk N sc blk b pb && chk N sc blk c pc))))))
  | .cnt a b, .Call (.Attribute pa nm ap) [pb] [] cp => decide (nm = ("count" : Str)) && ((ap.endLine == cp.line) && (nCall pa && (nst pb && (chk N sc blk a pa && chk N sc blk b pb))))
  | .idx a b, .Call (.Attribute pa nm ap) [pb] [] cp => decide (nm = ("index" : Str)) && ((ap.endLine == cp.line) && (nCall pa && (nst pb && (chk N sc blk a pa && chk N sc blk b pb))))
  | .lrg1 _ b, .Call (.Name y _) [.Call (.Name z _) [pb] [] _] [] _ => blk.cold && (decide (y = ("list" : Str)) && (glB sc y && (decide (z = ("range" : Str)) && (glB sc z && (nst pb && chk N sc blk b pb)))))
  | .lrg2 _ a b, .Call (.Name y _) [.Call (.Name z _) [pa, pb] [] _] [] _ => blk.cold && (decide (y = ("list" : Str)) && (glB sc y && (decide (z = ("range" : Str)) && (glB sc z && (nst pa && (nst pb && (chk N sc blk a pa && chk N sc blk b pb)))))))
  | .isx ct a cs, .Call (.Name y _) [pa, pc] [] _ => blk.hot && (decide (y = ("isinstance" : Str)) && (glB sc y && (nst pa && (chk N sc blk a pa && chkC sc ct cs pc))))
  | .fld _ a f, .Attribute pa g _ => blk.hot && (decide (f = g) && (nCall pa && chk N sc blk a pa))
  | .callh x _ es, .Call (.Name y _) ps [] _ => blk.hot && (decide (x = y) && (glB sc y && (!ps.isEmpty && chks N sc blk es ps)))
  | _, _ => false
def chks (N : List Str) (sc : Scope) (blk : Md) : Es → List Expr → Bool
  | .nil, [] => true
  | .cons e r, p :: ps => nst p && (chk N sc blk e p && chks N sc blk r ps)
  | _, _ => false
def chkD (N : List Str) (sc : Scope) (blk : Md) : Es → List (Option Expr) → List Expr → Bool
  | .nil, [], [] => true
  | .cons k (.cons v r), some pk :: ks, pv :: vs => chk N sc blk k pk && (chk N sc blk v pv && chkD N sc blk r ks vs)
  | _, _, _ => false
def chko (N : List Str) (sc : Scope) (blk : Md) : Eo → Option Expr → Bool
  | .none, none => true
  | .some e, some p => chk N sc blk e p
  | _, _ => false
def chki (N : List Str) (sc : Scope) (blk : Md) : It' → Expr → Expr → Bool
  | .val a, _, p => chk N sc blk a p
  | .r1 a, _, .Call (.Name y _) [pa] [] _ => decide (y = ("range" : Str)) && (glB sc y && (nst pa && chk N sc blk a pa))
  | .r2 a b, _, .Call (.Name y _) [pa, pb] [] _ => decide (y = ("range" : Str)) && (glB sc y && (nst pa && (nst pb && (chk N sc blk a pa && chk N sc blk b pb))))
  | .r3 a b c, _, .Call (.Name y _) [pa, pb, pc] [] _ => decide (y = ("range" : Str)) && (glB sc y && (nst pa && (nst pb && (nst pc && (chk N sc blk a pa && (chk N sc blk b pb && chk N sc blk c pc))))))
  | .enum a, .Tuple _ _ _, .Call (.Name y _) [pa] [] _ => decide (y = ("enumerate" : Str)) && (glB sc y && (nst pa && chk N sc blk a pa))
  | .zip a b, .Tuple _ _ _, .Call (.Name y _) [pa, pb] [] _ => decide (y = ("zip" : Str)) && (glB sc y && (nst pa && (nst pb && (chk N sc blk a pa && chk N sc blk b pb))))
  | .rev a, _, .Call (.Name y _) [pa] [] _ => decide (y = ("reversed" : Str)) && (glB sc y && (nst pa && chk N sc blk a pa))
  | _, _, _ => false
end
/-- not stored within a comprehension -/
def noSw (sc : Scope) (t p : Expr) : Bool := nComp p || (match t with
  | .Name x _ => !isLoc sc x
  | _ => true)
/-- names stored from the right, one line, plain locals -/
def swNames (sc : Scope) (line : Nat) : List Expr → List Str
  | [] => []
  | .Name id pos :: r => if (sc.names.lookup id == some .local && pos.line == line) = true then id :: swNames sc line r else swNames sc line r
  | _ :: r => swNames sc line r
def hdLine : List Expr → Nat
  | t :: _ => t.pos.line
  | [] => 0
/-- nothing is stored from the right -/
def noSwap (sc : Scope) : Expr → Expr → Bool
  | .Tuple ts _ _, .Tuple vs _ _ => !(ts.length == 2 || ts.length == 3) || (vs.length != ts.length || ((swNames sc (hdLine ts) ts).length != ts.length || vs.all (foldedForSure 8)))
  | .List _ _, .Tuple _ _ _ => false
  | _, _ => true
def parB (N : List Str) : List Nat → List Str → Bool
  | [], [] => true
  | i :: is, x :: xs => inB N i x && parB N is xs
  | _, _ => false
/-- name = [..], stored within the comprehension -/
def asgB (N : List Str) (sc : Scope) (md : Md) (i : Nat) (e : E) (p : Stmt) : Bool := match e with
  | .lc m elt tg it ifs => (match p with
    | .Assign [.Name x px] (.ListComp pelt [c] scope pos) sp => inB N i x && (isLoc sc x && ((px.line == pos.line) && (!(scope.names.any fun y => y.1 == x && (y.2 == .local || y.2 == .cell)) &&
      chk N sc md (.lc m elt tg it ifs) (.ListComp pelt [c] scope pos))))
    | _ => false)
  | _ => false
mutual
def chkS (N : List Str) (sc : Scope) (md : Md) : Sm → Stmt → Bool
  | .asg g e, .Assign [t] p _ => nst t && (chkG N sc md g t && (noSw sc t p && (noSwap sc t p && chk N sc md e p)))
  | .par is es, .Assign [.Tuple ts _ _] (.Tuple ps _ _) _ => md.cold && ((ts.length == 2 || ts.length == 3) && (ps.length == ts.length && (parB N is (swNames sc (hdLine ts) ts) && ((swNames sc (hdLine ts) ts).length == ts.length &&
      (decide (is.Nodup) && ((swNames sc (hdLine ts) ts).eraseDups.length == ts.length && (!(ps.all (constantsAlone 8)) && (!(ps.all (foldedForSure 8)) && chks N sc md es ps))))))))
  | .asgL i e, p => asgB N sc md i e p
  | .swp a i b j e, .Assign [.Tuple [.Subscript pa pi _, .Subscript pb pj _] _ _] (.Tuple vs k2 q2) _ => md.cold && (nSlice pi && (nSlice pj && (chk N sc md a pa && (chk N sc md i pi && (chk N sc md b pb && (chk N sc md j pj && chk N sc md e (.Tuple vs k2 q2)))))))
  | .setI a i e, .Assign [.Subscript pa pi _] p _ => nSlice pi && (nComp p && (chk N sc md a pa && (chk N sc md i pi && chk N sc md e p)))
  | .ex e, .Expr p _ => nComp p && chk N sc md e p
  | .ite t a b, .If pt pa pb _ => chk N sc md t pt && (chkSs N sc md a pa && chkSs N sc md b pb)
  | .for_ g it b, .For t p body [] _ => md.cold && (nSet p && (chkG N sc md g t && (chki N sc md it t p && chkSs N sc md b body)))
  | .wh t b, .While pt body [] _ => chk N sc md t pt && chkSs N sc md b body
  | .ret e, .Return (some p) _ => chk N sc md e p
  | .retN, .Return none _ => true
  | .pass, .Pass _ => true
  | .brk, .Break _ => true
  | .cont, .Continue _ => true
  | .rz, .Raise _ _ _ => true
  | .raise_ c es, .Raise (some (.Call (.Name y _) ps [] _)) none _ => md.isDf && (decide (y = c) && (glB sc y && (!ps.isEmpty && chks N sc md es ps)))
  | .try_ ct b hs, .Try body hds [] [] _ => md.isDf && (!hds.isEmpty && (chkSs N sc md b body && chkH N sc ct hs hds))
  | _, _ => false
def chkH (N : List Str) (sc : Scope) (ct : List Str) : Hds → List ExceptHandler → Bool
  | .nil, [] => true
  | .cons c none su r, .ExceptHandler (some (.Name y _)) none body _ :: hds => (decide (y = c) && (glB sc y && ct.contains c)) && (!body.isEmpty && (chkSs N sc .ht su body && chkH N sc ct r hds))
  | .cons c (some i) su r, .ExceptHandler (some (.Name y _)) (some n) body _ :: hds => (decide (y = c) && (glB sc y && ct.contains c)) && ((inB N i n && isLoc sc n) && (!body.isEmpty && (chkSs N sc .ht su body && chkH N sc ct r hds)))
  | _, _ => false
def chkSs (N : List Str) (sc : Scope) (md : Md) : Sms → List Stmt → Bool
  | .nil, [] => true
  | .cons s r, p :: ps => chkS N sc md s p && chkSs N sc md r ps
  | _, _ => false
end
end GB

/-! GB9: the parts of soundness: targets, what is walked, comprehensions. -/
namespace GB
open PySem PySem.Spec PyProof.Rows L2

/-! ### hidden lists -/
section
variable {K : FK} {Z F : Hp} {S : Sto} {H : Hp} {p : Addr}
theorem RelH.hide (R : RelH K Z F S H) (h : H p = Option.none) (o : HO) : RelH K (upd Z p o) F S (upd H p o) := by
  obtain ⟨f0, s0⟩ := R.none h
  refine ⟨fun b u e => ?_, fun q u e => ?_, fun q d e => ?_⟩
  · rw [upd_ne (ne_of_none e f0)]; exact R.fz _ _ e
  · by_cases hq : q = p
    · subst hq
      rw [upd_same] at e; cases e
      exact ⟨f0, s0, upd_same⟩
    · rw [upd_ne hq] at e
      obtain ⟨a, b, c⟩ := R.hid q u e
      exact ⟨a, b, by rw [upd_ne hq]; exact c⟩
  · have hq : q ≠ p := fun z => by subst z; rw [s0] at e; cases e
    obtain ⟨a, u, b, c'⟩ := R.st q d e
    exact ⟨a, u, by rw [upd_ne hq]; exact b, c'⟩
theorem RelH.rehide {o u : HO} (R : RelH K (upd Z p o) F S H) : RelH K (upd Z p u) F S (upd H p u) := by
  obtain ⟨f0, s0, _⟩ := R.hid p o upd_same
  refine ⟨fun b u e => ?_, fun q u e => ?_, fun q d e => ?_⟩
  · rw [upd_ne (ne_of_none e f0)]; exact R.fz _ _ e
  · by_cases hq : q = p
    · subst hq
      rw [upd_same] at e; cases e
      exact ⟨f0, s0, upd_same⟩
    · rw [upd_ne hq] at e
      obtain ⟨a, b, c⟩ := R.hid q u (by rw [upd_ne hq]; exact e)
      exact ⟨a, b, by rw [upd_ne hq]; exact c⟩
  · have hq : q ≠ p := fun z => by subst z; rw [s0] at e; cases e
    obtain ⟨a, u, b, c'⟩ := R.st q d e
    exact ⟨a, u, by rw [upd_ne hq]; exact b, c'⟩
theorem RelH.unhideF {o : HO} (R : RelH K (upd Z p o) F S H) (hz : Z p = Option.none) : Same F (upd F p o) ∧ RelH K Z (upd F p o) S H := by
  obtain ⟨f0, s0, h0⟩ := R.hid p o upd_same
  have sf : Same F (upd F p o) := same_upd f0
  refine ⟨sf, fun b u e => ?_, fun q u e => ?_, fun q d e => ?_⟩
  · by_cases hb : b = p
    · subst hb; rw [upd_same] at e; cases e; exact h0
    · rw [upd_ne hb] at e; exact R.fz _ _ e
  · have hq := ne_of_none e hz
    obtain ⟨a, b, c⟩ := R.hid q u (by rw [upd_ne hq]; exact e)
    exact ⟨by rw [upd_ne hq]; exact a, b, c⟩
  · have hq : q ≠ p := fun z => by subst z; rw [s0] at e; cases e
    obtain ⟨a, u, b, c'⟩ := R.st q d e
    exact ⟨by rw [upd_ne hq]; exact a, u, b, c'.mono sf⟩
theorem RelH.unhideS {o : HO} {c : Cell} (R : RelH K (upd Z p o) F S H) (hz : Z p = Option.none) (r : CRep K F c o) : S p = Option.none ∧ RelH K Z F (supd S p c) H := by
  obtain ⟨f0, s0, h0⟩ := R.hid p o upd_same
  refine ⟨s0, R.fz, fun q u e => ?_, fun q d e => ?_⟩
  · have hq := ne_of_none e hz
    obtain ⟨a, b, c⟩ := R.hid q u (by rw [upd_ne hq]; exact e)
    exact ⟨a, by rw [supd_ne hq]; exact b, c⟩
  · by_cases hq : q = p
    · subst hq
      rw [supd_same] at e; cases e
      exact ⟨f0, o, h0, r⟩
    · rw [supd_ne hq] at e
      exact R.st q d e
end

/-! ### slots forgotten -/
theorem wipe_at (σ : VS) : ∀ (vs : List Nat) (i : Nat), (wipe σ vs)[i]? = if i ∈ vs then σ[i]?.map (fun _ => none) else σ[i]?
  | [], i => by simp [wipe]
  | v :: vs, i => by
    unfold wipe
    rw [List.getElem?_set, wipe_at σ vs, wipe_length]
    by_cases h : v = i
    · subst h
      rw [if_pos rfl, if_pos List.mem_cons_self]
      by_cases hl : v < σ.length
      · rw [if_pos hl, List.getElem?_eq_getElem hl]; rfl
      · rw [if_neg hl, List.getElem?_eq_none (by omega)]; rfl
    · rw [if_neg h]
      have e : (i ∈ v :: vs) ↔ i ∈ vs := by
        rw [List.mem_cons]
        exact ⟨fun q => q.resolve_left (fun z => h z.symm), .inr⟩
      by_cases hm : i ∈ vs
      · rw [if_pos hm, if_pos (e.mpr hm)]
      · rw [if_neg hm, if_neg (fun z => hm (e.mp z))]
theorem wipe_ext {σ τ : VS} {vs : List Nat} (hl : σ.length = τ.length) (h : ∀ i, i ∉ vs → σ[i]? = τ[i]?) : wipe σ vs = wipe τ vs := by
  apply List.ext_getElem?
  intro i
  rw [wipe_at, wipe_at]
  by_cases hm : i ∈ vs
  · rw [if_pos hm, if_pos hm]
    by_cases hi : i < σ.length
    · rw [List.getElem?_eq_getElem hi, List.getElem?_eq_getElem (by omega)]; rfl
    · rw [List.getElem?_eq_none (by omega), List.getElem?_eq_none (by omega)]
  · rw [if_neg hm, if_neg hm, h i hm]
theorem wipe_wipe (σ : VS) (vs : List Nat) : wipe (wipe σ vs) vs = wipe σ vs := by
  refine wipe_ext (wipe_length σ vs) fun i hi => ?_
  rw [wipe_at, if_neg hi]
theorem RelS.wipes {K : FK} {F : Hp} {δ : Dts} {σ : VS} (h : RelS K F δ σ) : ∀ vs : List Nat, RelS K F (wipeD δ vs) (L2.wipe σ vs)
  | [] => h
  | v :: vs => (RelS.wipes h vs).wipe v

/-! ### targets -/
mutual
def gR (K : FK) : G → TG
  | .nm i => gName i
  | .tp gs => fun v σ H Q => ∃ a xs, v = .ref a ∧ (SqL K H a xs ∨ SqT K H a xs) ∧ gsR K gs xs σ H Q
def gsR (K : FK) : Gs → TGs
  | .nil => gNil
  | .cons g r => gCons (gR K g) (gsR K r)
end
mutual
theorem gR_of {K : FK} {Z F : Hp} {S : Sto} {H : Hp} (R : RelH K Z F S H) {Q : VS → Hp → Prop} : ∀ (g : G) (d : D) (v : V) (δ : Dts) (σ : VS) (P : Dts → Prop), Rep K F d v → RelS K F δ σ → wG g d δ S P →
    (∀ δ' σ', RelS K F δ' σ' → (∀ i, i ∉ gSl g → σ'[i]? = σ[i]?) → σ'.length = σ.length → P δ' → Q σ' H) → gR K g v σ H Q
  | .nm i, d, v, δ, σ, P, r, rs, w, c => by
    refine c _ _ (rs.set r i) (fun j hj => ?_) (List.length_set ..) w
    exact List.getElem?_set_ne (fun e => hj (by rw [← e]; exact List.mem_singleton.mpr rfl))
  | .tp gs, d, v, δ, σ, P, r, rs, w, c => by
    obtain ⟨ds, e, w⟩ := w
    obtain ⟨p, vs, rfl, h1, r1⟩ := sqx_of R r e
    exact ⟨p, vs, rfl, h1, gsR_of R gs ds vs δ σ P r1 rs w c⟩
theorem gsR_of {K : FK} {Z F : Hp} {S : Sto} {H : Hp} (R : RelH K Z F S H) {Q : VS → Hp → Prop} : ∀ (gs : Gs) (ds : List D) (vs : List V) (δ : Dts) (σ : VS) (P : Dts → Prop), RepL K F ds vs → RelS K F δ σ → wGs gs ds δ S P →
    (∀ δ' σ', RelS K F δ' σ' → (∀ i, i ∉ gsSl gs → σ'[i]? = σ[i]?) → σ'.length = σ.length → P δ' → Q σ' H) → gsR K gs vs σ H Q
  | .nil, ds, vs, δ, σ, P, r, rs, w, c => by
    obtain ⟨rfl, w⟩ := w
    cases r
    exact ⟨rfl, c _ _ rs (fun _ _ => rfl) rfl w⟩
  | .cons g gs, ds, vs, δ, σ, P, r, rs, w, c => by
    obtain ⟨d, es, rfl, w⟩ := w
    cases r with
    | cons r1 r2 =>
      refine ⟨_, _, rfl, gR_of R g d _ δ σ _ r1 rs w ?_⟩
      intro δ1 σ1 rs1 k1 l1 w1
      refine gsR_of R gs es _ δ1 σ1 P r2 rs1 w1 ?_
      intro δ2 σ2 rs2 k2 l2 p
      refine c δ2 σ2 rs2 (fun i hi => ?_) (l2.trans l1) p
      have hi' : ¬ (i ∈ gSl g ++ gsSl gs) := hi
      rw [List.mem_append] at hi'
      rw [k2 i (fun z => hi' (.inr z)), k1 i (fun z => hi' (.inl z))]
end

/-! ### what is walked -/
def Beh (K : FK) (F1 : Hp) (J : It) (ds : List D) (src : Sto → Prop) : Prop := ∀ (i : Nat) (Z F H : Hp) (S : Sto), Same F1 F → RelH K Z F S H → src S →
  (∀ d, ds[i]? = some d → J.go i H ∧ ∀ x H', J.yld i H x H' → ∃ F', Same F F' ∧ RelH K Z F' S H' ∧ Rep K F' d x) ∧ (ds.length ≤ i → J.stop i H)
def LI (K : FK) (Z F0 : Hp) (wi : WpI) : TI := fun σ H R => ∃ F δ S P, Same F0 F ∧ RelS K F δ σ ∧ RelH K Z F S H ∧ wi δ S P ∧
  ∀ F' H' S' J ds src, Same F F' → RelH K Z F' S' H' → Beh K F' J ds src → src S' → P ds src S' → R J H'
theorem PI_imp {X : Cx} {tg e : Expr} {t t' : TI} (h : PI X tg e t) (i : ∀ σ H R, t' σ H R → t σ H R) : PI X tg e t' := ⟨fun pins s σ H R I q => h.run pins s σ H R I (i σ H R q)⟩

section
variable {K : FK} {F1 : Hp} {a : Addr} {ds : List D} {src : Sto → Prop}
theorem sqT_det {H : Hp} {xs ys : List V} (h : SqT K H a xs) (g : SqT K H a ys) (hx : ∀ o, K.lookup a = some o → ∀ u, H a ≠ some u) : xs = ys := by
  rcases h with (h | ⟨o, h⟩) | ⟨o, its, n, hk, _, hd, _, r⟩
  · rcases g with (g | ⟨o', g⟩) | ⟨o', its', n', hk', _, hd', _, r'⟩
    · rw [h] at g; cases g; rfl
    · rw [h] at g; cases g
    · exact absurd h (hx _ hk' _)
  · rcases g with (g | ⟨o', g⟩) | ⟨o', its', n', hk', _, hd', _, r'⟩
    · rw [h] at g; cases g
    · rw [h] at g; cases g; rfl
    · exact absurd h (hx _ hk' _)
  · rcases g with (g | ⟨o', g⟩) | ⟨o', its', n', hk', _, hd', _, r'⟩
    · exact absurd g (hx _ hk _)
    · exact absurd g (hx _ hk _)
    · rw [hk] at hk'; cases hk'
      rw [hd] at hd'; cases hd'
      exact r.inj r'
end
/-- a sequence read at a: each turn hands on the item -/
theorem beh_seq {K : FK} {F1 : Hp} {J : It} {ds : List D} {src : Sto → Prop} (C : Hp → List V → Prop)
    (hC : ∀ Z F H S, Same F1 F → RelH K Z F S H → src S → ∃ vs, C H vs ∧ RepL K F ds vs)
    (go : ∀ i H vs v, C H vs → vs[i]? = some v → J.go i H) (yld : ∀ i H vs x H', C H vs → J.yld i H x H' → H' = H ∧ vs[i]? = some x) (stop : ∀ i H vs, C H vs → vs.length ≤ i → J.stop i H) : Beh K F1 J ds src := by
  intro i Z F H S sf R hs
  obtain ⟨vs, c, r⟩ := hC Z F H S sf R hs
  refine ⟨fun d hd => ?_, fun hl => stop i H vs c (by rw [← r.length]; exact hl)⟩
  obtain ⟨v, hv, rv⟩ := r.get hd
  refine ⟨go i H vs v c hv, fun x H' y => ?_⟩
  obtain ⟨rfl, e⟩ := yld i H vs x H' c y
  rw [hv] at e; cases e
  exact ⟨F, Same.refl F, R, rv⟩
theorem beh_list {K : FK} {F1 : Hp} {a : Addr} {ds : List D} {src : Sto → Prop} (hC : ∀ Z F H S, Same F1 F → RelH K Z F S H → src S → ∃ vs, SqL K H a vs ∧ RepL K F ds vs) : Beh K F1 (Itl K a) ds src :=
  beh_seq (fun H vs => SqL K H a vs) hC (fun _ _ vs v c e => ⟨vs, v, c, e⟩) (fun _ _ vs _ _ c y => ⟨y.1, y.2 vs c⟩) (fun _ _ vs c l => ⟨vs, c, l⟩)
theorem beh_tup {K : FK} {F1 : Hp} {a : Addr} {ds : List D} {src : Sto → Prop} (hC : ∀ Z F H S, Same F1 F → RelH K Z F S H → src S → ∃ vs, SqT K H a vs ∧ RepL K F ds vs) : Beh K F1 (Itt K a) ds src :=
  beh_seq (fun H vs => SqT K H a vs) hC (fun _ _ vs v c e => ⟨vs, v, c, e⟩) (fun _ _ vs _ _ c y => ⟨y.1, y.2 vs c⟩) (fun _ _ vs c l => ⟨vs, c, l⟩)
theorem beh_rng {K : FK} {F1 : Hp} {lo : Int} {n : Nat} : Beh K F1 (Itr lo n) (rngD lo n) fun _ => True := by
  intro i Z F H S sf R _
  refine ⟨fun d hd => ?_, fun hl => show n ≤ i by simpa [rngD] using hl⟩
  unfold rngD at hd
  rw [List.getElem?_map] at hd
  by_cases hi : i < n
  · rw [List.getElem?_range hi] at hd
    cases hd
    refine ⟨hi, fun x H' y => ?_⟩
    obtain ⟨rfl, rfl⟩ := y
    exact ⟨F, Same.refl F, R, .int _⟩
  · rw [List.getElem?_eq_none (by simpa using hi)] at hd
    cases hd
theorem beh_dwn {K : FK} {F1 : Hp} {lo : Int} {n : Nat} : Beh K F1 (Itc lo (-1) n) (dwnD lo n) fun _ => True := by
  intro i Z F H S sf R _
  refine ⟨fun d hd => ?_, fun hl => show n ≤ i by simpa [dwnD] using hl⟩
  unfold dwnD at hd
  rw [List.getElem?_map] at hd
  by_cases hi : i < n
  · rw [List.getElem?_range hi] at hd
    cases hd
    refine ⟨hi, fun x H' y => ?_⟩
    obtain ⟨rfl, rfl⟩ := y
    exact ⟨F, Same.refl F, R, .int _⟩
  · rw [List.getElem?_eq_none (by simpa using hi)] at hd
    cases hd
theorem beh_str {K : FK} {F1 : Hp} {z : Str} : Beh K F1 (Its z) (z.cps.toList.map fun c => D.str ⟨#[c]⟩) fun _ => True := by
  intro i Z F H S sf R _
  refine ⟨fun d hd => ?_, fun hl => show z.cps.size ≤ i by simpa using hl⟩
  rw [List.getElem?_map] at hd
  have e : z.cps.toList[i]? = z.cps[i]? := Array.getElem?_toList ..
  rw [e] at hd
  cases q : z.cps[i]? with
  | none => rw [q] at hd; cases hd
  | some c =>
    rw [q] at hd; cases hd
    refine ⟨(Array.getElem?_eq_some_iff.mp q).1, fun x H' y => ?_⟩
    obtain ⟨rfl, c', e', rfl⟩ := y
    rw [q] at e'; cases e'
    exact ⟨F, Same.refl F, R, .str _⟩
theorem enu_at : ∀ (ds : List D) (n i : Nat), (enuD n ds)[i]? = ds[i]?.map fun d => D.tup [.int ((n + i : Nat) : Int), d]
  | [], n, i => by simp [enuD]
  | d :: ds, n, 0 => by simp [enuD]
  | d :: ds, n, i + 1 => by
    show (enuD (n + 1) ds)[i]? = _
    rw [enu_at ds (n + 1) i]
    have e : n + 1 + i = n + (i + 1) := by omega
    rw [e]; rfl
theorem enu_len (ds : List D) : ∀ n, (enuD n ds).length = ds.length := by
  induction ds with
  | nil => intro n; rfl
  | cons d ds ih => intro n; show (enuD (n + 1) ds).length + 1 = ds.length + 1; rw [ih]
theorem zip_at : ∀ (as bs : List D) (i : Nat), (zipD as bs)[i]? = (match as[i]?, bs[i]? with
    | some a, some b => some (D.tup [a, b])
    | _, _ => none)
  | [], bs, i => by simp [zipD]
  | a :: as, [], i => by
    have e : zipD (a :: as) [] = [] := rfl
    rw [e]
    cases h : (a :: as)[i]? <;> simp
  | a :: as, b :: bs, 0 => by simp [zipD]
  | a :: as, b :: bs, i + 1 => by
    show (zipD as bs)[i]? = _
    rw [zip_at as bs i]
    rfl
theorem zip_len : ∀ (as bs : List D), (zipD as bs).length = min as.length bs.length
  | [], bs => by simp [zipD]
  | a :: as, [] => by simp [zipD]
  | a :: as, b :: bs => by
    show (zipD as bs).length + 1 = _
    rw [zip_len as bs, List.length_cons, List.length_cons]
    omega
theorem newPair {K : FK} {Z F H : Hp} {S : Sto} {T : Addr} {o : Obj} {d e : D} {x y : V} (R : RelH K Z F S H) (hT : H T = none) (od : o.dict = none) (rx : Rep K F d x) (ry : Rep K F e y) :
    ∃ F', Same F F' ∧ RelH K Z F' S (upd H T (.frz o (.tup [x, y]))) ∧ Rep K F' (.tup [d, e]) (.ref T) := by
  obtain ⟨s1, R1⟩ := R.newF (o := .frz o (.tup [x, y])) hT
  exact ⟨_, s1, R1, .tup (.inl ⟨o, upd_same, od⟩) (.cons (rx.mono s1) (.cons (ry.mono s1) .nil))⟩
theorem beh_rev {K : FK} {F1 : Hp} {a : Addr} {ds : List D} {n : Nat} {src : Sto → Prop} (hn : n = ds.length) (hC : ∀ Z F H S, Same F1 F → RelH K Z F S H → src S → ∃ vs, SqL K H a vs ∧ RepL K F ds vs) : Beh K F1 (Itv K a n) ds.reverse src := by
  subst hn
  intro i Z F H S sf R hs
  obtain ⟨vs, c, r⟩ := hC Z F H S sf R hs
  refine ⟨fun d hd => ?_, fun hl => by rw [List.length_reverse] at hl; exact hl⟩
  have hi : i < ds.length := by
    have := (List.getElem?_eq_some_iff.mp hd).1
    rwa [List.length_reverse] at this
  rw [List.getElem?_reverse hi] at hd
  obtain ⟨v, hv, rv⟩ := r.get hd
  refine ⟨⟨hi, vs, v, c, hv⟩, fun x H' y => ?_⟩
  obtain ⟨rfl, g⟩ := y
  have e := g vs c
  rw [hv] at e; cases e
  exact ⟨F, Same.refl F, R, rv⟩
theorem beh_revT {K : FK} {F1 : Hp} {a : Addr} {ds : List D} {n : Nat} {src : Sto → Prop} (hn : n = ds.length) (hC : ∀ Z F H S, Same F1 F → RelH K Z F S H → src S → ∃ vs, SqT K H a vs ∧ RepL K F ds vs) : Beh K F1 (RT.ItvT K a n) ds.reverse src := by
  subst hn
  intro i Z F H S sf R hs
  obtain ⟨vs, c, r⟩ := hC Z F H S sf R hs
  refine ⟨fun d hd => ?_, fun hl => by rw [List.length_reverse] at hl; exact hl⟩
  have hi : i < ds.length := by
    have := (List.getElem?_eq_some_iff.mp hd).1
    rwa [List.length_reverse] at this
  rw [List.getElem?_reverse hi] at hd
  obtain ⟨v, hv, rv⟩ := r.get hd
  refine ⟨⟨hi, vs, v, c, hv⟩, fun x H' y => ?_⟩
  obtain ⟨rfl, g⟩ := y
  have e := g vs c
  rw [hv] at e; cases e
  exact ⟨F, Same.refl F, R, rv⟩

/-! ### comprehensions -/
theorem lc_lift {K : FK} {Z F0 : Hp} {wi : WpI} {tg : G} {m : Bool} {ifs : WpT} {elt : WpE} {vs : List Nat} (hvs : vs = gSl tg) {tt : TT} {te : TE}
    (ht : ∀ Z F0 σ H Q, LT K Z F0 ifs σ H Q → tt σ H Q) (he : ∀ Z F0 σ H Q, LE K Z F0 elt σ H Q → te σ H Q) {σ : VS} {H : Hp} {Q : VK}
    (q : LE K Z F0 (fun δ S P => wi δ S fun ds src S1 => wLc m tg ifs elt src (wipeD δ (gSl tg)) P ds [] S1) σ H Q) : tLc (LI K Z F0 wi) (gR K tg) tt te vs σ H Q := by
  subst hvs
  obtain ⟨F, δ, S, P, sf, rs, rh, w, c⟩ := q
  refine ⟨F, δ, S, _, sf, rs, rh, w, ?_⟩
  intro F1 H1 S1 J ds src s1 R1 beh hsrc w1 D hD
  have hz := R1.hz hD
  refine ⟨fun i m' H => m' = ds.length - i ∧ i ≤ ds.length ∧ ∃ F S acc avs, Same F1 F ∧ RelH K (upd Z D (.lst avs)) F S H ∧ RepL K F acc avs ∧ src S ∧ wLc m tg ifs elt src (wipeD δ (gSl tg)) P (ds.drop i) acc S,
    ⟨_, rfl, Nat.zero_le _, F1, S1, [], [], Same.refl _, R1.hide hD _, .nil, hsrc, w1⟩, ?_⟩
  rintro i m' H2 ⟨rfl, hi, F2, S2, acc, avs, s2, R2, ra, hs2, w2⟩
  obtain ⟨b1, b2⟩ := beh i _ F2 H2 S2 s2 R2 hs2
  by_cases hlt : i < ds.length
  · right
    obtain ⟨d, hd⟩ : ∃ d, ds[i]? = some d := ⟨ds[i], List.getElem?_eq_getElem hlt⟩
    have ed : ds.drop i = d :: ds.drop (i + 1) := by
      rw [List.drop_eq_getElem_cons hlt]
      rw [List.getElem?_eq_getElem hlt] at hd
      cases hd; rfl
    rw [ed] at w2
    obtain ⟨go, yl⟩ := b1 d hd
    refine ⟨go, fun H' => (i + 1 ≤ ds.length ∧ ∃ F S acc avs, Same F1 F ∧ RelH K (upd Z D (.lst avs)) F S H' ∧ RepL K F acc avs ∧ src S ∧ wLc m tg ifs elt src (wipeD δ (gSl tg)) P (ds.drop (i + 1)) acc S),
      fun H' h => ⟨ds.length - (i + 1), by omega, rfl, h⟩, ?_⟩
    intro x H' y
    obtain ⟨F3, s3, R3, rx⟩ := yl x H' y
    refine gR_of R3 tg d x _ _ _ rx ((rs.mono (s1.trans (s2.trans s3))).wipes (gSl tg)) w2 ?_
    intro δ4 σ4 rs4 keep len w4
    refine ⟨?_, ?_⟩
    · rw [← wipe_wipe σ (gSl tg)]
      exact wipe_ext len keep
    refine ht (upd Z D (.lst avs)) F3 σ4 H' _ ⟨F3, δ4, S2, _, Same.refl _, rs4, R3, w4, ?_⟩
    intro F5 H5 S5 b s5 R5 w5
    cases b with
    | true =>
      rw [if_pos rfl] at w5 ⊢
      refine he (upd Z D (.lst avs)) F5 σ4 H5 _ ⟨F5, δ4, S5, _, Same.refl _, rs4.mono s5, R5, w5, ?_⟩
      intro F6 H6 S6 yd yv s6 R6 ry w6
      obtain ⟨hs6, hl6, w6⟩ := w6
      have all := (s3.trans (s5.trans s6))
      refine ⟨avs, (R6.hid D _ upd_same).2.2, by rw [← ra.length]; exact hl6, by omega, F6, S6, acc ++ [yd], avs ++ [yv], s2.trans all, R6.rehide, (ra.mono all).app (.cons ry .nil), hs6, w6⟩
    | false =>
      rw [if_neg Bool.false_ne_true] at w5 ⊢
      obtain ⟨hs5, w5⟩ := w5
      exact ⟨by omega, F5, S5, acc, avs, s2.trans (s3.trans s5), R5, ra.mono (s3.trans s5), hs5, w5⟩
  · left
    have e : i = ds.length := by omega
    subst e
    refine ⟨b2 (Nat.le_refl _), ?_⟩
    rw [List.drop_length] at w2
    have w2 : nwL m acc S2 P := w2
    cases m with
    | true =>
      obtain ⟨n0, R3⟩ := R2.unhideS (c := .lst acc) hz ra
      exact c F2 H2 _ _ _ (s1.trans s2) R3 (.ref D) (w2 D n0)
    | false =>
      obtain ⟨s3, R3⟩ := R2.unhideF hz
      exact c _ H2 S2 _ _ (s1.trans (s2.trans s3)) R3 (.lst upd_same (ra.mono s3)) w2
end GB

/-! GBx8: enumerate over tuples. -/
namespace PySem
open Sem (wp)
theorem meets_enumerate_newB1 {v : Value} {o : Obj} {H : Heap → Prop} (B : Begins v o H) :
    Meets (Builtin.«enumerate.__new__» ⟨[.type "enumerate", v], []⟩) (fun _ R s => H s.heap ∧
      R (.ok (.ret (.ref (s.heap.push o).objs.size))) { s with heap := (s.heap.push o).push { cls := .type "enumerate", data := .fields #[.none, .bool false, .ref s.heap.objs.size, rawInt 0, .none, .none] } }) :=
  .of_wp fun prog w A R s h => by
    obtain ⟨hp, g, d, tk, os⟩ := s; obtain ⟨h1, h⟩ := h
    have hsub := sub_enumerate
    have q1 : ∀ {A' : Around} {E : Value → Shared → Prop} {Q : Value → Shared → Prop}, Q (.ref hp.objs.size) ⟨hp.push o, g, d, tk, os⟩ → wpAny (model prog w) A' (pyIter v) Q E ⟨hp, g, d, tk, os⟩ :=
      fun q => B.iter prog w _ _ ⟨hp, g, d, tk, os⟩ _ h1 q
    wp_walk using q1
    refine wpAny_stack_any fun st => wpAny_pure ?_
    split
    · rename_i c _ _ _ _ _
      cases (c == Value.type "enumerate")
      · wp_walk using q1
        exact ⟨_, rfl, h⟩
      · wp_walk using q1
        exact ⟨_, rfl, h⟩
    · wp_walk using q1
      exact ⟨_, rfl, h⟩
section
variable {prog : Program} {w : World} {A : Around} {E : Value → Shared → Prop} {s : Shared}
theorem call_enumerate_tuple {l : Addr} {items : Array Value} {Q : Value → Shared → Prop} (hL : s.heap.IsTuple l items)
    (h : ∀ h', IsEnum h' (s.heap.objs.size + 1) s.heap.objs.size 0 .none → h'.IsTupleIter s.heap.objs.size l 0 → h'.objs.size = s.heap.objs.size + 2 →
      (∀ b o, s.heap.get? b = some o → h'.get? b = some o) → Q (.ref (s.heap.objs.size + 1)) { s with heap := h' }) :
    wpAny (model prog w) A (call (.type "enumerate") [.ref l]) Q E s := by
  refine callType_new F.called_enumerate (by decide) (F.typeCall_enumerate_1 _) (F.newCall_enumerate_1 _) (fun obj => F.args_object_init_2 obj _) F.entry_enumerate_new
    (meets_enumerate_newB1 (begins_tuple l items)) ⟨hL, ?_⟩
  have hz : (s.heap.push { cls := .type "tuple_iterator", data := .fields #[.ref l, .int 0 0] }).objs.size = s.heap.objs.size + 1 := Heap.size_push ..
  show _ ∧ _
  rw [hz]
  have he : IsEnum ((s.heap.push { cls := .type "tuple_iterator", data := .fields #[.ref l, .int 0 0] }).push
      { cls := .type "enumerate", data := .fields #[.none, .bool false, .ref s.heap.objs.size, rawInt 0, .none, .none] }) (s.heap.objs.size + 1) s.heap.objs.size 0 .none := by
    have := Heap.get?_push_size (s.heap.push { cls := .type "tuple_iterator", data := .fields #[.ref l, .int 0 0] })
      (o := { cls := .type "enumerate", data := .fields #[.none, .bool false, .ref s.heap.objs.size, rawInt 0, .none, .none] }) rfl
    rw [hz] at this; exact this
  refine ⟨⟨_, he, rfl⟩, h _ he ⟨_, Heap.get?_push_of_some _ (Heap.get?_push_size _ rfl), rfl, rfl⟩ (by rw [Heap.size_push, hz]) fun b o x => Heap.get?_push_of_some _ (Heap.get?_push_of_some _ x)⟩
end
end PySem
namespace RE
open PySem PySem.Spec PyProof.Rows L2
/-- the sequence at a as it stands at each turn, each item in a new pair -/
def IteK (K : PySem.W.Frag) (k : Bool) (a : Addr) : It where
  go i H := ∃ (xs : List V) (x : V), SqK K k H a xs ∧ xs[i]? = some x
  yld i H v H' := ∃ (T : Addr) (o : Obj) (x : V), v = .ref T ∧ H T = none ∧ o.dict = none ∧ H' = upd H T (.frz o (.tup [.int (i : Nat), x])) ∧ ∀ xs, SqK K k H a xs → xs[i]? = some x
  stop i H := ∃ xs : List V, SqK K k H a xs ∧ xs.length ≤ i
theorem turn_enumK {P : Program} {w : World} {K : PySem.W.Frag} {elts : List Expr} {kk : Nat} {tpos : Pos} (k : Bool) (a e it : Addr) :
    Turn P w K (.Tuple elts kk tpos) (IteK K k a) [e, it] e (fun i h => (∃ old, IsEnum h e it ((i : Nat) : Int) old) ∧ atK k h it a i ∧ e ≠ it ∧ e ≠ a) where
  mem := by simp
  obj := fun i h st b hb => by
    obtain ⟨⟨old, he⟩, q, _⟩ := st
    obtain ⟨o, ho, fs, hd⟩ := atK_obj q
    rcases (by simpa using hb : b = e ∨ b = it) with z | z
    · rw [z]; exact ⟨_, he, fun v q => nomatch q⟩
    · rw [z]; exact ⟨o, ho, fun v q => by rw [hd] at q; cases q⟩
  keep := fun i h h' st q => by
    obtain ⟨⟨old, he⟩, hi, ne⟩ := st
    exact ⟨⟨old, q e (by simp) _ he⟩, atK_at hi fun o z => q it (by simp) o z, ne⟩
  item := by
    rintro X rfl rfl rfl hc i pins s σ H E I hf ⟨⟨old, he⟩, hit, ne, ea⟩ ⟨xs, x, hq, hx⟩
    obtain ⟨its, rv, p⟩ := I.sqk hq
    obtain ⟨u, hu, ru⟩ := rv.get hx
    have hu : its.toArray[i]? = some u := by simpa using hu
    have el : e < s.heap.objs.size := Heap.lt_size he
    have il : it < s.heap.objs.size := by obtain ⟨_, q, _⟩ := atK_obj hit; exact Heap.lt_size q
    refine wpAny_pyNext_enum_itemD (drawK (A := X.A.in1) (I.ok.hd hc) it a (atK_ne p hit) its.toArray) he ⟨hit, p⟩ (Array.getElem?_eq_some_iff.mp hu).1 ne (by simp [ne, ea]) fun u2 h' tk hu2 ho st2 hT hsz hk => ?_
    obtain rfl : u2 = u := Option.some.inj ((show its.toArray[i]? = some u2 from hu2).symm.trans hu)
    refine ⟨_, rfl, wpAny_letOwnedTupleGo_enum (s := { s with heap := h', toks := tk + 1 }) ho fun h2 he2 sb => ?_⟩
    have hT2 : h2.get? s.heap.objs.size = some (tOb [.int i tk, u2]) := (sb.2 _ (Nat.ne_of_gt el)).trans hT
    have new : ObjOk X.prog X.w (upd H s.heap.objs.size (.frz (tOb [.int i tk, u2]) (.tup [.int (i : Nat), x]))) h2 s.heap.objs.size (.frz (tOb [.int i tk, u2]) (.tup [.int (i : Nat), x])) := tOb_ok (show 2 ≤ sizeLine by decide) (.cons ⟨_, rfl⟩ (.cons ru .nil)) hT2
    have I1 : Inv X pins σ _ { s with heap := h2, toks := tk + 1 } := I.turnedNew (ch := [e, it]) (fun b ob hb q => (sb.2 b (fun z => hb (by simp [z]))).trans (hk b ob (fun z => hb (by simp [z])) (fun z => hb (by simp [z])) q)) hf (Nat.le_refl _) new
    refine ⟨.ref s.heap.objs.size, _, I1, rfl, ⟨_, _, x, rfl, I.hok.fresh (Nat.le_refl _), rfl, rfl, fun ys hy => by rw [I.sqk_inj hy hq]; exact hx⟩, ⟨⟨u2, ?_⟩, atK_at st2.1 fun o q => (sb.2 it ne.symm).trans q, ne, ea⟩, fun b hb => ?_⟩
    · rw [show ((i + 1 : Nat) : Int) = (i : Int) + 1 by omega]
      exact he2
    · have lt : b < s.heap.objs.size := by
        rcases (by simpa using hb : b = e ∨ b = it) with z | z <;> rw [z]
        · exact el
        · exact il
      rw [upd_ne (Nat.ne_of_lt lt)]
      exact (hf b hb).1
  done := by
    rintro X rfl rfl rfl hc i pins s σ H E I hf ⟨⟨old, he⟩, hit, ne, ea⟩ ⟨xs, hq, hx⟩
    obtain ⟨its, rv, p⟩ := I.sqk hq
    obtain ⟨f0, f1, f2, f3, f4, f5⟩ := hf it (by simp)
    have len : its.toArray.size ≤ i := by rw [List.size_toArray, ← rv.length]; exact hx
    exact wpAny_pyNext_enum_endD (endK (A := X.A.in1) (I.ok.hd hc) it a its.toArray len) he ⟨rfl, hit, p⟩ fun h' eb => ⟨rfl, I.turned (t' := s.toks) (fun b o hb q => eb b o hb q) f0 f1 f3 f4 f5⟩
  self := fun A i s Q E st h => let ⟨⟨_, he⟩, _⟩ := st; wpAny_pyIter_enum he h
def iEnumA (K : PySem.W.Frag) (ta : TA) : TI := fun σ H R => ta σ H fun vs H1 => ∃ k a xs, vs = [.ref a] ∧ SqK K k H1 a xs ∧ R (IteK K k a) H1
theorem two_ok {X : Cx} {pins : List (Addr × Obj)} {σ : L2.St} {H : Hp} {s : Shared} (I : Inv X pins σ H s) : ∀ c, c ∈ [s.heap.objs.size + 1, s.heap.objs.size] → FpOk X pins H c := by
  intro c hc
  have le : s.heap.objs.size ≤ c := by
    rcases (by simpa using hc : c = s.heap.objs.size + 1 ∨ c = s.heap.objs.size) with e | e <;> rw [e]
    · exact Nat.le_add_right _ _
    · exact Nat.le_refl _
  exact I.fpOk le (I.hok.fresh le)
theorem pi_enumA {X : Cx} {e : Expr} {ta : TA} {p pos tpos : Pos} {elts : List Expr} {kk : Nat} (hg : Gl X "enumerate") (hm : X.mg "enumerate" = none) (ha : PA X [e] ta) (hs : starEach [e] X.env = [(false, eval e X.env)] := by rfl) :
    PI X (.Tuple elts kk tpos) (.Call (.Name "enumerate" p) [e] [] pos) (iEnumA X.K ta) := by
  refine ⟨fun pins s σ H R I h => Call_ (ld_blt I hg hm boot_enumerate (PyProof.Rows.callWith_type1 (thn (ha.run pos pins s σ H _ I h) fun us s1 ⟨vs, H1, I1, r1, q1⟩ => ?_) hs rfl))⟩
  obtain ⟨k, a, xs, rfl, hq, q⟩ := q1
  obtain ⟨u, rfl, ru⟩ := vals1 r1
  cases ru
  obtain ⟨its, rv, p'⟩ := I1.sqk hq
  have al := isK_lt p'
  have fin : ∀ h' : Heap, IsEnum h' (s1.heap.objs.size + 1) s1.heap.objs.size 0 .none → atK k h' s1.heap.objs.size a 0 → (∀ b o, s1.heap.get? b = some o → h'.get? b = some o) →
      wpAny (model X.prog X.w) X.A (pyIter (.ref (s1.heap.objs.size + 1))) (PIE X pins σ (.Tuple elts kk tpos) R) X.xe { s1 with heap := h' } := fun h' he hit hk =>
    wpAny_pyIter_enum he ⟨s1.heap.objs.size + 1, [s1.heap.objs.size + 1, s1.heap.objs.size], _, _, H1, rfl, I1.kept (t' := s1.toks) hk, turn_enumK k a (s1.heap.objs.size + 1) s1.heap.objs.size,
      ⟨⟨.none, he⟩, hit, Nat.succ_ne_self _, fun z => Nat.not_lt.mpr (Nat.le_succ _) (show s1.heap.objs.size + 1 < s1.heap.objs.size from z.symm ▸ al)⟩, two_ok I1, q⟩
  cases k with
  | true => exact call_enumerate_tuple p' fun h' he hit _ hk => fin h' he hit hk
  | false => exact call_enumerate_list p' fun h' he hit _ hk => fin h' he hit hk
end RE
namespace GB
open PySem PySem.Spec PyProof.Rows L2
theorem beh_enumK {K : FK} {F1 : Hp} {k : Bool} {a : Addr} {ds : List D} {src : Sto → Prop} (hC : ∀ Z F H S, Same F1 F → RelH K Z F S H → src S → ∃ vs, SqK K k H a vs ∧ RepL K F ds vs) : Beh K F1 (RE.IteK K k a) (enuD 0 ds) src := by
  intro i Z F H S sf R hs
  obtain ⟨vs, c, r⟩ := hC Z F H S sf R hs
  refine ⟨fun d hd => ?_, fun hl => ⟨vs, c, by rw [← r.length]; rw [enu_len] at hl; exact hl⟩⟩
  rw [enu_at] at hd
  cases q : ds[i]? with
  | none => rw [q] at hd; cases hd
  | some e =>
    rw [q] at hd; cases hd
    obtain ⟨v, hv, rv⟩ := r.get q
    refine ⟨⟨vs, v, c, hv⟩, fun x H' y => ?_⟩
    obtain ⟨T, o, z, rfl, hT, hd, rfl, g⟩ := y
    have z1 := g vs c
    rw [hv] at z1; cases z1
    rw [Nat.zero_add]
    exact newPair R hT hd (.int _) rv
end GB

/-! GBx10: zip over a tuple and a list. -/
namespace PySem
open Sem (wp)
/-- the iterators, the two pairs, the zip, as they are laid -/
abbrev mI1 (a : Addr) : Obj := { cls := .type "tuple_iterator", data := .fields #[.ref a, .int 0 0] }
abbrev mI2 (b : Addr) : Obj := { cls := .type "list_iterator", data := .fields #[.ref b, .int 0 0] }
def mixH (h : Heap) (a b : Addr) : Heap := (((h.push (mI1 a)).push (mI2 b)).push { cls := .type "tuple", data := .seq #[.ref h.objs.size, .ref (h.push (mI1 a)).objs.size] }).push { cls := .type "tuple", data := .seq #[.none, .none] }
abbrev mZ (h : Heap) (a b : Addr) : Obj := { cls := .type "zip", data := .fields #[.none, .bool false, .bool false, .ref ((h.push (mI1 a)).push (mI2 b)).objs.size, .ref (((h.push (mI1 a)).push (mI2 b)).push { cls := .type "tuple", data := .seq #[.ref h.objs.size, .ref (h.push (mI1 a)).objs.size] }).objs.size] }
theorem meets_mixed (a b : Addr) (xs ys : Array Value) :
    Meets (Builtin.«zip.__new__» ⟨[.type "zip", .ref a, .ref b], []⟩) (fun _ R s => s.heap.IsTuple a xs ∧ s.heap.IsList b ys ∧
      R (.ok (.ret (.ref (mixH s.heap a b).objs.size))) { s with heap := (mixH s.heap a b).push (mZ s.heap a b) }) :=
  .of_wp fun prog w A R s h => by
    obtain ⟨hp, g, d, tk, os⟩ := s; obtain ⟨h1, h2, h⟩ := h
    have hsub := sub_zip
    have t1 : Heap.IsTuple (Shared.heap ⟨hp, g, d, tk, os⟩) a xs := h1
    have t2 : Heap.IsList (Shared.heap ⟨hp.push (mI1 a), g, d, tk, os⟩) b ys := Heap.IsList.push h2 _
    wp_walk using wpAny_pyIter_tuple t1, wpAny_pyIter_list t2
    exact ⟨_, rfl, h⟩
section
variable {prog : Program} {w : World} {A : Around} {E : Value → Shared → Prop} {s : Shared}
theorem call_mixed {a b : Addr} {xs ys : Array Value} {Q : Value → Shared → Prop} (h1 : s.heap.IsTuple a xs) (h2 : s.heap.IsList b ys)
    (h : ∀ h', IsZip h' (s.heap.objs.size + 4) (s.heap.objs.size + 2) (s.heap.objs.size + 3) .none → IsPair h' (s.heap.objs.size + 2) (.ref s.heap.objs.size) (.ref (s.heap.objs.size + 1)) →
      IsPair h' (s.heap.objs.size + 3) .none .none → h'.IsTupleIter s.heap.objs.size a 0 → h'.IsListIter (s.heap.objs.size + 1) b 0 →
      (∀ c o, s.heap.get? c = some o → h'.get? c = some o) → Q (.ref (s.heap.objs.size + 4)) { s with heap := h' }) :
    wpAny (model prog w) A (call (.type "zip") [.ref a, .ref b]) Q E s := by
  refine callType_new F.called_zip (by decide) (F.typeCall_zip_2 _ _) (F.newCall_zip_2 _ _) (fun obj => F.args_object_init_3 obj _ _) F.entry_zip_new (meets_mixed a b xs ys) ⟨h1, h2, ?_⟩
  have n1 : (s.heap.push (mI1 a)).objs.size = s.heap.objs.size + 1 := Heap.size_push ..
  have n2 : ((s.heap.push (mI1 a)).push (mI2 b)).objs.size = s.heap.objs.size + 2 := by rw [Heap.size_push, n1]
  have n3 : ∀ o, (((s.heap.push (mI1 a)).push (mI2 b)).push o).objs.size = s.heap.objs.size + 3 := fun o => by rw [Heap.size_push, n2]
  have n4 : (mixH s.heap a b).objs.size = s.heap.objs.size + 4 := by unfold mixH; rw [Heap.size_push, n3]
  have up1 : ∀ {h : Heap} {c : Addr} {o o' : Obj}, h.get? c = some o → (h.push o').get? c = some o := fun e => Heap.get?_push_of_some _ e
  have a1 := up1 (o' := mZ s.heap a b) (up1 (o' := { cls := .type "tuple", data := .seq #[.none, .none] }) (up1 (o' := { cls := .type "tuple", data := .seq #[.ref s.heap.objs.size, .ref (s.heap.push (mI1 a)).objs.size] }) (up1 (o' := mI2 b) (Heap.get?_push_size s.heap (o := mI1 a) rfl))))
  have a2 := up1 (o' := mZ s.heap a b) (up1 (o' := { cls := .type "tuple", data := .seq #[.none, .none] }) (up1 (o' := { cls := .type "tuple", data := .seq #[.ref s.heap.objs.size, .ref (s.heap.push (mI1 a)).objs.size] }) (Heap.get?_push_size (s.heap.push (mI1 a)) (o := mI2 b) rfl)))
  have a3 := up1 (o' := mZ s.heap a b) (up1 (o' := { cls := .type "tuple", data := .seq #[.none, .none] }) (Heap.get?_push_size ((s.heap.push (mI1 a)).push (mI2 b)) (o := { cls := .type "tuple", data := .seq #[.ref s.heap.objs.size, .ref (s.heap.push (mI1 a)).objs.size] }) rfl))
  have a4 := up1 (o' := mZ s.heap a b) (Heap.get?_push_size (((s.heap.push (mI1 a)).push (mI2 b)).push { cls := .type "tuple", data := .seq #[.ref s.heap.objs.size, .ref (s.heap.push (mI1 a)).objs.size] }) (o := { cls := .type "tuple", data := .seq #[.none, .none] }) rfl)
  have a5 := Heap.get?_push_size (mixH s.heap a b) (o := mZ s.heap a b) rfl
  have n3' := n3 { cls := .type "tuple", data := .seq #[.ref s.heap.objs.size, .ref (s.heap.push (mI1 a)).objs.size] }
  have em : mZ s.heap a b = { cls := .type "zip", data := .fields #[.none, .bool false, .bool false, .ref (s.heap.objs.size + 2), .ref (s.heap.objs.size + 3)] } := by
    unfold mZ
    rw [n2, n3']
  have hz : IsZip ((mixH s.heap a b).push (mZ s.heap a b)) (s.heap.objs.size + 4) (s.heap.objs.size + 2) (s.heap.objs.size + 3) .none := by
    rw [← n4]
    exact a5.trans (congrArg some em)
  have b2 : ((mixH s.heap a b).push (mZ s.heap a b)).get? (s.heap.objs.size + 1) = some (mI2 b) := by
    rw [← n1]
    exact a2
  have b3 : IsPair ((mixH s.heap a b).push (mZ s.heap a b)) (s.heap.objs.size + 2) (.ref s.heap.objs.size) (.ref (s.heap.objs.size + 1)) := by
    rw [← n2]
    refine a3.trans (congrArg some ?_)
    rw [n1]
  have b4 : IsPair ((mixH s.heap a b).push (mZ s.heap a b)) (s.heap.objs.size + 3) .none .none := by
    rw [← n3']
    exact a4
  show _ ∧ _
  rw [n4]
  exact ⟨⟨_, hz, rfl⟩, h _ hz b3 b4 ⟨_, a1, rfl, rfl⟩ ⟨_, b2, rfl, rfl⟩ fun c o x => up1 (up1 (up1 (up1 (up1 x))))⟩
theorem ZipApart.sep {z TI TO i1 i2 a b : Addr} (D : ZipApart z TI TO i1 i2 a b) : ZipSep2 z TI TO i1 i2 [i1, a] [i2, b] where
  TIz := D.TIz
  TOz := D.TOz
  TITO := D.TITO
  TIi1 := D.TIi1
  TIi2 := D.TIi2
  mem1 := by simp
  mem2 := by simp
  zf1 := by simp [D.i1z.symm, D.l1z.symm]
  Tf1 := by simp [D.TOi1, D.l1TO.symm]
  zf2 := by simp [D.i2z.symm, D.l2z.symm]
  Tf2 := by simp [D.TOi2, D.l2TO.symm]
  sep1_2 := by simp [D.i12, D.l2i1.symm]
  sep2_1 := by simp [D.i12.symm, D.l1i2.symm]
end
end PySem
namespace RE
open PySem PySem.Spec PyProof.Rows L2
/-- the sequences at a and at b, as they stand at each turn -/
def ItzK (K : PySem.W.Frag) (k1 k2 : Bool) (a b : Addr) : It where
  go i H := ∃ (xs ys : List V) (x y : V), SqK K k1 H a xs ∧ SqK K k2 H b ys ∧ xs[i]? = some x ∧ ys[i]? = some y
  yld i H v H' := ∃ (T : Addr) (o : Obj) (x y : V), v = .ref T ∧ H T = none ∧ o.dict = none ∧ H' = upd H T (.frz o (.tup [x, y])) ∧ (∀ xs, SqK K k1 H a xs → xs[i]? = some x) ∧ ∀ ys, SqK K k2 H b ys → ys[i]? = some y
  stop i H := ∃ xs ys : List V, SqK K k1 H a xs ∧ SqK K k2 H b ys ∧ (xs.length ≤ i ∨ ys.length ≤ i)
theorem turn_zipK {P : Program} {w : World} {K : PySem.W.Frag} {elts : List Expr} {kk : Nat} {tpos : Pos} {a b z TI TO i1 i2 : Addr} (k1 k2 : Bool) (D : ZipApart z TI TO i1 i2 a b) :
    Turn P w K (.Tuple elts kk tpos) (ItzK K k1 k2 a b) [z, TI, TO, i1, i2] z (fun i h => IsZip h z TI TO .none ∧ IsPair h TI (.ref i1) (.ref i2) ∧ (∃ x y, IsPair h TO x y) ∧ atK k1 h i1 a i ∧ atK k2 h i2 b i) where
  mem := by simp
  obj := fun i h st c hc => by
    obtain ⟨hz, hTI, ⟨x, y, hTO⟩, q1, q2⟩ := st
    obtain ⟨o1, e1, _, d1⟩ := atK_obj q1
    obtain ⟨o2, e2, _, d2⟩ := atK_obj q2
    rcases (by simpa using hc : c = z ∨ c = TI ∨ c = TO ∨ c = i1 ∨ c = i2) with rfl | rfl | rfl | rfl | rfl
    · exact ⟨_, hz, fun v q => nomatch q⟩
    · exact ⟨_, hTI, fun v q => nomatch q⟩
    · exact ⟨_, hTO, fun v q => nomatch q⟩
    · exact ⟨o1, e1, fun v q => by rw [d1] at q; cases q⟩
    · exact ⟨o2, e2, fun v q => by rw [d2] at q; cases q⟩
  keep := fun i h h' st k => by
    obtain ⟨hz, hTI, ⟨x, y, hTO⟩, h1, h2⟩ := st
    exact ⟨k z (by simp) _ hz, k TI (by simp) _ hTI, ⟨x, y, k TO (by simp) _ hTO⟩, atK_at h1 fun o q => k i1 (by simp) o q, atK_at h2 fun o q => k i2 (by simp) o q⟩
  item := by
    rintro X rfl rfl rfl hc i pins s σ H E I hf ⟨hz, hTI, ⟨x0, y0, hTO⟩, h1, h2⟩ ⟨xs, ys, x, y, qx, qy, hx, hy⟩
    obtain ⟨its, rv, p⟩ := I.sqk qx
    obtain ⟨its2, rv2, p2⟩ := I.sqk qy
    obtain ⟨u, hu, ru⟩ := rv.get hx
    obtain ⟨u2, hu2, ru2⟩ := rv2.get hy
    have hu : its.toArray[i]? = some u := by simpa using hu
    have hu2 : its2.toArray[i]? = some u2 := by simpa using hu2
    have zl : z < s.heap.objs.size := Heap.lt_size hz
    refine wpAny_pyNext_zipD2_item D.sep (drawK (A := X.A.in1) (I.ok.hd hc) i1 a D.l1i1 its.toArray) (drawK (A := X.A.in1) (I.ok.hd hc) i2 b D.l2i2 its2.toArray) hz hTI hTO ⟨h1, p⟩ ⟨h2, p2⟩ (Array.getElem?_eq_some_iff.mp hu).1 (Array.getElem?_eq_some_iff.mp hu2).1 fun v1 v2 h' tk e1 e2 z' TO' st1 st2 hT hsz hk => ?_
    obtain rfl : v1 = u := Option.some.inj ((show its.toArray[i]? = some v1 from e1).symm.trans hu)
    obtain rfl : v2 = u2 := Option.some.inj ((show its2.toArray[i]? = some v2 from e2).symm.trans hu2)
    refine ⟨_, rfl, wpAny_letOwnedTupleGo_zip (s := { s with heap := h', toks := tk }) z' fun h3 z3 sb => ?_⟩
    have hT2 : h3.get? s.heap.objs.size = some (tOb [v1, v2]) := (sb.2 _ (Nat.ne_of_gt zl)).trans hT
    have new : ObjOk X.prog X.w (upd H s.heap.objs.size (.frz (tOb [v1, v2]) (.tup [x, y]))) h3 s.heap.objs.size (.frz (tOb [v1, v2]) (.tup [x, y])) := tOb_ok (show 2 ≤ sizeLine by decide) (.cons ru (.cons ru2 .nil)) hT2
    have hk2 : ∀ c o, c ∉ [z, TI, TO, i1, i2] → s.heap.get? c = some o → h3.get? c = some o := fun c o hb q =>
      (sb.2 c (fun e => hb (by simp [e]))).trans (hk c o (fun e => hb (by simp [e])) (fun e => hb (by simp [e])) (fun e => hb (by simp [e])) (fun e => hb (by simp [e])) q)
    have I1 : Inv X pins σ _ { s with heap := h3, toks := tk } := I.turnedNew hk2 hf (Nat.le_refl _) new
    refine ⟨.ref s.heap.objs.size, _, I1, rfl, ⟨_, _, x, y, rfl, I.hok.fresh (Nat.le_refl _), rfl, rfl, fun l hl => by rw [I.sqk_inj hl qx]; exact hx, fun l hl => by rw [I.sqk_inj hl qy]; exact hy⟩, ⟨z3, ?_, ⟨v1, v2, ?_⟩, ?_, ?_⟩, fun c hcm => ?_⟩
    · exact (sb.2 _ D.TIz).trans (hk _ _ D.TIz D.TITO D.TIi1 D.TIi2 hTI)
    · exact (sb.2 _ D.TOz).trans TO'
    · exact atK_at st1.1 fun o q => (sb.2 _ D.i1z).trans q
    · exact atK_at st2.1 fun o q => (sb.2 _ D.i2z).trans q
    · have lt : c < s.heap.objs.size := by
        obtain ⟨o1, e1, _⟩ := atK_obj h1
        obtain ⟨o2, e2, _⟩ := atK_obj h2
        rcases (by simpa using hcm : c = z ∨ c = TI ∨ c = TO ∨ c = i1 ∨ c = i2) with rfl | rfl | rfl | rfl | rfl
        · exact zl
        · exact Heap.lt_size hTI
        · exact Heap.lt_size hTO
        · exact Heap.lt_size e1
        · exact Heap.lt_size e2
      rw [upd_ne (Nat.ne_of_lt lt)]
      exact (hf c hcm).1
  done := by
    rintro X rfl rfl rfl hc i pins s σ H E I hf ⟨hz, hTI, ⟨x0, y0, hTO⟩, h1, h2⟩ ⟨xs, ys, qx, qy, hend⟩
    obtain ⟨its, rv, p⟩ := I.sqk qx
    obtain ⟨its2, rv2, p2⟩ := I.sqk qy
    have l1 : xs.length = its.toArray.size := by rw [List.size_toArray]; exact rv.length
    have l2 : ys.length = its2.toArray.size := by rw [List.size_toArray]; exact rv2.length
    have fin : ∀ h' tk, (∀ c o, c ≠ z → c ≠ TO → c ≠ i1 → c ≠ i2 → s.heap.get? c = some o → h'.get? c = some o) → Inv X pins σ H { s with heap := h', toks := tk } := fun h' tk hk =>
      I.turnedL (ch := [z, TI, TO, i1, i2]) (fun c o hb q => hk c o (fun e => hb (by simp [e])) (fun e => hb (by simp [e])) (fun e => hb (by simp [e])) (fun e => hb (by simp [e])) q) hf
    have hd := I.ok.hd hc
    have d1 := drawK (prog := X.prog) (w := X.w) (A := X.A.in1) (k := k1) hd i1 a D.l1i1 its.toArray
    have d2 := drawK (prog := X.prog) (w := X.w) (A := X.A.in1) (k := k2) hd i2 b D.l2i2 its2.toArray
    by_cases c1 : i < its.toArray.size
    · have c2 : its2.toArray.size ≤ i := by omega
      exact wpAny_pyNext_zipD2_end D.sep d1 (endK (A := X.A.in1) hd i2 b its2.toArray c2) hz hTI hTO ⟨h1, p⟩ ⟨rfl, h2, p2⟩ (by omega) (Nat.le_refl _) (.inr rfl) fun h' tk hk => ⟨rfl, fin h' tk hk⟩
    · have e1 := endK (prog := X.prog) (w := X.w) (A := X.A.in1) (k := k1) hd i1 a its.toArray (i := i) (by omega)
      by_cases c2 : i < its2.toArray.size
      · exact wpAny_pyNext_zipD2_end D.sep e1 d2 hz hTI hTO ⟨rfl, h1, p⟩ ⟨h2, p2⟩ (Nat.le_refl _) (by omega) (.inl rfl) fun h' tk hk => ⟨rfl, fin h' tk hk⟩
      · exact wpAny_pyNext_zipD2_end D.sep e1 (endK (A := X.A.in1) hd i2 b its2.toArray (by omega)) hz hTI hTO ⟨rfl, h1, p⟩ ⟨rfl, h2, p2⟩ (Nat.le_refl _) (Nat.le_refl _) (.inl rfl) fun h' tk hk => ⟨rfl, fin h' tk hk⟩
  self := fun A i s Q E st h => wpAny_pyIter_zip st.1 h
def iZipB (K : PySem.W.Frag) (ta : TA) : TI := fun σ H R => ta σ H fun vs H1 => ∃ k1 k2 a b xs ys, vs = [.ref a, .ref b] ∧ (k2 = true → k1 = true) ∧ SqK K k1 H1 a xs ∧ SqK K k2 H1 b ys ∧ R (ItzK K k1 k2 a b) H1
theorem five_ok {X : Cx} {pins : List (Addr × Obj)} {σ : L2.St} {H : Hp} {s : Shared} (I : Inv X pins σ H s) : ∀ c, c ∈ [s.heap.objs.size + 4, s.heap.objs.size + 2, s.heap.objs.size + 3, s.heap.objs.size, s.heap.objs.size + 1] → FpOk X pins H c := by
  intro c hc
  have hle : s.heap.objs.size ≤ c := by
    rcases (by simpa using hc : c = s.heap.objs.size + 4 ∨ c = s.heap.objs.size + 2 ∨ c = s.heap.objs.size + 3 ∨ c = s.heap.objs.size ∨ c = s.heap.objs.size + 1) with e | e | e | e | e <;> rw [e]
    · exact Nat.le_add_right _ _
    · exact Nat.le_add_right _ _
    · exact Nat.le_add_right _ _
    · exact Nat.le_refl _
    · exact Nat.le_add_right _ _
  exact I.fpOk hle (I.hok.fresh hle)
theorem pi_zipB {X : Cx} {e e2 : Expr} {ta : TA} {p pos tpos : Pos} {elts : List Expr} {kk : Nat} (hg : Gl X "zip") (hm : X.mg "zip" = none) (ha : PA X [e, e2] ta)
    (hs : starEach [e, e2] X.env = (false, eval e X.env) :: starEach [e2] X.env := by rfl) (hpl : (backTo pos (starEach [e2] X.env)).any (·.1) = false := by rfl) :
    PI X (.Tuple elts kk tpos) (.Call (.Name "zip" p) [e, e2] [] pos) (iZipB X.K ta) := by
  refine ⟨fun pins s σ H R I h => Call_ (ld_blt I hg hm PyProof.Rows.boot_zip (PyProof.Rows.callWith_type1 (thn (ha.run pos pins s σ H _ I h) fun us s1 ⟨vs, H1, I1, r1, q1⟩ => ?_) hs hpl))⟩
  obtain ⟨k1, k2, a, b, xs, ys, rfl, k12, qx, qy, q⟩ := q1
  obtain ⟨u, v, rfl, ru, rv⟩ := vals2 r1
  cases ru
  cases rv
  obtain ⟨its, _, p1⟩ := I1.sqk qx
  obtain ⟨its2, _, p2⟩ := I1.sqk qy
  have ap := PySem.W.ktu_apart s1.heap.objs.size a b (isK_lt p1) (isK_lt p2)
  have fin : ∀ h' : Heap, IsZip h' (s1.heap.objs.size + 4) (s1.heap.objs.size + 2) (s1.heap.objs.size + 3) .none → IsPair h' (s1.heap.objs.size + 2) (.ref s1.heap.objs.size) (.ref (s1.heap.objs.size + 1)) → IsPair h' (s1.heap.objs.size + 3) .none .none →
      atK k1 h' s1.heap.objs.size a 0 → atK k2 h' (s1.heap.objs.size + 1) b 0 → (∀ c o, s1.heap.get? c = some o → h'.get? c = some o) →
      wpAny (model X.prog X.w) X.A (pyIter (.ref (s1.heap.objs.size + 4))) (PIE X pins σ (.Tuple elts kk tpos) R) X.xe { s1 with heap := h' } := fun h' hz hTI hTO h1 h2 hk =>
    wpAny_pyIter_zip hz ⟨_, _, _, _, H1, rfl, I1.kept (t' := s1.toks) hk, turn_zipK k1 k2 ap, ⟨hz, hTI, ⟨_, _, hTO⟩, h1, h2⟩, five_ok I1, q⟩
  cases k1 with
  | true =>
    cases k2 with
    | true => exact RZ.call_zipT p1 p2 fun h' hz hTI hTO h1 h2 _ hk => fin h' hz hTI hTO h1 h2 hk
    | false => exact call_mixed p1 p2 fun h' hz hTI hTO h1 h2 hk => fin h' hz hTI hTO h1 h2 hk
  | false =>
    cases k2 with
    | true => exact absurd (k12 rfl) Bool.false_ne_true
    | false => exact call_zip_2 p1 p2 fun h' hz hTI hTO h1 h2 _ hk => fin h' hz hTI hTO h1 h2 hk
end RE
namespace GB
open PySem PySem.Spec PyProof.Rows L2
theorem beh_zipK {K : FK} {F1 : Hp} {k1 k2 : Bool} {a b : Addr} {ds es : List D} {src : Sto → Prop} (hC : ∀ Z F H S, Same F1 F → RelH K Z F S H → src S → (∃ vs, SqK K k1 H a vs ∧ RepL K F ds vs) ∧ ∃ vs, SqK K k2 H b vs ∧ RepL K F es vs) :
    Beh K F1 (RE.ItzK K k1 k2 a b) (zipD ds es) src := by
  intro i Z F H S sf R hs
  obtain ⟨⟨vs, c, r⟩, us, c2, r2⟩ := hC Z F H S sf R hs
  refine ⟨fun d hd => ?_, fun hl => ⟨vs, us, c, c2, ?_⟩⟩
  · rw [zip_at] at hd
    cases q : ds[i]? with
    | none => rw [q] at hd; cases hd
    | some e =>
      cases q2 : es[i]? with
      | none => rw [q, q2] at hd; cases hd
      | some e2 =>
        rw [q, q2] at hd; cases hd
        obtain ⟨v, hv, rv⟩ := r.get q
        obtain ⟨v2, hv2, rv2⟩ := r2.get q2
        refine ⟨⟨vs, us, v, v2, c, c2, hv, hv2⟩, fun x H' y => ?_⟩
        obtain ⟨T, o, z, z2, rfl, hT, od, rfl, g, g2⟩ := y
        have e1 := g vs c
        have e3 := g2 us c2
        rw [hv] at e1; cases e1
        rw [hv2] at e3; cases e3
        exact newPair R hT od rv rv2
  · rw [zip_len, r.length, r2.length] at hl
    omega
end GB

/-! GBx3: except clauses with and without names; isinstance and fields of the exception that is handled. -/
namespace GB
open PySem PySem.Spec PyProof.Rows L2

/-- the ends of a suite whose name goes -/
def endsA (i : Nat) (D : Ends) : Ends := { nx := fun σ' H' => D.nx (σ'.set i none) H', rt := D.rt, bk := fun σ' H' => D.bk (σ'.set i none) H', ct := fun σ' H' => D.ct (σ'.set i none) H' }
abbrev Cl : Type := Value × Option Nat × (Addr → Value → Option Addr → TS)
def wG2 (K : FK) (Wout : WX) (D : Ends) : List Cl → WX
  | [] => Wout
  | (c, none, ts) :: r => fun cls d σ H => ∃ b, PySem.W.exmOne K cls c = some b ∧ (b = true → ∀ a, H a = none → ts a cls d D σ H) ∧ (b = false → wG2 K Wout D r cls d σ H)
  | (c, some i, ts) :: r => fun cls d σ H => ∃ b, PySem.W.exmOne K cls c = some b ∧ (b = true → ∀ a, H a = none → ts a cls d (endsA i D) (σ.set i (some (.ref a))) H) ∧ (b = false → wG2 K Wout D r cls d σ H)
def SuOk (X : Cx) (su : List Stmt) (ts : Addr → Value → Option Addr → TS) : Prop := ∀ (a : Addr) (oe : Obj) (cls : Value) (d : Option Addr) (pn : List (Addr × Obj)), Zc cls d oe → (∃ vs, oe.data = .fields vs) → PSs (X.suite a ((a, oe) :: pn)) su (ts a cls d)
inductive HdsG (X : Cx) : List ExceptHandler → List Cl → Prop
  | nil : HdsG X [] []
  | cons {x : Str} {c : Value} {ts : Addr → Value → Option Addr → TS} {b₀ : Stmt} {suite : List Stmt} {np pos' : Pos} {hds : List ExceptHandler} {l : List Cl} (hc : Names X x c)
      (hsu : SuOk X (b₀ :: suite) ts) (r : HdsG X hds l) : HdsG X (.ExceptHandler (some (.Name x np)) none (b₀ :: suite) pos' :: hds) ((c, none, ts) :: l)
  | consN {x n : Str} {i : Nat} {c : Value} {ts : Addr → Value → Option Addr → TS} {b₀ : Stmt} {suite : List Stmt} {np pos' : Pos} {hds : List ExceptHandler} {l : List Cl} (hc : Names X x c) (hi : X.N[i]? = some n) (hln : X.env.kindOf n = some .local)
      (hsu : SuOk X (b₀ :: suite) ts) (r : HdsG X hds l) : HdsG X (.ExceptHandler (some (.Name x np)) (some n) (b₀ :: suite) pos' :: hds) ((c, some i, ts) :: l)
section
variable {X : Cx} {body : List Stmt} {h₀ : ExceptHandler} {hds : List ExceptHandler} {l : List Cl} {pos : Pos} {tb : WX → TS} {Wout : WX}
theorem ps_try_gen (hs : X.stack = X.env :: X.outer) (hf : X.env.frame = some X.env.locals) (hN : X.N.Nodup) (tk : Takes X Wout)
    (hb : ∀ (W : WX) (pn : List (Addr × Obj)) (xe : Value → Shared → Prop), Takes (X.tr pn xe) W → PassesOwn (model X.prog X.w) X.A X.env xe → PSs (X.tr pn xe) body (tb W))
    (hh : HdsG X (h₀ :: hds) l) : PS X (.Try body (h₀ :: hds) [] [] pos) (fun D σ H => tb (wG2 X.K Wout D l) D σ H) := by
  refine ⟨fun pins s σ H D I h => ?_⟩
  have ok := I.ok
  have hfr : X.A.frames = some (X.env :: X.outer) := by rw [ok.frames, hs]
  refine wpAny_Try_except ?_
  refine wpAny_mono ((hb (wG2 X.K Wout D l) (X.pn ++ pins) (fun e s₁ => wpAny (model X.prog X.w) X.A (noteFrame e X.env) (fun _ s₂ => wpAny (model X.prog X.w) X.A (setFlight e none) (fun _ s₃ =>
    wpAny (model X.prog X.w) X.A (handleBy e X.env (h₀ :: hds)) (SP X pins D) X.xe s₃) X.xe s₂) X.xe s₁) (fun u s' xx => ?_) PassesOwn.looking).run [] s σ H D (I.toTry _) h) (fun f s1 hsp => ?_) (fun e s1 he => he)
  · -- the catch
    obtain ⟨a, B, sI, pins', σ', H', cls, d, rfl, J', nb, up, sky, na, os, ag, w⟩ := xx
    have J : Inv X pins σ' H' sI := J'.ofTry ok
    have sky' : Sky B (X.env :: X.outer) a (Zc cls d) X.env.locals s'.heap := by rw [← hs]; exact sky
    show wpAny (model X.prog X.w) X.A (noteFrame (.ref a) X.env) _ _ _
    refine Sky.land Zc.steady hfr hf sky' fun h3 fl3 up3 => ?_
    have J3 : Inv X pins σ' H' { s' with heap := h3 } := J.landed nb fl3.1 (up.trans up3) os ag
    obtain ⟨oe3, vs3, he3, hz3, hd3⟩ := fl3.there
    have notFr : ∀ {h : Heap} {o : Obj} {vs : Array Value}, h.FunFrames B (X.env :: X.outer) → h.get? a = some o → o.data = .fields vs → a ∉ frs (X.env :: X.outer) := fun {h o vs} ff e dd hm => by
      obtain ⟨_, o', e', hnf⟩ := ff.mem hm
      rw [e] at e'; cases e'
      exact hnf _ dd
    have nfr := notFr fl3.2.2.1 he3 hd3
    have nL : a ≠ X.env.locals := fun z => nfr (List.mem_filterMap.mpr ⟨X.env, List.mem_cons_self, by rw [hf, z]⟩)
    have nF : a ∉ X.fs := fun hm => by
      obtain ⟨e, he, q⟩ := List.mem_filterMap.mp hm
      exact nfr (List.mem_filterMap.mpr ⟨e, List.mem_cons_of_mem _ he, q⟩)
    have S3 := J3.suite he3 hd3 na nL nF
    have LT : PySem.W.Looks (model X.prog X.w) h3 (typeOf (.ref a)) cls := fun A Q E s k q => wpAny_typeOf_ref (k _ _ he3) (by rw [hz3.1]; exact q)
    have test : ∀ {x : Str} {c : Value} {np : Pos} {Q : Value → Shared → Prop} {E : Value → Shared → Prop}, Names X x c → Q c { s' with heap := h3 } → wpAny (model X.prog X.w) (X.A.mark (some (.ref a))) (eval (.Name x np) X.env) Q E { s' with heap := h3 } := fun {x c np Q E} hc q => by
      obtain ⟨hg, hdbg, hm | ⟨hm, hv, hnn⟩⟩ := hc
      · exact ld_glob (X := X.suite a ((a, oe3) :: (X.pn ++ pins))) S3 hg hm q hdbg
      · exact ld_blt (X := X.suite a ((a, oe3) :: (X.pn ++ pins))) S3 hg hm hv q hnn hdbg
    have go : ∀ {hds' : List ExceptHandler} {l' : List Cl}, HdsG X hds' l' → wG2 X.K Wout D l' cls d σ' H' →
        wpAny (model X.prog X.w) X.A (handleBy (.ref a) X.env hds') (SP X pins D) X.xe { s' with heap := h3 } := by
      intro hds' l' hk
      induction hk with
      | nil =>
        intro w
        refine wpAny_handleBy_nil ?_
        obtain ⟨k1, k2, k3, oe, vs, T, oT, ts', he, hz, hd, h1, hr⟩ := id fl3
        unfold PySem.passOn
        refine wpAny_bind (wpAny_field he hd h1 ?_)
        rw [if_neg (show ¬ ((Value.ref T == Value.none) = true) from by simp)]
        have fin : wpAny (model X.prog X.w) X.A (setFlight (.ref a) X.env.frame) (fun _ s4 => wpAny (model X.prog X.w) X.A (throw (.ref a) : Sem Flow) (SP X pins D) X.xe s4) X.xe { s' with heap := h3 } := by
          rw [hf]
          refine HandSPX.setFlight_upZ fl3 fun h4 hh4 up4 => wpAny_throw (tk _ _ ?_)
          exact ⟨a, B, sI, pins, σ', H', cls, d, rfl, J, nb, (up.trans up3).trans up4, .inr (.inr (by rw [hs]; exact hh4)), na, os, ag, w⟩
        first
          | exact wpAny_bind (wpAny_pure (wpAny_bind fin))
          | exact wpAny_bind fin
      | @cons x c ts b₀ suite np pos' hds2 l2 hc hsu r ih =>
        intro w
        obtain ⟨b, hb1, hyes, hno⟩ := w
        refine wpAny_handleBy_cons (codeAny_handlers_test ?_) (by intro q; cases q)
        have LM := PySem.W.exm_one (M := model X.prog X.w) (J3.kIn) LT hb1
        refine test hc (LM.here ?_)
        cases b with
        | true =>
          refine codeAny_handlers_suite ?_
          refine HandSPX.lands_againZ fl3 fun h4 fl4 up4 => ?_
          have J4 : Inv X pins σ' H' { s' with heap := h4 } := J.landed nb fl4.1 ((up.trans up3).trans up4) os ag
          obtain ⟨oe4, vs4, he4, hz4, hd4⟩ := fl4.there
          have S4 := J4.suite he4 hd4 na nL nF
          refine wpAny_mono ((hsu a oe4 cls d (X.pn ++ pins) hz4 ⟨_, hd4⟩).run [] _ _ H' _ S4 (hyes rfl a na)) (fun f s6 hsp => ?_) (fun _ _ z => False.elim z)
          cases f with
          | next =>
            obtain ⟨σ6, H6, S6, q6⟩ := hsp
            exact ⟨_, _, S6.unsuite ok, q6⟩
          | brk =>
            obtain ⟨σ6, H6, S6, q6⟩ := hsp
            exact ⟨_, _, S6.unsuite ok, q6⟩
          | cont =>
            obtain ⟨σ6, H6, S6, q6⟩ := hsp
            exact ⟨_, _, S6.unsuite ok, q6⟩
          | ret u =>
            obtain ⟨v6, σ6, H6, S6, r6, q6⟩ := hsp
            exact ⟨_, _, _, S6.unsuite ok, r6, q6⟩
        | false =>
          show wpAny _ X.A (handleBy (.ref a) X.env hds2) _ _ _
          exact ih (hno rfl)
      | @consN x n i c ts b₀ suite np pos' hds2 l2 hc hi hln hsu r ih =>
        intro w
        obtain ⟨b, hb1, hyes, hno⟩ := w
        have hloc : Loc X.env.scope n := .inl hln
        refine wpAny_handleBy_cons (codeAny_handlers_test ?_) (by intro q; cases q)
        have LM := PySem.W.exm_one (M := model X.prog X.w) (J3.kIn) LT hb1
        refine test hc (LM.here ?_)
        cases b with
        | true =>
          refine codeAny_handlers_suite_as ?_
          refine HandSPX.lands_againZ fl3 fun h4 fl4 up4 => ?_
          have J4 : Inv X pins σ' H' { s' with heap := h4 } := J.landed nb fl4.1 ((up.trans up3).trans up4) os ag
          obtain ⟨oe4, vs4, he4, hz4, hd4⟩ := fl4.there
          have S4 := J4.suite he4 hd4 na nL nF
          refine store_ok (X := X.suite a ((a, oe4) :: (X.pn ++ pins))) (v := .ref a) S4 hN hi hloc rfl (fun s5 S5 => ?_) (.inr hln)
          refine wpAny_mono ((hsu a oe4 cls d (X.pn ++ pins) hz4 ⟨_, hd4⟩).run [] s5 _ H' _ S5 (hyes rfl a na)) (fun f s6 hsp => ?_) (fun _ _ z => False.elim z)
          have end_ : ∀ {σ6 : L2.St} {H6 : Hp} {Q : Shared → Prop}, Inv (X.suite a ((a, oe4) :: (X.pn ++ pins))) [] σ6 H6 s6 → (∀ s7, Inv X pins (σ6.set i none) H6 s7 → Q s7) →
              wpAny (model X.prog X.w) X.A (do bindName X.env n .none; unbindBehindTheSuite X.env n pos') (fun _ s7 => Q s7) X.xe s6 := fun {σ6 H6 Q} S6 hq => gone_ok (S6.unsuite ok) hN hi hln hq
          cases f with
          | next =>
            obtain ⟨σ6, H6, S6, q6⟩ := hsp
            exact end_ S6 fun s7 J7 => ⟨_, _, J7, q6⟩
          | brk =>
            obtain ⟨σ6, H6, S6, q6⟩ := hsp
            exact end_ S6 fun s7 J7 => ⟨_, _, J7, q6⟩
          | cont =>
            obtain ⟨σ6, H6, S6, q6⟩ := hsp
            exact end_ S6 fun s7 J7 => ⟨_, _, J7, q6⟩
          | ret u =>
            obtain ⟨v6, σ6, H6, S6, r6, q6⟩ := hsp
            exact end_ S6 fun s7 J7 => ⟨_, _, _, J7, r6, q6⟩
        | false =>
          show wpAny _ X.A (handleBy (.ref a) X.env hds2) _ _ _
          exact ih (hno rfl)
    exact go hh w
  · cases f with
    | next =>
      obtain ⟨σ', H', J', q⟩ := hsp
      exact wpAny_execs_nil ⟨σ', H', J'.ofTry ok, q⟩
    | brk =>
      obtain ⟨σ', H', J', q⟩ := hsp
      exact ⟨σ', H', J'.ofTry ok, q⟩
    | cont =>
      obtain ⟨σ', H', J', q⟩ := hsp
      exact ⟨σ', H', J'.ofTry ok, q⟩
    | ret u =>
      obtain ⟨v, σ', H', J', r, q⟩ := hsp
      exact ⟨v, σ', H', J'.ofTry ok, r, q⟩
end
end GB

/-! GBx4: isinstance and fields of the exception that is handled, whatever stands in its dict. -/
namespace PySem.W
open PySem PySem.Spec PySem.Calls PyProof.Rows
section
variable {prog : Program} {w : World} {A : Around} {E : Value → Shared → Prop} {s : Shared} {K : Frag} {x D : Addr} {ox : Obj} {od : Option Obj}
theorem findObj_dataO {C : Addr} {name : Str} {a g : Value} (hc : (clsIn K C).isSome = true) (ha : findIn K (.ref C) name = some (some a)) (hg : specialIn K a "__get__" = some (some g)) (ht : takesIn K a = some true) : findObj K C od name = some (.bind g a) := by
  obtain ⟨cd, hc⟩ := Option.isSome_iff_exists.mp hc
  unfold findObj
  rw [hc, Option.bind_some, ha, Option.bind_some]
  simp [hg, ht]
theorem kin_classO {Q : Option Value → Shared → Prop} (hga : findIn K (.ref D) "__getattribute__" = some (some (.builtin "BaseException.__getattribute__"))) (hgt : findIn K (.ref D) "__getattr__" = some none) (hsub : subIn K (.ref D) (.type "BaseException") = some true)
    (hdct : hasDictIn K D = true) (ha : findIn K (.ref D) "__class__" = some (some (.builtin "object.__class__")))
    (hn : specialIn K (.builtin "object.__class__") "__get__" = some (some (.builtin "getset_descriptor.__get__"))) (htk : takesIn K (.builtin "object.__class__") = some true) (hm : mroIn K D (.type "object") = some true)
    (X : K.In s.heap) (I : InstAt s.heap x ox D od) (h : Q (some (.ref D)) { s with toks := s.toks + 1 }) : wpAny (model prog w) A (getAttr? (.ref x) "__class__") Q E s := by
  have hf : findObj K D od "__class__" = some (.bind (.builtin "getset_descriptor.__get__") (.builtin "object.__class__")) := findObj_dataO (by obtain ⟨cd, hc, _⟩ := any_some hdct; rw [hc]; rfl) ha hn htk
  obtain ⟨hp, g, d, t, os⟩ := s
  have L0 := I.type (M := model prog w)
  have L1 := looks_findIn (M := model prog w) X hga
  have L2 := looks_findIn (M := model prog w) X hgt
  have L3 := looks_find (M := model prog w) X I hf
  have sub : Looks (model prog w) hp (isInstance (.ref x) (.type "BaseException")) true := L0.andThen (looks_subIn X hsub)
  have hx0 : (false && onTheHeap (Value.builtin "BaseException.__getattribute__")) = false := rfl
  have hx2 : (Value.builtin "BaseException.__getattribute__" == Value.builtin "object.__getattribute__") = false := by decide +kernel
  have hx1 : (onTheHeap (Value.ref D) && Value.builtin "BaseException.__getattribute__" == Value.builtin "object.__getattribute__") = false := by rw [hx2]; rfl
  unfold getAttr? getAttrBy? getAttrBy
  refine wpAny_bind (wpAny_mkText (wpAny_bind (wpAny_attempt (wpAny_holding (wpAny_bind (L0.at (wpAny_bind (L1.at ?_))))))))
  show wpAny _ _ (if (onTheHeap (Value.ref D) && Value.builtin "BaseException.__getattribute__" == Value.builtin "object.__getattribute__") = true then _ else _) _ _ _
  rw [hx1, if_neg Bool.false_ne_true]
  unfold getAttrByItsOwn hookBefore
  refine wpAny_bind ?_
  rw [if_pos (show onTheHeap (Value.ref D) = true from rfl)]
  refine L2.at ?_
  refine wpAny_bind (wpAny_attempt (wpAny_holding ?_))
  unfold callGetattribute
  rw [hx0, if_neg Bool.false_ne_true]
  unfold boundAndCalled
  rw [PySem.F.excAttr_ValueError.ga.bind (.ref x)]
  refine wpAny_bind (wpAny_pure ?_)
  show wpAny _ _ (call (.builtin "BaseException.__getattribute__") [.ref x, .str "__class__" t]) _ _ _
  refine wpAny_call (codeAny_call_builtin PySem.F.excAttr_ValueError.ga.plain PySem.F.entry_bexc_ga ?_)
  refine @check_slot (model prog w) _ _ ⟨hp, g, d, t + 1, os⟩ "BaseException.__getattribute__" "BaseException" "__getattribute__" (.ref x) [.str "__class__" t] [] _ (by decide +kernel) (by decide +kernel) sub (PySem.F.args_bexc_ga (.ref x) (.str "__class__" t)) ?_
  unfold Builtin.«object.__getattribute__»
  refine wpAny_bind (wpAny_of_eq (a := ((Value.ref x : Value), [Value.str "__class__" t])) (by first | rfl | (simp only [slotArgs]; rfl)) ?_)
  refine wpAny_bind (wpAny_pure (wpAny_bind (L0.at (wpAny_bind (L3.at ?_)))))
  show wpAny _ _ (holding [Value.builtin "object.__class__"] (call (.builtin "getset_descriptor.__get__") [.builtin "object.__class__", .ref x, .ref D]) >>= ret) _ _ _
  refine wpAny_bind (wpAny_holding (wpAny_call (class_get (s := ⟨hp, g, d, t + 1, os⟩) (ox := ox) (od := od) X I hm ?_)))
  refine wpAny_pure ?_
  show wpAny _ _ (handedOut (.ref D)) _ _ _
  rw [handedOut_of (v := .ref D) rfl]
  first
    | exact wpAny_pure (wpAny_pure h)
    | exact wpAny_pure h
    | exact wpAny_pure (wpAny_bind (wpAny_pure (wpAny_pure h)))
theorem kitx_excO (hga : findIn K (.ref D) "__getattribute__" = some (some (.builtin "BaseException.__getattribute__"))) (hgt : findIn K (.ref D) "__getattr__" = some none) (hsub : subIn K (.ref D) (.type "BaseException") = some true) (hdct : hasDictIn K D = true) (ha : findIn K (.ref D) "__class__" = some (some (.builtin "object.__class__")))
    (hn : specialIn K (.builtin "object.__class__") "__get__" = some (some (.builtin "getset_descriptor.__get__"))) (htk : takesIn K (.builtin "object.__class__") = some true) (hm : mroIn K D (.type "object") = some true) :
    KitX K (.ref x) (.ref D) (fun h => InstAt h x ox D od) where
  ty := fun _ _ _ I => I.type
  it := fun _ _ X _ => by
    obtain ⟨cdD, hcD, _⟩ := any_some hdct
    unfold clsIn at hcD
    split at hcD
    · rename_i c' d' cd' sl' ho
      intro A' Q' E' s' k q
      unfold isType loadHead
      exact wpAny_bind (wpAny_loadPart (k _ _ (X _ _ ho)) (wpAny_pure q))
    · cases hcD
  ne := fun h tp dd its n sl X htp => by
    obtain ⟨cdD, hcD, _⟩ := any_some hdct
    refine Bool.eq_false_iff.mpr fun q => ?_
    have e : D = tp := Value.ref.inj (beq_iff_eq.mp q)
    subst e
    unfold clsIn at hcD
    split at hcD
    · rename_i c' d' cd' sl' ho
      have z := (X _ _ ho).symm.trans htp
      cases z
    · cases hcD
  ca := fun X I k => kin_classO hga hgt hsub hdct ha hn htk hm X I k
end
end PySem.W
namespace GB
open PySem PySem.Spec PyProof.Rows L2
/-- the exception that is handled, as it stands -/
structure HotX (X : Cx) (F0 : Hp) (a : Addr) (x : Ex) : Prop where
  ex : ∃ oe cls d, (a, oe) ∈ X.pn ∧ Zc cls d oe ∧ (∃ vs, oe.data = .fields vs) ∧ XRep X.K X.mg F0 x cls d
section
variable {X : Cx} {pins : List (Addr × Obj)} {σ : VS} {H : Hp} {s : Shared} {a C : Addr} {oe : Obj} {cls : Value} {d : Option Addr}
theorem inst_of (I : Inv X pins σ H s) (hp : (a, oe) ∈ X.pn) (hz : Zc (.ref C) d oe) (hf : ∃ vs, oe.data = .fields vs) (hd : d = none ∨ ∃ dx vs, d = some dx ∧ H dx = some (.xd vs)) : ∃ od, PySem.W.InstAt s.heap a oe C od ∧ ∀ dx vs, d = some dx → H dx = some (.xd vs) → ∃ o, od = some o ∧ ∀ (f : Str) (v : V), vs.lookup f = some v → ∃ u, PySem.W.lookIn f o = some (some u) ∧ RelV v u := by
  obtain ⟨ha, _⟩ := I.pin (a, oe) (List.mem_append_left _ hp)
  obtain ⟨vs, hv⟩ := hf
  rcases hd with rfl | ⟨dx, ws, rfl, hx⟩
  · refine ⟨none, ⟨ha, hz.1, by unfold PySem.W.notCls; rw [hv] <;> rfl, by rw [hz.2]; trivial⟩, fun dx vs e => nomatch e⟩
  · have q : ObjOk X.prog X.w H s.heap dx (.xd ws) := I.hok dx _ hx
    obtain ⟨mA, hns, hr⟩ := q
    obtain ⟨od, ho, hl⟩ := lookIn_ns hns
    refine ⟨some od, ⟨ha, hz.1, by unfold PySem.W.notCls; rw [hv] <;> rfl, by rw [hz.2]; exact ho⟩, ?_⟩
    intro dx2 us e h2
    cases e
    rw [hx] at h2
    cases h2
    refine ⟨od, rfl, fun f v lf => ?_⟩
    obtain ⟨u, hu, ru⟩ := RelO.some_of (v := v) (o := mA f) (by rw [← lf]; exact hr f)
    exact ⟨u, by rw [hl, hu], ru⟩
end
end GB

/-! GB10: soundness of expressions. -/
namespace GB
open PySem PySem.Spec PyProof.Rows L2

structure Gd (X : Cx) (k : Nat) (Z F0 : Hp) (xq : XP) (blk : Md) : Prop where
  nd : X.N.Nodup
  calm : blk.cold = true → X.calm = true
  room : blk.cold = true → Room k X.A
  rh : L2H.RoomH k X.A
  gu : X.A.guards = some []
  tk : Takes X (LX X.K X.mg Z F0 xq)
  po : PassesOwn (model X.prog X.w) X.A X.env X.xe
  fn : blk.nb = true → ∀ x, X.fn x = true
  hot : blk = .ht → ∃ a x, xq.h = some (a, x) ∧ HotX X F0 a x
  st : blk = .df → X.stack = X.env :: X.outer ∧ X.env.frame = some X.env.locals
def txOf (X : Cx) : Tx := ⟨X.prog, X.w, X.K, X.mg, X.base⟩
theorem Gd.un {X : Cx} {k : Nat} {Z F0 : Hp} {xq : XP} {blk : Md} (g : Gd X k Z F0 xq blk) : X.A.units + 64 < cLine := by
  have := g.rh.un
  omega
/-- a comprehension's block -/
theorem Gd.blk {X : Cx} {k : Nat} {Z F0 : Hp} {xq : XP} {b : Md} (g : Gd X k Z F0 xq b) (hb : b.cold = true) (Z' F' : Hp) (s : Shared) (H : Hp) (scope : Scope) (C : Addr) (cl : List (Str × Addr)) (fp : List Addr) :
    Gd (X.blk s H scope (compEnvC scope cl C X.env) fp) k Z' F' XP0 .bk := by
  refine ⟨g.nd, fun _ => g.calm hb, fun _ => g.room hb, g.rh, g.gu, ?_, PassesOwn.never, fun h => (nomatch h), fun h => (nomatch h), fun h => (nomatch h)⟩
  refine Takes.imp takes0 ?_
  rintro c d σ H ⟨_, _, _, _, _, _, _, _, z⟩
  exact z

section
variable {X : Cx} {Z F0 : Hp}
theorem PT_of {p : Expr} {we : WpE} (h : PE X p (LE X.K Z F0 we)) (he : ∀ whole, isTrue p X.env whole = (do let v ← whole; standAt p.pos; holding [v] (truthy v))) : PT X p (LT X.K Z F0 (tv we)) := by
  refine PT_imp (pt_truth h he) ?_
  rintro σ H Q ⟨F, δ, S, P, sf, rs, rh, w, c⟩
  refine ⟨F, δ, S, _, sf, rs, rh, w, ?_⟩
  intro F' H' S' d v s R r t
  obtain ⟨b, tb, pb⟩ := truL R r t
  exact ⟨b, tb, c F' H' S' b s R pb⟩
theorem both_ok {p : Expr} {we : WpE} (h : PE X p (LE X.K Z F0 we)) (he : ∀ whole, isTrue p X.env whole = (do let v ← whole; standAt p.pos; holding [v] (truthy v))) :
    PE X p (LE X.K Z F0 (both we).e) ∧ PT X p (LT X.K Z F0 (both we).t) := ⟨h, PT_of h he⟩
/-- a constant -/
theorem cst_ok {p : Expr} {d : D} {v : V} (h : PE X p (tC v)) (r : ∀ F, Rep X.K F d v) : PE X p (LE X.K Z F0 fun _ S P => P d S) := by
  refine PE_imp h ?_
  rintro σ H Q ⟨F, δ, S, P, sf, rs, rh, w, c⟩
  exact same_ok rh (r F) w c
theorem un_ok {p : Expr} {we : WpE} {r : V → Hp → VK → Prop} {o : D → Sto → EQ → Prop} {q : Expr} (h : PE X p (LE X.K Z F0 we)) (f : ∀ {t : TE}, PE X p t → PE X q (tUn r t)) (u : UnL X.K r o) : PE X q (LE X.K Z F0 fun δ S P => we δ S fun x S1 => o x S1 P) := by
  refine PE_imp (f h) ?_
  rintro σ H Q ⟨F, δ, S, P, sf, rs, rh, w, c⟩
  refine ⟨F, δ, S, _, sf, rs, rh, w, ?_⟩
  intro F' H' S' d v s R rd od
  exact u Z F' S' H' d v P Q R rd od (c.mono s)
theorem negL {K : FK} : UnL K (rU fun i => .int (-i)) negD := by
  intro Z F S H x v P Q R rx w c
  cases x with
  | int i => cases rx; exact ⟨i, rfl, same_ok R (.int _) w c⟩
  | _ => exact absurd w id
/-- a comparison's value is a truth -/
theorem cmp_test {p : Expr} {we : WpE} (h : PE X p (LE X.K Z F0 we)) (hp : ∀ {t : TE}, PE X p t → PT X p (tTest t)) : PT X p (LT X.K Z F0 fun δ S P => we δ S (isCmpTrue P)) := by
  refine PT_imp (hp h) ?_
  rintro σ H Q ⟨F, δ, S, P, sf, rs, rh, w, c⟩
  refine ⟨F, δ, S, _, sf, rs, rh, w, ?_⟩
  rintro F' H' S' d v s R rd ⟨b, rfl, pb⟩
  cases rd
  exact ⟨b, rfl, c F' H' S' b s R pb⟩
end

/-- the operator of a comparison -/
def copO : COp → CmpOp
  | .eq => .Eq
  | .ne => .NotEq
  | .lt => .Lt
  | .le => .LtE
  | .gt => .Gt
  | .ge => .GtE
  | .isN => .Is
  | .noN => .IsNot
  | .inn => .In
  | .nin => .NotIn
theorem copO_of : ∀ {o : COp} {op : CmpOp}, copB o op = true → op = copO o := by
  intro o op h
  cases o <;> cases op <;> first
    | rfl
    | exact absurd h Bool.false_ne_true
theorem op_isA {X : Cx} : OpR X (compareOp .Is) (fun x y H Q => (y = .non ∧ Q (.bl (decide (x = .non))) H) ∨ (∃ c d, (x = .bl c ∧ y = .bl d) ∧ Q (.bl (c == d)) H) ∨ ∃ d, (notV x ∧ y = .bl d) ∧ Q (.bl false) H) := by
  intro pins s σ H x y v u Q I rx ry h
  rcases h with h | ⟨c, d, ⟨rfl, rfl⟩, q⟩ | ⟨d, ⟨hn, rfl⟩, q⟩
  · exact op_isN pins s σ H _ _ _ _ _ I rx ry h
  · cases rx
    cases ry
    exact is_bool (fin_bl I q rfl)
  · cases ry
    rcases hn with rfl | ⟨i, rfl⟩ | ⟨t, rfl⟩ | ⟨a, rfl⟩
    · cases rx
      exact wpAny_pure (a := Value.bool (Value.none == Value.bool d)) (fin_bl I q rfl)
    · obtain ⟨t, rfl⟩ := rx
      exact wpAny_pure (a := Value.bool (Value.int i t == Value.bool d)) (fin_bl I q rfl)
    · obtain ⟨u, rfl⟩ := rx
      exact wpAny_pure (a := Value.bool (Value.str t u == Value.bool d)) (fin_bl I q rfl)
    · cases rx
      exact wpAny_pure (a := Value.bool (Value.ref a == Value.bool d)) (fin_bl I q rfl)
theorem op_notA {X : Cx} : OpR X (compareOp .IsNot) (fun x y H Q => (y = .non ∧ Q (.bl (!decide (x = .non))) H) ∨ (∃ c d, (x = .bl c ∧ y = .bl d) ∧ Q (.bl (c != d)) H) ∨ ∃ d, (notV x ∧ y = .bl d) ∧ Q (.bl true) H) := by
  intro pins s σ H x y v u Q I rx ry h
  rcases h with h | ⟨c, d, ⟨rfl, rfl⟩, q⟩ | ⟨d, ⟨hn, rfl⟩, q⟩
  · exact op_notN pins s σ H _ _ _ _ _ I rx ry h
  · cases rx
    cases ry
    exact isnot_bool (fin_bl I q rfl)
  · cases ry
    rcases hn with rfl | ⟨i, rfl⟩ | ⟨t, rfl⟩ | ⟨a, rfl⟩
    · cases rx
      exact wpAny_pure (a := Value.bool (!(Value.none == Value.bool d))) (fin_bl I q rfl)
    · obtain ⟨t, rfl⟩ := rx
      exact wpAny_pure (a := Value.bool (!(Value.int i t == Value.bool d))) (fin_bl I q rfl)
    · obtain ⟨u, rfl⟩ := rx
      exact wpAny_pure (a := Value.bool (!(Value.str t u == Value.bool d))) (fin_bl I q rfl)
    · cases rx
      exact wpAny_pure (a := Value.bool (!(Value.ref a == Value.bool d))) (fin_bl I q rfl)
theorem cop_ok {X : Cx} (hu : X.A.units + 64 < cLine) : ∀ {o : COp} {op : CmpOp}, copB o op = true → ∃ r, OpR X (compareOp op) r ∧ OpL X.K r (cmpD o) ∧ (inB2 o = false → op ≠ .In ∧ op ≠ .NotIn) := by
  intro o op h
  obtain rfl := copO_of h
  cases o with
  | eq => exact ⟨_, op_eqA hu, eqL, fun _ => ⟨nofun, nofun⟩⟩
  | ne => exact ⟨_, op_neA hu, neL, fun _ => ⟨nofun, nofun⟩⟩
  | lt => exact ⟨_, op_lt, icmpL _, fun _ => ⟨nofun, nofun⟩⟩
  | le => exact ⟨_, op_le, icmpL _, fun _ => ⟨nofun, nofun⟩⟩
  | gt => exact ⟨_, op_gt, icmpL _, fun _ => ⟨nofun, nofun⟩⟩
  | ge => exact ⟨_, op_ge, icmpL _, fun _ => ⟨nofun, nofun⟩⟩
  | isN => exact ⟨_, op_isA, isNL, fun _ => ⟨nofun, nofun⟩⟩
  | noN => exact ⟨_, op_notA, noNL, fun _ => ⟨nofun, nofun⟩⟩
  | inn => exact ⟨_, op_inA hu, inL, fun z => absurd z (by decide)⟩
  | nin => exact ⟨_, op_notInA hu, inL, fun z => absurd z (by decide)⟩
def bopO : BOp → Operator
  | .add => .Add
  | .sub => .Sub
  | .mul => .Mult
  | .fdiv => .FloorDiv
  | .mod => .Mod
  | .pow => .Pow
  | .shl => .LShift
  | .shr => .RShift
  | .band => .BitAnd
theorem bopO_of : ∀ {o : BOp} {op : Operator}, bopB o op = true → op = bopO o := by
  intro o op h
  cases o <;> cases op <;> first
    | rfl
    | exact absurd h Bool.false_ne_true
theorem bop_ok {X : Cx} : ∀ {o : BOp} {op : Operator} (m : Bool), bopB o op = true → ∃ r, OpR X (binaryOp op) r ∧ OpL X.K r (binD o m) := by
  intro o op m h
  obtain rfl := bopO_of h
  cases o with
  | add => exact ⟨_, op_addA, addL⟩
  | sub => exact ⟨_, op_sub, subL⟩
  | mul => exact ⟨_, op_mulA, mulL⟩
  | fdiv => exact ⟨_, op_fdivA, fdivL⟩
  | mod => exact ⟨_, op_modN, modL⟩
  | pow => exact ⟨_, op_powA, powL⟩
  | shl => exact ⟨_, op_shlN, shlL⟩
  | shr => exact ⟨_, op_shrN, shrL⟩
  | band => exact ⟨_, op_andM, bandL⟩

theorem and_t {a b : Bool} (h : (a && b) = true) : a = true ∧ b = true := Bool.and_eq_true_iff.mp h
theorem star_cons {e : Expr} {es : List Expr} {env : Env} (h : nst e = true) : starEach (e :: es) env = (false, eval e env) :: starEach es env := by
  cases e <;> first
    | rfl
    | exact absurd h Bool.false_ne_true
/-- no star in a list of arguments -/
def NStar : List Expr → Prop
  | [] => True
  | e :: es => nst e = true ∧ NStar es
theorem star_none {pos : Pos} {env : Env} : ∀ {es : List Expr}, NStar es → (backTo pos (starEach es env)).any (·.1) = false
  | [], _ => rfl
  | e :: es, h => by
    rw [star_cons h.1]
    show (false || (backTo pos (starEach es env)).any (·.1)) = false
    rw [star_none h.2]; rfl
theorem star_all {pos : Pos} {env : Env} : ∀ {es : List Expr}, NStar es → ((backTo pos (starEach es env)).all fun x => !x.1) = true
  | [], _ => rfl
  | e :: es, h => by
    rw [star_cons h.1]
    show (true && (backTo pos (starEach es env)).all fun x => !x.1) = true
    rw [star_all h.2]; rfl
/-- what a look at a list of expressions gives -/
structure EsOk (X : Cx) (Z F0 : Hp) (ps : List Expr) (W : WEs) : Prop where
  st : NStar ps
  all : PA X ps (LA X.K Z F0 W.all)
  an : ps ≠ [] → ∀ pos, PE X (.BoolOp .And ps pos) (LE X.K Z F0 W.an.e) ∧ PW X (.BoolOp .And ps pos) (LT X.K Z F0 W.an.t)
  or : ps ≠ [] → ∀ pos, PE X (.BoolOp .Or ps pos) (LE X.K Z F0 W.or.e) ∧ PW X (.BoolOp .Or ps pos) (LT X.K Z F0 W.or.t)
  ifs : ps.length ≤ 1 → PTs X ps (LT X.K Z F0 W.ifs)

section
variable {X : Cx} {Z F0 : Hp}
theorem pw_one_a {a : Expr} {t : TT} {pos : Pos} (h : PT X a t) : PW X (.BoolOp .And [a] pos) t := pw_and1 h
theorem pa_more {p : Expr} {ps : List Expr} {we : WpE} {wa : WpA} (h : PE X p (LE X.K Z F0 we)) (hs : PA X ps (LA X.K Z F0 wa)) (n : nst p = true) :
    PA X (p :: ps) (LA X.K Z F0 fun δ S P => we δ S fun x S1 => wa δ S1 fun xs S2 => P (x :: xs) S2) := by
  refine PA_imp (pa_cons h hs (star_cons n)) ?_
  rintro σ H Q ⟨F, δ, S, P, sf, rs, rh, w, c⟩
  refine ⟨F, δ, S, _, sf, rs, rh, w, ?_⟩
  intro F1 H1 S1 d v s1 R1 r1 w1
  refine ⟨F1, δ, S1, _, sf.trans s1, rs.mono s1, R1, w1, ?_⟩
  intro F2 H2 S2 ds vs s2 R2 r2 w2
  exact c F2 H2 S2 (d :: ds) (v :: vs) (s1.trans s2) R2 (.cons (r1.mono s2) r2) w2
theorem pa_nil' : PA X [] (LA X.K Z F0 fun _ S P => P [] S) := by
  refine PA_imp pa_nil ?_
  rintro σ H Q ⟨F, δ, S, P, sf, rs, rh, w, c⟩
  exact c F H S [] [] (Same.refl F) rh .nil w
/-- and, or: the next operand -/
theorem an_e {a b : Expr} {r : List Expr} {pos : Pos} {wa wb : WpE} (ha : PE X a (LE X.K Z F0 wa)) (hb : PE X (.BoolOp .And (b :: r) pos) (LE X.K Z F0 wb)) :
    PE X (.BoolOp .And (a :: b :: r) pos) (LE X.K Z F0 fun δ S P => wa δ S fun x S1 => truD x S1 fun k S2 => if k = true then wb δ S2 P else P x S2) := by
  refine PE_imp (pe_andT ha hb) ?_
  rintro σ H Q ⟨F, δ, S, P, sf, rs, rh, w, c⟩
  refine ⟨F, δ, S, _, sf, rs, rh, w, ?_⟩
  intro F1 H1 S1 d v s1 R1 r1 w1
  obtain ⟨k, tk, w1⟩ := truL R1 r1 w1
  refine ⟨k, tk, ?_⟩
  cases k with
  | true =>
    rw [if_pos rfl] at w1 ⊢
    exact ⟨F1, δ, S1, P, sf.trans s1, rs.mono s1, R1, w1, c.mono s1⟩
  | false =>
    rw [if_neg Bool.false_ne_true] at w1 ⊢
    exact same_ok R1 r1 w1 (c.mono s1)
theorem or_e {a b : Expr} {r : List Expr} {pos : Pos} {wa wb : WpE} (ha : PE X a (LE X.K Z F0 wa)) (hb : PE X (.BoolOp .Or (b :: r) pos) (LE X.K Z F0 wb)) :
    PE X (.BoolOp .Or (a :: b :: r) pos) (LE X.K Z F0 fun δ S P => wa δ S fun x S1 => truD x S1 fun k S2 => if k = true then P x S2 else wb δ S2 P) := by
  refine PE_imp (pe_orT ha hb) ?_
  rintro σ H Q ⟨F, δ, S, P, sf, rs, rh, w, c⟩
  refine ⟨F, δ, S, _, sf, rs, rh, w, ?_⟩
  intro F1 H1 S1 d v s1 R1 r1 w1
  obtain ⟨k, tk, w1⟩ := truL R1 r1 w1
  refine ⟨k, tk, ?_⟩
  cases k with
  | true =>
    rw [if_pos rfl] at w1 ⊢
    exact same_ok R1 r1 w1 (c.mono s1)
  | false =>
    rw [if_neg Bool.false_ne_true] at w1 ⊢
    exact ⟨F1, δ, S1, P, sf.trans s1, rs.mono s1, R1, w1, c.mono s1⟩
theorem an_t {a b : Expr} {r : List Expr} {pos : Pos} {wa wb : WpT} (ha : PT X a (LT X.K Z F0 wa)) (hb : PW X (.BoolOp .And (b :: r) pos) (LT X.K Z F0 wb)) :
    PW X (.BoolOp .And (a :: b :: r) pos) (LT X.K Z F0 fun δ S P => wa δ S fun k S1 => if k = true then wb δ S1 P else P false S1) := by
  refine PW_imp (pw_and ha hb) ?_
  rintro σ H Q ⟨F, δ, S, P, sf, rs, rh, w, c⟩
  refine ⟨F, δ, S, _, sf, rs, rh, w, ?_⟩
  intro F1 H1 S1 k s1 R1 w1
  cases k with
  | true =>
    rw [if_pos rfl] at w1 ⊢
    exact ⟨F1, δ, S1, P, sf.trans s1, rs.mono s1, R1, w1, fun F2 H2 S2 b s2 => c F2 H2 S2 b (s1.trans s2)⟩
  | false =>
    rw [if_neg Bool.false_ne_true] at w1 ⊢
    exact c F1 H1 S1 false s1 R1 w1
theorem or_t {a b : Expr} {r : List Expr} {pos : Pos} {wa wb : WpT} (ha : PT X a (LT X.K Z F0 wa)) (hb : PW X (.BoolOp .Or (b :: r) pos) (LT X.K Z F0 wb)) :
    PW X (.BoolOp .Or (a :: b :: r) pos) (LT X.K Z F0 fun δ S P => wa δ S fun k S1 => if k = true then P true S1 else wb δ S1 P) := by
  refine PW_imp (pw_or ha hb) ?_
  rintro σ H Q ⟨F, δ, S, P, sf, rs, rh, w, c⟩
  refine ⟨F, δ, S, _, sf, rs, rh, w, ?_⟩
  intro F1 H1 S1 k s1 R1 w1
  cases k with
  | true =>
    rw [if_pos rfl] at w1 ⊢
    exact c F1 H1 S1 true s1 R1 w1
  | false =>
    rw [if_neg Bool.false_ne_true] at w1 ⊢
    exact ⟨F1, δ, S1, P, sf.trans s1, rs.mono s1, R1, w1, fun F2 H2 S2 b s2 => c F2 H2 S2 b (s1.trans s2)⟩
/-- a if t else b -/
theorem ite_e {t a b : Expr} {pos : Pos} {wt : WpT} {wa wb : WpE} (ht : PT X t (LT X.K Z F0 wt)) (ha : PE X a (LE X.K Z F0 wa)) (hb : PE X b (LE X.K Z F0 wb)) :
    PE X (.IfExp t a b pos) (LE X.K Z F0 fun δ S P => wt δ S fun k S1 => if k = true then wa δ S1 P else wb δ S1 P) := by
  refine PE_imp (pe_ifExp ht ha hb) ?_
  rintro σ H Q ⟨F, δ, S, P, sf, rs, rh, w, c⟩
  refine ⟨F, δ, S, _, sf, rs, rh, w, ?_⟩
  intro F1 H1 S1 k s1 R1 w1
  cases k with
  | true =>
    rw [if_pos rfl] at w1 ⊢
    exact ⟨F1, δ, S1, P, sf.trans s1, rs.mono s1, R1, w1, c.mono s1⟩
  | false =>
    rw [if_neg Bool.false_ne_true] at w1 ⊢
    exact ⟨F1, δ, S1, P, sf.trans s1, rs.mono s1, R1, w1, c.mono s1⟩
theorem ite_t {t a b : Expr} {pos : Pos} {wt wa wb : WpT} (ht : PT X t (LT X.K Z F0 wt)) (ha : PT X a (LT X.K Z F0 wa)) (hb : PT X b (LT X.K Z F0 wb)) :
    PT X (.IfExp t a b pos) (LT X.K Z F0 fun δ S P => wt δ S fun k S1 => if k = true then wa δ S1 P else wb δ S1 P) := by
  refine ⟨fun pins s σ H Q I q => ?_⟩
  obtain ⟨F, δ, S, P, sf, rs, rh, w, c⟩ := q
  have e : isTrue (.IfExp t a b pos) X.env (eval (.IfExp t a b pos) X.env) = (do if ← isTrue t X.env (eval t X.env) then isTrue a X.env (eval a X.env) else isTrue b X.env (eval b X.env)) := rfl
  rw [e]
  have h1 := ht.run pins s σ H (fun k H1 => ∃ F1 S1, Same F F1 ∧ RelH X.K Z F1 S1 H1 ∧ if k = true then wa δ S1 P else wb δ S1 P) I ⟨F, δ, S, _, sf, rs, rh, w, fun F' H' S' b s R p => ⟨F', S', s, R, p⟩⟩
  refine wpAny_bind (thn h1 ?_)
  rintro k s1 ⟨H1, I1, F1, S1, s1', R1, w1⟩
  cases k with
  | true =>
    rw [if_pos rfl] at w1
    exact ha.run pins s1 σ H1 Q I1 ⟨F1, δ, S1, P, sf.trans s1', rs.mono s1', R1, w1, fun F2 H2 S2 b s2 => c F2 H2 S2 b (s1'.trans s2)⟩
  | false =>
    rw [if_neg Bool.false_ne_true] at w1
    exact hb.run pins s1 σ H1 Q I1 ⟨F1, δ, S1, P, sf.trans s1', rs.mono s1', R1, w1, fun F2 H2 S2 b s2 => c F2 H2 S2 b (s1'.trans s2)⟩
theorem not_e {a : Expr} {pos : Pos} {wa : WpE} (ha : PE X a (LE X.K Z F0 wa)) : PE X (.UnaryOp .Not a pos) (LE X.K Z F0 fun δ S P => wa δ S fun x S1 => truD x S1 fun b S2 => P (.bl (!b)) S2) := by
  refine PE_imp (pe_notT ha) ?_
  rintro σ H Q ⟨F, δ, S, P, sf, rs, rh, w, c⟩
  refine ⟨F, δ, S, _, sf, rs, rh, w, ?_⟩
  intro F1 H1 S1 d v s1 R1 r1 w1
  obtain ⟨k, tk, w1⟩ := truL R1 r1 w1
  exact ⟨k, tk, same_ok R1 (.bl _) w1 (c.mono s1)⟩
theorem not_t {a : Expr} {pos : Pos} {wa : WpT} (ha : PT X a (LT X.K Z F0 wa)) : PT X (.UnaryOp .Not a pos) (LT X.K Z F0 fun δ S P => wa δ S fun b S1 => P (!b) S1) := by
  refine PT_imp (pt_not ha) ?_
  rintro σ H Q ⟨F, δ, S, P, sf, rs, rh, w, c⟩
  refine ⟨F, δ, S, _, sf, rs, rh, w, ?_⟩
  intro F1 H1 S1 b s1 R1 w1
  exact c F1 H1 S1 (!b) s1 R1 w1
/-- a op b op' c -/
theorem chain_e {op op' : CmpOp} {r r' : R2} {o o' : Opd} {a b c : Expr} {wa wb wc : WpE} {pos : Pos} (ho : OpR X (compareOp op) r) (ho' : OpR X (compareOp op') r') (l : OpL X.K r o) (l' : OpL X.K r' o') (n1 : op' ≠ .In) (n2 : op' ≠ .NotIn)
    (ha : PE X a (LE X.K Z F0 wa)) (hb : PE X b (LE X.K Z F0 wb)) (hc : PE X c (LE X.K Z F0 wc)) :
    PE X (.Compare a [op, op'] [b, c] pos) (LE X.K Z F0 fun δ S P => wa δ S fun x S1 => wb δ S1 fun y S2 => o x y S2 fun q S3 => ∃ k, q = .bl k ∧ if k = true then wc δ S3 fun z S4 => o' y z S4 P else P (.bl false) S3) := by
  refine PE_imp (pe_chain ho ho' ha hb hc (nobehind c n1 n2)) ?_
  rintro σ H Q ⟨F, δ, S, P, sf, rs, rh, w, c⟩
  refine ⟨F, δ, S, _, sf, rs, rh, w, ?_⟩
  intro F1 H1 S1 x v s1 R1 rx w1
  refine ⟨F1, δ, S1, _, sf.trans s1, rs.mono s1, R1, w1, ?_⟩
  intro F2 H2 S2 y u s2 R2 ry w2
  refine l Z F2 S2 H2 x y v u _ _ R2 (rx.mono s2) ry w2 ?_
  rintro F3 H3 S3 q z s3 R3 rz ⟨k, rfl, w3⟩
  cases rz
  refine ⟨k, rfl, ?_⟩
  cases k with
  | true =>
    rw [if_pos rfl] at w3 ⊢
    refine ⟨F3, δ, S3, _, sf.trans (s1.trans (s2.trans s3)), rs.mono (s1.trans (s2.trans s3)), R3, w3, ?_⟩
    intro F4 H4 S4 z' v4 s4 R4 r4 w4
    exact l' Z F4 S4 H4 y z' u v4 P Q R4 (ry.mono (s3.trans s4)) r4 w4 (c.mono (s1.trans (s2.trans (s3.trans s4))))
  | false =>
    rw [if_neg Bool.false_ne_true] at w3 ⊢
    exact same_ok R3 (.bl _) w3 (c.mono (s1.trans (s2.trans s3)))
theorem chain_t {op op' : CmpOp} {r r' : R2} {o o' : Opd} {a b c : Expr} {wa wb wc : WpE} {pos : Pos} (ho : OpR X (compareOp op) r) (ho' : OpR X (compareOp op') r') (l : OpL X.K r o) (l' : OpL X.K r' o') (n1 : op' ≠ .In) (n2 : op' ≠ .NotIn)
    (ha : PE X a (LE X.K Z F0 wa)) (hb : PE X b (LE X.K Z F0 wb)) (hc : PE X c (LE X.K Z F0 wc)) :
    PT X (.Compare a [op, op'] [b, c] pos) (LT X.K Z F0 fun δ S P => wa δ S fun x S1 => wb δ S1 fun y S2 => o x y S2 fun q S3 => ∃ k, q = .bl k ∧ if k = true then wc δ S3 fun z S4 => o' y z S4 (isCmpTrue P) else (isCmpTrue P) (.bl false) S3) := by
  refine PT_imp (pt_chain ho ho' ha hb hc (nobehind c n1 n2)) ?_
  rintro σ H Q ⟨F, δ, S, P, sf, rs, rh, w, c⟩
  have c' : Ct X.K Z F (isCmpTrue P) (fun x H' => ∃ k, x = .bl k ∧ Q k H') := by
    rintro F' H' S' d v s R r ⟨k, rfl, p⟩
    cases r
    exact ⟨k, rfl, c F' H' S' k s R p⟩
  refine ⟨F, δ, S, _, sf, rs, rh, w, ?_⟩
  intro F1 H1 S1 x v s1 R1 rx w1
  refine ⟨F1, δ, S1, _, sf.trans s1, rs.mono s1, R1, w1, ?_⟩
  intro F2 H2 S2 y u s2 R2 ry w2
  refine l Z F2 S2 H2 x y v u _ _ R2 (rx.mono s2) ry w2 ?_
  rintro F3 H3 S3 q z s3 R3 rz ⟨k, rfl, w3⟩
  cases rz
  refine ⟨k, rfl, ?_⟩
  cases k with
  | true =>
    rw [if_pos rfl] at w3 ⊢
    refine ⟨F3, δ, S3, _, sf.trans (s1.trans (s2.trans s3)), rs.mono (s1.trans (s2.trans s3)), R3, w3, ?_⟩
    intro F4 H4 S4 z' v4 s4 R4 r4 w4
    exact l' Z F4 S4 H4 y z' u v4 _ _ R4 (ry.mono (s3.trans s4)) r4 w4 (c'.mono (s1.trans (s2.trans (s3.trans s4))))
  | false =>
    rw [if_neg Bool.false_ne_true] at w3 ⊢
    exact same_ok R3 (.bl _) w3 (c'.mono (s1.trans (s2.trans s3)))
theorem tup_e {ps : List Expr} {k : Nat} {pos : Pos} {wa : WpA} (ha : PA X ps (LA X.K Z F0 wa)) : PE X (.Tuple ps k pos) (LE X.K Z F0 fun δ S P => wa δ S fun ds S1 => ds.length ≤ sizeLine ∧ P (.tup ds) S1) := by
  refine PE_imp (pe_tupN ha) ?_
  rintro σ H Q ⟨F, δ, S, P, sf, rs, rh, w, c⟩
  refine ⟨F, δ, S, _, sf, rs, rh, w, ?_⟩
  rintro F1 H1 S1 ds vs s1 R1 r1 ⟨hl, w1⟩
  exact ⟨by rw [← r1.length]; exact hl, newT_ok R1 r1 w1 (c.mono s1)⟩
theorem lst_e {ps : List Expr} {m : Bool} {pos : Pos} {wa : WpA} (ha : PA X ps (LA X.K Z F0 wa)) : PE X (.List ps pos) (LE X.K Z F0 fun δ S P => wa δ S fun ds S1 => ds.length ≤ sizeLine ∧ nwL m ds S1 P) := by
  refine PE_imp (pe_lst ha) ?_
  rintro σ H Q ⟨F, δ, S, P, sf, rs, rh, w, c⟩
  refine ⟨F, δ, S, _, sf, rs, rh, w, ?_⟩
  rintro F1 H1 S1 ds vs s1 R1 r1 ⟨hl, w1⟩
  exact ⟨by rw [← r1.length]; exact hl, nwL_ok R1 r1 w1 (c.mono s1)⟩
theorem bi_e {ps : List Expr} {p pos : Pos} {y : Str} {wa : WpA} {r : List V → Hp → VK → Prop} {o : OpdA} {f : Value} (hf : (∃ id, f = .builtin id) ∨ ∃ T, f = .type T) (hc : CallR X f r) (l : CaL X.K r o) (gy : Gl X y) (hm : X.mg y = none) (hv : bootBuiltins y = some f) (hn : y ≠ "__name__") (hd : (y == ("__debug__" : Str)) = false)
    (ne : ps ≠ []) (st : NStar ps) (ha : PA X ps (LA X.K Z F0 wa)) : PE X (.Call (.Name y p) ps [] pos) (LE X.K Z F0 fun δ S P => wa δ S fun ds S1 => o ds S1 P) := by
  have go : PE X (.Call (.Name y p) ps [] pos) (tCB r (LA X.K Z F0 wa)) := by
    cases ps with
    | nil => exact absurd rfl ne
    | cons e es =>
      rcases hf with ⟨id, rfl⟩ | ⟨T, rfl⟩
      · exact pe_callB hc gy hm hv ha hn hd (star_cons st.1) (star_none st.2)
      · exact pe_callTy hc gy hm hv ha hn hd (star_cons st.1) (star_none st.2)
  refine PE_imp go ?_
  rintro σ H Q ⟨F, δ, S, P, sf, rs, rh, w, c⟩
  refine ⟨F, δ, S, _, sf, rs, rh, w, ?_⟩
  intro F1 H1 S1 ds vs s1 R1 r1 w1
  exact l Z F1 S1 H1 ds vs P Q R1 r1 w1 (c.mono s1)
end
end GB

/-! GB11: soundness of expressions, whole. -/
namespace GB
open PySem PySem.Spec PyProof.Rows L2

section
variable {X : Cx} {Z F0 : Hp}
theorem plain_ix {b : Expr} (h : nSlice b = true) : PlainIx b := by
  intro o i
  cases b <;> first
    | rfl
    | exact absurd h Bool.false_ne_true
theorem ix_e {a b : Expr} {pos : Pos} {wa wb : WpE} (hu : X.A.units + 64 < cLine) (n : nSlice b = true) (ha : PE X a (LE X.K Z F0 wa)) (hb : PE X b (LE X.K Z F0 wb)) : PE X (.Subscript a b pos) (LE X.K Z F0 (wBin ixD wa wb)) :=
  PE_imp (pe_ix (ix_any (by omega)) ha hb (plain_ix n)) fun _ _ _ q => bin_lift ixL q

/-- a slice's part -/
def LO (K : FK) (Z F0 : Hp) (w : Dts → Sto → (Option Int → Sto → Prop) → Prop) : TO := fun σ H Q => ∃ F δ S P, Same F0 F ∧ RelS K F δ σ ∧ RelH K Z F S H ∧ w δ S P ∧ ∀ F' H' S' o, Same F F' → RelH K Z F' S' H' → P o S' → Q o H'
theorem po_n : PO X none (LO X.K Z F0 fun _ S P => P none S) := by
  refine ⟨fun pins s σ H Q I q => po_none.run pins s σ H Q I ?_⟩
  obtain ⟨F, δ, S, P, sf, rs, rh, w, c⟩ := q
  exact c F H S none (Same.refl F) rh w
theorem po_s {e : Expr} {we : WpE} (h : PE X e (LE X.K Z F0 we)) : PO X (some e) (LO X.K Z F0 fun δ S P => we δ S fun x S1 => ∃ i, x = .int i ∧ P (some i) S1) := by
  refine ⟨fun pins s σ H Q I q => (po_some h).run pins s σ H Q I ?_⟩
  obtain ⟨F, δ, S, P, sf, rs, rh, w, c⟩ := q
  refine ⟨F, δ, S, _, sf, rs, rh, w, ?_⟩
  rintro F1 H1 S1 d v s1 R1 r1 ⟨i, rfl, w1⟩
  cases r1
  exact ⟨i, rfl, c F1 H1 S1 _ s1 R1 w1⟩
theorem sl_e {m : Bool} {a : Expr} {lo hi : Option Expr} {p2 pos : Pos} {wa : WpE} {wl wh : Dts → Sto → (Option Int → Sto → Prop) → Prop} (ha : PE X a (LE X.K Z F0 wa)) (hl : PO X lo (LO X.K Z F0 wl)) (hh : PO X hi (LO X.K Z F0 wh)) :
    PE X (.Subscript a (.Slice lo hi none p2) pos) (LE X.K Z F0 fun δ S P => wa δ S fun x S1 => wl δ S1 fun l S2 => wh δ S2 fun h S3 => slD m x l h S3 P) := by
  refine PE_imp (pe_slice sl_any ha hl hh) ?_
  rintro σ H Q ⟨F, δ, S, P, sf, rs, rh, w, c⟩
  refine ⟨F, δ, S, _, sf, rs, rh, w, ?_⟩
  intro F1 H1 S1 d v s1 R1 r1 w1
  refine ⟨F1, δ, S1, _, sf.trans s1, rs.mono s1, R1, w1, ?_⟩
  intro F2 H2 S2 l s2 R2 w2
  refine ⟨F2, δ, S2, _, sf.trans (s1.trans s2), rs.mono (s1.trans s2), R2, w2, ?_⟩
  intro F3 H3 S3 h s3 R3 w3
  exact slL R3 (r1.mono (s2.trans s3)) w3 (c.mono (s1.trans (s2.trans s3)))
/-- a call of a def of the text -/
theorem call_e {k : Nat} {xq : XP} {b : Md} {e : Expr} {es : List Expr} {x : Str} {p pos : Pos} {sp : Spec} {wa : WpA} (g : Gd X k Z F0 xq b) (hcb : b.cold = true) (cl : Callee (txOf X) k x sp) (gx : Gl X x) (hd : (x == ("__debug__" : Str)) = false) (st : NStar (e :: es))
    (ha : PA X (e :: es) (LA X.K Z F0 wa)) : PE X (.Call (.Name x p) (e :: es) [] pos) (LE X.K Z F0 fun δ S P => wa δ S fun ds S1 => sp ds S1 P fun x S2 => xq.x x δ S2) := by
  obtain ⟨f, fd, qs, hm, hk, hb, ok⟩ := cl
  refine PE_imp (pe_callG ok (g.room hcb) g.gu hb g.tk gx hm hk ha hd (star_cons st.1) (star_none st.2)) ?_
  rintro σ H Q ⟨F, δ, S, P, sf, rs, rh, w, c⟩
  refine ⟨F, δ, S, _, sf, rs, rh, w, ?_⟩
  intro F1 H1 S1 ds vs s1 R1 r1 w1
  refine ⟨Z, F1, S1, ds, P, _, R1, r1, w1, c.mono s1, ?_⟩
  intro F2 H2 S2 x cls d s2 R2 xr q
  exact ⟨F2, δ, S2, x, sf.trans (s1.trans s2), rs.mono (s1.trans s2), R2, xr, q⟩
theorem call_e0 {k : Nat} {xq : XP} {b : Md} {x : Str} {p pos : Pos} {sp : Spec} (g : Gd X k Z F0 xq b) (hcb : b.cold = true) (cl : Callee (txOf X) k x sp) (gx : Gl X x) (hd : (x == ("__debug__" : Str)) = false) :
    PE X (.Call (.Name x p) [] [] pos) (LE X.K Z F0 fun δ S P => sp [] S P fun x S2 => xq.x x δ S2) := by
  obtain ⟨f, fd, qs, hm, hk, hb, ok⟩ := cl
  refine PE_imp (pe_callG0 ok (g.room hcb) g.gu hb g.tk gx hm hk hd) ?_
  rintro σ H Q ⟨F, δ, S, P, sf, rs, rh, w, c⟩
  refine ⟨Z, F, S, [], P, _, rh, .nil, w, c, ?_⟩
  intro F2 H2 S2 x cls d s2 R2 xr q
  exact ⟨F2, δ, S2, x, sf.trans s2, rs.mono s2, R2, xr, q⟩

/-! ### methods of lists -/
theorem cell_lst {K : FK} {F : Hp} {S : Sto} {H : Hp} {p : Addr} {ds : List D} (R : RelH K Z F S H) (h : S p = some (.lst ds)) : ∃ vs, H p = some (.lst vs) ∧ RepL K F ds vs := by
  obtain ⟨_, o, ho, cr⟩ := R.st p _ h
  obtain ⟨vs, rfl, r⟩ := cr.lst
  exact ⟨vs, ho, r⟩
theorem base_ok {o : Expr} {nm : Str} {env : Env} (h : nCall o = true) : attributeBase o nm env (eval o env) = eval o env := by
  cases o <;> first
    | rfl
    | exact absurd h Bool.false_ne_true
theorem lst_ty {K : FK} {F : Hp} {S : Sto} {H : Hp} {x : D} {v : V} (R : RelH K Z F S H) (r : Rep K F x v) (h : mtT x S) : tyV K "list" v H := by
  obtain ⟨p, ds, rfl, hp⟩ := h
  cases r
  obtain ⟨vs, ho, _⟩ := cell_lst R hp
  exact .inl ⟨rfl, vs, SqL.of ho⟩
/-- o.m() -/
theorem mt_0 {f : MT} {id : String} {r : V → List V → Hp → VK → Prop} {pa : Expr} {nm : Str} {ap cp : Pos} {wa : WpE} (slot : Slot "list" nm id) (hty : typeOf (.builtin id) = pure (.type "method_descriptor")) (hm : MtR X id r)
    (l : ∀ F S H x v (P : EQ) (Q : VK), RelH X.K Z F S H → Rep X.K F x v → mtO f x [] S P → Ct X.K Z F P Q → r v [] H Q) (ha : PE X pa (LE X.K Z F0 wa)) (hl : (ap.endLine == cp.line) = true) (nc : nCall pa = true) :
    PE X (.Call (.Attribute pa nm ap) [] [] cp) (LE X.K Z F0 fun δ S P => wa δ S fun x S1 => mtT x S1 ∧ mtO f x [] S1 P) := by
  refine PE_imp (pe_bm0 PySem.F.plainAttrs_list slot hty hm ha (base_ok nc) hl) ?_
  rintro σ H Q ⟨F, δ, S, P, sf, rs, rh, w, c⟩
  refine ⟨F, δ, S, _, sf, rs, rh, w, ?_⟩
  rintro F1 H1 S1 x v s1 R1 rx ⟨t1, w1⟩
  exact ⟨lst_ty R1 rx t1, l F1 S1 H1 x v P Q R1 rx w1 (c.mono s1)⟩
/-- o.m(e) -/
theorem mt_1 {f : MT} {id : String} {r : V → List V → Hp → VK → Prop} {pa e : Expr} {nm : Str} {ap cp : Pos} {wa : WpE} {ws : WpA} (slot : Slot "list" nm id) (hty : typeOf (.builtin id) = pure (.type "method_descriptor")) (hm : MtR X id r)
    (l : ∀ F S H x v (xs : List D) (vs : List V) (P : EQ) (Q : VK), RelH X.K Z F S H → Rep X.K F x v → RepL X.K F xs vs → mtO f x xs S P → Ct X.K Z F P Q → r v vs H Q) (ha : PE X pa (LE X.K Z F0 wa)) (hs : PA X [e] (LA X.K Z F0 ws)) (st : nst e = true)
    (hl : (ap.endLine == cp.line) = true) (nc : nCall pa = true) :
    PE X (.Call (.Attribute pa nm ap) [e] [] cp) (LE X.K Z F0 fun δ S P => wa δ S fun x S1 => mtT x S1 ∧ ws δ S1 fun ds S2 => mtO f x ds S2 P) := by
  have few : ((backTo cp (starEach [e] X.env)).all (fun x => !x.1) && (backToKw cp (keywordEach [] X.env)).all (fun x => x.1.isSome) && decide ([e].length + ([] : List Keyword).length + (if ([] : List Keyword).isEmpty then 0 else 1) < 30)) = true := by
    rw [star_cons st]; rfl
  refine PE_imp (pe_bm PySem.F.plainAttrs_list slot hty hm ha hs (base_ok nc) few hl (star_cons st) rfl) ?_
  rintro σ H Q ⟨F, δ, S, P, sf, rs, rh, w, c⟩
  refine ⟨F, δ, S, _, sf, rs, rh, w, ?_⟩
  rintro F1 H1 S1 x v s1 R1 rx ⟨t1, w1⟩
  refine ⟨lst_ty R1 rx t1, F1, δ, S1, _, sf.trans s1, rs.mono s1, R1, w1, ?_⟩
  intro F2 H2 S2 ds vs s2 R2 r2 w2
  exact l F2 S2 H2 x v ds vs P Q R2 (rx.mono s2) r2 w2 (c.mono (s1.trans s2))
/-- o.m(e, e2) -/
theorem mt_2 {f : MT} {id : String} {r : V → List V → Hp → VK → Prop} {pa e e2 : Expr} {nm : Str} {ap cp : Pos} {wa : WpE} {ws : WpA} (slot : Slot "list" nm id) (hty : typeOf (.builtin id) = pure (.type "method_descriptor")) (hm : MtR X id r)
    (l : ∀ F S H x v (xs : List D) (vs : List V) (P : EQ) (Q : VK), RelH X.K Z F S H → Rep X.K F x v → RepL X.K F xs vs → mtO f x xs S P → Ct X.K Z F P Q → r v vs H Q) (ha : PE X pa (LE X.K Z F0 wa)) (hs : PA X [e, e2] (LA X.K Z F0 ws)) (st : nst e = true) (st2 : nst e2 = true)
    (hl : (ap.endLine == cp.line) = true) (nc : nCall pa = true) :
    PE X (.Call (.Attribute pa nm ap) [e, e2] [] cp) (LE X.K Z F0 fun δ S P => wa δ S fun x S1 => mtT x S1 ∧ ws δ S1 fun ds S2 => mtO f x ds S2 P) := by
  have se := star_cons (env := X.env) (es := [e2]) st
  have se2 := star_cons (env := X.env) (es := []) st2
  have few : ((backTo cp (starEach [e, e2] X.env)).all (fun x => !x.1) && (backToKw cp (keywordEach [] X.env)).all (fun x => x.1.isSome) && decide ([e, e2].length + ([] : List Keyword).length + (if ([] : List Keyword).isEmpty then 0 else 1) < 30)) = true := by
    rw [se, se2]; rfl
  have np : (backTo cp (starEach [e2] X.env)).any (·.1) = false := by
    rw [se2]; rfl
  refine PE_imp (pe_bm PySem.F.plainAttrs_list slot hty hm ha hs (base_ok nc) few hl se np) ?_
  rintro σ H Q ⟨F, δ, S, P, sf, rs, rh, w, c⟩
  refine ⟨F, δ, S, _, sf, rs, rh, w, ?_⟩
  rintro F1 H1 S1 x v s1 R1 rx ⟨t1, w1⟩
  refine ⟨lst_ty R1 rx t1, F1, δ, S1, _, sf.trans s1, rs.mono s1, R1, w1, ?_⟩
  intro F2 H2 S2 ds vs s2 R2 r2 w2
  exact l F2 S2 H2 x v ds vs P Q R2 (rx.mono s2) r2 w2 (c.mono (s1.trans s2))
theorem insert_l {K : FK} {F : Hp} {S : Sto} {H : Hp} {x : D} {v : V} {xs : List D} {vs : List V} {P : EQ} {Q : VK} (R : RelH K Z F S H) (rx : Rep K F x v) (rs : RepL K F xs vs) (w : mtO .insert x xs S P) (c : Ct K Z F P Q) :
    ∃ (l : Addr) (xs : List V) (i : Int) (y : V), v = .ref l ∧ vs = [.int i, y] ∧ H l = some (.lst xs) ∧ xs.length < sizeLine ∧ 0 ≤ i ∧ i < 2 ^ 63 ∧ Q .non (upd H l (.lst (xs.take i.toNat ++ [y] ++ xs.drop i.toNat))) := by
  obtain ⟨p, ds, i, y, rfl, rfl, hp, hl, h0, h1, w⟩ := w
  obtain ⟨us, ho, ru⟩ := cell_lst R hp
  obtain ⟨iv, yv, rfl, ri, ry⟩ := rs.two
  cases rx
  cases ri
  have rn : RepL K F (ds.take i.toNat ++ [y] ++ ds.drop i.toNat) (us.take i.toNat ++ [yv] ++ us.drop i.toNat) := ((ru.take _).app (.cons ry .nil)).app (ru.drop _)
  exact ⟨p, us, i, yv, rfl, rfl, ho, by rw [← ru.length]; exact hl, h0, h1, c F _ _ _ _ (Same.refl F) (R.write (c' := .lst (ds.take i.toNat ++ [y] ++ ds.drop i.toNat)) hp rn) .non w⟩
/-! ### list(range(..)) -/
theorem repL_rng {K : FK} {F : Hp} {i j : Int} : RepL K F (rngD i (j - i).toNat) (rgV i j) := by
  unfold rngD rgV
  generalize List.range (j - i).toNat = l
  induction l with
  | nil => exact .nil
  | cons a l ih => exact .cons (.int _) ih
theorem rg_ok {i j : Int} (h : R62 i ∧ R62 j ∧ j - i ≤ 10000) : RgOk i j := ⟨h.1.1, h.1.2, h.2.1.1, h.2.1.2, by have := h.2.2; omega⟩
theorem lrg1_e {m : Bool} {pb : Expr} {p p2 pos pos2 : Pos} {wb : WpE} (hc : X.calm = true) (gl : Gl X "list") (hm : X.mg "list" = none) (gl2 : Gl X "range") (hm2 : X.mg "range" = none) (hb : PE X pb (LE X.K Z F0 wb)) (n : nst pb = true) :
    PE X (.Call (.Name "list" p) [.Call (.Name "range" p2) [pb] [] pos2] [] pos) (LE X.K Z F0 fun δ S P => wb δ S fun y S1 => ∃ j, y = .int j ∧ (R62 j ∧ j ≤ 10000) ∧ nwL m (rngD 0 j.toNat) S1 P) := by
  refine PE_imp (pe_listRg hc gl hm (prg_1 gl2 hm2 hb (star_cons n)) (star_cons rfl)) ?_
  rintro σ H Q ⟨F, δ, S, P, sf, rs, rh, w, c⟩
  refine ⟨F, δ, S, _, sf, rs, rh, w, ?_⟩
  rintro F1 H1 S1 y v s1 R1 ry ⟨j, rfl, hj, w1⟩
  cases ry
  have e : (j - 0).toNat = j.toNat := by rw [Int.sub_zero]
  have r := repL_rng (K := X.K) (F := F1) (i := 0) (j := j)
  rw [e] at r
  exact ⟨j, rfl, rg_ok ⟨⟨by decide, by decide⟩, hj.1, by omega⟩, nwL_ok R1 r w1 (c.mono s1)⟩
theorem lrg2_e {m : Bool} {pa pb : Expr} {p p2 pos pos2 : Pos} {wa wb : WpE} (hc : X.calm = true) (gl : Gl X "list") (hm : X.mg "list" = none) (gl2 : Gl X "range") (hm2 : X.mg "range" = none) (ha : PE X pa (LE X.K Z F0 wa)) (hb : PE X pb (LE X.K Z F0 wb)) (n : nst pa = true) (n2 : nst pb = true) :
    PE X (.Call (.Name "list" p) [.Call (.Name "range" p2) [pa, pb] [] pos2] [] pos) (LE X.K Z F0 fun δ S P => wa δ S fun x S1 => wb δ S1 fun y S2 => ∃ i j, x = .int i ∧ y = .int j ∧ (R62 i ∧ R62 j ∧ j - i ≤ 10000) ∧ nwL m (rngD i (j - i).toNat) S2 P) := by
  refine PE_imp (pe_listRg hc gl hm (prg_2 gl2 hm2 ha hb (star_cons n) (star_cons n2) (star_none ⟨n2, trivial⟩)) (star_cons rfl)) ?_
  rintro σ H Q ⟨F, δ, S, P, sf, rs, rh, w, c⟩
  refine ⟨F, δ, S, _, sf, rs, rh, w, ?_⟩
  intro F1 H1 S1 x v s1 R1 rx w1
  refine ⟨F1, δ, S1, _, sf.trans s1, rs.mono s1, R1, w1, ?_⟩
  rintro F2 H2 S2 y u s2 R2 ry ⟨i, j, rfl, rfl, hj, w2⟩
  cases rx
  cases ry
  exact ⟨i, j, rfl, rfl, rg_ok hj, nwL_ok R2 repL_rng w2 (c.mono (s1.trans s2))⟩
theorem append_l {K : FK} {F : Hp} {S : Sto} {H : Hp} {x : D} {v : V} {xs : List D} {vs : List V} {P : EQ} {Q : VK} (R : RelH K Z F S H) (rx : Rep K F x v) (rs : RepL K F xs vs) (w : mtO .append x xs S P) (c : Ct K Z F P Q) : rAppend v vs H Q := by
  obtain ⟨p, ds, y, rfl, rfl, hp, hl, w⟩ := w
  obtain ⟨us, ho, ru⟩ := cell_lst R hp
  obtain ⟨yv, rfl, ry⟩ := rs.one
  cases rx
  have rn : RepL K F (ds ++ [y]) (us ++ [yv]) := ru.app (.cons ry .nil)
  exact ⟨p, us, yv, rfl, rfl, ho, by rw [← ru.length]; exact hl, c F _ _ _ _ (Same.refl F) (R.write (c' := .lst (ds ++ [y])) hp rn) .non w⟩
theorem pop_l {K : FK} {F : Hp} {S : Sto} {H : Hp} {x : D} {v : V} {P : EQ} {Q : VK} (R : RelH K Z F S H) (rx : Rep K F x v) (w : mtO .pop x [] S P) (c : Ct K Z F P Q) : rPop v [] H Q := by
  obtain ⟨p, ds, y, rfl, _, hp, hy, w⟩ := w
  obtain ⟨us, ho, ru⟩ := cell_lst R hp
  obtain ⟨yv, hv, ry⟩ := ru.get hy
  rw [ru.length] at hv
  cases rx
  exact ⟨p, us, yv, rfl, rfl, ho, hv, c F _ _ _ _ (Same.refl F) (R.write (c' := .lst ds.dropLast) hp ru.dropLast) ry w⟩
theorem reverse_l {K : FK} {F : Hp} {S : Sto} {H : Hp} {x : D} {v : V} {P : EQ} {Q : VK} (R : RelH K Z F S H) (rx : Rep K F x v) (w : mtO .reverse x [] S P) (c : Ct K Z F P Q) : rReverse v [] H Q := by
  obtain ⟨p, ds, rfl, _, hp, w⟩ := w
  obtain ⟨us, ho, ru⟩ := cell_lst R hp
  cases rx
  exact ⟨p, us, rfl, rfl, ho, c F _ _ _ _ (Same.refl F) (R.write (c' := .lst ds.reverse) hp ru.rev) .non w⟩
theorem clear_l {K : FK} {F : Hp} {S : Sto} {H : Hp} {x : D} {v : V} {P : EQ} {Q : VK} (R : RelH K Z F S H) (rx : Rep K F x v) (w : mtO .clear x [] S P) (c : Ct K Z F P Q) : rClear v [] H Q := by
  obtain ⟨p, ds, rfl, _, hp, w⟩ := w
  obtain ⟨us, ho, ru⟩ := cell_lst R hp
  cases rx
  exact ⟨p, us, rfl, rfl, ho, c F _ _ _ _ (Same.refl F) (R.write (c' := .lst []) hp .nil) .non w⟩
theorem extend_l {K : FK} {F : Hp} {S : Sto} {H : Hp} {x : D} {v : V} {xs : List D} {vs : List V} {P : EQ} {Q : VK} (R : RelH K Z F S H) (rx : Rep K F x v) (rs : RepL K F xs vs) (w : mtO .extend x xs S P) (c : Ct K Z F P Q) : rExtend v vs H Q := by
  obtain ⟨p, ds, y, es, rfl, rfl, hp, hy, hl, w⟩ := w
  obtain ⟨us, ho, ru⟩ := cell_lst R hp
  obtain ⟨yv, rfl, ry⟩ := rs.one
  obtain ⟨b, ws, rfl, hb, rw'⟩ := mls_of R ry hy
  cases rx
  exact ⟨p, b, us, ws, rfl, rfl, ho, hb, by rw [← ru.length, ← rw'.length]; exact hl, c F _ _ _ _ (Same.refl F) (R.write (c' := .lst (ds ++ es)) hp (ru.app rw')) .non w⟩
end

/-! ### what is walked -/
section
variable {X : Cx} {Z F0 : Hp}
theorem srcL {K : FK} {F1 : Hp} {p : Addr} {vs : List V} {ds : List D} (h : SqL K F1 p vs) (r : RepL K F1 ds vs) : ∀ Z F H S, Same F1 F → RelH K Z F S H → True → ∃ us, SqL K H p us ∧ RepL K F ds us :=
  fun _ F H S sf R _ => ⟨vs, R.fz.seq (sf.seq h), r.mono sf⟩
theorem srcT {K : FK} {F1 : Hp} {p : Addr} {vs : List V} {ds : List D} (h : SqT K F1 p vs) (r : RepL K F1 ds vs) : ∀ Z F H S, Same F1 F → RelH K Z F S H → True → ∃ us, SqT K H p us ∧ RepL K F ds us :=
  fun _ F H S sf R _ => ⟨vs, sqT_mono R.fz (sqT_mono sf h), r.mono sf⟩
theorem srcR {K : FK} {F1 : Hp} {p : Addr} {ds : List D} : ∀ Z F H S, Same F1 F → RelH K Z F S H → cL (S p) = some ds → ∃ us, SqL K H p us ∧ RepL K F ds us := by
  intro Z F H S sf R hs
  obtain ⟨q, vs, e, ho, r⟩ := mls_of R (.ref p) (show mls S (.ref p) = some ds from hs)
  cases e
  exact ⟨vs, SqL.of ho, r⟩
/-- over a list or a tuple or a text, by its kind: which of the three iterators -/
theorem it_val {K : FK} {F1 : Hp} {S1 : Sto} {H1 : Hp} {x : D} {v : V} {P : List D → (Sto → Prop) → Sto → Prop} {R : It → Hp → Prop} (rh : RelH K Z F1 S1 H1) (rx : Rep K F1 x v) (w : ItP x S1 P)
    (c : ∀ J ds src, Beh K F1 J ds src → src S1 → P ds src S1 → R J H1) :
    (∃ a, v = .ref a ∧ (∃ xs, SqL K H1 a xs) ∧ R (Itl K a) H1) ∨ (∃ a, v = .ref a ∧ (∃ xs, SqT K H1 a xs) ∧ R (Itt K a) H1) ∨ (∃ z, v = .str z ∧ R (Its z) H1) := by
  cases rx with
  | tup h r => exact .inr (.inl ⟨_, rfl, ⟨_, sqT_mono rh.fz h.t⟩, c _ _ _ (beh_tup (srcT h.t r)) trivial w⟩)
  | lst h r => exact .inl ⟨_, rfl, ⟨_, SqL.of (rh.fz _ _ h)⟩, c _ _ _ (beh_list (srcL (SqL.of h) r)) trivial w⟩
  | rls h r => exact .inl ⟨_, rfl, ⟨_, rh.fz.seq h⟩, c _ _ _ (beh_list (srcL h r)) trivial w⟩
  | ref p =>
    obtain ⟨ds, e, w⟩ := w
    obtain ⟨us, hs, r⟩ := srcR Z F1 H1 S1 (Same.refl F1) rh e
    exact .inl ⟨p, rfl, ⟨us, hs⟩, c _ _ _ (beh_list srcR) e w⟩
  | str z => exact .inr (.inr ⟨z, rfl, c _ _ _ beh_str trivial w⟩)
  | _ => exact absurd w id
theorem it_lst {K : FK} {F1 : Hp} {S1 : Sto} {H1 : Hp} {x : D} {v : V} {P : List D → (Sto → Prop) → Sto → Prop} {G : Prop} (rh : RelH K Z F1 S1 H1) (rx : Rep K F1 x v) (w : ItL x S1 P)
    (c : ∀ a xs ds src, v = .ref a → SqL K H1 a xs → RepL K F1 ds xs → (∀ Z F H S, Same F1 F → RelH K Z F S H → src S → ∃ us, SqL K H a us ∧ RepL K F ds us) → src S1 → P ds src S1 → G) : G := by
  cases rx with
  | lst h r => exact c _ _ _ _ rfl (SqL.of (rh.fz _ _ h)) r (srcL (SqL.of h) r) trivial w
  | rls h r => exact c _ _ _ _ rfl (rh.fz.seq h) r (srcL h r) trivial w
  | ref p =>
    obtain ⟨ds, e, w⟩ := w
    obtain ⟨us, hs, r⟩ := srcR Z F1 H1 S1 (Same.refl F1) rh e
    exact c _ _ _ _ rfl hs r srcR e w
  | _ => exact absurd w id
/-- an iterator of a value -/
theorem iter_val {tg : Expr} {pins : List (Addr × Obj)} {σ : VS} {H : Hp} {s : Shared} {v : V} {u : Value} {R : It → Hp → Prop} (I : Inv X pins σ H s) (rv : RelV v u)
    (q : (∃ a, v = .ref a ∧ (∃ xs, SqL X.K H a xs) ∧ R (Itl X.K a) H) ∨ (∃ a, v = .ref a ∧ (∃ xs, SqT X.K H a xs) ∧ R (Itt X.K a) H) ∨ (∃ z, v = .str z ∧ R (Its z) H)) :
    wpAny (model X.prog X.w) X.A (pyIter u) (PIE X pins σ tg R) X.xe s := by
  rcases q with ⟨a, rfl, ⟨xs, h⟩, r⟩ | ⟨a, rfl, ⟨xs, h⟩, r⟩ | ⟨z, rfl, r⟩
  · cases rv
    obtain ⟨its, _, pl, _⟩ := I.list h
    exact wpAny_pyIter_list pl.isList (pi_one (tk := s.toks) I _ (turn_list a _) ⟨_, Heap.get?_push_size _ rfl, rfl, rfl⟩ r)
  · cases rv
    obtain ⟨its, _, pl, _⟩ := I.tuple h
    exact wpAny_pyIter_tuple (show s.heap.IsTuple a its.toArray from pl) (pi_one (tk := s.toks) I _ (turn_tuple a _) ⟨_, Heap.get?_push_size _ rfl, rfl, rfl⟩ r)
  · obtain ⟨t, rfl⟩ := rv
    cases ha : z.cps.all (· < 128) with
    | false => exact wpAny_pyIter_wide ha (pi_one (tk := s.toks) I _ (turn_str _ z t "str_iterator" (.inr rfl)) ⟨_, Heap.get?_push_size _ rfl, rfl, rfl⟩ r)
    | true => exact wpAny_pyIter_ascii ha (pi_one (tk := s.toks) I _ (turn_str _ z t "str_ascii_iterator" (.inl rfl)) ⟨_, Heap.get?_push_size _ rfl, rfl, rfl⟩ r)
theorem pi_val {tg e : Expr} {we : WpE} (he : PE X e (LE X.K Z F0 we)) : PI X tg e (LI X.K Z F0 fun δ S P => we δ S fun x S1 => ItP x S1 P) := by
  refine ⟨fun pins s σ H R I q => ?_⟩
  obtain ⟨F, δ, S, P, sf, rs, rh, w, c⟩ := q
  refine thn (he.run pins s σ H (fun v H1 => (∃ a, v = .ref a ∧ (∃ xs, SqL X.K H1 a xs) ∧ R (Itl X.K a) H1) ∨ (∃ a, v = .ref a ∧ (∃ xs, SqT X.K H1 a xs) ∧ R (Itt X.K a) H1) ∨ (∃ z, v = .str z ∧ R (Its z) H1)) I
    ⟨F, δ, S, _, sf, rs, rh, w, fun F1 H1 S1 x v s1 R1 rx w1 => it_val R1 rx w1 fun J ds src b hs p => c F1 H1 S1 J ds src s1 R1 b hs p⟩) ?_
  rintro u s1 ⟨v, H1, I1, rv, q⟩
  exact iter_val I1 rv q
theorem arg1 {e : Expr} {we : WpE} (he : PE X e (LE X.K Z F0 we)) (n : nst e = true) : PA X [e] (LA X.K Z F0 fun δ S P => we δ S fun x S1 => P [x] S1) := pa_more he pa_nil' n
theorem star1 {e : Expr} {env : Env} (n : nst e = true) : starEach [e] env = [(false, eval e env)] := star_cons n
theorem star2 {a b : Expr} {env : Env} (n : nst a = true) (m : nst b = true) : starEach [a, b] env = [(false, eval a env), (false, eval b env)] := by rw [star_cons n, star_cons m]; rfl
/-- what follows one, two, three arguments -/
def p1 (B : D → Sto → Prop) : List D → Sto → Prop := fun xs S => match xs with
  | [x] => B x S
  | _ => False
def p2 (B : D → D → Sto → Prop) : List D → Sto → Prop := fun xs S => match xs with
  | [x, y] => B x y S
  | _ => False
def p3 (B : D → D → D → Sto → Prop) : List D → Sto → Prop := fun xs S => match xs with
  | [x, y, z] => B x y z S
  | _ => False
theorem p1_of {K : FK} {F : Hp} {B : D → Sto → Prop} {ds : List D} {vs : List V} {S : Sto} (r : RepL K F ds vs) (h : p1 B ds S) : ∃ x v, vs = [v] ∧ Rep K F x v ∧ B x S := by
  match ds, h with
  | [x], h =>
    obtain ⟨v, rfl, rv⟩ := r.one
    exact ⟨x, v, rfl, rv, h⟩
theorem p2_of {K : FK} {F : Hp} {B : D → D → Sto → Prop} {ds : List D} {vs : List V} {S : Sto} (r : RepL K F ds vs) (h : p2 B ds S) : ∃ x y v u, vs = [v, u] ∧ Rep K F x v ∧ Rep K F y u ∧ B x y S := by
  match ds, h with
  | [x, y], h =>
    obtain ⟨v, u, rfl, rv, ru⟩ := r.two
    exact ⟨x, y, v, u, rfl, rv, ru, h⟩
theorem p3_of {K : FK} {F : Hp} {B : D → D → D → Sto → Prop} {ds : List D} {vs : List V} {S : Sto} (r : RepL K F ds vs) (h : p3 B ds S) : ∃ x y z v u t, vs = [v, u, t] ∧ Rep K F x v ∧ Rep K F y u ∧ Rep K F z t ∧ B x y z S := by
  match ds, h with
  | [x, y, z], h =>
    cases r with
    | cons rv r =>
      obtain ⟨u, t, rfl, ru, rt⟩ := r.two
      exact ⟨x, y, z, _, u, t, rfl, rv, ru, rt, h⟩
theorem pi_r1 {tg a : Expr} {p pos : Pos} {wa : WpE} (gl : Gl X "range") (hm : X.mg "range" = none) (ha : PE X a (LE X.K Z F0 wa)) (n : nst a = true) :
    PI X tg (.Call (.Name "range" p) [a] [] pos) (LI X.K Z F0 fun δ S P => wa δ S fun x S1 => ∃ j, x = .int j ∧ R62 j ∧ P (rngD 0 j.toNat) (fun _ => True) S1) := by
  refine PI_imp (pi_range1 gl hm (arg1 ha n) (star1 n)) ?_
  rintro σ H R ⟨F, δ, S, P, sf, rs, rh, w, c⟩
  refine ⟨F, δ, S, p1 fun x S1 => ∃ j, x = .int j ∧ R62 j ∧ P (rngD 0 j.toNat) (fun _ => True) S1, sf, rs, rh, w, ?_⟩
  intro F1 H1 S1 ds vs s1 R1 r1 q
  obtain ⟨_, v, rfl, rv, j, rfl, hj, w1⟩ := p1_of r1 q
  cases rv
  exact ⟨j, rfl, hj.1, hj.2, c F1 H1 S1 _ _ _ s1 R1 beh_rng trivial w1⟩
theorem pi_r2 {tg a b : Expr} {p pos : Pos} {wa wb : WpE} (gl : Gl X "range") (hm : X.mg "range" = none) (ha : PE X a (LE X.K Z F0 wa)) (hb : PE X b (LE X.K Z F0 wb)) (n : nst a = true) (n2 : nst b = true) :
    PI X tg (.Call (.Name "range" p) [a, b] [] pos) (LI X.K Z F0 fun δ S P => wa δ S fun x S1 => wb δ S1 fun y S2 => ∃ i j, x = .int i ∧ y = .int j ∧ (R62 i ∧ R62 j) ∧ P (rngD i (j - i).toNat) (fun _ => True) S2) := by
  refine PI_imp (pi_range2 gl hm (pa_more ha (arg1 hb n2) n) (star2 n n2) (star1 n2)) ?_
  rintro σ H R ⟨F, δ, S, P, sf, rs, rh, w, c⟩
  refine ⟨F, δ, S, p2 fun x y S' => ∃ i j, x = .int i ∧ y = .int j ∧ (R62 i ∧ R62 j) ∧ P (rngD i (j - i).toNat) (fun _ => True) S', sf, rs, rh, w, ?_⟩
  intro F1 H1 S1 ds vs s1 R1 r1 q
  obtain ⟨_, _, v, u, rfl, rv, ru, i, j, rfl, rfl, hh, w1⟩ := p2_of r1 q
  cases rv; cases ru
  exact ⟨i, j, rfl, ⟨hh.1.1, hh.1.2, hh.2.1, hh.2.2⟩, c F1 H1 S1 _ _ _ s1 R1 beh_rng trivial w1⟩
theorem pi_r3 {tg a b c : Expr} {p pos : Pos} {wa wb wc : WpE} (gl : Gl X "range") (hm : X.mg "range" = none) (ha : PE X a (LE X.K Z F0 wa)) (hb : PE X b (LE X.K Z F0 wb)) (hc : PE X c (LE X.K Z F0 wc)) (n : nst a = true) (n2 : nst b = true) (n3 : nst c = true) :
    PI X tg (.Call (.Name "range" p) [a, b, c] [] pos) (LI X.K Z F0 fun δ S P => wa δ S fun x S1 => wb δ S1 fun y S2 => wc δ S2 fun z S3 => ∃ i j, x = .int i ∧ y = .int j ∧ z = .int (-1) ∧ (R62 i ∧ R62 j) ∧ P (dwnD i (i - j).toNat) (fun _ => True) S3) := by
  refine PI_imp (pi_range3 gl hm (pa_more ha (pa_more hb (arg1 hc n3) n2) n) (star_cons n) (star_none ⟨n2, n3, trivial⟩)) ?_
  rintro σ H R ⟨F, δ, S, P, sf, rs, rh, w, c⟩
  refine ⟨F, δ, S, p3 fun x y z S' => ∃ i j, x = .int i ∧ y = .int j ∧ z = .int (-1) ∧ (R62 i ∧ R62 j) ∧ P (dwnD i (i - j).toNat) (fun _ => True) S', sf, rs, rh, w, ?_⟩
  intro F1 H1 S1 ds vs s1 R1 r1 q
  obtain ⟨_, _, _, v, u, t, rfl, rv, ru, rt, i, j, rfl, rfl, rfl, hh, w1⟩ := p3_of r1 q
  cases rv; cases ru; cases rt
  exact ⟨i, j, -1, (i - j).toNat, rfl, RgC.neg hh.1.1 hh.1.2 hh.2.1 hh.2.2, c F1 H1 S1 _ _ _ s1 R1 beh_dwn trivial w1⟩
theorem pi_en {elts : List Expr} {kk : Nat} {tpos : Pos} {a : Expr} {p pos : Pos} {wa : WpE} (gl : Gl X "enumerate") (hm : X.mg "enumerate" = none) (ha : PE X a (LE X.K Z F0 wa)) (n : nst a = true) :
    PI X (.Tuple elts kk tpos) (.Call (.Name "enumerate" p) [a] [] pos) (LI X.K Z F0 fun δ S P => wa δ S fun x S1 => ItQ x S1 fun ds src S2 => P (enuD 0 ds) src S2) := by
  refine PI_imp (RE.pi_enumA gl hm (arg1 ha n) (star1 n)) ?_
  rintro σ H R ⟨F, δ, S, P, sf, rs, rh, w, c⟩
  refine ⟨F, δ, S, p1 fun x S1 => ItQ x S1 fun ds src S2 => P (enuD 0 ds) src S2, sf, rs, rh, w, ?_⟩
  intro F1 H1 S1 ds vs s1 R1 r1 q
  obtain ⟨x, v, rfl, rv, w1⟩ := p1_of r1 q
  have lists : ItL x S1 (fun ds src S2 => P (enuD 0 ds) src S2) → ∃ (k : Bool) (a : Addr) (xs : List V), [v] = [.ref a] ∧ SqK X.K k H1 a xs ∧ R (RE.IteK X.K k a) H1 := by
    intro w1
    refine it_lst R1 rv w1 ?_
    rintro a xs es src rfl h r hb hs p
    exact ⟨false, a, xs, rfl, h, c F1 H1 S1 _ _ _ s1 R1 (beh_enumK hb) hs p⟩
  cases x with
  | tup ds =>
    obtain ⟨a, xs, rfl, h, r⟩ := rv.tup_
    exact ⟨true, a, xs, rfl, sqT_mono R1.fz h, c F1 H1 S1 _ _ _ s1 R1 (beh_enumK (srcT h r)) trivial w1⟩
  | lst ds => exact lists w1
  | rls ds => exact lists w1
  | ref ds => exact lists w1
  | _ => exact absurd w1 id
theorem pi_rv {tg a : Expr} {p pos : Pos} {wa : WpE} (gl : Gl X "reversed") (hm : X.mg "reversed" = none) (ha : PE X a (LE X.K Z F0 wa)) (n : nst a = true) :
    PI X tg (.Call (.Name "reversed" p) [a] [] pos) (LI X.K Z F0 fun δ S P => wa δ S fun x S1 => ItQ x S1 fun ds src S2 => P ds.reverse src S2) := by
  refine PI_imp (RT.pi_revA gl hm ha (star_cons n)) ?_
  rintro σ H R ⟨F, δ, S, P, sf, rs, rh, w, c⟩
  refine ⟨F, δ, S, _, sf, rs, rh, w, ?_⟩
  intro F1 H1 S1 x v s1 R1 rv w1
  have lists : ItL x S1 (fun ds src S2 => P ds.reverse src S2) → ∃ (a : Addr) (xs : List V), v = .ref a ∧ ((SqL X.K H1 a xs ∧ R (Itv X.K a xs.length) H1) ∨ (SqT X.K H1 a xs ∧ R (RT.ItvT X.K a xs.length) H1)) := by
    intro w1
    refine it_lst R1 rv w1 ?_
    rintro a xs es src rfl h r hb hs p
    exact ⟨a, xs, rfl, .inl ⟨h, c F1 H1 S1 _ _ _ s1 R1 (beh_rev r.length.symm hb) hs p⟩⟩
  cases x with
  | tup ds =>
    obtain ⟨a, xs, rfl, h, r⟩ := rv.tup_
    exact ⟨a, xs, rfl, .inr ⟨sqT_mono R1.fz h, c F1 H1 S1 _ _ _ s1 R1 (beh_revT r.length.symm (srcT h r)) trivial w1⟩⟩
  | lst ds => exact lists w1
  | rls ds => exact lists w1
  | ref ds => exact lists w1
  | _ => exact absurd w1 id
theorem pi_zp {elts : List Expr} {kk : Nat} {tpos : Pos} {a b : Expr} {p pos : Pos} {wa wb : WpE} (gl : Gl X "zip") (hm : X.mg "zip" = none) (ha : PE X a (LE X.K Z F0 wa)) (hb : PE X b (LE X.K Z F0 wb)) (n : nst a = true) (n2 : nst b = true) :
    PI X (.Tuple elts kk tpos) (.Call (.Name "zip" p) [a, b] [] pos) (LI X.K Z F0 fun δ S P => wa δ S fun x S1 => wb δ S1 fun y S2 => zipP x y S2 P) := by
  refine PI_imp (RE.pi_zipB gl hm (pa_more ha (arg1 hb n2) n) (star_cons n) (star_none ⟨n2, trivial⟩)) ?_
  rintro σ H R ⟨F, δ, S, P, sf, rs, rh, w, c⟩
  refine ⟨F, δ, S, p2 fun x y S' => zipP x y S' P, sf, rs, rh, w, ?_⟩
  intro F1 H1 S1 ds vs s1 R1 r1 q
  obtain ⟨x, y, v, u, rfl, rv, ru, w1⟩ := p2_of r1 q
  have lists : ItL x S1 (fun as s1 S3 => ItL y S3 fun bs s2 S4 => P (zipD as bs) (fun S => s1 S ∧ s2 S) S4) →
      ∃ k1 k2 a b xs ys, [v, u] = [V.ref a, V.ref b] ∧ (k2 = true → k1 = true) ∧ SqK X.K k1 H1 a xs ∧ SqK X.K k2 H1 b ys ∧ R (RE.ItzK X.K k1 k2 a b) H1 := by
    intro w1
    refine it_lst R1 rv w1 ?_
    rintro a xs es src rfl h r hb hs p
    refine it_lst R1 ru p ?_
    rintro b ys fs src2 rfl h2 r2 hb2 hs2 p2
    exact ⟨false, false, a, b, xs, ys, rfl, (fun z => nomatch z), h, h2, c F1 H1 S1 _ _ _ s1 R1 (beh_zipK fun Z F H S sf R q => ⟨hb Z F H S sf R q.1, hb2 Z F H S sf R q.2⟩) ⟨hs, hs2⟩ p2⟩
  cases x with
  | tup ds =>
    have mixed : ItL y S1 (fun bs s2 S3 => P (zipD ds bs) s2 S3) → ∃ k1 k2 a b xs ys, [v, u] = [V.ref a, V.ref b] ∧ (k2 = true → k1 = true) ∧ SqK X.K k1 H1 a xs ∧ SqK X.K k2 H1 b ys ∧ R (RE.ItzK X.K k1 k2 a b) H1 := by
      intro w1
      obtain ⟨a, xs, rfl, h, r⟩ := rv.tup_
      refine it_lst R1 ru w1 ?_
      rintro b ys fs src2 rfl h2 r2 hb2 hs2 p2
      exact ⟨true, false, a, b, xs, ys, rfl, (fun _ => rfl), sqT_mono R1.fz h, h2, c F1 H1 S1 _ _ _ s1 R1 (beh_zipK fun Z F H S sf R q => ⟨srcT h r Z F H S sf R trivial, hb2 Z F H S sf R q⟩) hs2 p2⟩
    cases y with
    | tup es =>
      obtain ⟨a, xs, rfl, h, r⟩ := rv.tup_
      obtain ⟨b, ys, rfl, h2, r2⟩ := ru.tup_
      exact ⟨true, true, a, b, xs, ys, rfl, (fun _ => rfl), sqT_mono R1.fz h, sqT_mono R1.fz h2, c F1 H1 S1 _ _ _ s1 R1 (beh_zipK (src := fun _ => True) fun Z F H S sf R t => ⟨srcT h r Z F H S sf R t, srcT h2 r2 Z F H S sf R t⟩) trivial w1⟩
    | lst es => exact mixed w1
    | rls es => exact mixed w1
    | ref es => exact mixed w1
    | _ => exact absurd w1 id
  | lst ds => exact lists w1
  | rls ds => exact lists w1
  | ref ds => exact lists w1
  | _ => exact absurd w1 id
end
end GB

/-! GB12: each look is right. -/
namespace GB
open PySem PySem.Spec PyProof.Rows L2

theorem in_ok {N : List Str} {i : Nat} {x : Str} (h : inB N i x = true) : N[i]? = some x := by
  unfold inB at h
  cases e : N[i]? with
  | none => rw [e] at h; cases h
  | some y =>
    rw [e] at h
    rw [of_decide_eq_true h]
theorem not_t' {a : Bool} (h : (!a) = true) : a = false := by
  cases a
  · rfl
  · cases h
theorem vis_ok {N : List Str} {sc : Scope} {i : Nat} {x : Str} (h : visB N sc i x = true) : N[i]? = some x ∧ Vis sc x ∧ (x == ("__debug__" : Str)) = false ∧ (x == ("__classdict__" : Str)) = false := by
  obtain ⟨h1, h⟩ := and_t h
  obtain ⟨h2, h⟩ := and_t h
  obtain ⟨h3, h4⟩ := and_t h
  refine ⟨in_ok h1, ?_, not_t' h3, not_t' h4⟩
  unfold Vis
  cases e : sc.names.lookup x with
  | none => rw [e] at h2; cases h2
  | some k =>
    rw [e] at h2
    cases k <;> first
      | exact .inl rfl
      | exact .inr (.inl rfl)
      | exact .inr (.inr rfl)
      | cases h2
theorem isLoc_ok {sc : Scope} {x : Str} (h : isLoc sc x = true) : sc.names.lookup x = some .local := by
  unfold isLoc at h
  cases e : sc.names.lookup x with
  | none => rw [e] at h; cases h
  | some k =>
    rw [e] at h
    cases k <;> first
      | rfl
      | cases h
theorem isCell_ok {sc : Scope} {x : Str} (h : isCell sc x = true) : sc.names.lookup x = some .cell := by
  unfold isCell at h
  cases e : sc.names.lookup x with
  | none => rw [e] at h; cases h
  | some k =>
    rw [e] at h
    cases k <;> first
      | rfl
      | cases h
theorem gl_ok {X : Cx} {x : Str} (h : glB X.env.scope x = true) : Gl X x ∧ (x == ("__debug__" : Str)) = false := by
  obtain ⟨h1, h2⟩ := and_t h
  refine ⟨?_, not_t' h2⟩
  show X.env.scope.names.lookup x = some .globalImplicit
  cases e : X.env.scope.names.lookup x with
  | none => rw [e] at h1; cases h1
  | some k =>
    rw [e] at h1
    cases k <;> first
      | rfl
      | cases h1
theorem or_t' {a b : Bool} (h : (a || b) = true) : a = true ∨ b = true := Bool.or_eq_true_iff.mp h

/-! ### targets -/
mutual
theorem g_ok {X : Cx} {k : Nat} {Z F0 : Hp} {xq : XP} {blk : Md} (g : Gd X k Z F0 xq blk) : ∀ (t : G) (p : Expr), chkG X.N X.env.scope blk t p = true → PG X p (gR X.K t)
  | .nm i, p, h => by
    cases p <;> first
      | exact absurd h Bool.false_ne_true
      | (obtain ⟨h1, h2⟩ := and_t h
         rcases or_t' h2 with h3 | h3
         · exact pg_name g.nd (in_ok h1) (.inl (isLoc_ok h3)) (.inr (isLoc_ok h3))
         · obtain ⟨h4, h5⟩ := and_t h3
           exact pg_name g.nd (in_ok h1) (.inr (isCell_ok h5)) (.inl (g.fn h4 _)))
  | .tp gs, p, h => by
    cases p <;> first
      | exact absurd h Bool.false_ne_true
      | skip
    rename_i ts kk pos
    obtain ⟨hc, h⟩ := and_t h
    obtain ⟨h1, h2, h3⟩ := gs_ok g gs ts h
    refine ⟨fun pins s σ H v u Q I r q => ?_⟩
    obtain ⟨a, xs, rfl, hs, q⟩ := q
    rcases hs with hs | hs
    · exact (pg_lst (n := ts.length) (g.calm hc) h1 h2 h3).run pins s σ H _ u Q I r ⟨a, xs, rfl, hs, gs_len gs ts h xs σ H Q q, q⟩
    · exact (pg_tup (n := ts.length) (g.calm hc) h1 h2 h3).run pins s σ H _ u Q I r ⟨a, xs, rfl, hs, gs_len gs ts h xs σ H Q q, q⟩
theorem gs_ok {X : Cx} {k : Nat} {Z F0 : Hp} {xq : XP} {blk : Md} (g : Gd X k Z F0 xq blk) : ∀ (t : Gs) (ps : List Expr), chkGs X.N X.env.scope blk t ps = true →
    PGs X ps (gsR X.K t) ∧ (assignEach ps X.env).length = ps.length ∧ (assignEach ps X.env).findIdx? (·.1) = none
  | .nil, ps, h => by
    cases ps with
    | nil => exact ⟨pgs_nil, rfl, rfl⟩
    | cons _ _ => exact absurd h Bool.false_ne_true
  | .cons t r, ps, h => by
    cases ps with
    | nil => exact absurd h Bool.false_ne_true
    | cons p ps =>
      obtain ⟨h1, h⟩ := and_t h
      obtain ⟨h2, h3⟩ := and_t h
      obtain ⟨a, b, c⟩ := gs_ok g r ps h3
      have e : assignEach (p :: ps) X.env = (false, assign p X.env) :: assignEach ps X.env := by
        cases p <;> first
          | rfl
          | exact absurd h1 Bool.false_ne_true
      refine ⟨pgs_cons (g_ok g t p h2) a (by rw [e]; rfl), by rw [e, List.length_cons, List.length_cons, b], ?_⟩
      rw [e, List.findIdx?_cons]
      show (if false = true then some 0 else _) = none
      rw [if_neg Bool.false_ne_true, c]
      rfl
theorem gs_len {K : FK} {N : List Str} {sc : Scope} {blk : Md} : ∀ (t : Gs) (ps : List Expr), chkGs N sc blk t ps = true → ∀ (xs : List V) (σ : VS) (H : Hp) (Q : VS → Hp → Prop), gsR K t xs σ H Q → xs.length = ps.length
  | .nil, ps, h, xs, σ, H, Q, q => by
    cases ps with
    | nil =>
      obtain ⟨rfl, _⟩ := q
      rfl
    | cons _ _ => exact absurd h Bool.false_ne_true
  | .cons t r, ps, h, xs, σ, H, Q, q => by
    cases ps with
    | nil => exact absurd h Bool.false_ne_true
    | cons p ps =>
      obtain ⟨h1, h⟩ := and_t h
      obtain ⟨h2, h3⟩ := and_t h
      obtain ⟨v, rest, rfl, q⟩ := q
      have q2 := gR_mono (K := K) t q
      obtain ⟨σ', H', q2⟩ := q2
      rw [List.length_cons, List.length_cons, gs_len r ps h3 rest σ' H' Q q2]
theorem gR_mono {K : FK} {v : V} {σ : VS} {H : Hp} {Q : VS → Hp → Prop} : ∀ (t : G), gR K t v σ H Q → ∃ σ' H', Q σ' H'
  | .nm i, q => ⟨_, _, q⟩
  | .tp gs, q => by
    obtain ⟨a, xs, _, _, q⟩ := q
    exact gsR_mono gs q
theorem gsR_mono {K : FK} {v : List V} {σ : VS} {H : Hp} {Q : VS → Hp → Prop} : ∀ (t : Gs), gsR K t v σ H Q → ∃ σ' H', Q σ' H'
  | .nil, q => ⟨_, _, q.2⟩
  | .cons t r, q => by
    obtain ⟨_, _, _, q⟩ := q
    obtain ⟨_, _, q⟩ := gR_mono t q
    exact gsR_mono r q
end
/-- .. of a block's own cell -/
theorem own_ok {X : Cx} {k : Nat} {Z F0 : Hp} {xq : XP} {s : Shared} {H : Hp} {scope : Scope} {C : Addr} {cl : List (Str × Addr)} {fp : List Addr} (g : Gd (X.blk s H scope (compEnvC scope cl C X.env) fp) k Z F0 xq .bk) (t : G) (p : Expr)
    (h : (chkG X.N (relS scope X.env.scope) .bk t p || ownG X.N scope t p) = true) : PG (X.blk s H scope (compEnvC scope cl C X.env) fp) p (gR X.K t) := by
  rcases or_t' h with h | h
  · exact g_ok g t p h
  · cases t with
    | nm i =>
      cases p <;> first
        | exact absurd h Bool.false_ne_true
        | (obtain ⟨h1, h2⟩ := and_t h
           have e := isCell_ok h2
           exact pg_name g.nd (in_ok h1) (.inr (lookup_relS_keep (fun z => nomatch z) e)) (.inl (beq_iff_eq.mpr e)))
    | tp _ => cases p <;> exact absurd h Bool.false_ne_true
end GB

/-! GB12b: xs[::-1] of lists and tuples; isinstance. -/
namespace HT
open PySem PySem.Spec PyProof.Rows
section
variable {prog : Program} {w : World} {A : Around} {E : Value → Shared → Prop} {s : Shared}
theorem revPlaces (n : Nat) : Builtin.Slice.slicePlaces ((n : Int) - 1) (-1) (-1) = n := by
  unfold Builtin.Slice.slicePlaces
  have h1 : ¬ ((-1 : Int) > 0) := by omega
  simp only [h1, if_false, Int.neg_neg, Int.ediv_one]
  split <;> omega
theorem revApplied {sl : Addr} {vl vu vs : Value} {n : Nat} {Q : Int × Int × Nat → Shared → Prop} (hs : s.heap.IsSliceOf sl vl vu vs) (pl : IsPart vl none) (pu : IsPart vu none) (ps : IsPart vs (some (-1)))
    (h : Q ((n : Int) - 1, -1, n) s) : wpAny (model prog w) A (Builtin.Slice.sliceApplied (.ref sl) (pure (n : Int))) Q E s := by
  obtain ⟨os, hos, hcs, hds⟩ := id hs
  unfold Builtin.Slice.sliceApplied Builtin.Slice.sliceFields
  refine wpAny_bind (wpAny_bind (wpAny_field hos hds (x := vl) rfl (wpAny_bind (wpAny_field hos hds (x := vu) rfl (wpAny_bind (wpAny_field hos hds (x := vs) rfl (wpAny_pure ?_)))))))
  refine wpAny_bind (slicePart_ ps ?_)
  show wpAny _ _ (if ((-1 : Int) == 0) = true then _ else _) _ _ s
  rw [if_neg (by decide)]
  refine wpAny_bind (slicePart_ pl (wpAny_bind (slicePart_ pu (wpAny_bind (wpAny_pure ?_)))))
  show wpAny _ _ (pure ((n : Int) - 1, (-1 : Int), Builtin.Slice.slicePlaces ((n : Int) - 1) (-1) (-1))) _ _ s
  rw [revPlaces]
  exact wpAny_pure h
theorem revPick (xs : List Value) : ((List.range xs.length).filterMap fun (m : Nat) => xs[((xs.length : Int) - 1 + (m : Int) * (-1)).toNat]?) = xs.reverse := by
  have e : ∀ k, k ≤ xs.length → ((List.range k).filterMap fun (m : Nat) => xs[((xs.length : Int) - 1 + (m : Int) * (-1)).toNat]?) = xs.reverse.take k := by
    intro k
    induction k with
    | zero => intro _; simp
    | succ k ih =>
      intro hk
      rw [List.range_succ, List.filterMap_append, ih (by omega), List.take_succ]
      congr 1
      have e1 : ((xs.length : Int) - 1 + (k : Int) * (-1)).toNat = xs.length - 1 - k := by omega
      have e2 : xs.reverse[k]? = xs[xs.length - 1 - k]? := List.getElem?_reverse (by omega)
      rw [e2]
      simp only [List.filterMap_cons, List.filterMap_nil, e1]
      rw [List.getElem?_eq_getElem (by omega)]
      rfl
  rw [e _ (Nat.le_refl _)]
  rw [List.take_of_length_le (by simp)]
theorem getItem_tuple_rev {t sl : Addr} {items : Array Value} {vl vu vs : Value} {Q : Value → Shared → Prop} (ht : IsTup s.heap t items) (hs : s.heap.IsSliceOf sl vl vu vs) (pl : IsPart vl none) (pu : IsPart vu none) (ps : IsPart vs (some (-1)))
    (h : Q (.ref s.heap.objs.size) { s with heap := s.heap.push { cls := .type "tuple", data := .seq items.toList.reverse.toArray } })
    (hsz : items.size ≤ sizeLine) : wpAny (model prog w) A (getItem (.ref t) (.ref sl)) Q E s := by
  have htake : sizeOk (.seq items.toList.reverse.toArray) := by
    show items.toList.reverse.toArray.size ≤ sizeLine
    rw [List.size_toArray, List.length_reverse, Array.length_toList]
    exact hsz
  obtain ⟨os, hos, hcs, hds⟩ := id hs
  have hTs : s.TypeIs (.ref sl) "slice" := ⟨os, hos, hcs⟩
  unfold getItem
  try with_reducible refine wpAny_holding ?_
  first | refine wpAny_bind (wpAny_pure ?_) | skip
  refine wpAny_bind (wpAny_sequenceKey ht.typeIs (by decide) ?_)
  refine wpAny_bind (wpAny_callSpecial?_slot (name := Str.ofString "__getitem__") ht.typeIs PyProof.Rows.slot_tuple_getitem
    (wpAny_call_entry PyProof.Rows.slot_tuple_getitem ht.typeIs entry_tuple_getitem ?_ (args_tuple_getitem _ _)))
  show wpAny _ _ (Builtin.Tuple.tupleItemsOf (.ref t) >>= _) _ _ s
  refine wpAny_bind (tupleItemsOf_ ht ?_)
  refine wpAny_bind (wpAny_typeOf hTs ?_)
  rw [if_pos (by decide)]
  refine wpAny_bind (revApplied hs pl pu ps ?_)
  have hno : ¬ ((((items.size : Int) - 1) == 0 && (-1 : Int) == 1 && items.size == items.size) = true) := by
    intro q
    rw [Bool.and_eq_true, Bool.and_eq_true] at q
    exact absurd q.1.2 (by decide)
  show wpAny _ _ (if ((((items.size : Int) - 1) == 0 && (-1 : Int) == 1 && items.size == items.size) = true) then _ else _) _ _ s
  have hp : ((List.range items.size).filterMap fun (k : Nat) => items[(((items.size : Int) - 1) + (k : Int) * (-1)).toNat]?).toArray = items.toList.reverse.toArray := by
    have := revPick items.toList
    rw [Array.length_toList] at this
    rw [← this]
    simp
  rw [if_neg hno, hp]
  first
    | exact wpAny_bind (m := Builtin.Tuple.tupleExact _) (wpAny_newObj_type (wpAny_pure ⟨_, rfl, wpAny_pure h⟩) htake)
    | exact wpAny_bind (m := Builtin.Tuple.tupleExact _) (wpAny_newObj_type (wpAny_bind (wpAny_pure (wpAny_pure ⟨_, rfl, wpAny_pure h⟩))) htake)
    | exact wpAny_bind (wpAny_bind (m := Builtin.Tuple.tupleExact _) (wpAny_newObj_type (wpAny_pure (wpAny_pure ⟨_, rfl, wpAny_pure h⟩)) htake))
    | exact wpAny_bind (wpAny_bind (m := Builtin.Tuple.tupleExact _) (wpAny_newObj_type (wpAny_pure ⟨_, rfl, wpAny_pure h⟩) htake))
end
end HT
namespace GB
open PySem PySem.Spec PyProof.Rows L2
section
variable {X : Cx} {Z F0 : Hp}
def tRevA (K : FK) (te : TE) : TE := fun σ H Q => te σ H fun x H1 => ∃ a xs, x = .ref a ∧ ((SqL K H1 a xs ∧ ∀ p, H1 p = none → Q (.ref p) (upd H1 p (.lst xs.reverse))) ∨ (SqT K H1 a xs ∧ nwT xs.reverse Q H1))
theorem pe_revA {e : Expr} {te : TE} {k : Nat} {p1 p2 p3 pos : Pos} (he : PE X e te) : PE X (.Subscript e (.Slice none none (some (.UnaryOp .USub (.Constant (.int 1) k p1) p2)) p3) pos) (tRevA X.K te) := by
  refine ⟨fun pins s σ H Q I h => ?_⟩
  refine Subscript_ (thn (he.run pins s σ H _ I h) fun v s1 ⟨x, H1, I1, r1, q1⟩ => ?_)
  obtain ⟨a, xs, ex, q⟩ := q1
  subst ex
  cases r1
  have hst : PO X (some (.UnaryOp .USub (.Constant (.int 1) k p1) p2)) (tPart (tUn (rU fun i => .int (-i)) (tC (.int 1)))) := po_some (pe_un un_neg pe_int)
  refine wpAny_Slice (thn (po_none.run pins s1 σ H1 (fun o H2 => o = none ∧ H2 = H1) I1 ⟨rfl, rfl⟩) fun vl s2 ⟨l, H2, I2, pl, el, e2⟩ => ?_)
  subst el e2
  refine thn (po_none.run pins s2 σ H2 (fun o H3 => o = none ∧ H3 = H2) I2 ⟨rfl, rfl⟩) fun vu s3 ⟨u, H3, I3, pu, eu, e3⟩ => ?_
  subst eu e3
  refine thn (hst.run pins s3 σ H3 (fun o H4 => o = some (-1) ∧ H4 = H3) I3 ⟨1, rfl, -1, rfl, rfl, rfl⟩) fun vs s4 ⟨o, H4, I4, ps, eo, e4⟩ => ?_
  subst eo e4
  have I5 : Inv X pins σ H4 { s4 with heap := s4.heap.push { cls := .type "slice", data := .fields #[vl, vu, vs] } } := I4.kept (t' := s4.toks) fun b ob q => Heap.get?_push_of_some _ q
  show wpAny (model X.prog X.w) X.A (subscriptTail e (.Slice none none (some (.UnaryOp .USub (.Constant (.int 1) k p1) p2)) p3) (.ref a) (.ref s4.heap.objs.size)) (EP X pins σ Q) X.xe { s4 with heap := s4.heap.push { cls := .type "slice", data := .fields #[vl, vu, vs] } }
  rcases q with ⟨hx, q⟩ | ⟨hx, q⟩
  · obtain ⟨its, r, ht, hz⟩ := I5.list hx
    have hlen := r.length
    refine tail_any (ops := [.ref a, .ref s4.heap.objs.size]) ht.isList.typeIs (PySem.slot_list_getitem.lookup) ?_ (by with_unfolding_all rfl)
    refine wpAny_getItem_list_slice ht.isList (Heap.IsSliceOf.new _ vl vu vs) pl pu ps (by decide) ?_ (by rw [List.size_toArray]; omega)
    rw [PySem.W.krv_pick]
    refine ⟨.ref _, _, I5.laid (t' := s4.toks) (o := .lst xs.reverse) (fun b ob q => Heap.get?_push_of_some _ q) (Nat.le_refl _) ?_, rfl, q _ (I5.hok.fresh (Nat.le_refl _))⟩
    have hlen := r.length
    exact ⟨by rw [List.length_reverse]; exact hz, _, 0, r.reverse, Heap.get?_push_size _ rfl⟩
  · obtain ⟨its, r, ht, hz⟩ := I5.tuple hx
    refine tail_any (ops := [.ref a, .ref s4.heap.objs.size]) ht.typeIs (PyProof.Rows.slot_tuple_getitem.lookup) ?_ (by with_unfolding_all rfl)
    have hlen := r.length
    refine HT.getItem_tuple_rev ht (Heap.IsSliceOf.new _ vl vu vs) pl pu ps ?_ (by rw [List.size_toArray]; omega)
    exact lay_tup (k := s4.toks) I5 (by rw [List.length_reverse]; exact hz) r.reverse q
theorem slr_e {m : Bool} {a : Expr} {k : Nat} {p1 p2 p3 pos : Pos} {wa : WpE} (ha : PE X a (LE X.K Z F0 wa)) :
    PE X (.Subscript a (.Slice none none (some (.UnaryOp .USub (.Constant (.int 1) k p1) p2)) p3) pos) (LE X.K Z F0 fun δ S P => wa δ S fun x S1 => slrD m x S1 P) := by
  refine PE_imp (pe_revA ha) ?_
  rintro σ H Q ⟨F, δ, S, P, sf, rs, rh, w, c⟩
  refine ⟨F, δ, S, _, sf, rs, rh, w, ?_⟩
  intro F1 H1 S1 d v s1 R1 r1 w1
  have gen : (∃ ds, lsx S1 d = some ds ∧ nwL m ds.reverse S1 P) → ∃ a xs, v = .ref a ∧ ((SqL X.K H1 a xs ∧ ∀ p, H1 p = none → Q (.ref p) (upd H1 p (.lst xs.reverse))) ∨ (SqT X.K H1 a xs ∧ nwT xs.reverse Q H1)) := by
    rintro ⟨ds, e, w1⟩
    obtain ⟨p, us, rfl, h1, rr⟩ := lsx_of R1 r1 e
    exact ⟨p, us, rfl, .inl ⟨h1, nwL_ok R1 rr.rev w1 (c.mono s1)⟩⟩
  cases d with
  | tup ds =>
    obtain ⟨p, us, rfl, h1, rr⟩ := r1.tup_
    exact ⟨p, us, rfl, .inr ⟨sqT_mono R1.fz h1, newT_ok R1 rr.rev w1 (c.mono s1)⟩⟩
  | lst ds => exact gen w1
  | rls ds => exact gen w1
  | ref p => exact gen w1
  | non => obtain ⟨_, e, _⟩ := w1; cases e
  | bl _ => obtain ⟨_, e, _⟩ := w1; cases e
  | int _ => obtain ⟨_, e, _⟩ := w1; cases e
  | str _ => obtain ⟨_, e, _⟩ := w1; cases e
  | dct _ => obtain ⟨_, e, _⟩ := w1; cases e

/-! ### isinstance -/
theorem kit_isi (k t : TY) : kitB k.nm t.nm = some (isiB k t) := by cases k <;> cases t <;> decide +kernel
theorem boot_ty {t : TY} (h : tyOk t = true) : bootBuiltins (Str.ofString t.nm) = some (.type t.nm) := by
  cases t <;> first
    | exact absurd h Bool.false_ne_true
    | decide +kernel
theorem name_ty (t : TY) : (Str.ofString t.nm) ≠ "__name__" ∧ ((Str.ofString t.nm) == ("__debug__" : Str)) = false := by cases t <;> decide +kernel
theorem ty_of {K : FK} {F : Hp} {S : Sto} {H : Hp} {x : D} {v : V} {k : TY} (R : RelH K Z F S H) (r : Rep K F x v) (h : tyD S x = some k) : TyX K H v (.type k.nm) := by
  have sl : ∀ {p : Addr} {vs : List V}, SqL K H p vs → TyX K H (.ref p) (.type "list") := by
    intro p vs h1
    rcases h1 with (h1 | ⟨o, h1⟩) | ⟨o, its, n, h1, h2, _⟩
    · exact .base (.lst h1)
    · exact .base (.frz h1)
    · exact .kList h1 h2
  cases x with
  | non => cases h; cases r; exact .base .non
  | bl b => cases h; cases r; exact .base (.bl b)
  | int i => cases h; cases r; exact .base (.int i)
  | str z => cases h; cases r; exact .base (.str z)
  | tup ds =>
    cases h
    obtain ⟨p, vs, rfl, h1, _⟩ := r.tup_
    rcases sqT_mono R.fz h1 with (h1 | ⟨o, h1⟩) | ⟨o, its, n, h1, h2, _⟩
    · exact .base (.tup h1)
    · exact .fTuple h1
    · exact .kTuple h1 h2
  | lst ds =>
    cases h
    obtain ⟨p, vs, rfl, h1, _⟩ := lsx_of R r rfl
    exact sl h1
  | rls ds =>
    cases h
    obtain ⟨p, vs, rfl, h1, _⟩ := lsx_of R r rfl
    exact sl h1
  | dct ds =>
    cases h
    obtain ⟨p, vs, rfl, h1, _⟩ := r.dct_
    exact .base (.dK (R.fz _ _ h1))
  | ref p =>
    have h : tyC (S p) = some k := h
    cases r
    cases e : S p with
    | none => rw [e] at h; cases h
    | some c =>
      rw [e] at h
      obtain ⟨_, o, ho, cr⟩ := R.st p c e
      cases c with
      | lst ds =>
        cases h
        obtain ⟨vs, rfl, _⟩ := cr.lst
        exact .base (.lst ho)
      | dct ds =>
        cases h
        obtain ⟨vs, rfl, _⟩ := cr.dct
        exact .base (.dK ho)
theorem isi_e {a : Expr} {t : TY} {p pz pos : Pos} {wa : WpE} (gi : Gl X "isinstance") (hi : X.mg "isinstance" = none) (gt : Gl X (Str.ofString t.nm)) (ht : X.mg (Str.ofString t.nm) = none) (ok : tyOk t = true) (st : nst a = true) (ha : PE X a (LE X.K Z F0 wa)) :
    PE X (.Call (.Name "isinstance" p) [a, .Name (Str.ofString t.nm) pz] [] pos) (LE X.K Z F0 fun δ S P => wa δ S fun x S1 => isiD t x S1 P) := by
  have pt : PE X (.Name (Str.ofString t.nm) pz) (tC (.ty t.nm)) := pe_bltn gt ht (boot_ty ok) rfl (name_ty t).1 (name_ty t).2
  have hs1 : starEach [a, .Name (Str.ofString t.nm) pz] X.env = (false, eval a X.env) :: starEach [.Name (Str.ofString t.nm) pz] X.env := star_cons st
  have hs2 : (backTo pos (starEach [.Name (Str.ofString t.nm) pz] X.env)).any (·.1) = false := rfl
  refine PE_imp (pe_callB call_isi gi hi PyProof.Rows.boot_isinstance (pa_cons ha (pa_cons pt pa_nil) hs1) (by decide) (by decide) hs1 hs2) ?_
  rintro σ H Q ⟨F, δ, S, P, sf, rs, rh, w, c⟩
  refine ⟨F, δ, S, _, sf, rs, rh, w, ?_⟩
  intro F1 H1 S1 d v s1 R1 r1 w1
  have w1 : isiD t d S1 P := w1
  unfold isiD at w1
  cases e : tyD S1 d with
  | none => rw [e] at w1; exact absurd w1 id
  | some k =>
    rw [e] at w1
    exact ⟨v, .ty t.nm, .type k.nm, .type t.nm, isiB k t, rfl, .ty _, ty_of R1 r1 e, kit_ty (kit_isi k t), same_ok R1 (.bl _) w1 (c.mono s1)⟩
end
end GB

/-! GBx2: an own exception's __init__, its making, its raising. -/
namespace GB
open PySem PySem.Spec PyProof.Rows L2

/-! ### __init__ -/
def stB (N : List Str) (sc : Scope) : List Str → Nat → List Stmt → Bool
  | [], _, [] => true
  | f :: fs, k, .Assign [.Attribute (.Name s _) g _] (.Name x _) _ :: r => visB N sc 0 s && (decide (g = f) && (visB N sc k x && stB N sc fs (k + 1) r))
  | _, _, _ => false
/-- a method's call, by its parts -/
theorem meth_form {b m s : Str} {p1 p2 p3 p4 pos : Pos} {z : Const} {j : Nat} {env : Env} (hl : (p2.endLine == pos.line) = true) : eval (.Call (.Attribute (.Name b p1) m p2) [.Name s p3, .Constant z j p4] [] pos) env = (do
      let ov ← eval (.Name b p1) env
      standAt p2.atName
      let (f, first) ← holding [ov] (getMethod ov m (do return (← importBound (.Name b p1) env).getD true))
      callWith pos f first (backTo pos (starEach [.Name s p3, .Constant z j p4] env)) (backToKw pos (keywordEach [] env))) := by
  rw [arm_eval_Call]
  show (do
    let ov ← eval (.Name b p1) env
    standAt p2.atName
    methodCall (.Name b p1) m p2 pos env ov 2 (backTo pos (starEach [.Name s p3, .Constant z j p4] env)) (backToKw pos (keywordEach [] env))) = _
  have hform : methodCallForm 2 (backTo pos (starEach [.Name s p3, .Constant z j p4] env)) (backToKw pos (keywordEach [] env)) = true := rfl
  have hpos : methodCallPos true (.Name b p1) env p2 pos = pure pos := by unfold methodCallPos; simp [hl]
  unfold methodCall
  rw [hform]
  unfold calleeOf
  rw [hpos]
  simp only [pure_bind, if_true]
def iniB (N : List Str) (sc : Scope) (fs : List Str) : List Stmt → Bool
  | .Expr (.Call (.Attribute (.Name b _) i ap) [.Name s _, .Constant (.str _) _ _] [] cp) _ :: rest => (ap.endLine == cp.line) && (decide (b = ("BendError" : Str)) && (glB sc ("BendError" : Str) && (decide (i = ("__init__" : Str)) && (visB N sc 0 s && stB N sc fs 1 rest))))
  | _ => false
theorem iniB_inv {N : List Str} {sc : Scope} {fs : List Str} {body : List Stmt} (h : iniB N sc fs body = true) : ∃ p1 p2 p3 p4 p5 p6 s m j rest, body = .Expr (.Call (.Attribute (.Name "BendError" p1) "__init__" p2) [.Name s p3, .Constant (.str m) j p4] [] p5) p6 :: rest ∧
    (p2.endLine == p5.line) = true ∧ glB sc "BendError" = true ∧ visB N sc 0 s = true ∧ stB N sc fs 1 rest = true := by
  unfold iniB at h
  split at h
  · obtain ⟨h0, h⟩ := and_t h
    obtain ⟨h1, h⟩ := and_t h
    obtain ⟨h2, h⟩ := and_t h
    obtain ⟨h3, h⟩ := and_t h
    obtain ⟨h4, h5⟩ := and_t h
    obtain rfl := of_decide_eq_true h1
    obtain rfl := of_decide_eq_true h3
    exact ⟨_, _, _, _, _, _, _, _, _, _, rfl, h0, h2, h4, h5⟩
  · cases h
theorem stB_nil {N : List Str} {sc : Scope} {k : Nat} {body : List Stmt} (h : stB N sc [] k body = true) : body = [] := by
  cases body with
  | nil => rfl
  | cons a r => cases h
theorem stB_inv {N : List Str} {sc : Scope} {f : Str} {fs : List Str} {k : Nat} {body : List Stmt} (h : stB N sc (f :: fs) k body = true) : ∃ s p1 p2 x p3 p4 r, body = .Assign [.Attribute (.Name s p1) f p2] (.Name x p3) p4 :: r ∧
    visB N sc 0 s = true ∧ visB N sc k x = true ∧ stB N sc fs (k + 1) r = true := by
  unfold stB at h
  split at h <;> first
    | (rename_i e; cases e; done)
    | skip
  · rename_i f' fs' k' s p1 g p2 x p3 p4 r e1
    cases e1
    obtain ⟨h1, h⟩ := and_t h
    obtain ⟨h2, h⟩ := and_t h
    obtain ⟨h3, h4⟩ := and_t h
    obtain rfl := of_decide_eq_true h2
    exact ⟨_, _, _, _, _, _, _, rfl, h1, h3, h4⟩
  · cases h
theorem pe_vis {X : Cx} {i : Nat} {x : Str} {p : Pos} (h : visB X.N X.env.scope i x = true) : PE X (.Name x p) (tVar i) := by
  obtain ⟨a, b, c, d⟩ := vis_ok h
  exact pe_var a b c d
section
variable {P : Program} {w : World} {K : FK} {mg : MG} {base : Heap} {qual : Str} {params : Arguments} {body : List Stmt} {scope : Scope} {f C B : Addr} {fd : FuncData} {N ps fs : List Str}
theorem ini_ok (F : FunD K "__init__" qual params body scope [] [] f fd) (S : FnScope N ps scope) (ck : iniB N scope fs body = true) (hl : ps.length = fs.length + 1) (T : OexC K C) (nof : ∀ f ∈ fs, PySem.W.findIn K (.ref C) f = some none)
    (hm : mg "BendError" = some (.ref B)) (bi : BaI K B) : FnOk P w K mg base (L2.CX P w) 1 f fd ps (spIni C fs) := by
  obtain ⟨p1, p2, p3, p4, p5, p6, s, m, j, rest, rfl, g0, g1, v1, h⟩ := iniB_inv ck
  refine F.ok (k := 0) S ?_ ?_
  · intro vs H Q E h
    unfold spIni at h
    rw [hl]
    split at h
    · rfl
    · rfl
    · exact absurd h id
  intro cdv A outer s0 H vs Q E hr hsp
  have first : PS (cxOf (L2.CX P w) P w K mg base N qual scope f cdv A outer s0 H E) (.Expr (.Call (.Attribute (.Name "BendError" p1) "__init__" p2) [.Name s p3, .Constant (.str m) j p4] [] p5) p6) (tDrop (tVeI K (tCons (tVar 0) (tCons (tC (.str m)) tNil)))) :=
    ps_expr (pe_beinit (gl_ok (X := cxOf (L2.CX P w) P w K mg base N qual scope f cdv A outer s0 H E) g1).1 hm bi (pa_cons (pe_vis v1) (pa_cons pe_str pa_nil)) (meth_form g0))
  unfold spIni at hsp
  split at hsp
  · rename_i f1 a y
    obtain ⟨s2, q1, q2, x2, q3, q4, r, rfl, w1, w2, h2⟩ := stB_inv h
    obtain rfl := stB_nil h2
    refine ⟨_, pss_cons first (pss_cons (ps_ost (pe_vis w1) (pe_vis w2)) pss_nil), ?_⟩
    obtain ⟨ha, hq⟩ := hsp
    have l2 : (L2.start N [V.ref a, y])[0]? = some (some (V.ref a)) := rfl
    have l3 : (L2.start N [V.ref a, y])[1]? = some (some y) := rfl
    refine ⟨_, l2, a, C, [V.str m], rfl, (by show 1 ≤ 1000; decide), T, ha, ?_⟩
    exact ⟨y, l3, V.ref a, l2, a, C, rfl, T, nof _ List.mem_cons_self, .inl ⟨ha, fun dx h1 h2 => hq dx h1 h2⟩⟩
  · rename_i f1 f2 a y z
    obtain ⟨s2, q1, q2, x2, q3, q4, r, rfl, w1, w2, h2⟩ := stB_inv h
    obtain ⟨s3, q5, q6, x3, q7, q8, r2, rfl, w3, w4, h3⟩ := stB_inv h2
    obtain rfl := stB_nil h3
    refine ⟨_, pss_cons first (pss_cons (ps_ost (pe_vis w1) (pe_vis w2)) (pss_cons (ps_ost (pe_vis w3) (pe_vis w4)) pss_nil)), ?_⟩
    obtain ⟨ha, hq⟩ := hsp
    have l2 : (L2.start N [V.ref a, y, z])[0]? = some (some (V.ref a)) := rfl
    have l3 : (L2.start N [V.ref a, y, z])[1]? = some (some y) := rfl
    have l4 : (L2.start N [V.ref a, y, z])[2]? = some (some z) := rfl
    refine ⟨_, l2, a, C, [V.str m], rfl, (by show 1 ≤ 1000; decide), T, ha, ?_⟩
    refine ⟨y, l3, V.ref a, l2, a, C, rfl, T, nof _ List.mem_cons_self, .inl ⟨ha, fun dx h1 h2 => ?_⟩⟩
    refine ⟨z, l4, V.ref a, l2, a, C, rfl, T, nof _ (List.mem_cons_of_mem _ List.mem_cons_self), .inr ⟨dx, [(f1, y)], upd_same, ?_, (by show 1 ≤ 900; decide), hq dx h1 h2⟩⟩
    rw [upd_ne h2, upd_same]
  · exact absurd hsp id
end
end GB

/-! GBx5: soundness of what is said of the exception that is handled. -/
namespace GB
open PySem PySem.Spec PyProof.Rows L2

theorem hot_is {m : Md} (h : m.hot = true) : m = .ht := by cases m <;> first | rfl | cases h
/-- a class as a value -/
def clV (K : FK) (c : Str) : V := if c = "ValueError" then .ty "ValueError" else .ref (He.ga K c)
def clU (K : FK) (c : Str) : Value := if c = "ValueError" then .type "ValueError" else .ref (He.ga K c)
theorem clVU {K : FK} {c : Str} : ClsV (clV K c) (clU K c) := by
  unfold clV clU
  by_cases h : c = "ValueError"
  · rw [if_pos h, if_pos h]; exact .ty _
  · rw [if_neg h, if_neg h]; exact .own _
theorem clVUs {K : FK} : ∀ cs : List Str, Paired ClsV (cs.map (clV K)) (cs.map (clU K))
  | [] => .nil
  | c :: cs => .cons clVU (clVUs cs)
section
variable {X : Cx} {Z F0 : Hp}
/-- isinstance(e, c) -/
def rIsP (K : FK) (a C : Addr) (d : Option Addr) : List V → Hp → VK → Prop := fun xs H Q => (d = none ∨ ∃ dx vs, d = some dx ∧ H dx = some (.xd vs)) ∧
  ((∃ (c : V) (u : Value) (b : Bool), xs = [.ref a, c] ∧ ClsV c u ∧ PySem.W.kitOne K (.ref C) u = some b ∧ Q (.bl b) H) ∨
   (∃ (tp : Addr) (cs : List V) (us : List Value) (b : Bool), xs = [.ref a, .ref tp] ∧ H tp = some (.tup cs) ∧ Paired ClsV cs us ∧ PySem.W.kitAny K (.ref C) us = some b ∧ Q (.bl b) H))
theorem call_isP {a C : Addr} {oe : Obj} {d : Option Addr} (hp : (a, oe) ∈ X.pn) (E : ExcC X.K C) (hz : Zc (.ref C) d oe) (hf : ∃ vs, oe.data = .fields vs) : CallR X (.builtin "isinstance") (rIsP X.K a C d) := by
  rintro pins s σ H xs us Q I r ⟨hd, h⟩
  obtain ⟨od, J, _⟩ := inst_of I hp hz hf hd
  rcases h with ⟨c, u, b, rfl, k, e, q⟩ | ⟨tp, cs, ws, b, rfl, hT, k, e, q⟩
  · obtain ⟨u1, u2, rfl, r1, r2⟩ := vals2 r
    have e2 := k.eq r2
    subst e2
    obtain rfl : u1 = Value.ref a := r1
    exact PySem.W.kia_one (PySem.W.kitx_excO E.hg E.hk E.hs E.hd E.ha E.hn E.ht E.hm) I.kIn J e (fun z => nomatch z) fun tk => ⟨.bl b, H, I.kept (t' := tk) fun _ _ z => z, rfl, q⟩
  · obtain ⟨u1, u2, rfl, r1, r2⟩ := vals2 r
    obtain rfl : u1 = Value.ref a := r1
    cases (show u2 = Value.ref tp from r2)
    obtain ⟨_, its, rv, o, h1, h2, n, h3⟩ := (show ObjOk X.prog X.w H s.heap tp (.tup cs) from I.hok tp _ hT)
    have e3 := ClsV.all k rv
    subst e3
    obtain ⟨oc, odd, dt, sl⟩ := o
    simp only at h2 h3
    subst h2 h3
    exact PySem.W.kia_tup (PySem.W.kitx_excO E.hg E.hk E.hs E.hd E.ha E.hn E.ht E.hm) I.kIn J h1 e (fun z => nomatch z) fun tk => ⟨.bl b, H, I.kept (t' := tk) fun _ _ z => z, rfl, q⟩

theorem ct_in {ct : List Str} {c : Str} (h : (ct.contains c || decide (c = ("ValueError" : Str))) = true) : c = "ValueError" ∨ (c ≠ "ValueError" ∧ c ∈ ct) := by
  by_cases e : c = "ValueError"
  · exact .inl e
  · refine .inr ⟨e, ?_⟩
    rcases or_t' h with h | h
    · exact List.contains_iff_mem.mp h
    · exact absurd (of_decide_eq_true h) e
theorem cls_pe {ct : List Str} {c : Str} {p : Expr} {k : Nat} (T : ExT (txOf X) ct) (h : chkC1 X.env.scope ct c p = true) : PE X p (tC (clV X.K c)) := by
  cases p <;> first
    | exact absurd h Bool.false_ne_true
    | skip
  rename_i y py
  obtain ⟨h1, h⟩ := and_t h
  obtain ⟨h2, h3⟩ := and_t h
  obtain rfl := of_decide_eq_true h1
  rcases ct_in h3 with rfl | ⟨ne, hm⟩
  · have := pe_bltn (pos := py) (gl_ok h2).1 T.2.1 PyProof.Rows.Boot.«ValueError» (v := .ty "ValueError") rfl
    exact this
  · obtain ⟨m1, m2, m3, m4⟩ := T.2.2 y hm
    have e : clV X.K y = .ref (He.ga X.K y) := if_neg ne
    rw [e]
    exact pe_glob (gl_ok h2).1 m1 rfl (gl_ok h2).2
theorem cls_one {ct : List Str} {c n : Str} (E : ExC X.K ct n) (h : (ct.contains c || decide (c = ("ValueError" : Str))) = true) : PySem.W.kitOne X.K (.ref (He.ga X.K n)) (clU X.K c) = some (subC n c) := by
  rcases ct_in h with rfl | ⟨ne, hm⟩
  · have e : subC n "ValueError" = true := by simp [subC]
    rw [e]
    exact E.ve
  · have e : clU X.K c = .ref (He.ga X.K c) := if_neg ne
    rw [e]
    exact (E.sub c hm).1
theorem chkC1_c {sc : Scope} {ct : List Str} {c : Str} {p : Expr} (h : chkC1 sc ct c p = true) : (ct.contains c || decide (c = ("ValueError" : Str))) = true := by
  cases p <;> first
    | exact absurd h Bool.false_ne_true
    | skip
  obtain ⟨h1, h⟩ := and_t h
  exact (and_t h).2
theorem cls_any {ct : List Str} {n : Str} (E : ExC X.K ct n) : ∀ (cs : List Str) (ps : List Expr), chkCs X.env.scope ct cs ps = true → PySem.W.kitAny X.K (.ref (He.ga X.K n)) (cs.map (clU X.K)) = some (cs.any fun c => subC n c)
  | [], ps, h => kitAny_nil
  | c :: cs, [], h => absurd h Bool.false_ne_true
  | c :: cs, p :: ps, h => by
    obtain ⟨h1, h2⟩ := and_t h
    have ih := cls_any E cs ps h2
    refine kitAny_cons (cls_one E (chkC1_c h1)) (fun e => ?_) (fun e => ?_)
    · rw [ih, List.any_cons, e]; rfl
    · rw [List.any_cons, e]; rfl
theorem cls_len {ct : List Str} {sc : Scope} : ∀ (cs : List Str) (ps : List Expr), chkCs sc ct cs ps = true → cs.length = ps.length
  | [], [], _ => rfl
  | [], _ :: _, h => absurd h Bool.false_ne_true
  | c :: cs, [], h => absurd h Bool.false_ne_true
  | c :: cs, p :: ps, h => by
    obtain ⟨_, h2⟩ := and_t h
    rw [List.length_cons, List.length_cons, cls_len cs ps h2]
theorem cls_nst {ct : List Str} {sc : Scope} {c : Str} {p : Expr} (h : chkC1 sc ct c p = true) : nst p = true := by
  cases p <;> first
    | rfl
    | exact absurd h Bool.false_ne_true
theorem cls_pa {ct : List Str} {k : Nat} (T : ExT (txOf X) ct) : ∀ (cs : List Str) (ps : List Expr), chkCs X.env.scope ct cs ps = true → PA X ps (fun σ H Q => Q (cs.map (clV X.K)) H)
  | [], [], _ => ⟨fun pos pins s σ H Q I h => pa_nil.run pos pins s σ H Q I h⟩
  | [], _ :: _, h => absurd h Bool.false_ne_true
  | c :: cs, [], h => absurd h Bool.false_ne_true
  | c :: cs, p :: ps, h => by
    obtain ⟨h1, h2⟩ := and_t h
    refine PA_imp (pa_cons (cls_pe (k := k) T h1) (cls_pa (k := k) T cs ps h2) (star_cons (cls_nst h1))) ?_
    intro σ H Q q
    exact q
theorem repF_look {K : FK} {F : Hp} : ∀ {fs : List (Str × D)} {vs : List (Str × V)} {f : Str} {e : D}, RepF K F fs vs → fs.lookup f = some e → ∃ v, vs.lookup f = some v ∧ Rep K F e v
  | _, _, _, _, .nil, h => by cases h
  | _, _, f, e, @RepF.cons _ _ k d v ds vs r t, h => by
    rw [List.lookup_cons] at h ⊢
    cases q : f == k with
    | true =>
      rw [q] at h
      cases h
      exact ⟨v, rfl, r⟩
    | false =>
      rw [q] at h
      exact repF_look t h
theorem hot_dict {F1 H1 : Hp} {S : Sto} {x : Ex} {cls : Value} {d : Option Addr} (xr : XRep X.K X.mg F0 x cls d) (sf : Same F0 F1) (R : RelH X.K Z F1 S H1) : d = none ∨ ∃ dx vs, d = some dx ∧ H1 dx = some (.xd vs) := by
  rcases xr.2 with ⟨_, e⟩ | ⟨dx, vs, e, h, _⟩
  · exact .inl e
  · exact .inr ⟨dx, vs, e, R.fz _ _ (sf _ _ h)⟩
theorem isx_e {k : Nat} {xq : XP} {m : Md} {ct cs : List Str} {pa pc : Expr} {p pos : Pos} {wa : WpE} (g : Gd X k Z F0 xq m) (hm : m = .ht) (gi : Gl X "isinstance") (T : ExT (txOf X) ct) (st : nst pa = true) (ha : PE X pa (LE X.K Z F0 wa)) (hc : chkC X.env.scope ct cs pc = true) :
    PE X (.Call (.Name "isinstance" p) [pa, pc] [] pos) (LE X.K Z F0 fun δ S P => hotC xq.h ct ∧ wa δ S fun v S1 => isxD xq.h cs v S1 P) := by
  obtain ⟨a, x, hx, ⟨oe, cls, d, hp, hz, hf, xr⟩⟩ := g.hot hm
  rw [hx]
  have nstc : nst pc = true := by
    cases pc <;> first
      | rfl
      | (unfold chkC at hc
         split at hc
         · rename_i e; cases e
         · rename_i e; exact absurd hc Bool.false_ne_true
         · exact absurd hc Bool.false_ne_true)
  have hs1 : starEach [pa, pc] X.env = (false, eval pa X.env) :: starEach [pc] X.env := star_cons st
  have hs3 : starEach [pc] X.env = (false, eval pc X.env) :: starEach [] X.env := star_cons nstc
  have hs2 : (backTo pos (starEach [pc] X.env)).any (·.1) = false := star_none ⟨nstc, trivial⟩
  by_cases hin : x.cls ∈ ct
  · obtain ⟨n1, n2, n3, n4⟩ := T.2.2 _ hin
    have ec : cls = .ref (He.ga X.K x.cls) := Option.some.inj (xr.1.symm.trans n1)
    subst ec
    have rule := call_isP hp n2.ec hz hf
    by_cases tp : ∃ ps q1 q2, pc = .Tuple ps q1 q2
    · obtain ⟨ps, q1, q2, rfl⟩ := tp
      obtain ⟨l1, hc⟩ := and_t hc
      obtain ⟨l2, hc⟩ := and_t hc
      have pt := pe_tup (x1 := q1) (pos := q2) (cls_pa (k := k) T cs ps hc)
      refine PE_imp (pe_callB rule gi T.1 PyProof.Rows.boot_isinstance (pa_cons ha (pa_cons pt pa_nil hs3) hs1) (by decide) (by decide) hs1 hs2) ?_
      rintro σ H Q ⟨F, δ, S, P, sf, rs, rh, ⟨_, w⟩, c⟩
      refine ⟨F, δ, S, _, sf, rs, rh, w, ?_⟩
      rintro F1 H1 S1 v u s1 R1 r1 ⟨rfl, w1⟩
      cases r1
      refine ⟨?_, fun q hq => ?_⟩
      · rw [List.length_map, cls_len cs ps hc]
        exact Nat.le_trans (of_decide_eq_true l1) (by decide)
      · obtain ⟨s2, R2⟩ := R1.newF (o := .tup (cs.map (clV X.K))) hq
        refine ⟨hot_dict xr (sf.trans (s1.trans s2)) R2, .inr ⟨q, _, _, _, rfl, upd_same, clVUs cs, cls_any n2 cs ps hc, ?_⟩⟩
        exact c _ _ _ _ _ (s1.trans s2) R2 (.bl _) w1
    · have one : ∃ c0, cs = [c0] ∧ chkC1 X.env.scope ct c0 pc = true := by
        unfold chkC at hc
        split at hc
        · rename_i ps q1 q2
          exact absurd ⟨ps, q1, q2, rfl⟩ tp
        · exact ⟨_, rfl, hc⟩
        · exact absurd hc Bool.false_ne_true
      obtain ⟨c0, rfl, h1⟩ := one
      have pt := cls_pe (k := k) T h1
      refine PE_imp (pe_callB rule gi T.1 PyProof.Rows.boot_isinstance (pa_cons ha (pa_cons pt pa_nil hs3) hs1) (by decide) (by decide) hs1 hs2) ?_
      rintro σ H Q ⟨F, δ, S, P, sf, rs, rh, ⟨_, w⟩, c⟩
      refine ⟨F, δ, S, _, sf, rs, rh, w, ?_⟩
      rintro F1 H1 S1 v u s1 R1 r1 ⟨rfl, w1⟩
      cases r1
      refine ⟨hot_dict xr (sf.trans s1) R1, .inl ⟨_, _, _, rfl, clVU, cls_one n2 (chkC1_c h1), ?_⟩⟩
      have e : ([c0].any fun c => subC x.cls c) = subC x.cls c0 := by simp
      rw [e] at w1
      exact c _ _ _ _ _ s1 R1 (.bl _) w1
  · refine ⟨fun pins s σ H Q I q => ?_⟩
    obtain ⟨F, δ, S, P, sf, rs, rh, w, c⟩ := q
    exact absurd w.1 hin
/-- e.f -/
theorem fld_e {k : Nat} {xq : XP} {m : Md} {ct : List Str} {f : Str} {pa : Expr} {pos : Pos} {wa : WpE} (g : Gd X k Z F0 xq m) (hm : m = .ht) (T : ExT (txOf X) ct) (nc : nCall pa = true) (ha : PE X pa (LE X.K Z F0 wa)) :
    PE X (.Attribute pa f pos) (LE X.K Z F0 fun δ S P => hotF xq.h ct f ∧ wa δ S fun v S1 => fldD xq.h f v S1 P) := by
  obtain ⟨a, x, hx, ⟨oe, cls, d, hp, hz, hf, xr⟩⟩ := g.hot hm
  rw [hx]
  refine ⟨fun pins s σ H Q I q => ?_⟩
  obtain ⟨F, δ, S, P, sf, rs, rh, ⟨⟨w1, w2⟩, w⟩, c⟩ := q
  obtain ⟨n1, n2, n3, n4⟩ := T.2.2 _ w1
  have ec : cls = .ref (He.ga X.K x.cls) := Option.some.inj (xr.1.symm.trans n1)
  subst ec
  have hno := n2.nof f w2
  refine attr_of (base_ok nc) (thn (ha.run pins s σ H (fun y H1 => y = .ref a ∧ ∃ F1 S1, Same F F1 ∧ RelH X.K Z F1 S1 H1 ∧ ∃ e, x.fs.lookup f = some e ∧ P e S1) I ⟨F, δ, S, _, sf, rs, rh, w, ?_⟩) fun u s1 hh => ?_)
  · rintro F1 H1 S1 v y s1 R1 r1 ⟨rfl, w3⟩
    cases r1
    exact ⟨rfl, F1, S1, s1, R1, w3⟩
  · obtain ⟨y, H1, I1, ry, rfl, F1, S1, s1', R1, e, le, w4⟩ := hh
    obtain rfl : u = Value.ref a := ry
    obtain ⟨od, J, lk⟩ := inst_of I1 hp hz hf (hot_dict xr (sf.trans s1') R1)
    rcases xr.2 with ⟨e0, _⟩ | ⟨dx, vs, ed, hd, rf⟩
    · rw [e0] at le
      cases le
    · have rf1 := rf.mono (sf.trans s1')
      obtain ⟨v, lv, rv⟩ := repF_look rf1 le
      obtain ⟨o, rfl, lk2⟩ := lk dx vs ed (R1.fz _ _ ((sf.trans s1') _ _ hd))
      obtain ⟨u, hu, ru⟩ := lk2 f v lv
      exact HandSPX.exc_get I1.kIn J n2.xf.ga n2.xf.gg n2.xf.exC (PySem.W.findObj_own n2.xf.hdC hno rfl hu) (handed_of ru) ⟨v, H1, I1.tok _, ru, c _ _ _ _ _ s1' R1 rv w4⟩
/-- a def called while an exception is handled -/
theorem callh_e {k : Nat} {xq : XP} {m : Md} {e : Expr} {es : List Expr} {x : Str} {p pos : Pos} {sp : Addr × Ex → Spec} {wa : WpA} (g : Gd X k Z F0 xq m) (hm : m = .ht) (cl : CalleeH (txOf X) k x sp) (gx : Gl X x) (hd : (x == ("__debug__" : Str)) = false) (st : NStar (e :: es))
    (ha : PA X (e :: es) (LA X.K Z F0 wa)) : PE X (.Call (.Name x p) (e :: es) [] pos) (LE X.K Z F0 fun δ S P => wa δ S fun ds S1 => clhD xq.h sp ds S1 P) := by
  obtain ⟨f, fd, qs, hmf, hk, hb, ok⟩ := cl
  obtain ⟨a, y, hx, ⟨oe, cls, d, hp, hz, hf, xr⟩⟩ := g.hot hm
  rw [hx]
  refine ⟨fun pins s σ H Q I q => ?_⟩
  obtain ⟨F, δ, S, P, sf, rs, rh, w, c⟩ := q
  refine wpAny_Call_Name_kw (ld_glob I gx hmf ?_ hd)
  refine PySem.W.callWith_K (h₀ := X.base) I.ok.mod.kin hk (thn (ha.run pos pins s σ H (fun vs H1 => ∃ F1 S1 ds, Same F F1 ∧ RelH X.K Z F1 S1 H1 ∧ RepL X.K F1 ds vs ∧ sp (a, y) ds S1 P fun _ _ => False) I ⟨F, δ, S, _, sf, rs, rh, w, ?_⟩) fun us s1 hh => ?_) (star_cons st.1) (star_none st.2)
  · intro F1 H1 S1 ds vs s1 R1 r1 w1
    exact ⟨F1, S1, ds, s1, R1, r1, w1⟩
  · obtain ⟨vs, H1, I1, rv, F1, S1, ds, s1', R1, r1, w1⟩ := hh
    refine ⟨I1.kIn, ?_⟩
    have hl : us.length = qs.length := by rw [← rv.length, ← r1.length]; exact ok.len _ _ _ _ _ w1
    have b := hb s1 us I1.kIn (by rw [List.append_nil]; exact hl)
    rw [List.append_nil] at b
    have P1 := I1.pin (a, oe) (List.mem_append_left _ hp)
    have hpin : L2H.PinOk X.stack H1 s1 (a, oe) := ⟨P1.1, P1.2.1, fun hm => (List.mem_cons.mp (I1.stkSub a hm)).elim P1.2.2.1 P1.2.2.2.1, P1.2.2.2.2⟩
    refine wpAny_call (codeAny_mono (ok.run X.A X.stack s1 H1 ⟨us, []⟩ us vs Q (a, oe) y cls d Z F1 S1 ds P g.rh g.gu hpin hz hf (xr.mono (sf.trans s1')) I1.env0 b rv R1 r1 w1 (c.mono s1')) fun r s' hq => ?_)
    cases r with
    | error er =>
      obtain ⟨_, _, _, _, _, _, _, _, _, _, _, _, z⟩ := hq
      exact absurd z id
    | ok fl =>
      cases fl with
      | ret u => exact I1.after hq
      | next => exact absurd hq id
      | brk => exact absurd hq id
      | cont => exact absurd hq id
end
end GB

/-! GBx6: raising an own exception. -/
namespace GB
open PySem PySem.Spec PyProof.Rows L2

theorem mkEx_0 {c : Str} {ds : List D} {y : Ex} (e0 : exFs c = []) (h : mkEx c ds = some y) : ds.length = 1 ∧ y = ⟨c, []⟩ := by
  unfold mkEx at h
  rw [e0] at h
  split at h
  · cases h; exact ⟨rfl, rfl⟩
  · rename_i e; cases e
  · rename_i e; cases e
  · cases h
theorem mkEx_1 {c f : Str} {ds : List D} {y : Ex} (e0 : exFs c = [f]) (h : mkEx c ds = some y) : ∃ d, ds = [d] ∧ y = ⟨c, [(f, d)]⟩ := by
  unfold mkEx at h
  rw [e0] at h
  split at h
  · rename_i e; cases e
  · rename_i e; cases e; cases h; exact ⟨_, rfl, rfl⟩
  · rename_i e; cases e
  · cases h
theorem mkEx_2 {c f f2 : Str} {ds : List D} {y : Ex} (e0 : exFs c = [f, f2]) (h : mkEx c ds = some y) : ∃ d e, ds = [d, e] ∧ y = ⟨c, [(f2, e), (f, d)]⟩ := by
  unfold mkEx at h
  rw [e0] at h
  split at h
  · rename_i e; cases e
  · rename_i e; cases e
  · rename_i e; cases e; cases h; exact ⟨_, _, rfl, rfl⟩
  · cases h
theorem del_upd {H : Hp} {a dx : Addr} {o1 o2 o3 o : HO} (ha : H a = none) (ne : dx ≠ a) : upd (del (upd (upd (upd H a o1) dx o2) a o3) a) dx o = upd H dx o := by
  funext b
  by_cases hb : b = dx
  · subst hb; rw [upd_same, upd_same]
  · rw [upd_ne hb, upd_ne hb]
    by_cases hc : b = a
    · subst hc; rw [del_same, ha]
    · rw [del_ne hc, upd_ne hc, upd_ne hb, upd_ne hc]
theorem del_upd2 {H : Hp} {a dx : Addr} {o1 o2 o3 o4 o : HO} (ha : H a = none) (ne : dx ≠ a) : upd (del (upd (upd (upd (upd H a o1) dx o2) a o3) dx o4) a) dx o = upd H dx o := by
  funext b
  by_cases hb : b = dx
  · subst hb; rw [upd_same, upd_same]
  · rw [upd_ne hb, upd_ne hb]
    by_cases hc : b = a
    · subst hc; rw [del_same, ha]
    · rw [del_ne hc, upd_ne hb, upd_ne hc, upd_ne hb, upd_ne hc]
theorem exFs_two (c : Str) : exFs c = [] ∨ (∃ f, exFs c = [f]) ∨ ∃ f g, exFs c = [f, g] := by
  unfold exFs
  split
  · exact .inr (.inl ⟨_, rfl⟩)
  · split
    · exact .inr (.inl ⟨_, rfl⟩)
    · split
      · exact .inr (.inl ⟨_, rfl⟩)
      · split
        · exact .inr (.inr ⟨_, _, rfl⟩)
        · exact .inl rfl
section
variable {X : Cx} {Z F0 : Hp}
theorem raise_e {k : Nat} {xq : XP} {c : Str} {e : Expr} {es : List Expr} {p pos pos2 : Pos} {wa : WpA} (g : Gd X k Z F0 xq .df) (R : CanR (txOf X) k c) (gx : Gl X c) (st : NStar (e :: es)) (ha : PA X (e :: es) (LA X.K Z F0 wa)) :
    PS X (.Raise (some (.Call (.Name c p) (e :: es) [] pos)) none pos2) (LS X.K Z F0 fun _ δ S => wa δ S fun ds S1 => ∃ y, mkEx c ds = some y ∧ xq.x y δ S1) := by
  obtain ⟨m1, m2, k2, ⟨ct, E⟩, ini⟩ := R
  have rs_ : Raises X (.ref (He.ga X.K c)) := raises_own E.xf.exC E.ty
  by_cases e0 : exFs c = []
  · have mk := pmk_ownA (pos := pos) (p := p) PySem.F.excBase_ValueError (E.mk0 e0) m1 E.kp rs_ gx ha m2 (star_cons st.1) (star_none st.2)
    refine PS_imp (ps_raise (g.calm rfl) g.tk mk) ?_
    rintro D σ H ⟨F, δ, S, P, sf, rs, rh, w, _⟩
    refine ⟨F, δ, S, _, sf, rs, rh, w, ?_⟩
    rintro F1 H1 S1 ds vs s1 R1 r1 ⟨y, hy, q⟩
    obtain ⟨l1, rfl⟩ := mkEx_0 e0 hy
    refine ⟨by rw [← r1.length, l1]; decide, ?_⟩
    exact ⟨F1, δ, S1, ⟨c, []⟩, sf.trans s1, rs.mono s1, R1, ⟨m1, .inl ⟨rfl, rfl⟩⟩, q⟩
  · obtain ⟨fd, ps, hl, fn, hb⟩ := ini e0
    obtain ⟨T, iC, tI⟩ := E.ini e0
    have mk := pmk_oex (pos := pos) (p := p) (ds := []) (dvs := []) T iC tI fn ((g.room rfl).mono k2) hb .nil (passes_call g.tk fun _ _ _ _ h => h.elim) gx m1 ha m2 (star_cons st.1) (star_none st.2)
    refine PS_imp (ps_raise (g.calm rfl) g.tk mk) ?_
    rintro D σ H ⟨F, δ, S, P, sf, rs, rh, w, _⟩
    refine ⟨F, δ, S, _, sf, rs, rh, w, ?_⟩
    rintro F1 H1 S1 ds vs s1 R1 r1 ⟨y, hy, q⟩
    rcases exFs_two c with z | ⟨f, ef⟩ | ⟨f, f2, ef⟩
    · exact absurd z e0
    · obtain ⟨d, rfl, rfl⟩ := mkEx_1 ef hy
      obtain ⟨v, rfl, rv⟩ := r1.one
      refine ⟨by show 1 ≤ 1000; decide, fun a hna => ?_⟩
      rw [ef]
      refine ⟨upd_same, fun dx h1 h2 => ⟨rfl, dx, [(f, v)], upd_same, ?_, ?_, ?_⟩⟩
      · rw [upd_ne h2, upd_same]
      · rw [upd_ne h2] at h1; exact h1
      · rw [upd_ne h2] at h1
        rw [del_upd hna h2]
        obtain ⟨s2, R2⟩ := R1.newF (o := .xd [(f, v)]) h1
        exact ⟨_, δ, S1, ⟨c, [(f, d)]⟩, sf.trans (s1.trans s2), rs.mono (s1.trans s2), R2, ⟨m1, .inr ⟨dx, _, rfl, upd_same, .cons (rv.mono s2) .nil⟩⟩, q⟩
    · obtain ⟨d, d2, rfl, rfl⟩ := mkEx_2 ef hy
      obtain ⟨v, v2, rfl, rv, rv2⟩ := r1.two
      refine ⟨by show 2 ≤ 1000; decide, fun a hna => ?_⟩
      rw [ef]
      refine ⟨upd_same, fun dx h1 h2 => ⟨rfl, dx, [(f2, v2), (f, v)], ?_, upd_same, ?_, ?_⟩⟩
      · rw [upd_ne (Ne.symm h2), upd_same]
      · rw [upd_ne h2] at h1; exact h1
      · rw [upd_ne h2] at h1
        rw [del_upd2 hna h2]
        obtain ⟨s2, R2⟩ := R1.newF (o := .xd [(f2, v2), (f, v)]) h1
        exact ⟨_, δ, S1, ⟨c, [(f2, d2), (f, d)]⟩, sf.trans (s1.trans s2), rs.mono (s1.trans s2), R2, ⟨m1, .inr ⟨dx, _, rfl, upd_same, .cons (rv2.mono s2) (.cons (rv.mono s2) .nil)⟩⟩, q⟩
end
end GB

/-! GBx7: how often, and where first, a thing stands in a list or a tuple. -/
namespace GB
open PySem PySem.Spec PyProof.Rows L2
section
variable {prog : Program} {w : World} {A : Around} {E : Value → Shared → Prop} {s : Shared} {l : Addr} {vs : Array Value} {xs : List PyData} {x : Value} {d : PyData} {as bs : List Addr} {Q : Value → Shared → Prop} {j : Nat}
theorem index_tup (hl : s.heap.IsTuple l vs) (rs : ReadsAll s.heap vs.toList xs as) (rx : Reads s.heap x d bs) (hxs : PyData.plainAll xs = true) (hd : d.plain = true) (hu : A.units + 1 + min (PyData.depthAll xs) d.depth < cLine)
    (hp : SeqAt.dataPlace xs d = some j) (h : Q (.int j s.toks) { s with toks := s.toks + 1 }) : wpAny (model prog w) A (call (.builtin "tuple.index") [.ref l, x]) Q E s := by
  obtain ⟨⟨oc, od, dt, sl⟩, ho, hc, n, hd'⟩ := id hl
  simp only at hc hd'
  subst hc hd'
  obtain ⟨hj, hit, hno⟩ := SeqAt.hit_at rs hxs hp
  exact call_meets PySem.F.slot_tuple_index ⟨_, ho, rfl⟩ PySem.F.entry_tuple_index (PySem.F.args_tuple_index_2 _ _) (TI.tuple_indexAt l vs n od sl x _ j hj hit hno) ⟨ho, SeqAt.items_plain rs rx hxs hd hu, h⟩
theorem index_lst (hl : s.heap.IsList l vs) (rs : ReadsAll s.heap vs.toList xs as) (rx : Reads s.heap x d bs) (hxs : PyData.plainAll xs = true) (hd : d.plain = true) (hu : A.units + 1 + min (PyData.depthAll xs) d.depth < cLine)
    (hp : SeqAt.dataPlace xs d = some j) (hsm : (j : Int) < 2 ^ 63 - 1) (h : Q (.int j s.toks) { s with toks := s.toks + 1 }) : wpAny (model prog w) A (call (.builtin "list.index") [.ref l, x]) Q E s := by
  obtain ⟨⟨oc, od, dt, sl⟩, ho, hc, n, hd'⟩ := id hl
  simp only at hc hd'
  subst hc hd'
  obtain ⟨hj, hit, hno⟩ := SeqAt.hit_at rs hxs hp
  exact call_meets PySem.F.slot_list_index ⟨_, ho, rfl⟩ PySem.F.entry_list_index (PySem.F.args_list_index_2 _ _) (SeqAt.list_indexAt l vs n od sl x _ j hj hsm hit hno) ⟨ho, SeqAt.items_plain rs rx hxs hd hu, h⟩
end
section
variable {X : Cx} {Z F0 : Hp}
def SqM (K : FK) (k : Bool) (H : Hp) (p : Addr) (xs : List V) : Prop := match k with
  | true => SqN K H p xs
  | false => SqL K H p xs
/-- a method of lists and of tuples -/
def tSeq2 (K : FK) (r : Bool → V → List V → Hp → VK → Prop) (to : TE) (ta : TA) : TE := fun σ H Q => to σ H fun x H1 => ∃ k p xs, x = .ref p ∧ SqM K k H1 p xs ∧ ta σ H1 fun ys H2 => r k x ys H2 Q
theorem pe_seq2 {o e : Expr} {nm : Str} {ap cp : Pos} {idL idT : String} {to : TE} {ta : TA} {r : Bool → V → List V → Hp → VK → Prop}
    (sL : Slot "list" nm idL) (tL : typeOf (.builtin idL) = pure (.type "method_descriptor")) (sT : Slot "tuple" nm idT) (tT : typeOf (.builtin idT) = pure (.type "method_descriptor"))
    (hL : MtR X idL (r false)) (hT : MtR X idT (r true)) (ho : PE X o to) (ha : PA X [e] ta) (st : nst e = true) (hb : attributeBase o nm X.env (eval o X.env) = eval o X.env) (hl : (ap.endLine == cp.line) = true) :
    PE X (.Call (.Attribute o nm ap) [e] [] cp) (tSeq2 X.K r to ta) := by
  have few : ((backTo cp (starEach [e] X.env)).all (fun x => !x.1) && (backToKw cp (keywordEach [] X.env)).all (fun x => x.1.isSome) && decide ([e].length + ([] : List Keyword).length + (if ([] : List Keyword).isEmpty then 0 else 1) < 30)) = true := by
    rw [star_cons st]; rfl
  have se : starEach [e] X.env = (false, eval e X.env) :: starEach [] X.env := star_cons st
  refine ⟨fun pins s σ H Q I h => wpAny_Call_method_late hb few hl rfl (thn (ho.run pins s σ H _ I h) fun v s1 ⟨x, H1, I1, r1, k, p, xs, ex, sq, q1⟩ => ?_)⟩
  subst ex
  cases r1
  have hA := ha.run cp pins s1 σ H1 _ I1 q1
  rw [se] at hA ⊢
  have go : ∀ id, MtR X id (r k) → wpAny (model X.prog X.w) X.A (callWith cp (.builtin id) [.ref p] (backTo cp ((false, eval e X.env) :: starEach [] X.env)) []) (EP X pins σ Q) X.xe s1 := fun id hm =>
    Calls.callWith_builtin rfl (Calls.evalArgs_plain (thn hA fun us s2 ⟨vs, H2, I2, r2, q2⟩ => hm pins s2 σ H2 (.ref p) vs _ us Q I2 rfl r2 q2))
  cases k with
  | true =>
    obtain ⟨ob, e1, e2, e3⟩ := I1.noDict sq
    exact ⟨"tuple", idT, PySem.F.plainAttrs_tuple, sT, tT, ⟨ob, e1, e2⟩, fun a z => by cases z; exact ⟨ob, e1, e3⟩, go _ hT⟩
  | false =>
    obtain ⟨its, _, pl, _⟩ := I1.list sq
    obtain ⟨ob, _, e1, e2, e3, _⟩ := id pl
    exact ⟨"list", idL, PySem.F.plainAttrs_list, sL, tL, ⟨ob, e1, e2⟩, fun a z => by cases z; exact ⟨ob, e1, e3⟩, go _ hL⟩
def rCntA (K : FK) (k : Bool) : V → List V → Hp → VK → Prop := fun x xs H Q => ∃ y d ds, xs = [y] ∧ Dp K H y d ∧ Dp K H x (sqP k ds) ∧ shp d = true ∧ shp (sqP k ds) = true ∧ d.depth ≤ 60 ∧ Q (.int ((ds.countP fun z => PyData.eqv z d : Nat) : Int)) H
def rIdxA (K : FK) (k : Bool) : V → List V → Hp → VK → Prop := fun x xs H Q => ∃ y d ds j, xs = [y] ∧ Dp K H y d ∧ Dp K H x (sqP k ds) ∧ shp d = true ∧ shp (sqP k ds) = true ∧ d.depth ≤ 60 ∧ (ds.findIdx? fun z => PyData.eqv z d) = some j ∧ j < 1000000 ∧ Q (.int (j : Int)) H
theorem room_of {X : Cx} (hu : X.A.units + 64 < cLine) {ds : List PyData} {d : PyData} (dd : d.depth ≤ 60) : X.A.units + 1 + min (PyData.depthAll ds) d.depth < cLine := by
  have : min (PyData.depthAll ds) d.depth ≤ d.depth := Nat.min_le_right _ _
  omega
theorem mt_cntL (hu : X.A.units + 64 < cLine) : MtR X "list.count" (rCntA X.K false) := by
  rintro pins s σ H x xs v us Q I rx rxs ⟨y, d, ds, rfl, hy, hx, s1, s2, dd, q⟩
  obtain ⟨u, rfl, ru⟩ := rxs.one
  obtain ⟨as, r1⟩ := Dp.reads I d y u hy ru
  obtain ⟨bs, r2⟩ := Dp.reads I (.list ds) x v hx rx
  cases r2 with
  | list h1 h2 h3 h4 => exact SeqAt.count_list_data ⟨_, h1, h2, _, h3⟩ h4 r1 (shp_p s2).1 (shp_p s1).1 (room_of hu dd) ⟨.int _, H, I.tok _, ⟨_, rfl⟩, q⟩
theorem mt_cntT (hu : X.A.units + 64 < cLine) : MtR X "tuple.count" (rCntA X.K true) := by
  rintro pins s σ H x xs v us Q I rx rxs ⟨y, d, ds, rfl, hy, hx, s1, s2, dd, q⟩
  obtain ⟨u, rfl, ru⟩ := rxs.one
  obtain ⟨as, r1⟩ := Dp.reads I d y u hy ru
  obtain ⟨bs, r2⟩ := Dp.reads I (.tuple ds) x v hx rx
  cases r2 with
  | tuple h1 h2 h3 h4 => exact SeqAt.count_tuple_data ⟨_, h1, h2, _, h3⟩ h4 r1 (shp_p s2).1 (shp_p s1).1 (room_of hu dd) ⟨.int _, H, I.tok _, ⟨_, rfl⟩, q⟩
theorem mt_idxL (hu : X.A.units + 64 < cLine) : MtR X "list.index" (rIdxA X.K false) := by
  rintro pins s σ H x xs v us Q I rx rxs ⟨y, d, ds, j, rfl, hy, hx, s1, s2, dd, hj, sm, q⟩
  obtain ⟨u, rfl, ru⟩ := rxs.one
  obtain ⟨as, r1⟩ := Dp.reads I d y u hy ru
  obtain ⟨bs, r2⟩ := Dp.reads I (.list ds) x v hx rx
  cases r2 with
  | list h1 h2 h3 h4 => exact index_lst ⟨_, h1, h2, _, h3⟩ h4 r1 (shp_p s2).1 (shp_p s1).1 (room_of hu dd) hj (by omega) ⟨.int _, H, I.tok _, ⟨_, rfl⟩, q⟩
theorem mt_idxT (hu : X.A.units + 64 < cLine) : MtR X "tuple.index" (rIdxA X.K true) := by
  rintro pins s σ H x xs v us Q I rx rxs ⟨y, d, ds, j, rfl, hy, hx, s1, s2, dd, hj, sm, q⟩
  obtain ⟨u, rfl, ru⟩ := rxs.one
  obtain ⟨as, r1⟩ := Dp.reads I d y u hy ru
  obtain ⟨bs, r2⟩ := Dp.reads I (.tuple ds) x v hx rx
  cases r2 with
  | tuple h1 h2 h3 h4 => exact index_tup ⟨_, h1, h2, _, h3⟩ h4 r1 (shp_p s2).1 (shp_p s1).1 (room_of hu dd) hj ⟨.int _, H, I.tok _, ⟨_, rfl⟩, q⟩
theorem sqM_of {K : FK} {Z F H : Hp} {S : Sto} {x : D} {v : V} (R : RelH K Z F S H) (r : Rep K F x v) (h : ∃ ds, sqx S x = some ds) : ∃ p xs, v = .ref p ∧ SqM K (tupB x) H p xs := by
  obtain ⟨ds, h⟩ := h
  cases x with
  | tup es =>
    obtain ⟨p, vs, rfl, h1, _⟩ := r.tupN
    exact ⟨p, vs, rfl, sqN_mono R.fz h1⟩
  | lst es =>
    obtain ⟨p, vs, rfl, h1, _⟩ := lsx_of R r h
    exact ⟨p, vs, rfl, h1⟩
  | rls es =>
    obtain ⟨p, vs, rfl, h1, _⟩ := lsx_of R r h
    exact ⟨p, vs, rfl, h1⟩
  | ref es =>
    obtain ⟨p, vs, rfl, h1, _⟩ := lsx_of R r h
    exact ⟨p, vs, rfl, h1⟩
  | _ => cases h
theorem cnt_e {pa pb : Expr} {ap cp : Pos} {wa wb : WpE} (hu : X.A.units + 64 < cLine) (ha : PE X pa (LE X.K Z F0 wa)) (hb : PE X pb (LE X.K Z F0 wb)) (st : nst pb = true) (hl : (ap.endLine == cp.line) = true) (nc : nCall pa = true) :
    PE X (.Call (.Attribute pa "count" ap) [pb] [] cp) (LE X.K Z F0 fun δ S P => wa δ S fun x S1 => (∃ ds, sqx S1 x = some ds) ∧ wb δ S1 fun y S2 => cntD x y S2 P) := by
  refine PE_imp (pe_seq2 PySem.F.slot_list_count PySem.F.type_list_count PySem.F.slot_tuple_count PySem.F.type_tuple_count (mt_cntL hu) (mt_cntT hu) ha (pa_cons hb pa_nil (star_cons st)) st (base_ok nc) hl) ?_
  rintro σ H Q ⟨F, δ, S, P, sf, rs, rh, w, c⟩
  refine ⟨F, δ, S, _, sf, rs, rh, w, ?_⟩
  rintro F1 H1 S1 x v s1 R1 rx ⟨t1, w1⟩
  obtain ⟨p, xs, rfl, hq⟩ := sqM_of R1 rx t1
  refine ⟨tupB x, p, xs, rfl, hq, F1, δ, S1, _, sf.trans s1, rs.mono s1, R1, w1, ?_⟩
  rintro F2 H2 S2 y u s2 R2 r2 ⟨n, d, es, e1, e2, h1, h2, h3, w3⟩
  exact ⟨u, d, es, rfl, py_of R2 n y u d r2 e1, py_of R2 n x _ _ (rx.mono s2) e2, h1, h2, h3, same_ok R2 (.int _) w3 (c.mono (s1.trans s2))⟩
theorem idx_e {pa pb : Expr} {ap cp : Pos} {wa wb : WpE} (hu : X.A.units + 64 < cLine) (ha : PE X pa (LE X.K Z F0 wa)) (hb : PE X pb (LE X.K Z F0 wb)) (st : nst pb = true) (hl : (ap.endLine == cp.line) = true) (nc : nCall pa = true) :
    PE X (.Call (.Attribute pa "index" ap) [pb] [] cp) (LE X.K Z F0 fun δ S P => wa δ S fun x S1 => (∃ ds, sqx S1 x = some ds) ∧ wb δ S1 fun y S2 => idxD x y S2 P) := by
  refine PE_imp (pe_seq2 PySem.F.slot_list_index PySem.F.type_list_index PySem.F.slot_tuple_index PySem.F.type_tuple_index (mt_idxL hu) (mt_idxT hu) ha (pa_cons hb pa_nil (star_cons st)) st (base_ok nc) hl) ?_
  rintro σ H Q ⟨F, δ, S, P, sf, rs, rh, w, c⟩
  refine ⟨F, δ, S, _, sf, rs, rh, w, ?_⟩
  rintro F1 H1 S1 x v s1 R1 rx ⟨t1, w1⟩
  obtain ⟨p, xs, rfl, hq⟩ := sqM_of R1 rx t1
  refine ⟨tupB x, p, xs, rfl, hq, F1, δ, S1, _, sf.trans s1, rs.mono s1, R1, w1, ?_⟩
  rintro F2 H2 S2 y u s2 R2 r2 ⟨n, d, es, j, e1, e2, h1, h2, h3, h4, h5, w3⟩
  exact ⟨u, d, es, j, rfl, py_of R2 n y u d r2 e1, py_of R2 n x _ _ (rx.mono s2) e2, h1, h2, h3, h4, h5, same_ok R2 (.int _) w3 (c.mono (s1.trans s2))⟩
end
end GB

/-! GBx12: d.get(k, x) -/
namespace GB
open PySem PySem.Spec PyProof.Rows L2
section
variable {X : Cx} {Z F0 : Hp}
theorem look_none {K : FK} {F : Hp} : ∀ {ds : List (Key × D)} {vs : List (Key × V)} {k : Key}, RepK K F ds vs → lookK ds k = none → valV vs k = none
  | _, _, _, .nil, _ => rfl
  | _, _, k, @RepK.cons _ _ k0 d0 v0 ds vs r t, h => by
    unfold lookK at h
    by_cases e : k0 = k
    · rw [if_pos e] at h
      cases h
    · rw [if_neg e] at h
      have h1 := look_none t h
      unfold valV at h1 ⊢
      rw [List.find?_cons]
      simp only [e, decide_false]
      exact h1
theorem dget_e {pa pb pc : Expr} {ap cp : Pos} {wa wb wc : WpE} (hu : X.A.units + 64 < cLine) (ha : PE X pa (LE X.K Z F0 wa)) (hb : PE X pb (LE X.K Z F0 wb)) (hc : PE X pc (LE X.K Z F0 wc)) (stb : nst pb = true) (stc : nst pc = true) (hl : (ap.endLine == cp.line) = true) (nc : nCall pa = true) :
    PE X (.Call (.Attribute pa "get" ap) [pb, pc] [] cp) (LE X.K Z F0 fun δ S P => wa δ S fun x S1 => (∃ p ds, x = .ref p ∧ S1 p = some (.dct ds)) ∧ wb δ S1 fun y S2 => wc δ S2 fun z S3 => getD x y z S3 P) := by
  have few : ((backTo cp (starEach [pb, pc] X.env)).all (fun x => !x.1) && (backToKw cp (keywordEach [] X.env)).all (fun x => x.1.isSome) && decide (([pb, pc] : List Expr).length + ([] : List Keyword).length + (if ([] : List Keyword).isEmpty then 0 else 1) < 30)) = true := by
    rw [star_cons stb, star_cons stc]; rfl
  have trees : backTo cp (starEach [pb, pc] X.env) = [(false, eval pb X.env), (false, eval pc X.env)] := by
    rw [star_cons stb, star_cons stc]; rfl
  refine PE_imp (pe_dget2 (by omega) ha hb hc ⟨base_ok nc, few, hl, trees⟩) ?_
  rintro σ H Q ⟨F, δ, S, P, sf, rs, rh, w, c⟩
  refine ⟨F, δ, S, _, sf, rs, rh, w, ?_⟩
  rintro F1 H1 S1 x v s1 R1 rx ⟨⟨p, ds, rfl, e⟩, w1⟩
  obtain ⟨_, o, ho, cr⟩ := R1.st p _ e
  obtain ⟨vs, rfl, rk⟩ := cr.dct
  cases rx
  refine ⟨p, rfl, .inl ⟨vs, .inl ho⟩, F1, δ, S1, _, sf.trans s1, rs.mono s1, R1, w1, ?_⟩
  rintro F2 H2 S2 y u s2 R2 ry w2
  refine ⟨F2, δ, S2, _, sf.trans (s1.trans s2), rs.mono (s1.trans s2), R2, w2, ?_⟩
  rintro F3 H3 S3 z t s3 R3 rz ⟨p', ds', k, ep, e3, hk, w3⟩
  cases ep
  obtain ⟨_, o3, ho3, cr3⟩ := R3.st p _ e3
  obtain ⟨vs3, rfl, rk3⟩ := cr3.dct
  obtain rfl := key_of (ry.mono s3) hk
  refine ⟨valV vs3 k, DGet.k ho3, ?_⟩
  have cc := c.mono (s1.trans (s2.trans s3))
  cases hl : lookK ds' k with
  | some d =>
    obtain ⟨v, h1, h2⟩ := look_of rk3 hl
    rw [h1]
    rw [hl] at w3
    exact same_ok R3 h2 w3 cc
  | none =>
    rw [look_none rk3 hl]
    rw [hl] at w3
    exact same_ok R3 rz w3 cc
end
end GB

/-! GBx13: xs[::2] of lists -/
namespace GB
open PySem PySem.Spec PyProof.Rows L2
theorem pick2 (items : Array Value) : slicePick items none none (some 2) = (evn items.toList).toArray := by
  unfold slicePick evn
  have b : sliceBounds none none (some 2) items.size = (0, (items.size : Int), 2) := by
    first
    | rfl
    | simp [sliceBounds]
  rw [b]
  have e : sliceRange 0 (items.size : Int) 2 = (List.range ((items.size + 1) / 2)).map fun k => 2 * k := by
    unfold sliceRange
    rw [if_pos (show (2 : Int) > 0 by decide)]
    by_cases h : (0 : Int) < (items.size : Int)
    · rw [if_pos h]
      have e1 : (((items.size : Int) - 0 + 2 - 1) / 2).toNat = (items.size + 1) / 2 := by omega
      simp only [e1]
      refine List.map_congr_left fun k _ => ?_
      omega
    · have e0 : items.size = 0 := by omega
      rw [if_neg h, e0]
      rfl
  show ((sliceRange 0 (items.size : Int) 2).filterMap (items[·]?)).toArray = _
  rw [e, List.filterMap_map, Array.length_toList]
  congr 1
  congr 1
  funext k
  show items[2 * k]? = items.toList[2 * k]?
  rw [Array.getElem?_toList]
section
variable {X : Cx} {Z F0 : Hp}
theorem RepL.picks {K : FK} {F : Hp} {ds : List D} {vs : List V} (r : RepL K F ds vs) : ∀ ks : List Nat, RepL K F (ks.filterMap fun k => ds[2 * k]?) (ks.filterMap fun k => vs[2 * k]?)
  | [] => .nil
  | k :: ks => by
    have ih := RepL.picks r ks
    rw [List.filterMap_cons, List.filterMap_cons]
    cases e : ds[2 * k]? with
    | some d =>
      obtain ⟨v, hv, rv⟩ := r.get e
      rw [hv]
      exact .cons rv ih
    | none =>
      have l := r.length
      have : vs[2 * k]? = none := by
        rw [List.getElem?_eq_none_iff] at e ⊢
        omega
      rw [this]
      exact ih
theorem RepL.evn_ {K : FK} {F : Hp} {ds : List D} {vs : List V} (r : RepL K F ds vs) : RepL K F (evn ds) (evn vs) := by
  unfold evn
  rw [r.length]
  exact r.picks _
theorem par_get {α β : Type} {R : α → β → Prop} {xs : List α} {ys : List β} (r : Paired R xs ys) : ∀ {i : Nat} {x : α}, xs[i]? = some x → ∃ y, ys[i]? = some y ∧ R x y := by
  induction r with
  | nil =>
    intro i x e
    cases e
  | cons h t ih =>
    intro i x e
    cases i with
    | zero =>
      cases e
      exact ⟨_, rfl, h⟩
    | succ i => exact ih e
theorem par_picks {α β : Type} {R : α → β → Prop} {xs : List α} {ys : List β} (r : Paired R xs ys) : ∀ ks : List Nat, Paired R (ks.filterMap fun k => xs[2 * k]?) (ks.filterMap fun k => ys[2 * k]?)
  | [] => .nil
  | k :: ks => by
    have ih := par_picks r ks
    rw [List.filterMap_cons, List.filterMap_cons]
    cases e : xs[2 * k]? with
    | some d =>
      obtain ⟨v, hv, rv⟩ := par_get r e
      rw [hv]
      exact .cons rv ih
    | none =>
      have l := r.length
      have : ys[2 * k]? = none := by
        rw [List.getElem?_eq_none_iff] at e ⊢
        omega
      rw [this]
      exact ih
theorem par_evn {α β : Type} {R : α → β → Prop} {xs : List α} {ys : List β} (r : Paired R xs ys) : Paired R (evn xs) (evn ys) := by
  unfold evn
  rw [r.length]
  exact par_picks r _
def tEvn (K : FK) (te : TE) : TE := fun σ H Q => te σ H fun x H1 => ∃ a xs, x = .ref a ∧ SqL K H1 a xs ∧ ∀ p, H1 p = none → Q (.ref p) (upd H1 p (.lst (evn xs)))
theorem evn_len {α : Type} (xs : List α) : (evn xs).length ≤ (xs.length + 1) / 2 := by
  unfold evn
  refine Nat.le_trans (List.length_filterMap_le _ _) ?_
  rw [List.length_range]
  exact Nat.le_refl _
theorem pe_evn {e : Expr} {te : TE} {k : Nat} {p1 p3 pos : Pos} (he : PE X e te) : PE X (.Subscript e (.Slice none none (some (.Constant (.int 2) k p1)) p3) pos) (tEvn X.K te) := by
  refine ⟨fun pins s σ H Q I h => ?_⟩
  refine Subscript_ (thn (he.run pins s σ H _ I h) fun v s1 ⟨x, H1, I1, r1, q1⟩ => ?_)
  obtain ⟨a, xs, ex, hx, q⟩ := q1
  subst ex
  cases r1
  have hst : PO X (some (.Constant (.int 2) k p1)) (tPart (tC (.int 2))) := po_some pe_int
  refine wpAny_Slice (thn (po_none.run pins s1 σ H1 (fun o H2 => o = none ∧ H2 = H1) I1 ⟨rfl, rfl⟩) fun vl s2 ⟨l, H2, I2, pl, el, e2⟩ => ?_)
  subst el e2
  refine thn (po_none.run pins s2 σ H2 (fun o H3 => o = none ∧ H3 = H2) I2 ⟨rfl, rfl⟩) fun vu s3 ⟨u, H3, I3, pu, eu, e3⟩ => ?_
  subst eu e3
  refine thn (hst.run pins s3 σ H3 (fun o H4 => o = some 2 ∧ H4 = H3) I3 ⟨2, rfl, rfl, rfl⟩) fun vs s4 ⟨o, H4, I4, ps, eo, e4⟩ => ?_
  subst eo e4
  have I5 : Inv X pins σ H4 { s4 with heap := s4.heap.push { cls := .type "slice", data := .fields #[vl, vu, vs] } } := I4.kept (t' := s4.toks) fun b ob q => Heap.get?_push_of_some _ q
  show wpAny (model X.prog X.w) X.A (subscriptTail e (.Slice none none (some (.Constant (.int 2) k p1)) p3) (.ref a) (.ref s4.heap.objs.size)) (EP X pins σ Q) X.xe { s4 with heap := s4.heap.push { cls := .type "slice", data := .fields #[vl, vu, vs] } }
  obtain ⟨its, r, ht, hz⟩ := I5.list hx
  have hlen := r.length
  refine tail_any (ops := [.ref a, .ref s4.heap.objs.size]) ht.isList.typeIs (PySem.slot_list_getitem.lookup) ?_ (by with_unfolding_all rfl)
  refine wpAny_getItem_list_slice ht.isList (Heap.IsSliceOf.new _ vl vu vs) pl pu ps (by decide) ?_ (by rw [List.size_toArray]; omega)
  rw [pick2]
  refine ⟨.ref _, _, I5.laid (t' := s4.toks) (o := .lst (evn xs)) (fun b ob q => Heap.get?_push_of_some _ q) (Nat.le_refl _) ?_, rfl, q _ (I5.hok.fresh (Nat.le_refl _))⟩
  have l := evn_len xs
  exact ⟨by omega, _, 0, par_evn r, Heap.get?_push_size _ rfl⟩
theorem sl2_e {m : Bool} {a : Expr} {k : Nat} {p1 p3 pos : Pos} {wa : WpE} (ha : PE X a (LE X.K Z F0 wa)) :
    PE X (.Subscript a (.Slice none none (some (.Constant (.int 2) k p1)) p3) pos) (LE X.K Z F0 fun δ S P => wa δ S fun x S1 => sl2D m x S1 P) := by
  refine PE_imp (pe_evn ha) ?_
  rintro σ H Q ⟨F, δ, S, P, sf, rs, rh, w, c⟩
  refine ⟨F, δ, S, _, sf, rs, rh, w, ?_⟩
  rintro F1 H1 S1 d v s1 R1 r1 ⟨ds, e, w1⟩
  obtain ⟨p, us, rfl, h1, rr⟩ := lsx_of R1 r1 e
  exact ⟨p, us, rfl, h1, nwL_ok R1 rr.evn_ w1 (c.mono s1)⟩
end
end GB

/-! GB13: soundness of expressions. -/
namespace GB
open PySem PySem.Spec PyProof.Rows L2

abbrev EOk (X : Cx) (Z F0 : Hp) (p : Expr) (W : WE2) : Prop := PE X p (LE X.K Z F0 W.e) ∧ PT X p (LT X.K Z F0 W.t)
theorem all_l {l m : List Nd} {T : Tx} {k : Nat} (h : ∀ n ∈ l ++ m, n.ok T k) : ∀ n ∈ l, n.ok T k := fun n hn => h n (List.mem_append_left _ hn)
theorem all_r {l m : List Nd} {T : Tx} {k : Nat} (h : ∀ n ∈ l ++ m, n.ok T k) : ∀ n ∈ m, n.ok T k := fun n hn => h n (List.mem_append_right _ hn)
theorem all_h {a : Nd} {m : List Nd} {T : Tx} {k : Nat} (h : ∀ n ∈ a :: m, n.ok T k) : a.ok T k := h a List.mem_cons_self
theorem all_t {a : Nd} {m : List Nd} {T : Tx} {k : Nat} (h : ∀ n ∈ a :: m, n.ok T k) : ∀ n ∈ m, n.ok T k := fun n hn => h n (List.mem_cons_of_mem _ hn)
theorem ne_of_chk {ps : List Expr} (h : (!ps.isEmpty) = true) : ps ≠ [] := by
  rintro rfl
  cases h

/-- the names of a comprehension's own slots -/
theorem own_snd (N : List Str) (l : List Nat) : (l.map fun i => (N.getD i Str.empty, i)).map (·.2) = l := by
  rw [List.map_map]
  exact List.map_id' l
theorem fold_ok {p : Expr} {env : Env} (h : nSet p = true) : ∀ x, foldedSetIterable p env x = pure x := by
  intro x
  cases p <;> first
    | rfl
    | exact absurd h Bool.false_ne_true

/-! ### displays of dicts -/
theorem RepK.app {K : FK} {F : Hp} : ∀ {a b : List (Key × D)} {c d : List (Key × V)}, RepK K F a c → RepK K F b d → RepK K F (a ++ b) (c ++ d)
  | _, _, _, _, .nil, h => h
  | _, _, _, _, .cons r t, h => .cons r (RepK.app t h)
theorem RepK.any {K : FK} {F : Hp} {k : Key} : ∀ {a : List (Key × D)} {c : List (Key × V)}, RepK K F a c → (a.any fun kv => decide (kv.1 = k)) = (c.any fun kv => decide (kv.1 = k))
  | _, _, .nil => rfl
  | _, _, .cons r t => by rw [List.any_cons, List.any_cons, RepK.any t]
theorem RepK.upd {K : FK} {F : Hp} {k : Key} {x : D} {v : V} (rx : Rep K F x v) : ∀ {a : List (Key × D)} {c : List (Key × V)}, RepK K F a c → RepK K F (a.map fun kv => if kv.1 = k then (kv.1, x) else kv) (c.map fun kv => if kv.1 = k then (kv.1, v) else kv)
  | _, _, .nil => .nil
  | _, _, @RepK.cons _ _ k0 d0 v0 ds vs r t => by
    rw [List.map_cons, List.map_cons]
    by_cases e : k0 = k
    · simp only [e, if_true]
      exact .cons rx (RepK.upd rx t)
    · simp only [e, if_false]
      exact .cons r (RepK.upd rx t)
theorem RepK.put {K : FK} {F : Hp} {k : Key} {x : D} {v : V} {a : List (Key × D)} {c : List (Key × V)} (r : RepK K F a c) (rx : Rep K F x v) : RepK K F (putD a k x) (L2.putK c k v) := by
  unfold putD L2.putK
  rw [r.any]
  by_cases e : (c.any fun kv => decide (kv.1 = k)) = true
  · rw [if_pos e, if_pos e]; exact r.upd rx
  · rw [if_neg e, if_neg e]; exact r.app (.cons rx .nil)
theorem RelH.lessZ {K : FK} {Z Z' F : Hp} {S : Sto} {H : Hp} (R : RelH K Z' F S H) (h : Same Z Z') : RelH K Z F S H := ⟨R.fz, fun p o e => R.hid p o (h p o e), R.st⟩
theorem Gd.less {X : Cx} {k : Nat} {Z Z' F0 : Hp} {xq : XP} {b : Md} (g : Gd X k Z F0 xq b) (h : Same Z Z') : Gd X k Z' F0 xq b := by
  refine ⟨g.nd, g.calm, g.room, g.rh, g.gu, Takes.imp g.tk ?_, g.po, g.fn, g.hot, g.st⟩
  rintro c d σ H ⟨F, δ, S, x, sf, rs, R, xr, q⟩
  exact ⟨F, δ, S, x, sf, rs, R.lessZ h, xr, q⟩
inductive RepP (K : FK) (F : Hp) : List D → List (V × V) → Prop
  | nil : RepP K F [] []
  | cons {d e : D} {v u : V} {ds : List D} {ps : List (V × V)} : Rep K F d v → Rep K F e u → RepP K F ds ps → RepP K F (d :: e :: ds) ((v, u) :: ps)
theorem RepP.mono {K : FK} {F G : Hp} (s : Same F G) : ∀ {ds : List D} {ps : List (V × V)}, RepP K F ds ps → RepP K G ds ps
  | _, _, .nil => .nil
  | _, _, .cons a b c => .cons (a.mono s) (b.mono s) (RepP.mono s c)
theorem kv_of {K : FK} {F : Hp} : ∀ {ds : List D} {ps : List (V × V)} {kvs : List (Key × D)}, RepP K F ds ps → kvL ds = some kvs → ∃ us : List (Key × V), ps = us.map (fun kv => (kV kv.1, kv.2)) ∧ RepK K F kvs us
  | _, _, kvs, .nil, h => by
    cases h
    exact ⟨[], rfl, .nil⟩
  | _, _, kvs, @RepP.cons _ _ d e v u ds ps a b c, h => by
    have h : (match keyD d with
      | some q => (match kvL ds with
        | some kvs => some ((q, e) :: kvs)
        | none => none)
      | none => none) = some kvs := h
    cases hk : keyD d with
    | none => rw [hk] at h; cases h
    | some q =>
      rw [hk] at h
      cases hr : kvL ds with
      | none => rw [hr] at h; cases h
      | some r =>
        rw [hr] at h
        cases h
        obtain ⟨us, rfl, ru⟩ := kv_of c hr
        refine ⟨(q, u) :: us, ?_, .cons b ru⟩
        rw [key_of a hk]; rfl
theorem merge_rel {K : FK} {F : Hp} : ∀ (more : List (Key × D)) (us : List (Key × V)) (a : List (Key × D)) (b : List (Key × V)), RepK K F more us → RepK K F a b → RepK K F (mergeD a more) (mergeK b us)
  | _, _, _, _, .nil, h => h
  | _, _, a, b, @RepK.cons _ _ k d v ds vs r t, h => by
    show RepK K F (mergeD (putD a k d) ds) (mergeK (L2.putK b k v) vs)
    exact merge_rel ds vs _ _ t (h.put r)
structure DisOk (X : Cx) (Z F0 : Hp) (ks : List (Option Expr)) (vs : List Expr) (wa : WpA) : Prop where
  ex : ∃ trs, (∀ pos, PPs X pos ks vs trs) ∧ ks.all (·.isSome) = true ∧ ks.length = vs.length ∧ trs.length = ks.length ∧
    ∀ (Z' : Hp) (σ : VS) (H : Hp) (F : Hp) (δ : Dts) (S : Sto) (P : List D → Sto → Prop) (Q : List (V × V) → Hp → Prop), Same Z Z' → Same F0 F → RelS X.K F δ σ → RelH X.K Z' F S H → wa δ S P →
      (∀ F' H' S' ds ps, Same F F' → RelH X.K Z' F' S' H' → RepP X.K F' ds ps → ps.length = ks.length → P ds S' → Q ps H') → tPairs trs σ H Q
theorem dis_nil {X : Cx} {Z F0 : Hp} : DisOk X Z F0 [] [] (fun _ S P => P [] S) :=
  ⟨[], fun _ => pps_nil, rfl, rfl, rfl, fun Z' σ H F δ S P Q _ _ _ R w c => c F H S [] [] (Same.refl F) R .nil rfl w⟩
theorem dis_cons {X : Cx} {Z F0 : Hp} {pk pv : Expr} {ks : List (Option Expr)} {vs : List Expr} {wk wv : WpE} {wa : WpA} (hk : ∀ Z', Same Z Z' → PE X pk (LE X.K Z' F0 wk)) (hv : ∀ Z', Same Z Z' → PE X pv (LE X.K Z' F0 wv)) (h : DisOk X Z F0 ks vs wa) :
    DisOk X Z F0 (some pk :: ks) (pv :: vs) (fun δ S P => wk δ S fun x S1 => wv δ S1 fun y S2 => wa δ S2 fun xs S3 => P (x :: y :: xs) S3) := by
  obtain ⟨trs, pp, al, ln, lt, lift⟩ := h.ex
  have e1 : PE X pk (fun σ H Q => ∃ Z', Same Z Z' ∧ LE X.K Z' F0 wk σ H Q) := ⟨fun pins s σ H Q I ⟨Z', hz, q⟩ => (hk Z' hz).run pins s σ H Q I q⟩
  have e2 : PE X pv (fun σ H Q => ∃ Z', Same Z Z' ∧ LE X.K Z' F0 wv σ H Q) := ⟨fun pins s σ H Q I ⟨Z', hz, q⟩ => (hv Z' hz).run pins s σ H Q I q⟩
  refine ⟨_, fun pos => pps_cons e1 e2 (pp pos), by rw [List.all_cons, al]; rfl, by rw [List.length_cons, List.length_cons, ln], by rw [List.length_cons, List.length_cons, lt], ?_⟩
  intro Z' σ H F δ S P Q hz sf rs R w c
  refine ⟨Z', hz, F, δ, S, _, sf, rs, R, w, ?_⟩
  intro F1 H1 S1 x v s1 R1 rx w1
  refine ⟨Z', hz, F1, δ, S1, _, sf.trans s1, rs.mono s1, R1, w1, ?_⟩
  intro F2 H2 S2 y u s2 R2 ry w2
  refine lift Z' σ H2 F2 δ S2 _ _ hz (sf.trans (s1.trans s2)) (rs.mono (s1.trans s2)) R2 w2 ?_
  intro F3 H3 S3 ds ps s3 R3 rp len w3
  exact c F3 H3 S3 _ _ (s1.trans (s2.trans s3)) R3 (.cons (rx.mono (s2.trans s3)) (ry.mono s3) rp) (by rw [List.length_cons, List.length_cons, len]) w3
theorem RelH.unhideW {K : FK} {Z F : Hp} {S : Sto} {H : Hp} {p : Addr} {o u : HO} (R : RelH K (upd Z p o) F S H) : RelH K (upd Z p u) F S (upd H p u) := R.rehide
theorem dct_e {X : Cx} {Z F0 : Hp} {ks : List (Option Expr)} {vs : List Expr} {pos : Pos} {m : Bool} {wa : WpA} (h15 : ks.length ≤ 15) (h : DisOk X Z F0 ks vs wa) :
    PE X (.Dict ks vs pos) (LE X.K Z F0 fun δ S P => wa δ S fun ds S1 => ∃ kvs, kvL ds = some kvs ∧ nwD m (mergeD [] kvs) S1 P) := by
  obtain ⟨trs, pp, al, ln, lt, lift⟩ := h.ex
  have go : PE X (.Dict ks vs pos) (tDisp trs) := by
    cases ks with
    | nil =>
      cases vs with
      | cons _ _ => cases ln
      | nil =>
        have e := pp pos
        refine PE_imp pe_dnewK ?_
        intro σ H Q q p hp
        have z := q p hp
        cases trs with
        | nil =>
          obtain ⟨_, kvs, e2, _, z⟩ := z
          cases kvs with
          | nil =>
            have e3 : upd (upd H p (.dK [])) p (.dK (mergeK [] [])) = upd H p (.dK []) := upd_upd
            rw [e3] at z
            exact z
          | cons _ _ => cases e2
        | cons _ _ => cases lt
    | cons k0 kr => exact pe_disp (pp pos) al ln (List.cons_ne_nil _ _) h15
  refine PE_imp go ?_
  rintro σ H Q ⟨F, δ, S, P, sf, rs, rh, w, c⟩ p hp
  have hz := rh.hz hp
  refine lift (upd Z p (.dK [])) σ _ F δ S _ _ (same_upd hz) sf rs (rh.hide hp _) w ?_
  rintro F1 H1 S1 ds ps s1 R1 rp len ⟨kvs, e, w1⟩
  obtain ⟨us, rfl, ru⟩ := kv_of rp e
  refine ⟨(R1.hid p _ upd_same).2.2, us, rfl, by rw [List.length_map] at len; omega, ?_⟩
  have rm : RepK X.K F1 (mergeD [] kvs) (mergeK [] us) := merge_rel _ _ _ _ ru .nil
  have R2 : RelH X.K (upd Z p (.dK (mergeK [] us))) F1 S1 (upd H1 p (.dK (mergeK [] us))) := R1.rehide
  cases m with
  | true =>
    obtain ⟨n0, R3⟩ := R2.unhideS (c := .dct (mergeD [] kvs)) hz rm
    exact c F1 _ _ _ _ s1 R3 (.ref p) (w1 p n0)
  | false =>
    obtain ⟨s3, R3⟩ := R2.unhideF hz
    exact c _ _ S1 _ _ (s1.trans s3) R3 (.dct upd_same (rm.mono s3)) w1

theorem slr_form {N : List Str} {sc : Scope} {blk : Md} {m : Bool} {a : E} {pa : Expr} {st : Option Expr} {p3 pos : Pos} (h : chk N sc blk (.slr m a) (.Subscript pa (.Slice none none st p3) pos) = true) :
    ∃ k p1 p2, st = some (.UnaryOp .USub (.Constant (.int 1) k p1) p2) ∧ chk N sc blk a pa = true := by
  unfold chk at h
  split at h <;> simp_all
theorem sl2_form {N : List Str} {sc : Scope} {blk : Md} {m : Bool} {a : E} {pa : Expr} {st : Option Expr} {p3 pos : Pos} (h : chk N sc blk (.sl2 m a) (.Subscript pa (.Slice none none st p3) pos) = true) :
    ∃ k p1, st = some (.Constant (.int 2) k p1) ∧ chk N sc blk a pa = true := by
  unfold chk at h
  split at h <;> simp_all
theorem isi_form {N : List Str} {sc : Scope} {blk : Md} {t : TY} {a : E} {y : Str} {py pos : Pos} {ps : List Expr} {kw : List Keyword} (h : chk N sc blk (.isi t a) (.Call (.Name y py) ps kw pos) = true) :
    ∃ pa z pz, ps = [pa, .Name z pz] ∧ kw = [] ∧ (decide (y = ("isinstance" : Str)) && (glB sc y && (decide (z = Str.ofString t.nm) && (glB sc z && (tyOk t && (nst pa && chk N sc blk a pa)))))) = true := by
  cases ps with
  | nil => exact absurd h Bool.false_ne_true
  | cons pa r =>
    cases r with
    | nil => exact absurd h Bool.false_ne_true
    | cons q r2 =>
      cases r2 with
      | cons _ _ => cases q <;> exact absurd h Bool.false_ne_true
      | nil =>
        cases q with
        | Name z pz =>
          cases kw with
          | nil => exact ⟨pa, z, pz, rfl, rfl, h⟩
          | cons _ _ => exact absurd h Bool.false_ne_true
        | _ => exact absurd h Bool.false_ne_true
theorem isx_form {N : List Str} {sc : Scope} {blk : Md} {ct cs : List Str} {a : E} {y : Str} {py pos : Pos} {ps : List Expr} {kw : List Keyword} (h : chk N sc blk (.isx ct a cs) (.Call (.Name y py) ps kw pos) = true) :
    ∃ pa pc, ps = [pa, pc] ∧ kw = [] ∧ (blk.hot && (decide (y = ("isinstance" : Str)) && (glB sc y && (nst pa && (chk N sc blk a pa && chkC sc ct cs pc))))) = true := by
  cases ps with
  | nil => exact absurd h Bool.false_ne_true
  | cons pa r =>
    cases r with
    | nil => exact absurd h Bool.false_ne_true
    | cons q r2 =>
      cases r2 with
      | cons _ _ => cases kw <;> exact absurd h Bool.false_ne_true
      | nil =>
        cases kw with
        | nil => exact ⟨pa, q, rfl, rfl, h⟩
        | cons _ _ => exact absurd h Bool.false_ne_true
theorem cnt_form {N : List Str} {sc : Scope} {blk : Md} {a b : E} {pa : Expr} {nm : Str} {ap cp : Pos} {ps : List Expr} {kw : List Keyword} (h : chk N sc blk (.cnt a b) (.Call (.Attribute pa nm ap) ps kw cp) = true) :
    ∃ pb, ps = [pb] ∧ kw = [] ∧ (decide (nm = ("count" : Str)) && ((ap.endLine == cp.line) && (nCall pa && (nst pb && (chk N sc blk a pa && chk N sc blk b pb))))) = true := by
  cases ps with
  | nil => exact absurd h Bool.false_ne_true
  | cons q r =>
    cases r with
    | cons _ _ => exact absurd h Bool.false_ne_true
    | nil =>
      cases kw with
      | nil => exact ⟨q, rfl, rfl, h⟩
      | cons _ _ => exact absurd h Bool.false_ne_true
theorem dget_form {N : List Str} {sc : Scope} {blk : Md} {a b c : E} {pa : Expr} {nm : Str} {ap cp : Pos} {ps : List Expr} {kw : List Keyword} (h : chk N sc blk (.dget a b c) (.Call (.Attribute pa nm ap) ps kw cp) = true) :
    ∃ pb pc, ps = [pb, pc] ∧ kw = [] ∧ (decide (nm = ("get" : Str)) && ((ap.endLine == cp.line) && (nCall pa && (nst pb && (nst pc && (chk N sc blk a pa && (chk N sc blk b pb && chk N sc blk c pc))))))) = true := by
  match ps, kw, h with
  | [q, r], [], h => exact ⟨q, r, rfl, rfl, h⟩
theorem idx_form {N : List Str} {sc : Scope} {blk : Md} {a b : E} {pa : Expr} {nm : Str} {ap cp : Pos} {ps : List Expr} {kw : List Keyword} (h : chk N sc blk (.idx a b) (.Call (.Attribute pa nm ap) ps kw cp) = true) :
    ∃ pb, ps = [pb] ∧ kw = [] ∧ (decide (nm = ("index" : Str)) && ((ap.endLine == cp.line) && (nCall pa && (nst pb && (chk N sc blk a pa && chk N sc blk b pb))))) = true := by
  cases ps with
  | nil => exact absurd h Bool.false_ne_true
  | cons q r =>
    cases r with
    | cons _ _ => exact absurd h Bool.false_ne_true
    | nil =>
      cases kw with
      | nil => exact ⟨q, rfl, rfl, h⟩
      | cons _ _ => exact absurd h Bool.false_ne_true
theorem lrg1_form {N : List Str} {sc : Scope} {blk : Md} {m : Bool} {b : E} {y : Str} {py pos : Pos} {ps : List Expr} {kw : List Keyword} (h : chk N sc blk (.lrg1 m b) (.Call (.Name y py) ps kw pos) = true) :
    ∃ z pz pb pos2, ps = [.Call (.Name z pz) [pb] [] pos2] ∧ kw = [] ∧ (blk.cold && (decide (y = ("list" : Str)) && (glB sc y && (decide (z = ("range" : Str)) && (glB sc z && (nst pb && chk N sc blk b pb)))))) = true := by
  match ps, kw, h with
  | [.Call (.Name z pz) [pb] [] pos2], [], h => exact ⟨z, pz, pb, pos2, rfl, rfl, h⟩
theorem lrg2_form {N : List Str} {sc : Scope} {blk : Md} {m : Bool} {a b : E} {y : Str} {py pos : Pos} {ps : List Expr} {kw : List Keyword} (h : chk N sc blk (.lrg2 m a b) (.Call (.Name y py) ps kw pos) = true) :
    ∃ z pz pa pb pos2, ps = [.Call (.Name z pz) [pa, pb] [] pos2] ∧ kw = [] ∧ (blk.cold && (decide (y = ("list" : Str)) && (glB sc y && (decide (z = ("range" : Str)) && (glB sc z && (nst pa && (nst pb && (chk N sc blk a pa && chk N sc blk b pb)))))))) = true := by
  match ps, kw, h with
  | [.Call (.Name z pz) [pa, pb] [] pos2], [], h => exact ⟨z, pz, pa, pb, pos2, rfl, rfl, h⟩
mutual
theorem sE {X : Cx} {k : Nat} {Z F0 : Hp} {xq : XP} {blk : Md} (g : Gd X k Z F0 xq blk) : ∀ (e : E) (p : Expr), chk X.N X.env.scope blk e p = true → (∀ n ∈ nd e, n.ok (txOf X) k) → EOk X Z F0 p (w xq e)
  | .v i, p, h, _ => by
    cases p <;> first
      | exact absurd h Bool.false_ne_true
      | (obtain ⟨h1, h2, h3, h4⟩ := vis_ok h
         refine both_ok (PE_imp (pe_var h1 h2 h3 h4) ?_) (fun _ => rfl)
         rintro σ H Q ⟨F, δ, S, P, sf, rs, rh, ⟨d, e, w⟩, c⟩
         obtain ⟨v, ev, rv⟩ := rs.at_ i d e
         exact ⟨v, ev, same_ok rh rv w c⟩)
  | .cN, p, h, _ => by
    cases p <;> first
      | exact absurd h Bool.false_ne_true
      | skip
    rename_i c _ _
    cases c <;> first
      | exact absurd h Bool.false_ne_true
      | exact both_ok (cst_ok pe_non fun _ => .non) (fun _ => rfl)
  | .cB b, p, h, _ => by
    cases p <;> first
      | exact absurd h Bool.false_ne_true
      | skip
    rename_i c _ _
    cases c <;> first
      | exact absurd h Bool.false_ne_true
      | (obtain rfl := of_decide_eq_true h
         exact both_ok (cst_ok pe_bl fun _ => .bl _) (fun _ => rfl))
  | .cI b, p, h, _ => by
    cases p <;> first
      | exact absurd h Bool.false_ne_true
      | skip
    rename_i c _ _
    cases c <;> first
      | exact absurd h Bool.false_ne_true
      | (obtain rfl := of_decide_eq_true h
         exact both_ok (cst_ok pe_int fun _ => .int _) (fun _ => rfl))
  | .cS b, p, h, _ => by
    cases p <;> first
      | exact absurd h Bool.false_ne_true
      | skip
    rename_i c _ _
    cases c <;> first
      | exact absurd h Bool.false_ne_true
      | (obtain rfl := of_decide_eq_true h
         exact both_ok (cst_ok pe_str fun _ => .str _) (fun _ => rfl))
  | .gl x d, p, h, n => by
    cases p <;> first
      | exact absurd h Bool.false_ne_true
      | skip
    obtain ⟨h1, h2⟩ := and_t h
    obtain rfl := of_decide_eq_true h1
    obtain ⟨a, b⟩ := gl_ok h2
    obtain ⟨u, v, hm, rv, r⟩ := all_h n
    exact both_ok (cst_ok (pe_glob a hm rv b) r) (fun _ => rfl)
  | .bin o m a b, p, h, n => by
    cases p <;> first
      | exact absurd h Bool.false_ne_true
      | skip
    obtain ⟨h1, h⟩ := and_t h
    obtain ⟨h2, h3⟩ := and_t h
    obtain ⟨r, hr, l⟩ := bop_ok m h1
    exact both_ok (pe_bin hr l (sE g a _ h2 (all_l n)).1 (sE g b _ h3 (all_r n)).1) (fun _ => rfl)
  | .neg a, p, h, n => by
    cases p <;> first
      | exact absurd h Bool.false_ne_true
      | skip
    rename_i op q _
    cases op <;> first
      | exact absurd h Bool.false_ne_true
      | exact both_ok (un_ok (sE g a q h n).1 (fun z => pe_un un_neg z) negL) (fun _ => rfl)
  | .cmp o a b, p, h, n => by
    cases p <;> first
      | exact absurd h Bool.false_ne_true
      | skip
    rename_i pa ops cs pos
    match ops, cs, h with
    | [op], [pb], h =>
      obtain ⟨h0, h⟩ := and_t h
      obtain ⟨h1, h0⟩ := and_t h0
      have hmk : behindInMarks op pb = false := (Bool.not_eq_true' _).mp h0
      obtain ⟨h2, h3⟩ := and_t h
      obtain ⟨r, hr, l, _⟩ := cop_ok g.un h1
      have ha := (sE g a pa h2 (all_l n)).1
      have hb := (sE g b pb h3 (all_r n)).1
      refine ⟨PE_imp (pe_cmpR hr ha hb hmk) fun _ _ _ q => bin_lift l q, PT_imp (pt_cmpR hr ha hb hmk) ?_⟩
      rintro σ H Q ⟨F, δ, S, P, sf, rs, rh, w, c⟩
      refine bin_lift (Z := Z) (F0 := F0) l ⟨F, δ, S, isCmpTrue P, sf, rs, rh, w, ?_⟩
      rintro F' H' S' d v s R rd ⟨b, rfl, pb⟩
      cases rd
      exact ⟨b, rfl, c F' H' S' b s R pb⟩
  | .cmp2 o o2 a b c, p, h, n => by
    cases p <;> first
      | exact absurd h Bool.false_ne_true
      | skip
    rename_i pa ops cs pos
    match ops, cs, h with
    | [op, op2], [pb, pc], h =>
      obtain ⟨h1, h⟩ := and_t h
      obtain ⟨h2, h⟩ := and_t h
      obtain ⟨h2, hz⟩ := and_t h2
      obtain ⟨hz1, hz2⟩ := and_t hz
      obtain ⟨h3, h⟩ := and_t h
      obtain ⟨h4, h5⟩ := and_t h
      obtain ⟨r, hr, l, n12⟩ := cop_ok g.un h1
      obtain ⟨r2, hr2, l2, n34⟩ := cop_ok g.un h2
      obtain ⟨n3, n4⟩ := n34 ((Bool.not_eq_true' _).mp hz2)
      have ha := (sE g a pa h3 (all_l n)).1
      have hb := (sE g b pb h4 (all_l (all_r n))).1
      have hc := (sE g c pc h5 (all_r (all_r n))).1
      exact ⟨chain_e hr hr2 l l2 n3 n4 ha hb hc, chain_t hr hr2 l l2 n3 n4 ha hb hc⟩
  | .and_ es, p, h, n => by
    cases p <;> first
      | exact absurd h Bool.false_ne_true
      | skip
    rename_i o ps pos
    cases o with
    | Or => exact absurd h Bool.false_ne_true
    | And =>
      obtain ⟨_, h⟩ := and_t h
      obtain ⟨h1, h2⟩ := and_t h
      obtain ⟨a, b⟩ := (sEs g es ps h2 n).an (ne_of_chk h1) pos
      exact ⟨a, b.pt⟩
  | .or_ es, p, h, n => by
    cases p <;> first
      | exact absurd h Bool.false_ne_true
      | skip
    rename_i o ps pos
    cases o with
    | And => exact absurd h Bool.false_ne_true
    | Or =>
      obtain ⟨_, h⟩ := and_t h
      obtain ⟨h1, h2⟩ := and_t h
      obtain ⟨a, b⟩ := (sEs g es ps h2 n).or (ne_of_chk h1) pos
      exact ⟨a, b.pt⟩
  | .not_ a, p, h, n => by
    cases p <;> first
      | exact absurd h Bool.false_ne_true
      | skip
    rename_i op q _
    cases op <;> first
      | exact absurd h Bool.false_ne_true
      | exact ⟨not_e (sE g a q h n).1, not_t (sE g a q h n).2⟩
  | .ite t a b, p, h, n => by
    cases p <;> first
      | exact absurd h Bool.false_ne_true
      | skip
    obtain ⟨h1, h⟩ := and_t h
    obtain ⟨h2, h3⟩ := and_t h
    have it := sE g t _ h1 (all_l n)
    have ia := sE g a _ h2 (all_l (all_r n))
    have ib := sE g b _ h3 (all_r (all_r n))
    exact ⟨ite_e it.2 ia.1 ib.1, ite_t it.2 ia.2 ib.2⟩
  | .tup es, p, h, n => by
    cases p <;> first
      | exact absurd h Bool.false_ne_true
      | exact both_ok (tup_e (sEs g es _ h n).all) (fun _ => rfl)
  | .lst m es, p, h, n => by
    cases p <;> first
      | exact absurd h Bool.false_ne_true
      | exact both_ok (lst_e (sEs g es _ h n).all) (fun _ => rfl)
  | .dct m es, p, h, n => by
    cases p <;> first
      | exact absurd h Bool.false_ne_true
      | skip
    rename_i ks vs pos
    obtain ⟨h1, h2⟩ := and_t h
    have q := sD g es ks vs h2 n
    exact both_ok (dct_e (of_decide_eq_true h1) q) (fun _ => rfl)
  | .ix a i, p, h, n => by
    cases p <;> first
      | exact absurd h Bool.false_ne_true
      | skip
    obtain ⟨h1, h⟩ := and_t h
    obtain ⟨h2, h3⟩ := and_t h
    exact both_ok (ix_e g.un h1 (sE g a _ h2 (all_l n)).1 (sE g i _ h3 (all_r n)).1) (fun _ => rfl)
  | .sl m a lo hi, p, h, n => by
    cases p <;> first
      | exact absurd h Bool.false_ne_true
      | skip
    rename_i pa pi pos
    cases pi <;> first
      | exact absurd h Bool.false_ne_true
      | skip
    rename_i pl ph st pos2
    cases st with
    | some _ => exact absurd h Bool.false_ne_true
    | none =>
      obtain ⟨h1, h⟩ := and_t h
      obtain ⟨h2, h3⟩ := and_t h
      exact both_ok (sl_e (sE g a _ h1 (all_l n)).1 (sO g lo _ h2 (all_l (all_r n))) (sO g hi _ h3 (all_r (all_r n)))) (fun _ => rfl)
  | .slr m a, p, h, n => by
    cases p <;> first
      | exact absurd h Bool.false_ne_true
      | skip
    rename_i pa pi pos
    cases pi <;> first
      | exact absurd h Bool.false_ne_true
      | skip
    rename_i pl ph st pos2
    cases pl with
    | some _ => exact absurd h Bool.false_ne_true
    | none =>
      cases ph with
      | some _ => exact absurd h Bool.false_ne_true
      | none =>
        obtain ⟨k, p1, p2, rfl, h⟩ := slr_form h
        exact both_ok (slr_e (sE g a _ h n).1) (fun _ => rfl)
  | .sl2 m a, p, h, n => by
    cases p <;> first
      | exact absurd h Bool.false_ne_true
      | skip
    rename_i pa pi pos
    cases pi <;> first
      | exact absurd h Bool.false_ne_true
      | skip
    rename_i pl ph st pos2
    cases pl with
    | some _ => exact absurd h Bool.false_ne_true
    | none =>
      cases ph with
      | some _ => exact absurd h Bool.false_ne_true
      | none =>
        obtain ⟨k, p1, rfl, h⟩ := sl2_form h
        exact both_ok (sl2_e (sE g a _ h n).1) (fun _ => rfl)
  | .lrg1 m b, p, h, n => by
    cases p <;> first
      | exact absurd h Bool.false_ne_true
      | skip
    rename_i f ps kw pos
    cases f <;> first
      | exact absurd h Bool.false_ne_true
      | skip
    rename_i y py
    obtain ⟨z, pz, pb, pos2, rfl, rfl, h⟩ := lrg1_form h
    obtain ⟨h0, h⟩ := and_t h
    obtain ⟨h1, h⟩ := and_t h
    obtain ⟨h2, h⟩ := and_t h
    obtain ⟨h3, h⟩ := and_t h
    obtain ⟨h4, h⟩ := and_t h
    obtain ⟨h5, h6⟩ := and_t h
    obtain rfl := of_decide_eq_true h1
    obtain rfl := of_decide_eq_true h3
    exact both_ok (lrg1_e (g.calm h0) (gl_ok h2).1 (all_h n) (gl_ok h4).1 (all_h (all_t n)) (sE g b pb h6 (all_t (all_t n))).1 h5) (fun _ => rfl)
  | .lrg2 m a b, p, h, n => by
    cases p <;> first
      | exact absurd h Bool.false_ne_true
      | skip
    rename_i f ps kw pos
    cases f <;> first
      | exact absurd h Bool.false_ne_true
      | skip
    rename_i y py
    obtain ⟨z, pz, pa, pb, pos2, rfl, rfl, h⟩ := lrg2_form h
    obtain ⟨h0, h⟩ := and_t h
    obtain ⟨h1, h⟩ := and_t h
    obtain ⟨h2, h⟩ := and_t h
    obtain ⟨h3, h⟩ := and_t h
    obtain ⟨h4, h⟩ := and_t h
    obtain ⟨h5, h⟩ := and_t h
    obtain ⟨h6, h⟩ := and_t h
    obtain ⟨h7, h8⟩ := and_t h
    obtain rfl := of_decide_eq_true h1
    obtain rfl := of_decide_eq_true h3
    exact both_ok (lrg2_e (g.calm h0) (gl_ok h2).1 (all_h n) (gl_ok h4).1 (all_h (all_t n)) (sE g a pa h7 (all_l (all_t (all_t n)))).1 (sE g b pb h8 (all_r (all_t (all_t n)))).1 h5 h6) (fun _ => rfl)
  | .isi t a, p, h, n => by
    cases p <;> first
      | exact absurd h Bool.false_ne_true
      | skip
    rename_i f ps kw pos
    cases f <;> first
      | exact absurd h Bool.false_ne_true
      | skip
    rename_i y py
    obtain ⟨pa, z, pz, rfl, rfl, h⟩ := isi_form h
    obtain ⟨h1, h⟩ := and_t h
    obtain ⟨h2, h⟩ := and_t h
    obtain ⟨h3, h⟩ := and_t h
    obtain ⟨h4, h⟩ := and_t h
    obtain ⟨h5, h⟩ := and_t h
    obtain ⟨h7, h6⟩ := and_t h
    obtain rfl := of_decide_eq_true h1
    obtain rfl := of_decide_eq_true h3
    obtain ⟨a1, _⟩ := gl_ok h2
    obtain ⟨a2, _⟩ := gl_ok h4
    exact both_ok (isi_e a1 (all_h n) a2 (all_h (all_t n)) h5 h7 (sE g a pa h6 (all_t (all_t n))).1) (fun _ => rfl)
  | .call x sp es, p, h, n => by
    cases p <;> first
      | exact absurd h Bool.false_ne_true
      | skip
    rename_i f ps kw pos
    cases f <;> first
      | exact absurd h Bool.false_ne_true
      | skip
    rename_i y py
    cases kw with
    | cons _ _ => exact absurd h Bool.false_ne_true
    | nil =>
      obtain ⟨hcold, h⟩ := and_t h
      obtain ⟨h1, h⟩ := and_t h
      obtain ⟨h2, h3⟩ := and_t h
      obtain rfl := of_decide_eq_true h1
      obtain ⟨a, b⟩ := gl_ok h2
      have q := sEs g es ps h3 (all_t n)
      cases ps with
      | nil =>
        cases es with
        | nil => exact both_ok (call_e0 g hcold (all_h n) a b) (fun _ => rfl)
        | cons _ _ => exact absurd h3 Bool.false_ne_true
      | cons e r => exact both_ok (call_e g hcold (all_h n) a b q.st q.all) (fun _ => rfl)
  | .bi b m es, p, h, n => by
    cases p <;> first
      | exact absurd h Bool.false_ne_true
      | skip
    rename_i f ps kw pos
    cases f <;> first
      | exact absurd h Bool.false_ne_true
      | skip
    rename_i y py
    cases kw with
    | cons _ _ => exact absurd h Bool.false_ne_true
    | nil =>
      obtain ⟨h0, h⟩ := and_t h
      obtain ⟨h1, h⟩ := and_t h
      obtain ⟨h2, h⟩ := and_t h
      obtain ⟨h3, h4⟩ := and_t h
      have e1 := of_decide_eq_true h1
      subst e1
      obtain ⟨a, _⟩ := gl_ok h2
      have q := sEs g es ps h4 (all_t n)
      obtain ⟨r, hr, l⟩ := call_bi (X := X) (fun z => g.calm ((or_t' h0).resolve_right (fun y => by rw [z] at y; cases y))) g.gu g.un m
      have hf : (∃ id, (biV b).2 = .builtin id) ∨ ∃ T, (biV b).2 = .type T := by
        cases b <;> first
          | exact .inl ⟨_, rfl⟩
          | exact .inr ⟨_, rfl⟩
      exact both_ok (bi_e hf hr l a (all_h n) (biV_boot b) (biV_name b).1 (biV_name b).2 (ne_of_chk h3) q.st q.all) (fun _ => rfl)
  | .mt f a es, p, h, n => by
    cases p <;> first
      | exact absurd h Bool.false_ne_true
      | skip
    rename_i fn ps kw cp
    cases fn <;> first
      | exact absurd h Bool.false_ne_true
      | skip
    rename_i pa nm ap
    cases kw with
    | cons _ _ => exact absurd h Bool.false_ne_true
    | nil =>
      obtain ⟨h1, h⟩ := and_t h
      obtain ⟨h2, h⟩ := and_t h
      obtain ⟨h3, h⟩ := and_t h
      obtain ⟨h4, h⟩ := and_t h
      obtain ⟨h5, h6⟩ := and_t h
      have e1 := of_decide_eq_true h1
      subst e1
      have e4 := of_decide_eq_true h4
      have ia := (sE g a pa h5 (all_l n)).1
      have q := sEs g es ps h6 (all_r n)
      have one : ps.length = 1 → ∃ e, ps = [e] := fun z => by
        match ps, z with
        | [e], _ => exact ⟨e, rfl⟩
      cases f with
      | append =>
        obtain ⟨e, rfl⟩ := one (Option.some.inj e4).symm
        exact both_ok (mt_1 PySem.F.slot_list_append PySem.F.type_list_append mt_append (fun _ _ _ _ _ _ _ _ _ R rx rs w c => append_l R rx rs w c) ia q.all q.st.1 h2 h3) (fun _ => rfl)
      | extend =>
        obtain ⟨e, rfl⟩ := one (Option.some.inj e4).symm
        exact both_ok (mt_1 PySem.F.slot_list_extend PySem.F.type_list_extend mt_extend (fun _ _ _ _ _ _ _ _ _ R rx rs w c => extend_l R rx rs w c) ia q.all q.st.1 h2 h3) (fun _ => rfl)
      | pop =>
        have z : ps = [] := List.eq_nil_of_length_eq_zero (Option.some.inj e4).symm
        subst z
        cases es with
        | nil => exact both_ok (mt_0 PySem.F.slot_list_pop PySem.F.type_list_pop mt_pop (fun _ _ _ _ _ _ _ R rx w c => pop_l R rx w c) ia h2 h3) (fun _ => rfl)
        | cons _ _ => exact absurd h6 Bool.false_ne_true
      | reverse =>
        have z : ps = [] := List.eq_nil_of_length_eq_zero (Option.some.inj e4).symm
        subst z
        cases es with
        | nil => exact both_ok (mt_0 PySem.F.slot_list_reverse PySem.F.type_list_reverse mt_reverse (fun _ _ _ _ _ _ _ R rx w c => reverse_l R rx w c) ia h2 h3) (fun _ => rfl)
        | cons _ _ => exact absurd h6 Bool.false_ne_true
      | clear =>
        have z : ps = [] := List.eq_nil_of_length_eq_zero (Option.some.inj e4).symm
        subst z
        cases es with
        | nil => exact both_ok (mt_0 PySem.F.slot_list_clear PySem.F.type_list_clear mt_clear (fun _ _ _ _ _ _ _ R rx w c => clear_l R rx w c) ia h2 h3) (fun _ => rfl)
        | cons _ _ => exact absurd h6 Bool.false_ne_true
      | popAt => cases e4
      | insert =>
        have two : ∃ e e2, ps = [e, e2] := by
          match ps, e4 with
          | [e, e2], _ => exact ⟨e, e2, rfl⟩
        obtain ⟨e, e2, rfl⟩ := two
        exact both_ok (mt_2 PySem.F.slot_list_insert PySem.F.type_list_insert mt_insert (fun _ _ _ _ _ _ _ _ _ R rx rs w c => insert_l R rx rs w c) ia q.all q.st.1 q.st.2.1 h2 h3) (fun _ => rfl)
      | count => cases e4
      | index => cases e4
  | .lc m elt tg it ifs, p, h, n => by
    cases p <;> first
      | exact absurd h Bool.false_ne_true
      | skip
    rename_i pe gens scope pos
    match gens, h with
    | [⟨ptg, piter, pifs, asy⟩], h =>
      obtain ⟨hcold, h⟩ := and_t h
      obtain ⟨h1, h⟩ := and_t h
      obtain ⟨h2, h⟩ := and_t h
      obtain ⟨h3, h⟩ := and_t h
      obtain ⟨h4, h⟩ := and_t h
      obtain ⟨h5, h⟩ := and_t h
      obtain ⟨h6, h⟩ := and_t h
      obtain ⟨h7, h8⟩ := and_t h
      have e1 : asy = 0 := of_decide_eq_true h1
      subst e1
      have ok := blkOk_by h3
      have B : ∀ (Z' F' : Hp) (s : Shared) (H : Hp) (C : Addr) (cl : List (Str × Addr)) (fp : List Addr), Gd (X.blk s H scope (compEnvC scope cl C X.env) fp) k Z' F' XP0 .bk := fun Z' F' s H C cl fp => g.blk hcold Z' F' s H scope C cl fp
      have it_ := sI g it ptg piter h2 (all_l (all_r n))
      have hg : ∀ (s : Shared) (H : Hp) (C : Addr) (cl : List (Str × Addr)) (fp : List Addr), PG (X.blk s H scope (compEnvC scope cl C X.env) fp) ptg (gR X.K tg) := fun s H C cl fp => own_ok (B Z F0 s H C cl fp) tg ptg h5
      have he : ∀ (s : Shared) (H : Hp) (C : Addr) (cl : List (Str × Addr)) (fp : List Addr), PE (X.blk s H scope (compEnvC scope cl C X.env) fp) pe (fun σ H Q => ∃ Z F0, LE X.K Z F0 (w XP0 elt).e σ H Q) := by
        intro s H C cl fp
        refine ⟨fun pins s1 σ H1 Q I q => ?_⟩
        obtain ⟨Z', F', q⟩ := q
        exact (sE (B Z' F' s H C cl fp) elt pe h6 (all_l n)).1.run pins s1 σ H1 Q I q
      have ht : ∀ (s : Shared) (H : Hp) (C : Addr) (cl : List (Str × Addr)) (fp : List Addr), PTs (X.blk s H scope (compEnvC scope cl C X.env) fp) pifs (fun σ H Q => ∃ Z F0, LT X.K Z F0 (ws XP0 ifs).ifs σ H Q) := by
        intro s H C cl fp
        refine ⟨fun pins s1 σ H1 Q I q => ?_⟩
        obtain ⟨Z', F', q⟩ := q
        exact ((sEs (B Z' F' s H C cl fp) ifs pifs h8 (all_r (all_r n))).ifs (of_decide_eq_true h7)).run pins s1 σ H1 Q I q
      refine both_ok (PE_imp (pe_lc (g.calm hcold) g.nd it_ ok hg ht he (fold_ok h4)) ?_) (fun _ => rfl)
      intro σ H Q q
      exact lc_lift (own_snd _ _) (fun Z F0 σ H Q z => ⟨Z, F0, z⟩) (fun Z F0 σ H Q z => ⟨Z, F0, z⟩) q
  | .cnt a b, p, h, n => by
    cases p <;> first
      | exact absurd h Bool.false_ne_true
      | skip
    rename_i fn ps kw cp
    cases fn <;> first
      | exact absurd h Bool.false_ne_true
      | skip
    rename_i pa nm ap
    obtain ⟨pb, rfl, rfl, h⟩ := cnt_form h
    obtain ⟨h1, h⟩ := and_t h
    obtain ⟨h2, h⟩ := and_t h
    obtain ⟨h3, h⟩ := and_t h
    obtain ⟨h4, h⟩ := and_t h
    obtain ⟨h5, h6⟩ := and_t h
    obtain rfl := of_decide_eq_true h1
    exact both_ok (cnt_e g.un (sE g a pa h5 (all_l n)).1 (sE g b pb h6 (all_r n)).1 h4 h2 h3) (fun _ => rfl)
  | .dget a b c, p, h, n => by
    cases p <;> first
      | exact absurd h Bool.false_ne_true
      | skip
    rename_i fn ps kw cp
    cases fn <;> first
      | exact absurd h Bool.false_ne_true
      | skip
    rename_i pa nm ap
    obtain ⟨pb, pc, rfl, rfl, h⟩ := dget_form h
    obtain ⟨h1, h⟩ := and_t h
    obtain ⟨h2, h⟩ := and_t h
    obtain ⟨h3, h⟩ := and_t h
    obtain ⟨h4, h⟩ := and_t h
    obtain ⟨h5, h⟩ := and_t h
    obtain ⟨h6, h⟩ := and_t h
    obtain ⟨h7, h8⟩ := and_t h
    obtain rfl := of_decide_eq_true h1
    exact both_ok (dget_e g.un (sE g a pa h6 (all_l n)).1 (sE g b pb h7 (all_l (all_r n))).1 (sE g c pc h8 (all_r (all_r n))).1 h4 h5 h2 h3) (fun _ => rfl)
  | .idx a b, p, h, n => by
    cases p <;> first
      | exact absurd h Bool.false_ne_true
      | skip
    rename_i fn ps kw cp
    cases fn <;> first
      | exact absurd h Bool.false_ne_true
      | skip
    rename_i pa nm ap
    obtain ⟨pb, rfl, rfl, h⟩ := idx_form h
    obtain ⟨h1, h⟩ := and_t h
    obtain ⟨h2, h⟩ := and_t h
    obtain ⟨h3, h⟩ := and_t h
    obtain ⟨h4, h⟩ := and_t h
    obtain ⟨h5, h6⟩ := and_t h
    obtain rfl := of_decide_eq_true h1
    exact both_ok (idx_e g.un (sE g a pa h5 (all_l n)).1 (sE g b pb h6 (all_r n)).1 h4 h2 h3) (fun _ => rfl)
  | .isx ct a cs, p, h, n => by
    cases p <;> first
      | exact absurd h Bool.false_ne_true
      | skip
    rename_i f ps kw pos
    cases f <;> first
      | exact absurd h Bool.false_ne_true
      | skip
    rename_i y py
    obtain ⟨pa, pc, rfl, rfl, h⟩ := isx_form h
    obtain ⟨h0, h⟩ := and_t h
    obtain ⟨h1, h⟩ := and_t h
    obtain ⟨h2, h⟩ := and_t h
    obtain ⟨h3, h⟩ := and_t h
    obtain ⟨h4, h5⟩ := and_t h
    obtain rfl := of_decide_eq_true h1
    exact both_ok (isx_e g (hot_is h0) (gl_ok h2).1 (all_h n) h3 (sE g a pa h4 (all_t n)).1 h5) (fun _ => rfl)
  | .fld ct a f, p, h, n => by
    cases p <;> first
      | exact absurd h Bool.false_ne_true
      | skip
    obtain ⟨h0, h⟩ := and_t h
    obtain ⟨h1, h⟩ := and_t h
    obtain ⟨h2, h3⟩ := and_t h
    obtain rfl := of_decide_eq_true h1
    exact both_ok (fld_e g (hot_is h0) (all_h n) h2 (sE g a _ h3 (all_t n)).1) (fun _ => rfl)
  | .callh x sp es, p, h, n => by
    cases p <;> first
      | exact absurd h Bool.false_ne_true
      | skip
    rename_i f ps kw pos
    cases f <;> first
      | exact absurd h Bool.false_ne_true
      | skip
    rename_i y py
    cases kw with
    | cons _ _ => exact absurd h Bool.false_ne_true
    | nil =>
      obtain ⟨h0, h⟩ := and_t h
      obtain ⟨h1, h⟩ := and_t h
      obtain ⟨h2, h⟩ := and_t h
      obtain ⟨h4, h3⟩ := and_t h
      obtain rfl := of_decide_eq_true h1
      obtain ⟨a, b⟩ := gl_ok h2
      have q := sEs g es ps h3 (all_t n)
      cases ps with
      | nil => exact absurd h4 Bool.false_ne_true
      | cons e r => exact both_ok (callh_e g (hot_is h0) (all_h n) a b q.st q.all) (fun _ => rfl)
  | .frz a, p, h, n => by
    have q := sE g a p h n
    refine ⟨PE_imp q.1 ?_, q.2⟩
    rintro σ H Q ⟨F, δ, S, P, sf, rs, rh, w, c⟩
    refine ⟨F, δ, S, _, sf, rs, rh, w, ?_⟩
    intro F1 H1 S1 d v s1 R1 r1 w1
    have c1 := c.mono s1
    cases d with
    | ref a =>
      have w1 : frzC a (S1 a) S1 P := w1
      cases r1
      cases e : S1 a with
      | none => rw [e] at w1; exact absurd w1 id
      | some ce =>
        rw [e] at w1
        obtain ⟨o, ho, cr, s2, R2⟩ := R1.freeze e
        cases ce with
        | lst ds =>
          obtain ⟨vs, rfl, r⟩ := cr.lst
          exact c1 _ H1 _ _ _ s2 R2 (.lst upd_same r) w1
        | dct ds =>
          obtain ⟨vs, rfl, r⟩ := cr.dct
          exact c1 _ H1 _ _ _ s2 R2 (.dct upd_same r) w1
    | _ => exact same_ok R1 r1 w1 c1
theorem sEs {X : Cx} {k : Nat} {Z F0 : Hp} {xq : XP} {blk : Md} (g : Gd X k Z F0 xq blk) : ∀ (es : Es) (ps : List Expr), chks X.N X.env.scope blk es ps = true → (∀ n ∈ nds es, n.ok (txOf X) k) → EsOk X Z F0 ps (ws xq es)
  | .nil, ps, h, _ => by
    cases ps with
    | nil =>
      refine ⟨trivial, pa_nil', fun z => absurd rfl z, fun z => absurd rfl z, fun _ => ⟨fun pins s σ H Q I q => pts_nil.run pins s σ H Q I ?_⟩⟩
      obtain ⟨F, δ, S, P, sf, rs, rh, w, c⟩ := q
      exact c F H S true (Same.refl F) rh w
    | cons _ _ => exact absurd h Bool.false_ne_true
  | .cons e .nil, ps, h, n => by
    match ps, h with
    | [p], h =>
      obtain ⟨h1, h⟩ := and_t h
      obtain ⟨h2, _⟩ := and_t h
      have q := sE g e p h2 (all_l n)
      exact ⟨⟨h1, trivial⟩, arg1 q.1 h1, fun _ pos => ⟨pe_one q.1, pw_and1 q.2⟩, fun _ pos => ⟨pe_one q.1, pw_or1 q.2⟩, fun _ => pts_one q.2⟩
    | p :: p2 :: r, h =>
      obtain ⟨h1, h⟩ := and_t h
      obtain ⟨_, h2⟩ := and_t h
      exact absurd h2 Bool.false_ne_true
  | .cons e (.cons e2 r), ps, h, n => by
    match ps, h with
    | [p], h =>
      obtain ⟨h1, h⟩ := and_t h
      obtain ⟨_, h2⟩ := and_t h
      exact absurd h2 Bool.false_ne_true
    | p :: p2 :: rs, h =>
      obtain ⟨h1, h⟩ := and_t h
      obtain ⟨h2, h3⟩ := and_t h
      have q := sE g e p h2 (all_l n)
      have qs := sEs g (.cons e2 r) (p2 :: rs) h3 (all_r n)
      refine ⟨⟨h1, qs.st⟩, pa_more q.1 qs.all h1, fun _ pos => ?_, fun _ pos => ?_, fun z => ?_⟩
      · obtain ⟨a, b⟩ := qs.an (List.cons_ne_nil _ _) pos
        exact ⟨an_e q.1 a, an_t q.2 b⟩
      · obtain ⟨a, b⟩ := qs.or (List.cons_ne_nil _ _) pos
        exact ⟨or_e q.1 a, or_t q.2 b⟩
      · rw [List.length_cons, List.length_cons] at z
        omega
theorem sD {X : Cx} {k : Nat} {Z F0 : Hp} {xq : XP} {blk : Md} (g : Gd X k Z F0 xq blk) : ∀ (es : Es) (ks : List (Option Expr)) (vs : List Expr), chkD X.N X.env.scope blk es ks vs = true → (∀ n ∈ nds es, n.ok (txOf X) k) → DisOk X Z F0 ks vs (ws xq es).all
  | .nil, ks, vs, h, _ => by
    cases ks with
    | cons _ _ => exact absurd h Bool.false_ne_true
    | nil =>
      cases vs with
      | cons _ _ => exact absurd h Bool.false_ne_true
      | nil => exact dis_nil
  | .cons _ .nil, ks, vs, h, _ => by
    cases ks <;> exact absurd h Bool.false_ne_true
  | .cons a (.cons b r), ks, vs, h, n => by
    match ks, vs, h with
    | some pk :: ks, pv :: vs, h =>
      obtain ⟨h1, h⟩ := and_t h
      obtain ⟨h2, h3⟩ := and_t h
      have e : (ws xq (.cons a (.cons b r))).all = fun δ S P => (w xq a).e δ S fun x S1 => (w xq b).e δ S1 fun y S2 => (ws xq r).all δ S2 fun xs S3 => P (x :: y :: xs) S3 := by
        cases r <;> rfl
      rw [e]
      exact dis_cons (fun Z' hz => (sE (g.less hz) a pk h1 (all_l n)).1) (fun Z' hz => (sE (g.less hz) b pv h2 (all_l (all_r n))).1) (sD g r ks vs h3 (all_r (all_r n)))
theorem sO {X : Cx} {k : Nat} {Z F0 : Hp} {xq : XP} {blk : Md} (g : Gd X k Z F0 xq blk) : ∀ (e : Eo) (p : Option Expr), chko X.N X.env.scope blk e p = true → (∀ n ∈ ndo e, n.ok (txOf X) k) → PO X p (LO X.K Z F0 (wo xq e))
  | .none, p, h, _ => by
    cases p with
    | none => exact po_n
    | some _ => exact absurd h Bool.false_ne_true
  | .some e, p, h, n => by
    cases p with
    | none => exact absurd h Bool.false_ne_true
    | some q => exact po_s (sE g e q h n).1
theorem sI {X : Cx} {k : Nat} {Z F0 : Hp} {xq : XP} {blk : Md} (g : Gd X k Z F0 xq blk) : ∀ (it : It') (tg p : Expr), chki X.N X.env.scope blk it tg p = true → (∀ n ∈ ndi it, n.ok (txOf X) k) → PI X tg p (LI X.K Z F0 (wi xq it))
  | .val a, tg, p, h, n => pi_val (sE g a p h n).1
  | .r1 a, tg, p, h, n => by
    cases p <;> first
      | exact absurd h Bool.false_ne_true
      | skip
    rename_i f ps kw pos
    cases f <;> first
      | exact absurd h Bool.false_ne_true
      | skip
    match ps, kw, h with
    | [pa], [], h =>
      obtain ⟨h1, h⟩ := and_t h
      obtain ⟨h2, h⟩ := and_t h
      obtain ⟨h3, h4⟩ := and_t h
      obtain rfl := of_decide_eq_true h1
      exact pi_r1 (gl_ok h2).1 (all_h n) (sE g a pa h4 (all_t n)).1 h3
  | .r2 a b, tg, p, h, n => by
    cases p <;> first
      | exact absurd h Bool.false_ne_true
      | skip
    rename_i f ps kw pos
    cases f <;> first
      | exact absurd h Bool.false_ne_true
      | skip
    match ps, kw, h with
    | [pa, pb], [], h =>
      obtain ⟨h1, h⟩ := and_t h
      obtain ⟨h2, h⟩ := and_t h
      obtain ⟨h3, h⟩ := and_t h
      obtain ⟨h4, h⟩ := and_t h
      obtain ⟨h5, h6⟩ := and_t h
      obtain rfl := of_decide_eq_true h1
      exact pi_r2 (gl_ok h2).1 (all_h n) (sE g a pa h5 (all_l (all_t n))).1 (sE g b pb h6 (all_r (all_t n))).1 h3 h4
  | .r3 a b c, tg, p, h, n => by
    cases p <;> first
      | exact absurd h Bool.false_ne_true
      | skip
    rename_i f ps kw pos
    cases f <;> first
      | exact absurd h Bool.false_ne_true
      | skip
    match ps, kw, h with
    | [pa, pb, pc], [], h =>
      obtain ⟨h1, h⟩ := and_t h
      obtain ⟨h2, h⟩ := and_t h
      obtain ⟨h3, h⟩ := and_t h
      obtain ⟨h4, h⟩ := and_t h
      obtain ⟨h5, h⟩ := and_t h
      obtain ⟨h6, h⟩ := and_t h
      obtain ⟨h7, h8⟩ := and_t h
      obtain rfl := of_decide_eq_true h1
      exact pi_r3 (gl_ok h2).1 (all_h n) (sE g a pa h6 (all_l (all_t n))).1 (sE g b pb h7 (all_l (all_r (all_t n)))).1 (sE g c pc h8 (all_r (all_r (all_t n)))).1 h3 h4 h5
  | .enum a, tg, p, h, n => by
    cases tg <;> first
      | exact absurd h Bool.false_ne_true
      | skip
    cases p <;> first
      | exact absurd h Bool.false_ne_true
      | skip
    rename_i f ps kw pos
    cases f <;> first
      | exact absurd h Bool.false_ne_true
      | skip
    match ps, kw, h with
    | [pa], [], h =>
      obtain ⟨h1, h⟩ := and_t h
      obtain ⟨h2, h⟩ := and_t h
      obtain ⟨h3, h4⟩ := and_t h
      obtain rfl := of_decide_eq_true h1
      exact pi_en (gl_ok h2).1 (all_h n) (sE g a pa h4 (all_t n)).1 h3
  | .zip a b, tg, p, h, n => by
    cases tg <;> first
      | exact absurd h Bool.false_ne_true
      | skip
    cases p <;> first
      | exact absurd h Bool.false_ne_true
      | skip
    rename_i f ps kw pos
    cases f <;> first
      | exact absurd h Bool.false_ne_true
      | skip
    match ps, kw, h with
    | [pa, pb], [], h =>
      obtain ⟨h1, h⟩ := and_t h
      obtain ⟨h2, h⟩ := and_t h
      obtain ⟨h3, h⟩ := and_t h
      obtain ⟨h4, h⟩ := and_t h
      obtain ⟨h5, h6⟩ := and_t h
      obtain rfl := of_decide_eq_true h1
      exact pi_zp (gl_ok h2).1 (all_h n) (sE g a pa h5 (all_l (all_t n))).1 (sE g b pb h6 (all_r (all_t n))).1 h3 h4
  | .rev a, tg, p, h, n => by
    cases p <;> first
      | exact absurd h Bool.false_ne_true
      | skip
    rename_i f ps kw pos
    cases f <;> first
      | exact absurd h Bool.false_ne_true
      | skip
    match ps, kw, h with
    | [pa], [], h =>
      obtain ⟨h1, h⟩ := and_t h
      obtain ⟨h2, h⟩ := and_t h
      obtain ⟨h3, h4⟩ := and_t h
      obtain rfl := of_decide_eq_true h1
      exact pi_rv (gl_ok h2).1 (all_h n) (sE g a pa h4 (all_t n)).1 h3
end
end GB

/-! GB14: soundness of statements, of defs. -/
namespace GB
open PySem PySem.Spec PyProof.Rows L2

/-! ### the stores' sides -/
theorem sw_ok {p : Expr} {t : Option Expr} {l : Nat} {env : Env} (h : nComp p = true) : swapsWith p t l env = pure false := by
  cases p <;> first
    | rfl
    | exact absurd h Bool.false_ne_true
theorem sw_ok2 {t p : Expr} {l : Nat} {env : Env} (h : noSw env.scope t p = true) : swapsWith p (some t) l env = pure false := by
  unfold noSw at h
  rcases Bool.or_eq_true_iff.mp h with h | h
  · exact sw_ok h
  · cases t with
    | Name x pos =>
      have hl : isLoc env.scope x = false := (Bool.not_eq_true' _).mp h
      have hk : (env.kindOf x == some .local) = false := by
        unfold isLoc at hl
        show (env.scope.names.lookup x == some .local) = false
        cases e : env.scope.names.lookup x with
        | none => rfl
        | some k =>
          rw [e] at hl
          cases k <;> first
            | rfl
            | cases hl
      have aux : ∀ a b c : Bool, pure (f := Sem) (a && (env.kindOf x == some NameKind.local) && b && c) = pure false := by
        intro a b c
        rw [hk, Bool.and_false, Bool.false_and, Bool.false_and]
      cases p <;> first
        | rfl
        | exact aux _ _ _
    | _ => cases p <;> rfl
theorem each_ok {t : Expr} {env : Env} (h : nst t = true) : (assignEach [t] env).map (·.2) = [assign t env] := by
  cases t <;> first
    | rfl
    | exact absurd h Bool.false_ne_true
/-- the name of a plain local on that line -/
def nmOf (env : Env) (line : Nat) : Expr → Option Str := fun e => match e with
  | .Name id pos => if env.kindOf id == some .local && pos.line == line then some id else none
  | _ => none
def isSt : Expr → Bool := fun e => match e with
  | .Starred .. => true
  | _ => false
theorem swNames_eq (env : Env) (line : Nat) : ∀ ts : List Expr, ts.filterMap (nmOf env line) = swNames env.scope line ts
  | [] => rfl
  | t :: ts => by
    rw [List.filterMap_cons]
    cases t <;> first
      | exact swNames_eq env line ts
      | skip
    rename_i id pos
    have e1 : nmOf env line (.Name id pos) = if (env.scope.names.lookup id == some .local && pos.line == line) = true then some id else none := rfl
    have e2 : swNames env.scope line (.Name id pos :: ts) = if (env.scope.names.lookup id == some .local && pos.line == line) = true then id :: swNames env.scope line ts else swNames env.scope line ts := rfl
    rw [e1, e2, swNames_eq env line ts]
    by_cases c : (env.scope.names.lookup id == some .local && pos.line == line) = true
    · rw [if_pos c, if_pos c]
    · rw [if_neg c, if_neg c]
theorem hd_eq : ∀ ts : List Expr, (ts.head?.map (·.pos.line)).getD 0 = hdLine ts
  | [] => rfl
  | _ :: _ => rfl
theorem isSt_none : ∀ {es : List Expr}, NStar es → es.any isSt = false
  | [], _ => rfl
  | e :: es, s => by
    rw [List.any_cons, isSt_none s.2]
    have := s.1
    cases e <;> first
      | rfl
      | exact absurd this Bool.false_ne_true
theorem swap_form (ts vs : List Expr) (k k2 : Nat) (q q2 : Pos) (env : Env) : swappedStores [.Tuple ts k q] (.Tuple vs k2 q2) env =
    (if (!(ts.length == 2 || ts.length == 3) || vs.length != ts.length || env.blockKind != .function) = true then pure none else
     if vs.any isSt = true then pure none else
     if ((ts.filterMap (nmOf env ((ts.head?.map (·.pos.line)).getD 0))).length != ts.length || (ts.filterMap (nmOf env ((ts.head?.map (·.pos.line)).getD 0))).eraseDups.length != (ts.filterMap (nmOf env ((ts.head?.map (·.pos.line)).getD 0))).length) = true then pure none else
     if vs.all (foldedForSure 8) = true then pure none else
     if vs.all (constantsAlone 8) = true then (do unsupported "assign.tuple-of-constant-expressions:order-of-the-stores"; pure (some (ts.filterMap (nmOf env ((ts.head?.map (·.pos.line)).getD 0))))) else
     pure (some (ts.filterMap (nmOf env ((ts.head?.map (·.pos.line)).getD 0))))) := by kernel_rfl
theorem noSwap_other {t p : Expr} {env : Env} (h : nTuple p = true ∨ (nTuple t = true ∧ ∀ ts q, t ≠ .List ts q)) : swappedStores [t] p env = pure none := by
  rcases h with h | ⟨h, h2⟩
  · by_cases ht : nTuple t = true
    · by_cases hl : ∃ ts q, t = .List ts q
      · obtain ⟨ts, q, rfl⟩ := hl
        cases p <;> first
          | rfl
          | exact absurd h Bool.false_ne_true
      · cases t <;> first
          | exact absurd ht Bool.false_ne_true
          | exact absurd ⟨_, _, rfl⟩ hl
          | rfl
    · have et : ∃ ts k q, t = .Tuple ts k q := by
        cases t <;> first
          | exact absurd rfl ht
          | exact ⟨_, _, _, rfl⟩
      obtain ⟨ts, k, q, rfl⟩ := et
      cases p <;> first
        | rfl
        | exact absurd h Bool.false_ne_true
  · cases t <;> first
      | exact absurd h Bool.false_ne_true
      | exact absurd rfl (h2 _ _)
      | rfl
theorem noSwap_ok {t p : Expr} {env : Env} (h : noSwap env.scope t p = true) : swappedStores [t] p env = pure none := by
  by_cases np : nTuple p = true
  · exact noSwap_other (.inl np)
  · have ep : ∃ vs k2 q2, p = .Tuple vs k2 q2 := by
      cases p <;> first
        | exact absurd rfl np
        | exact ⟨_, _, _, rfl⟩
    obtain ⟨vs, k2, q2, rfl⟩ := ep
    by_cases nt : nTuple t = true
    · refine noSwap_other (.inr ⟨nt, ?_⟩)
      rintro ts q rfl
      exact absurd h Bool.false_ne_true
    · have et : ∃ ts k q, t = .Tuple ts k q := by
        cases t <;> first
          | exact absurd rfl nt
          | exact ⟨_, _, _, rfl⟩
      obtain ⟨ts, k, q, rfl⟩ := et
      have h : (!(ts.length == 2 || ts.length == 3) || (vs.length != ts.length || ((swNames env.scope (hdLine ts) ts).length != ts.length || vs.all (foldedForSure 8)))) = true := h
      rw [swap_form, hd_eq, swNames_eq]
      by_cases a : (!(ts.length == 2 || ts.length == 3) || vs.length != ts.length || env.blockKind != .function) = true
      · rw [if_pos a]
      · rw [if_neg a]
        by_cases b : vs.any isSt = true
        · rw [if_pos b]
        · rw [if_neg b]
          by_cases c : ((swNames env.scope (hdLine ts) ts).length != ts.length || (swNames env.scope (hdLine ts) ts).eraseDups.length != (swNames env.scope (hdLine ts) ts).length) = true
          · rw [if_pos c]
          · rw [if_neg c]
            have d : vs.all (foldedForSure 8) = true := by
              rcases Bool.or_eq_true_iff.mp h with z | z
              · exact absurd (Bool.or_eq_true_iff.mpr (.inl (Bool.or_eq_true_iff.mpr (.inl z)))) a
              · rcases Bool.or_eq_true_iff.mp z with z | z
                · exact absurd (Bool.or_eq_true_iff.mpr (.inl (Bool.or_eq_true_iff.mpr (.inr z)))) a
                · rcases Bool.or_eq_true_iff.mp z with z | z
                  · exact absurd (Bool.or_eq_true_iff.mpr (.inl z)) c
                  · exact z
            rw [if_pos d]
theorem swap_ok {ts ps : List Expr} {k k2 : Nat} {q q2 : Pos} {env : Env} (hk : env.scope.kind = .function) (h1 : (ts.length == 2 || ts.length == 3) = true) (h2 : (ps.length == ts.length) = true) (st : NStar ps) (h3 : ((swNames env.scope (hdLine ts) ts).length == ts.length) = true)
    (h4 : ((swNames env.scope (hdLine ts) ts).eraseDups.length == ts.length) = true) (h5 : ps.all (constantsAlone 8) = false) (h6 : ps.all (foldedForSure 8) = false) :
    swappedStores [.Tuple ts k q] (.Tuple ps k2 q2) env = pure (some (swNames env.scope (hdLine ts) ts)) := by
  rw [swap_form, hd_eq, swNames_eq]
  have a : ¬ (!(ts.length == 2 || ts.length == 3) || ps.length != ts.length || env.blockKind != .function) = true := by
    have e : env.blockKind = .function := by unfold Env.blockKind; rw [hk]; rfl
    rw [h1, e, bne, h2]
    decide
  have e3 := eq_of_beq h3
  have e4 := eq_of_beq h4
  have c : ¬ ((swNames env.scope (hdLine ts) ts).length != ts.length || (swNames env.scope (hdLine ts) ts).eraseDups.length != (swNames env.scope (hdLine ts) ts).length) = true := by
    rw [e3, e4]
    simp
  rw [if_neg a, if_neg (by rw [isSt_none st]; exact Bool.false_ne_true), if_neg c, if_neg (by rw [h6]; exact Bool.false_ne_true), if_neg (by rw [h5]; exact Bool.false_ne_true)]

/-! ### names stored from the right -/
def parV : List Nat → List V → VS → VS
  | i :: is, d :: ds, σ => parV is ds (σ.set i (some d))
  | _, _, σ => σ
theorem parB_len {N : List Str} : ∀ {is : List Nat} {ns : List Str}, parB N is ns = true → is.length = ns.length
  | [], [], _ => rfl
  | [], _ :: _, h => absurd h Bool.false_ne_true
  | _ :: _, [], h => absurd h Bool.false_ne_true
  | i :: is, n :: ns, h => by
    obtain ⟨_, h2⟩ := and_t h
    rw [List.length_cons, List.length_cons, parB_len h2]
theorem parB_app {N : List Str} : ∀ {is js : List Nat} {ns ms : List Str}, parB N is ns = true → parB N js ms = true → parB N (is ++ js) (ns ++ ms) = true
  | [], _, [], _, _, h => h
  | i :: is, js, n :: ns, ms, h, h' => by
    obtain ⟨h1, h2⟩ := and_t h
    exact Bool.and_eq_true_iff.mpr ⟨h1, parB_app h2 h'⟩
theorem parB_rev {N : List Str} : ∀ {is : List Nat} {ns : List Str}, parB N is ns = true → parB N is.reverse ns.reverse = true
  | [], [], _ => rfl
  | i :: is, n :: ns, h => by
    obtain ⟨h1, h2⟩ := and_t h
    rw [List.reverse_cons, List.reverse_cons]
    exact parB_app (parB_rev h2) (Bool.and_eq_true_iff.mpr ⟨h1, rfl⟩)
theorem swNames_loc (sc : Scope) (line : Nat) : ∀ (ts : List Expr) (n : Str), n ∈ swNames sc line ts → sc.names.lookup n = some .local
  | [], n, h => nomatch h
  | t :: ts, n, h => by
    cases t <;> first
      | exact swNames_loc sc line ts n h
      | skip
    rename_i id pos
    have h : n ∈ (if (sc.names.lookup id == some .local && pos.line == line) = true then id :: swNames sc line ts else swNames sc line ts) := h
    by_cases c : (sc.names.lookup id == some .local && pos.line == line) = true
    · rw [if_pos c] at h
      rcases List.mem_cons.mp h with rfl | h
      · have z := (Bool.and_eq_true_iff.mp c).1
        cases q : sc.names.lookup n with
        | none => rw [q] at z; cases z
        | some kd =>
          rw [q] at z
          cases kd <;> first
            | rfl
            | cases z
      · exact swNames_loc sc line ts n h
    · rw [if_neg c] at h
      exact swNames_loc sc line ts n h
theorem inorder {X : Cx} {pins : List (Addr × Obj)} {H : Hp} (nd : X.N.Nodup) (is : List Nat) : ∀ (ns : List Str) (vs : List V) (us : List Value) (σ : VS) (s : Shared) (Q : Unit → Shared → Prop), parB X.N is ns = true → (∀ n ∈ ns, X.env.scope.names.lookup n = some .local) →
    Vals vs us → vs.length = is.length → Inv X pins σ H s → (∀ s', Inv X pins (parV is vs σ) H s' → Q () s') → wpAny (model X.prog X.w) X.A (assignInOrder (ns.map fun n => fun v => bindName X.env n v) us) Q X.xe s := by
  induction is with
  | nil =>
    intro ns vs us σ s Q h hl r len I q
    have e1 : ns = [] := List.eq_nil_of_length_eq_zero (parB_len h).symm
    have e2 : vs = [] := List.eq_nil_of_length_eq_zero len
    subst e1 e2
    cases r
    exact assignInOrder_nil (q s I)
  | cons i is ih =>
    intro ns vs us σ s Q h hl r len I q
    have e1 := parB_len h
    cases ns with
    | nil => cases e1
    | cons n ns =>
      cases r with
      | nil => cases len
      | cons r1 r2 =>
        obtain ⟨h1, h2⟩ := and_t h
        have ln := hl n List.mem_cons_self
        refine assignInOrder_cons (wpAny_bindName (store_ok I nd (in_ok h1) (.inl ln) r1 (fun s2 I2 => ?_) (.inr ln)))
        exact ih ns _ _ _ s2 Q h2 (fun m hm => hl m (List.mem_cons_of_mem _ hm)) r2 (Nat.succ.inj len) I2 q
theorem ps_parG {X : Cx} {is : List Nat} {ns : List Str} {ts ps : List Expr} {ta : TA} {k k2 : Nat} {q q2 pos : Pos} (hc : X.calm = true) (nd : X.N.Nodup) (ha : PA X ps ta) (hp : parB X.N is ns = true) (hl : ∀ n ∈ ns, X.env.scope.names.lookup n = some .local)
    (hw : swappedStores [.Tuple ts k q] (.Tuple ps k2 q2) X.env = pure (some ns)) (few : ns.length ≤ 3) :
    PS X (.Assign [.Tuple ts k q] (.Tuple ps k2 q2) pos) (fun D σ H => ta σ H fun vs H1 => vs.length = is.length ∧ D.nx (parV is.reverse vs.reverse σ) H1) := by
  refine ⟨fun pins s σ H D I h => ?_⟩
  rw [exec_Assign_arm]
  refine wpAny_bind (wpAny_standAt ?_)
  have e0 : swapsWithSole [.Tuple ts k q] (.Tuple ps k2 q2) pos.line X.env = pure false := rfl
  rw [e0]
  refine wpAny_bind (wpAny_pure ?_)
  rw [if_neg (by decide)]
  refine wpAny_bind (Tuple_ (thn (ha.run _ pins s σ H _ I h) ?_))
  rintro us s1 ⟨vs, H1, I1, r1, len, q1⟩
  have lu := r1.length
  have ln := parB_len hp
  refine wpAny_newObj_type ?_ ?_
  · rw [hw]
    refine wpAny_bind (wpAny_pure ?_)
    have I2 : Inv X pins σ H1 { s1 with heap := s1.heap.push { cls := .type "tuple", data := .seq us.toArray } } := I1.kept (t' := s1.toks) fun b o e => Heap.get?_push_of_some _ e
    show wpAny (model X.prog X.w) X.A (do rule "assign.swapped-stores"; let items ← unpackItems (.ref s1.heap.objs.size) ns.length none; assignInOrder (ns.reverse.map fun n => fun v => bindName X.env n v) items.reverse; pure Flow.next) _ _ _
    have e1 : ns.length = us.toArray.size := by
      rw [List.size_toArray]
      omega
    rw [e1]
    refine wpAny_bind (wpAny_rule (wpAny_bind (unpackItems_tuple (items := us.toArray) (I.ok.hd hc) (IsTup.new s1.heap _) fun h' hx => ?_)))
    have I3 := I2.kept (h' := h') (t' := s1.toks) fun b o e => hx b o (Nat.ne_of_lt (Heap.lt_size e)) e
    refine wpAny_bind (inorder nd is.reverse ns.reverse vs.reverse _ σ _ _ (parB_rev hp) (fun n hn => hl n (List.mem_reverse.mp hn)) r1.reverse (by rw [List.length_reverse, List.length_reverse]; exact len) I3 ?_)
    intro s' I4
    exact wpAny_pure ⟨_, H1, I4, q1⟩
  · show us.length ≤ sizeLine
    have : us.length ≤ 3 := by omega
    exact Nat.le_trans this (by decide)

/-! ### statements -/
theorem sub_form {o i : Expr} {pos : Pos} {env : Env} (h : nSlice i = true) : ∀ v, assign (.Subscript o i pos) env v = (do
      let ov ← holding [v] (eval o env)
      let iv ← holding [v, ov] (eval i env)
      standAt pos
      holding [v, ov, iv] (setItem ov iv v)
      release [v, ov, iv] []) := by
  intro v
  cases i <;> first
    | rfl
    | exact absurd h Bool.false_ne_true
section
variable {X : Cx} {Z F0 : Hp}
/-- a store into a list or a dict -/
def rSetD : TSet := fun o i v H Q => ∃ p y, o = .ref p ∧ ∃ H', DPut H p i v H' ∧ y = i ∧ Q H'
theorem set_dict (hu : X.A.units + 1 < cLine) : PSet X rSetD := by
  intro pins s σ H o i v ov iv u Q I ro ri rv h
  obtain ⟨p, y, rfl, H', g, _, q⟩ := h
  cases ro
  exact d_setItem hu I g ri rv fun s' I' => ⟨H', I', q⟩
theorem set_or {t t' : TSet} (h : PSet X t) (h' : PSet X t') : PSet X (fun o i v H Q => t o i v H Q ∨ t' o i v H Q) := by
  intro pins s σ H o i v ov iv u Q I ro ri rv q
  rcases q with q | q
  · exact h pins s σ H o i v ov iv u Q I ro ri rv q
  · exact h' pins s σ H o i v ov iv u Q I ro ri rv q
theorem setL {K : FK} {F : Hp} {S : Sto} {H : Hp} {x y z : D} {o i v : V} {P : Sto → Prop} {Q : Hp → Prop} (R : RelH K Z F S H) (rx : Rep K F x o) (ry : Rep K F y i) (rz : Rep K F z v) (w : setD x y z S P)
    (c : ∀ S' H', RelH K Z F S' H' → P S' → Q H') : rSetL o i v H Q ∨ rSetD o i v H Q := by
  cases x with
  | ref p =>
    have w : setC p (S p) y z S P := w
    cases rx
    cases e : S p with
    | none => rw [e] at w; exact absurd w id
    | some ce =>
      rw [e] at w
      obtain ⟨_, ho, hp, cr⟩ := R.st p _ e
      cases ce with
      | lst ds =>
        obtain ⟨k, j, rfl, hj, w⟩ := w
        obtain ⟨vs, rfl, r⟩ := cr.lst
        cases ry
        have rn : RepL K F (ds.set j z) (vs.set j v) := r.set rz j
        exact .inl ⟨p, vs, k, j, rfl, rfl, hp, by rw [← r.length]; exact hj, c _ _ (R.write (c' := .lst (ds.set j z)) e rn) w⟩
      | dct ds =>
        obtain ⟨k, hk, hl, w⟩ := w
        obtain ⟨vs, rfl, r⟩ := cr.dct
        obtain rfl := key_of ry hk
        have rn : RepK K F (putD ds k z) (L2.putK vs k v) := RepK.put r rz
        exact .inr ⟨p, _, rfl, _, DPut.k hp (by rw [← r.length]; exact hl), rfl, c _ _ (R.write (c' := .dct (putD ds k z)) e rn) w⟩
  | _ => exact absurd w id
theorem par_rel {K : FK} {F : Hp} : ∀ (is : List Nat) (ds : List D) (vs : List V) (δ : Dts) (σ : VS), RelS K F δ σ → RepL K F ds vs → RelS K F (parD is ds δ) (parV is vs σ)
  | [], _, _, _, _, h, .nil => h
  | [], _, _, _, _, h, .cons _ _ => h
  | _ :: _, _, _, _, _, h, .nil => h
  | i :: is, _, _, _, _, h, .cons r t => par_rel is _ _ _ _ (h.set r i) t
theorem par_rev {is : List Nat} {ds : List D} {δ : Dts} (nd : is.Nodup) (h1 : ds.length = is.length) (h2 : is.length = 2 ∨ is.length = 3) : parD is.reverse ds.reverse δ = parD is ds δ := by
  rcases h2 with h2 | h2
  · match is, ds, h1, h2 with
    | [i, j], [a, b], _, _ =>
      have ne : i ≠ j := fun e => by simp [e] at nd
      show ((δ.set j (some b)).set i (some a)) = ((δ.set i (some a)).set j (some b))
      exact List.set_comm _ _ (Ne.symm ne)
  · match is, ds, h1, h2 with
    | [i, j, l], [a, b, c], _, _ =>
      simp only [List.nodup_cons, List.mem_cons, List.mem_singleton, not_or, List.not_mem_nil, not_false_eq_true, and_true] at nd
      obtain ⟨⟨n1, n2⟩, n3, _⟩ := nd
      show (((δ.set l (some c)).set j (some b)).set i (some a)) = (((δ.set i (some a)).set j (some b)).set l (some c))
      rw [List.set_comm (some c) (some b) (Ne.symm n3), List.set_comm (some c) (some a) (Ne.symm n2), List.set_comm (some b) (some a) (Ne.symm n1)]
end

theorem Cs.nx_of {K : FK} {Z F : Hp} {P : Dts → Sto → Prop} {Q : VS → Hp → Prop} (c : Cs K Z F P Q) {S : Sto} {H : Hp} {δ : Dts} {σ : VS} (rs : RelS K F δ σ) (R : RelH K Z F S H) (p : P δ S) : Q σ H := c F H S δ σ (Same.refl F) rs R p

theorem par_inv {N : List Str} {sc : Scope} {md : Md} {is : List Nat} {es : Es} {tgs : List Expr} {q : Expr} {pos : Pos} (h : chkS N sc md (.par is es) (.Assign tgs q pos) = true) : ∃ ts k1 q1 ps k2 q2, tgs = [.Tuple ts k1 q1] ∧ q = .Tuple ps k2 q2 := by
  cases tgs with
  | nil => exact absurd h Bool.false_ne_true
  | cons t0 r =>
    cases t0 with
    | Tuple ts k1 q1 =>
      cases r with
      | nil =>
        cases q with
        | Tuple ps k2 q2 => exact ⟨_, _, _, _, _, _, rfl, rfl⟩
        | _ => exact absurd h Bool.false_ne_true
      | cons _ _ => exact absurd h Bool.false_ne_true
    | _ => exact absurd h Bool.false_ne_true
theorem asgB_inv {N : List Str} {sc : Scope} {md : Md} {i : Nat} {m : Bool} {elt : E} {tg : G} {it : It'} {ifs : Es} {tgs : List Expr} {q : Expr} {pos : Pos} (h : asgB N sc md i (.lc m elt tg it ifs) (.Assign tgs q pos) = true) :
    ∃ x px pe ptg piter pifs asy scope cpos, tgs = [.Name x px] ∧ q = .ListComp pe [⟨ptg, piter, pifs, asy⟩] scope cpos := by
  cases tgs with
  | nil => exact absurd h Bool.false_ne_true
  | cons t0 r =>
    cases t0 with
    | Name x px =>
      cases r with
      | nil =>
        cases q with
        | ListComp pe gens scope cpos =>
          cases gens with
          | nil => exact absurd h Bool.false_ne_true
          | cons c r =>
            cases r with
            | nil =>
              obtain ⟨c1, c2, c3, c4⟩ := c
              exact ⟨_, _, _, _, _, _, _, _, _, rfl, rfl⟩
            | cons _ _ => exact absurd h Bool.false_ne_true
        | _ => exact absurd h Bool.false_ne_true
      | cons _ _ => exact absurd h Bool.false_ne_true
    | _ => exact absurd h Bool.false_ne_true
theorem setI_inv {N : List Str} {sc : Scope} {md : Md} {a i e : E} {tgs : List Expr} {q : Expr} {pos : Pos} (h : chkS N sc md (.setI a i e) (.Assign tgs q pos) = true) : ∃ pa pi ps, tgs = [.Subscript pa pi ps] := by
  cases tgs with
  | nil => exact absurd h Bool.false_ne_true
  | cons t0 r =>
    cases t0 with
    | Subscript pa pi ps =>
      cases r with
      | nil => exact ⟨_, _, _, rfl⟩
      | cons _ _ => exact absurd h Bool.false_ne_true
    | _ => exact absurd h Bool.false_ne_true
theorem noSwap_subs {a b c d : Expr} {p1 p2 pos q : Pos} {k k2 : Nat} {vs : List Expr} {env : Env} : swappedStores [.Tuple [.Subscript a b p1, .Subscript c d p2] k pos] (.Tuple vs k2 q) env = pure none := by
  unfold swappedStores
  simp only [bind_pure_comp, pure_bind]
  split
  · rfl
  · split
    · rfl
    · rfl
theorem swp_inv {N : List Str} {sc : Scope} {md : Md} {a i b j e : E} {tgs : List Expr} {q : Expr} {pos : Pos} (h : chkS N sc md (.swp a i b j e) (.Assign tgs q pos) = true) :
    ∃ pa pi ps pb pj ps2 k p vs k2 q2, tgs = [.Tuple [.Subscript pa pi ps, .Subscript pb pj ps2] k p] ∧ q = .Tuple vs k2 q2 ∧ (md.cold && (nSlice pi && (nSlice pj && (chk N sc md a pa && (chk N sc md i pi && (chk N sc md b pb && (chk N sc md j pj && chk N sc md e (.Tuple vs k2 q2)))))))) = true := by
  match tgs, q, h with
  | [.Tuple [.Subscript pa pi ps, .Subscript pb pj ps2] k p], .Tuple vs k2 q2, h => exact ⟨pa, pi, ps, pb, pj, ps2, k, p, vs, k2, q2, rfl, rfl, h⟩
theorem df_is {m : Md} (h : m.isDf = true) : m = .df := by cases m <;> first | rfl | cases h
theorem raise_form {N : List Str} {sc : Scope} {md : Md} {c : Str} {es : Es} {a b : Option Expr} {pos : Pos} (h : chkS N sc md (.raise_ c es) (.Raise a b pos) = true) : ∃ y py ps cp, a = some (.Call (.Name y py) ps [] cp) ∧ b = none ∧
    (md.isDf && (decide (y = c) && (glB sc y && (!ps.isEmpty && chks N sc md es ps)))) = true := by
  cases a with
  | none => exact absurd h Bool.false_ne_true
  | some e =>
    cases e with
    | Call f ps kw cp =>
      cases f with
      | Name y py =>
        cases kw with
        | nil =>
          cases b with
          | none => exact ⟨_, _, _, _, rfl, rfl, h⟩
          | some _ => exact absurd h Bool.false_ne_true
        | cons _ _ => exact absurd h Bool.false_ne_true
      | _ => exact absurd h Bool.false_ne_true
    | _ => exact absurd h Bool.false_ne_true
theorem try_form {N : List Str} {sc : Scope} {md : Md} {ct : List Str} {b : Sms} {hs : Hds} {body oe fin : List Stmt} {hds : List ExceptHandler} {pos : Pos} (h : chkS N sc md (.try_ ct b hs) (.Try body hds oe fin pos) = true) : oe = [] ∧ fin = [] ∧
    (md.isDf && (!hds.isEmpty && (chkSs N sc md b body && chkH N sc ct hs hds))) = true := by
  cases oe with
  | nil =>
    cases fin with
    | nil => exact ⟨rfl, rfl, h⟩
    | cons _ _ => exact absurd h Bool.false_ne_true
  | cons _ _ => exact absurd h Bool.false_ne_true
theorem hd_form0 {N : List Str} {sc : Scope} {ct : List Str} {c : Str} {su : Sms} {r : Hds} {hds : List ExceptHandler} (h : chkH N sc ct (.cons c none su r) hds = true) : ∃ y np body pos hds2, hds = .ExceptHandler (some (.Name y np)) none body pos :: hds2 ∧
    ((decide (y = c) && (glB sc y && ct.contains c)) && (!body.isEmpty && (chkSs N sc .ht su body && chkH N sc ct r hds2))) = true := by
  cases hds with
  | nil => exact absurd h Bool.false_ne_true
  | cons a hds2 =>
    obtain ⟨t, nm, body, pos⟩ := a
    cases t with
    | none => exact absurd h Bool.false_ne_true
    | some e =>
      cases e with
      | Name y np =>
        cases nm with
        | none => exact ⟨_, _, _, _, _, rfl, h⟩
        | some _ => exact absurd h Bool.false_ne_true
      | _ => exact absurd h Bool.false_ne_true
theorem hd_form1 {N : List Str} {sc : Scope} {ct : List Str} {c : Str} {i : Nat} {su : Sms} {r : Hds} {hds : List ExceptHandler} (h : chkH N sc ct (.cons c (some i) su r) hds = true) : ∃ y np nm body pos hds2, hds = .ExceptHandler (some (.Name y np)) (some nm) body pos :: hds2 ∧
    ((decide (y = c) && (glB sc y && ct.contains c)) && ((inB N i nm && isLoc sc nm) && (!body.isEmpty && (chkSs N sc .ht su body && chkH N sc ct r hds2)))) = true := by
  cases hds with
  | nil => exact absurd h Bool.false_ne_true
  | cons a hds2 =>
    obtain ⟨t, nm, body, pos⟩ := a
    cases t with
    | none => exact absurd h Bool.false_ne_true
    | some e =>
      cases e with
      | Name y np =>
        cases nm with
        | some nm => exact ⟨_, _, _, _, _, _, rfl, h⟩
        | none => exact absurd h Bool.false_ne_true
      | _ => exact absurd h Bool.false_ne_true
theorem takes_no {X : Cx} {K : FK} {mg : MG} {Z F0 : Hp} {h : Option (Addr × Ex)} : Takes X (LX K mg Z F0 ⟨fun _ _ _ => False, h⟩) := by
  refine Takes.imp takes0 ?_
  rintro c d σ H ⟨_, _, _, _, _, _, _, _, z⟩
  exact z
/-- an except suite -/
theorem Gd.suite {X : Cx} {k : Nat} {Z F0 : Hp} {xq : XP} (g : Gd X k Z F0 xq .df) {a : Addr} {oe : Obj} {cls : Value} {d : Option Addr} {pn : List (Addr × Obj)} {F : Hp} {x : Ex} (hz : Zc cls d oe) (hf : ∃ vs, oe.data = .fields vs) (xr : XRep X.K X.mg F x cls d) :
    Gd (X.suite a ((a, oe) :: pn)) k Z F ⟨fun _ _ _ => False, some (a, x)⟩ .ht :=
  ⟨g.nd, fun h => (nomatch h), fun h => (nomatch h), ⟨g.rh.dp, g.rh.un⟩, g.gu, takes_no, PassesOwn.never, fun _ => g.fn rfl, fun _ => ⟨a, x, rfl, ⟨oe, cls, d, List.mem_cons_self, hz, hf, xr⟩⟩, fun h => (nomatch h)⟩
mutual
theorem sS {X : Cx} {k : Nat} {Z F0 : Hp} {xq : XP} {md : Md} (g : Gd X k Z F0 xq md) (hk : X.env.scope.kind = .function) : ∀ (e : Sm) (p : Stmt), chkS X.N X.env.scope md e p = true → (∀ n ∈ nS e, n.ok (txOf X) k) → PS X p (LS X.K Z F0 (wS xq e))
  | .asg t e, p, h, n => by
    cases p with
    | Assign ts q pos =>
      match ts, h with
      | [tg], h =>
        obtain ⟨h1, h⟩ := and_t h
        obtain ⟨h2, h⟩ := and_t h
        obtain ⟨h3, h⟩ := and_t h
        obtain ⟨h4, h5⟩ := and_t h
        refine PS_imp (ps_asg (sE g e q h5 n).1 (g_ok g t tg h2) (show swapsWithSole [tg] q pos.line X.env = pure false from sw_ok2 h3) (noSwap_ok h4) (each_ok h1)) ?_
        rintro E σ H ⟨F, δ, S, P, sf, rs, rh, w, cn, cr, cb, cc⟩
        refine ⟨F, δ, S, _, sf, rs, rh, w, ?_⟩
        intro F1 H1 S1 d v s1 R1 r1 w1
        refine gR_of R1 t d v _ _ _ r1 (rs.mono s1) w1 ?_
        intro δ' σ' rs' _ _ q
        exact cn F1 H1 S1 δ' σ' s1 rs' R1 q
    | _ => exact absurd h Bool.false_ne_true
  | .par is es, p, h, n => by
    cases p with
    | Assign tgs q pos =>
      obtain ⟨ts, k1, q1, ps, k2, q2, rfl, rfl⟩ := par_inv h
      obtain ⟨hcold, h⟩ := and_t h
      obtain ⟨h1, h⟩ := and_t h
      obtain ⟨h2, h⟩ := and_t h
      obtain ⟨h3, h⟩ := and_t h
      obtain ⟨h4, h⟩ := and_t h
      obtain ⟨h5, h⟩ := and_t h
      obtain ⟨h6, h⟩ := and_t h
      obtain ⟨h7, h⟩ := and_t h
      obtain ⟨h8, h9⟩ := and_t h
      have qs := sEs g es ps h9 n
      have len := parB_len h3
      have e4 := eq_of_beq h4
      have two : is.length = 2 ∨ is.length = 3 := by
        rw [len, e4]
        rcases or_t' h1 with z | z
        · exact .inl (eq_of_beq z)
        · exact .inr (eq_of_beq z)
      refine PS_imp (ps_parG (g.calm hcold) g.nd qs.all h3 (swNames_loc _ _ ts) (swap_ok hk h1 h2 qs.st h4 h6 (not_t' h7) (not_t' h8)) (by omega)) ?_
      rintro E σ H ⟨F, δ, S, P, sf, rs, rh, w, cn, cr, cb, cc⟩
      refine ⟨F, δ, S, _, sf, rs, rh, w, ?_⟩
      rintro F1 H1 S1 ds vs s1 R1 r1 ⟨hl, w1⟩
      refine ⟨by rw [← r1.length]; exact hl, ?_⟩
      refine cn F1 H1 S1 _ _ s1 (par_rel is.reverse _ _ _ _ (rs.mono s1) r1.rev) R1 ?_
      rw [par_rev (of_decide_eq_true h5) hl two]
      exact w1
    | _ => exact absurd h Bool.false_ne_true
  | .asgL i e, p, h, n => by
    replace h : asgB X.N X.env.scope md i e p = true := h
    match e, h with
    | .lc m elt tg it ifs, h =>
    cases p with
    | Assign tgs q pos =>
      obtain ⟨x, px, pe, ptg, piter, pifs, asy, scope, cpos, rfl, rfl⟩ := asgB_inv h
      obtain ⟨i1, h⟩ := and_t h
      obtain ⟨i2, h⟩ := and_t h
      obtain ⟨i3, h⟩ := and_t h
      obtain ⟨i4, h⟩ := and_t h
      obtain ⟨hcold, h⟩ := and_t h
      obtain ⟨h1, h⟩ := and_t h
      obtain ⟨h2, h⟩ := and_t h
      obtain ⟨h3, h⟩ := and_t h
      obtain ⟨h4, h⟩ := and_t h
      obtain ⟨h5, h⟩ := and_t h
      obtain ⟨h6, h⟩ := and_t h
      obtain ⟨h7, h8⟩ := and_t h
      have e1 : asy = 0 := of_decide_eq_true h1
      subst e1
      have ok := blkOk_by h3
      have B : ∀ (Z' F' : Hp) (s : Shared) (H : Hp) (C : Addr) (cl : List (Str × Addr)) (fp : List Addr), Gd (X.blk s H scope (compEnvC scope cl C X.env) fp) k Z' F' XP0 .bk := fun Z' F' s H C cl fp => g.blk hcold Z' F' s H scope C cl fp
      have it_ := sI g it ptg piter h2 (all_l (all_r n))
      have hg : ∀ (s : Shared) (H : Hp) (C : Addr) (cl : List (Str × Addr)) (fp : List Addr), PG (X.blk s H scope (compEnvC scope cl C X.env) fp) ptg (gR X.K tg) := fun s H C cl fp => own_ok (B Z F0 s H C cl fp) tg ptg h5
      have he : ∀ (s : Shared) (H : Hp) (C : Addr) (cl : List (Str × Addr)) (fp : List Addr), PE (X.blk s H scope (compEnvC scope cl C X.env) fp) pe (fun σ H Q => ∃ Z F0, LE X.K Z F0 (w XP0 elt).e σ H Q) := by
        intro s H C cl fp
        refine ⟨fun pins s1 σ H1 Q I q => ?_⟩
        obtain ⟨Z', F', q⟩ := q
        exact (sE (B Z' F' s H C cl fp) elt pe h6 (all_l n)).1.run pins s1 σ H1 Q I q
      have ht : ∀ (s : Shared) (H : Hp) (C : Addr) (cl : List (Str × Addr)) (fp : List Addr), PTs (X.blk s H scope (compEnvC scope cl C X.env) fp) pifs (fun σ H Q => ∃ Z F0, LT X.K Z F0 (ws XP0 ifs).ifs σ H Q) := by
        intro s H C cl fp
        refine ⟨fun pins s1 σ H1 Q I q => ?_⟩
        obtain ⟨Z', F', q⟩ := q
        exact ((sEs (B Z' F' s H C cl fp) ifs pifs h8 (all_r (all_r n))).ifs (of_decide_eq_true h7)).run pins s1 σ H1 Q I q
      have sw := sw_true (elt := pe) (gs := [⟨ptg, piter, pifs, 0⟩]) (pos := cpos) (l := pos.line) hk (isLoc_ok i2) i3 (not_t' i4)
      refine PS_imp (ps_setLc (g.calm hcold) g.nd (in_ok i1) (isLoc_ok i2) sw it_ ok hg ht he (fold_ok h4)) ?_
      rintro E σ H ⟨F, δ, S, P, sf, rs, rh, w, cn, cr, cb, cc⟩
      refine lc_lift (Z := Z) (F0 := F0) (own_snd _ _) (fun Z F0 σ H Q z => ⟨Z, F0, z⟩) (fun Z F0 σ H Q z => ⟨Z, F0, z⟩) ⟨F, δ, S, _, sf, rs, rh, w, ?_⟩
      intro F1 H1 S1 d v s1 R1 r1 w1
      exact cn F1 H1 S1 _ _ s1 ((rs.mono s1).set r1 i) R1 w1
    | _ => exact absurd h Bool.false_ne_true
  | .swp a i b j e, p, h, n => by
    cases p with
    | Assign ts q pos =>
      obtain ⟨pa, pi, ps, pb, pj, ps2, kk, pp, vs, k2, q2, rfl, rfl, h⟩ := swp_inv h
      obtain ⟨hc, h⟩ := and_t h
      obtain ⟨h0, h⟩ := and_t h
      obtain ⟨h1, h⟩ := and_t h
      obtain ⟨h2, h⟩ := and_t h
      obtain ⟨h3, h⟩ := and_t h
      obtain ⟨h4, h⟩ := and_t h
      obtain ⟨h5, h6⟩ := and_t h
      have hu := g.un
      have g1 := pg_sub (pos := ps) (sE g a pa h2 (all_l n)).1 (sE g i pi h3 (all_l (all_r n))).1 (set_or set_list (set_dict (by omega))) (sub_form h0)
      have g2 := pg_sub (pos := ps2) (sE g b pb h4 (all_l (all_r (all_r n)))).1 (sE g j pj h5 (all_l (all_r (all_r (all_r n))))).1 (set_or set_list (set_dict (by omega))) (sub_form h1)
      have gt := pg_tup (k := kk) (pos := pp) (n := 2) (g.calm hc) (pgs_cons g1 (pgs_cons g2 pgs_nil)) rfl rfl
      refine PS_imp (ps_asg (sE g e _ h6 (all_r (all_r (all_r (all_r n))))).1 gt (sw_ok (p := .Tuple vs k2 q2) (t := some (.Tuple [.Subscript pa pi ps, .Subscript pb pj ps2] kk pp)) (l := pos.line) (env := X.env) rfl) noSwap_subs rfl) ?_
      rintro E σ H ⟨F, δ, S, P, sf, rs, rh, w, cn, cr, cb, cc⟩
      refine ⟨F, δ, S, _, sf, rs, rh, w, ?_⟩
      rintro F1 H1 S1 d dv s1 R1 rd ⟨u, v, rfl, w1⟩
      obtain ⟨p, us, rfl, hp, rr⟩ := rd.tup_
      cases rr with
      | cons ru rr =>
      cases rr with
      | cons rv rr =>
      cases rr
      refine ⟨p, _, rfl, sqT_mono R1.fz hp, rfl, ?_⟩
      refine ⟨_, _, rfl, F1, δ, S1, _, sf.trans s1, rs.mono s1, R1, w1, ?_⟩
      intro F2 H2 S2 x xv s2 R2 rx w2
      refine ⟨F2, δ, S2, _, sf.trans (s1.trans s2), rs.mono (s1.trans s2), R2, w2, ?_⟩
      intro F3 H3 S3 y yv s3 R3 ry w3
      have s13 := s1.trans (s2.trans s3)
      refine setL R3 (rx.mono s3) ry (ru.mono (s2.trans s3)) w3 ?_
      intro S4 H4 R4 w4
      refine ⟨_, _, rfl, F3, δ, S4, _, sf.trans s13, rs.mono s13, R4, w4, ?_⟩
      intro F5 H5 S5 x2 xv2 s5 R5 rx2 w5
      refine ⟨F5, δ, S5, _, sf.trans (s13.trans s5), rs.mono (s13.trans s5), R5, w5, ?_⟩
      intro F6 H6 S6 y2 yv2 s6 R6 ry2 w6
      have s16 := s13.trans (s5.trans s6)
      refine setL R6 (rx2.mono s6) ry2 (rv.mono ((s2.trans s3).trans (s5.trans s6))) w6 ?_
      intro S7 H7 R7 w7
      refine ⟨rfl, ?_⟩
      exact cn F6 H7 S7 _ _ s16 (rs.mono s16) R7 w7
    | _ => exact absurd h Bool.false_ne_true
  | .setI a i e, p, h, n => by
    cases p with
    | Assign ts q pos =>
      obtain ⟨pa, pi, ps, rfl⟩ := setI_inv h
      obtain ⟨h0, h⟩ := and_t h
      obtain ⟨h1, h⟩ := and_t h
      obtain ⟨h2, h⟩ := and_t h
      obtain ⟨h3, h4⟩ := and_t h
      have hu := g.un
      refine PS_imp (ps_asg (sE g e q h4 (all_r (all_r n))).1 (pg_sub (sE g a pa h2 (all_l n)).1 (sE g i pi h3 (all_l (all_r n))).1 (set_or set_list (set_dict (by omega))) (sub_form h0)) (sw_ok (t := some (.Subscript pa pi ps)) (l := pos.line) (env := X.env) h1) (noSwap_other (.inr ⟨rfl, nofun⟩)) rfl) ?_
      rintro E σ H ⟨F, δ, S, P, sf, rs, rh, w, cn, cr, cb, cc⟩
      refine ⟨F, δ, S, _, sf, rs, rh, w, ?_⟩
      intro F1 H1 S1 z zv s1 R1 rz w1
      refine ⟨F1, δ, S1, _, sf.trans s1, rs.mono s1, R1, w1, ?_⟩
      intro F2 H2 S2 x xv s2 R2 rx w2
      refine ⟨F2, δ, S2, _, sf.trans (s1.trans s2), rs.mono (s1.trans s2), R2, w2, ?_⟩
      intro F3 H3 S3 y yv s3 R3 ry w3
      refine setL R3 (rx.mono s3) ry (rz.mono (s2.trans s3)) w3 ?_
      intro S4 H4 R4 p4
      exact cn F3 H4 S4 _ _ (s1.trans (s2.trans s3)) (rs.mono (s1.trans (s2.trans s3))) R4 p4
    | _ => exact absurd h Bool.false_ne_true
  | .ex e, p, h, n => by
    cases p with
    | Expr q pos =>
      obtain ⟨h1, h2⟩ := and_t h
      refine PS_imp (ps_expr (sE g e _ h2 n).1 (sw_ok h1)) ?_
      rintro E σ H ⟨F, δ, S, P, sf, rs, rh, w, cn, cr, cb, cc⟩
      refine ⟨F, δ, S, _, sf, rs, rh, w, ?_⟩
      intro F1 H1 S1 d v s1 R1 r1 w1
      exact cn F1 H1 S1 _ _ s1 (rs.mono s1) R1 w1
    | _ => exact absurd h Bool.false_ne_true
  | .ite t a b, p, h, n => by
    cases p with
    | If pt pa pb pos =>
      obtain ⟨h1, h⟩ := and_t h
      obtain ⟨h2, h3⟩ := and_t h
      refine PS_imp (ps_if (sE g t _ h1 (all_l n)).2 (sSs g hk a _ h2 (all_l (all_r n))) (sSs g hk b _ h3 (all_r (all_r n)))) ?_
      rintro E σ H ⟨F, δ, S, P, sf, rs, rh, w, cn, cr, cb, cc⟩
      refine ⟨F, δ, S, _, sf, rs, rh, w, ?_⟩
      intro F1 H1 S1 k s1 R1 w1
      cases k with
      | true =>
        rw [if_pos rfl] at w1 ⊢
        exact ⟨F1, δ, S1, P, sf.trans s1, rs.mono s1, R1, w1, cn.mono s1, cr.mono s1, cb.mono s1, cc.mono s1⟩
      | false =>
        rw [if_neg Bool.false_ne_true] at w1 ⊢
        exact ⟨F1, δ, S1, P, sf.trans s1, rs.mono s1, R1, w1, cn.mono s1, cr.mono s1, cb.mono s1, cc.mono s1⟩
    | _ => exact absurd h Bool.false_ne_true
  | .for_ t it b, p, h, n => by
    cases p with
    | For tg iter body els pos =>
      match els, h with
      | [], h =>
        obtain ⟨hcold, h⟩ := and_t h
        obtain ⟨h0, h⟩ := and_t h
        obtain ⟨h1, h⟩ := and_t h
        obtain ⟨h2, h3⟩ := and_t h
        refine PS_imp (ps_for g.po (g.calm hcold) (sI g it tg iter h2 (all_l n)) (g_ok g t tg h1) (sSs g hk b body h3 (all_r n)) (fold_ok h0)) ?_
        rintro E σ H ⟨F, δ, S, P, sf, rs, rh, w, cn, cr, cb, cc⟩
        refine ⟨F, δ, S, _, sf, rs, rh, w, ?_⟩
        intro F1 H1 S1 J ds src s1 R1 beh hs w1
        refine ⟨fun i m σ H => m = ds.length - i ∧ i ≤ ds.length ∧ ∃ F δ S, Same F1 F ∧ RelS X.K F δ σ ∧ RelH X.K Z F S H ∧ src S ∧ wFor t (wSs xq b) src P (ds.drop i) δ S,
          ⟨_, rfl, Nat.zero_le _, F1, δ, S1, Same.refl _, rs.mono s1, R1, hs, w1⟩, ?_⟩
        rintro i m σ2 H2 ⟨rfl, hi, F2, δ2, S2, s2, rs2, R2, hs2, w2⟩
        obtain ⟨b1, b2⟩ := beh i Z F2 H2 S2 s2 R2 hs2
        by_cases hlt : i < ds.length
        · right
          obtain ⟨d, hd⟩ : ∃ d, ds[i]? = some d := ⟨ds[i], List.getElem?_eq_getElem hlt⟩
          have ed : ds.drop i = d :: ds.drop (i + 1) := by
            rw [List.drop_eq_getElem_cons hlt]
            rw [List.getElem?_eq_getElem hlt] at hd
            cases hd; rfl
          rw [ed] at w2
          obtain ⟨go, yl⟩ := b1 d hd
          refine ⟨go, fun σ' H' => (i + 1 ≤ ds.length ∧ ∃ F δ S, Same F1 F ∧ RelS X.K F δ σ' ∧ RelH X.K Z F S H' ∧ src S ∧ wFor t (wSs xq b) src P (ds.drop (i + 1)) δ S),
            fun σ' H' h => ⟨ds.length - (i + 1), by omega, rfl, h⟩, ?_⟩
          intro x H' y
          obtain ⟨F3, s3, R3, rx⟩ := yl x H' y
          refine gR_of R3 t d x _ _ _ rx (rs2.mono s3) w2 ?_
          intro δ4 σ4 rs4 _ _ w4
          have s13 := s1.trans (s2.trans s3)
          refine ⟨F3, δ4, S2, _, sf.trans s13, rs4, R3, w4, ?_, cr.mono s13, cn.mono s13, ?_⟩
          · rintro F5 H5 S5 δ5 σ5 s5 rs5 R5 ⟨hs5, w5⟩
            exact ⟨by omega, F5, δ5, S5, s2.trans (s3.trans s5), rs5, R5, hs5, w5⟩
          · rintro F5 H5 S5 δ5 σ5 s5 rs5 R5 ⟨hs5, w5⟩
            exact ⟨by omega, F5, δ5, S5, s2.trans (s3.trans s5), rs5, R5, hs5, w5⟩
        · left
          have e : i = ds.length := by omega
          subst e
          refine ⟨b2 (Nat.le_refl _), ?_⟩
          rw [List.drop_length] at w2
          exact cn F2 H2 S2 δ2 σ2 (s1.trans s2) rs2 R2 w2
    | _ => exact absurd h Bool.false_ne_true
  | .wh t b, p, h, n => by
    cases p with
    | While tst body els pos =>
      match els, h with
      | [], h =>
        obtain ⟨h1, h2⟩ := and_t h
        refine PS_imp (ps_while g.po (sE g t tst h1 (all_l n)).2 (sSs g hk b body h2 (all_r n))) ?_
        rintro E σ H ⟨F, δ, S, P, sf, rs, rh, ⟨m0, w0⟩, cn, cr, cb, cc⟩
        refine ⟨fun m σ H => ∃ F1 δ S, Same F F1 ∧ RelS X.K F1 δ σ ∧ RelH X.K Z F1 S H ∧ wWh (w xq t).t (wSs xq b) P m δ S, ⟨m0, F, δ, S, Same.refl F, rs, rh, w0⟩, ?_⟩
        rintro m σ1 H1 ⟨F1, δ1, S1, s1, rs1, R1, w1⟩
        cases m with
        | zero => exact absurd w1 id
        | succ m =>
          refine ⟨F1, δ1, S1, _, sf.trans s1, rs1, R1, w1, ?_⟩
          intro F2 H2 S2 k s2 R2 w2
          cases k with
          | true =>
            rw [if_pos rfl] at w2 ⊢
            refine ⟨fun σ' H' => ∃ F3 δ S, Same F F3 ∧ RelS X.K F3 δ σ' ∧ RelH X.K Z F3 S H' ∧ wWh (w xq t).t (wSs xq b) P m δ S, fun σ' H' h => ⟨m, Nat.lt_succ_self m, h⟩, ?_⟩
            have s12 := s1.trans s2
            refine ⟨F2, δ1, S2, _, sf.trans s12, rs1.mono s2, R2, w2, ?_, cr.mono s12, cn.mono s12, ?_⟩
            · intro F3 H3 S3 δ3 σ3 s3 rs3 R3 w3
              exact ⟨F3, δ3, S3, s12.trans s3, rs3, R3, w3⟩
            · intro F3 H3 S3 δ3 σ3 s3 rs3 R3 w3
              exact ⟨F3, δ3, S3, s12.trans s3, rs3, R3, w3⟩
          | false =>
            rw [if_neg Bool.false_ne_true] at w2 ⊢
            exact cn F2 H2 S2 δ1 σ1 (s1.trans s2) (rs1.mono s2) R2 w2
    | _ => exact absurd h Bool.false_ne_true
  | .ret e, p, h, n => by
    cases p with
    | Return v pos =>
      cases v with
      | none => exact absurd h Bool.false_ne_true
      | some q =>
        refine PS_imp (ps_ret (sE g e q h n).1) ?_
        rintro E σ H ⟨F, δ, S, P, sf, rs, rh, w, cn, cr, cb, cc⟩
        refine ⟨F, δ, S, _, sf, rs, rh, w, ?_⟩
        intro F1 H1 S1 d v s1 R1 r1 w1
        exact cr F1 H1 S1 _ _ s1 R1 r1 w1
    | _ => exact absurd h Bool.false_ne_true
  | .retN, p, h, n => by
    cases p with
    | Return v pos =>
      cases v with
      | some _ => exact absurd h Bool.false_ne_true
      | none =>
        refine PS_imp ps_retN ?_
        rintro E σ H ⟨F, δ, S, P, sf, rs, rh, w, cn, cr, cb, cc⟩
        exact cr F H S _ _ (Same.refl F) rh .non w
    | _ => exact absurd h Bool.false_ne_true
  | .pass, p, h, n => by
    cases p with
    | Pass pos =>
      refine PS_imp ps_pass ?_
      rintro E σ H ⟨F, δ, S, P, sf, rs, rh, w, cn, cr, cb, cc⟩
      exact cn.nx_of rs rh w
    | _ => exact absurd h Bool.false_ne_true
  | .brk, p, h, n => by
    cases p with
    | Break pos =>
      refine PS_imp ps_break ?_
      rintro E σ H ⟨F, δ, S, P, sf, rs, rh, w, cn, cr, cb, cc⟩
      exact cb.nx_of rs rh w
    | _ => exact absurd h Bool.false_ne_true
  | .cont, p, h, n => by
    cases p with
    | Continue pos =>
      refine PS_imp ps_continue ?_
      rintro E σ H ⟨F, δ, S, P, sf, rs, rh, w, cn, cr, cb, cc⟩
      exact cc.nx_of rs rh w
    | _ => exact absurd h Bool.false_ne_true
  | .rz, p, h, n => by
    cases p with
    | Raise a b pos =>
      refine ⟨fun pins s σ H Q I q => ?_⟩
      obtain ⟨F, δ, S, P, sf, rs, rh, w, _⟩ := q
      exact absurd w id
    | _ => exact absurd h Bool.false_ne_true
  | .raise_ c es, p, h, n => by
    cases p with
    | Raise a b pos =>
      obtain ⟨y, py, ps, cp, rfl, rfl, h⟩ := raise_form h
      obtain ⟨h0, h⟩ := and_t h
      obtain ⟨h1, h⟩ := and_t h
      obtain ⟨h2, h⟩ := and_t h
      obtain ⟨h3, h4⟩ := and_t h
      obtain rfl := of_decide_eq_true h1
      obtain rfl := df_is h0
      have q := sEs g es ps h4 (all_t n)
      cases ps with
      | nil => exact absurd h3 Bool.false_ne_true
      | cons e r => exact raise_e g (all_h n) (gl_ok h2).1 q.st q.all
    | _ => exact absurd h Bool.false_ne_true
  | .try_ ct b hs, p, h, n => by
    cases p with
    | Try body hds orelse fin pos =>
      obtain ⟨rfl, rfl, h⟩ := try_form h
      obtain ⟨h0, h⟩ := and_t h
      obtain ⟨h1, h⟩ := and_t h
      obtain ⟨h2, h3⟩ := and_t h
      obtain rfl := df_is h0
      cases hds with
      | nil => exact absurd h1 Bool.false_ne_true
      | cons hd0 hds =>
        obtain ⟨l, hl, lift⟩ := sH g hk ct (all_h n) hs (hd0 :: hds) h3 (all_r (all_t n))
        obtain ⟨st1, st2⟩ := g.st rfl
        have rule := ps_try_gen (pos := pos) (body := body) (tb := fun W D σ H => ∃ F1 xq', (∀ cls d σ' H', LX X.K X.mg Z F1 xq' cls d σ' H' → W cls d σ' H') ∧ LS X.K Z F1 (wSs xq' b) D σ H) st1 st2 g.nd g.tk (fun W pn xe tkW po' => by
          refine ⟨fun pins s σ H D I q => ?_⟩
          obtain ⟨F1, xq', imp, q⟩ := q
          have g' : Gd (X.tr pn xe) k Z F1 xq' .df := ⟨g.nd, g.calm, g.room, g.rh, g.gu, Takes.imp tkW imp, po', g.fn, fun h => (nomatch h), g.st⟩
          exact (sSs g' hk b body h2 (all_l (all_t n))).run pins s σ H D I q) hl
        refine PS_imp rule ?_
        rintro D σ H ⟨F, δ, S, P, sf, rs, rh, w, cn, cr, cb, cc⟩
        refine ⟨F, _, ?_, F, δ, S, P, Same.refl F, rs, rh, w, cn, cr, cb, cc⟩
        rintro cls d σ' H' ⟨F2, δ2, S2, x, s2, rs2, R2, xr, hin, w2⟩
        exact lift D P F F2 cls d σ' H' x δ2 S2 sf s2 cn cr cb cc rs2 R2 xr hin w2
    | _ => exact absurd h Bool.false_ne_true
theorem sH {X : Cx} {k : Nat} {Z F0 : Hp} {xq : XP} (g : Gd X k Z F0 xq .df) (hk : X.env.scope.kind = .function) (ct : List Str) (T : ExT (txOf X) ct) : ∀ (hs : Hds) (hds : List ExceptHandler), chkH X.N X.env.scope ct hs hds = true → (∀ n ∈ nHs hs, n.ok (txOf X) k) →
    ∃ l, HdsG X hds l ∧ ∀ (D : Ends) (P : Pst) (F F2 : Hp) (cls : Value) (d : Option Addr) (σ : VS) (H : Hp) (x : Ex) (δ : Dts) (S : Sto), Same F0 F → Same F F2 → Cs X.K Z F P.nx D.nx → Ct X.K Z F P.rt D.rt → Cs X.K Z F P.bk D.bk → Cs X.K Z F P.ct D.ct →
      RelS X.K F2 δ σ → RelH X.K Z F2 S H → XRep X.K X.mg F2 x cls d → x.cls ∈ ct → wH xq hs P x δ S → wG2 X.K (LX X.K X.mg Z F0 xq) D l cls d σ H
  | .nil, hds, h, n => by
    cases hds with
    | cons _ _ => exact absurd h Bool.false_ne_true
    | nil =>
      refine ⟨[], .nil, ?_⟩
      intro D P F F2 cls d σ H x δ S sf s2 _ _ _ _ rs R xr _ w
      exact ⟨F2, δ, S, x, sf.trans s2, rs, R, xr, w⟩
  | .cons c none su r, hds, h, n => by
    obtain ⟨y, np, body, pos, hds2, rfl, h⟩ := hd_form0 h
    obtain ⟨h1, h⟩ := and_t h
    obtain ⟨h3, h⟩ := and_t h
    obtain ⟨h4, h5⟩ := and_t h
    obtain ⟨h6, h7⟩ := and_t h1
    obtain ⟨h8, h9⟩ := and_t h7
    obtain rfl := of_decide_eq_true h6
    have hm := List.contains_iff_mem.mp h9
    obtain ⟨m1, m2, m3, m4⟩ := T.2.2 y hm
    obtain ⟨l, hl, lift⟩ := sH g hk ct T r hds2 h5 (all_r n)
    cases body with
    | nil => exact absurd h3 Bool.false_ne_true
    | cons b0 suite =>
      refine ⟨(.ref (He.ga X.K y), none, fun a cls d D σ H => ∃ F x, XRep X.K X.mg F x cls d ∧ LS X.K Z F (wSs ⟨fun _ _ _ => False, some (a, x)⟩ su) D σ H) :: l, .cons ⟨(gl_ok h8).1, m3, .inl m1⟩ ?_ hl, ?_⟩
      · intro a oe cls d pn hz hf
        refine ⟨fun pins s σ H D I q => ?_⟩
        obtain ⟨F, x, xr, q⟩ := q
        exact (sSs (g.suite hz hf xr) hk su _ h4 (all_l n)).run pins s σ H D I q
      · intro D P F F2 cls d σ H x δ S sf s2 cn cr cb cc rs R xr hin w
        obtain ⟨n1, n2, n3, n4⟩ := T.2.2 _ hin
        have ec : cls = .ref (He.ga X.K x.cls) := Option.some.inj (xr.1.symm.trans n1)
        subst ec
        refine ⟨subC x.cls y, (n2.sub y hm).2, fun e a ha => ?_, fun e => ?_⟩
        · unfold wH at w
          rw [if_pos e] at w
          exact ⟨F2, x, xr, F2, δ, S, P, Same.refl F2, rs, R, w a, cn.mono s2, cr.mono s2, cb.mono s2, cc.mono s2⟩
        · unfold wH at w
          rw [e, if_neg Bool.false_ne_true] at w
          exact lift D P F F2 _ d σ H x δ S sf s2 cn cr cb cc rs R xr hin w
  | .cons c (some i) su r, hds, h, n => by
    obtain ⟨y, np, nm, body, pos, hds2, rfl, h⟩ := hd_form1 h
    obtain ⟨h1, h⟩ := and_t h
    obtain ⟨h2, h⟩ := and_t h
    obtain ⟨h3, h⟩ := and_t h
    obtain ⟨h4, h5⟩ := and_t h
    obtain ⟨h6, h7⟩ := and_t h1
    obtain ⟨h8, h9⟩ := and_t h7
    obtain ⟨h10, h11⟩ := and_t h2
    obtain rfl := of_decide_eq_true h6
    have hm := List.contains_iff_mem.mp h9
    obtain ⟨m1, m2, m3, m4⟩ := T.2.2 y hm
    obtain ⟨l, hl, lift⟩ := sH g hk ct T r hds2 h5 (all_r n)
    cases body with
    | nil => exact absurd h3 Bool.false_ne_true
    | cons b0 suite =>
      refine ⟨(.ref (He.ga X.K y), some i, fun a cls d D σ H => ∃ F x, XRep X.K X.mg F x cls d ∧ LS X.K Z F (wSs ⟨fun _ _ _ => False, some (a, x)⟩ su) D σ H) :: l, .consN ⟨(gl_ok h8).1, m3, .inl m1⟩ (in_ok h10) (isLoc_ok h11) ?_ hl, ?_⟩
      · intro a oe cls d pn hz hf
        refine ⟨fun pins s σ H D I q => ?_⟩
        obtain ⟨F, x, xr, q⟩ := q
        exact (sSs (g.suite hz hf xr) hk su _ h4 (all_l n)).run pins s σ H D I q
      · intro D P F F2 cls d σ H x δ S sf s2 cn cr cb cc rs R xr hin w
        obtain ⟨n1, n2, n3, n4⟩ := T.2.2 _ hin
        have ec : cls = .ref (He.ga X.K x.cls) := Option.some.inj (xr.1.symm.trans n1)
        subst ec
        refine ⟨subC x.cls y, (n2.sub y hm).2, fun e a ha => ?_, fun e => ?_⟩
        · unfold wH at w
          rw [if_pos e] at w
          refine ⟨F2, x, xr, F2, _, S, wpP i P, Same.refl F2, rs.set (.ref a) i, R, w a, ?_, cr.mono s2, ?_, ?_⟩
          · intro F3 H3 S3 δ3 σ3 s3 rs3 R3 p
            exact cn F3 H3 S3 _ _ (s2.trans s3) (rs3.wipe i) R3 p
          · intro F3 H3 S3 δ3 σ3 s3 rs3 R3 p
            exact cb F3 H3 S3 _ _ (s2.trans s3) (rs3.wipe i) R3 p
          · intro F3 H3 S3 δ3 σ3 s3 rs3 R3 p
            exact cc F3 H3 S3 _ _ (s2.trans s3) (rs3.wipe i) R3 p
        · unfold wH at w
          rw [e, if_neg Bool.false_ne_true] at w
          exact lift D P F F2 _ d σ H x δ S sf s2 cn cr cb cc rs R xr hin w
theorem sSs {X : Cx} {k : Nat} {Z F0 : Hp} {xq : XP} {md : Md} (g : Gd X k Z F0 xq md) (hk : X.env.scope.kind = .function) : ∀ (e : Sms) (p : List Stmt), chkSs X.N X.env.scope md e p = true → (∀ n ∈ nSs e, n.ok (txOf X) k) → PSs X p (LS X.K Z F0 (wSs xq e))
  | .nil, p, h, n => by
    cases p with
    | cons _ _ => exact absurd h Bool.false_ne_true
    | nil =>
      refine PSs_imp pss_nil ?_
      rintro E σ H ⟨F, δ, S, P, sf, rs, rh, w, cn, cr, cb, cc⟩
      exact cn.nx_of rs rh w
  | .cons s r, p, h, n => by
    cases p with
    | nil => exact absurd h Bool.false_ne_true
    | cons q qs =>
      obtain ⟨h1, h2⟩ := and_t h
      refine PSs_imp (pss_cons (sS g hk s q h1 (all_l n)) (sSs g hk r qs h2 (all_r n))) ?_
      rintro E σ H ⟨F, δ, S, P, sf, rs, rh, w, cn, cr, cb, cc⟩
      refine ⟨F, δ, S, _, sf, rs, rh, w, ?_, cr, cb, cc⟩
      intro F1 H1 S1 δ1 σ1 s1 rs1 R1 w1
      exact ⟨F1, δ1, S1, P, sf.trans s1, rs1, R1, w1, cn.mono s1, cr.mono s1, cb.mono s1, cc.mono s1⟩
end

/-! ### defs -/
def startD (n : Nat) (ds : List D) : Dts := ds.map some ++ List.replicate (n - ds.length) none
theorem start_rel {K : FK} {F : Hp} {N : List Str} {ds : List D} {vs : List V} (r : RepL K F ds vs) : RelS K F (startD N.length ds) (L2.start N vs) := by
  unfold startD L2.start
  refine ⟨by simp [r.length], fun i d e => ?_⟩
  by_cases hi : i < ds.length
  · rw [List.getElem?_append_left (by rw [List.length_map]; exact hi), List.getElem?_map] at e
    rw [List.getElem?_append_left (by rw [List.length_map, ← r.length]; exact hi), List.getElem?_map]
    cases q : ds[i]? with
    | none => rw [q] at e; cases e
    | some x =>
      rw [q] at e; cases e
      obtain ⟨v, hv, rv⟩ := r.get q
      exact ⟨v, by rw [hv]; rfl, rv⟩
  · rw [List.getElem?_append_right (by rw [List.length_map]; omega), List.getElem?_replicate] at e
    split at e <;> cases e
/-- THE RULE: a def keeps its promise, by its small body -/
theorem def_ok {P : Program} {w : World} {K : FK} {mg : MG} {base : Heap} {x qual : Str} {params : Arguments} {body : List Stmt} {scope : Scope} {f : Addr} {fd : FuncData} {N ps : List Str} {k : Nat} {sp : Spec} {b : Sms}
    (F : FunD K x qual params body scope [] [] f fd) (S : FnScope N ps scope) (ck : chkSs N scope .df b body = true) (nd : ∀ n ∈ nSs b, n.ok ⟨P, w, K, mg, base⟩ k)
    (hb : ∀ ds S Q U, sp ds S Q U → ds.length = ps.length ∧ wSs ⟨fun x _ S => U x S, none⟩ b ⟨fun _ S => Q .non S, Q, fun _ _ => False, fun _ _ => False⟩ (startD N.length ds) S) :
    FOk P w K mg base (k + 1) f fd ps (LSp K mg sp) := by
  refine def_by_body F S ?_ ?_
  · rintro vs H Q E ⟨Z, F, S, ds, P, U, rh, rl, s, _, _⟩
    rw [← rl.length]
    exact (hb ds S P U s).1
  · intro cdv A outer s H vs Q E hr hg h
    obtain ⟨Z, F0, S0, ds, P0, U, rh, rl, sp0, c, cx⟩ := h
    obtain ⟨_, w0⟩ := hb ds S0 P0 U sp0
    have g : Gd (cxOf (L2.CX P w) P w K mg base N qual scope f cdv A outer s H E) k Z F0 ⟨fun x _ S => U x S, none⟩ .df := by
      refine ⟨S.nd, fun _ => rfl, fun _ => hr, L2H.roomH_of hr, hg, ?_, passes_of rfl, fun _ _ => rfl, fun h => (nomatch h), fun _ => ⟨rfl, rfl⟩⟩
      refine Takes.imp (takes_of rfl rfl rfl rfl) ?_
      rintro cls d σ H1 ⟨F1, δ, S1, x, sf, rs, R1, xr, u⟩
      exact cx F1 H1 S1 x cls d sf R1 xr u
    refine ⟨_, sSs g S.kind b body ck nd, ?_⟩
    refine ⟨F0, startD N.length ds, S0, _, Same.refl F0, start_rel rl, rh, w0, ?_, c, ?_, ?_⟩
    · intro F1 H1 S1 δ σ s1 rs R1 q
      exact c F1 H1 S1 _ _ s1 R1 .non q
    · intro _ _ _ _ _ _ _ _ z
      exact z
    · intro _ _ _ _ _ _ _ _ z
      exact z
/-- .. a def that is called while an exception is handled -/
theorem defh_ok {P : Program} {w : World} {K : FK} {mg : MG} {base : Heap} {x qual : Str} {params : Arguments} {body : List Stmt} {scope : Scope} {f : Addr} {fd : FuncData} {N ps : List Str} {k : Nat} {sp : Addr × Ex → Spec} {b : Sms}
    (F : FunD K x qual params body scope [] [] f fd) (S : FnScope N ps scope) (ck : chkSs N scope .ht b body = true) (nd : ∀ n ∈ nSs b, n.ok ⟨P, w, K, mg, base⟩ k)
    (hb : ∀ p ds S Q U, sp p ds S Q U → ds.length = ps.length ∧ wSs ⟨fun _ _ _ => False, some p⟩ b ⟨fun _ S => Q .non S, Q, fun _ _ => False, fun _ _ => False⟩ (startD N.length ds) S) :
    FHk P w K mg base (k + 1) f fd ps sp := by
  obtain ⟨oc, od, dV, kV, doc, pm, an, cdv, ct, osl, rfl, lk, hcd, hD, hK⟩ := F.ex
  refine ⟨fun p ds S Q U h => (hb p ds S Q U h).1, ?_⟩
  intro A outer s H args us vs Q p y cls d Z F0 S0 ds Pq hr hgu hpin hz hf xr e0 bd r rh rl hsp c
  obtain ⟨hl0, w0⟩ := hb _ ds S0 Pq _ hsp
  have hl : vs.length = ps.length := by rw [← rl.length]; exact hl0
  have KX : K.In s.heap := e0.mod.kin.keeps fun b o e => (e0.bs b o e).1
  have lim : s.heap.NoLimit := e0.mod.nolimit.keeps fun b o e => (e0.bs b o e).1
  have hkind : ∀ y ∈ ps.zip us, scope.names.lookup y.1 = some .local ∨ (scope.names.lookup y.1 = some .cell ∧ ((cellsFrom (s.heap.objs.size + 1) scope.names []).lookup y.1).isSome = true) := fun ⟨n, v⟩ hy => by
    rcases S.par n (List.of_mem_zip hy).1 with q | q
    · exact .inl q
    · exact .inr ⟨q, PySem.W.cellsFrom_some _ _ _ (.inl q)⟩
  refine codeAny_call_function hr.depth (KX _ _ lk) rfl S.co S.gen rfl (PySem.W.codeRec_of KX hcd) (bd _ _ _ _ ?_)
  refine wpAny_newFunctionEnv_cells S.kind hkind fun env he s1 x1 => ?_
  subst he
  refine ⟨lim.keeps x1.toInCall.keep, codeAny_func ?_⟩
  have g : Gd (L2H.cxH (L2.CX P w) P w K mg base N qual scope f cdv A outer s H (fun _ _ _ => False) p) k Z F0 ⟨fun _ _ _ => False, some (p.1, y)⟩ .ht :=
    ⟨S.nd, fun h => (nomatch h), fun h => (nomatch h), hr.deeper _, guards_deeper hgu, takes_no, passes_of rfl, fun _ _ => rfl, fun _ => ⟨p.1, y, rfl, ⟨p.2, cls, d, List.mem_singleton.mpr rfl, hz, hf, xr⟩⟩, fun h => (nomatch h)⟩
  have I : Inv (L2H.cxH (L2.CX P w) P w K mg base N qual scope f cdv A outer s H (fun _ _ _ => False) p) [] (L2.start N vs) H s1 := L2H.inv_startH S hpin e0 hl r x1
  refine wpAny_mono ((sSs g S.kind b body ck nd).run [] s1 (L2.start N vs) H { nx := fun _ H' => Q .non H', rt := Q } I ?_) (fun fl s' hs => ?_) fun e s' hs => hs
  · refine ⟨F0, startD N.length ds, S0, _, Same.refl F0, start_rel rl, rh, w0, ?_, c, ?_, ?_⟩
    · intro F1 H1 S1 δ σ s1 rs R1 q
      exact c F1 H1 S1 _ _ s1 R1 .non q
    · intro _ _ _ _ _ _ _ _ z
      exact z
    · intro _ _ _ _ _ _ _ _ z
      exact z
  have fin : ∀ {σ' : VS} {H' : Hp} {v : V} {u : Value}, Inv (L2H.cxH (L2.CX P w) P w K mg base N qual scope f cdv A outer s H (fun _ _ _ => False) p) [] σ' H' s' → RelV v u → Q v H' → CE outer P w H s Q u s' :=
    fun {σ' H' v u} J rv q => ⟨v, H', J.os, J.bare, J.base, J.hok, rv, q⟩
  cases fl with
  | ret u =>
    obtain ⟨v, σ', H', J, rv, q⟩ := hs
    exact fin J rv q
  | next =>
    obtain ⟨σ', H', J, q⟩ := hs
    exact fin (v := V.non) (u := Value.none) J rfl q
  | brk =>
    obtain ⟨_, _, _, q⟩ := hs
    exact absurd q id
  | cont =>
    obtain ⟨_, _, _, q⟩ := hs
    exact absurd q id
end GB

/-! GB15: the preconditions as equations, to be reckoned from without inwards. -/
namespace GB
open PySem PySem.Spec PyProof.Rows L2

/-- a slot is read -/
def gv : Dts → Nat → (D → Prop) → Prop
  | [], _, _ => False
  | o :: _, 0, P => (match o with
    | some d => P d
    | none => False)
  | _ :: δ, i + 1, P => gv δ i P
theorem gv_z {d : D} {δ : Dts} {P : D → Prop} : gv (some d :: δ) 0 P = P d := rfl
theorem gv_s {o : Option D} {δ : Dts} {i : Nat} {P : D → Prop} : gv (o :: δ) (i + 1) P = gv δ i P := rfl
theorem gv_eq : ∀ (δ : Dts) (i : Nat) (P : D → Prop), gv δ i P = ∃ d, δ[i]? = some (some d) ∧ P d
  | [], i, P => by
    refine propext ⟨fun h => absurd h id, ?_⟩
    rintro ⟨d, e, _⟩
    simp at e
  | some d :: δ, 0, P => by
    refine propext ⟨fun h => ⟨d, rfl, h⟩, ?_⟩
    rintro ⟨e, h1, h2⟩
    cases h1
    exact h2
  | none :: δ, 0, P => by
    refine propext ⟨fun h => absurd h id, ?_⟩
    rintro ⟨e, h1, h2⟩
    cases h1
  | _ :: δ, i + 1, P => (gv_eq δ i P).trans (by simp)
/-- a slot is written -/
def sv : Dts → Nat → D → Dts
  | [], _, _ => []
  | _ :: δ, 0, d => some d :: δ
  | o :: δ, i + 1, d => o :: sv δ i d
theorem sv_z {o : Option D} {δ : Dts} {d : D} : sv (o :: δ) 0 d = some d :: δ := rfl
theorem sv_s {o : Option D} {δ : Dts} {i : Nat} {d : D} : sv (o :: δ) (i + 1) d = o :: sv δ i d := rfl
theorem sv_eq : ∀ (δ : Dts) (i : Nat) (d : D), δ.set i (some d) = sv δ i d
  | [], _, _ => rfl
  | _ :: _, 0, _ => rfl
  | _ :: δ, i + 1, d => congrArg _ (sv_eq δ i d)
def wv : Dts → Nat → Dts
  | [], _ => []
  | _ :: δ, 0 => none :: δ
  | o :: δ, i + 1 => o :: wv δ i
theorem wv_z {o : Option D} {δ : Dts} : wv (o :: δ) 0 = none :: δ := rfl
theorem wv_s {o : Option D} {δ : Dts} {i : Nat} : wv (o :: δ) (i + 1) = o :: wv δ i := rfl
theorem wv_eq : ∀ (δ : Dts) (i : Nat), δ.set i none = wv δ i
  | [], _ => rfl
  | _ :: _, 0 => rfl
  | _ :: δ, i + 1 => congrArg _ (wv_eq δ i)

def oP {α : Type} (Q : α → Prop) : Option α → Prop
  | some d => Q d
  | none => False
theorem oP_eq {α : Type} {Q : α → Prop} {o : Option α} : (∃ d, o = some d ∧ Q d) = oP Q o := by
  refine propext ⟨?_, ?_⟩
  · rintro ⟨k, rfl, h⟩
    exact h
  · intro h
    cases o <;> first
      | exact ⟨_, rfl, h⟩
      | exact absurd h id
/-! what comes behind is kept out of sight till it is due -/
class KE where
  q : EQ
class KT where
  q : Bool → Sto → Prop
class KS where
  q : Dts → Sto → Prop
class KX where
  x : XP
  p : Pst
def iteE (k : Bool) (A B : EQ → Prop) [c : KE] : Prop := if k = true then A c.q else B c.q
def andE (k : Bool) (x : D) (S : Sto) (A : EQ → Prop) [c : KE] : Prop := if k = true then A c.q else c.q x S
def orE (k : Bool) (x : D) (S : Sto) (A : EQ → Prop) [c : KE] : Prop := if k = true then c.q x S else A c.q
def iteT (k : Bool) (A B : (Bool → Sto → Prop) → Prop) [c : KT] : Prop := if k = true then A c.q else B c.q
def andT (k : Bool) (S : Sto) (A : (Bool → Sto → Prop) → Prop) [c : KT] : Prop := if k = true then A c.q else c.q false S
def orT (k : Bool) (S : Sto) (A : (Bool → Sto → Prop) → Prop) [c : KT] : Prop := if k = true then c.q true S else A c.q
def iteS (k : Bool) (A B : (Dts → Sto → Prop) → Prop) [c : KS] : Prop := if k = true then A c.q else B c.q
def joinS (k : Bool) (f : Dts → Dts) (δ1 δ2 : Dts) (S : Sto) [c : KS] : Prop := if k = true then c.q (f δ1) S else c.q (f δ2) S
def ixS (o : Option D) (S : Sto) [c : KE] : Prop := oP (fun d => c.q d S) o
def callS (sp : Spec) (ds : List D) (S : Sto) (U : Ex → Sto → Prop) [c : KE] : Prop := sp ds S c.q U
def reprS (x : D) (S : Sto) [c : KE] : Prop := biO .repr false [x] S c.q
def mtS (f : MT) (x : D) (ds : List D) (S : Sto) [c : KE] : Prop := mtO f x ds S c.q
section
variable {k k2 : Bool} {x y : D} {S : Sto} {C : Prop} {A B : EQ → Prop} {Q : EQ} {A' B' : (Bool → Sto → Prop) → Prop} {T : Bool → Sto → Prop} {δ1 δ2 : Dts} {N : Dts → Sto → Prop} {A2 B2 : (Dts → Sto → Prop) → Prop} {f : Dts → Dts} {o : Option D}
theorem iteE_int {i j : Int} : @iteE k (fun P => P (.int i) S) (fun P => P (.int j) S) ⟨Q⟩ = Q (.int (if k = true then i else j)) S := by cases k <;> rfl
theorem iteE_bl {i j : Bool} : @iteE k (fun P => P (.bl i) S) (fun P => P (.bl j) S) ⟨Q⟩ = Q (.bl (if k = true then i else j)) S := by cases k <;> rfl
theorem iteE_str {i j : Str} : @iteE k (fun P => P (.str i) S) (fun P => P (.str j) S) ⟨Q⟩ = Q (.str (if k = true then i else j)) S := by cases k <;> rfl
theorem iteE_lst {i j : List D} : @iteE k (fun P => P (.lst i) S) (fun P => P (.lst j) S) ⟨Q⟩ = Q (.lst (if k = true then i else j)) S := by cases k <;> rfl
theorem iteE_same : @iteE k (fun P => P x S) (fun P => P x S) ⟨Q⟩ = Q x S := by cases k <;> rfl
theorem iteE_c1 : @iteE k (fun P => C ∧ A P) B ⟨Q⟩ = ((k = true → C) ∧ @iteE k A B ⟨Q⟩) := by cases k <;> simp [iteE]
theorem iteE_c2 : @iteE k A (fun P => C ∧ B P) ⟨Q⟩ = ((k = false → C) ∧ @iteE k A B ⟨Q⟩) := by cases k <;> simp [iteE]
theorem iteE_1 : @iteE true A B ⟨Q⟩ = A Q := rfl
theorem iteE_0 : @iteE false A B ⟨Q⟩ = B Q := rfl
theorem iteT_1 : @iteT true A' B' ⟨T⟩ = A' T := rfl
theorem iteT_0 : @iteT false A' B' ⟨T⟩ = B' T := rfl
theorem andT_1 : @andT true S A' ⟨T⟩ = A' T := rfl
theorem andT_0 : @andT false S A' ⟨T⟩ = T false S := rfl
theorem orT_1 : @orT true S A' ⟨T⟩ = T true S := rfl
theorem orT_0 : @orT false S A' ⟨T⟩ = A' T := rfl
theorem andE_1 : @andE true x S A ⟨Q⟩ = A Q := rfl
theorem andE_0 : @andE false x S A ⟨Q⟩ = Q x S := rfl
theorem orE_1 : @orE true x S A ⟨Q⟩ = Q x S := rfl
theorem orE_0 : @orE false x S A ⟨Q⟩ = A Q := rfl
theorem iteS_1 : @iteS true A2 B2 ⟨N⟩ = A2 N := rfl
theorem iteS_0 : @iteS false A2 B2 ⟨N⟩ = B2 N := rfl
theorem iteE_def : @iteE k A B ⟨Q⟩ = if k = true then A Q else B Q := rfl
theorem andE_bl : @andE k (.bl k) S (fun P => P (.bl k2) S) ⟨Q⟩ = Q (.bl (k && k2)) S := by cases k <;> rfl
theorem andE_c : @andE k x S (fun P => C ∧ A P) ⟨Q⟩ = ((k = true → C) ∧ @andE k x S A ⟨Q⟩) := by cases k <;> simp [andE]
theorem andE_def : @andE k x S A ⟨Q⟩ = if k = true then A Q else Q x S := rfl
theorem orE_bl : @orE k (.bl k) S (fun P => P (.bl k2) S) ⟨Q⟩ = Q (.bl (k || k2)) S := by cases k <;> rfl
theorem orE_c : @orE k x S (fun P => C ∧ A P) ⟨Q⟩ = ((k = false → C) ∧ @orE k x S A ⟨Q⟩) := by cases k <;> simp [orE]
theorem orE_def : @orE k x S A ⟨Q⟩ = if k = true then Q x S else A Q := rfl
theorem iteT_v {i j : Bool} : @iteT k (fun P => P i S) (fun P => P j S) ⟨T⟩ = T (if k = true then i else j) S := by cases k <;> rfl
theorem iteT_c1 : @iteT k (fun P => C ∧ A' P) B' ⟨T⟩ = ((k = true → C) ∧ @iteT k A' B' ⟨T⟩) := by cases k <;> simp [iteT]
theorem iteT_c2 : @iteT k A' (fun P => C ∧ B' P) ⟨T⟩ = ((k = false → C) ∧ @iteT k A' B' ⟨T⟩) := by cases k <;> simp [iteT]
theorem iteT_def : @iteT k A' B' ⟨T⟩ = if k = true then A' T else B' T := rfl
theorem andT_v : @andT k S (fun P => P k2 S) ⟨T⟩ = T (k && k2) S := by cases k <;> rfl
theorem andT_c : @andT k S (fun P => C ∧ A' P) ⟨T⟩ = ((k = true → C) ∧ @andT k S A' ⟨T⟩) := by cases k <;> simp [andT]
theorem andT_def : @andT k S A' ⟨T⟩ = if k = true then A' T else T false S := rfl
theorem orT_v : @orT k S (fun P => P k2 S) ⟨T⟩ = T (k || k2) S := by cases k <;> rfl
theorem orT_c : @orT k S (fun P => C ∧ A' P) ⟨T⟩ = ((k = false → C) ∧ @orT k S A' ⟨T⟩) := by cases k <;> simp [orT]
theorem orT_def : @orT k S A' ⟨T⟩ = if k = true then T true S else A' T := rfl
theorem iteS_v : @iteS k (fun P => P δ1 S) (fun P => P δ2 S) ⟨N⟩ = @joinS k (fun δ => δ) δ1 δ2 S ⟨N⟩ := by cases k <;> rfl
theorem iteS_c1 : @iteS k (fun P => C ∧ A2 P) B2 ⟨N⟩ = ((k = true → C) ∧ @iteS k A2 B2 ⟨N⟩) := by cases k <;> simp [iteS]
theorem iteS_c2 : @iteS k A2 (fun P => C ∧ B2 P) ⟨N⟩ = ((k = false → C) ∧ @iteS k A2 B2 ⟨N⟩) := by cases k <;> simp [iteS]
theorem iteS_r1 : @iteS k (fun _ => C) B2 ⟨N⟩ = if k = true then C else B2 N := by cases k <;> rfl
theorem iteS_r2 : @iteS k A2 (fun _ => C) ⟨N⟩ = if k = true then A2 N else C := by cases k <;> rfl
theorem iteS_def : @iteS k A2 B2 ⟨N⟩ = if k = true then A2 N else B2 N := rfl
theorem joinS_n : @joinS k f [] [] S ⟨N⟩ = N (f []) S := by cases k <;> rfl
theorem joinS_same : @joinS k f (o :: δ1) (o :: δ2) S ⟨N⟩ = @joinS k (fun δ => f (o :: δ)) δ1 δ2 S ⟨N⟩ := rfl
theorem joinS_int {i j : Int} : @joinS k f (some (.int i) :: δ1) (some (.int j) :: δ2) S ⟨N⟩ = @joinS k (fun δ => f (some (.int (if k = true then i else j)) :: δ)) δ1 δ2 S ⟨N⟩ := by cases k <;> rfl
theorem joinS_bl {i j : Bool} : @joinS k f (some (.bl i) :: δ1) (some (.bl j) :: δ2) S ⟨N⟩ = @joinS k (fun δ => f (some (.bl (if k = true then i else j)) :: δ)) δ1 δ2 S ⟨N⟩ := by cases k <;> rfl
theorem joinS_def : @joinS k f δ1 δ2 S ⟨N⟩ = if k = true then N (f δ1) S else N (f δ2) S := rfl
theorem ixS_s {d : D} : @ixS (some d) S ⟨Q⟩ = Q d S := rfl
theorem ixS_ok {d : D} (e : o = some d) (h : Q d S) : @ixS o S ⟨Q⟩ := by
  subst e
  exact h
end
section
variable {X : XP} {δ : Dts} {S : Sto} {P : EQ} {T : Bool → Sto → Prop}
theorem e_v {i : Nat} : (w X (.v i)).e δ S P = gv δ i fun d => P d S := (gv_eq δ i _).symm
theorem e_N : (w X .cN).e δ S P = P .non S := rfl
theorem e_B {b : Bool} : (w X (.cB b)).e δ S P = P (.bl b) S := rfl
theorem e_I {i : Int} : (w X (.cI i)).e δ S P = P (.int i) S := rfl
theorem e_S {x : Str} : (w X (.cS x)).e δ S P = P (.str x) S := rfl
theorem e_gl {x : Str} {d : D} : (w X (.gl x d)).e δ S P = P d S := rfl
theorem e_add {m : Bool} {a b : E} : (w X (.bin .add m a b)).e δ S P = (w X a).e δ S fun x S1 => (w X b).e δ S1 fun y S2 => addD m x y S2 P := rfl
theorem e_sub {m : Bool} {a b : E} : (w X (.bin .sub m a b)).e δ S P = (w X a).e δ S fun x S1 => (w X b).e δ S1 fun y S2 => subD x y S2 P := rfl
theorem e_mul {m : Bool} {a b : E} : (w X (.bin .mul m a b)).e δ S P = (w X a).e δ S fun x S1 => (w X b).e δ S1 fun y S2 => mulD m x y S2 P := rfl
theorem e_fdiv {m : Bool} {a b : E} : (w X (.bin .fdiv m a b)).e δ S P = (w X a).e δ S fun x S1 => (w X b).e δ S1 fun y S2 => fdivD x y S2 P := rfl
theorem e_mod {m : Bool} {a b : E} : (w X (.bin .mod m a b)).e δ S P = (w X a).e δ S fun x S1 => (w X b).e δ S1 fun y S2 => modD x y S2 P := rfl
theorem e_pow {m : Bool} {a b : E} : (w X (.bin .pow m a b)).e δ S P = (w X a).e δ S fun x S1 => (w X b).e δ S1 fun y S2 => powD x y S2 P := rfl
theorem e_neg {a : E} : (w X (.neg a)).e δ S P = (w X a).e δ S fun x S1 => negD x S1 P := rfl
theorem e_cmp {o : COp} {a b : E} : (w X (.cmp o a b)).e δ S P = (w X a).e δ S fun x S1 => (w X b).e δ S1 fun y S2 => cmpD o x y S2 P := rfl
/-- a comparison's bool -/
def bP (T : Bool → Sto → Prop) : EQ := fun x S => match x with
  | .bl k => T k S
  | _ => False
theorem bP_eq : isCmpTrue T = bP T := by
  funext x S
  refine propext ⟨?_, ?_⟩
  · rintro ⟨k, rfl, h⟩
    exact h
  · intro h
    cases x <;> first
      | exact ⟨_, rfl, h⟩
      | exact absurd h id
theorem bP_b {k : Bool} : bP T (.bl k) S = T k S := rfl
theorem t_cmp {o : COp} {a b : E} : (w X (.cmp o a b)).t δ S T = (w X a).e δ S fun x S1 => (w X b).e δ S1 fun y S2 => cmpD o x y S2 (bP T) := by
  rw [← bP_eq]; rfl
theorem e_cmp2 {o o2 : COp} {a b c : E} : (w X (.cmp2 o o2 a b c)).e δ S P = (w X a).e δ S fun x S1 => (w X b).e δ S1 fun y S2 => cmpD o x y S2 (bP fun k S3 => @andE k (.bl false) S3 (fun P => (w X c).e δ S3 fun z S4 => cmpD o2 y z S4 P) ⟨P⟩) := by
  have : (w X (.cmp2 o o2 a b c)).e δ S P = (w X a).e δ S fun x S1 => (w X b).e δ S1 fun y S2 => cmpD o x y S2 (isCmpTrue fun k S3 => if k = true then (w X c).e δ S3 fun z S4 => cmpD o2 y z S4 P else P (.bl false) S3) := rfl
  rw [this]
  simp only [bP_eq]
  rfl
theorem t_cmp2 {o o2 : COp} {a b c : E} : (w X (.cmp2 o o2 a b c)).t δ S T = (w X a).e δ S fun x S1 => (w X b).e δ S1 fun y S2 => cmpD o x y S2 (bP fun k S3 => @andT k S3 (fun T => (w X c).e δ S3 fun z S4 => cmpD o2 y z S4 (bP T)) ⟨T⟩) := by
  have h := @e_cmp2 X δ S (bP T) o o2 a b c
  have h2 : (w X (.cmp2 o o2 a b c)).t δ S T = (w X (.cmp2 o o2 a b c)).e δ S (bP T) := by
    rw [← bP_eq]; rfl
  exact h2.trans h
theorem e_and1 {a : E} : (w X (.and_ (.cons a .nil))).e δ S P = (w X a).e δ S P := rfl
theorem e_and2 {a b : E} {r : Es} : (w X (.and_ (.cons a (.cons b r)))).e δ S P = (w X a).e δ S fun x S1 => truD x S1 fun k S2 => @andE k x S2 (fun P => (w X (.and_ (.cons b r))).e δ S2 P) ⟨P⟩ := rfl
theorem t_and1 {a : E} : (w X (.and_ (.cons a .nil))).t δ S T = (w X a).t δ S T := rfl
theorem t_and2 {a b : E} {r : Es} : (w X (.and_ (.cons a (.cons b r)))).t δ S T = (w X a).t δ S fun k S1 => @andT k S1 (fun T => (w X (.and_ (.cons b r))).t δ S1 T) ⟨T⟩ := rfl
theorem e_or1 {a : E} : (w X (.or_ (.cons a .nil))).e δ S P = (w X a).e δ S P := rfl
theorem e_or2 {a b : E} {r : Es} : (w X (.or_ (.cons a (.cons b r)))).e δ S P = (w X a).e δ S fun x S1 => truD x S1 fun k S2 => @orE k x S2 (fun P => (w X (.or_ (.cons b r))).e δ S2 P) ⟨P⟩ := rfl
theorem t_or1 {a : E} : (w X (.or_ (.cons a .nil))).t δ S T = (w X a).t δ S T := rfl
theorem t_or2 {a b : E} {r : Es} : (w X (.or_ (.cons a (.cons b r)))).t δ S T = (w X a).t δ S fun k S1 => @orT k S1 (fun T => (w X (.or_ (.cons b r))).t δ S1 T) ⟨T⟩ := rfl
theorem e_not {a : E} : (w X (.not_ a)).e δ S P = (w X a).e δ S fun x S1 => truD x S1 fun b S2 => P (.bl (!b)) S2 := rfl
theorem t_not {a : E} : (w X (.not_ a)).t δ S T = (w X a).t δ S fun b S1 => T (!b) S1 := rfl
theorem e_ite {t a b : E} : (w X (.ite t a b)).e δ S P = (w X t).t δ S fun k S1 => @iteE k (fun P => (w X a).e δ S1 P) (fun P => (w X b).e δ S1 P) ⟨P⟩ := rfl
theorem t_ite {t a b : E} : (w X (.ite t a b)).t δ S T = (w X t).t δ S fun k S1 => @iteT k (fun T => (w X a).t δ S1 T) (fun T => (w X b).t δ S1 T) ⟨T⟩ := rfl
theorem e_tup {es : Es} : (w X (.tup es)).e δ S P = (ws X es).all δ S fun ds S1 => ds.length ≤ sizeLine ∧ P (.tup ds) S1 := rfl
theorem e_lst {m : Bool} {es : Es} : (w X (.lst m es)).e δ S P = (ws X es).all δ S fun ds S1 => ds.length ≤ sizeLine ∧ nwL m ds S1 P := rfl
theorem e_dct {m : Bool} {es : Es} : (w X (.dct m es)).e δ S P = (ws X es).all δ S fun ds S1 => ∃ kvs, kvL ds = some kvs ∧ nwD m (mergeD [] kvs) S1 P := rfl
theorem e_ix {a i : E} : (w X (.ix a i)).e δ S P = (w X a).e δ S fun x S1 => (w X i).e δ S1 fun y S2 => ixD x y S2 P := rfl
theorem e_sl {m : Bool} {a : E} {lo hi : Eo} : (w X (.sl m a lo hi)).e δ S P = (w X a).e δ S fun x S1 => wo X lo δ S1 fun l S2 => wo X hi δ S2 fun h S3 => slD m x l h S3 P := rfl
theorem e_slr {m : Bool} {a : E} : (w X (.slr m a)).e δ S P = (w X a).e δ S fun x S1 => slrD m x S1 P := rfl
theorem e_call {x : Str} {sp : Spec} {es : Es} : (w X (.call x sp es)).e δ S P = (ws X es).all δ S fun ds S1 => @callS sp ds S1 (fun x S2 => X.x x δ S2) ⟨P⟩ := rfl
theorem e_bi {b : BI} {m : Bool} {es : Es} : (w X (.bi b m es)).e δ S P = (ws X es).all δ S fun ds S1 => biO b m ds S1 P := rfl
theorem e_mt {f : MT} {a : E} {es : Es} : (w X (.mt f a es)).e δ S P = (w X a).e δ S fun x S1 => mtT x S1 ∧ (ws X es).all δ S1 fun ds S2 => @mtS f x ds S2 ⟨P⟩ := rfl
theorem e_lc {m : Bool} {elt : E} {tg : G} {it : It'} {ifs : Es} : (w X (.lc m elt tg it ifs)).e δ S P = wi X it δ S fun ds src S1 => wLc m tg (ws XP0 ifs).ifs (w XP0 elt).e src (wipeD δ (gSl tg)) P ds [] S1 := rfl
theorem e_frz {a : E} : (w X (.frz a)).e δ S P = (w X a).e δ S fun x S1 => frzD x S1 P := rfl
theorem t_frz {a : E} : (w X (.frz a)).t δ S T = (w X a).t δ S T := rfl
/-! the exception that is handled -/
def iP (Q : Int → Prop) : D → Prop := fun x => match x with
  | .int i => Q i
  | _ => False
theorem iP_i {Q : Int → Prop} {i : Int} : iP Q (.int i) = Q i := rfl
theorem iP_eq {Q : Int → Prop} {x : D} : (∃ i, x = .int i ∧ Q i) = iP Q x := by
  refine propext ⟨?_, ?_⟩
  · rintro ⟨k, rfl, h⟩
    exact h
  · intro h
    cases x <;> first
      | exact ⟨_, rfl, h⟩
      | exact absurd h id
theorem e_cnt {a b : E} : (w X (.cnt a b)).e δ S P = (w X a).e δ S fun x S1 => (∃ ds, sqx S1 x = some ds) ∧ (w X b).e δ S1 fun y S2 => cntD x y S2 P := rfl
theorem e_sl2 {m : Bool} {a : E} : (w X (.sl2 m a)).e δ S P = (w X a).e δ S fun x S1 => sl2D m x S1 P := rfl
theorem e_dget {a b c : E} : (w X (.dget a b c)).e δ S P = (w X a).e δ S fun x S1 => (∃ p ds, x = .ref p ∧ S1 p = some (.dct ds)) ∧ (w X b).e δ S1 fun y S2 => (w X c).e δ S2 fun z S3 => getD x y z S3 P := rfl
theorem e_idx {a b : E} : (w X (.idx a b)).e δ S P = (w X a).e δ S fun x S1 => (∃ ds, sqx S1 x = some ds) ∧ (w X b).e δ S1 fun y S2 => idxD x y S2 P := rfl
theorem e_lrg1 {m : Bool} {b : E} : (w X (.lrg1 m b)).e δ S P = (w X b).e δ S fun y S1 => iP (fun j => (R62 j ∧ j ≤ 10000) ∧ nwL m (rngD 0 j.toNat) S1 P) y := by
  have : (w X (.lrg1 m b)).e δ S P = (w X b).e δ S fun y S1 => ∃ j, y = .int j ∧ (R62 j ∧ j ≤ 10000) ∧ nwL m (rngD 0 j.toNat) S1 P := rfl
  rw [this]
  congr 1
  funext y S1
  exact iP_eq
theorem e_lrg2 {m : Bool} {a b : E} : (w X (.lrg2 m a b)).e δ S P = (w X a).e δ S fun x S1 => (w X b).e δ S1 fun y S2 => iP (fun i => iP (fun j => (R62 i ∧ R62 j ∧ j - i ≤ 10000) ∧ nwL m (rngD i (j - i).toNat) S2 P) y) x := by
  have : (w X (.lrg2 m a b)).e δ S P = (w X a).e δ S fun x S1 => (w X b).e δ S1 fun y S2 => ∃ i j, x = .int i ∧ y = .int j ∧ (R62 i ∧ R62 j ∧ j - i ≤ 10000) ∧ nwL m (rngD i (j - i).toNat) S2 P := rfl
  rw [this]
  congr 1
  funext x S1
  congr 1
  funext y S2
  rw [← iP_eq]
  refine propext ⟨?_, ?_⟩
  · rintro ⟨i, j, h1, rfl, h⟩
    exact ⟨i, h1, h⟩
  · rintro ⟨i, h1, h⟩
    rw [← iP_eq] at h
    obtain ⟨j, h2, h⟩ := h
    exact ⟨i, j, h1, h2, h⟩
theorem e_isx {ct cs : List Str} {a : E} : (w X (.isx ct a cs)).e δ S P = (hotC X.h ct ∧ (w X a).e δ S fun v S1 => isxD X.h cs v S1 P) := rfl
theorem t_isx {ct cs : List Str} {a : E} : (w X (.isx ct a cs)).t δ S T = (hotC X.h ct ∧ (w X a).e δ S fun v S1 => isxD X.h cs v S1 fun x S1 => truD x S1 T) := rfl
theorem e_fld {ct : List Str} {f : Str} {a : E} : (w X (.fld ct a f)).e δ S P = (hotF X.h ct f ∧ (w X a).e δ S fun v S1 => fldD X.h f v S1 P) := rfl
theorem e_callh {x : Str} {sp : Addr × Ex → Spec} {es : Es} : (w X (.callh x sp es)).e δ S P = (ws X es).all δ S fun ds S1 => clhD X.h sp ds S1 P := rfl
theorem t_callh {x : Str} {sp : Addr × Ex → Spec} {es : Es} : (w X (.callh x sp es)).t δ S T = (ws X es).all δ S fun ds S1 => clhD X.h sp ds S1 fun x S1 => truD x S1 T := rfl
theorem hc_s {a : Addr} {x : Ex} {ct : List Str} : hotC (some (a, x)) ct = (x.cls ∈ ct) := rfl
theorem hf_s {a : Addr} {x : Ex} {ct : List Str} {f : Str} : hotF (some (a, x)) ct f = (x.cls ∈ ct ∧ f ∈ exFs x.cls) := rfl
theorem ix_s {a : Addr} {x : Ex} {cs : List Str} : isxD (some (a, x)) cs (.ref a) S P = P (.bl (cs.any fun c => subC x.cls c)) S := propext ⟨fun h => h.2, fun h => ⟨rfl, h⟩⟩
theorem fl_s {a : Addr} {x : Ex} {f : Str} : fldD (some (a, x)) f (.ref a) S P = oP (fun d => P d S) (x.fs.lookup f) := by
  rw [← oP_eq]
  exact propext ⟨fun h => h.2, fun h => ⟨rfl, h⟩⟩
def callHS (sp : Addr × Ex → Spec) (p : Addr × Ex) (ds : List D) (S : Sto) [c : KE] : Prop := sp p ds S c.q fun _ _ => False
theorem ch_s {p : Addr × Ex} {sp : Addr × Ex → Spec} {ds : List D} : clhD (some p) sp ds S P = @callHS sp p ds S ⟨P⟩ := rfl
/-! truth of the rest -/
theorem t_v {i : Nat} : (w X (.v i)).t δ S T = gv δ i fun d => truD d S T := by
  have : (w X (.v i)).t δ S T = (w X (.v i)).e δ S fun x S1 => truD x S1 T := rfl
  rw [this, e_v]
theorem t_B {b : Bool} : (w X (.cB b)).t δ S T = T b S := rfl
theorem t_N : (w X .cN).t δ S T = T false S := rfl
theorem t_I {i : Int} : (w X (.cI i)).t δ S T = T (i != 0) S := rfl
theorem t_ix {a i : E} : (w X (.ix a i)).t δ S T = (w X (.ix a i)).e δ S fun x S1 => truD x S1 T := rfl
theorem t_bin {o : BOp} {m : Bool} {a b : E} : (w X (.bin o m a b)).t δ S T = (w X (.bin o m a b)).e δ S fun x S1 => truD x S1 T := rfl
theorem t_call {x : Str} {sp : Spec} {es : Es} : (w X (.call x sp es)).t δ S T = (ws X es).all δ S fun ds S1 => @callS sp ds S1 (fun x S2 => X.x x δ S2) ⟨fun x S1 => truD x S1 T⟩ := rfl
theorem t_bi {b : BI} {m : Bool} {es : Es} : (w X (.bi b m es)).t δ S T = (ws X es).all δ S fun ds S1 => biO b m ds S1 fun x S1 => truD x S1 T := rfl
theorem t_sl {m : Bool} {a : E} {lo hi : Eo} : (w X (.sl m a lo hi)).t δ S T = (w X (.sl m a lo hi)).e δ S fun x S1 => truD x S1 T := rfl
theorem t_lc {m : Bool} {elt : E} {tg : G} {it : It'} {ifs : Es} : (w X (.lc m elt tg it ifs)).t δ S T = (w X (.lc m elt tg it ifs)).e δ S fun x S1 => truD x S1 T := rfl
/-! lists of expressions -/
theorem a_n {Q : List D → Sto → Prop} : (ws X .nil).all δ S Q = Q [] S := rfl
theorem a_c {a : E} {r : Es} {Q : List D → Sto → Prop} : (ws X (.cons a r)).all δ S Q = (w X a).e δ S fun x S1 => (ws X r).all δ S1 fun xs S2 => Q (x :: xs) S2 := by
  cases r <;> rfl
theorem if_n : (ws X .nil).ifs δ S T = T true S := rfl
theorem if_1 {a : E} : (ws X (.cons a .nil)).ifs δ S T = (w X a).t δ S T := rfl
theorem o_n {Q : Option Int → Sto → Prop} : wo X .none δ S Q = Q none S := rfl
theorem o_s {e : E} {Q : Option Int → Sto → Prop} : wo X (.some e) δ S Q = (w X e).e δ S fun x S1 => iP (fun i => Q (some i) S1) x := by
  have : wo X (.some e) δ S Q = (w X e).e δ S fun x S1 => ∃ i, x = .int i ∧ Q (some i) S1 := rfl
  rw [this]
  congr 1
  funext x S1
  exact iP_eq
/-! iterables -/
theorem i_val {a : E} {Q : List D → (Sto → Prop) → Sto → Prop} : wi X (.val a) δ S Q = (w X a).e δ S fun x S1 => ItP x S1 Q := rfl
theorem i_r1 {a : E} {Q : List D → (Sto → Prop) → Sto → Prop} : wi X (.r1 a) δ S Q = (w X a).e δ S fun x S1 => iP (fun j => R62 j ∧ Q (rngD 0 j.toNat) (fun _ => True) S1) x := by
  have : wi X (.r1 a) δ S Q = (w X a).e δ S fun x S1 => ∃ j, x = .int j ∧ R62 j ∧ Q (rngD 0 j.toNat) (fun _ => True) S1 := rfl
  rw [this]
  congr 1
  funext x S1
  exact iP_eq
theorem i_r2 {a b : E} {Q : List D → (Sto → Prop) → Sto → Prop} : wi X (.r2 a b) δ S Q = (w X a).e δ S fun x S1 => (w X b).e δ S1 fun y S2 => iP (fun i => iP (fun j => (R62 i ∧ R62 j) ∧ Q (rngD i (j - i).toNat) (fun _ => True) S2) y) x := by
  have : wi X (.r2 a b) δ S Q = (w X a).e δ S fun x S1 => (w X b).e δ S1 fun y S2 => ∃ i j, x = .int i ∧ y = .int j ∧ (R62 i ∧ R62 j) ∧ Q (rngD i (j - i).toNat) (fun _ => True) S2 := rfl
  rw [this]
  congr 1
  funext x S1
  congr 1
  funext y S2
  rw [← iP_eq]
  refine propext ⟨?_, ?_⟩
  · rintro ⟨i, j, h1, rfl, h⟩
    exact ⟨i, h1, h⟩
  · rintro ⟨i, h1, h⟩
    rw [← iP_eq] at h
    obtain ⟨j, h2, h⟩ := h
    exact ⟨i, j, h1, h2, h⟩
theorem i_r3 {a b c : E} {Q : List D → (Sto → Prop) → Sto → Prop} : wi X (.r3 a b c) δ S Q = (w X a).e δ S fun x S1 => (w X b).e δ S1 fun y S2 => (w X c).e δ S2 fun z S3 => iP (fun i => iP (fun j => iP (fun k => k = -1 ∧ (R62 i ∧ R62 j) ∧ Q (dwnD i (i - j).toNat) (fun _ => True) S3) z) y) x := by
  have : wi X (.r3 a b c) δ S Q = (w X a).e δ S fun x S1 => (w X b).e δ S1 fun y S2 => (w X c).e δ S2 fun z S3 => ∃ i j, x = .int i ∧ y = .int j ∧ z = .int (-1) ∧ (R62 i ∧ R62 j) ∧ Q (dwnD i (i - j).toNat) (fun _ => True) S3 := rfl
  rw [this]
  congr 1
  funext x S1
  congr 1
  funext y S2
  congr 1
  funext z S3
  refine propext ⟨?_, ?_⟩
  · rintro ⟨i, j, rfl, rfl, rfl, h⟩
    exact ⟨rfl, h⟩
  · intro h
    cases x with
    | int i =>
      cases y with
      | int j =>
        cases z with
        | int k =>
          obtain ⟨e, h⟩ := h
          exact ⟨i, j, rfl, rfl, congrArg D.int e, h⟩
        | _ => exact absurd h id
      | _ => exact absurd h id
    | _ => exact absurd h id
theorem i_enum {a : E} {Q : List D → (Sto → Prop) → Sto → Prop} : wi X (.enum a) δ S Q = (w X a).e δ S fun x S1 => ItQ x S1 fun ds src S2 => Q (enuD 0 ds) src S2 := rfl
theorem i_zip {a b : E} {Q : List D → (Sto → Prop) → Sto → Prop} : wi X (.zip a b) δ S Q = (w X a).e δ S fun x S1 => (w X b).e δ S1 fun y S2 => zipP x y S2 Q := rfl
theorem i_rev {a : E} {Q : List D → (Sto → Prop) → Sto → Prop} : wi X (.rev a) δ S Q = (w X a).e δ S fun x S1 => ItQ x S1 fun ds src S2 => Q ds.reverse src S2 := rfl
/-! operators of known kinds -/
theorem add_i {m : Bool} {i j : Int} : addD m (.int i) (.int j) S P = P (.int (i + j)) S := rfl
theorem add_s {m : Bool} {i j : Str} : addD m (.str i) (.str j) S P = (i.length + j.length ≤ sizeLine ∧ P (.str (i ++ j)) S) := rfl
theorem add_t {m : Bool} {i j : List D} : addD m (.tup i) (.tup j) S P = (i.length + j.length ≤ sizeLine ∧ P (.tup (i ++ j)) S) := rfl
theorem sub_i {i j : Int} : subD (.int i) (.int j) S P = P (.int (i - j)) S := rfl
theorem mul_i {m : Bool} {i j : Int} : mulD m (.int i) (.int j) S P = (CMulW i j ∧ P (.int (i * j)) S) := rfl
theorem fdiv_i {i j : Int} : fdivD (.int i) (.int j) S P = (CDvD j ∧ P (.int (i.fdiv j)) S) := rfl
theorem mod_i {i j : Int} : modD (.int i) (.int j) S P = (j ≠ 0 ∧ P (.int (i.fmod j)) S) := rfl
theorem pow_i {i j : Int} : powD (.int i) (.int j) S P = (CPwD i j ∧ P (.int (i ^ j.toNat)) S) := rfl
theorem neg_i {i : Int} : negD (.int i) S P = P (.int (-i)) S := rfl
theorem eq_i {i j : Int} : cmpD .eq (.int i) (.int j) S P = P (.bl (decide (i = j))) S := by
  show P (.bl (xor false _)) S = _
  rw [Bool.false_xor]
theorem eq_s {i j : Str} : cmpD .eq (.str i) (.str j) S P = P (.bl (decide (i = j))) S := by
  show P (.bl (xor false _)) S = _
  rw [Bool.false_xor]
theorem eq_b {i j : Bool} : cmpD .eq (.bl i) (.bl j) S P = P (.bl (decide (i = j))) S := by
  show P (.bl (xor false _)) S = _
  rw [Bool.false_xor]
theorem ne_i {i j : Int} : cmpD .ne (.int i) (.int j) S P = P (.bl (!decide (i = j))) S := by
  show P (.bl (xor true _)) S = _
  rw [Bool.true_xor]
theorem ne_s {i j : Str} : cmpD .ne (.str i) (.str j) S P = P (.bl (!decide (i = j))) S := by
  show P (.bl (xor true _)) S = _
  rw [Bool.true_xor]
theorem ne_b {i j : Bool} : cmpD .ne (.bl i) (.bl j) S P = P (.bl (!decide (i = j))) S := by
  show P (.bl (xor true _)) S = _
  rw [Bool.true_xor]
theorem lt_i {i j : Int} : cmpD .lt (.int i) (.int j) S P = P (.bl (decide (i < j))) S := rfl
theorem le_i {i j : Int} : cmpD .le (.int i) (.int j) S P = P (.bl (decide (i ≤ j))) S := rfl
theorem gt_i {i j : Int} : cmpD .gt (.int i) (.int j) S P = P (.bl (decide (j < i))) S := rfl
theorem ge_i {i j : Int} : cmpD .ge (.int i) (.int j) S P = P (.bl (decide (j ≤ i))) S := rfl
theorem is_N {x : D} : cmpD .isN x .non S P = P (.bl (isNon x)) S := by
  refine propext ⟨?_, fun h => .inl ⟨rfl, h⟩⟩
  rintro (h | ⟨_, _, ⟨_, e⟩, _⟩ | ⟨_, ⟨_, e⟩, _⟩)
  · exact h.2
  · cases e
  · cases e
theorem no_N {x : D} : cmpD .noN x .non S P = P (.bl (!isNon x)) S := by
  refine propext ⟨?_, fun h => .inl ⟨rfl, h⟩⟩
  rintro (h | ⟨_, _, ⟨_, e⟩, _⟩ | ⟨_, ⟨_, e⟩, _⟩)
  · exact h.2
  · cases e
  · cases e
theorem is_B {c d : Bool} : cmpD .isN (.bl c) (.bl d) S P = P (.bl (c == d)) S := by
  refine propext ⟨?_, fun h => .inr (.inl ⟨c, d, ⟨rfl, rfl⟩, h⟩)⟩
  rintro (h | ⟨_, _, ⟨e1, e2⟩, h⟩ | ⟨_, ⟨e1, _⟩, _⟩)
  · cases h.1
  · cases e1; cases e2; exact h
  · cases e1
theorem no_B {c d : Bool} : cmpD .noN (.bl c) (.bl d) S P = P (.bl (c != d)) S := by
  refine propext ⟨?_, fun h => .inr (.inl ⟨c, d, ⟨rfl, rfl⟩, h⟩)⟩
  rintro (h | ⟨_, _, ⟨e1, e2⟩, h⟩ | ⟨_, ⟨e1, _⟩, _⟩)
  · cases h.1
  · cases e1; cases e2; exact h
  · cases e1
theorem is_Bt {ds : List D} {d : Bool} : cmpD .isN (.tup ds) (.bl d) S P = P (.bl false) S := by
  refine propext ⟨?_, fun h => .inr (.inr ⟨d, ⟨rfl, rfl⟩, h⟩)⟩
  rintro (h | ⟨_, _, ⟨e1, _⟩, _⟩ | ⟨_, _, h⟩)
  · cases h.1
  · cases e1
  · exact h
theorem is_Bl {ds : List D} {d : Bool} : cmpD .isN (.lst ds) (.bl d) S P = P (.bl false) S := by
  refine propext ⟨?_, fun h => .inr (.inr ⟨d, ⟨rfl, rfl⟩, h⟩)⟩
  rintro (h | ⟨_, _, ⟨e1, _⟩, _⟩ | ⟨_, _, h⟩)
  · cases h.1
  · cases e1
  · exact h
theorem is_Bi {i : Int} {d : Bool} : cmpD .isN (.int i) (.bl d) S P = P (.bl false) S := by
  refine propext ⟨?_, fun h => .inr (.inr ⟨d, ⟨rfl, rfl⟩, h⟩)⟩
  rintro (h | ⟨_, _, ⟨e1, _⟩, _⟩ | ⟨_, _, h⟩)
  · cases h.1
  · cases e1
  · exact h
theorem is_Bs {z : Str} {d : Bool} : cmpD .isN (.str z) (.bl d) S P = P (.bl false) S := by
  refine propext ⟨?_, fun h => .inr (.inr ⟨d, ⟨rfl, rfl⟩, h⟩)⟩
  rintro (h | ⟨_, _, ⟨e1, _⟩, _⟩ | ⟨_, _, h⟩)
  · cases h.1
  · cases e1
  · exact h
theorem is_Bn {d : Bool} : cmpD .isN (.non) (.bl d) S P = P (.bl false) S := by
  refine propext ⟨?_, fun h => .inr (.inr ⟨d, ⟨rfl, rfl⟩, h⟩)⟩
  rintro (h | ⟨_, _, ⟨e1, _⟩, _⟩ | ⟨_, _, h⟩)
  · cases h.1
  · cases e1
  · exact h
theorem is_Br {a : Addr} {d : Bool} : cmpD .isN (.ref a) (.bl d) S P = P (.bl false) S := by
  refine propext ⟨?_, fun h => .inr (.inr ⟨d, ⟨rfl, rfl⟩, h⟩)⟩
  rintro (h | ⟨_, _, ⟨e1, _⟩, _⟩ | ⟨_, _, h⟩)
  · cases h.1
  · cases e1
  · exact h
theorem no_Bt {ds : List D} {d : Bool} : cmpD .noN (.tup ds) (.bl d) S P = P (.bl true) S := by
  refine propext ⟨?_, fun h => .inr (.inr ⟨d, ⟨rfl, rfl⟩, h⟩)⟩
  rintro (h | ⟨_, _, ⟨e1, _⟩, _⟩ | ⟨_, _, h⟩)
  · cases h.1
  · cases e1
  · exact h
theorem no_Bl {ds : List D} {d : Bool} : cmpD .noN (.lst ds) (.bl d) S P = P (.bl true) S := by
  refine propext ⟨?_, fun h => .inr (.inr ⟨d, ⟨rfl, rfl⟩, h⟩)⟩
  rintro (h | ⟨_, _, ⟨e1, _⟩, _⟩ | ⟨_, _, h⟩)
  · cases h.1
  · cases e1
  · exact h
theorem no_Bi {i : Int} {d : Bool} : cmpD .noN (.int i) (.bl d) S P = P (.bl true) S := by
  refine propext ⟨?_, fun h => .inr (.inr ⟨d, ⟨rfl, rfl⟩, h⟩)⟩
  rintro (h | ⟨_, _, ⟨e1, _⟩, _⟩ | ⟨_, _, h⟩)
  · cases h.1
  · cases e1
  · exact h
theorem no_Bs {z : Str} {d : Bool} : cmpD .noN (.str z) (.bl d) S P = P (.bl true) S := by
  refine propext ⟨?_, fun h => .inr (.inr ⟨d, ⟨rfl, rfl⟩, h⟩)⟩
  rintro (h | ⟨_, _, ⟨e1, _⟩, _⟩ | ⟨_, _, h⟩)
  · cases h.1
  · cases e1
  · exact h
theorem no_Bn {d : Bool} : cmpD .noN (.non) (.bl d) S P = P (.bl true) S := by
  refine propext ⟨?_, fun h => .inr (.inr ⟨d, ⟨rfl, rfl⟩, h⟩)⟩
  rintro (h | ⟨_, _, ⟨e1, _⟩, _⟩ | ⟨_, _, h⟩)
  · cases h.1
  · cases e1
  · exact h
theorem no_Br {a : Addr} {d : Bool} : cmpD .noN (.ref a) (.bl d) S P = P (.bl true) S := by
  refine propext ⟨?_, fun h => .inr (.inr ⟨d, ⟨rfl, rfl⟩, h⟩)⟩
  rintro (h | ⟨_, _, ⟨e1, _⟩, _⟩ | ⟨_, _, h⟩)
  · cases h.1
  · cases e1
  · exact h
theorem tr_b {b : Bool} : truD (.bl b) S T = T b S := rfl
theorem tr_i {i : Int} : truD (.int i) S T = T (i != 0) S := rfl
theorem tr_n : truD .non S T = T false S := rfl
theorem tr_t {ds : List D} : truD (.tup ds) S T = T (!ds.isEmpty) S := rfl
theorem tr_l {ds : List D} : truD (.lst ds) S T = T (!ds.isEmpty) S := rfl
theorem ix_t {ds : List D} {i : Int} : ixD (.tup ds) (.int i) S P = @ixS (atI ds i) S ⟨P⟩ := oP_eq
theorem ix_l {ds : List D} {i : Int} : ixD (.lst ds) (.int i) S P = @ixS (atI ds i) S ⟨P⟩ := oP_eq
theorem ix_rl {ds : List D} {i : Int} : ixD (.rls ds) (.int i) S P = @ixS (atI ds i) S ⟨P⟩ := oP_eq
theorem at_n {α : Type} {ds : List α} {n : Nat} (h : n < ds.length) : atI ds (n : Int) = ds[n]? := by
  unfold atI ixN
  rw [if_pos (Int.natCast_nonneg n), if_pos (by omega)]
  rfl
theorem at_0 {α : Type} {d : α} {ds : List α} : atI (d :: ds) 0 = some d := at_n (n := 0) (by simp)
theorem at_1 {α : Type} {c d : α} {ds : List α} : atI (c :: d :: ds) 1 = some d := at_n (n := 1) (by simp)
theorem at_2 {α : Type} {b c d : α} {ds : List α} : atI (b :: c :: d :: ds) 2 = some d := at_n (n := 2) (by simp)
theorem at_3 {α : Type} {a b c d : α} {ds : List α} : atI (a :: b :: c :: d :: ds) 3 = some d := at_n (n := 3) (by simp)
/-! statements -/
variable {Q : Pst}
theorem s_n : wSs X .nil Q δ S = Q.nx δ S := rfl
theorem s_c {s : Sm} {r : Sms} : wSs X (.cons s r) Q δ S = wS X s ⟨wSs X r Q, Q.rt, Q.bk, Q.ct⟩ δ S := rfl
theorem s_asg {g : G} {e : E} : wS X (.asg g e) Q δ S = (w X e).e δ S fun x S1 => wG g x δ S1 fun δ' => Q.nx δ' S1 := rfl
theorem s_asgL {i : Nat} {e : E} : wS X (.asgL i e) Q δ S = (w X e).e δ S fun x S1 => Q.nx (sv δ i x) S1 := by
  have : wS X (.asgL i e) Q δ S = (w X e).e δ S fun x S1 => Q.nx (δ.set i (some x)) S1 := rfl
  rw [this]
  congr 1
  funext x S1
  rw [sv_eq]
theorem s_par {is : List Nat} {es : Es} : wS X (.par is es) Q δ S = (ws X es).all δ S fun ds S1 => ds.length = is.length ∧ Q.nx (parD is ds δ) S1 := rfl
theorem s_swp {a i b j e : E} : wS X (.swp a i b j e) Q δ S = (w X e).e δ S fun d S1 => ∃ u v, d = .tup [u, v] ∧ (w X a).e δ S1 fun x S2 => (w X i).e δ S2 fun y S3 => setD x y u S3 fun S4 => (w X b).e δ S4 fun x2 S5 => (w X j).e δ S5 fun y2 S6 => setD x2 y2 v S6 fun S7 => Q.nx δ S7 := rfl
theorem s_set {a i e : E} : wS X (.setI a i e) Q δ S = (w X e).e δ S fun z S1 => (w X a).e δ S1 fun x S2 => (w X i).e δ S2 fun y S3 => setD x y z S3 fun S4 => Q.nx δ S4 := rfl
theorem s_ex {e : E} : wS X (.ex e) Q δ S = (w X e).e δ S fun _ S1 => Q.nx δ S1 := rfl
theorem s_ite {t : E} {a b : Sms} : wS X (.ite t a b) Q δ S = (w X t).t δ S fun k S1 => @iteS k (fun N => wSs X a ⟨N, Q.rt, Q.bk, Q.ct⟩ δ S1) (fun N => wSs X b ⟨N, Q.rt, Q.bk, Q.ct⟩ δ S1) ⟨Q.nx⟩ := rfl
theorem s_for {g : G} {it : It'} {b : Sms} : wS X (.for_ g it b) Q δ S = wi X it δ S fun ds src S1 => wFor g (wSs X b) src Q ds δ S1 := rfl
theorem s_wh {t : E} {b : Sms} : wS X (.wh t b) Q δ S = ∃ n, wWh (w X t).t (wSs X b) Q n δ S := rfl
theorem s_ret {e : E} : wS X (.ret e) Q δ S = (w X e).e δ S fun x S1 => Q.rt x S1 := rfl
theorem s_retN : wS X .retN Q δ S = Q.rt .non S := rfl
theorem s_pass : wS X .pass Q δ S = Q.nx δ S := rfl
theorem s_brk : wS X .brk Q δ S = Q.bk δ S := rfl
theorem s_rz : wS X .rz Q δ S = False := rfl
theorem s_raise {c : Str} {es : Es} : wS X (.raise_ c es) Q δ S = (ws X es).all δ S fun ds S1 => oP (fun e => X.x e δ S1) (mkEx c ds) := by
  have : wS X (.raise_ c es) Q δ S = (ws X es).all δ S fun ds S1 => ∃ e, mkEx c ds = some e ∧ X.x e δ S1 := rfl
  rw [this]
  congr 1
  funext ds S1
  exact oP_eq
/-- what the clauses do, kept out of sight -/
def hdS (x : Ex) (ct : List Str) (hs : Hds) (δ : Dts) (S : Sto) [c : KX] : Prop := x.cls ∈ ct ∧ wH c.x hs c.p x δ S
theorem s_try {ct : List Str} {b : Sms} {hs : Hds} : wS X (.try_ ct b hs) Q δ S = wSs ⟨fun x δ' S' => @hdS x ct hs δ' S' ⟨X, Q⟩, X.h⟩ b Q δ S := rfl
theorem h_n {P : Pst} {x : Ex} : wH X .nil P x δ S = X.x x δ S := rfl
theorem h_0 {c : Str} {su : Sms} {r : Hds} {P : Pst} {x : Ex} : wH X (.cons c none su r) P x δ S = if subC x.cls c = true then ∀ a, wSs ⟨fun _ _ _ => False, some (a, x)⟩ su P δ S else wH X r P x δ S := by
  rw [wH]
theorem h_1 {c : Str} {i : Nat} {su : Sms} {r : Hds} {P : Pst} {x : Ex} : wH X (.cons c (some i) su r) P x δ S = if subC x.cls c = true then ∀ a, wSs ⟨fun _ _ _ => False, some (a, x)⟩ su ⟨fun δ S => P.nx (wv δ i) S, P.rt, fun δ S => P.bk (wv δ i) S, fun δ S => P.ct (wv δ i) S⟩ (sv δ i (.ref a)) S else wH X r P x δ S := by
  rw [wH]
  simp only [wpP, wv_eq, sv_eq]
theorem s_cont : wS X .cont Q δ S = Q.ct δ S := rfl
theorem g_nm {i : Nat} {d : D} {S : Sto} {R : Dts → Prop} : wG (.nm i) d δ S R = R (sv δ i d) := by
  rw [← sv_eq]; rfl
theorem g_tl {gs : Gs} {ds : List D} {S : Sto} {R : Dts → Prop} {d : D} (h : sqx S d = some ds) : wG (.tp gs) d δ S R = wGs gs ds δ S R := by
  refine propext ⟨?_, fun w => ⟨ds, h, w⟩⟩
  rintro ⟨es, e, w⟩
  rw [h] at e
  cases e
  exact w
theorem g_tp {gs : Gs} {ds : List D} {S : Sto} {R : Dts → Prop} : wG (.tp gs) (.tup ds) δ S R = wGs gs ds δ S R := by
  refine propext ⟨?_, fun h => ⟨ds, rfl, h⟩⟩
  rintro ⟨es, e, h⟩
  cases e
  exact h
theorem g_ls {gs : Gs} {ds : List D} {S : Sto} {R : Dts → Prop} : wG (.tp gs) (.lst ds) δ S R = wGs gs ds δ S R := g_tl rfl
theorem g_n {S : Sto} {R : Dts → Prop} : wGs .nil [] δ S R = R δ := propext ⟨fun h => h.2, fun h => ⟨rfl, h⟩⟩
theorem g_c {g : G} {r : Gs} {d : D} {ds : List D} {S : Sto} {R : Dts → Prop} : wGs (.cons g r) (d :: ds) δ S R = wG g d δ S fun δ' => wGs r ds δ' S R := by
  refine propext ⟨?_, fun h => ⟨d, ds, rfl, h⟩⟩
  rintro ⟨_, _, e, h⟩
  cases e
  exact h
theorem par_n : parD [] [] δ = δ := rfl
theorem par_c {i : Nat} {is : List Nat} {d : D} {ds : List D} : parD (i :: is) (d :: ds) δ = parD is ds (sv δ i d) := by
  rw [← sv_eq]; rfl
theorem nw_f {ds : List D} : nwL false ds S P = P (.lst ds) S := rfl
theorem nw_t {ds : List D} : nwL true ds S P = ∀ p, S p = none → P (.ref p) (supd S p (.lst ds)) := rfl
theorem len_l {ds : List D} : biO .len false [.lst ds] S P = P (.int ds.length) S := by
  refine propext ⟨?_, fun h => ⟨ds, rfl, h⟩⟩
  rintro ⟨_, e, h⟩
  cases e
  exact h
theorem len_t {ds : List D} : biO .len false [.tup ds] S P = P (.int ds.length) S := by
  refine propext ⟨?_, fun h => ⟨ds, rfl, h⟩⟩
  rintro ⟨_, e, h⟩
  cases e
  exact h
theorem abs_i {i : Int} : biO .abs false [.int i] S P = P (.int (if i < 0 then -i else i)) S := rfl
theorem int_i {i : Int} : biO .int1 false [.int i] S P = P (.int i) S := rfl
theorem int_b {b : Bool} : biO .int1 false [.bl b] S P = P (.int (if b = true then 1 else 0)) S := rfl
theorem repr_h {x : D} : biO .repr false [x] S P = @reprS x S ⟨P⟩ := rfl
theorem max_i {i j : Int} : biO .max2 false [.int i, .int j] S P = P (.int (if j > i then j else i)) S := rfl
theorem min_i {i j : Int} : biO .min2 false [.int i, .int j] S P = P (.int (if j < i then j else i)) S := rfl
end
/-- a def's start -/
theorem st_0 {n : Nat} : startD n [] = List.replicate n none := by
  unfold startD
  simp
theorem st_s {n : Nat} {d : D} {ds : List D} : startD (n + 1) (d :: ds) = some d :: startD n ds := by
  unfold startD
  simp
end GB

/-! GB16: sizes of numbers, what is shown, the feed, draws. -/
namespace GB
open PySem PySem.Spec PyProof.Rows L2

/-! ### sizes -/
/-- below 2 ^ b -/
def Bt (b : Nat) (i : Int) : Prop := i.natAbs < 2 ^ b
theorem Bt.le {a b : Nat} {i : Int} (h : Bt a i) (l : a ≤ b) : Bt b i := Nat.lt_of_lt_of_le h (Nat.pow_le_pow_right (by decide) l)
theorem Bt.mul {a b : Nat} {i j : Int} (h : Bt a i) (k : Bt b j) : Bt (a + b) (i * j) := L2.wide_lt h k
theorem Bt.add {a : Nat} {i j : Int} (h : Bt a i) (k : Bt a j) : Bt (a + 1) (i + j) := by
  unfold Bt at *
  rw [Nat.pow_succ]
  omega
theorem Bt.sub {a : Nat} {i j : Int} (h : Bt a i) (k : Bt a j) : Bt (a + 1) (i - j) := by
  unfold Bt at *
  rw [Nat.pow_succ]
  omega
theorem Bt.neg {a : Nat} {i : Int} (h : Bt a i) : Bt a (-i) := by
  unfold Bt at *
  omega
theorem Bt.of_abs {a : Nat} {i j : Int} (h : Bt a j) (k : i.natAbs ≤ j.natAbs) : Bt a i := Nat.lt_of_le_of_lt k h
theorem Bt.lit {a : Nat} {i : Int} (h : decide (i.natAbs < 2 ^ a) = true) : Bt a i := (of_decide_eq_true h : i.natAbs < 2 ^ a)
theorem Bt.log {b : Nat} {i : Int} (h : Bt b i) (h0 : 0 < b) : i.natAbs.log2 < b := PySem.Flt.log2_lt_of h0 h
theorem Bt.cmul {a b : Nat} {i j : Int} (h : Bt a i) (k : Bt b j) (l : a + b + 2 ≤ 1000000) : CMulW i j :=
  L2.wide_mul (h.le (Nat.le_succ a)) (k.le (Nat.le_succ b)) (by omega) (by omega) (by omega)
theorem Bt.cdv {b : Nat} {j : Int} (h : Bt b j) (h0 : j ≠ 0) (l : b + 1 ≤ 9000) : CDvD j := ⟨h0, Nat.lt_of_lt_of_le ((h.le (Nat.le_succ b)).log (by omega)) l⟩
theorem Bt.cpw {b : Nat} {i j : Int} (h : Bt b i) (h0 : 0 ≤ j) (l : (b + 2) * j.toNat ≤ 134217728) : CPwD i j := by
  refine ⟨h0, Nat.le_trans (Nat.mul_le_mul_right _ ?_) l⟩
  have := (h.le (Nat.le_succ b)).log (by omega)
  omega
theorem Bt.range {b : Nat} {r m : Int} (h : Bt b m) (h0 : 0 ≤ r) (h1 : r < m) : Bt b r := by
  unfold Bt at *
  omega

/-! ### what is shown -/
mutual
theorem noDict_of_plain : ∀ d : PyData, d.plain = true → d.hasDict = false
  | .none, _ => rfl
  | .bool _, _ => rfl
  | .int _, _ => rfl
  | .str _, _ => rfl
  | .list xs, h => by
    simp only [PyData.hasDict]
    exact noDictAll_of_plain xs (by simpa [PyData.plain] using h)
  | .tuple xs, h => by
    simp only [PyData.hasDict]
    exact noDictAll_of_plain xs (by simpa [PyData.plain] using h)
  | .dict _, h => by simp [PyData.plain] at h
theorem noDictAll_of_plain : ∀ xs : List PyData, PyData.plainAll xs = true → PyData.hasDictAll xs = false
  | [], _ => rfl
  | x :: xs, h => by
    have h' : x.plain = true ∧ PyData.plainAll xs = true := by simpa [PyData.plainAll] using h
    simp only [PyData.hasDictAll, noDict_of_plain x h'.1, noDictAll_of_plain xs h'.2, Bool.or_self]
end
/-- as data that can be compared -/
structure Pd (S : Sto) (x : D) (d : PyData) (k : Nat) : Prop where
  py : ∃ n, pyOf S n x = some d
  cl : d.plain = true
  dp : d.depth ≤ k
structure PdL (S : Sto) (xs : List D) (ds : List PyData) (k : Nat) : Prop where
  py : ∃ n, pyL (pyOf S n) xs = some ds
  cl : PyData.plainAll ds = true
  dp : PyData.depthAll ds ≤ k
/-- .. and shown -/
structure Sh (S : Sto) (x : D) (d : PyData) (k b : Nat) : Prop where
  pd : Pd S x d k
  sh : d.showable = true
  lv : d.leavesShort 1921 = true
  bk : d.bulk ≤ b
structure ShL (S : Sto) (xs : List D) (ds : List PyData) (k b : Nat) : Prop where
  pd : PdL S xs ds k
  sh : PyData.showableAll ds = true
  lv : PyData.leavesShortAll 1921 ds = true
  bk : PyData.bulkAll ds ≤ b
theorem pyL_mono {f g : D → Option PyData} (h : ∀ x d, f x = some d → g x = some d) : ∀ (xs : List D) (ds : List PyData), pyL f xs = some ds → pyL g xs = some ds
  | [], _, e => e
  | x :: xs, ds, e => by
    unfold pyL at e ⊢
    cases h1 : f x with
    | none => rw [h1] at e; cases e
    | some d =>
      rw [h1] at e
      cases h2 : pyL f xs with
      | none => rw [h2] at e; cases e
      | some es =>
        rw [h2] at e
        rw [h x d h1, pyL_mono h xs es h2]
        exact e
theorem pyOf_succ {S : Sto} : ∀ (n : Nat) (x : D) (d : PyData), pyOf S n x = some d → pyOf S (n + 1) x = some d := by
  intro n
  induction n with
  | zero => intro x d e; cases e
  | succ n ih =>
    intro x d e
    have map : ∀ {xs : List D} {f : List PyData → PyData}, (pyL (pyOf S n) xs).map f = some d → (pyL (pyOf S (n + 1)) xs).map f = some d := by
      intro xs f e
      cases q : pyL (pyOf S n) xs with
      | none => rw [q] at e; cases e
      | some ds =>
        rw [q] at e
        rw [pyL_mono ih xs ds q]
        exact e
    cases x with
    | non => exact e
    | bl _ => exact e
    | int _ => exact e
    | str _ => exact e
    | tup xs => exact map e
    | lst xs => exact map e
    | rls xs => exact map e
    | dct _ => exact e
    | ref p =>
      unfold pyOf at e ⊢
      cases q : cL (S p) with
      | none => rw [q] at e; cases e
      | some ds =>
        rw [q] at e
        exact map e
theorem pyOf_le {S : Sto} {n m : Nat} (h : n ≤ m) {x : D} {d : PyData} (e : pyOf S n x = some d) : pyOf S m x = some d := by
  induction m with
  | zero =>
    obtain rfl := Nat.le_zero.mp h
    exact e
  | succ m ih =>
    by_cases c : n = m + 1
    · subst c; exact e
    · exact pyOf_succ m x d (ih (by omega))
theorem pyL_le {S : Sto} {n m : Nat} (h : n ≤ m) {xs : List D} {ds : List PyData} (e : pyL (pyOf S n) xs = some ds) : pyL (pyOf S m) xs = some ds := pyL_mono (fun _ _ q => pyOf_le h q) xs ds e

section
variable {S : Sto} {k b : Nat}
theorem Pd.le {x : D} {d : PyData} {k' : Nat} (h : Pd S x d k) (h1 : k ≤ k') : Pd S x d k' := ⟨h.py, h.cl, Nat.le_trans h.dp h1⟩
theorem PdL.le {x : List D} {d : List PyData} {k' : Nat} (h : PdL S x d k) (h1 : k ≤ k') : PdL S x d k' := ⟨h.py, h.cl, Nat.le_trans h.dp h1⟩
theorem Pd.non : Pd S .non .none 0 := ⟨⟨1, rfl⟩, rfl, Nat.le_refl _⟩
theorem Pd.bl {c : Bool} : Pd S (.bl c) (.bool c) 0 := ⟨⟨1, rfl⟩, rfl, Nat.le_refl _⟩
theorem Pd.int {i : Int} : Pd S (.int i) (.int i) 0 := ⟨⟨1, rfl⟩, rfl, Nat.le_refl _⟩
theorem PdL.nil : PdL S [] [] 0 := ⟨⟨0, rfl⟩, rfl, Nat.le_refl _⟩
theorem PdL.cons {x : D} {d : PyData} {xs : List D} {ds : List PyData} (h : Pd S x d k) (t : PdL S xs ds k) : PdL S (x :: xs) (d :: ds) k := by
  obtain ⟨n, e⟩ := h.py
  obtain ⟨m, e'⟩ := t.py
  refine ⟨⟨max n m, ?_⟩, ?_, ?_⟩
  · unfold pyL
    rw [pyOf_le (Nat.le_max_left n m) e, pyL_le (Nat.le_max_right n m) e']
  · simp only [PyData.plainAll, h.cl, t.cl, Bool.and_true]
  · simp only [PyData.depthAll]
    exact Nat.max_le.mpr ⟨h.dp, t.dp⟩
theorem PdL.map {α : Type} {f : α → D} {g : α → PyData} (h : ∀ a, Pd S (f a) (g a) k) : ∀ xs : List α, PdL S (xs.map f) (xs.map g) k
  | [] => PdL.nil.le (Nat.zero_le k)
  | x :: xs => PdL.cons (h x) (PdL.map h xs)
theorem PdL.tup {xs : List D} {ds : List PyData} (h : PdL S xs ds k) : Pd S (.tup xs) (.tuple ds) (k + 1) := by
  obtain ⟨n, e⟩ := h.py
  refine ⟨⟨n + 1, ?_⟩, h.cl, ?_⟩
  · unfold pyOf
    rw [e]; rfl
  · simp only [PyData.depth]
    have := h.dp
    omega
theorem PdL.lst {xs : List D} {ds : List PyData} (h : PdL S xs ds k) : Pd S (.lst xs) (.list ds) (k + 1) := by
  obtain ⟨n, e⟩ := h.py
  refine ⟨⟨n + 1, ?_⟩, h.cl, ?_⟩
  · unfold pyOf
    rw [e]; rfl
  · simp only [PyData.depth]
    have := h.dp
    omega
/-- a list, however it stands -/
theorem PdL.lsx {x : D} {xs : List D} {ds : List PyData} (h : PdL S xs ds k) (hx : lsx S x = some xs) : Pd S x (.list ds) (k + 1) := by
  cases x with
  | lst ys =>
    cases hx
    exact h.lst
  | rls ys =>
    cases hx
    obtain ⟨n, e⟩ := h.py
    refine ⟨⟨n + 1, ?_⟩, h.cl, ?_⟩
    · unfold pyOf
      rw [e]; rfl
    · simp only [PyData.depth]
      have := h.dp
      omega
  | ref p =>
    obtain ⟨n, e⟩ := h.py
    refine ⟨⟨n + 1, ?_⟩, h.cl, ?_⟩
    · unfold pyOf
      have hx : cL (S p) = some xs := hx
      rw [hx]
      show (pyL (pyOf S n) xs).map _ = _
      rw [e]; rfl
    · simp only [PyData.depth]
      have := h.dp
      omega
  | _ => cases hx
theorem Sh.le {x : D} {d : PyData} {k' b' : Nat} (h : Sh S x d k b) (h1 : k ≤ k') (h2 : b ≤ b') : Sh S x d k' b' := ⟨h.pd.le h1, h.sh, h.lv, Nat.le_trans h.bk h2⟩
theorem ShL.le {x : List D} {d : List PyData} {k' b' : Nat} (h : ShL S x d k b) (h1 : k ≤ k') (h2 : b ≤ b') : ShL S x d k' b' := ⟨h.pd.le h1, h.sh, h.lv, Nat.le_trans h.bk h2⟩
theorem Sh.non : Sh S .non .none 0 0 := ⟨.non, rfl, rfl, Nat.le_refl _⟩
theorem Sh.bl {c : Bool} : Sh S (.bl c) (.bool c) 0 0 := ⟨.bl, rfl, rfl, Nat.le_refl _⟩
theorem Sh.int {i : Int} (h : Bt 1920 i) : Sh S (.int i) (.int i) 0 0 := ⟨.int, decide_eq_true (h.log (by decide)), decide_eq_true (int_text_len_1921 (h.log (by decide))), Nat.le_refl _⟩
theorem ShL.nil : ShL S [] [] 0 0 := ⟨.nil, rfl, rfl, Nat.le_refl _⟩
theorem ShL.cons {x : D} {d : PyData} {xs : List D} {ds : List PyData} {c : Nat} (h : Sh S x d k b) (t : ShL S xs ds k c) : ShL S (x :: xs) (d :: ds) k (b + 1 + c) := by
  refine ⟨PdL.cons h.pd t.pd, ?_, ?_, ?_⟩
  · simp only [PyData.showableAll, h.sh, t.sh, Bool.and_true]
  · simp only [PyData.leavesShortAll, h.lv, t.lv, Bool.and_true]
  · simp only [PyData.bulkAll]
    have := h.bk
    have := t.bk
    omega
theorem ShL.map {α : Type} {f : α → D} {g : α → PyData} : ∀ xs : List α, (∀ a ∈ xs, Sh S (f a) (g a) k b) → ShL S (xs.map f) (xs.map g) k ((b + 1) * xs.length)
  | [], _ => ShL.nil.le (Nat.zero_le k) (Nat.zero_le _)
  | x :: xs, h => (ShL.cons (h x List.mem_cons_self) (ShL.map xs fun a m => h a (List.mem_cons_of_mem _ m))).le (Nat.le_refl _) (by rw [List.length_cons, Nat.mul_succ]; omega)
theorem ShL.tup {xs : List D} {ds : List PyData} (h : ShL S xs ds k b) : Sh S (.tup xs) (.tuple ds) (k + 1) b := ⟨h.pd.tup, h.sh, h.lv, h.bk⟩
theorem ShL.lst {xs : List D} {ds : List PyData} (h : ShL S xs ds k b) : Sh S (.lst xs) (.list ds) (k + 1) b := ⟨h.pd.lst, h.sh, h.lv, h.bk⟩
theorem ShL.lsx {x : D} {xs : List D} {ds : List PyData} (h : ShL S xs ds k b) (hx : lsx S x = some xs) : Sh S x (.list ds) (k + 1) b := ⟨h.pd.lsx hx, h.sh, h.lv, h.bk⟩
theorem Sh.repr {x : D} {d : PyData} {P : EQ} (h : Sh S x d k b) (h1 : k ≤ 60) (h2 : b ≤ 8000) (p : P (.str d.shown) S) : biO .repr false [x] S P := by
  obtain ⟨n, e⟩ := h.pd.py
  refine ⟨n, d, e, h.sh, noDict_of_plain d h.pd.cl, Nat.le_trans h.pd.dp h1, ?_, p⟩
  have := PyData.shown_le_bulk 1921 (by decide) d h.lv
  have e : sizeLine = 16777216 := by decide
  have := h.bk
  omega
theorem Pd.shaped {x : D} {d : PyData} (h : Pd S x d k) (l : k ≤ 64) : shp d = true := Bool.and_eq_true_iff.mpr ⟨h.cl, decide_eq_true (Nat.le_trans h.dp l)⟩
/-- comparing two things as data -/
theorem Pd.eqD {x y : D} {d e : PyData} {j : Nat} {neg : Bool} {P : EQ} (h : Pd S x d k) (g : Pd S y e j) (h1 : k ≤ 64) (h2 : j ≤ 64) (p : P (.bl (xor neg (PyData.eqv d e))) S) : eqD neg x y S P := by
  obtain ⟨n, e1⟩ := h.py
  obtain ⟨m, e2⟩ := g.py
  have base : ∃ n d e, pyOf S n x = some d ∧ pyOf S n y = some e ∧ shp d = true ∧ shp e = true ∧ P (.bl (xor neg (PyData.eqv d e))) S :=
    ⟨max n m, d, e, pyOf_le (Nat.le_max_left n m) e1, pyOf_le (Nat.le_max_right n m) e2, h.shaped h1, g.shaped h2, p⟩
  have up : ∀ {x : D} {d : PyData} {n : Nat}, pyOf S n x = some d → ∃ n, pyOf S (n + 1) x = some d := by
    intro x d n e
    cases n with
    | zero => cases e
    | succ n => exact ⟨n, e⟩
  cases x with
  | int i =>
    cases y with
    | int j =>
      obtain ⟨_, e1⟩ := up e1
      obtain ⟨_, e2⟩ := up e2
      cases e1; cases e2
      exact p
    | _ => exact base
  | str i =>
    cases y with
    | str j =>
      obtain ⟨_, e1⟩ := up e1
      obtain ⟨_, e2⟩ := up e2
      cases e1; cases e2
      have : PyData.eqv (.str i) (.str j) = decide (i = j) := by
        by_cases c : i = j
        · subst c; simp [PyData.eqv]
        · simp [PyData.eqv, c]
      rw [this] at p
      exact p
    | _ => exact base
  | bl i =>
    cases y with
    | bl j =>
      obtain ⟨_, e1⟩ := up e1
      obtain ⟨_, e2⟩ := up e2
      cases e1; cases e2
      have : PyData.eqv (.bool i) (.bool j) = decide (i = j) := by
        by_cases c : i = j
        · subst c; simp [PyData.eqv]
        · simp [PyData.eqv, c]
      rw [this] at p
      exact p
    | _ => exact base
  | _ => exact base
end

/-! ### the feed -/
def feedC (cs : List Int) (a l t : Int) : Cell := .dct [(.inr "cells", .lst (cs.map D.int)), (.inr "at", .int a), (.inr "left", .int l), (.inr "turn", .int t)]
def Feed (n : Nat) (S : Sto) (p : Addr) : Prop := ∃ (cs : List Int) (a l t : Int), S p = some (feedC cs a l t) ∧ (0 ≤ a ∧ 0 ≤ t ∧ t ≤ n) ∧ cs.length ≤ 63
theorem Feed.le {n m : Nat} {S : Sto} {p : Addr} (h : Feed n S p) (l : n ≤ m) : Feed m S p := by
  obtain ⟨cs, a, e, t, h1, h2, h3⟩ := h
  exact ⟨cs, a, e, t, h1, by omega, h3⟩
theorem Feed.of {n : Nat} {S S' : Sto} {p : Addr} (h : Feed n S p) (e : S' p = S p) : Feed n S' p := by
  obtain ⟨cs, a, l, t, h1, h2, h3⟩ := h
  exact ⟨cs, a, l, t, e.trans h1, h2, h3⟩
theorem Feed.ne {n : Nat} {S : Sto} {p q : Addr} (h : Feed n S p) (e : S q = none) : q ≠ p := by
  obtain ⟨cs, a, l, t, h1, h2, h3⟩ := h
  intro z
  subst z
  rw [h1] at e
  cases e
/-- the feed goes on by at most k draws, all else stays -/
structure Adv (p : Addr) (n k : Nat) (S S' : Sto) : Prop where
  fd : Feed (n + k) S' p
  eq : ∀ q, q ≠ p → S' q = S q
theorem Adv.trans {p : Addr} {n j k : Nat} {S T U : Sto} (h : Adv p n j S T) (g : Adv p (n + j) k T U) : Adv p n (j + k) S U :=
  ⟨by rw [← Nat.add_assoc]; exact g.fd, fun q e => (g.eq q e).trans (h.eq q e)⟩
theorem Adv.le {p : Addr} {n j k : Nat} {S T : Sto} (h : Adv p n j S T) (l : j ≤ k) : Adv p n k S T := ⟨h.fd.le (by omega), h.eq⟩
theorem Adv.refl {p : Addr} {n : Nat} {S : Sto} (h : Feed n S p) : Adv p n 0 S S := ⟨h, fun _ _ => rfl⟩
/-- numbers drawn: fewer than -/
def nMost : Nat := 2 ^ 40
def spDraw : Spec := fun ds S Q _ => match ds with
  | [.ref p, .int m] => (0 < m ∧ Bt 8000 m) ∧ ∃ n, Feed n S p ∧ n < nMost ∧ ∀ (r : Int) (S' : Sto), 0 ≤ r → r < m → Adv p n 1 S S' → Q (.int r) S'
  | _ => False
def spFeed : Spec := fun ds S Q _ => match ds with
  | [.rls ns] => ∃ cs : List Int, ns = cs.map D.int ∧ cs.length ≤ 63 ∧ ∀ (p : Addr) (S' : Sto), S p = none → Feed 0 S' p → (∀ q, q ≠ p → S' q = S q) → Q (.ref p) S'
  | _ => False
end GB

/-! GB17: cells of the store, loops, the feed's steps. -/
namespace GB
open PySem PySem.Spec PyProof.Rows L2

theorem supd_supd {S : Sto} {p : Addr} {c d : Cell} : supd (supd S p c) p d = supd S p d := by
  funext q
  unfold supd
  split <;> rfl
theorem supd_self {S : Sto} {p : Addr} {c : Cell} (h : S p = some c) : supd S p c = S := by
  funext q
  unfold supd
  split
  · rename_i e; subst e; exact h.symm
  · rfl
theorem ix_ref {S : Sto} {p : Addr} {c : Cell} {y : D} {P : EQ} : ixD (.ref p) y (supd S p c) P = ixC (some c) y (supd S p c) P := by
  show ixC (supd S p c p) y (supd S p c) P = _
  rw [supd_same]
theorem set_ref {S : Sto} {p : Addr} {c : Cell} {y z : D} {P : Sto → Prop} : setD (.ref p) y z (supd S p c) P = setC p (some c) y z (supd S p c) P := by
  show setC p (supd S p c p) y z (supd S p c) P = _
  rw [supd_same]
section
variable {S : Sto} {p : Addr} {cs : List Int} {a l t v : Int} {P : EQ} {R : Sto → Prop}
theorem fd_turn : ixC (some (feedC cs a l t)) (.str "turn") S P = P (.int t) S := by
  refine propext ⟨?_, fun h => ⟨_, _, rfl, rfl, h⟩⟩
  rintro ⟨k, d, e1, e2, h⟩
  cases e1; cases e2; exact h
theorem fd_left : ixC (some (feedC cs a l t)) (.str "left") S P = P (.int l) S := by
  refine propext ⟨?_, fun h => ⟨_, _, rfl, rfl, h⟩⟩
  rintro ⟨k, d, e1, e2, h⟩
  cases e1; cases e2; exact h
theorem fd_at : ixC (some (feedC cs a l t)) (.str "at") S P = P (.int a) S := by
  refine propext ⟨?_, fun h => ⟨_, _, rfl, rfl, h⟩⟩
  rintro ⟨k, d, e1, e2, h⟩
  cases e1; cases e2; exact h
theorem fd_cells : ixC (some (feedC cs a l t)) (.str "cells") S P = P (.lst (cs.map D.int)) S := by
  refine propext ⟨?_, fun h => ⟨_, _, rfl, rfl, h⟩⟩
  rintro ⟨k, d, e1, e2, h⟩
  cases e1; cases e2; exact h
theorem fs_turn : setC p (some (feedC cs a l t)) (.str "turn") (.int v) (supd S p (feedC cs a l t)) R = R (supd S p (feedC cs a l v)) := by
  have e : putD [(.inr "cells", .lst (cs.map D.int)), (.inr "at", .int a), (.inr "left", .int l), (.inr "turn", .int t)] (.inr "turn" : Key) (.int v) = [(.inr "cells", .lst (cs.map D.int)), (.inr "at", .int a), (.inr "left", .int l), (.inr "turn", .int v)] := rfl
  refine propext ⟨?_, fun h => ⟨_, rfl, (by decide : 4 < sizeLine), ?_⟩⟩
  · rintro ⟨k, e1, _, h⟩
    cases e1
    rw [e, supd_supd] at h
    exact h
  · rw [e, supd_supd]
    exact h
theorem fs_left : setC p (some (feedC cs a l t)) (.str "left") (.int v) (supd S p (feedC cs a l t)) R = R (supd S p (feedC cs a v t)) := by
  have e : putD [(.inr "cells", .lst (cs.map D.int)), (.inr "at", .int a), (.inr "left", .int l), (.inr "turn", .int t)] (.inr "left" : Key) (.int v) = [(.inr "cells", .lst (cs.map D.int)), (.inr "at", .int a), (.inr "left", .int v), (.inr "turn", .int t)] := rfl
  refine propext ⟨?_, fun h => ⟨_, rfl, (by decide : 4 < sizeLine), ?_⟩⟩
  · rintro ⟨k, e1, _, h⟩
    cases e1
    rw [e, supd_supd] at h
    exact h
  · rw [e, supd_supd]
    exact h
theorem fs_at : setC p (some (feedC cs a l t)) (.str "at") (.int v) (supd S p (feedC cs a l t)) R = R (supd S p (feedC cs v l t)) := by
  have e : putD [(.inr "cells", .lst (cs.map D.int)), (.inr "at", .int a), (.inr "left", .int l), (.inr "turn", .int t)] (.inr "at" : Key) (.int v) = [(.inr "cells", .lst (cs.map D.int)), (.inr "at", .int v), (.inr "left", .int l), (.inr "turn", .int t)] := rfl
  refine propext ⟨?_, fun h => ⟨_, rfl, (by decide : 4 < sizeLine), ?_⟩⟩
  · rintro ⟨k, e1, _, h⟩
    cases e1
    rw [e, supd_supd] at h
    exact h
  · rw [e, supd_supd]
    exact h
/-- a list of ints beside the empty list -/
theorem ne_nil {T : Bool → Sto → Prop} : cmpD .ne (.lst (cs.map D.int)) (.lst []) S (bP T) = T (!cs.isEmpty) S := by
  refine propext ⟨?_, ?_⟩
  · intro h
    obtain ⟨n, d, e, h1, h2, h3, h4, h5⟩ := h
    cases n with
    | zero => cases h1
    | succ n =>
      cases h2
      cases cs with
      | nil =>
        cases h1
        exact h5
      | cons c cs =>
        unfold pyOf at h1
        cases q : pyL (pyOf S n) ((c :: cs).map D.int) with
        | none => rw [q] at h1; cases h1
        | some ds =>
          rw [q] at h1
          cases h1
          cases ds with
          | nil =>
            unfold pyL at q
            simp only [List.map_cons] at q
            cases z : pyOf S n (.int c) with
            | none => rw [z] at q; cases q
            | some u =>
              rw [z] at q
              cases z2 : pyL (pyOf S n) (cs.map D.int) with
              | none => rw [z2] at q; cases q
              | some u2 => rw [z2] at q; cases q
          | cons d ds => exact h5
  · intro h
    have g1 : Pd S (.lst (cs.map D.int)) (.list (cs.map PyData.int)) 1 := (PdL.map (fun _ => Pd.int) cs).lst
    have g2 : Pd S (.lst []) (.list []) 1 := (PdL.nil (S := S)).lst
    refine Pd.eqD (neg := true) g1 g2 (by decide) (by decide) ?_
    cases cs with
    | nil => exact h
    | cons c cs => exact h
theorem len_is {T : EQ} : biO .len false [.lst (cs.map D.int)] S T = T (.int cs.length) S := by
  rw [len_l, List.length_map]
end

/-! ### loops -/
theorem for_nil {g : G} {body : WpS} {src : Sto → Prop} {P : Pst} {δ : Dts} {S : Sto} : wFor g body src P [] δ S = P.nx δ S := rfl
theorem for_cons {g : G} {body : WpS} {src : Sto → Prop} {P : Pst} {d : D} {ds : List D} {δ : Dts} {S : Sto} : wFor g body src P (d :: ds) δ S =
    wG g d δ S fun δ' => body ⟨fun δ2 S2 => src S2 ∧ wFor g body src P ds δ2 S2, P.rt, P.nx, fun δ2 S2 => src S2 ∧ wFor g body src P ds δ2 S2⟩ δ' S := rfl
/-- a loop by what it keeps: each turn, from what stands -/
theorem for_inv {g : G} {body : WpS} {src : Sto → Prop} {P : Pst} (I : List D → Dts → Sto → Prop)
    (step : ∀ (d : D) (ds : List D) (δ : Dts) (S : Sto) (nx : Dts → Sto → Prop), (∀ δ2 S2, src S2 → I ds δ2 S2 → nx δ2 S2) → I (d :: ds) δ S → wG g d δ S fun δ' => body ⟨nx, P.rt, P.nx, nx⟩ δ' S)
    (fin : ∀ δ S, I [] δ S → P.nx δ S) (keep : ∀ ds δ S, I ds δ S → src S) : ∀ (ds : List D) (δ : Dts) (S : Sto), I ds δ S → wFor g body src P ds δ S
  | [], δ, S, h => fin δ S h
  | d :: ds, δ, S, h => by
    rw [for_cons]
    exact step d ds δ S _ (fun δ2 S2 s i => ⟨s, for_inv I step fin keep ds δ2 S2 i⟩) h
theorem rng_0 {lo : Int} : rngD lo 0 = [] := rfl
theorem rng_s {lo : Int} {n : Nat} : rngD lo (n + 1) = .int lo :: rngD (lo + 1) n := by
  unfold rngD
  rw [List.range_succ_eq_map, List.map_cons, List.map_map]
  congr 1
  · simp
  · refine List.map_congr_left fun i _ => ?_
    show D.int (lo + ((i + 1 : Nat) : Int)) = D.int (lo + 1 + (i : Int))
    rw [show lo + ((i + 1 : Nat) : Int) = lo + 1 + (i : Int) by omega]
theorem rng_len {lo : Int} {n : Nat} : (rngD lo n).length = n := by
  unfold rngD
  simp
theorem map_at {α β : Type} {f : α → β} {xs : List α} {i : Int} : atI (xs.map f) i = (atI xs i).map f := by
  unfold atI
  rw [List.length_map]
  cases ixN xs.length i with
  | none => rfl
  | some j => exact List.getElem?_map
theorem at_has {α : Type} {xs : List α} {i : Int} (h0 : 0 ≤ i) (h1 : i < xs.length) : ∃ x, atI xs i = some x ∧ x ∈ xs := by
  unfold atI ixN
  rw [if_pos h0, if_pos h1]
  have : i.toNat < xs.length := by omega
  exact ⟨xs[i.toNat], List.getElem?_eq_getElem this, List.getElem_mem _⟩
theorem at_last {α : Type} {xs : List α} (h : xs ≠ []) : atI xs (-1) = xs.getLast? := by
  have : 0 < xs.length := List.length_pos_iff.mpr h
  unfold atI ixN
  rw [if_neg (by omega), if_pos (by omega), List.getLast?_eq_getElem?]
  show xs[((-1 : Int) + (xs.length : Int)).toNat]? = _
  congr 1
  omega
theorem oP_ok {α : Type} {Q : α → Prop} {o : Option α} {x : α} (e : o = some x) (h : Q x) : oP Q o := by
  subst e
  exact h
theorem Bt.fmod {b : Nat} {i m : Int} (h : Bt b m) (h0 : 0 < m) : Bt b (i.fmod m) := h.range (Int.fmod_nonneg_of_pos i h0) (Int.fmod_lt_of_pos i h0)
/-- the mixing of a draw -/
theorem draw_mix {c t m : Int} {n : Nat} (ht : 0 ≤ t) (htn : t ≤ n) (hn : n < nMost) (h0 : 0 < m) {P : Prop} (h : P) : (2147483629 : Int) ≠ 0 ∧ CMulW 7919 (t + 1) ∧ CPwD (c.fmod 2147483629 + 7919 * (t + 1) + 1) 5 ∧ (2147483647 : Int) ≠ 0 ∧ CMulW 2 (t + 1) ∧
    CMulW (((c.fmod 2147483629 + 7919 * (t + 1) + 1) ^ Int.toNat 5).fmod 2147483647) (2 * (t + 1) + 104729) ∧
    CPwD (((c.fmod 2147483629 + 7919 * (t + 1) + 1) ^ Int.toNat 5).fmod 2147483647 * (2 * (t + 1) + 104729) + 69621) 3 ∧ (2147483629 : Int) ≠ 0 ∧ CDvD 64 ∧ m ≠ 0 ∧ P := by
  have hm : nMost = 1099511627776 := by decide
  have t1 : Bt 42 (t + 1) := by
    show (t + 1).natAbs < 4398046511104
    omega
  have c1 : Bt 64 (c.fmod 2147483629) := Bt.fmod (Bt.lit (by decide)) (by decide)
  have c2 : Bt 64 (7919 * (t + 1)) := (Bt.mul (a := 20) (Bt.lit (by decide)) t1).le (by decide)
  have c3 : Bt 66 (c.fmod 2147483629 + 7919 * (t + 1) + 1) := Bt.add (c1.add c2) (Bt.lit (by decide))
  have c4 : Bt 32 (((c.fmod 2147483629 + 7919 * (t + 1) + 1) ^ Int.toNat 5).fmod 2147483647) := Bt.fmod (Bt.lit (by decide)) (by decide)
  have c5 : Bt 45 (2 * (t + 1) + 104729) := Bt.add ((Bt.mul (a := 2) (Bt.lit (by decide)) t1).le (by decide)) (Bt.lit (by decide))
  have c6 := Bt.add (c4.mul c5) (Bt.lit (i := 69621) (by decide))
  exact ⟨by decide, Bt.cmul (a := 20) (Bt.lit (by decide)) t1 (by decide), c3.cpw (by decide) (by decide), by decide, Bt.cmul (a := 2) (Bt.lit (by decide)) t1 (by decide), c4.cmul c5 (by decide), c6.cpw (by decide) (by decide), by decide, Bt.cdv (b := 8) (Bt.lit (by decide)) (by decide) (by decide), by omega, h⟩
theorem Feed.new {n : Nat} {S : Sto} {p : Addr} {cs : List Int} {a l t a' l' t' : Int} (hS : S p = some (feedC cs a l t)) (h : 0 ≤ a' ∧ 0 ≤ t' ∧ t' ≤ n + 1) (hl : cs.length ≤ 63) : Adv p n 1 S (supd (supd S p (feedC cs a l t)) p (feedC cs a' l' t')) := by
  rw [supd_supd]
  exact ⟨⟨cs, a', l', t', supd_same, by omega, hl⟩, fun q e => supd_ne e⟩
end GB

/-! GB18: fractions as rationals, common divisors. -/
namespace GB
open PySem PySem.Spec PyProof.Rows L2

/-- a fraction, lowest -/
def frq (q : Rat) : D := .tup [.int q.num, .int (q.den : Int)]
def frP (q : Rat) : PyData := .tuple [.int q.num, .int (q.den : Int)]
section
variable {S : Sto} {P : EQ} {q : Rat}
theorem ix_q0 : ixD (frq q) (.int 0) S P = P (.int q.num) S := by
  unfold frq
  rw [ix_t, at_0, ixS_s]
theorem ix_q1 : ixD (frq q) (.int 1) S P = P (.int (q.den : Int)) S := by
  unfold frq
  rw [ix_t, at_1, ixS_s]
theorem g_q {gs : Gs} {δ : Dts} {S : Sto} {R : Dts → Prop} : wG (.tp gs) (frq q) δ S R = wGs gs [.int q.num, .int (q.den : Int)] δ S R := g_tp
theorem len_q : biO .len false [frq q] S P = P (.int 2) S := len_t
theorem tr_q {T : Bool → Sto → Prop} : truD (frq q) S T = T true S := rfl
end
/-- numbers below 2 ^ b -/
structure RB (b : Nat) (q : Rat) : Prop where
  n : Bt b q.num
  d : Bt b (q.den : Int)
theorem RB.le {a b : Nat} {q : Rat} (h : RB a q) (l : a ≤ b) : RB b q := ⟨h.n.le l, h.d.le l⟩
theorem RB.divInt {b : Nat} {t u : Int} (h : Bt b t) (k : Bt b u) (hu : u ≠ 0) : RB b (Rat.divInt t u) := by
  constructor
  · rw [Rat.num_divInt]
    refine h.of_abs ?_
    refine Nat.le_trans (Int.natAbs_ediv_le_natAbs _ _) ?_
    rw [Int.natAbs_mul]
    have : u.sign.natAbs ≤ 1 := by
      rcases Int.lt_trichotomy u 0 with z | z | z
      · rw [Int.sign_eq_neg_one_of_neg z]; decide
      · exact absurd z hu
      · rw [Int.sign_eq_one_of_pos z]; decide
    calc _ ≤ 1 * t.natAbs := Nat.mul_le_mul_right _ this
      _ = _ := Nat.one_mul _
  · rw [Rat.den_divInt, if_neg hu]
    refine k.of_abs ?_
    show u.natAbs / _ ≤ _
    exact Nat.div_le_self _ _
theorem RB.neg {b : Nat} {q : Rat} (h : RB b q) : RB b (-q) := ⟨h.n.neg, h.d⟩
theorem den_ne {q : Rat} : (q.den : Int) ≠ 0 := by
  have := q.den_nz
  omega
theorem den_pos {q : Rat} : (0 : Int) < (q.den : Int) := by
  have := q.den_nz
  omega
theorem RB.inv {b : Nat} {q : Rat} (h : RB b q) (h0 : q.num ≠ 0) : RB b (Rat.divInt (q.den : Int) q.num) := .divInt h.d h.n h0
theorem rat_add (x y : Rat) : Rat.divInt (x.num * y.den + y.num * x.den) (x.den * y.den) = x + y := by
  rw [← Rat.divInt_add_divInt _ _ den_ne den_ne, Rat.num_divInt_den, Rat.num_divInt_den]
theorem rat_sub (x y : Rat) : Rat.divInt (x.num * y.den - y.num * x.den) (x.den * y.den) = x - y := by
  rw [← Rat.divInt_sub_divInt _ _ den_ne den_ne, Rat.num_divInt_den, Rat.num_divInt_den]
theorem rat_mul (x y : Rat) : Rat.divInt (x.num * y.num) (x.den * y.den) = x * y := by
  rw [← Rat.divInt_mul_divInt, Rat.num_divInt_den, Rat.num_divInt_den]
theorem rat_inv (y : Rat) : Rat.divInt y.den y.num = y⁻¹ := (Rat.inv_def y).symm
theorem rat_div (x y : Rat) : Rat.divInt (x.num * y.den) (x.den * y.num) = x / y := by
  rw [← Rat.divInt_mul_divInt, Rat.num_divInt_den, rat_inv, Rat.div_def]
theorem RB.add {a b : Nat} {x y : Rat} (h : RB a x) (k : RB b y) : RB (a + b + 1) (x + y) := by
  rw [← rat_add]
  have h1 := h.n.mul k.d
  have h2 := k.n.mul h.d
  rw [Nat.add_comm b a] at h2
  exact .divInt (h1.add h2) ((h.d.mul k.d).le (Nat.le_succ _)) (Int.mul_ne_zero den_ne den_ne)
theorem RB.sub {a b : Nat} {x y : Rat} (h : RB a x) (k : RB b y) : RB (a + b + 1) (x - y) := by
  rw [← rat_sub]
  have h1 := h.n.mul k.d
  have h2 := k.n.mul h.d
  rw [Nat.add_comm b a] at h2
  exact .divInt (h1.sub h2) ((h.d.mul k.d).le (Nat.le_succ _)) (Int.mul_ne_zero den_ne den_ne)
theorem RB.mul {a b : Nat} {x y : Rat} (h : RB a x) (k : RB b y) : RB (a + b) (x * y) := by
  rw [← rat_mul]
  exact .divInt (h.n.mul k.n) (h.d.mul k.d) (Int.mul_ne_zero den_ne den_ne)
theorem RB.lit {b : Nat} {q : Rat} (h : (decide (q.num.natAbs < 2 ^ b) && decide (q.den < 2 ^ b)) = true) : RB b q := by
  rw [Bool.and_eq_true, decide_eq_true_eq, decide_eq_true_eq] at h
  exact ⟨h.1, h.2⟩

/-! ### the least form -/
theorem Sh.frq {S : Sto} {q : Rat} (h : RB 1920 q) : Sh S (frq q) (frP q) 1 2 := (ShL.cons (Sh.int h.n) (ShL.cons (Sh.int h.d) ShL.nil)).tup.le (by decide) (by decide)
theorem Pd.frq {S : Sto} {q : Rat} : Pd S (frq q) (frP q) 1 := (PdL.cons Pd.int (PdL.cons Pd.int PdL.nil)).tup
theorem gcd_ne {t u : Int} (h : u ≠ 0) : (Nat.gcd t.natAbs u.natAbs : Int) ≠ 0 := by
  have := Nat.gcd_pos_of_pos_right t.natAbs (n := u.natAbs) (by omega)
  omega
theorem fdiv_mul {g k : Int} (h : g ≠ 0) : (g * k).fdiv g = k := Int.mul_fdiv_cancel_left k h
/-- divided by the common divisor, its sign the bottom's -/
theorem low_num {t u : Int} (h : u ≠ 0) : t.fdiv (if u < 0 then 0 - (Nat.gcd t.natAbs u.natAbs : Int) else (Nat.gcd t.natAbs u.natAbs : Int)) = (Rat.divInt t u).num := by
  have hg := gcd_ne (t := t) h
  rw [Rat.num_divInt, show ((u.gcd t : Nat) : Int) = (Nat.gcd t.natAbs u.natAbs : Int) by rw [Int.gcd_comm]; rfl]
  obtain ⟨k, hk⟩ : (Nat.gcd t.natAbs u.natAbs : Int) ∣ t := Int.ofNat_dvd_left.mpr (Nat.gcd_dvd_left _ _)
  generalize (Nat.gcd t.natAbs u.natAbs : Int) = g at *
  subst hk
  by_cases c : u < 0
  · rw [if_pos c, Int.sign_eq_neg_one_of_neg c]
    rw [show g * k = (0 - g) * (-k) by rw [Int.zero_sub, Int.neg_mul_neg], fdiv_mul (by omega), show -1 * ((0 - g) * (-k)) = g * (-k) by rw [Int.zero_sub, Int.neg_mul_neg, Int.mul_neg]; omega, Int.mul_ediv_cancel_left _ hg]
  · rw [if_neg c, Int.sign_eq_one_of_pos (by omega), fdiv_mul hg, Int.one_mul, Int.mul_ediv_cancel_left _ hg]
theorem low_den {t u : Int} (h : u ≠ 0) : u.fdiv (if u < 0 then 0 - (Nat.gcd t.natAbs u.natAbs : Int) else (Nat.gcd t.natAbs u.natAbs : Int)) = ((Rat.divInt t u).den : Int) := by
  have hg := gcd_ne (t := t) h
  rw [Rat.den_divInt, if_neg h, Int.natCast_ediv, show ((u.gcd t : Nat) : Int) = (Nat.gcd t.natAbs u.natAbs : Int) by rw [Int.gcd_comm]; rfl]
  obtain ⟨k, hk⟩ : (Nat.gcd t.natAbs u.natAbs : Int) ∣ u := Int.ofNat_dvd_left.mpr (Nat.gcd_dvd_right _ _)
  have hp : 0 ≤ (Nat.gcd t.natAbs u.natAbs : Int) := Int.natCast_nonneg _
  generalize (Nat.gcd t.natAbs u.natAbs : Int) = g at *
  by_cases c : u < 0
  · rw [if_pos c, Int.ofNat_natAbs_of_nonpos (Int.le_of_lt c), hk]
    rw [show g * k = (0 - g) * (-k) by rw [Int.zero_sub, Int.neg_mul_neg], fdiv_mul (by omega), show -((0 - g) * (-k)) = g * (-k) by rw [Int.zero_sub, Int.neg_mul_neg, Int.mul_neg], Int.mul_ediv_cancel_left _ hg]
  · rw [if_neg c, Int.natAbs_of_nonneg (by omega), hk, fdiv_mul hg, Int.mul_ediv_cancel_left _ hg]
theorem low_frq {t u : Int} (h : u ≠ 0) : D.tup [.int (t.fdiv (if u < 0 then 0 - (Nat.gcd t.natAbs u.natAbs : Int) else (Nat.gcd t.natAbs u.natAbs : Int))), .int (u.fdiv (if u < 0 then 0 - (Nat.gcd t.natAbs u.natAbs : Int) else (Nat.gcd t.natAbs u.natAbs : Int)))] = frq (Rat.divInt t u) := by
  rw [low_num h, low_den h]
  rfl
theorem abs_eq (i : Int) : (if i < 0 then -i else i) = (i.natAbs : Int) := by
  split <;> omega
/-- the loop to the common divisor -/
theorem gcd_loop {body : WpS} {t : WpT} {P : Pst} {st : Nat → Nat → Dts} {S : Sto}
    (ht : ∀ a b T, T (decide (0 < b)) S → t (st a b) S T)
    (hb : ∀ a b rt bk ct (nx : Dts → Sto → Prop), 0 < b → nx (st b (a % b)) S → body ⟨nx, rt, bk, ct⟩ (st a b) S) : ∀ (b a : Nat), P.nx (st (Nat.gcd a b) 0) S → ∃ n, wWh t body P n (st a b) S := by
  intro b
  induction b using Nat.strongRecOn with
  | _ b ih =>
    intro a h
    by_cases c : b = 0
    · subst c
      refine ⟨1, ht a 0 _ ?_⟩
      rw [if_neg (by simp)]
      rw [Nat.gcd_zero_right] at h
      exact h
    · have hlt := Nat.mod_lt a (Nat.pos_of_ne_zero c)
      obtain ⟨n, hn⟩ := ih (a % b) hlt b (by rw [Nat.gcd_comm b (a % b), ← Nat.gcd_rec b a, Nat.gcd_comm]; exact h)
      refine ⟨n + 1, ht a b _ ?_⟩
      rw [if_pos (decide_eq_true (Nat.pos_of_ne_zero c))]
      exact hb a b _ _ _ _ (Nat.pos_of_ne_zero c) hn
theorem mod_nat {a b : Nat} : (a : Int).fmod (b : Int) = ((a % b : Nat) : Int) := by
  rw [Int.fmod_eq_emod_of_nonneg _ (Int.natCast_nonneg b)]
  rfl
end GB

/-! GB19: uses of lists that stand in one way or another; promises by small bodies. -/
namespace GB
open PySem PySem.Spec PyProof.Rows L2

/-- a def's promise, by its small body -/
def Keeps (n : Nat) (b : Sms) (sp : Spec) (j : Nat) : Prop := ∀ ds S Q U, sp ds S Q U → ds.length = j ∧ wSs ⟨fun x _ S => U x S, none⟩ b ⟨fun _ S => Q .non S, Q, fun _ _ => False, fun _ _ => False⟩ (startD n ds) S
section
variable {S : Sto} {P : EQ} {x : D} {ds : List D}
theorem lsx_ix (h : lsx S x = some ds) {i : Int} : ixD x (.int i) S P = @ixS (atI ds i) S ⟨P⟩ := by
  cases x with
  | lst es => cases h; exact ix_l
  | rls es => cases h; exact ix_rl
  | ref p =>
    have h : cL (S p) = some ds := h
    show ixC (S p) (.int i) S P = _
    cases e : S p with
    | none => rw [e] at h; cases h
    | some c =>
      rw [e] at h
      cases c with
      | lst es => cases h; exact oP_eq
      | dct es => cases h
  | _ => cases h
theorem lsx_len (h : lsx S x = some ds) : biO .len false [x] S P = P (.int ds.length) S := by
  cases x with
  | lst es => cases h; exact len_l
  | rls es =>
    cases h
    refine propext ⟨?_, fun h => ⟨_, rfl, h⟩⟩
    rintro ⟨_, e, h⟩
    cases e; exact h
  | ref p =>
    refine propext ⟨?_, fun g => ⟨ds, h, g⟩⟩
    rintro ⟨_, e, g⟩
    have e : lsx S (.ref p) = _ := e
    rw [h] at e
    cases e; exact g
  | _ => cases h
theorem lsx_ItL (h : lsx S x = some ds) {R : List D → (Sto → Prop) → Sto → Prop} (r : ∀ src : Sto → Prop, src S → (∀ S', lsx S' x = lsx S x → src S') → R ds src S) : ItL x S R := by
  cases x with
  | lst es => cases h; exact r _ trivial fun _ _ => trivial
  | rls es => cases h; exact r _ trivial fun _ _ => trivial
  | ref p => exact ⟨ds, h, r _ h fun S' e => (show lsx S' (.ref p) = some ds from e.trans h)⟩
  | _ => cases h
theorem lsx_ItP (h : lsx S x = some ds) {R : List D → (Sto → Prop) → Sto → Prop} (r : ∀ src : Sto → Prop, src S → (∀ S', lsx S' x = lsx S x → src S') → R ds src S) : ItP x S R := by
  cases x with
  | lst es => cases h; exact r _ trivial fun _ _ => trivial
  | rls es => cases h; exact r _ trivial fun _ _ => trivial
  | ref p => exact ⟨ds, h, r _ h fun S' e => (show lsx S' (.ref p) = some ds from e.trans h)⟩
  | _ => cases h
theorem lsx_sl {m : Bool} {lo hi : Option Int} (h : lsx S x = some ds) : slD m x lo hi S P = nwL m (cutD ds lo hi) S P := by
  have go : (∃ es, lsx S x = some es ∧ nwL m (cutD es lo hi) S P) = nwL m (cutD ds lo hi) S P := by
    refine propext ⟨?_, fun g => ⟨ds, h, g⟩⟩
    rintro ⟨_, e, g⟩
    rw [h] at e
    cases e; exact g
  cases x with
  | lst es => exact go
  | rls es => exact go
  | ref p => exact go
  | _ => cases h
end
theorem cut_map {α : Type} {f : α → D} {xs : List α} {lo hi : Option Int} : ∃ n m, cutD (xs.map f) lo hi = ((xs.drop n).take m).map f ∧ n = HT.sIx xs.length 0 lo ∧ m = HT.sIx xs.length xs.length hi - HT.sIx xs.length 0 lo := by
  refine ⟨_, _, ?_, rfl, rfl⟩
  unfold cutD
  rw [List.length_map, ← List.map_drop, ← List.map_take]
theorem cut_to {xs : List D} {k : Nat} : cutD xs none (some (k : Int)) = xs.take k := by
  unfold cutD
  rw [HT.sIx_none, HT.sIx_nat]
  show (xs.drop 0).take (min k xs.length - 0) = _
  rw [List.drop_zero, Nat.sub_zero]
  by_cases c : k ≤ xs.length
  · rw [Nat.min_eq_left c]
  · rw [Nat.min_eq_right (by omega), List.take_of_length_le (Nat.le_refl _), List.take_of_length_le (by omega)]
theorem cut_from {xs : List D} {k : Nat} : cutD xs (some (k : Int)) none = xs.drop k := by
  unfold cutD
  rw [HT.sIx_none, HT.sIx_nat]
  by_cases c : k ≤ xs.length
  · rw [Nat.min_eq_left c, List.take_of_length_le (by rw [List.length_drop]; omega)]
  · rw [Nat.min_eq_right (by omega), List.drop_of_length_le (Nat.le_refl _), List.drop_of_length_le (by omega), List.take_nil]
theorem use_draw {S : Sto} {p : Addr} {m : Int} {n : Nat} {Q : EQ} {U : Ex → Sto → Prop} (hF : Feed n S p) (hn : n < nMost) (h0 : 0 < m) (h1 : Bt 8000 m) (h : ∀ (r : Int) (S' : Sto), 0 ≤ r → r < m → Adv p n 1 S S' → Q (.int r) S') : @callS spDraw [.ref p, .int m] S U ⟨Q⟩ :=
  ⟨⟨h0, h1⟩, n, hF, hn, h⟩
/-- draws, at last an int -/
def spDrI (k b : Nat) : Spec := fun ds S Q _ => match ds with
  | [.ref p] => ∃ n, Feed n S p ∧ n + k < nMost ∧ ∀ (r : Int) (S' : Sto), Bt b r → Adv p n k S S' → Q (.int r) S'
  | _ => False
theorem use_drI {S : Sto} {p : Addr} {k b n : Nat} {Q : EQ} {U : Ex → Sto → Prop} (hF : Feed n S p) (hn : n + k < nMost) (h : ∀ (r : Int) (S' : Sto), Bt b r → Adv p n k S S' → Q (.int r) S') : @callS (spDrI k b) [.ref p] S U ⟨Q⟩ := ⟨n, hF, hn, h⟩
/-- draws, at last a fraction -/
def spDrQ (k b : Nat) : Spec := fun ds S Q _ => match ds with
  | [.ref p] => ∃ n, Feed n S p ∧ n + k < nMost ∧ ∀ (r : Rat) (S' : Sto), RB b r → Adv p n k S S' → Q (frq r) S'
  | _ => False
theorem use_drQ {S : Sto} {p : Addr} {k b n : Nat} {Q : EQ} {U : Ex → Sto → Prop} (hF : Feed n S p) (hn : n + k < nMost) (h : ∀ (r : Rat) (S' : Sto), RB b r → Adv p n k S S' → Q (frq r) S') : @callS (spDrQ k b) [.ref p] S U ⟨Q⟩ := ⟨n, hF, hn, h⟩
/-- two ints to the lowest fraction -/
def spLow : Spec := fun ds S Q _ => match ds with
  | [.int t, .int u] => (u ≠ 0 ∧ Bt 8000 t ∧ Bt 8000 u) ∧ Q (frq (Rat.divInt t u)) S
  | _ => False
theorem low_eq {S : Sto} {t u : Int} {Q : EQ} {U : Ex → Sto → Prop} : @callS spLow [.int t, .int u] S U ⟨Q⟩ = ((u ≠ 0 ∧ Bt 8000 t ∧ Bt 8000 u) ∧ Q (frq (Rat.divInt t u)) S) := rfl
/-- of one fraction -/
def spQ1 (b : Nat) (f : Rat → D) : Spec := fun ds S Q _ => ∃ x : Rat, ds = [frq x] ∧ RB b x ∧ Q (f x) S
/-- of two fractions -/
def spQ2 (b : Nat) (f : Rat → Rat → D) : Spec := fun ds S Q _ => ∃ x y : Rat, ds = [frq x, frq y] ∧ (RB b x ∧ RB b y) ∧ Q (f x y) S
theorem frq_inj {x y : Rat} (h : frq x = frq y) : x = y := by
  unfold frq at h
  have h1 := List.cons.inj (D.tup.inj h)
  have h2 := List.cons.inj h1.2
  have a := D.int.inj h1.1
  have b := D.int.inj h2.1
  exact Rat.ext a (by omega)
theorem q1_eq {b : Nat} {f : Rat → D} {x : Rat} {S : Sto} {Q : EQ} {U : Ex → Sto → Prop} : @callS (spQ1 b f) [frq x] S U ⟨Q⟩ = (RB b x ∧ Q (f x) S) := by
  refine propext ⟨?_, fun h => ⟨x, rfl, h⟩⟩
  rintro ⟨y, e, h⟩
  obtain rfl := frq_inj (List.cons.inj e).1
  exact h
theorem q2_eq {b : Nat} {f : Rat → Rat → D} {x y : Rat} {S : Sto} {Q : EQ} {U : Ex → Sto → Prop} : @callS (spQ2 b f) [frq x, frq y] S U ⟨Q⟩ = ((RB b x ∧ RB b y) ∧ Q (f x y) S) := by
  refine propext ⟨?_, fun h => ⟨x, y, rfl, h⟩⟩
  rintro ⟨x', y', e, h⟩
  have e := List.cons.inj e
  obtain rfl := frq_inj e.1
  obtain rfl := frq_inj (List.cons.inj e.2).1
  exact h
theorem sz_0 : (([] : List D).length ≤ sizeLine) = True := eq_true (Nat.zero_le _)
theorem sz_1 {a : D} : ([a].length ≤ sizeLine) = True := eq_true (by show 1 ≤ sizeLine; decide)
theorem sz_2 {a b : D} : ([a, b].length ≤ sizeLine) = True := eq_true (by show 2 ≤ sizeLine; decide)
theorem sz_3 {a b c : D} : ([a, b, c].length ≤ sizeLine) = True := eq_true (by show 3 ≤ sizeLine; decide)
theorem sz_4 {a b c d : D} : ([a, b, c, d].length ≤ sizeLine) = True := eq_true (by show 4 ≤ sizeLine; decide)
theorem sz_5 {a b c d e : D} : ([a, b, c, d, e].length ≤ sizeLine) = True := eq_true (by show 5 ≤ sizeLine; decide)
theorem sz_6 {a b c d e f : D} : ([a, b, c, d, e, f].length ≤ sizeLine) = True := eq_true (by show 6 ≤ sizeLine; decide)
theorem sz_7 {a b c d e f g : D} : ([a, b, c, d, e, f, g].length ≤ sizeLine) = True := eq_true (by show 7 ≤ sizeLine; decide)
theorem sz_8 {a b c d e f g h : D} : ([a, b, c, d, e, f, g, h].length ≤ sizeLine) = True := eq_true (by show 8 ≤ sizeLine; decide)
end GB
namespace GB
open PySem PySem.Spec PyProof.Rows L2
theorem at_in {α : Type} {xs : List α} {i : Int} (h0 : -(xs.length : Int) ≤ i) (h1 : i < xs.length) : ∃ x, atI xs i = some x ∧ x ∈ xs := by
  by_cases c : 0 ≤ i
  · exact at_has c h1
  · unfold atI ixN
    rw [if_neg c, if_pos h0]
    have : (i + xs.length).toNat < xs.length := by omega
    exact ⟨xs[(i + xs.length).toNat], List.getElem?_eq_getElem this, List.getElem_mem _⟩
theorem itp_t {S : Sto} {ds : List D} {R : List D → (Sto → Prop) → Sto → Prop} : ItP (.tup ds) S R = R ds (fun _ => True) S := rfl
theorem itp_l {S : Sto} {ds : List D} {R : List D → (Sto → Prop) → Sto → Prop} : ItP (.lst ds) S R = R ds (fun _ => True) S := rfl
theorem itl_l {S : Sto} {ds : List D} {R : List D → (Sto → Prop) → Sto → Prop} : ItL (.lst ds) S R = R ds (fun _ => True) S := rfl
theorem neg_frq {q : Rat} : D.tup [.int (0 - q.num), .int (q.den : Int)] = frq (-q) := by
  unfold frq
  rw [Rat.neg_num, Rat.neg_den, Int.zero_sub]
theorem same_frq {q : Rat} : D.tup [.int q.num, .int (q.den : Int)] = frq q := rfl
theorem lt_sub {x y : Rat} : decide (x.num * y.den - y.num * x.den < 0) = decide (x < y) := by
  rw [decide_eq_decide, Rat.lt_iff]
  omega
theorem lt_mul {x y : Rat} : decide (x.num * (y.den : Int) < y.num * (x.den : Int)) = decide (x < y) := by
  rw [decide_eq_decide, Rat.lt_iff]
theorem enu_n {n : Nat} : enuD n [] = [] := rfl
theorem enu_c {n : Nat} {d : D} {ds : List D} : enuD n (d :: ds) = .tup [.int (n : Int), d] :: enuD (n + 1) ds := rfl
theorem len_ref {S : Sto} {P : EQ} {p : Addr} {ds : List D} (h : S p = some (.lst ds)) : biO .len false [.ref p] S P = P (.int ds.length) S := lsx_len (x := .ref p) (show cL (S p) = some ds by rw [h]; rfl)
theorem at_ref {S : Sto} {P : EQ} {p : Addr} {ds : List D} (h : S p = some (.lst ds)) {i : Int} : ixD (.ref p) (.int i) S P = @ixS (atI ds i) S ⟨P⟩ := lsx_ix (x := .ref p) (show cL (S p) = some ds by rw [h]; rfl)
theorem pl_2 {a b : D} {i j : Nat} : (([a, b] : List D).length = ([i, j] : List Nat).length) = True := eq_true rfl
theorem pl_3 {a b c : D} {i j k : Nat} : (([a, b, c] : List D).length = ([i, j, k] : List Nat).length) = True := eq_true rfl
theorem iteE_q {k : Bool} {x y : Rat} {S : Sto} {Q : EQ} : @iteE k (fun P => P (frq x) S) (fun P => P (frq y) S) ⟨Q⟩ = Q (frq (if k = true then x else y)) S := by cases k <;> rfl
theorem joinS_q {k : Bool} {f : Dts → Dts} {x y : Rat} {δ1 δ2 : Dts} {S : Sto} {N : Dts → Sto → Prop} : @joinS k f (some (frq x) :: δ1) (some (frq y) :: δ2) S ⟨N⟩ = @joinS k (fun δ => f (some (frq (if k = true then x else y)) :: δ)) δ1 δ2 S ⟨N⟩ := by cases k <;> rfl
end GB

/-! GB20: the join of the defs of a law. -/
namespace GB
open PySem PySem.Spec PyProof.Rows L2
def AllOk (T : Tx) (k : Nat) : List Nd → Prop
  | [] => True
  | n :: r => n.ok T k ∧ AllOk T k r
theorem allok {T : Tx} {k : Nat} : ∀ l : List Nd, AllOk T k l → ∀ n ∈ l, n.ok T k
  | [], _, n, h => nomatch h
  | m :: r, h, n, e => by
    rcases List.mem_cons.mp e with e | e
    · subst e; exact h.1
    · exact allok r h.2 n e
theorem Callee.up {T : Tx} {j k : Nat} {x : Str} {sp : Spec} (h : Callee T j x sp) (l : j ≤ k) : Callee T k x sp := by
  obtain ⟨f, fd, ps, h1, h2, h3, h4⟩ := h
  exact ⟨f, fd, ps, h1, h2, h3, h4.up l⟩
/-- one def of the law -/
theorem callee {P : Program} {w : World} {K : FK} {mg : MG} {base : Heap} {x qual : Str} {params : Arguments} {body : List Stmt} {scope : Scope} {f : Addr} {fd : FuncData} {N ps : List Str} {k : Nat} {sp : Spec} {b : Sms}
    (hm : mg x = some (.ref f)) (F : FunD K x qual params body scope [] [] f fd) (S : FnScope N ps scope) (ck : chkSs N scope .df b body = true) (nd : AllOk ⟨P, w, K, mg, base⟩ k (nSs b)) (hb : Keeps N.length b sp ps.length)
    (bd : Binds K fd ps []) : Callee ⟨P, w, K, mg, base⟩ (k + 1) x sp :=
  ⟨f, fd, ps, hm, F.kp, bd, def_ok F S ck (allok _ nd) hb⟩
theorem callee_F {P : Program} {w : World} {K : FK} {mg : MG} {base : Heap} {x : Str} {params : Arguments} {body : List Stmt} {scope : Scope} {f : Addr} {fd : FuncData} {N ps : List Str} {k : Nat} {sp : Spec} {b : Sms} {qual : Str}
    (F : FunD K x qual params body scope [] [] f fd) (S : FnScope N ps scope) (ck : chkSs N scope .df b body = true) (nd : AllOk ⟨P, w, K, mg, base⟩ k (nSs b)) (hb : Keeps N.length b sp ps.length) :
    FOk P w K mg base (k + 1) f fd ps (LSp K mg sp) := def_ok F S ck (allok _ nd) hb
/-! ### constants of the module -/
mutual
def repB (K : FK) : D → Value → Bool
  | .non, .none => true
  | .bl b, .bool c => decide (b = c)
  | .int i, .int j _ => decide (i = j)
  | .str x, .str y _ => decide (x = y)
  | .tup ds, .ref p => (match K.lookup p with
    | some ⟨.type c, none, .seq its _, _⟩ => decide (c = "tuple") && (decide (its.size ≤ sizeLine) && repBs K ds its.toList)
    | _ => false)
  | .rls ds, .ref p => (match K.lookup p with
    | some ⟨.type c, none, .seq its _, _⟩ => decide (c = "list") && (decide (its.size ≤ sizeLine) && repBs K ds its.toList)
    | _ => false)
  | _, _ => false
def repBs (K : FK) : List D → List Value → Bool
  | [], [] => true
  | d :: ds, u :: us => repB K d u && repBs K ds us
  | _, _ => false
end
mutual
theorem repB_ok {K : FK} : ∀ (d : D) (u : Value), repB K d u = true → ∃ v, RelV v u ∧ ∀ F, Rep K F d v
  | .non, u, h => by
    cases u with
    | none => exact ⟨.non, rfl, fun _ => .non⟩
    | _ => exact absurd h Bool.false_ne_true
  | .bl b, u, h => by
    cases u with
    | bool c =>
      obtain rfl := of_decide_eq_true h
      exact ⟨.bl b, rfl, fun _ => .bl b⟩
    | _ => exact absurd h Bool.false_ne_true
  | .int b, u, h => by
    cases u with
    | int c t =>
      obtain rfl := of_decide_eq_true h
      exact ⟨.int b, ⟨t, rfl⟩, fun _ => .int b⟩
    | _ => exact absurd h Bool.false_ne_true
  | .str b, u, h => by
    cases u with
    | str c t =>
      obtain rfl := of_decide_eq_true h
      exact ⟨.str b, ⟨t, rfl⟩, fun _ => .str b⟩
    | _ => exact absurd h Bool.false_ne_true
  | .tup ds, u, h => by
    cases u with
    | ref p =>
      unfold repB at h
      cases q : K.lookup p with
      | none => rw [q] at h; cases h
      | some o =>
        obtain ⟨oc, od, dt, osl⟩ := o
        rw [q] at h
        cases oc with
        | type c =>
          cases od with
          | none =>
            cases dt with
            | seq its n =>
              obtain ⟨h1, h2⟩ := and_t (show (decide (c = "tuple") && (decide (its.size ≤ sizeLine) && repBs K ds its.toList)) = true from h)
              obtain ⟨h3, h4⟩ := and_t h2
              obtain ⟨vs, r, rr⟩ := repBs_ok ds its.toList h4
              exact ⟨.ref p, rfl, fun F => .tup (.inr ⟨_, its, n, q, congrArg Value.type (of_decide_eq_true h1), rfl, rfl, of_decide_eq_true h3, r⟩) (rr F)⟩
            | _ => cases h
          | some _ => cases dt <;> cases h
        | _ => cases od <;> cases dt <;> cases h
    | _ => exact absurd h Bool.false_ne_true
  | .rls ds, u, h => by
    cases u with
    | ref p =>
      unfold repB at h
      cases q : K.lookup p with
      | none => rw [q] at h; cases h
      | some o =>
        obtain ⟨oc, od, dt, osl⟩ := o
        rw [q] at h
        cases oc with
        | type c =>
          cases od with
          | none =>
            cases dt with
            | seq its n =>
              obtain ⟨h1, h2⟩ := and_t (show (decide (c = "list") && (decide (its.size ≤ sizeLine) && repBs K ds its.toList)) = true from h)
              obtain ⟨h3, h4⟩ := and_t h2
              obtain ⟨vs, r, rr⟩ := repBs_ok ds its.toList h4
              exact ⟨.ref p, rfl, fun F => .rls (.inr ⟨_, its, n, q, congrArg Value.type (of_decide_eq_true h1), rfl, rfl, of_decide_eq_true h3, r⟩) (rr F)⟩
            | _ => cases h
          | some _ => cases dt <;> cases h
        | _ => cases od <;> cases dt <;> cases h
    | _ => exact absurd h Bool.false_ne_true
  | .lst _, u, h => by cases u <;> exact absurd h Bool.false_ne_true
  | .dct _, u, h => by cases u <;> exact absurd h Bool.false_ne_true
  | .ref _, u, h => by cases u <;> exact absurd h Bool.false_ne_true
theorem repBs_ok {K : FK} : ∀ (ds : List D) (us : List Value), repBs K ds us = true → ∃ vs, Vals vs us ∧ ∀ F, RepL K F ds vs
  | [], [], _ => ⟨[], .nil, fun _ => .nil⟩
  | [], _ :: _, h => absurd h Bool.false_ne_true
  | _ :: _, [], h => absurd h Bool.false_ne_true
  | d :: ds, u :: us, h => by
    obtain ⟨h1, h2⟩ := and_t h
    obtain ⟨v, r, rr⟩ := repB_ok d u h1
    obtain ⟨vs, s, ss⟩ := repBs_ok ds us h2
    exact ⟨v :: vs, .cons r s, fun F => .cons (rr F) (ss F)⟩
end
def mgB (K : FK) (x : Str) (d : D) : Bool := match PySem.W.nsIn K mainGlobals x with
  | some (some u) => repB K d u
  | _ => false
theorem mgB_ok {T : Tx} {h : Heap} {x : Str} {d : D} (X : T.K.In h) (G : h.Ns mainGlobals T.mg) (c : mgB T.K x d = true) : Global T x d := by
  unfold mgB at c
  cases e : PySem.W.nsIn T.K mainGlobals x with
  | none => rw [e] at c; cases c
  | some r =>
    rw [e] at c
    cases r with
    | none => cases c
    | some u =>
      obtain ⟨v, r, rr⟩ := repB_ok d u c
      exact ⟨u, v, PySem.W.mg_of X G e, r, rr⟩
/-! ### hot defs, classes of exceptions -/
def clsBody (s : Stmt) : List Stmt := match s with
  | .ClassDef _ _ _ b _ _ _ _ _ _ _ => b
  | _ => []
def KeepsH (n : Nat) (b : Sms) (sp : Addr × Ex → Spec) (j : Nat) : Prop := ∀ p ds S Q U, sp p ds S Q U → ds.length = j ∧ wSs ⟨fun _ _ _ => False, some p⟩ b ⟨fun _ S => Q .non S, Q, fun _ _ => False, fun _ _ => False⟩ (startD n ds) S
theorem FHk.up {P : Program} {w : World} {K : FK} {mg : MG} {base : Heap} {j k : Nat} {f : Addr} {fd : FuncData} {ps : List Str} {sp : Addr × Ex → Spec} (h : FHk P w K mg base j f fd ps sp) (le : j ≤ k) : FHk P w K mg base k f fd ps sp :=
  ⟨h.len, fun A outer s H args us vs Q p x cls d Z F S ds Pq r => h.run A outer s H args us vs Q p x cls d Z F S ds Pq (r.mono le)⟩
theorem CalleeH.up {T : Tx} {j k : Nat} {x : Str} {sp : Addr × Ex → Spec} (h : CalleeH T j x sp) (l : j ≤ k) : CalleeH T k x sp := by
  obtain ⟨f, fd, ps, h1, h2, h3, h4⟩ := h
  exact ⟨f, fd, ps, h1, h2, h3, h4.up l⟩
theorem calleeH {P : Program} {w : World} {K : FK} {mg : MG} {base : Heap} {x qual : Str} {params : Arguments} {body : List Stmt} {scope : Scope} {f : Addr} {fd : FuncData} {N ps : List Str} {k : Nat} {sp : Addr × Ex → Spec} {b : Sms}
    (hm : mg x = some (.ref f)) (F : FunD K x qual params body scope [] [] f fd) (S : FnScope N ps scope) (ck : chkSs N scope .ht b body = true) (nd : AllOk ⟨P, w, K, mg, base⟩ k (nSs b)) (hb : KeepsH N.length b sp ps.length)
    (bd : Binds K fd ps []) : CalleeH ⟨P, w, K, mg, base⟩ (k + 1) x sp :=
  ⟨f, fd, ps, hm, F.kp, bd, defh_ok F S ck (allok _ nd) hb⟩
def allE (ct : List Str) (K : FK) : Bool := match ct with
  | [] => true
  | _ => baB K && ct.all fun n => exB K ct n
/-- the class can be raised -/
theorem canR0 {T : Tx} {ct : List Str} {n : Str} (E : ExC T.K ct n) (hm : T.mg n = some (.ref (He.ga T.K n))) (hd : (n == ("__debug__" : Str)) = false) (e : exFs n = []) {k : Nat} (h2 : 2 ≤ k) : CanR T k n :=
  ⟨hm, hd, h2, ⟨ct, E⟩, fun z => absurd e z⟩
theorem canR1 {T : Tx} {ct : List Str} {n : Str} (E : ExC T.K ct n) (hm : T.mg n = some (.ref (He.ga T.K n))) (hd : (n == ("__debug__" : Str)) = false) {qual : Str} {params : Arguments} {body : List Stmt} {scope : Scope} {N ps : List Str} {fd : FuncData}
    (F : FunD T.K "__init__" qual params body scope [] [] (He.ma T.K (He.ga T.K n) "__init__") fd) (S : FnScope N ps scope) (ck : iniB N scope (exFs n) body = true) (hl : ps.length = (exFs n).length + 1) (hb : Binds T.K fd ps [])
    (mB : T.mg "BendError" = some (.ref (He.ga T.K "BendError"))) (bi : BaI T.K (He.ga T.K "BendError")) {k : Nat} (h2 : 2 ≤ k) : CanR T k n := by
  refine ⟨hm, hd, h2, ⟨ct, E⟩, fun z => ?_⟩
  obtain ⟨o, _, _⟩ := E.ini z
  exact ⟨fd, ps, hl, ini_ok F S ck hl o E.nof mB bi, hb⟩
/-! ### the head's Hook, with constants and classes -/
abbrev AlX : Type := He.AlD × Bool
def allC (cs : List (Str × D)) (K : FK) : Bool := cs.all fun q => mgB K q.1 q.2
def SaysX (fa : List He.Fa) (fn : List He.DefD) (cs : List (Str × D)) (ct : List Str) (K : FK) : Prop := He.SaysD fa fn K ∧ (allC cs K && allE ct K) = true
/-- the objects that are looked at: step by step, each once (a number keeps which) -/
def visitB (m : Nat) (acc : List Addr) : List Addr → Nat × List Addr
  | [] => (m, acc)
  | a :: r => match Nat.ble 1 (Nat.land (Nat.shiftRight m a) 1) with
    | true => visitB m acc r
    | false => visitB (Nat.lor m (Nat.shiftLeft 1 a)) (a :: acc) r
def refsG (g : Addr → Option Obj) (a : Addr) : List Addr := match g a with
  | some o => He.refsD o
  | none => []
def bfsB (g : Addr → Option Obj) : Nat → Nat → List Addr → List Addr → List Addr
  | 0, _, all, _ => all
  | n + 1, m, all, fr => match visitB m [] (fr.flatMap (refsG g)) with
    | (m', nw) => bfsB g n m' (all ++ nw) nw
def asX (n : Nat) (g : Addr → Option Obj) : List Addr := cStatics :: bfsB g n (Nat.shiftLeft 1 mainGlobals) [mainGlobals] [mainGlobals]
def obsX (n : Nat) (fa : List He.Fa) (fn : List He.DefD) (cs : List (Str × D)) (ct : List Str) (g : Addr → Option Obj) : AlX := (He.obsD fa fn (He.frG g (asX n g)), (allC cs (He.frG g (asX n g)) && allE ct (He.frG g (asX n g))))
def hookX (n : Nat) (fa : List He.Fa) (fn : List He.DefD) (cs : List (Str × D)) (ct : List Str) : PySem.W.Hook where
  α := AlX
  obs := fun s => obsX n fa fn cs ct s.heap.get?
  val := fun _ => (He.valD fn, true)
  says := fun _ h => ∃ K : PySem.W.Frag, K.In h ∧ SaysX fa fn cs ct K
  of := fun _ _ e => ⟨_, He.frG_in, ⟨congrArg (fun z : AlX => z.1) e, congrArg (fun z : AlX => z.2) e⟩⟩
  keeps := fun _ _ _ ⟨K, hK, c⟩ k => ⟨K, PySem.W.Frag.In.keeps hK k, c⟩
theorem obsX_eq {n : Nat} {fa : List He.Fa} {fn : List He.DefD} {cs : List (Str × D)} {ct : List Str} {g : Addr → Option Obj} {s : Shared} (h : ∀ a, g a = s.heap.get? a) : obsX n fa fn cs ct g = (hookX n fa fn cs ct).obs s := by
  have e : g = s.heap.get? := funext h
  rw [e] <;> rfl
theorem SaysX.const {fa : List He.Fa} {fn : List He.DefD} {cs : List (Str × D)} {ct : List Str} {K : FK} (c : SaysX fa fn cs ct K) (i : Nat) {x : Str} {d : D} (h : cs[i]? = some (x, d) := by rfl) : mgB K x d = true :=
  List.all_eq_true.mp (and_t c.2).1 (x, d) (List.mem_of_getElem? h)
theorem SaysX.exc {fa : List He.Fa} {fn : List He.DefD} {cs : List (Str × D)} {ct : List Str} {K : FK} (c : SaysX fa fn cs ct K) (ne : ct ≠ []) : BaI K (He.ga K "BendError") ∧ ∀ n ∈ ct, ExC K ct n := by
  have h := (and_t c.2).2
  unfold allE at h
  split at h
  · exact absurd rfl ne
  · obtain ⟨h1, h2⟩ := and_t h
    exact ⟨baB_ok h1, fun n hn => exB_ok (List.all_eq_true.mp h2 n hn)⟩
end GB

namespace GB
open PySem PySem.Spec PyProof.Rows L2
abbrev ect : List Str := ["BendError", "NoOver", "NoPlace", "NoStretch", "NoCut", "NoSmooth"]
abbrev c_NAUGHT : D := frq 0
abbrev c_NO_BENDS : D := .tup [frq 0, frq 0, frq 0, frq 0]
abbrev c_NOUGHT : D := frq 0
abbrev c_ONE : D := frq 1
abbrev c_BENDS : D := .int 4
end GB
namespace GH
open PySem PySem.Spec PyProof.Rows L2 GB
def top (i : Nat) : Stmt := PySem.Challenge.pw_gentlebends_k24_whole_pulls_are_pairings.main.body.getD i (.Pass ⟨0, 0, 0, 0⟩)
def dd (x : Str) (i : Nat) : He.DefD := ⟨(x, none), x, x, defArgs (top i), defBody (top i), defScope (top i), [], []⟩
def mth (i j : Nat) : Stmt := (clsBody (top i)).getD j (.Pass ⟨0, 0, 0, 0⟩)
def di (x : Str) (i j : Nat) : He.DefD := ⟨(x, some "__init__"), "__init__", x ++ ".__init__", defArgs (mth i j), defBody (mth i j), defScope (mth i j), [], []⟩
def fn : List He.DefD := ([dd "common_of" 10, dd "fraction_of" 11, dd "plus_by" 12, dd "minus_by" 13, dd "times_by" 14, dd "is_below" 15, dd "poly_of" 17, dd "poly_number" 18, dd "poly_sum" 19, dd "product_numbers" 20, dd "poly_times" 21, dd "value_of" 22, dd "slope_of" 23, dd "moved_poly" 24, dd "under_numbers" 25, dd "under_product" 26, dd "is_outside" 29, dd "ask_place" 30, dd "bends_by" 31, dd "bends_at" 32] : List He.DefD) ++ ([dd "smooth_at" 33, dd "bends_there" 37, dd "pull_of" 38, dd "pulls_of" 39, dd "with_cut" 41, dd "ask_stretch" 43, dd "cut_like" 44, dd "ask_smooth" 46, dd "bent_of" 47, dd "pairing_of" 48, dd "_law_feed" 50, dd "_law_draw" 51, dd "_law_low" 52, dd "_law_plus" 53, dd "_law_less" 54, dd "_law_times" 55, dd "_law_over" 56, dd "_law_trim" 57, dd "_law_cubic" 58, dd "_law_value" 59] : List He.DefD) ++ ([dd "_law_slope" 60, dd "_law_number" 61, dd "_law_rise" 62, dd "_law_row" 63, dd "_law_other_cuts" 64, dd "_law_bent_lines" 65, dd "_law_there" 66, dd "_law_sum" 67, dd "law" 68, di "NoPlace" 3 0, di "NoCut" 5 0, di "NoSmooth" 6 0] : List He.DefD)
abbrev ectA : List Str := ect
def fa : List He.Fa := ([.glo "law", .glo "common_of", .glo "fraction_of", .glo "plus_by", .glo "minus_by", .glo "times_by", .glo "is_below", .glo "poly_of", .glo "poly_number", .glo "poly_sum", .glo "product_numbers", .glo "poly_times", .glo "value_of", .glo "slope_of", .glo "moved_poly", .glo "under_numbers", .glo "under_product", .glo "is_outside", .glo "ask_place", .glo "bends_by"] : List He.Fa) ++ ([.glo "bends_at", .glo "smooth_at", .glo "bends_there", .glo "pull_of", .glo "pulls_of", .glo "with_cut", .glo "ask_stretch", .glo "cut_like", .glo "ask_smooth", .glo "bent_of", .glo "pairing_of", .glo "_law_feed", .glo "_law_draw", .glo "_law_low", .glo "_law_plus", .glo "_law_less", .glo "_law_times", .glo "_law_over", .glo "_law_trim", .glo "_law_cubic"] : List He.Fa) ++ ([.glo "_law_value", .glo "_law_slope", .glo "_law_number", .glo "_law_rise", .glo "_law_row", .glo "_law_other_cuts", .glo "_law_bent_lines", .glo "_law_there", .glo "_law_sum", .glo "BendError", .glo "NoOver", .glo "NoPlace", .glo "NoStretch", .glo "NoCut", .glo "NoSmooth", .free "isinstance", .free "ValueError", .free "abs", .free "list", .free "tuple"] : List He.Fa) ++ ([.free "len", .free "max", .free "range", .free "reversed", .free "zip", .free "int", .free "repr"] : List He.Fa)
abbrev R : PySem.W.OpenRow := PySem.W.OpenLaw.row PySem.Challenge.rw_gentlebends_k24_whole_pulls_are_pairings
def cs : List (Str × D) := [("NOUGHT", c_NOUGHT), ("ONE", c_ONE), ("BENDS", c_BENDS), ("NO_BENDS", c_NO_BENDS), ("NAUGHT", c_NAUGHT)]
abbrev hk : PySem.W.Hook := hookX 4 fa fn cs ectA
def ob (s : PySem.W.SharedT) : AlX := obsX 4 fa fn cs ectA (HandSHeadRun.getT s)
theorem ob_eq (s : PySem.W.SharedT) : ob s = hk.obs s.abs := obsX_eq (HandSHeadRun.getT_eq s)
theorem run (w : World) : HandSHeadRun.RunEq R (PySem.W.view R.prog [68]) hk ob 20000 ((["__name__", "BendError", "NoOver", "NoPlace", "NoStretch", "NoCut", "NoSmooth", "NOUGHT", "ONE", "common_of", "fraction_of", "plus_by", "minus_by", "times_by", "is_below", "poly_of", "poly_number", "poly_sum", "product_numbers", "poly_times"] : List PySem.Str) ++ (["value_of", "slope_of", "moved_poly", "under_numbers", "under_product", "BENDS", "is_outside", "ask_place", "bends_by", "bends_at", "smooth_at", "NAUGHT", "NO_BENDS", "bends_there", "pull_of", "pulls_of", "with_cut", "ask_stretch", "cut_like", "ask_smooth"] : List PySem.Str) ++ (["bent_of", "pairing_of", "_law_feed", "_law_draw", "_law_low", "_law_plus", "_law_less", "_law_times", "_law_over", "_law_trim", "_law_cubic", "_law_value", "_law_slope", "_law_number", "_law_rise", "_law_row", "_law_other_cuts", "_law_bent_lines", "_law_there", "_law_sum"] : List PySem.Str)) w := by
  intro os
  kernel_rfl
end GH

/-! GB21: comparing fractions and lists of them; polynomials as lists of rationals. -/
namespace GB
open PySem PySem.Spec PyProof.Rows L2
theorem py_frq {S : Sto} : ∀ {n : Nat} {x : Rat} {d : PyData}, pyOf S n (frq x) = some d → d = frP x
  | 0, _, _, h => by cases h
  | 1, _, _, h => by cases h
  | n + 2, x, d, h => by
    have e : pyOf S (n + 2) (frq x) = some (frP x) := rfl
    rw [e] at h
    exact (Option.some.inj h).symm
theorem eqv_frP (x y : Rat) : PyData.eqv (frP x) (frP y) = decide (x = y) := by
  have e : PyData.eqv (frP x) (frP y) = ((x.num == y.num) && (((x.den : Int) == (y.den : Int)) && true)) := rfl
  rw [e, Bool.and_true]
  by_cases c : x = y
  · subst c; simp
  · rw [decide_eq_false c]
    rw [Bool.and_eq_false_iff]
    by_cases d : x.num = y.num
    · right
      rw [beq_eq_false_iff_ne]
      intro e
      exact c (Rat.ext d (by omega))
    · left
      rw [beq_eq_false_iff_ne]
      exact d
theorem eqD_frq {neg : Bool} {S : Sto} {x y : Rat} {P : EQ} : eqD neg (frq x) (frq y) S P = P (.bl (xor neg (decide (x = y)))) S := by
  refine propext ⟨?_, fun h => Pd.eqD Pd.frq Pd.frq (by decide) (by decide) (by rw [eqv_frP]; exact h)⟩
  rintro ⟨n, d, e, h1, h2, _, _, h⟩
  obtain rfl := py_frq h1
  obtain rfl := py_frq h2
  rw [eqv_frP] at h
  exact h
theorem eq_q {S : Sto} {x y : Rat} {P : EQ} : cmpD .eq (frq x) (frq y) S P = P (.bl (decide (x = y))) S := by
  show eqD false (frq x) (frq y) S P = _
  rw [eqD_frq, Bool.false_xor]
theorem ne_q {S : Sto} {x y : Rat} {P : EQ} : cmpD .ne (frq x) (frq y) S P = P (.bl (!decide (x = y))) S := by
  show eqD true (frq x) (frq y) S P = _
  rw [eqD_frq, Bool.true_xor]
theorem ixC_l {S : Sto} {ds : List D} {i : Int} {P : EQ} : ixC (some (.lst ds)) (.int i) S P = @ixS (atI ds i) S ⟨P⟩ := oP_eq
/-- the fractions' list as data -/
theorem PdL.frqs {S : Sto} (xs : List Rat) : PdL S (xs.map frq) (xs.map frP) 1 := PdL.map (fun _ => Pd.frq) xs
theorem eqvAll_nil {xs : List PyData} : PyData.eqvAll xs [] = xs.isEmpty := by cases xs <;> rfl
theorem pyL_nilR {f : D → Option PyData} {xs : List D} {ds : List PyData} (h : pyL f xs = some ds) : ds.isEmpty = xs.isEmpty := by
  cases xs with
  | nil => cases h; rfl
  | cons x xs =>
    unfold pyL at h
    cases h1 : f x with
    | none => rw [h1] at h; cases h
    | some d =>
      rw [h1] at h
      cases h2 : pyL f xs with
      | none => rw [h2] at h; cases h
      | some es => rw [h2] at h; cases h; rfl
/-- x != [], x a list of fractions that stands in one way or another -/
theorem ne_nilQ {S : Sto} {x : D} {xs : List Rat} {T : EQ} (h : lsx S x = some (xs.map frq)) (t : T (.bl (!xs.isEmpty)) S) : cmpD .ne x (.lst []) S T := by
  have g1 : Pd S x (.list (xs.map frP)) 2 := (PdL.frqs xs).lsx h
  have g2 : Pd S (.lst []) (.list []) 1 := (PdL.nil (S := S)).lst
  refine Pd.eqD (neg := true) g1 g2 (by decide) (by decide) ?_
  have e : PyData.eqv (.list (xs.map frP)) (.list []) = xs.isEmpty := by
    show PyData.eqvAll (xs.map frP) [] = _
    rw [eqvAll_nil]
    cases xs <;> rfl
  rw [e, Bool.true_xor]
  exact t
theorem sdel_supd {S : Sto} {p : Addr} {c : Cell} (h : S p = none) : sdel (supd S p c) p = S := by
  funext q
  unfold sdel supd
  by_cases e : q = p
  · subst e; rw [if_pos rfl, h]
  · rw [if_neg e, if_neg e]
theorem frz_ref {S : Sto} {p : Addr} {ds : List D} {P : EQ} : frzD (.ref p) (supd S p (.lst ds)) P = P (.lst ds) (sdel (supd S p (.lst ds)) p) := by
  show frzC p (supd S p (.lst ds) p) _ P = _
  rw [supd_same]
  rfl
theorem tup_l {S : Sto} {ds : List D} {P : EQ} : biO .tuple false [.lst ds] S P = P (.tup ds) S := by
  refine propext ⟨?_, fun h => ⟨ds, rfl, h⟩⟩
  rintro ⟨_, e, h⟩
  cases e; exact h
theorem tup_t {S : Sto} {ds : List D} {P : EQ} : biO .tuple false [.tup ds] S P = P (.tup ds) S := rfl
theorem lst_l {S : Sto} {m : Bool} {ds : List D} {P : EQ} : biO .list m [.lst ds] S P = nwL m ds S P := by
  refine propext ⟨?_, fun h => ⟨ds, rfl, h⟩⟩
  rintro ⟨_, e, h⟩
  cases e; exact h
theorem lst_t {S : Sto} {m : Bool} {ds : List D} {P : EQ} : biO .list m [.tup ds] S P = nwL m ds S P := by
  refine propext ⟨?_, fun h => ⟨ds, rfl, h⟩⟩
  rintro ⟨_, e, h⟩
  cases e; exact h
theorem sl_t {m : Bool} {S : Sto} {ds : List D} {lo hi : Option Int} {P : EQ} : slD m (.tup ds) lo hi S P = P (.tup (cutD ds lo hi)) S := rfl
theorem slr_t {m : Bool} {S : Sto} {ds : List D} {P : EQ} : slrD m (.tup ds) S P = P (.tup ds.reverse) S := rfl

/-! ### polynomials -/
def plD (p : List Rat) : D := .tup (p.map frq)
def plP (p : List Rat) : PyData := .tuple (p.map frP)
/-- without the noughts at its end -/
def trim : List Rat → List Rat
  | [] => []
  | a :: p => if trim p = [] ∧ a = 0 then [] else a :: trim p
theorem trim_app0 : ∀ p : List Rat, trim (p ++ [0]) = trim p
  | [] => by simp [trim]
  | a :: p => by
    show (if trim (p ++ [0]) = [] ∧ a = 0 then [] else a :: trim (p ++ [0])) = _
    rw [trim_app0 p]
    rfl
theorem trim_app {b : Rat} (h : b ≠ 0) : ∀ p : List Rat, trim (p ++ [b]) = p ++ [b]
  | [] => by simp [trim, h]
  | a :: p => by
    show (if trim (p ++ [b]) = [] ∧ a = 0 then [] else a :: trim (p ++ [b])) = _
    rw [trim_app h p, if_neg (by simp)]
    rfl
theorem trim_len : ∀ p : List Rat, (trim p).length ≤ p.length
  | [] => Nat.le_refl _
  | a :: p => by
    show (if trim p = [] ∧ a = 0 then [] else a :: trim p).length ≤ _
    split
    · exact Nat.zero_le _
    · exact Nat.succ_le_succ (trim_len p)
theorem trim_mem : ∀ {p : List Rat} {x : Rat}, x ∈ trim p → x ∈ p
  | [], _, h => nomatch h
  | a :: p, x, h => by
    have h : x ∈ (if trim p = [] ∧ a = 0 then [] else a :: trim p) := h
    split at h
    · cases h
    · rcases List.mem_cons.mp h with h | h
      · rw [h]; exact List.mem_cons_self
      · exact List.mem_cons_of_mem _ (trim_mem h)
theorem trim_trim : ∀ p : List Rat, trim (trim p) = trim p
  | [] => rfl
  | a :: p => by
    show trim (if trim p = [] ∧ a = 0 then [] else a :: trim p) = (if trim p = [] ∧ a = 0 then [] else a :: trim p)
    split
    · rfl
    · rename_i c
      show (if trim (trim p) = [] ∧ a = 0 then [] else a :: trim (trim p)) = _
      rw [trim_trim p, if_neg c]
/-- the i-th number, nought behind the end -/
def pn (p : List Rat) (i : Nat) : Rat := p.getD i 0
theorem trim_pn : ∀ (p : List Rat) (i : Nat), pn (trim p) i = pn p i
  | [], i => rfl
  | a :: p, i => by
    have ih := trim_pn p
    show pn (if trim p = [] ∧ a = 0 then [] else a :: trim p) i = _
    split
    · rename_i c
      cases i with
      | zero =>
        show (0 : Rat) = a
        exact c.2.symm
      | succ i =>
        have := ih i
        rw [c.1] at this
        exact this
    · cases i with
      | zero => rfl
      | succ i => exact ih i
/-- trimmed lists are told by their numbers -/
theorem trim_ext : ∀ {p q : List Rat}, (∀ i, pn p i = pn q i) → trim p = trim q
  | [], [], _ => rfl
  | [], b :: q, h => by
    have h0 : (0 : Rat) = b := h 0
    have ht : trim [] = trim q := trim_ext fun i => h (i + 1)
    show [] = (if trim q = [] ∧ b = 0 then [] else b :: trim q)
    rw [if_pos ⟨ht.symm, h0.symm⟩]
  | a :: p, [], h => by
    have h0 : a = (0 : Rat) := h 0
    have ht : trim p = trim [] := trim_ext fun i => h (i + 1)
    show (if trim p = [] ∧ a = 0 then [] else a :: trim p) = []
    rw [if_pos ⟨ht, h0⟩]
  | a :: p, b :: q, h => by
    have h0 : a = b := h 0
    have ht : trim p = trim q := trim_ext fun i => h (i + 1)
    show (if trim p = [] ∧ a = 0 then [] else a :: trim p) = (if trim q = [] ∧ b = 0 then [] else b :: trim q)
    rw [h0, ht]
end GB

/-! GB22: lists joined, made longer, stored into; comprehensions. -/
namespace GB
open PySem PySem.Spec PyProof.Rows L2
section
variable {S : Sto} {P : EQ} {m : Bool} {a b : List D}
theorem mul_l {k : Int} : mulD m (.lst a) (.int k) S P = ((-(2 ^ 63) ≤ k ∧ k < 2 ^ 63 ∧ a.length * k.toNat ≤ sizeLine) ∧ nwL m (List.replicate k.toNat a).flatten S P) := rfl
theorem add_l : addD m (.lst a) (.lst b) S P = (a.length + b.length ≤ sizeLine ∧ nwL m (a ++ b) S P) := by
  refine propext ⟨?_, fun h => ⟨b, rfl, h⟩⟩
  rintro ⟨_, e, h⟩
  cases e; exact h
theorem rep_one {d : D} {n : Nat} : (List.replicate n [d]).flatten = List.replicate n d := by
  induction n with
  | zero => rfl
  | succ n ih =>
    rw [List.replicate_succ, List.flatten_cons, ih]
    rfl
/-- a[i] = v, a of the store -/
theorem set_at {p : Addr} {ds : List D} {i : Int} {j : Nat} {v : D} {R : Sto → Prop} (h : S p = some (.lst ds)) (hj : i = (j : Int)) (hl : j < ds.length) (r : R (supd S p (.lst (ds.set j v)))) : setD (.ref p) (.int i) v S R := by
  show setC p (S p) (.int i) v S R
  rw [h]
  refine ⟨i, j, rfl, ?_, r⟩
  subst hj
  unfold ixN
  rw [if_pos (Int.natCast_nonneg j), if_pos (by omega)]
  rfl
end
def noIf : WpT := fun _ S T => T true S
theorem ifs_0 {X : XP} : (ws X .nil).ifs = noIf := rfl
theorem setC_l {S : Sto} {p : Addr} {ds : List D} {k : Int} {z : D} {R : Sto → Prop} : setC p (some (.lst ds)) (.int k) z S R = oP (fun j => R (supd S p (.lst (ds.set j z)))) (ixN ds.length k) := by
  refine propext ⟨?_, ?_⟩
  · rintro ⟨_, j, e, h1, h2⟩
    cases e
    rw [h1]
    exact h2
  · intro h
    cases e : ixN ds.length k with
    | none => rw [e] at h; exact absurd h id
    | some j => rw [e] at h; exact ⟨k, j, rfl, e, h⟩
theorem gsl_nm {i : Nat} : gSl (.nm i) = [i] := rfl
theorem gsl_tp {gs : Gs} : gSl (.tp gs) = gsSl gs := rfl
theorem gsl_n : gsSl .nil = [] := rfl
theorem gsl_c {i : Nat} {r : Gs} : gsSl (.cons (.nm i) r) = i :: gsSl r := rfl
theorem wipe_n {δ : Dts} : wipeD δ [] = δ := rfl
theorem wipe_c {δ : Dts} {v : Nat} {vs : List Nat} : wipeD δ (v :: vs) = wv (wipeD δ vs) v := wv_eq _ _
section
variable {m : Bool} {tg : G} {elt : WpE} {src : Sto → Prop} {δ : Dts} {P : EQ}
/-- a comprehension by what it keeps -/
theorem lc_inv (I : List D → List D → Sto → Prop)
    (step : ∀ (d : D) (ds acc : List D) (S : Sto) (nx : D → Sto → Prop), (∀ y S2, src S2 → I ds (acc ++ [y]) S2 → nx y S2) → I (d :: ds) acc S → acc.length < sizeLine ∧ wG tg d δ S fun δ' => elt δ' S nx)
    (fin : ∀ acc S, I [] acc S → nwL m acc S P) : ∀ (ds acc : List D) (S : Sto), I ds acc S → wLc m tg noIf elt src δ P ds acc S
  | [], acc, S, h => fin acc S h
  | d :: ds, acc, S, h => by
    have hl : acc.length < sizeLine := (step d ds acc S (fun _ _ => True) (fun _ _ _ _ => trivial) h).1
    have z := (step d ds acc S (fun y S4 => src S4 ∧ acc.length < sizeLine ∧ wLc m tg noIf elt src δ P ds (acc ++ [y]) S4) (fun y S2 s i => ⟨s, hl, lc_inv I step fin ds _ S2 i⟩) h).2
    exact z
/-- .. where each item is reckoned, and nothing changed -/
theorem lc_pure {α : Type} {f g : α → D} {S : Sto} (hs : src S) (xs : List α) (hl : xs.length ≤ sizeLine) (h : ∀ a ∈ xs, ∀ Q : EQ, Q (g a) S → wG tg (f a) δ S fun δ' => elt δ' S Q) (p : nwL m (xs.map g) S P) : wLc m tg noIf elt src δ P (xs.map f) [] S := by
  refine lc_inv (fun ds acc S' => S' = S ∧ ∃ ys zs : List α, xs = ys ++ zs ∧ ds = zs.map f ∧ acc = ys.map g) ?_ ?_ _ _ _ ⟨rfl, [], xs, rfl, rfl, rfl⟩
  · rintro d ds acc S' nx hnx ⟨rfl, ys, zs, rfl, e, rfl⟩
    cases zs with
    | nil => cases e
    | cons z zs =>
      cases e
      refine ⟨?_, h z (by simp) nx (hnx _ _ hs ⟨rfl, ys ++ [z], zs, by simp, rfl, by simp⟩)⟩
      rw [List.length_map]
      rw [List.length_append, List.length_cons] at hl
      omega
  · rintro acc S' ⟨rfl, ys, zs, rfl, e, rfl⟩
    cases zs with
    | cons _ _ => cases e
    | nil =>
      rw [List.append_nil] at p
      exact p
end
theorem rng_map {n : Nat} : rngD 0 n = (List.range n).map fun i : Nat => D.int (i : Int) := by
  unfold rngD
  refine List.map_congr_left fun i _ => ?_
  rw [Int.zero_add]
theorem rng_mapL {lo : Int} {n : Nat} : rngD lo n = (List.range n).map fun i : Nat => D.int (lo + (i : Int)) := rfl
/-- the i-th of a list of fractions -/
theorem at_pn {p : List Rat} {i : Nat} (h : i < p.length) : atI p (i : Int) = some (pn p i) := by
  rw [at_n h]
  unfold pn
  rw [List.getD_eq_getElem?_getD, List.getElem?_eq_getElem h]
  rfl
end GB

/-! GB23: sums, products, values of polynomials, plainly. -/
namespace GB
open PySem PySem.Spec PyProof.Rows L2
def RL (b : Nat) (p : List Rat) : Prop := ∀ x ∈ p, RB b x
theorem RL.le {a b : Nat} {p : List Rat} (h : RL a p) (l : a ≤ b) : RL b p := fun x m => (h x m).le l
theorem RL.trim {a : Nat} {p : List Rat} (h : RL a p) : RL a (trim p) := fun x m => h x (trim_mem m)
theorem RB.zero {b : Nat} (h : 1 ≤ b) : RB b 0 := (RB.lit (b := 1) (by decide)).le h
theorem RL.pn {b : Nat} {p : List Rat} (h : RL b p) (hb : 1 ≤ b) (i : Nat) : RB b (pn p i) := by
  unfold GB.pn
  rw [List.getD_eq_getElem?_getD]
  cases e : p[i]? with
  | none => exact RB.zero hb
  | some x => exact h x (List.mem_of_getElem? e)
theorem pn_len {p : List Rat} {i : Nat} (h : p.length ≤ i) : pn p i = 0 := by
  unfold pn
  rw [List.getD_eq_getElem?_getD, List.getElem?_eq_none h]
  rfl
theorem pn_map {f : Nat → Rat} {n i : Nat} : pn ((List.range n).map f) i = if i < n then f i else 0 := by
  unfold pn
  rw [List.getD_eq_getElem?_getD, List.getElem?_map]
  split
  · rename_i h
    rw [List.getElem?_range h]
    rfl
  · rename_i h
    rw [List.getElem?_eq_none (by simp; omega)]
    rfl
/-- the sum -/
def addP (a b : List Rat) : List Rat := (List.range (max a.length b.length)).map fun i => pn a i + pn b i
theorem addP_pn {a b : List Rat} {i : Nat} : pn (addP a b) i = pn a i + pn b i := by
  unfold addP
  rw [pn_map]
  split
  · rfl
  · rename_i h
    rw [pn_len (p := a) (by omega), pn_len (p := b) (by omega), Rat.add_zero]
theorem addP_RL {a b : List Rat} {x y : Nat} (ha : RL x a) (hb : RL y b) (h0 : 1 ≤ x) (h1 : 1 ≤ y) : RL (x + y + 1) (addP a b) := by
  intro z m
  obtain ⟨i, _, rfl⟩ := List.mem_map.mp m
  exact (ha.pn h0 i).add (hb.pn h1 i)
/-- the product's numbers -/
def conv : List Rat → List Rat → Nat → Rat
  | [], _, _ => 0
  | x :: a, b, 0 => x * pn b 0
  | x :: a, b, k + 1 => x * pn b (k + 1) + conv a b k
/-- one number more at a place -/
def addAt (f : List Rat) (n : Nat) (v : Rat) : List Rat := f.set n (pn f n + v)
theorem addAt_len {f : List Rat} {n : Nat} {v : Rat} : (addAt f n v).length = f.length := List.length_set
theorem pn_set {f : List Rat} {n i : Nat} {v : Rat} (h : n < f.length) : pn (f.set n v) i = if i = n then v else pn f i := by
  unfold pn
  rw [List.getD_eq_getElem?_getD, List.getD_eq_getElem?_getD]
  split
  · rename_i e
    subst e
    rw [List.getElem?_set_self h]
    rfl
  · rename_i e
    rw [List.getElem?_set_ne (fun z => e z.symm)]
theorem addAt_pn {f : List Rat} {n i : Nat} {v : Rat} (h : n < f.length) : pn (addAt f n v) i = pn f i + (if i = n then v else 0) := by
  unfold addAt
  rw [pn_set h]
  split
  · rename_i e; rw [e]
  · rw [Rat.add_zero]
theorem addAt_RL {f : List Rat} {n : Nat} {v : Rat} {x : Nat} (hf : RL x f) (h : RB x (pn f n + v)) : RL x (addAt f n v) := by
  intro z m
  rcases List.mem_or_eq_of_mem_set m with m | m
  · exact hf z m
  · rw [m]; exact h
/-- the value, from the lowest number -/
def ev : List Rat → Rat → Rat
  | [], _ => 0
  | a :: p, t => a + t * ev p t

theorem conv_nil {b : List Rat} {k : Nat} : conv [] b k = 0 := by cases k <;> rfl
theorem conv_snoc {b : List Rat} {x : Rat} : ∀ (a : List Rat) (k : Nat), conv (a ++ [x]) b k = conv a b k + (if a.length ≤ k then x * pn b (k - a.length) else 0)
  | [], 0 => by
    show x * pn b 0 = 0 + _
    simp [Rat.zero_add]
  | [], k + 1 => by
    show x * pn b (k + 1) + conv [] b k = conv [] b (k + 1) + _
    rw [conv_nil, conv_nil]
    simp [Rat.zero_add, Rat.add_zero]
  | y :: a, 0 => by
    show y * pn b 0 = y * pn b 0 + _
    rw [if_neg (by simp), Rat.add_zero]
  | y :: a, k + 1 => by
    show y * pn b (k + 1) + conv (a ++ [x]) b k = y * pn b (k + 1) + conv a b k + _
    rw [conv_snoc a k, Rat.add_assoc]
    congr 2
    by_cases c : a.length ≤ k
    · rw [if_pos c, if_pos (by simpa using c)]
      congr 2
      rw [List.length_cons]
      omega
    · rw [if_neg c, if_neg (by simpa using c)]
theorem conv_far : ∀ {a b : List Rat} {k : Nat}, a.length + b.length ≤ k → conv a b k = 0
  | [], b, k, _ => conv_nil
  | x :: a, b, 0, h => by
    rw [List.length_cons] at h
    omega
  | x :: a, b, k + 1, h => by
    rw [List.length_cons] at h
    show x * pn b (k + 1) + conv a b k = 0
    rw [pn_len (by omega), conv_far (by omega), Rat.mul_zero, Rat.add_zero]
theorem pn_app {a : List Rat} {x : Rat} {i : Nat} : pn (a ++ [x]) i = if i < a.length then pn a i else if i = a.length then x else 0 := by
  unfold pn
  rw [List.getD_eq_getElem?_getD, List.getD_eq_getElem?_getD]
  by_cases c : i < a.length
  · rw [if_pos c, List.getElem?_append_left c]
  · rw [if_neg c]
    by_cases d : i = a.length
    · rw [if_pos d]
      subst d
      rw [List.getElem?_append_right (Nat.le_refl _)]
      simp
    · rw [if_neg d, List.getElem?_eq_none (by rw [List.length_append]; simp; omega)]
      rfl
theorem ev_snoc {t : Rat} : ∀ {p : List Rat} {x : Rat}, ev (p ++ [x]) t = ev p t + x * t ^ p.length
  | [], x => by
    show x + t * 0 = 0 + x * t ^ 0
    grind
  | a :: p, x => by
    show a + t * ev (p ++ [x]) t = a + t * ev p t + x * t ^ (p.length + 1)
    rw [ev_snoc]
    grind
theorem pn_take {p : List Rat} {i n : Nat} (h : i < n) : pn (p.take n) i = pn p i := by
  unfold pn
  rw [List.getD_eq_getElem?_getD, List.getD_eq_getElem?_getD, List.getElem?_take, if_pos h]
theorem take_succ_pn {p : List Rat} {i : Nat} (h : i < p.length) : p.take (i + 1) = p.take i ++ [pn p i] := by
  rw [List.take_succ]
  congr 1
  unfold pn
  rw [List.getD_eq_getElem?_getD, List.getElem?_eq_getElem h]
  rfl

theorem trim_len_le : ∀ (p : List Rat) (n : Nat), (∀ i, n ≤ i → pn p i = 0) → (trim p).length ≤ n
  | [], n, _ => Nat.zero_le n
  | a :: p, 0, h => by
    have h0 : a = 0 := h 0 (Nat.le_refl _)
    have ht := trim_len_le p 0 fun i _ => h (i + 1) (Nat.zero_le _)
    show (if trim p = [] ∧ a = 0 then [] else a :: trim p).length ≤ 0
    rw [if_pos ⟨List.eq_nil_of_length_eq_zero (Nat.le_zero.mp ht), h0⟩]
    exact Nat.le_refl _
  | a :: p, n + 1, h => by
    have ht := trim_len_le p n fun i hi => h (i + 1) (Nat.succ_le_succ hi)
    show (if trim p = [] ∧ a = 0 then [] else a :: trim p).length ≤ n + 1
    split
    · exact Nat.zero_le _
    · exact Nat.succ_le_succ ht
/-- a trimmed list is told by its numbers -/
theorem trim_uniq {p q : List Rat} (hp : trim p = p) (hq : trim q = q) (h : ∀ i, pn p i = pn q i) : p = q := by
  rw [← hp, ← hq]
  exact trim_ext h
/-- moved by t: the numbers -/
def mvN : List Rat → Rat → Nat → Rat
  | [], _, _ => 0
  | c :: p, t, 0 => t * mvN p t 0 + c
  | c :: p, t, k + 1 => t * mvN p t (k + 1) + mvN p t k
theorem mvN_far {t : Rat} : ∀ {p : List Rat} {k : Nat}, p.length ≤ k → mvN p t k = 0
  | [], k, _ => by cases k <;> rfl
  | c :: p, 0, h => by simp at h
  | c :: p, k + 1, h => by
    rw [List.length_cons] at h
    show t * mvN p t (k + 1) + mvN p t k = 0
    rw [mvN_far (by omega), mvN_far (by omega)]
    grind
theorem conv_two {t : Rat} : ∀ (a : List Rat), conv a [t, 1] 0 = pn a 0 * t ∧ ∀ k, conv a [t, 1] (k + 1) = pn a (k + 1) * t + pn a k
  | [] => by
    refine ⟨?_, fun k => ?_⟩
    · show (0 : Rat) = 0 * t
      grind
    · show (0 : Rat) = 0 * t + 0
      grind
  | x :: a => by
    obtain ⟨h1, h2⟩ := conv_two a
    refine ⟨rfl, fun k => ?_⟩
    cases k with
    | zero =>
      show x * 1 + conv a [t, 1] 0 = pn a 0 * t + x
      rw [h1]
      grind
    | succ k =>
      have e : pn [t, 1] (k + 2) = 0 := rfl
      show x * pn [t, 1] (k + 2) + conv a [t, 1] (k + 1) = pn a (k + 1) * t + pn a k
      rw [h2, e]
      grind
def sB : Nat → Nat
  | 0 => 1
  | n + 1 => 1 + n * (sB n + 46) + 46
end GB

/-! GB24: sizes by a common bottom: q * D a whole number; q at most V either way. -/
namespace GB
open PySem PySem.Spec PyProof.Rows L2
def Ig (D : Nat) (q : Rat) : Prop := ∃ z : Int, q * (D : Rat) = (z : Rat)
def Ab (V : Rat) (q : Rat) : Prop := -V ≤ q ∧ q ≤ V
theorem Ig.add {D : Nat} {x y : Rat} (h : Ig D x) (k : Ig D y) : Ig D (x + y) := by
  obtain ⟨a, ha⟩ := h
  obtain ⟨b, hb⟩ := k
  exact ⟨a + b, by rw [Rat.intCast_add]; grind⟩
theorem Ig.sub {D : Nat} {x y : Rat} (h : Ig D x) (k : Ig D y) : Ig D (x - y) := by
  obtain ⟨a, ha⟩ := h
  obtain ⟨b, hb⟩ := k
  exact ⟨a - b, by rw [Rat.intCast_sub]; grind⟩
theorem Ig.mul {D E : Nat} {x y : Rat} (h : Ig D x) (k : Ig E y) : Ig (D * E) (x * y) := by
  obtain ⟨a, ha⟩ := h
  obtain ⟨b, hb⟩ := k
  exact ⟨a * b, by rw [Rat.intCast_mul, Rat.natCast_mul, ← ha, ← hb]; grind⟩
theorem Ig.up {D : Nat} {x : Rat} (h : Ig D x) (E : Nat) : Ig (D * E) x := by
  obtain ⟨a, ha⟩ := h
  exact ⟨a * (E : Int), by rw [Rat.intCast_mul, Rat.natCast_mul, ← ha, Rat.intCast_natCast]; grind⟩
theorem Ig.zero {D : Nat} : Ig D 0 := ⟨0, by rw [Rat.zero_mul]; rfl⟩
theorem Ig.self (q : Rat) : Ig q.den q := by
  refine ⟨q.num, ?_⟩
  rw [← rat_mul]
  have e1 : ((q.den : Rat)).num = (q.den : Int) := rfl
  have e2 : ((q.den : Rat)).den = 1 := rfl
  rw [e1, e2]
  have e3 : (q.den : Int) * ((1 : Nat) : Int) = 1 * (q.den : Int) := by omega
  rw [e3, Rat.divInt_mul_right den_ne]
  exact Rat.num_divInt_den (q.num : Rat)
theorem Ab.add {V W : Rat} {x y : Rat} (h : Ab V x) (k : Ab W y) : Ab (V + W) (x + y) := by
  obtain ⟨a, b⟩ := h
  obtain ⟨c, d⟩ := k
  constructor <;> grind
theorem Ab.sub {V W : Rat} {x y : Rat} (h : Ab V x) (k : Ab W y) : Ab (V + W) (x - y) := by
  obtain ⟨a, b⟩ := h
  obtain ⟨c, d⟩ := k
  constructor <;> grind
theorem Ab.le {V W : Rat} {x : Rat} (h : Ab V x) (k : V ≤ W) : Ab W x := by
  obtain ⟨a, b⟩ := h
  constructor <;> grind
theorem Ab.mul {V W : Rat} {x y : Rat} (h : Ab V x) (k : Ab W y) : Ab (V * W) (x * y) := by
  obtain ⟨a, b⟩ := h
  obtain ⟨c, d⟩ := k
  have hV : 0 ≤ V := by grind
  have hW : 0 ≤ W := by grind
  have p1 : 0 ≤ (V - x) * (W + y) := Rat.mul_nonneg (by grind) (by grind)
  have p2 : 0 ≤ (V + x) * (W - y) := Rat.mul_nonneg (by grind) (by grind)
  have p3 : 0 ≤ (V - x) * (W - y) := Rat.mul_nonneg (by grind) (by grind)
  have p4 : 0 ≤ (V + x) * (W + y) := Rat.mul_nonneg (by grind) (by grind)
  constructor <;> grind
/-- whole with a small bottom, not far: few bits -/
theorem RB.of {D b : Nat} {V q : Rat} (h : Ig D q) (a : Ab V q) (hD : D ≠ 0) (h1 : D < 2 ^ b) (h2 : V * (D : Rat) < ((2 ^ b : Nat) : Rat)) : RB b q := by
  obtain ⟨z, hz⟩ := h
  have hDp : (0 : Rat) < (D : Rat) := by
    have : ((0 : Nat) : Rat) < (D : Rat) := Rat.natCast_lt_natCast.mpr (by omega)
    exact this
  have hq : q = Rat.divInt z (D : Int) := by
    rw [Rat.divInt_eq_div, ← hz, Rat.intCast_natCast]
    grind
  have hzb : Bt b z := by
    obtain ⟨a1, a2⟩ := a
    have u1 : (z : Rat) ≤ V * D := by
      rw [← hz]
      have := Rat.mul_nonneg (a := V - q) (b := (D : Rat)) (by grind) (by grind)
      grind
    have u2 : -(V * D) ≤ (z : Rat) := by
      rw [← hz]
      have := Rat.mul_nonneg (a := V + q) (b := (D : Rat)) (by grind) (by grind)
      grind
    have v1 : (z : Rat) < (((2 ^ b : Nat) : Int) : Rat) := by
      rw [Rat.intCast_natCast]
      grind
    have v2 : ((-((2 ^ b : Nat) : Int) : Int) : Rat) < (z : Rat) := by
      rw [Rat.intCast_neg, Rat.intCast_natCast]
      grind
    have w1 := Rat.intCast_lt_intCast.mp v1
    have w2 := Rat.intCast_lt_intCast.mp v2
    unfold Bt
    omega
  rw [hq]
  exact .divInt hzb (by unfold Bt; simpa using h1) (by omega)
end GB

/-! GB25: sums beneath, plainly. -/
namespace GB
open PySem PySem.Spec PyProof.Rows L2
def unS (f : Nat → Rat) (l h : Rat) : Nat → Rat
  | 0 => 0
  | n + 1 => unS f l h n + f n * ((h ^ (n + 1) - l ^ (n + 1)) * (1 / ((n : Rat) + 1)))
theorem Ig.pow {D : Nat} {q : Rat} (h : Ig D q) : ∀ n : Nat, Ig (D ^ n) (q ^ n)
  | 0 => ⟨1, by rw [Rat.pow_zero, Nat.pow_zero, Rat.one_mul]; rfl⟩
  | n + 1 => by
    rw [Rat.pow_succ, Nat.pow_succ]
    exact (Ig.pow h n).mul h
theorem Ig.lift {D : Nat} {q : Rat} (h : Ig D q) {n m : Nat} (l : n ≤ m) : Ig (D ^ m) (q ^ n) := by
  have e : D ^ m = D ^ n * D ^ (m - n) := by
    rw [← Nat.pow_add]
    congr 1
    omega
  rw [e]
  exact (h.pow n).up _
theorem Ig.cast {D E : Nat} {q : Rat} (h : Ig D q) (e : D = E) : Ig E q := e ▸ h
theorem Ig.inv840 {n : Nat} (h : n < 8) : Ig 840 (1 / ((n : Rat) + 1)) := by
  have : n = 0 ∨ n = 1 ∨ n = 2 ∨ n = 3 ∨ n = 4 ∨ n = 5 ∨ n = 6 ∨ n = 7 := by omega
  rcases this with rfl | rfl | rfl | rfl | rfl | rfl | rfl | rfl
  · exact ⟨840, by decide +kernel⟩
  · exact ⟨420, by decide +kernel⟩
  · exact ⟨280, by decide +kernel⟩
  · exact ⟨210, by decide +kernel⟩
  · exact ⟨168, by decide +kernel⟩
  · exact ⟨140, by decide +kernel⟩
  · exact ⟨120, by decide +kernel⟩
  · exact ⟨105, by decide +kernel⟩
theorem unS_Ig {f : Nat → Rat} {l h : Rat} {Dn : Nat} (hf : ∀ k, Ig Dn (f k)) : ∀ n : Nat, n ≤ 8 → Ig (Dn * ((h.den ^ 8 * l.den ^ 8) * 840)) (unS f l h n)
  | 0, _ => Ig.zero
  | n + 1, hn => by
    have i1 := unS_Ig (l := l) (h := h) hf n (by omega)
    have ih : Ig (h.den ^ 8 * l.den ^ 8) (h ^ (n + 1)) := ((Ig.self h).lift hn).up _
    have il : Ig (h.den ^ 8 * l.den ^ 8) (l ^ (n + 1)) := (((Ig.self l).lift hn).up (h.den ^ 8)).cast (Nat.mul_comm _ _)
    exact i1.add ((hf n).mul ((ih.sub il).mul (Ig.inv840 (by omega))))
theorem Ab.pow {V : Rat} {q : Rat} (h : Ab V q) (h1 : 1 ≤ V) : ∀ n : Nat, Ab (V ^ n) (q ^ n)
  | 0 => by
    rw [Rat.pow_zero, Rat.pow_zero]
    constructor <;> decide
  | n + 1 => by
    rw [Rat.pow_succ, Rat.pow_succ]
    exact (Ab.pow h h1 n).mul h
theorem Ab.pow_le {V : Rat} {q : Rat} (h : Ab V q) (h1 : 1 ≤ V) {n m : Nat} (l : n ≤ m) : Ab (V ^ m) (q ^ n) := by
  have mono : ∀ d : Nat, V ^ n ≤ V ^ (n + d) := by
    intro d
    induction d with
    | zero => exact Rat.le_refl
    | succ d ih =>
      have hp : 0 ≤ V ^ (n + d) := by
        have : ∀ k : Nat, 0 ≤ V ^ k := by
          intro k
          induction k with
          | zero => rw [Rat.pow_zero]; decide
          | succ k ih => rw [Rat.pow_succ]; exact Rat.mul_nonneg ih (by grind)
        exact this _
      have := Rat.mul_nonneg (a := V ^ (n + d)) (b := V - 1) hp (by grind)
      rw [← Nat.add_assoc, Rat.pow_succ]
      grind
  have := mono (m - n)
  rw [show n + (m - n) = m by omega] at this
  exact (Ab.pow h h1 n).le this
theorem Ab.inv {n : Nat} : Ab 1 (1 / ((n : Rat) + 1)) := by
  have h0 : (0 : Rat) ≤ (n : Rat) := by
    have := Rat.natCast_le_natCast.mpr (Nat.zero_le n)
    exact this
  have hp : (0 : Rat) < (n : Rat) + 1 := by grind
  have hi : (0 : Rat) ≤ 1 / ((n : Rat) + 1) := by
    rw [Rat.div_def, Rat.one_mul]
    exact Rat.le_of_lt (Rat.inv_pos.mpr hp)
  constructor
  · grind
  · have : (1 / ((n : Rat) + 1)) * ((n : Rat) + 1) = 1 := by grind
    have h2 := Rat.mul_nonneg hi h0
    grind
theorem unS_Ab {f : Nat → Rat} {l h V W : Rat} (hf : ∀ k, Ab V (f k)) (hl : Ab W l) (hh : Ab W h) (h1 : 1 ≤ W) : ∀ n : Nat, n ≤ 8 → Ab ((n : Rat) * (V * ((W ^ 8 + W ^ 8) * 1))) (unS f l h n)
  | 0, _ => by
    show Ab (((0 : Nat) : Rat) * _) 0
    constructor <;> grind
  | n + 1, hn => by
    have i1 := unS_Ab hf hl hh h1 n (by omega)
    have t := (hf n).mul (((Ab.pow_le hh h1 hn).sub (Ab.pow_le hl h1 hn)).mul (Ab.inv (n := n)))
    refine (i1.add t).le ?_
    rw [Rat.natCast_add]
    have e : ((1 : Nat) : Rat) = 1 := rfl
    rw [e]
    generalize V * ((W ^ 8 + W ^ 8) * 1) = T
    grind
/-- from bits -/
theorem Ab.of_RB {b : Nat} {q : Rat} (h : RB b q) : Ab ((2 ^ b : Nat) : Rat) q := by
  have hn : q.num.natAbs < 2 ^ b := h.n
  have hd : (0 : Rat) < (q.den : Rat) := by
    have := Rat.natCast_lt_natCast.mpr (Nat.pos_of_ne_zero q.den_nz)
    exact this
  have hd1 : (1 : Rat) ≤ (q.den : Rat) := by
    have := Rat.natCast_le_natCast.mpr (Nat.pos_of_ne_zero q.den_nz)
    exact this
  obtain ⟨z, hz⟩ := Ig.self q
  have e : q * (q.den : Rat) = (q.num : Rat) := by
    rw [← rat_mul]
    have e1 : ((q.den : Rat)).num = (q.den : Int) := rfl
    have e2 : ((q.den : Rat)).den = 1 := rfl
    rw [e1, e2]
    have e3 : (q.den : Int) * ((1 : Nat) : Int) = 1 * (q.den : Int) := by omega
    rw [e3, Rat.divInt_mul_right den_ne]
    exact Rat.num_divInt_den (q.num : Rat)
  have u1 : (q.num : Rat) ≤ (((2 ^ b : Nat) : Int) : Rat) := Rat.intCast_le_intCast.mpr (by omega)
  have u2 : ((-((2 ^ b : Nat) : Int) : Int) : Rat) ≤ (q.num : Rat) := Rat.intCast_le_intCast.mpr (by omega)
  rw [Rat.intCast_natCast] at u1
  rw [Rat.intCast_neg, Rat.intCast_natCast] at u2
  have hV : (0 : Rat) ≤ ((2 ^ b : Nat) : Rat) := by
    have := Rat.natCast_le_natCast.mpr (Nat.zero_le (2 ^ b))
    exact this
  generalize ((2 ^ b : Nat) : Rat) = V at *
  constructor
  · by_cases c : -V ≤ q
    · exact c
    · have := Rat.mul_nonneg (a := -q) (b := (q.den : Rat) - 1) (by grind) (by grind)
      grind
  · by_cases c : q ≤ V
    · exact c
    · have := Rat.mul_nonneg (a := q) (b := (q.den : Rat) - 1) (by grind) (by grind)
      grind
theorem den_lt {b : Nat} {q : Rat} (h : RB b q) : q.den ^ 8 ≤ (2 ^ b) ^ 8 := by
  have hd : ((q.den : Int)).natAbs < 2 ^ b := h.d
  exact Nat.pow_le_pow_left (by omega) 8
theorem unS_RB {f : Nat → Rat} {l h : Rat} {Dn : Nat} (hf : ∀ k, Ig Dn (f k)) (h0 : Dn ≠ 0) (hDn : Dn ≤ 2 ^ 360) (ha : ∀ k, Ab ((2 ^ 93 : Nat) : Rat) (f k)) (hl : RB 45 l) (hh : RB 45 h) {n : Nat} (hn : n ≤ 8) : RB 1900 (unS f l h n) := by
  have i := unS_Ig (l := l) (h := h) hf n hn
  have a := unS_Ab ha (Ab.of_RB hl) (Ab.of_RB hh) (by decide +kernel) n hn
  have b1 : h.den ^ 8 ≤ (2 ^ 45) ^ 8 := den_lt hh
  have b2 : l.den ^ 8 ≤ (2 ^ 45) ^ 8 := den_lt hl
  have hD : Dn * ((h.den ^ 8 * l.den ^ 8) * 840) ≤ 2 ^ 360 * (((2 ^ 45) ^ 8 * (2 ^ 45) ^ 8) * 840) := Nat.mul_le_mul hDn (Nat.mul_le_mul_right _ (Nat.mul_le_mul b1 b2))
  have hz : Dn * ((h.den ^ 8 * l.den ^ 8) * 840) ≠ 0 := by
    have z1 : h.den ^ 8 ≠ 0 := Nat.pos_iff_ne_zero.mp (Nat.pow_pos (Nat.pos_of_ne_zero h.den_nz))
    have z2 : l.den ^ 8 ≠ 0 := Nat.pos_iff_ne_zero.mp (Nat.pow_pos (Nat.pos_of_ne_zero l.den_nz))
    exact Nat.mul_ne_zero h0 (Nat.mul_ne_zero (Nat.mul_ne_zero z1 z2) (by decide))
  have hV : (n : Rat) * (((2 ^ 93 : Nat) : Rat) * (((((2 ^ 45 : Nat) : Rat)) ^ 8 + (((2 ^ 45 : Nat) : Rat)) ^ 8) * 1)) = ((n * (2 ^ 93 * (((2 ^ 45) ^ 8 + (2 ^ 45) ^ 8) * 1)) : Nat) : Rat) := by
    rw [Rat.natCast_mul, Rat.natCast_mul, Rat.natCast_mul, Rat.natCast_add, Rat.natCast_pow]
    rfl
  rw [hV] at a
  refine RB.of i a hz ?_ ?_
  · exact Nat.lt_of_le_of_lt hD (by decide +kernel)
  · rw [← Rat.natCast_mul]
    refine Rat.natCast_lt_natCast.mpr ?_
    refine Nat.lt_of_le_of_lt (Nat.mul_le_mul (Nat.mul_le_mul_right _ hn) hD) ?_
    decide +kernel
/-- the bottoms multiplied -/
def pdn : List Rat → Nat
  | [] => 1
  | a :: p => a.den * pdn p
theorem pdn_ne : ∀ p : List Rat, pdn p ≠ 0
  | [] => by decide
  | a :: p => Nat.mul_ne_zero a.den_nz (pdn_ne p)
theorem pdn_le : ∀ {p : List Rat}, RL 45 p → pdn p ≤ (2 ^ 45) ^ p.length
  | [], _ => Nat.le_refl _
  | a :: p, h => by
    have hd : ((a.den : Int)).natAbs < 2 ^ 45 := (h a List.mem_cons_self).d
    rw [List.length_cons, Nat.pow_succ]
    show a.den * pdn p ≤ _
    rw [Nat.mul_comm a.den]
    exact Nat.mul_le_mul (pdn_le fun z m => h z (List.mem_cons_of_mem _ m)) (by omega)
theorem Ig_pn : ∀ (p : List Rat) (k : Nat), Ig (pdn p) (pn p k)
  | [], _ => Ig.zero
  | a :: p, 0 => (Ig.self a).up _
  | a :: p, k + 1 => ((Ig_pn p k).up a.den).cast (Nat.mul_comm _ _)
theorem Ig_conv {b : List Rat} : ∀ (a : List Rat) (k : Nat), Ig (pdn a * pdn b) (conv a b k)
  | [], k => by rw [conv_nil]; exact Ig.zero
  | x :: a, 0 => by
    have h := ((Ig.self x).mul (Ig_pn b 0)).up (pdn a)
    refine h.cast ?_
    show x.den * pdn b * pdn a = x.den * pdn a * pdn b
    rw [Nat.mul_assoc, Nat.mul_comm (pdn b), Nat.mul_assoc]
  | x :: a, k + 1 => by
    have h := ((Ig.self x).mul (Ig_pn b (k + 1))).up (pdn a)
    have h2 := ((Ig_conv (b := b) a k).up x.den)
    refine Ig.add (h.cast ?_) (h2.cast ?_)
    · show x.den * pdn b * pdn a = x.den * pdn a * pdn b
      rw [Nat.mul_assoc, Nat.mul_comm (pdn b), Nat.mul_assoc]
    · show pdn a * pdn b * x.den = x.den * pdn a * pdn b
      rw [Nat.mul_comm, Nat.mul_assoc]
theorem Ab.zero {V : Rat} (h : 0 ≤ V) : Ab V 0 := by
  constructor <;> grind
theorem Ab_pn {p : List Rat} (h : RL 45 p) (k : Nat) : Ab ((2 ^ 45 : Nat) : Rat) (pn p k) := Ab.of_RB (h.pn (by decide) k)
theorem Ab_conv {b : List Rat} (hb : RL 45 b) : ∀ {a : List Rat}, RL 45 a → ∀ k : Nat, Ab ((a.length : Rat) * (((2 ^ 45 : Nat) : Rat) * ((2 ^ 45 : Nat) : Rat))) (conv a b k)
  | [], _, k => by
    rw [conv_nil]
    show Ab (((0 : Nat) : Rat) * _) 0
    constructor <;> grind
  | x :: a, h, k => by
    have hx := Ab.of_RB (h x List.mem_cons_self)
    have ht := fun k => Ab_conv hb (a := a) (fun z m => h z (List.mem_cons_of_mem _ m)) k
    have hl : (((x :: a).length : Nat) : Rat) = (a.length : Rat) + 1 := by
      rw [List.length_cons, Rat.natCast_add]
      rfl
    rw [hl]
    have hn : (0 : Rat) ≤ (a.length : Rat) := by
      have := Rat.natCast_le_natCast.mpr (Nat.zero_le a.length)
      exact this
    have hT : (0 : Rat) ≤ ((2 ^ 45 : Nat) : Rat) * ((2 ^ 45 : Nat) : Rat) := by decide +kernel
    have hm := Rat.mul_nonneg hn hT
    cases k with
    | zero =>
      refine (hx.mul (Ab_pn hb 0)).le ?_
      grind
    | succ k =>
      refine ((hx.mul (Ab_pn hb (k + 1))).add (ht k)).le ?_
      grind
end GB

/-! GB26: own exceptions in use. -/
namespace GB
open PySem PySem.Spec PyProof.Rows L2
theorem ex_s {α : Type} {Q : α → Prop} {d : α} : oP Q (some d) = Q d := rfl
theorem exFs_NoOver : exFs "NoOver" = [] := by decide
theorem exFs_NoStretch : exFs "NoStretch" = [] := by decide
theorem exFs_NoOne : exFs "NoOne" = [] := by decide
theorem exFs_NoText : exFs "NoText" = (["at"] : List Str) := by decide
theorem exFs_NoPlace : exFs "NoPlace" = (["place"] : List Str) := by decide
theorem exFs_NoPoint : exFs "NoPoint" = (["place"] : List Str) := by decide
theorem exFs_Twice : exFs "Twice" = (["place"] : List Str) := by decide
theorem exFs_NoCut : exFs "NoCut" = (["number"] : List Str) := by decide
theorem exFs_NoSmooth : exFs "NoSmooth" = (["number"] : List Str) := by decide
theorem exFs_NoShares : exFs "NoShares" = (["number"] : List Str) := by decide
theorem exFs_NoKnot : exFs "NoKnot" = (["number"] : List Str) := by decide
theorem exFs_NoTask : exFs "NoTask" = (["word", "number"] : List Str) := by decide
theorem exFs_NoPaper : exFs "NoPaper" = (["word", "number"] : List Str) := by decide
theorem exFs_NoKnots : exFs "NoKnots" = (["word", "number"] : List Str) := by decide
theorem exFs_NoSheet : exFs "NoSheet" = (["word", "number"] : List Str) := by decide
theorem mk_NoOver {d : D} : mkEx "NoOver" [d] = some ⟨"NoOver", []⟩ := by unfold mkEx; rw [exFs_NoOver]
theorem mk_NoStretch {d : D} : mkEx "NoStretch" [d] = some ⟨"NoStretch", []⟩ := by unfold mkEx; rw [exFs_NoStretch]
theorem mk_NoOne {d : D} : mkEx "NoOne" [d] = some ⟨"NoOne", []⟩ := by unfold mkEx; rw [exFs_NoOne]
theorem mk_NoText {d : D} : mkEx "NoText" [d] = some ⟨"NoText", [("at", d)]⟩ := by unfold mkEx; rw [exFs_NoText]
theorem mk_NoPlace {d : D} : mkEx "NoPlace" [d] = some ⟨"NoPlace", [("place", d)]⟩ := by unfold mkEx; rw [exFs_NoPlace]
theorem mk_NoPoint {d : D} : mkEx "NoPoint" [d] = some ⟨"NoPoint", [("place", d)]⟩ := by unfold mkEx; rw [exFs_NoPoint]
theorem mk_Twice {d : D} : mkEx "Twice" [d] = some ⟨"Twice", [("place", d)]⟩ := by unfold mkEx; rw [exFs_Twice]
theorem mk_NoCut {d : D} : mkEx "NoCut" [d] = some ⟨"NoCut", [("number", d)]⟩ := by unfold mkEx; rw [exFs_NoCut]
theorem mk_NoSmooth {d : D} : mkEx "NoSmooth" [d] = some ⟨"NoSmooth", [("number", d)]⟩ := by unfold mkEx; rw [exFs_NoSmooth]
theorem mk_NoShares {d : D} : mkEx "NoShares" [d] = some ⟨"NoShares", [("number", d)]⟩ := by unfold mkEx; rw [exFs_NoShares]
theorem mk_NoKnot {d : D} : mkEx "NoKnot" [d] = some ⟨"NoKnot", [("number", d)]⟩ := by unfold mkEx; rw [exFs_NoKnot]
theorem mk_NoTask {d e : D} : mkEx "NoTask" [d, e] = some ⟨"NoTask", [("number", e), ("word", d)]⟩ := by unfold mkEx; rw [exFs_NoTask]
theorem mk_NoPaper {d e : D} : mkEx "NoPaper" [d, e] = some ⟨"NoPaper", [("number", e), ("word", d)]⟩ := by unfold mkEx; rw [exFs_NoPaper]
theorem mk_NoKnots {d e : D} : mkEx "NoKnots" [d, e] = some ⟨"NoKnots", [("number", e), ("word", d)]⟩ := by unfold mkEx; rw [exFs_NoKnots]
theorem mk_NoSheet {d e : D} : mkEx "NoSheet" [d, e] = some ⟨"NoSheet", [("number", e), ("word", d)]⟩ := by unfold mkEx; rw [exFs_NoSheet]
theorem lk_1 {f : Str} {d : D} : List.lookup f [(f, d)] = some d := by simp [List.lookup]
theorem lk_n {d e : D} : List.lookup ("number" : Str) [(("number" : Str), e), ("word", d)] = some e := by simp [List.lookup]
theorem lk_w {d e : D} : List.lookup ("word" : Str) [(("number" : Str), e), ("word", d)] = some d := by
  have e1 : (("word" : Str) == ("number" : Str)) = false := by decide
  simp [List.lookup, e1]
theorem hdS_def {X : XP} {P : Pst} {x : Ex} {ct : List Str} {hs : Hds} {δ : Dts} {S : Sto} : @hdS x ct hs δ S ⟨X, P⟩ = (x.cls ∈ ct ∧ wH X hs P x δ S) := rfl
theorem any_1 {f : Str → Bool} {c : Str} : ([c].any f) = f c := by simp
theorem orb_f {b : Bool} : (b || false) = b := by cases b <;> rfl
/-- how many are true -/
theorem cnt_t {S : Sto} {bs : List Bool} {ds : List D} {P : EQ} (h : ds = bs.map D.bl) (p : P (.int ((bs.count true : Nat) : Int)) S) : cntD (.lst ds) (.bl true) S P := by
  subst h
  have h1 := PdL.map (S := S) (f := fun b : Bool => D.bl b) (g := fun b : Bool => PyData.bool b) (k := 0) (fun _ => Pd.bl) bs
  have h2 := h1.lst
  obtain ⟨n, hn⟩ := h2.py
  have hn2 : pyOf S (n + 1) (.lst (bs.map D.bl)) = some (.list (bs.map PyData.bool)) := pyOf_succ _ _ _ hn
  refine ⟨n + 1, .bool true, bs.map PyData.bool, rfl, hn2, (Pd.bl (S := S) (c := true)).shaped (by decide), h2.shaped (by decide), by decide, ?_⟩
  have e : (bs.map PyData.bool).countP (fun z => PyData.eqv z (.bool true)) = bs.count true := by
    rw [List.countP_map, List.count]
    congr 1
  rw [e]
  exact p
end GB

/-! GB27: rows, plainly. -/
namespace GB
open PySem PySem.Spec PyProof.Rows L2

def rowD (cs : List Rat) (ps : List (List Rat)) : D := .tup [.tup (cs.map frq), .tup (ps.map plD)]
def rowP (cs : List Rat) (ps : List (List Rat)) : PyData := .tuple [.tuple (cs.map frP), .tuple (ps.map plP)]
def pg (ps : List (List Rat)) (k : Nat) : List Rat := ps.getD k []
theorem pg_at {ps : List (List Rat)} {k : Nat} (h : k < ps.length) : ps[k]? = some (pg ps k) := by
  unfold pg
  rw [List.getD_eq_getElem?_getD, List.getElem?_eq_getElem h]
  rfl
theorem pg_mem {ps : List (List Rat)} {k : Nat} (h : k < ps.length) : pg ps k ∈ ps := List.mem_of_getElem? (pg_at h)
theorem pn_mem {p : List Rat} {k : Nat} (h : k < p.length) : pn p k ∈ p := by
  unfold pn
  rw [List.getD_eq_getElem?_getD, List.getElem?_eq_getElem h]
  exact List.getElem_mem _
theorem at_pg {ps : List (List Rat)} {k : Nat} (h : k < ps.length) : atI ps (k : Int) = some (pg ps k) := (at_n h).trans (pg_at h)
/-- a row: cuts, pieces -/
structure Rw (cs : List Rat) (ps : List (List Rat)) : Prop where
  ln : cs.length = ps.length + 1
  ne : 0 < ps.length
  up : ∀ k, k < ps.length → pn cs k < pn cs (k + 1)
  tr : ∀ p ∈ ps, trim p = p ∧ p.length ≤ 4
  jn : ∀ k, k + 1 < ps.length → ev (pg ps k) (pn cs (k + 1) - pn cs k) = pn (pg ps (k + 1)) 0
/-- numbers of a common bottom, not far -/
def Nm (D : Nat) (V : Rat) (p : List Rat) : Prop := ∀ x ∈ p, Ig D x ∧ Ab V x
theorem Nm.pn {D : Nat} {V : Rat} {p : List Rat} (h : Nm D V p) (hV : 0 ≤ V) (k : Nat) : Ig D (GB.pn p k) ∧ Ab V (GB.pn p k) := by
  by_cases c : k < p.length
  · exact h _ (pn_mem c)
  · rw [pn_len (by omega)]
    exact ⟨Ig.zero, Ab.zero hV⟩
theorem Nm.le {D : Nat} {V W : Rat} {p : List Rat} (h : Nm D V p) (l : V ≤ W) : Nm D W p := fun x m => ⟨(h x m).1, (h x m).2.le l⟩
theorem Nm.up {D : Nat} {V : Rat} {p : List Rat} (h : Nm D V p) (E : Nat) : Nm (D * E) V p := fun x m => ⟨(h x m).1.up E, (h x m).2⟩
theorem Nm.trim {D : Nat} {V : Rat} {p : List Rat} (h : Nm D V p) : Nm D V (trim p) := fun x m => h x (trim_mem m)
theorem Nm.RL {D b : Nat} {V : Rat} {p : List Rat} (h : Nm D V p) (hD : D ≠ 0) (h1 : D < 2 ^ b) (h2 : V * (D : Rat) < ((2 ^ b : Nat) : Rat)) : RL b p := fun x m => RB.of (h x m).1 (h x m).2 hD h1 h2
/-! ### moved polynomials -/
theorem rat_pow_add {x : Rat} (m : Nat) : ∀ n : Nat, x ^ (m + n) = x ^ m * x ^ n
  | 0 => by rw [Nat.add_zero, Rat.pow_zero, Rat.mul_one]
  | n + 1 => by
    rw [← Nat.add_assoc, Rat.pow_succ, Rat.pow_succ, rat_pow_add m n, Rat.mul_assoc]
theorem pow_ge1 {T : Rat} (hT : 0 ≤ T) : ∀ n : Nat, 1 ≤ (T + 2) ^ n
  | 0 => by rw [Rat.pow_zero]; exact Rat.le_refl
  | n + 1 => by
    have ihn := pow_ge1 hT n
    rw [Rat.pow_succ]
    have a : (1 : Rat) * 1 ≤ (T + 2) ^ n * 1 := Rat.mul_le_mul_of_nonneg_right ihn (by decide)
    have b : (T + 2) ^ n * 1 ≤ (T + 2) ^ n * (T + 2) := Rat.mul_le_mul_of_nonneg_left (by grind) (by grind)
    have h3 := Rat.le_trans a b
    grind
theorem mvN_Ig {D : Nat} {t : Rat} {E : Nat} (ht : Ig E t) : ∀ (p : List Rat) (c : Rat), Ig D c → (∀ x ∈ p, Ig D x) → ∀ k, Ig (D * E ^ p.length) (mvN (c :: p) t k)
  | [], c, hc, _, k => by
    rw [List.length_nil, Nat.pow_zero, Nat.mul_one]
    cases k with
    | zero =>
      show Ig D (t * 0 + c)
      have e : t * 0 + c = c := by grind
      rw [e]; exact hc
    | succ k =>
      rw [mvN_far (show [c].length ≤ k + 1 by simp)]
      exact Ig.zero
  | c2 :: p, c, hc0, h, k => by
    have ih := mvN_Ig ht p c2 (h _ List.mem_cons_self) fun x m => h x (List.mem_cons_of_mem _ m)
    have hc : Ig (D * E ^ (p.length + 1)) c := hc0.up _
    have e1 : E * (D * E ^ p.length) = D * E ^ (p.length + 1) := by
      rw [Nat.pow_succ, ← Nat.mul_assoc, Nat.mul_comm E D, Nat.mul_assoc, Nat.mul_comm E]
    have ht2 : ∀ j, Ig (D * E ^ (p.length + 1)) (t * mvN (c2 :: p) t j) := fun j => (ht.mul (ih j)).cast e1
    have e2 : ∀ j, Ig (D * E ^ (p.length + 1)) (mvN (c2 :: p) t j) := fun j => ((ih j).up E).cast (by rw [Nat.pow_succ, Nat.mul_assoc])
    cases k with
    | zero => exact (ht2 0).add hc
    | succ k => exact (ht2 (k + 1)).add (e2 k)
theorem mvN_Ab {V T : Rat} {t : Rat} (hV : 0 ≤ V) (hT : 0 ≤ T) (ht : Ab T t) : ∀ (p : List Rat) (c : Rat), Ab V c → (∀ x ∈ p, Ab V x) → ∀ k, Ab ((T + 2) ^ p.length * V) (mvN (c :: p) t k)
  | [], c, hc, _, k => by
    rw [List.length_nil, Rat.pow_zero, Rat.one_mul]
    cases k with
    | zero =>
      show Ab V (t * 0 + c)
      have e : t * 0 + c = c := by grind
      rw [e]; exact hc
    | succ k =>
      rw [mvN_far (show [c].length ≤ k + 1 by simp)]
      exact Ab.zero hV
  | c2 :: p, c, hc0, h, k => by
    have ih := mvN_Ab hV hT ht p c2 (h _ List.mem_cons_self) fun x m => h x (List.mem_cons_of_mem _ m)
    have h1 := pow_ge1 hT p.length
    have hW : 0 ≤ (T + 2) ^ p.length * V := Rat.mul_nonneg (Rat.le_trans (by decide) h1) hV
    have hc : Ab ((T + 2) ^ p.length * V) c := by
      refine hc0.le ?_
      have := Rat.mul_le_mul_of_nonneg_right h1 hV
      grind
    have e1 : (T + 2) ^ (c2 :: p).length * V = T * ((T + 2) ^ p.length * V) + ((T + 2) ^ p.length * V + (T + 2) ^ p.length * V) := by
      rw [List.length_cons, Rat.pow_succ]
      grind
    rw [e1]
    have up : ∀ {x : Rat}, Ab ((T + 2) ^ p.length * V) x → Ab ((T + 2) ^ p.length * V + (T + 2) ^ p.length * V) x := fun h => h.le (by grind)
    cases k with
    | zero => exact (ht.mul (ih 0)).add (up hc)
    | succ k => exact (ht.mul (ih (k + 1))).add (up (ih k))
/-- .. of at most four numbers -/
theorem mvN_Nm {D E : Nat} {V T t : Rat} {p : List Rat} (hp : Nm D V p) (hl : p.length ≤ 4) (hV : 0 ≤ V) (hT : 0 ≤ T) (h1 : Ig E t) (h2 : Ab T t) (k : Nat) : Ig (D * E ^ 3) (mvN p t k) ∧ Ab ((T + 2) ^ 3 * V) (mvN p t k) := by
  have hV3 : 0 ≤ (T + 2) ^ 3 * V := Rat.mul_nonneg (Rat.le_trans (by decide) (pow_ge1 hT 3)) hV
  cases p with
  | nil =>
    have : mvN [] t k = 0 := mvN_far (Nat.zero_le _)
    rw [this]
    exact ⟨Ig.zero, Ab.zero hV3⟩
  | cons c p =>
    have a := mvN_Ig h1 p c (hp c List.mem_cons_self).1 (fun x m => (hp x (List.mem_cons_of_mem _ m)).1) k
    have b := mvN_Ab hV hT h2 p c (hp c List.mem_cons_self).2 (fun x m => (hp x (List.mem_cons_of_mem _ m)).2) k
    rw [List.length_cons] at hl
    obtain ⟨r, hr⟩ : ∃ r, 3 = p.length + r := ⟨3 - p.length, by omega⟩
    constructor
    · have := a.up (E ^ r)
      refine this.cast ?_
      rw [Nat.mul_assoc, ← Nat.pow_add, ← hr]
    · refine b.le ?_
      have e : (T + 2) ^ 3 = (T + 2) ^ p.length * (T + 2) ^ r := by rw [hr, rat_pow_add]
      rw [e]
      have h1 := pow_ge1 hT r
      have h0 : 0 ≤ (T + 2) ^ p.length := Rat.le_trans (by decide) (pow_ge1 hT p.length)
      have h3 : (T + 2) ^ p.length * 1 ≤ (T + 2) ^ p.length * (T + 2) ^ r := Rat.mul_le_mul_of_nonneg_left h1 h0
      rw [Rat.mul_one] at h3
      exact Rat.mul_le_mul_of_nonneg_right h3 hV
theorem ev_mv0 {t : Rat} : ∀ p : List Rat, mvN p t 0 = ev p t
  | [] => rfl
  | c :: p => by
    show t * mvN p t 0 + c = c + t * ev p t
    rw [ev_mv0]
    grind
theorem ev_trim {t : Rat} : ∀ p : List Rat, ev (trim p) t = ev p t
  | [] => rfl
  | a :: p => by
    have ih := ev_trim (t := t) p
    show ev (if trim p = [] ∧ a = 0 then [] else a :: trim p) t = a + t * ev p t
    split
    · rename_i c
      rw [c.1] at ih
      rw [← ih, c.2]
      show (0 : Rat) = 0 + t * 0
      grind
    · show a + t * ev (trim p) t = a + t * ev p t
      rw [ih]
/-! ### rows as they are drawn -/
def DDj (j : Nat) : Nat := 84 * 216 ^ j
def VVj (j : Nat) : Rat := 1024 * 216 ^ j
/-- .. of j pieces yet -/
structure RwJ (j : Nat) (cs : List Rat) (ps : List (List Rat)) (f : List Rat) : Prop where
  lc : cs.length = j + 1
  lp : ps.length = j
  up : ∀ k, k < j → pn cs k < pn cs (k + 1) ∧ pn cs (k + 1) - pn cs k ≤ 4
  cn : ∀ c ∈ cs, Ig 6 c ∧ Ab (2 ^ 27 + 4 * (j : Rat)) c
  tr : ∀ p ∈ ps, trim p = p ∧ p.length ≤ 4 ∧ Nm (DDj j) (VVj j) p
  jn : ∀ k, k + 1 < j → ev (pg ps k) (pn cs (k + 1) - pn cs k) = pn (pg ps (k + 1)) 0
  fl : f.length = 4
  fn : Nm (DDj j) (VVj j) f
  fj : 0 < j → pn f 0 = ev (pg ps (j - 1)) (pn cs j - pn cs (j - 1))
theorem VVj_pos (j : Nat) : 0 ≤ VVj j := by
  unfold VVj
  have : ∀ n : Nat, 0 ≤ (216 : Rat) ^ n := by
    intro n
    induction n with
    | zero => rw [Rat.pow_zero]; decide
    | succ n ih => rw [Rat.pow_succ]; exact Rat.mul_nonneg ih (by decide)
  exact Rat.mul_nonneg (by decide) (this j)
theorem VVj_succ (j : Nat) : VVj (j + 1) = (4 + 2) ^ 3 * VVj j := by
  unfold VVj
  rw [Rat.pow_succ]
  have : (216 : Rat) = (4 + 2) ^ 3 := by grind
  rw [← this]
  grind
theorem DDj_succ (j : Nat) : DDj (j + 1) = DDj j * 6 ^ 3 := by
  unfold DDj
  rw [Nat.pow_succ, Nat.mul_assoc]
theorem VVj_up (j : Nat) : VVj j ≤ VVj (j + 1) := by
  rw [VVj_succ]
  have h := VVj_pos j
  have e : ((4 : Rat) + 2) ^ 3 = 216 := by grind
  rw [e]
  grind
theorem Nm.next {j : Nat} {p : List Rat} (h : Nm (DDj j) (VVj j) p) : Nm (DDj (j + 1)) (VVj (j + 1)) p := by
  rw [DDj_succ]
  exact (h.up _).le (VVj_up j)
theorem pn_app1 {a : List Rat} {x : Rat} : pn (a ++ [x]) a.length = x := by rw [pn_app, if_neg (Nat.lt_irrefl _), if_pos rfl]
theorem pn_app0 {a : List Rat} {x : Rat} {i : Nat} (h : i < a.length) : pn (a ++ [x]) i = pn a i := by rw [pn_app, if_pos h]
theorem pg_app1 {a : List (List Rat)} {x : List Rat} : pg (a ++ [x]) a.length = x := by
  unfold pg
  rw [List.getD_eq_getElem?_getD, List.getElem?_append_right (Nat.le_refl _), Nat.sub_self]
  rfl
theorem pg_app0 {a : List (List Rat)} {x : List Rat} {i : Nat} (h : i < a.length) : pg (a ++ [x]) i = pg a i := by
  unfold pg
  rw [List.getD_eq_getElem?_getD, List.getD_eq_getElem?_getD, List.getElem?_append_left h]
/-- one piece more -/
theorem RwJ.more {j : Nat} {cs : List Rat} {ps : List (List Rat)} {f g ns : List Rat} {l : Rat} (h : RwJ j cs ps f) (hl0 : 0 < l) (hl4 : l ≤ 4) (hl6 : Ig 6 l) (hns : Nm (DDj j) (VVj j) ns) (hn4 : ns.length ≤ 4) (hn0 : 0 < j → pn ns 0 = pn f 0)
    (hg : g.length = 4) (hgm : ∀ k, pn g k = mvN (trim ns) l k) : RwJ (j + 1) (cs ++ [pn cs j + l]) (ps ++ [trim ns]) g := by
  have lc := h.lc
  have lp := h.lp
  have tl : (trim ns).length ≤ 4 := Nat.le_trans (trim_len _) hn4
  have abl : Ab 4 l := ⟨by grind, hl4⟩
  have hnt : Nm (DDj j) (VVj j) (trim ns) := hns.trim
  have e0 : ∀ k, k < j + 1 → pn (cs ++ [pn cs j + l]) k = pn cs k := fun k hk => pn_app0 (by omega)
  have e1 : pn (cs ++ [pn cs j + l]) (j + 1) = pn cs j + l := by rw [← lc]; exact pn_app1
  have p0 : ∀ k, k < j → pg (ps ++ [trim ns]) k = pg ps k := fun k hk => pg_app0 (by omega)
  have p1 : pg (ps ++ [trim ns]) j = trim ns := by rw [← lp]; exact pg_app1
  refine ⟨by simp [lc], by simp [lp], ?_, ?_, ?_, ?_, hg, ?_, ?_⟩
  · intro k hk
    by_cases c : k < j
    · rw [e0 k (by omega), e0 (k + 1) (by omega)]
      exact h.up k c
    · have : k = j := by omega
      subst this
      rw [e0 k (by omega), e1]
      constructor <;> grind
  · intro c m
    have up4 : (2 : Rat) ^ 27 + 4 * (j : Rat) ≤ 2 ^ 27 + 4 * ((j + 1 : Nat) : Rat) := by
      rw [Rat.natCast_add]
      grind
    rcases List.mem_append.mp m with m | m
    · exact ⟨(h.cn c m).1, (h.cn c m).2.le up4⟩
    · rw [List.mem_singleton.mp m]
      have hc := h.cn (pn cs j) (pn_mem (by omega))
      refine ⟨hc.1.add hl6, (hc.2.add abl).le ?_⟩
      rw [Rat.natCast_add]
      grind
  · intro p m
    rcases List.mem_append.mp m with m | m
    · exact ⟨(h.tr p m).1, (h.tr p m).2.1, (h.tr p m).2.2.next⟩
    · rw [List.mem_singleton.mp m]
      exact ⟨trim_trim _, tl, hnt.next⟩
  · intro k hk
    by_cases c : k + 1 < j
    · rw [p0 k (by omega), p0 (k + 1) c, e0 k (by omega), e0 (k + 1) (by omega)]
      exact h.jn k c
    · have : k + 1 = j := by omega
      subst this
      rw [p0 k (by omega), p1, e0 k (by omega), e0 (k + 1) (by omega), trim_pn, hn0 (by omega), h.fj (by omega)]
      rfl
  · intro x m
    obtain ⟨i, hi, rfl⟩ := List.mem_iff_getElem.mp m
    have e : g[i] = pn g i := by
      unfold pn
      rw [List.getD_eq_getElem?_getD, List.getElem?_eq_getElem hi]
      rfl
    rw [e, hgm, DDj_succ, VVj_succ]
    exact mvN_Nm hnt tl (VVj_pos j) (by decide) hl6 abl i
  · intro _
    show pn g 0 = ev (pg (ps ++ [trim ns]) j) (pn (cs ++ [pn cs j + l]) (j + 1) - pn (cs ++ [pn cs j + l]) j)
    rw [p1, e1, e0 j (by omega), hgm, ev_mv0]
    congr 1
    grind
end GB
namespace GB
open PySem PySem.Spec PyProof.Rows L2
theorem divInt_mul {a d : Int} (hd : d ≠ 0) : Rat.divInt a d * (d : Rat) = (a : Rat) := by
  rw [Rat.divInt_eq_div]
  have : (d : Rat) ≠ 0 := fun e => hd (by
    have e2 : (d : Rat) = ((0 : Int) : Rat) := e
    exact Rat.intCast_inj.mp e2)
  grind
theorem divInt_Ig {a d : Int} {E : Nat} (k : Int) (hd : d ≠ 0) (e : d * k = (E : Int)) : Ig E (Rat.divInt a d) := by
  refine ⟨a * k, ?_⟩
  have h := divInt_mul (a := a) hd
  have e2 : (E : Rat) = (d : Rat) * (k : Rat) := by
    rw [← Rat.intCast_mul, e, Rat.intCast_natCast]
  rw [e2, Rat.intCast_mul, ← h]
  grind
theorem divInt_Ab {a d : Int} {T : Int} (h1 : -T ≤ a) (h2 : a ≤ T) (hd : 1 ≤ d) : Ab (T : Rat) (Rat.divInt a d) := by
  have h := divInt_mul (a := a) (d := d) (by omega)
  have i1 : -(T : Rat) ≤ (a : Rat) := by
    rw [← Rat.intCast_neg]
    exact Rat.intCast_le_intCast.mpr h1
  have i2 : (a : Rat) ≤ (T : Rat) := Rat.intCast_le_intCast.mpr h2
  have i3 : (0 : Rat) ≤ (d : Rat) - 1 := by
    have : ((1 : Int) : Rat) ≤ (d : Rat) := Rat.intCast_le_intCast.mpr hd
    have e1 : ((1 : Int) : Rat) = 1 := rfl
    grind
  generalize Rat.divInt a d = q at *
  by_cases c : 0 ≤ q
  · have := Rat.mul_nonneg c i3
    constructor <;> grind
  · have c2 : 0 ≤ -q := by grind
    have := Rat.mul_nonneg c2 i3
    constructor <;> grind
/-- a row as it is drawn -/
structure RwG (cs : List Rat) (ps : List (List Rat)) : Prop where
  rw_ : Rw cs ps
  l4 : ∀ k, k < ps.length → pn cs (k + 1) - pn cs k ≤ 4
  cn : ∀ c ∈ cs, Ig 6 c ∧ Ab (2 ^ 28) c
  pm : ∀ p ∈ ps, Nm (DDj 12) (VVj 12) p
  many : ps.length ≤ 12
theorem Nm.to12 {j : Nat} {p : List Rat} (h : Nm (DDj j) (VVj j) p) : ∀ n, j + n = 12 → Nm (DDj 12) (VVj 12) p := by
  intro n
  induction n generalizing j with
  | zero => intro e; rw [Nat.add_zero] at e; subst e; exact h
  | succ n ih => intro e; exact ih h.next (by omega)
theorem RwJ.fin {j : Nat} {cs : List Rat} {ps : List (List Rat)} {f : List Rat} (h : RwJ j cs ps f) (h0 : 0 < j) (h1 : j ≤ 12) : RwG cs ps := by
  have lp := h.lp
  refine ⟨⟨by rw [h.lc, lp], by omega, fun k hk => (h.up k (by omega)).1, fun p m => ⟨(h.tr p m).1, (h.tr p m).2.1⟩, fun k hk => h.jn k (by omega)⟩, fun k hk => (h.up k (by omega)).2, fun c m => ⟨(h.cn c m).1, (h.cn c m).2.le ?_⟩, fun p m => (h.tr p m).2.2.to12 (12 - j) (by omega), by omega⟩
  have : (j : Rat) ≤ ((12 : Nat) : Rat) := Rat.natCast_le_natCast.mpr h1
  have e : ((12 : Nat) : Rat) = 12 := rfl
  grind
theorem RwG.bc {cs : List Rat} {ps : List (List Rat)} (h : RwG cs ps) : RL 40 cs := fun c m => RB.of (h.cn c m).1 (h.cn c m).2 (by decide) (by decide) (by decide +kernel)
theorem RwG.bp {cs : List Rat} {ps : List (List Rat)} (h : RwG cs ps) : ∀ p ∈ ps, RL 210 p := fun p m => (h.pm p m).RL (by decide +kernel) (by decide +kernel) (by decide +kernel)
end GB

/-! GB28: slopes, bends, and which piece of a row, plainly. -/
namespace GB
open PySem PySem.Spec PyProof.Rows L2
/-! ### slopes -/
def slP (p : List Rat) : List Rat := trim ((List.range (p.length - 1)).map fun i : Nat => ((i : Rat) + 1) * pn p (i + 1))
theorem slP_pn {p : List Rat} {k : Nat} : pn (slP p) k = ((k : Rat) + 1) * pn p (k + 1) := by
  unfold slP
  rw [trim_pn]
  unfold pn
  rw [List.getD_eq_getElem?_getD, List.getElem?_map]
  by_cases c : k < p.length - 1
  · rw [List.getElem?_range c]
    rfl
  · rw [List.getElem?_eq_none (by rw [List.length_range]; omega), List.getD_eq_getElem?_getD, List.getElem?_eq_none (by omega)]
    show (0 : Rat) = _ * 0
    grind
theorem slP_len {p : List Rat} : (slP p).length ≤ p.length - 1 := by
  refine Nat.le_trans (trim_len _) ?_
  rw [List.length_map, List.length_range]
  exact Nat.le_refl _
theorem slP_RL {b : Nat} {p : List Rat} (h : RL b p) (hb : 1 ≤ b) (hl : p.length ≤ 4) : RL (b + 3) (slP p) := by
  intro x m
  obtain ⟨i, hi, rfl⟩ := List.mem_map.mp (trim_mem m)
  have i4 := List.mem_range.mp hi
  have : RB 3 ((i : Rat) + 1) := by
    have : i = 0 ∨ i = 1 ∨ i = 2 := by omega
    rcases this with rfl | rfl | rfl <;> exact RB.lit (by decide +kernel)
  rw [Nat.add_comm]
  exact RB.mul this (h.pn hb _)
theorem ev4 {t : Rat} : ∀ {p : List Rat}, p.length ≤ 4 → ev p t = pn p 0 + t * (pn p 1 + t * (pn p 2 + t * pn p 3))
  | [], _ => by show (0 : Rat) = 0 + t * (0 + t * (0 + t * 0)); grind
  | [a], _ => by show a + t * 0 = a + t * (0 + t * (0 + t * 0)); grind
  | [a, b], _ => by show a + t * (b + t * 0) = a + t * (b + t * (0 + t * 0)); grind
  | [a, b, c], _ => by show a + t * (b + t * (c + t * 0)) = a + t * (b + t * (c + t * 0)); grind
  | [a, b, c, d], _ => by show a + t * (b + t * (c + t * (d + t * 0))) = a + t * (b + t * (c + t * d)); grind
  | _ :: _ :: _ :: _ :: _ :: _, h => absurd h (by simp)
theorem mv4 {t : Rat} : ∀ {p : List Rat}, p.length ≤ 4 → mvN p t 1 = pn p 1 + t * (2 * pn p 2 + t * (3 * pn p 3)) ∧ mvN p t 2 = pn p 2 + t * (3 * pn p 3) ∧ mvN p t 3 = pn p 3
  | [], _ => by refine ⟨?_, ?_, ?_⟩ <;> simp only [mvN, pn, List.getD_nil] <;> grind
  | [a], _ => by refine ⟨?_, ?_, ?_⟩ <;> simp only [mvN, pn, List.getD_nil, List.getD_cons_zero, List.getD_cons_succ] <;> grind
  | [a, b], _ => by refine ⟨?_, ?_, ?_⟩ <;> simp only [mvN, pn, List.getD_nil, List.getD_cons_zero, List.getD_cons_succ] <;> grind
  | [a, b, c], _ => by refine ⟨?_, ?_, ?_⟩ <;> simp only [mvN, pn, List.getD_nil, List.getD_cons_zero, List.getD_cons_succ] <;> grind
  | [a, b, c, d], _ => by refine ⟨?_, ?_, ?_⟩ <;> simp only [mvN, pn, List.getD_nil, List.getD_cons_zero, List.getD_cons_succ] <;> grind
  | _ :: _ :: _ :: _ :: _ :: _, h => absurd h (by simp)
theorem bends4 {t : Rat} {p : List Rat} (h : p.length ≤ 4) : ev (slP p) t = mvN p t 1 ∧ ev (slP (slP p)) t = 2 * mvN p t 2 ∧ ev (slP (slP (slP p))) t = 6 * mvN p t 3 := by
  have l1 := slP_len (p := p)
  have l2 := slP_len (p := slP p)
  have l3 := slP_len (p := slP (slP p))
  obtain ⟨m1, m2, m3⟩ := mv4 (t := t) h
  have z : ∀ {q : List Rat} {k : Nat}, q.length ≤ k → pn q k = 0 := fun h => pn_len h
  have n0 : ((0 : Nat) : Rat) = 0 := rfl
  have n1 : ((1 : Nat) : Rat) = 1 := rfl
  have n2 : ((2 : Nat) : Rat) = 2 := rfl
  have n3 : ((3 : Nat) : Rat) = 3 := rfl
  rw [ev4 (by omega), ev4 (by omega), ev4 (by omega), m1, m2, m3]
  simp only [slP_pn, n0, n1, n2, n3, z (show p.length ≤ 4 by omega), z (show p.length ≤ 5 by omega), z (show p.length ≤ 6 by omega)]
  refine ⟨?_, ?_, ?_⟩ <;> grind
/-- the bends at t: value, slope, slope's slope and that one's slope -/
def bD (p : List Rat) (t : Rat) : D := .tup [frq (mvN p t 0), frq (mvN p t 1), frq (2 * mvN p t 2), frq (6 * mvN p t 3)]
def bP4 (p : List Rat) (t : Rat) : PyData := .tuple [frP (mvN p t 0), frP (mvN p t 1), frP (2 * mvN p t 2), frP (6 * mvN p t 3)]
/-! ### which piece -/
def ixA (cs : List Rat) (x : Rat) : Nat → Option Nat
  | 0 => none
  | k + 1 => if pn cs k < x ∧ x ≤ pn cs (k + 1) then some k else ixA cs x k
def ixB (cs : List Rat) (x : Rat) : Nat → Option Nat
  | 0 => none
  | k + 1 => if pn cs k ≤ x ∧ x < pn cs (k + 1) then some k else ixB cs x k
def boD (cs : List Rat) (ps : List (List Rat)) (x : Rat) : Option Nat → D
  | none => .non
  | some k => bD (pg ps k) (x - pn cs k)
def boP (cs : List Rat) (ps : List (List Rat)) (x : Rat) : Option Nat → PyData
  | none => .none
  | some k => bP4 (pg ps k) (x - pn cs k)
theorem ixA_some {cs : List Rat} {x : Rat} {k : Nat} : ∀ {m : Nat}, ixA cs x m = some k → k < m ∧ pn cs k < x ∧ x ≤ pn cs (k + 1)
  | 0, h => by cases h
  | m + 1, h => by
    unfold ixA at h
    split at h
    · rename_i c
      cases h
      exact ⟨by omega, c⟩
    · have := ixA_some h
      exact ⟨by omega, this.2⟩
theorem ixB_some {cs : List Rat} {x : Rat} {k : Nat} : ∀ {m : Nat}, ixB cs x m = some k → k < m ∧ pn cs k ≤ x ∧ x < pn cs (k + 1)
  | 0, h => by cases h
  | m + 1, h => by
    unfold ixB at h
    split at h
    · rename_i c
      cases h
      exact ⟨by omega, c⟩
    · have := ixB_some h
      exact ⟨by omega, this.2⟩
theorem ixB_none {cs : List Rat} {x : Rat} : ∀ {m : Nat}, ixB cs x m = none → ∀ k, k < m → ¬(pn cs k ≤ x ∧ x < pn cs (k + 1))
  | 0, _, k, hk => by omega
  | m + 1, h, k, hk => by
    unfold ixB at h
    split at h
    · cases h
    · rename_i c
      by_cases e : k = m
      · subst e; exact c
      · exact ixB_none h k (by omega)
section
variable {cs : List Rat} {ps : List (List Rat)} (h : Rw cs ps)
include h
theorem Rw.lt {i : Nat} : ∀ {d : Nat}, i + d + 1 ≤ ps.length → pn cs i < pn cs (i + d + 1)
  | 0, hl => h.up i (by omega)
  | d + 1, hl => by
    have a := Rw.lt (i := i) (d := d) (by omega)
    have b := h.up (i + d + 1) (by omega)
    exact Std.lt_trans a b
theorem Rw.lt' {i j : Nat} (c : i < j) (l : j ≤ ps.length) : pn cs i < pn cs j := by
  obtain ⟨d, rfl⟩ : ∃ d, j = i + d + 1 := ⟨j - i - 1, by omega⟩
  exact h.lt l
theorem Rw.le' {i j : Nat} (c : i ≤ j) (l : j ≤ ps.length) : pn cs i ≤ pn cs j := by
  by_cases e : i = j
  · subst e; exact Rat.le_refl
  · exact Rat.le_of_lt (h.lt' (by omega) l)
/-- the value, found from below, is the one the bends tell -/
theorem Rw.val {x : Rat} {k : Nat} (h0 : pn cs 0 ≤ x) (h1 : x ≤ pn cs ps.length) (hk : k < ps.length) (hx : x ≤ pn cs (k + 1)) (hl : ∀ j, j < k → pn cs (j + 1) < x) :
    (∀ k', ixB cs x ps.length = some k' → mvN (pg ps k') (x - pn cs k') 0 = ev (pg ps k) (x - pn cs k)) ∧
    (ixB cs x ps.length = none → ∃ k', ixA cs x ps.length = some k' ∧ mvN (pg ps k') (x - pn cs k') 0 = ev (pg ps k) (x - pn cs k)) := by
  constructor
  · intro k' e
    obtain ⟨l, a, b⟩ := ixB_some e
    rw [ev_mv0]
    rcases Nat.lt_trichotomy k k' with c | c | c
    · have i1 := h.le' (i := k + 1) (j := k') (by omega) (by omega)
      have e1 : k' = k + 1 := by
        by_cases e2 : k + 1 = k'
        · exact e2.symm
        · have := h.lt' (i := k + 1) (j := k') (by omega) (by omega)
          exact absurd (Std.lt_of_le_of_lt hx (Std.lt_of_lt_of_le this a)) (by grind)
      subst e1
      have e3 : x = pn cs (k + 1) := by grind
      rw [e3, h.jn k (by omega)]
      have : pn cs (k + 1) - pn cs (k + 1) = 0 := by grind
      rw [this]
      generalize pg ps (k + 1) = q
      cases q with
      | nil => rfl
      | cons w q =>
        show w + 0 * _ = w
        grind
    · subst c; rfl
    · exact absurd (Std.lt_trans b (hl k' c)) (by grind)
  · intro e
    have up : ∀ j, j ≤ ps.length → pn cs j ≤ x := by
      intro j
      induction j with
      | zero => intro _; exact h0
      | succ j ih =>
        intro hj
        have := ixB_none e j (by omega)
        have i := ih (by omega)
        grind
    have ex : x = pn cs ps.length := by have := up ps.length (Nat.le_refl _); grind
    have ek : k + 1 = ps.length := by
      by_cases c : k + 1 = ps.length
      · exact c
      · have := h.lt' (i := k + 1) (j := ps.length) (by omega) (Nat.le_refl _)
        grind
    refine ⟨k, ?_, ev_mv0 _⟩
    rw [← ek]
    unfold ixA
    rw [if_pos]
    refine ⟨?_, hx⟩
    rw [ex, ← ek]
    exact h.up k hk
/-- there is such a piece -/
theorem Rw.find {x : Rat} (h1 : x ≤ pn cs ps.length) : ∃ k, k < ps.length ∧ x ≤ pn cs (k + 1) ∧ ∀ j, j < k → pn cs (j + 1) < x := by
  have ne := h.ne
  have go : ∀ d k, k + d + 1 = ps.length → (∀ j, j < k → pn cs (j + 1) < x) → ∃ k, k < ps.length ∧ x ≤ pn cs (k + 1) ∧ ∀ j, j < k → pn cs (j + 1) < x := by
    intro d
    induction d with
    | zero =>
      intro k e hj
      exact ⟨k, by omega, by rw [Nat.add_zero] at e; rw [e]; exact h1, hj⟩
    | succ d ih =>
      intro k e hj
      by_cases c : x ≤ pn cs (k + 1)
      · exact ⟨k, by omega, c, hj⟩
      · refine ih (k + 1) (by omega) fun j hj2 => ?_
        by_cases c2 : j < k
        · exact hj j c2
        · have : j = k := by omega
          subst this
          grind
  exact go (ps.length - 1) 0 (by omega) fun j hj => by omega
end
end GB

/-! GB29: a def that calls itself once; sums beneath rows, plainly. -/
namespace GB
open PySem PySem.Spec PyProof.Rows L2
/-- of which nothing is asked -/
def spNone : Spec := fun _ _ _ _ => False
theorem callee_none {P : Program} {w : World} {K : FK} {mg : MG} {base : Heap} {x qual : Str} {params : Arguments} {body : List Stmt} {scope : Scope} {f : Addr} {fd : FuncData} {ps : List Str} {k : Nat}
    (hm : mg x = some (.ref f)) (F : FunD K x qual params body scope [] [] f fd) (bd : Binds K fd ps []) : Callee ⟨P, w, K, mg, base⟩ k x spNone :=
  ⟨f, fd, ps, hm, F.kp, bd, ⟨fun vs H Q E h => by obtain ⟨_, _, _, _, _, _, _, _, h, _⟩ := h; exact h.elim, fun A outer s H args us vs Q E _ _ _ _ _ h => by obtain ⟨_, _, _, _, _, _, _, _, h, _⟩ := h; exact h.elim⟩⟩
/-! ### sums beneath rows -/
def fstR (cs : List Rat) (lo : Rat) (k : Nat) : Rat := if lo < pn cs k then pn cs k else lo
def lstR (cs : List Rat) (hi : Rat) (k : Nat) : Rat := if pn cs (k + 1) < hi then pn cs (k + 1) else hi
def trmR (cs : List Rat) (ps : List (List Rat)) (lo hi : Rat) (k : Nat) : Rat := if fstR cs lo k < lstR cs hi k then unS (pn (pg ps k)) (fstR cs lo k - pn cs k) (lstR cs hi k - pn cs k) (pg ps k).length else 0
def U9 (cs : List Rat) (ps : List (List Rat)) (lo hi : Rat) : Nat → Rat
  | 0 => 0
  | k + 1 => U9 cs ps lo hi k + trmR cs ps lo hi k
theorem unS_Ig2 {f : Nat → Rat} {l h : Rat} {Dn E : Nat} (hf : ∀ k, Ig Dn (f k)) (hl : Ig E l) (hh : Ig E h) : ∀ n : Nat, n ≤ 8 → Ig (Dn * (E ^ 8 * 840)) (unS f l h n)
  | 0, _ => Ig.zero
  | n + 1, hn => by
    have i1 := unS_Ig2 hf hl hh n (by omega)
    exact i1.add ((hf n).mul (((hh.lift (n := n + 1) (m := 8) hn).sub (hl.lift hn)).mul (Ig.inv840 (by omega))))
/-- within a piece -/
structure Pc (l : Rat) : Prop where
  i : Ig 42000 l
  a : Ab 4 l
theorem Pc.zero : Pc 0 := ⟨Ig.zero, Ab.zero (by decide)⟩
theorem Pc.rb {l : Rat} (h : Pc l) : RB 45 l := RB.of h.i h.a (by decide) (by decide +kernel) (by decide +kernel)
def G9 : Nat := DDj 12 * (42000 ^ 8 * 840)
def W9 : Rat := 4 * (VVj 12 * ((4 ^ 8 + 4 ^ 8) * 1))
theorem pc_un {p : List Rat} (hp : Nm (DDj 12) (VVj 12) p) {l h : Rat} (a : Pc l) (b : Pc h) {n : Nat} (hn : n ≤ 4) : Ig G9 (unS (pn p) l h n) ∧ Ab W9 (unS (pn p) l h n) := by
  refine ⟨unS_Ig2 (fun k => (hp.pn (VVj_pos 12) k).1) a.i b.i n (by omega), (unS_Ab (fun k => (hp.pn (VVj_pos 12) k).2) a.a b.a (by decide) n (by omega)).le ?_⟩
  have h4 : (n : Rat) ≤ ((4 : Nat) : Rat) := Rat.natCast_le_natCast.mpr hn
  have e : ((4 : Nat) : Rat) = 4 := rfl
  rw [e] at h4
  exact Rat.mul_le_mul_of_nonneg_right h4 (by decide +kernel)
theorem W9_pos : 0 ≤ W9 := by decide +kernel
theorem pc_RB {x : Rat} (h : Ig G9 x ∧ Ab W9 x) : RB 1900 x := RB.of h.1 h.2 (by decide +kernel) (by decide +kernel) (by decide +kernel)
section
variable {cs : List Rat} {ps : List (List Rat)} (h : RwG cs ps) {lo hi : Rat} (i0 : Ig 42000 lo) (i1 : Ig 42000 hi)
include h i0 i1
theorem RwG.pcs {k : Nat} (hk : k < ps.length) (c : fstR cs lo k < lstR cs hi k) : Pc (fstR cs lo k - pn cs k) ∧ Pc (lstR cs hi k - pn cs k) := by
  have ln := h.rw_.ln
  have c0 := (h.cn (pn cs k) (pn_mem (by omega))).1.up 7000
  have c1 := (h.cn (pn cs (k + 1)) (pn_mem (by omega))).1.up 7000
  have l4 := h.l4 k hk
  have j0 : Ig 42000 (fstR cs lo k) := by
    unfold fstR
    split
    · exact c0.cast (by decide)
    · exact i0
  have j1 : Ig 42000 (lstR cs hi k) := by
    unfold lstR
    split
    · exact c1.cast (by decide)
    · exact i1
  have f0 : pn cs k ≤ fstR cs lo k := by
    unfold fstR
    split <;> grind
  have f1 : lstR cs hi k ≤ pn cs (k + 1) := by
    unfold lstR
    split <;> grind
  generalize fstR cs lo k = a at *
  generalize lstR cs hi k = b at *
  exact ⟨⟨j0.sub (c0.cast (by decide)), by constructor <;> grind⟩, ⟨j1.sub (c0.cast (by decide)), by constructor <;> grind⟩⟩
theorem RwG.trm {k : Nat} (hk : k < ps.length) : Ig G9 (trmR cs ps lo hi k) ∧ Ab W9 (trmR cs ps lo hi k) := by
  unfold trmR
  split
  · rename_i c
    have p := h.pcs i0 i1 hk c
    exact pc_un (h.pm _ (pg_mem hk)) p.1 p.2 (h.rw_.tr _ (pg_mem hk)).2
  · exact ⟨Ig.zero, Ab.zero W9_pos⟩
theorem RwG.u9 : ∀ {k : Nat}, k ≤ ps.length → Ig G9 (U9 cs ps lo hi k) ∧ Ab ((k : Rat) * W9) (U9 cs ps lo hi k)
  | 0, _ => ⟨Ig.zero, Ab.zero (by have : ((0 : Nat) : Rat) = 0 := rfl; rw [this, Rat.zero_mul]; exact Rat.le_refl)⟩
  | k + 1, hk => by
    have a := RwG.u9 (k := k) (by omega)
    have b := h.trm i0 i1 (k := k) (by omega)
    refine ⟨a.1.add b.1, (a.2.add b.2).le ?_⟩
    rw [Rat.natCast_add]
    have e : ((1 : Nat) : Rat) = 1 := rfl
    rw [e]
    grind
theorem RwG.u9b {k : Nat} (hk : k ≤ ps.length) : RB 1000 (U9 cs ps lo hi k) := by
  have a := h.u9 i0 i1 hk
  have m := h.many
  have h4 : (k : Rat) ≤ ((12 : Nat) : Rat) := Rat.natCast_le_natCast.mpr (by omega)
  exact RB.of a.1 (a.2.le (Rat.mul_le_mul_of_nonneg_right h4 W9_pos)) (by decide +kernel) (by decide +kernel) (by decide +kernel)
end
section
variable {cs : List Rat} {ps : List (List Rat)} (h : Rw cs ps)
include h
theorem Rw.trm_cut {a b k : Nat} (ha : a ≤ ps.length) (hb : b ≤ ps.length) (hk : k < ps.length) : trmR cs ps (pn cs a) (pn cs b) k = if a ≤ k ∧ k < b then unS (pn (pg ps k)) 0 (pn cs (k + 1) - pn cs k) (pg ps k).length else 0 := by
  have up := h.up k hk
  by_cases c : a ≤ k ∧ k < b
  · have l1 := h.le' c.1 (by omega)
    have l2 := h.le' (i := k + 1) (j := b) (by omega) hb
    have f : fstR cs (pn cs a) k = pn cs k := by
      unfold fstR
      split <;> grind
    have g : lstR cs (pn cs b) k = pn cs (k + 1) := by
      unfold lstR
      split <;> grind
    rw [if_pos c]
    unfold trmR
    rw [f, g, if_pos up]
    congr 1
    grind
  · rw [if_neg c]
    unfold trmR
    refine if_neg fun z => ?_
    have f0 : pn cs k ≤ fstR cs (pn cs a) k := by
      unfold fstR
      split <;> grind
    have f1 : pn cs a ≤ fstR cs (pn cs a) k := by
      unfold fstR
      split <;> grind
    have g0 : lstR cs (pn cs b) k ≤ pn cs (k + 1) := by
      unfold lstR
      split <;> grind
    have g1 : lstR cs (pn cs b) k ≤ pn cs b := by
      unfold lstR
      split <;> grind
    by_cases c2 : a ≤ k
    · have := h.le' (i := b) (j := k) (by omega) (by omega)
      grind
    · have := h.le' (i := k + 1) (j := a) (by omega) ha
      grind
theorem Rw.parts {m : Nat} (hm : m ≤ ps.length) : U9 cs ps (pn cs 0) (pn cs m) ps.length + U9 cs ps (pn cs m) (pn cs ps.length) ps.length = U9 cs ps (pn cs 0) (pn cs ps.length) ps.length := by
  have go : ∀ k, k ≤ ps.length → U9 cs ps (pn cs 0) (pn cs m) k + U9 cs ps (pn cs m) (pn cs ps.length) k = U9 cs ps (pn cs 0) (pn cs ps.length) k := by
    intro k
    induction k with
    | zero => intro _; show (0 : Rat) + 0 = 0; grind
    | succ k ih =>
      intro hk
      have i := ih (by omega)
      have t : trmR cs ps (pn cs 0) (pn cs m) k + trmR cs ps (pn cs m) (pn cs ps.length) k = trmR cs ps (pn cs 0) (pn cs ps.length) k := by
        rw [h.trm_cut (Nat.zero_le _) hm (by omega), h.trm_cut hm (Nat.le_refl _) (by omega), h.trm_cut (Nat.zero_le _) (Nat.le_refl _) (by omega), if_pos (c := 0 ≤ k ∧ k < ps.length) ⟨Nat.zero_le _, by omega⟩]
        by_cases c : k < m
        · rw [if_pos ⟨Nat.zero_le _, c⟩, if_neg (by omega)]
          grind
        · rw [if_neg (by omega), if_pos (by omega)]
          grind
      show U9 cs ps _ _ k + trmR cs ps _ _ k + (U9 cs ps _ _ k + trmR cs ps _ _ k) = U9 cs ps _ _ k + trmR cs ps _ _ k
      grind
  exact go _ (Nat.le_refl _)
end
end GB

/-! GB30: moved polynomials, plainly. -/
namespace GB
open PySem PySem.Spec PyProof.Rows L2
theorem mv0 {t : Rat} {p : List Rat} (h : p.length ≤ 4) : mvN p t 0 = pn p 0 + t * (pn p 1 + t * (pn p 2 + t * pn p 3)) := by
  rw [ev_mv0, ev4 h]
theorem mv_at0 {p : List Rat} (h : p.length ≤ 4) : ∀ k, mvN p 0 k = pn p k
  | 0 => by rw [mv0 h]; grind
  | 1 => by rw [(mv4 h).1]; grind
  | 2 => by rw [(mv4 h).2.1]; grind
  | 3 => (mv4 h).2.2
  | k + 4 => by rw [mvN_far (by omega), pn_len (by omega)]
/-- moved twice -/
theorem mv_mv {p g : List Rat} {a b : Rat} (hp : p.length ≤ 4) (hg : g.length ≤ 4) (e : ∀ k, pn g k = mvN p a k) : ∀ k, mvN g b k = mvN p (a + b) k := by
  have e0 := e 0
  have e1 := e 1
  have e2 := e 2
  have e3 := e 3
  rw [mv0 hp] at e0
  rw [(mv4 hp).1] at e1
  rw [(mv4 hp).2.1] at e2
  rw [(mv4 hp).2.2] at e3
  intro k
  match k with
  | 0 => rw [mv0 hg, mv0 hp, e0, e1, e2, e3]; grind
  | 1 => rw [(mv4 hg).1, (mv4 hp).1, e1, e2, e3]; grind
  | 2 => rw [(mv4 hg).2.1, (mv4 hp).2.1, e2, e3]; grind
  | 3 => rw [(mv4 hg).2.2, (mv4 hp).2.2, e3]
  | k + 4 => rw [mvN_far (by omega), mvN_far (by omega)]
/-- two polynomials of the same numbers, nothing at the end nought -/
theorem pn_ext {p q : List Rat} (hp : trim p = p) (hq : trim q = q) (e : ∀ k, pn p k = pn q k) : p = q := by
  rw [← hp, ← hq]
  exact trim_ext e
end GB

/-! GB31: rows with a cut more, plainly. -/
namespace GB
open PySem PySem.Spec PyProof.Rows L2
def mvT (p : List Rat) (t : Rat) : List Rat := trim [mvN p t 0, mvN p t 1, mvN p t 2, mvN p t 3]
theorem mvT_pn {p : List Rat} {t : Rat} (h : p.length ≤ 4) (k : Nat) : pn (mvT p t) k = mvN p t k := by
  unfold mvT
  rw [trim_pn]
  match k with
  | 0 => rfl
  | 1 => rfl
  | 2 => rfl
  | 3 => rfl
  | k + 4 => rw [mvN_far (p := p) (t := t) (k := k + 4) (by omega)]; rfl
theorem mvT_len {p : List Rat} {t : Rat} : (mvT p t).length ≤ 4 := trim_len _
theorem mvT_eq {p r : List Rat} {t : Rat} (h : p.length ≤ 4) (hr : trim r = r) (e : ∀ k, pn r k = mvN p t k) : r = mvT p t := pn_ext hr (trim_trim _) fun k => by rw [e, mvT_pn h]
def insC {α : Type} (cs : List α) (k : Nat) (x : α) : List α := cs.take (k + 1) ++ [x] ++ cs.drop (k + 1)
theorem ins_map {α β : Type} {f : α → β} {cs : List α} {k : Nat} {x : α} : (insC cs k x).map f = (cs.map f).take (k + 1) ++ [f x] ++ (cs.map f).drop (k + 1) := by
  unfold insC
  rw [List.map_append, List.map_append, List.map_take, List.map_drop]
  rfl
theorem ins_len {α : Type} {cs : List α} {k : Nat} {x : α} (h : k < cs.length) : (insC cs k x).length = cs.length + 1 := by
  unfold insC
  rw [List.length_append, List.length_append, List.length_take, List.length_drop, List.length_singleton]
  omega
theorem ins_at {α : Type} {cs : List α} {k : Nat} {x : α} (h : k < cs.length) (i : Nat) : (insC cs k x)[i]? = if i ≤ k then cs[i]? else if i = k + 1 then some x else cs[i - 1]? := by
  unfold insC
  have hl : (cs.take (k + 1)).length = k + 1 := by rw [List.length_take]; omega
  by_cases c : i ≤ k
  · rw [if_pos c, List.append_assoc, List.getElem?_append_left (by omega), List.getElem?_take_of_lt (by omega)]
  · rw [if_neg c]
    by_cases c2 : i = k + 1
    · subst c2
      rw [if_pos rfl, List.append_assoc, List.getElem?_append_right (by omega), hl, Nat.sub_self]
      rfl
    · rw [if_neg c2, List.getElem?_append_right (by rw [List.length_append, hl, List.length_singleton]; omega), List.length_append, hl, List.length_singleton, List.getElem?_drop]
      congr 1
      omega
theorem ins_pn {cs : List Rat} {k : Nat} {x : Rat} (h : k < cs.length) (i : Nat) : pn (insC cs k x) i = if i ≤ k then pn cs i else if i = k + 1 then x else pn cs (i - 1) := by
  unfold pn
  rw [List.getD_eq_getElem?_getD, ins_at h]
  split
  · rw [List.getD_eq_getElem?_getD]
  · split
    · rfl
    · rw [List.getD_eq_getElem?_getD]
theorem ins_pg {ps : List (List Rat)} {k : Nat} {q : List Rat} (h : k < ps.length) (i : Nat) : pg (insC ps k q) i = if i ≤ k then pg ps i else if i = k + 1 then q else pg ps (i - 1) := by
  unfold pg
  rw [List.getD_eq_getElem?_getD, ins_at h]
  split
  · rw [List.getD_eq_getElem?_getD]
  · split
    · rfl
    · rw [List.getD_eq_getElem?_getD]
theorem ins_mem {α : Type} {cs : List α} {k : Nat} {x y : α} (m : y ∈ insC cs k x) : y ∈ cs ∨ y = x := by
  unfold insC at m
  rcases List.mem_append.mp m with m | m
  · rcases List.mem_append.mp m with m | m
    · exact .inl (List.mem_of_mem_take m)
    · exact .inr (List.mem_singleton.mp m)
  · exact .inl (List.mem_of_mem_drop m)
/-- a row with a cut more is a row -/
theorem Rw.ins {cs : List Rat} {ps : List (List Rat)} (h : Rw cs ps) {x : Rat} {k : Nat} (hk : k < ps.length) (h0 : pn cs k < x) (h1 : x < pn cs (k + 1)) : Rw (insC cs k x) (insC ps k (mvT (pg ps k) (x - pn cs k))) := by
  have ln := h.ln
  have lc := ins_len (cs := cs) (k := k) (x := x) (by omega)
  have lp := ins_len (cs := ps) (k := k) (x := mvT (pg ps k) (x - pn cs k)) hk
  have l4 := (h.tr _ (pg_mem hk)).2
  have C := fun i => ins_pn (cs := cs) (k := k) (x := x) (by omega) i
  have G := fun i => ins_pg (ps := ps) (k := k) (q := mvT (pg ps k) (x - pn cs k)) hk i
  refine ⟨by omega, by omega, fun i hi => ?_, fun p m => ?_, fun i hi => ?_⟩
  · rw [C, C]
    by_cases c : i + 1 ≤ k
    · rw [if_pos (by omega), if_pos c]
      exact h.up i (by omega)
    · by_cases c2 : i = k
      · subst c2
        rw [if_pos (Nat.le_refl _), if_neg (by omega), if_pos rfl]
        exact h0
      · by_cases c3 : i = k + 1
        · subst c3
          rw [if_neg (by omega), if_pos rfl, if_neg (by omega), if_neg (by omega)]
          exact h1
        · rw [if_neg (by omega), if_neg (by omega), if_neg (by omega), if_neg (by omega)]
          have := h.up (i - 1) (by omega)
          rw [show i - 1 + 1 = i + 1 - 1 by omega] at this
          exact this
  · rcases ins_mem m with m | m
    · exact h.tr p m
    · rw [m]
      exact ⟨trim_trim _, mvT_len⟩
  · rw [C, C, G, G]
    by_cases c : i + 1 ≤ k
    · rw [if_pos (by omega), if_pos (by omega), if_pos (by omega), if_pos (by omega)]
      exact h.jn i (by omega)
    · by_cases c2 : i = k
      · subst c2
        rw [if_pos (Nat.le_refl _), if_neg (by omega), if_pos rfl, if_pos (Nat.le_refl _), if_neg (by omega), if_pos rfl, mvT_pn l4, ev_mv0]
      · by_cases c3 : i = k + 1
        · subst c3
          rw [if_neg (by omega), if_pos rfl, if_neg (by omega), if_neg (by omega), if_neg (by omega), if_pos rfl, if_neg (by omega), if_neg (by omega)]
          have j := h.jn k (by omega)
          rw [← ev_mv0, mv_mv (p := pg ps k) (a := x - pn cs k) l4 mvT_len (mvT_pn l4), ev_mv0]
          rw [show k + 1 + 1 - 1 = k + 1 by omega, ← j]
          congr 1
          grind
        · rw [if_neg (by omega), if_neg (by omega), if_neg (by omega), if_neg (by omega), if_neg (by omega), if_neg (by omega), if_neg (by omega), if_neg (by omega)]
          have := h.jn (i - 1) (by omega)
          rw [show i - 1 + 1 = i + 1 - 1 by omega] at this
          exact this
end GB

/-! GB32: rows of known sizes, cut as often as one likes. -/
namespace GB
open PySem PySem.Spec PyProof.Rows L2
/-- each piece is a base polynomial (numbers of bottom D, at most V) from a place on, all within T of its beginning -/
structure RwD (D : Nat) (V T : Rat) (cs : List Rat) (ps : List (List Rat)) : Prop where
  rw_ : Rw cs ps
  cn : ∀ c ∈ cs, Ig 126000 c ∧ Ab (2 ^ 30) c
  pc : ∀ k, k < ps.length → ∃ (b : List Rat) (t : Rat), b.length ≤ 4 ∧ Nm D V b ∧ Ig 126000 t ∧ 0 ≤ t ∧ t + (pn cs (k + 1) - pn cs k) ≤ T ∧ ∀ i, pn (pg ps k) i = mvN b t i
theorem RwG.toD {cs : List Rat} {ps : List (List Rat)} (h : RwG cs ps) : RwD (DDj 12) (VVj 12) 4 cs ps := by
  have ln := h.rw_.ln
  refine ⟨h.rw_, fun c m => ⟨((h.cn c m).1.up 21000).cast (by decide), (h.cn c m).2.le (by decide +kernel)⟩, fun k hk => ⟨pg ps k, 0, (h.rw_.tr _ (pg_mem hk)).2, h.pm _ (pg_mem hk), Ig.zero, Rat.le_refl, ?_, fun i => (mv_at0 (h.rw_.tr _ (pg_mem hk)).2 i).symm⟩⟩
  have := h.l4 k hk
  grind
theorem RwD.ins {D : Nat} {V T : Rat} {cs : List Rat} {ps : List (List Rat)} (h : RwD D V T cs ps) {x : Rat} {k : Nat} (hk : k < ps.length) (h0 : pn cs k < x) (h1 : x < pn cs (k + 1)) (hi : Ig 126000 x) : RwD D V T (insC cs k x) (insC ps k (mvT (pg ps k) (x - pn cs k))) := by
  have hr := h.rw_
  have ln := hr.ln
  have lc := ins_len (cs := cs) (k := k) (x := x) (by omega)
  have lp := ins_len (cs := ps) (k := k) (x := mvT (pg ps k) (x - pn cs k)) hk
  have l4 := (hr.tr _ (pg_mem hk)).2
  have C := fun i => ins_pn (cs := cs) (k := k) (x := x) (by omega) i
  have G := fun i => ins_pg (ps := ps) (k := k) (q := mvT (pg ps k) (x - pn cs k)) hk i
  have a0 := h.cn _ (pn_mem (p := cs) (k := k) (by omega))
  have a1 := h.cn _ (pn_mem (p := cs) (k := k + 1) (by omega))
  have p0 := h.pc k hk
  refine ⟨hr.ins hk h0 h1, fun c m => ?_, fun i hi2 => ?_⟩
  · rcases ins_mem m with m | m
    · exact h.cn c m
    · rw [m]
      obtain ⟨u1, u2⟩ := a0.2
      obtain ⟨v1, v2⟩ := a1.2
      refine ⟨hi, ?_⟩
      generalize (2 : Rat) ^ 30 = A at *
      constructor <;> grind
  · rw [C, C, G]
    by_cases c : i + 1 ≤ k
    · rw [if_pos c, if_pos (by omega), if_pos (by omega)]
      exact h.pc i (by omega)
    · by_cases c2 : i = k
      · subst c2
        rw [if_neg (by omega), if_pos rfl, if_pos (Nat.le_refl _), if_pos (Nat.le_refl _)]
        obtain ⟨b, t, q1, q2, q3, q4, q5, q6⟩ := p0
        exact ⟨b, t, q1, q2, q3, q4, by grind, q6⟩
      · by_cases c3 : i = k + 1
        · subst c3
          rw [if_neg (by omega), if_neg (by omega), if_neg (by omega), if_pos rfl, if_neg (by omega), if_pos rfl]
          obtain ⟨b, t, q1, q2, q3, q4, q5, q6⟩ := p0
          refine ⟨b, t + (x - pn cs k), q1, q2, q3.add (hi.sub a0.1), by grind, ?_, fun i => ?_⟩
          · rw [show k + 1 + 1 - 1 = k + 1 by omega]
            grind
          · rw [mvT_pn l4]
            exact mv_mv q1 l4 q6 i
        · rw [if_neg (by omega), if_neg (by omega), if_neg (by omega), if_neg (by omega), if_neg (by omega), if_neg (by omega)]
          have := h.pc (i - 1) (by omega)
          rw [show i - 1 + 1 = i + 1 - 1 by omega] at this
          exact this
/-- the numbers of its pieces -/
theorem RwD.nm {D : Nat} {V T : Rat} {cs : List Rat} {ps : List (List Rat)} (h : RwD D V T cs ps) (hV : 0 ≤ V) {k : Nat} (hk : k < ps.length) : Nm (D * 126000 ^ 3) ((T + 2) ^ 3 * V) (pg ps k) := by
  obtain ⟨b, t, q1, q2, q3, q4, q5, q6⟩ := h.pc k hk
  have up := h.rw_.up k hk
  intro x m
  obtain ⟨i, hi, rfl⟩ := List.mem_iff_getElem.mp m
  have e : (pg ps k)[i] = pn (pg ps k) i := by
    unfold pn
    rw [List.getD_eq_getElem?_getD, List.getElem?_eq_getElem hi]
    rfl
  rw [e, q6]
  exact mvN_Nm q2 q1 hV (by grind) q3 (by constructor <;> grind) i
end GB

/-! GB33: cuts put in, one by one. -/
namespace GB
open PySem PySem.Spec PyProof.Rows L2
/-- how many cuts are below -/
theorem below_many {cs : List Rat} {ps : List (List Rat)} (h : Rw cs ps) {x : Rat} {k : Nat} (hk : k < ps.length) (h0 : pn cs k < x) (h1 : x < pn cs (k + 1)) : (cs.filter fun c => decide (c < x)) = cs.take (k + 1) := by
  have ln := h.ln
  have e : cs = cs.take (k + 1) ++ cs.drop (k + 1) := (List.take_append_drop _ _).symm
  have gp : ∀ i (hi : i < cs.length), cs[i] = pn cs i := fun i hi => by
    unfold pn
    rw [List.getD_eq_getElem?_getD, List.getElem?_eq_getElem hi]
    rfl
  conv => lhs; rw [e]
  rw [List.filter_append]
  have f1 : (cs.take (k + 1)).filter (fun c => decide (c < x)) = cs.take (k + 1) := by
    rw [List.filter_eq_self]
    intro a m
    obtain ⟨i, hi, rfl⟩ := List.mem_iff_getElem.mp m
    rw [List.length_take] at hi
    rw [List.getElem_take, gp]
    have := h.le' (i := i) (j := k) (by omega) (by omega)
    exact decide_eq_true (by grind)
  have f2 : (cs.drop (k + 1)).filter (fun c => decide (c < x)) = [] := by
    rw [List.filter_eq_nil_iff]
    intro a m
    obtain ⟨i, hi, rfl⟩ := List.mem_iff_getElem.mp m
    rw [List.length_drop] at hi
    rw [List.getElem_drop, gp]
    have := h.le' (i := k + 1) (j := k + 1 + i) (by omega) (by omega)
    simp only [decide_eq_true_eq]
    grind
  rw [f1, f2, List.append_nil]
def kOf (cs : List Rat) (x : Rat) : Nat := (cs.filter fun c => decide (c < x)).length - 1
theorem Rw.kOf {cs : List Rat} {ps : List (List Rat)} (h : Rw cs ps) {x : Rat} (h0 : pn cs 0 ≤ x) (h1 : x ≤ pn cs ps.length) (hn : ¬x ∈ cs) : GB.kOf cs x < ps.length ∧ pn cs (GB.kOf cs x) < x ∧ x < pn cs (GB.kOf cs x + 1) ∧ ∀ j, j < GB.kOf cs x → pn cs (j + 1) < x := by
  have ln := h.ln
  have ne := h.ne
  have ni : ∀ i, i ≤ ps.length → pn cs i ≠ x := fun i hi e => hn (by rw [← e]; exact pn_mem (by omega))
  obtain ⟨k, a, b, c⟩ := h.find h1
  have lt1 : x < pn cs (k + 1) := by
    have := ni (k + 1) (by omega)
    grind
  have lt0 : pn cs k < x := by
    cases k with
    | zero =>
      have := ni 0 (by omega)
      grind
    | succ j => exact c j (by omega)
  have e : GB.kOf cs x = k := by
    unfold GB.kOf
    rw [below_many h a lt0 lt1, List.length_take]
    omega
  rw [e]
  exact ⟨a, lt0, lt1, c⟩
def addC (r : List Rat × List (List Rat)) (x : Rat) : List Rat × List (List Rat) := if x ∈ r.1 then r else (insC r.1 (kOf r.1 x) x, insC r.2 (kOf r.1 x) (mvT (pg r.2 (kOf r.1 x)) (x - pn r.1 (kOf r.1 x))))
structure InR (cs : List Rat) (ps : List (List Rat)) (x : Rat) : Prop where
  i : Ig 126000 x
  lo : pn cs 0 ≤ x
  hi : x ≤ pn cs ps.length
theorem addC_ok {D : Nat} {V T : Rat} {cs : List Rat} {ps : List (List Rat)} (h : RwD D V T cs ps) {x : Rat} (hx : InR cs ps x) : RwD D V T (addC (cs, ps) x).1 (addC (cs, ps) x).2 ∧ pn (addC (cs, ps) x).1 0 = pn cs 0 ∧ pn (addC (cs, ps) x).1 (addC (cs, ps) x).2.length = pn cs ps.length ∧ (addC (cs, ps) x).2.length ≤ ps.length + 1 := by
  have ln := h.rw_.ln
  unfold addC
  by_cases c : x ∈ cs
  · rw [if_pos c]
    exact ⟨h, rfl, rfl, Nat.le_succ _⟩
  · rw [if_neg c]
    obtain ⟨a, b, d, _⟩ := h.rw_.kOf hx.lo hx.hi c
    have lp := ins_len (cs := ps) (k := kOf cs x) (x := mvT (pg ps (kOf cs x)) (x - pn cs (kOf cs x))) a
    dsimp only
    refine ⟨h.ins a b d hx.i, ?_, ?_, by omega⟩
    · show pn (insC cs _ x) 0 = _
      rw [ins_pn (by omega), if_pos (Nat.zero_le _)]
    · show pn (insC cs _ x) (insC ps _ _).length = _
      rw [ins_pn (by omega), lp, if_neg (by omega), if_neg (by omega)]
      rfl
theorem addCs_ok {D : Nat} {V T : Rat} : ∀ (xs : List Rat) {cs : List Rat} {ps : List (List Rat)}, RwD D V T cs ps → (∀ x ∈ xs, InR cs ps x) → RwD D V T (xs.foldl addC (cs, ps)).1 (xs.foldl addC (cs, ps)).2 ∧ (xs.foldl addC (cs, ps)).2.length ≤ ps.length + xs.length
  | [], cs, ps, h, _ => ⟨h, Nat.le_refl _⟩
  | x :: xs, cs, ps, h, hx => by
    have a := addC_ok h (hx x List.mem_cons_self)
    have b := addCs_ok xs a.1 fun z m => by
      have := hx z (List.mem_cons_of_mem _ m)
      exact ⟨this.i, by rw [a.2.1]; exact this.lo, by rw [a.2.2.1]; exact this.hi⟩
    refine ⟨b.1, Nat.le_trans b.2 ?_⟩
    rw [List.length_cons]
    have := a.2.2.2
    omega
end GB

/-! GB34: sizes of slopes and products. -/
namespace GB
open PySem PySem.Spec PyProof.Rows L2
theorem Nm.slP {D : Nat} {V : Rat} {p : List Rat} (h : Nm D V p) (hV : 0 ≤ V) (hl : p.length ≤ 4) : Nm D (3 * V) (GB.slP p) := by
  intro x m
  obtain ⟨i, hi, rfl⟩ := List.mem_map.mp (trim_mem m)
  have i4 := List.mem_range.mp hi
  have hp := h.pn hV (i + 1)
  have i1 : Ig 1 ((i : Rat) + 1) := ⟨(i : Int) + 1, by
    rw [Rat.intCast_add, Rat.intCast_natCast]
    show ((i : Rat) + 1) * 1 = _
    grind⟩
  have a1 : Ab 3 ((i : Rat) + 1) := by
    have : i = 0 ∨ i = 1 ∨ i = 2 := by omega
    rcases this with rfl | rfl | rfl <;> exact ⟨by decide +kernel, by decide +kernel⟩
  exact ⟨(i1.mul hp.1).cast (by omega), a1.mul hp.2⟩
theorem conv_Nm {D : Nat} {V : Rat} (hV : 0 ≤ V) {b : List Rat} (hb : Nm D V b) : ∀ {a : List Rat}, Nm D V a → ∀ k, Ig (D * D) (conv a b k) ∧ Ab ((a.length : Rat) * (V * V)) (conv a b k)
  | [], _, k => by
    have e : conv [] b k = 0 := by cases k <;> rfl
    rw [e]
    refine ⟨Ig.zero, Ab.zero ?_⟩
    have : (([] : List Rat).length : Rat) = 0 := rfl
    rw [this, Rat.zero_mul]
    exact Rat.le_refl
  | x :: a, ha, k => by
    have hx := ha x List.mem_cons_self
    have h1 := hb.pn hV k
    have m1 := hx.1.mul h1.1
    have m2 := hx.2.mul h1.2
    have VV := Rat.mul_nonneg hV hV
    have ln : ((x :: a).length : Rat) = (a.length : Rat) + 1 := by
      rw [List.length_cons, Rat.natCast_add]
      rfl
    have nn : (0 : Rat) ≤ (a.length : Rat) := Rat.natCast_le_natCast.mpr (Nat.zero_le _)
    cases k with
    | zero =>
      show Ig (D * D) (x * pn b 0) ∧ Ab _ (x * pn b 0)
      refine ⟨m1, m2.le ?_⟩
      rw [ln]
      have := Rat.mul_nonneg nn VV
      grind
    | succ k =>
      have ih := conv_Nm hV hb (a := a) (fun y m => ha y (List.mem_cons_of_mem _ m)) k
      show Ig (D * D) (x * pn b (k + 1) + conv a b k) ∧ Ab _ (x * pn b (k + 1) + conv a b k)
      refine ⟨m1.add ih.1, (m2.add ih.2).le ?_⟩
      rw [ln]
      grind
end GB

namespace GB
open PySem PySem.Spec PyProof.Rows L2

theorem len_p {S : Sto} {p : List Rat} {P : EQ} : biO .len false [plD p] S P = P (.int p.length) S := by
  unfold plD
  rw [len_t, List.length_map]
theorem itp_p {S : Sto} {p : List Rat} {R : List D → (Sto → Prop) → Sto → Prop} : ItP (plD p) S R = R (p.map frq) (fun _ => True) S := rfl
theorem sqx_p {S : Sto} {p : List Rat} : sqx S (plD p) = some (p.map frq) := rfl
theorem few_ok {n : Nat} (h : n ≤ 10000) : n ≤ sizeLine := Nat.le_trans h (by decide)
theorem r62_ok {n : Nat} (h : n ≤ 10000) : R62 (n : Int) := ⟨by omega, by omega⟩
theorem same0 : D.tup [.int 0, .int 1] = frq 0 := rfl
theorem use_app {S : Sto} {p : Addr} {ds : List D} {y : D} {Q : EQ} (hl : ds.length < sizeLine) (q : Q .non (supd S p (.lst (ds ++ [y])))) : @mtS .append (.ref p) [y] (supd S p (.lst ds)) ⟨Q⟩ := by
  refine ⟨p, ds, y, rfl, rfl, supd_same, hl, ?_⟩
  rw [supd_supd]
  exact q
theorem sqx_len {S : Sto} {x : D} {ds : List D} {P : EQ} (h : sqx S x = some ds) : biO .len false [x] S P = P (.int ds.length) S := by
  cases x with
  | tup es => cases h; exact len_t
  | lst es => exact lsx_len (x := .lst es) h
  | rls es => exact lsx_len (x := .rls es) h
  | ref p => exact lsx_len (x := .ref p) h
  | _ => cases h
theorem sqx_ix {S : Sto} {x : D} {ds : List D} {P : EQ} (h : sqx S x = some ds) {i : Int} : ixD x (.int i) S P = @ixS (atI ds i) S ⟨P⟩ := by
  cases x with
  | tup es => cases h; exact ix_t
  | lst es => exact lsx_ix (x := .lst es) h
  | rls es => exact lsx_ix (x := .rls es) h
  | ref p => exact lsx_ix (x := .ref p) h
  | _ => cases h
theorem sqx_slt {S : Sto} {x : D} {ds : List D} {lo hi : Option Int} {P : EQ} (h : sqx S x = some ds) (p : P (.tup (cutD ds lo hi)) S) : slD false x lo hi S fun y S1 => biO .tuple false [y] S1 P := by
  cases x with
  | tup es => cases h; exact p
  | lst es =>
    rw [lsx_sl (x := .lst es) h, nw_f, tup_l]
    exact p
  | rls es =>
    rw [lsx_sl (x := .rls es) h, nw_f, tup_l]
    exact p
  | ref q =>
    rw [lsx_sl (x := .ref q) h, nw_f, tup_l]
    exact p
  | _ => cases h
theorem sqx_ItP {S : Sto} {x : D} {ds : List D} (h : sqx S x = some ds) {R : List D → (Sto → Prop) → Sto → Prop} (r : ∀ src : Sto → Prop, src S → R ds src S) : ItP x S R := by
  cases x with
  | tup es => cases h; exact r _ trivial
  | lst es => exact lsx_ItP (x := .lst es) h fun src s _ => r src s
  | rls es => exact lsx_ItP (x := .rls es) h fun src s _ => r src s
  | ref p => exact lsx_ItP (x := .ref p) h fun src s _ => r src s
  | _ => cases h
theorem joinS_D {k : Bool} {f : Dts → Dts} {x y : D} {δ1 δ2 : Dts} {S : Sto} {N : Dts → Sto → Prop} : @joinS k f (some x :: δ1) (some y :: δ2) S ⟨N⟩ = @joinS k (fun δ => f (some (if k = true then x else y) :: δ)) δ1 δ2 S ⟨N⟩ := by cases k <;> rfl
theorem iteE_D {k : Bool} {x y : D} {S : Sto} {Q : EQ} : @iteE k (fun P => P x S) (fun P => P y S) ⟨Q⟩ = Q (if k = true then x else y) S := by cases k <;> rfl
theorem Pd.str {S : Sto} {z : Str} : Pd S (.str z) (.str z) 0 := ⟨⟨1, rfl⟩, rfl, Nat.le_refl _⟩
theorem Sh.str {S : Sto} {b : Nat} (z : Str) (h : ((PyData.str z).canLay0 && (z.cps.toList.all (fun c => decide (c < 16 ^ 8)) && decide (z.cps.size ≤ b))) = true) : Sh S (.str z) (.str z) 0 b :=
  ⟨.str, rfl, (and_t (and_t h).2).1, of_decide_eq_true (and_t (and_t h).2).2⟩
theorem Sh.ite {S : Sto} {c : Prop} [Decidable c] {x y : D} {d e : PyData} {k b : Nat} (h : Sh S x d k b) (g : Sh S y e k b) : Sh S (if c then x else y) (if c then d else e) k b := by
  split
  · exact h
  · exact g
theorem RB.div {a b : Nat} {x y : Rat} (h : RB a x) (k : RB b y) (h1 : 1 ≤ a + b) : RB (a + b) (x / y) := by
  by_cases h0 : y = 0
  · subst h0
    have e : x / 0 = 0 := by grind
    rw [e]
    exact RB.zero h1
  · rw [← rat_div]
    have hn : y.num ≠ 0 := fun e => h0 (Rat.num_eq_zero.mp e)
    exact .divInt (h.n.mul k.d) (h.d.mul k.n) (Int.mul_ne_zero den_ne hn)
theorem ix_p {S : Sto} {p : List Rat} {i : Int} {P : EQ} : ixD (plD p) (.int i) S P = @ixS ((atI p i).map frq) S ⟨P⟩ := by
  unfold plD
  rw [ix_t, map_at]
theorem itq_p {S : Sto} {p : List Rat} {R : List D → (Sto → Prop) → Sto → Prop} : ItQ (plD p) S R = R (p.map frq) (fun _ => True) S := rfl
theorem max_nat {a b : Nat} : (if (b : Int) > (a : Int) then (b : Int) else (a : Int)) = ((max a b : Nat) : Int) := by
  split <;> omega
theorem lst_p {S : Sto} {m : Bool} {p : List Rat} {P : EQ} : biO .list m [plD p] S P = nwL m (p.map frq) S P := lst_t
theorem pn_pad {p : List Rat} {n i : Nat} : pn (p ++ List.replicate n 0) i = pn p i := by
  unfold pn
  rw [List.getD_eq_getElem?_getD, List.getD_eq_getElem?_getD]
  by_cases c : i < p.length
  · rw [List.getElem?_append_left c]
  · rw [List.getElem?_append_right (by omega), List.getElem?_eq_none (l := p) (by omega), List.getElem?_replicate]
    split <;> rfl
theorem iteS_fac {k : Bool} {A B : (Dts → Sto → Prop) → Prop} {N : Dts → Sto → Prop} (R : Dts → Sto → Prop) (h1 : k = true → ∀ N' : Dts → Sto → Prop, (∀ δ S, R δ S → N' δ S) → A N') (h2 : k = false → ∀ N' : Dts → Sto → Prop, (∀ δ S, R δ S → N' δ S) → B N')
    (hR : ∀ δ S, R δ S → N δ S) : @iteS k A B ⟨N⟩ := by
  cases k
  · exact h2 rfl N hR
  · exact h1 rfl N hR
theorem iteE_fac {k : Bool} {A B : EQ → Prop} {N : EQ} (R : EQ) (h1 : k = true → ∀ N' : EQ, (∀ d S, R d S → N' d S) → A N') (h2 : k = false → ∀ N' : EQ, (∀ d S, R d S → N' d S) → B N')
    (hR : ∀ d S, R d S → N d S) : @iteE k A B ⟨N⟩ := by
  cases k
  · exact h2 rfl N hR
  · exact h1 rfl N hR
theorem r62_ok' {z : Int} (h : 0 ≤ z ∧ z ≤ 10000) : R62 z := ⟨by omega, by omega⟩
theorem divInt_pos {a d : Int} (ha : 0 < a) (hd : 0 < d) : 0 < Rat.divInt a d := by
  have h := divInt_mul (a := a) (d := d) (by omega)
  have i1 : (0 : Rat) < (a : Rat) := Rat.intCast_lt_intCast.mpr ha
  have i2 : (0 : Rat) < (d : Rat) := Rat.intCast_lt_intCast.mpr hd
  rw [← h] at i1
  by_cases c : 0 < Rat.divInt a d
  · exact c
  · have c2 : 0 ≤ -Rat.divInt a d := by grind
    have := Rat.mul_nonneg c2 (Rat.le_of_lt i2)
    grind


def b__law_feed : Sms := .cons (.ret (.dct true (.cons (.cS "cells") (.cons (.bi .list false (.cons (.sl false (.v 0) (.none) (.some (.cI 63))) (.nil))) (.cons (.cS "at") (.cons (.cI 0) (.cons (.cS "left") (.cons (.cI 0) (.cons (.cS "turn") (.cons (.cI 0) (.nil))))))))))) (.nil)
local macro_rules | `(tactic| simp! only) => `(tactic| simp only [↓e_cnt, ↓e_sl2, ↓e_dget, ↓e_isx, ↓t_isx, ↓e_fld, ↓e_callh, ↓t_callh, ↓hc_s, ↓hf_s, ↓ix_s, ↓fl_s, ↓ch_s, ↓s_raise, ↓s_try, ↓ex_s, ↓mk_NoOver, ↓mk_NoStretch, ↓mk_NoOne, ↓mk_NoText, ↓mk_NoPlace, ↓mk_NoPoint, ↓mk_Twice, ↓mk_NoCut, ↓mk_NoSmooth, ↓mk_NoShares, ↓mk_NoKnot, ↓mk_NoTask, ↓mk_NoPaper, ↓mk_NoKnots, ↓mk_NoSheet, ↓lk_1, ↓lk_n, ↓lk_w, ↓any_1, ↓gv_z, ↓gv_s, ↓sv_z, ↓sv_s, ↓wv_z, wv_z, ↓wv_s, wv_s, iteE_int, iteE_bl, iteE_str, iteE_lst, iteE_same, iteE_c1, iteE_c2, iteE_1, iteE_0, iteT_1, iteT_0, andT_1, andT_0, orT_1, orT_0, andE_1, andE_0, orE_1, orE_0, iteS_1, iteS_0, andE_bl, andE_c, orE_bl, orE_c, iteT_v, iteT_c1, iteT_c2, andT_v, andT_c, orT_v, orT_c, iteS_v, iteS_c1, iteS_c2, iteS_r1, iteS_r2, joinS_n, joinS_same, joinS_int, joinS_bl, ixS_s, ↓e_v, ↓e_N, ↓e_B, ↓e_I, ↓e_S, ↓e_gl, ↓e_add, ↓e_sub, ↓e_mul, ↓e_fdiv, ↓e_mod, ↓e_pow, ↓e_neg, ↓e_cmp, ↓bP_b, ↓t_cmp, ↓e_cmp2, ↓t_cmp2, ↓e_and1, ↓e_and2, ↓t_and1, ↓t_and2, ↓e_or1, ↓e_or2, ↓t_or1, ↓t_or2, ↓e_not, ↓t_not, ↓e_ite, ↓t_ite, ↓e_tup, ↓e_lst, ↓e_dct, ↓e_ix, ↓e_sl, ↓e_slr, ↓e_call, ↓e_bi, ↓e_mt, ↓e_lc, ↓e_frz, ↓t_frz, ↓iP_i, ↓e_idx, ↓e_lrg1, ↓e_lrg2, ↓t_v, ↓t_B, ↓t_N, ↓t_I, ↓t_ix, ↓t_bin, ↓t_call, ↓t_bi, ↓t_sl, ↓t_lc, ↓a_n, ↓a_c, ↓if_n, ↓if_1, ↓o_n, ↓o_s, ↓i_val, ↓i_r1, ↓i_r2, ↓i_r3, ↓i_enum, ↓i_zip, ↓i_rev, ↓add_i, ↓add_s, ↓add_t, ↓sub_i, ↓mul_i, ↓fdiv_i, ↓mod_i, ↓pow_i, ↓neg_i, ↓eq_i, ↓eq_s, ↓eq_b, ↓ne_i, ↓ne_s, ↓ne_b, ↓lt_i, ↓le_i, ↓gt_i, ↓ge_i, ↓is_N, ↓no_N, ↓is_B, ↓no_B, ↓is_Bt, ↓is_Bl, ↓is_Bi, ↓is_Bs, ↓is_Bn, ↓is_Br, ↓no_Bt, ↓no_Bl, ↓no_Bi, ↓no_Bs, ↓no_Bn, ↓no_Br, ↓tr_b, ↓tr_i, ↓tr_n, ↓tr_t, ↓tr_l, ↓ix_t, ↓ix_l, ↓ix_rl, ↓at_0, ↓at_1, ↓at_2, ↓at_3, ↓s_n, ↓s_c, ↓s_asg, ↓s_asgL, ↓s_par, ↓s_swp, ↓s_set, ↓s_ex, ↓s_ite, ↓s_for, ↓s_wh, ↓s_ret, ↓s_retN, ↓s_pass, ↓s_brk, ↓s_rz, ↓s_cont, ↓g_nm, ↓g_tp, ↓g_ls, ↓g_n, ↓g_c, ↓par_n, ↓par_c, ↓nw_f, ↓nw_t, ↓len_l, ↓len_t, ↓abs_i, ↓int_i, ↓int_b, ↓repr_h, ↓max_i, ↓min_i, ↓st_0, ↓st_s, ↓supd_supd, ↓ix_ref, ↓set_ref, ↓fd_turn, ↓fd_left, ↓fd_at, ↓fd_cells, ↓fs_turn, ↓fs_left, ↓fs_at, ↓ne_nil, ↓len_is, map_at, ↓ix_q0, ↓ix_q1, ↓g_q, ↓len_q, ↓tr_q, ↓low_eq, ↓q1_eq, ↓q2_eq, ↓sz_0, ↓sz_1, ↓sz_2, ↓sz_3, ↓sz_4, ↓sz_5, ↓sz_6, ↓sz_7, ↓sz_8, ↓itp_t, ↓itp_l, ↓itl_l, ↓pl_2, ↓pl_3, iteE_q, joinS_q, ↓eq_q, ↓ne_q, ↓ixC_l, ↓frz_ref, ↓tup_l, ↓tup_t, ↓lst_l, ↓lst_t, ↓sl_t, ↓slr_t, ↓mul_l, ↓add_l, ↓ifs_0, gsl_nm, gsl_tp, gsl_n, gsl_c, wipe_n, wipe_c, List.replicate, Option.map_some, decide_eq_true_eq, ↓reduceIte, Bool.false_eq_true, Bool.not_eq_eq_eq_not, Bool.not_true, Bool.not_false, true_and, forall_const, Bool.and_eq_true, Bool.or_eq_true, decide_eq_false_iff_not, not_true_eq_false, not_false_eq_true, decide_true, decide_false])
local macro_rules | `(tactic| simp! only [$xs,*]) => `(tactic| simp only [$xs,*, ↓e_cnt, ↓e_sl2, ↓e_dget, ↓e_isx, ↓t_isx, ↓e_fld, ↓e_callh, ↓t_callh, ↓hc_s, ↓hf_s, ↓ix_s, ↓fl_s, ↓ch_s, ↓s_raise, ↓s_try, ↓ex_s, ↓mk_NoOver, ↓mk_NoStretch, ↓mk_NoOne, ↓mk_NoText, ↓mk_NoPlace, ↓mk_NoPoint, ↓mk_Twice, ↓mk_NoCut, ↓mk_NoSmooth, ↓mk_NoShares, ↓mk_NoKnot, ↓mk_NoTask, ↓mk_NoPaper, ↓mk_NoKnots, ↓mk_NoSheet, ↓lk_1, ↓lk_n, ↓lk_w, ↓any_1, ↓gv_z, ↓gv_s, ↓sv_z, ↓sv_s, ↓wv_z, wv_z, ↓wv_s, wv_s, iteE_int, iteE_bl, iteE_str, iteE_lst, iteE_same, iteE_c1, iteE_c2, iteE_1, iteE_0, iteT_1, iteT_0, andT_1, andT_0, orT_1, orT_0, andE_1, andE_0, orE_1, orE_0, iteS_1, iteS_0, andE_bl, andE_c, orE_bl, orE_c, iteT_v, iteT_c1, iteT_c2, andT_v, andT_c, orT_v, orT_c, iteS_v, iteS_c1, iteS_c2, iteS_r1, iteS_r2, joinS_n, joinS_same, joinS_int, joinS_bl, ixS_s, ↓e_v, ↓e_N, ↓e_B, ↓e_I, ↓e_S, ↓e_gl, ↓e_add, ↓e_sub, ↓e_mul, ↓e_fdiv, ↓e_mod, ↓e_pow, ↓e_neg, ↓e_cmp, ↓bP_b, ↓t_cmp, ↓e_cmp2, ↓t_cmp2, ↓e_and1, ↓e_and2, ↓t_and1, ↓t_and2, ↓e_or1, ↓e_or2, ↓t_or1, ↓t_or2, ↓e_not, ↓t_not, ↓e_ite, ↓t_ite, ↓e_tup, ↓e_lst, ↓e_dct, ↓e_ix, ↓e_sl, ↓e_slr, ↓e_call, ↓e_bi, ↓e_mt, ↓e_lc, ↓e_frz, ↓t_frz, ↓iP_i, ↓e_idx, ↓e_lrg1, ↓e_lrg2, ↓t_v, ↓t_B, ↓t_N, ↓t_I, ↓t_ix, ↓t_bin, ↓t_call, ↓t_bi, ↓t_sl, ↓t_lc, ↓a_n, ↓a_c, ↓if_n, ↓if_1, ↓o_n, ↓o_s, ↓i_val, ↓i_r1, ↓i_r2, ↓i_r3, ↓i_enum, ↓i_zip, ↓i_rev, ↓add_i, ↓add_s, ↓add_t, ↓sub_i, ↓mul_i, ↓fdiv_i, ↓mod_i, ↓pow_i, ↓neg_i, ↓eq_i, ↓eq_s, ↓eq_b, ↓ne_i, ↓ne_s, ↓ne_b, ↓lt_i, ↓le_i, ↓gt_i, ↓ge_i, ↓is_N, ↓no_N, ↓is_B, ↓no_B, ↓is_Bt, ↓is_Bl, ↓is_Bi, ↓is_Bs, ↓is_Bn, ↓is_Br, ↓no_Bt, ↓no_Bl, ↓no_Bi, ↓no_Bs, ↓no_Bn, ↓no_Br, ↓tr_b, ↓tr_i, ↓tr_n, ↓tr_t, ↓tr_l, ↓ix_t, ↓ix_l, ↓ix_rl, ↓at_0, ↓at_1, ↓at_2, ↓at_3, ↓s_n, ↓s_c, ↓s_asg, ↓s_asgL, ↓s_par, ↓s_swp, ↓s_set, ↓s_ex, ↓s_ite, ↓s_for, ↓s_wh, ↓s_ret, ↓s_retN, ↓s_pass, ↓s_brk, ↓s_rz, ↓s_cont, ↓g_nm, ↓g_tp, ↓g_ls, ↓g_n, ↓g_c, ↓par_n, ↓par_c, ↓nw_f, ↓nw_t, ↓len_l, ↓len_t, ↓abs_i, ↓int_i, ↓int_b, ↓repr_h, ↓max_i, ↓min_i, ↓st_0, ↓st_s, ↓supd_supd, ↓ix_ref, ↓set_ref, ↓fd_turn, ↓fd_left, ↓fd_at, ↓fd_cells, ↓fs_turn, ↓fs_left, ↓fs_at, ↓ne_nil, ↓len_is, map_at, ↓ix_q0, ↓ix_q1, ↓g_q, ↓len_q, ↓tr_q, ↓low_eq, ↓q1_eq, ↓q2_eq, ↓sz_0, ↓sz_1, ↓sz_2, ↓sz_3, ↓sz_4, ↓sz_5, ↓sz_6, ↓sz_7, ↓sz_8, ↓itp_t, ↓itp_l, ↓itl_l, ↓pl_2, ↓pl_3, iteE_q, joinS_q, ↓eq_q, ↓ne_q, ↓ixC_l, ↓frz_ref, ↓tup_l, ↓tup_t, ↓lst_l, ↓lst_t, ↓sl_t, ↓slr_t, ↓mul_l, ↓add_l, ↓ifs_0, gsl_nm, gsl_tp, gsl_n, gsl_c, wipe_n, wipe_c, List.replicate, Option.map_some, decide_eq_true_eq, ↓reduceIte, Bool.false_eq_true, Bool.not_eq_eq_eq_not, Bool.not_true, Bool.not_false, true_and, forall_const, Bool.and_eq_true, Bool.or_eq_true, decide_eq_false_iff_not, not_true_eq_false, not_false_eq_true, decide_true, decide_false])
theorem t_feed : Keeps 1 b__law_feed spFeed 1 := by
  intro ds S Q U h
  match ds, h with
  | [.rls ns], h =>
  obtain ⟨cs, rfl, hl, h⟩ := h
  refine ⟨rfl, ?_⟩
  have hc : ∃ cs' : List Int, cutD (cs.map D.int) none (some 63) = cs'.map D.int ∧ cs'.length ≤ 63 := by
    refine ⟨cs.take 63, ?_, by rw [List.length_take]; omega⟩
    rw [show (63 : Int) = ((63 : Nat) : Int) by rfl, cut_to, List.map_take]
  obtain ⟨cs', hc, hl'⟩ := hc
  simp! only [b__law_feed]
  refine ⟨cs.map D.int, rfl, ?_⟩
  rw [hc]
  refine ⟨_, rfl, _, rfl, fun p hp => ?_⟩
  exact h p _ hp ⟨cs', 0, 0, 0, supd_same, by omega, hl'⟩ fun q e => supd_ne e
abbrev sp__law_feed := spFeed
def b__law_draw : Sms := .cons (.setI (.v 0) (.cS "turn") (.bin .add false (.ix (.v 0) (.cS "turn")) (.cI 1))) (.cons (.ite (.cmp .gt (.ix (.v 0) (.cS "left")) (.cI 0)) (.cons (.asg (.nm 6) (.bin .mod false (.ix (.v 0) (.cS "left")) (.v 1))) (.cons (.setI (.v 0) (.cS "left") (.bin .fdiv false (.ix (.v 0) (.cS "left")) (.v 1))) (.cons (.ret (.v 6)) (.nil)))) (.nil)) (.cons (.asg (.nm 2) (.ix (.v 0) (.cS "at"))) (.cons (.setI (.v 0) (.cS "at") (.bin .add false (.v 2) (.cI 1))) (.cons (.asg (.nm 3) (.ite (.cmp .ne (.ix (.v 0) (.cS "cells")) (.lst false (.nil))) (.ix (.ix (.v 0) (.cS "cells")) (.bin .mod false (.v 2) (.bi .len false (.cons (.ix (.v 0) (.cS "cells")) (.nil))))) (.cI 0))) (.cons (.ite (.and_ (.cons (.cmp .ge (.v 3) (.bin .pow false (.cI 10) (.cI 18))) (.cons (.cmp .lt (.v 2) (.bi .len false (.cons (.ix (.v 0) (.cS "cells")) (.nil)))) (.nil)))) (.cons (.setI (.v 0) (.cS "left") (.bin .fdiv false (.v 3) (.v 1))) (.cons (.ret (.bin .mod false (.v 3) (.v 1))) (.nil))) (.nil)) (.cons (.asg (.nm 4) (.ix (.v 0) (.cS "turn"))) (.cons (.asg (.nm 5) (.bin .mod false (.bin .pow false (.bin .add false (.bin .add false (.bin .mod false (.v 3) (.cI 2147483629)) (.bin .mul false (.cI 7919) (.v 4))) (.cI 1)) (.cI 5)) (.cI 2147483647))) (.cons (.asg (.nm 5) (.bin .mod false (.bin .pow false (.bin .add false (.bin .mul false (.v 5) (.bin .add false (.bin .mul false (.cI 2) (.v 4)) (.cI 104729))) (.cI 69621)) (.cI 3)) (.cI 2147483629))) (.cons (.ret (.bin .mod false (.bin .fdiv false (.v 5) (.cI 64)) (.v 1))) (.nil))))))))))
theorem t_draw : Keeps 7 b__law_draw spDraw 2 := by
  intro ds S Q U h
  match ds, h with
  | [.ref p, .int m], h =>
  refine ⟨rfl, ?_⟩
  obtain ⟨⟨h0, h1⟩, n, ⟨cs, a, l, t, hS, ⟨ha, ht, htn⟩, hl⟩, hn, h⟩ := h
  rw [← supd_self hS]
  have hd : CDvD m := h1.cdv (by omega) (by decide)
  have go : ∀ (r a' l' t' : Int), 0 ≤ r → r < m → 0 ≤ a' ∧ 0 ≤ t' ∧ t' ≤ n + 1 → Q (.int r) (supd S p (feedC cs a' l' t')) := by
    intro r a' l' t' h1 h2 h3
    have := Feed.new hS h3 hl (l' := l')
    rw [supd_supd] at this
    exact h r _ h1 h2 this
  have md : ∀ x : Int, 0 ≤ x.fmod m ∧ x.fmod m < m := fun x => ⟨Int.fmod_nonneg_of_pos x h0, Int.fmod_lt_of_pos x h0⟩
  have c18 : CPwD 10 18 := Bt.cpw (b := 4) (Bt.lit (by decide)) (by decide) (by decide)
  by_cases hcs : cs = []
  · subst hcs
    simp! only [b__law_draw, List.isEmpty_nil]
    refine ⟨fun _ => by omega, fun _ => hd, ?_⟩
    split
    · exact go _ _ _ _ (md _).1 (md _).2 (by omega)
    · refine ⟨fun z => z.elim, c18, fun _ => hd, fun _ => by omega, ?_⟩
      rw [if_neg (by rintro ⟨h, _⟩; exact absurd h (by decide))]
      exact draw_mix ht htn hn h0 (go _ _ _ _ (md _).1 (md _).2 (by omega))
  · have hne : 0 < cs.length := List.length_pos_iff.mpr hcs
    obtain ⟨c, hc, _⟩ := at_has (xs := cs) (i := a.fmod cs.length) (Int.fmod_nonneg_of_pos _ (by omega)) (Int.fmod_lt_of_pos _ (by omega))
    have he : cs.isEmpty = false := by
      cases cs with
      | nil => exact absurd rfl hcs
      | cons _ _ => rfl
    simp! only [b__law_draw, List.length_map, hc, he]
    refine ⟨fun _ => by omega, fun _ => hd, ?_⟩
    split
    · exact go _ _ _ _ (md _).1 (md _).2 (by omega)
    · refine ⟨by omega, c18, fun _ => hd, fun _ => by omega, ?_⟩
      split
      · exact go _ _ _ _ (md _).1 (md _).2 (by omega)
      · exact draw_mix ht htn hn h0 (go _ _ _ _ (md _).1 (md _).2 (by omega))
abbrev sp__law_draw := spDraw
def b__law_low : Sms := .cons (.par [3, 4] (.cons (.bi .abs false (.cons (.v 0) (.nil))) (.cons (.bi .abs false (.cons (.v 1) (.nil))) (.nil)))) (.cons (.wh (.cmp .gt (.v 4) (.cI 0)) (.cons (.par [3, 4] (.cons (.v 4) (.cons (.bin .mod false (.v 3) (.v 4)) (.nil)))) (.nil))) (.cons (.asg (.nm 2) (.ite (.cmp .gt (.v 1) (.cI 0)) (.cI 1) (.neg (.cI 1)))) (.cons (.ret (.tup (.cons (.bin .fdiv false (.bin .mul false (.v 2) (.v 0)) (.v 3)) (.cons (.bin .fdiv false (.bin .mul false (.v 2) (.v 1)) (.v 3)) (.nil))))) (.nil))))
theorem neg_fdiv {t g : Int} : (-t).fdiv g = t.fdiv (-g) := by
  have h := Int.neg_fdiv_neg (a := t) (b := -g)
  rw [Int.neg_neg] at h
  exact h
theorem t_low : Keeps 5 b__law_low spLow 2 := by
  intro ds S Q U h
  match ds, h with
  | [.int t, .int u], h =>
  refine ⟨rfl, ?_⟩
  obtain ⟨⟨h0, h1, h2⟩, h⟩ := h
  rw [← low_frq h0] at h
  have hg : Bt 8000 (Nat.gcd t.natAbs u.natAbs : Int) := h2.of_abs (Nat.le_of_dvd (by omega) (Nat.gcd_dvd_right _ _))
  simp! only [b__law_low]
  rw [abs_eq, abs_eq]
  refine gcd_loop (st := fun a b => [some (D.int t), some (D.int u), none, some (D.int a), some (D.int b)]) ?_ ?_ u.natAbs t.natAbs ?_
  · intro a b T hT
    simp! only
    simpa using hT
  · intro a b rt bk ct nx hb hn
    simp! only
    refine ⟨by omega, ?_⟩
    rw [mod_nat]
    exact hn
  · simp! only
    have hne := gcd_ne (t := t) h0
    have sg : Bt 2 (if 0 < u then (1 : Int) else -1) := by split <;> exact Bt.lit (by decide)
    have e : ∀ x : Int, ((if 0 < u then (1 : Int) else -1) * x).fdiv (Nat.gcd t.natAbs u.natAbs : Int) = x.fdiv (if u < 0 then 0 - (Nat.gcd t.natAbs u.natAbs : Int) else (Nat.gcd t.natAbs u.natAbs : Int)) := by
      intro x
      by_cases c : 0 < u
      · rw [if_pos c, if_neg (by omega), Int.one_mul]
      · rw [if_neg c, if_pos (by omega), Int.zero_sub, ← neg_fdiv]
        congr 1
        omega
    rw [e, e]
    exact ⟨sg.cmul h1 (by decide), hg.cdv hne (by decide), sg.cmul h2 (by decide), hg.cdv hne (by decide), h⟩
abbrev sp__law_low := spLow
abbrev sp__law_plus : Spec := spQ2 3900 fun x y => frq (x + y)
abbrev sp__law_times : Spec := fun ds S Q _ => ∃ (x : Rat) (c d : Int), ds = [frq x, .tup [.int c, .int d]] ∧ (RB 3900 x ∧ Bt 3900 c ∧ Bt 3900 d ∧ d ≠ 0) ∧ Q (frq (x * Rat.divInt c d)) S
abbrev sp__law_less : Spec := spQ2 3900 fun x y => frq (x - y)
theorem q2_ladd {S : Sto} {x y : Rat} {Q : EQ} {U : Ex → Sto → Prop} : @callS sp__law_plus [frq x, frq y] S U ⟨Q⟩ = ((RB 3900 x ∧ RB 3900 y) ∧ Q (frq (x + y)) S) := q2_eq
theorem q2_lmul {S : Sto} {x y : Rat} {Q : EQ} {U : Ex → Sto → Prop} : @callS sp__law_times [frq x, frq y] S U ⟨Q⟩ = ((RB 3900 x ∧ RB 3900 y) ∧ Q (frq (x * y)) S) := by
  refine propext ⟨?_, fun h => ⟨x, y.num, y.den, rfl, ⟨h.1.1, h.1.2.n, h.1.2.d, den_ne⟩, by rw [Rat.num_divInt_den]; exact h.2⟩⟩
  rintro ⟨x', c, d, e, ⟨h1, h2, h3, h4⟩, h5⟩
  have e := List.cons.inj e
  obtain rfl := frq_inj e.1
  have e2 := (List.cons.inj e.2).1
  have e3 := List.cons.inj (D.tup.inj e2)
  obtain rfl := D.int.inj e3.1
  obtain rfl := D.int.inj (List.cons.inj e3.2).1
  rw [Rat.num_divInt_den] at h5
  exact ⟨⟨h1, ⟨h2, h3⟩⟩, h5⟩
theorem use_times2 {S : Sto} {x : Rat} {c d : Int} {Q : EQ} {U : Ex → Sto → Prop} (h : RB 3900 x ∧ Bt 3900 c ∧ Bt 3900 d ∧ d ≠ 0) (q : Q (frq (x * Rat.divInt c d)) S) : @callS sp__law_times [frq x, .tup [.int c, .int d]] S U ⟨Q⟩ := ⟨x, c, d, rfl, h, q⟩
theorem q2_less {S : Sto} {x y : Rat} {Q : EQ} {U : Ex → Sto → Prop} : @callS sp__law_less [frq x, frq y] S U ⟨Q⟩ = ((RB 3900 x ∧ RB 3900 y) ∧ Q (frq (x - y)) S) := q2_eq
def b__law_plus : Sms := .cons (.ret (.call "_law_low" sp__law_low (.cons (.bin .add false (.bin .mul false (.ix (.v 0) (.cI 0)) (.ix (.v 1) (.cI 1))) (.bin .mul false (.ix (.v 1) (.cI 0)) (.ix (.v 0) (.cI 1)))) (.cons (.bin .mul false (.ix (.v 0) (.cI 1)) (.ix (.v 1) (.cI 1))) (.nil))))) (.nil)
theorem t_law_plus : Keeps 2 b__law_plus sp__law_plus 2 := by
  rintro ds S Q U ⟨x, y, rfl, ⟨hx, hy⟩, h⟩
  refine ⟨rfl, ?_⟩
  simp! only [b__law_plus]
  rw [rat_add]
  exact ⟨hx.n.cmul hy.d (by decide), hy.n.cmul hx.d (by decide), hx.d.cmul hy.d (by decide), ⟨Int.mul_ne_zero den_ne den_ne, (Bt.add (hx.n.mul hy.d) (hy.n.mul hx.d)).le (by decide), (hx.d.mul hy.d).le (by decide)⟩, h⟩
def b__law_less : Sms := .cons (.ret (.call "_law_low" sp__law_low (.cons (.bin .sub false (.bin .mul false (.ix (.v 0) (.cI 0)) (.ix (.v 1) (.cI 1))) (.bin .mul false (.ix (.v 1) (.cI 0)) (.ix (.v 0) (.cI 1)))) (.cons (.bin .mul false (.ix (.v 0) (.cI 1)) (.ix (.v 1) (.cI 1))) (.nil))))) (.nil)
theorem t_law_less : Keeps 2 b__law_less sp__law_less 2 := by
  rintro ds S Q U ⟨x, y, rfl, ⟨hx, hy⟩, h⟩
  refine ⟨rfl, ?_⟩
  simp! only [b__law_less]
  rw [rat_sub]
  exact ⟨hx.n.cmul hy.d (by decide), hy.n.cmul hx.d (by decide), hx.d.cmul hy.d (by decide), ⟨Int.mul_ne_zero den_ne den_ne, (Bt.sub (hx.n.mul hy.d) (hy.n.mul hx.d)).le (by decide), (hx.d.mul hy.d).le (by decide)⟩, h⟩
def b__law_times : Sms := .cons (.ret (.call "_law_low" sp__law_low (.cons (.bin .mul false (.ix (.v 0) (.cI 0)) (.ix (.v 1) (.cI 0))) (.cons (.bin .mul false (.ix (.v 0) (.cI 1)) (.ix (.v 1) (.cI 1))) (.nil))))) (.nil)
theorem t_law_times : Keeps 2 b__law_times sp__law_times 2 := by
  rintro ds S Q U ⟨x, c, d, rfl, ⟨hx, hc, hd, d0⟩, h⟩
  refine ⟨rfl, ?_⟩
  simp! only [b__law_times]
  have e : Rat.divInt (x.num * c) ((x.den : Int) * d) = x * Rat.divInt c d := by
    have := Rat.divInt_mul_divInt x.num c (d₁ := (x.den : Int)) (d₂ := d)
    rw [Rat.num_divInt_den] at this
    exact this.symm
  rw [e]
  exact ⟨hx.n.cmul hc (by decide), hx.d.cmul hd (by decide), ⟨Int.mul_ne_zero den_ne d0, (hx.n.mul hc).le (by decide), (hx.d.mul hd).le (by decide)⟩, h⟩
def b_common_of : Sms := .cons (.par [0, 1] (.cons (.bi .abs false (.cons (.v 0) (.nil))) (.cons (.bi .abs false (.cons (.v 1) (.nil))) (.nil)))) (.cons (.wh (.cmp .gt (.v 1) (.cI 0)) (.cons (.par [0, 1] (.cons (.v 1) (.cons (.bin .mod false (.v 0) (.v 1)) (.nil)))) (.nil))) (.cons (.ret (.v 0)) (.nil)))
def spGcd : Spec := fun ds S Q _ => match ds with
  | [.int t, .int u] => Q (.int (Nat.gcd t.natAbs u.natAbs : Int)) S
  | _ => False
theorem gcd_eq {S : Sto} {t u : Int} {Q : EQ} {U : Ex → Sto → Prop} : @callS spGcd [.int t, .int u] S U ⟨Q⟩ = Q (.int (Nat.gcd t.natAbs u.natAbs : Int)) S := rfl
theorem t_common_of : Keeps 2 b_common_of spGcd 2 := by
  intro ds S Q U h
  match ds, h with
  | [.int t, .int u], h =>
  refine ⟨rfl, ?_⟩
  simp! only [b_common_of]
  rw [abs_eq, abs_eq]
  refine gcd_loop (st := fun a b => [some (D.int a), some (D.int b)]) ?_ ?_ u.natAbs t.natAbs ?_
  · intro a b T hT
    simp! only
    simpa using hT
  · intro a b rt bk ct nx hb hn
    simp! only
    refine ⟨by omega, ?_⟩
    rw [mod_nat]
    exact hn
  · simp! only
    exact h
abbrev sp_common_of := spGcd
def b_fraction_of : Sms := .cons (.ite (.cmp .eq (.v 1) (.cI 0)) (.cons (.rz) (.nil)) (.nil)) (.cons (.asg (.nm 2) (.call "common_of" sp_common_of (.cons (.v 0) (.cons (.v 1) (.nil))))) (.cons (.ite (.cmp .lt (.v 1) (.cI 0)) (.cons (.asg (.nm 2) (.bin .sub false (.cI 0) (.v 2))) (.nil)) (.nil)) (.cons (.ret (.tup (.cons (.bin .fdiv false (.v 0) (.v 2)) (.cons (.bin .fdiv false (.v 1) (.v 2)) (.nil))))) (.nil))))
theorem t_fraction_of : Keeps 3 b_fraction_of spLow 2 := by
  intro ds S Q U h
  match ds, h with
  | [.int t, .int u], h =>
  refine ⟨rfl, ?_⟩
  obtain ⟨⟨h0, h1, h2⟩, h⟩ := h
  rw [← low_frq h0] at h
  have hg : Bt 8000 (Nat.gcd t.natAbs u.natAbs : Int) := h2.of_abs (Nat.le_of_dvd (by omega) (Nat.gcd_dvd_right _ _))
  have hne := gcd_ne (t := t) h0
  have hg2 : CDvD (if u < 0 then 0 - (Nat.gcd t.natAbs u.natAbs : Int) else (Nat.gcd t.natAbs u.natAbs : Int)) := by
    split
    · exact Bt.cdv (b := 8001) (Bt.sub (Bt.lit (by decide)) hg) (by omega) (by decide)
    · exact hg.cdv hne (by decide)
  simp! only [b_fraction_of, ↓gcd_eq]
  rw [if_neg h0]
  exact ⟨hg2, hg2, h⟩
abbrev sp_fraction_of := spLow
abbrev sp_plus_by : Spec := spQ2 3900 fun x y => frq (x + y)
abbrev sp_times_by : Spec := spQ2 3900 fun x y => frq (x * y)
abbrev sp_minus_by : Spec := spQ2 3900 fun x y => frq (x - y)
theorem q2_add {S : Sto} {x y : Rat} {Q : EQ} {U : Ex → Sto → Prop} : @callS sp_plus_by [frq x, frq y] S U ⟨Q⟩ = ((RB 3900 x ∧ RB 3900 y) ∧ Q (frq (x + y)) S) := q2_eq
theorem q2_mul {S : Sto} {x y : Rat} {Q : EQ} {U : Ex → Sto → Prop} : @callS sp_times_by [frq x, frq y] S U ⟨Q⟩ = ((RB 3900 x ∧ RB 3900 y) ∧ Q (frq (x * y)) S) := q2_eq
theorem q2_sub {S : Sto} {x y : Rat} {Q : EQ} {U : Ex → Sto → Prop} : @callS sp_minus_by [frq x, frq y] S U ⟨Q⟩ = ((RB 3900 x ∧ RB 3900 y) ∧ Q (frq (x - y)) S) := q2_eq
def b_plus_by : Sms := .cons (.ret (.call "fraction_of" sp_fraction_of (.cons (.bin .add false (.bin .mul false (.ix (.v 0) (.cI 0)) (.ix (.v 1) (.cI 1))) (.bin .mul false (.ix (.v 1) (.cI 0)) (.ix (.v 0) (.cI 1)))) (.cons (.bin .mul false (.ix (.v 0) (.cI 1)) (.ix (.v 1) (.cI 1))) (.nil))))) (.nil)
theorem t_plus_by : Keeps 2 b_plus_by sp_plus_by 2 := by
  rintro ds S Q U ⟨x, y, rfl, ⟨hx, hy⟩, h⟩
  refine ⟨rfl, ?_⟩
  simp! only [b_plus_by]
  rw [rat_add]
  exact ⟨hx.n.cmul hy.d (by decide), hy.n.cmul hx.d (by decide), hx.d.cmul hy.d (by decide), ⟨Int.mul_ne_zero den_ne den_ne, (Bt.add (hx.n.mul hy.d) (hy.n.mul hx.d)).le (by decide), (hx.d.mul hy.d).le (by decide)⟩, h⟩
def b_times_by : Sms := .cons (.ret (.call "fraction_of" sp_fraction_of (.cons (.bin .mul false (.ix (.v 0) (.cI 0)) (.ix (.v 1) (.cI 0))) (.cons (.bin .mul false (.ix (.v 0) (.cI 1)) (.ix (.v 1) (.cI 1))) (.nil))))) (.nil)
theorem t_times_by : Keeps 2 b_times_by sp_times_by 2 := by
  rintro ds S Q U ⟨x, y, rfl, ⟨hx, hy⟩, h⟩
  refine ⟨rfl, ?_⟩
  simp! only [b_times_by]
  rw [rat_mul]
  exact ⟨hx.n.cmul hy.n (by decide), hx.d.cmul hy.d (by decide), ⟨Int.mul_ne_zero den_ne den_ne, (hx.n.mul hy.n).le (by decide), (hx.d.mul hy.d).le (by decide)⟩, h⟩
def b_minus_by : Sms := .cons (.ret (.call "fraction_of" sp_fraction_of (.cons (.bin .sub false (.bin .mul false (.ix (.v 0) (.cI 0)) (.ix (.v 1) (.cI 1))) (.bin .mul false (.ix (.v 1) (.cI 0)) (.ix (.v 0) (.cI 1)))) (.cons (.bin .mul false (.ix (.v 0) (.cI 1)) (.ix (.v 1) (.cI 1))) (.nil))))) (.nil)
theorem t_minus_by : Keeps 2 b_minus_by sp_minus_by 2 := by
  rintro ds S Q U ⟨x, y, rfl, ⟨hx, hy⟩, h⟩
  refine ⟨rfl, ?_⟩
  simp! only [b_minus_by]
  rw [rat_sub]
  exact ⟨hx.n.cmul hy.d (by decide), hy.n.cmul hx.d (by decide), hx.d.cmul hy.d (by decide), ⟨Int.mul_ne_zero den_ne den_ne, (Bt.sub (hx.n.mul hy.d) (hy.n.mul hx.d)).le (by decide), (hx.d.mul hy.d).le (by decide)⟩, h⟩
/-! the law's polar form -/
abbrev sp__law_over : Spec := fun ds S Q _ => ∃ x y : Rat, ds = [frq x, frq y] ∧ (RB 3900 x ∧ RB 3900 y ∧ y ≠ 0) ∧ Q (frq (x / y)) S
theorem lov_eq {S : Sto} {x y : Rat} {Q : EQ} {U : Ex → Sto → Prop} : @callS sp__law_over [frq x, frq y] S U ⟨Q⟩ = ((RB 3900 x ∧ RB 3900 y ∧ y ≠ 0) ∧ Q (frq (x / y)) S) := by
  refine propext ⟨?_, fun h => ⟨x, y, rfl, h⟩⟩
  rintro ⟨x', y', e, h⟩
  injection e with e1 e2
  injection e2 with e2
  have := frq_inj e1
  have := frq_inj e2
  subst_vars
  exact h
def b__law_over : Sms := .cons (.ret (.call "_law_low" sp__law_low (.cons (.bin .mul false (.ix (.v 0) (.cI 0)) (.ix (.v 1) (.cI 1))) (.cons (.bin .mul false (.ix (.v 0) (.cI 1)) (.ix (.v 1) (.cI 0))) (.nil))))) (.nil)
theorem t_law_over : Keeps 2 b__law_over sp__law_over 2 := by
  rintro ds S Q U ⟨x, y, rfl, ⟨hx, hy, h0⟩, h⟩
  refine ⟨rfl, ?_⟩
  have hn : y.num ≠ 0 := fun e => h0 (Rat.num_eq_zero.mp e)
  simp! only [b__law_over, ↓low_eq]
  rw [rat_div]
  exact ⟨hx.n.cmul hy.d (by decide), hx.d.cmul hy.n (by decide), ⟨Int.mul_ne_zero den_ne hn, (hx.n.mul hy.d).le (by decide), (hx.d.mul hy.n).le (by decide)⟩, h⟩

abbrev sp_poly_of : Spec := fun ds S Q _ => ∃ (x : D) (xs : List Rat), ds = [x] ∧ sqx S x = some (xs.map frq) ∧ Q (plD (trim xs)) S
theorem use_poly_of {S : Sto} {x : D} {xs : List Rat} {Q : EQ} {U : Ex → Sto → Prop} (h : sqx S x = some (xs.map frq)) (q : Q (plD (trim xs)) S) : @callS sp_poly_of [x] S U ⟨Q⟩ := ⟨x, xs, rfl, h, q⟩
def b_poly_of : Sms := .cons (.asg (.nm 1) (.bi .list true (.cons (.v 0) (.nil)))) (.cons (.wh (.and_ (.cons (.cmp .ne (.v 1) (.lst false (.nil))) (.cons (.cmp .eq (.ix (.v 1) (.neg (.cI 1))) (.gl "NOUGHT" c_NOUGHT)) (.nil)))) (.cons (.ex (.mt .pop (.v 1) (.nil))) (.nil))) (.cons (.ret (.bi .tuple false (.cons (.frz (.v 1)) (.nil)))) (.nil)))
theorem t_poly_of : Keeps 2 b_poly_of sp_poly_of 1 := by
  rintro ds S Q U ⟨x, xs, rfl, hx, h⟩
  refine ⟨rfl, ?_⟩
  simp! only [b_poly_of]
  refine ⟨_, hx, fun q hq => ?_⟩
  simp! only
  have go : ∀ (n : Nat) (ys : List Rat), ys.length = n → trim ys = trim xs → ∃ k, wWh (w ⟨fun x x_1 S => U x S, none⟩ (.and_ (.cons (.cmp .ne (.v 1) (.lst false (.nil))) (.cons (.cmp .eq (.ix (.v 1) (.neg (.cI 1))) (.gl "NOUGHT" c_NOUGHT)) (.nil))))).t (wSs ⟨fun x _ S => U x S, none⟩ (.cons (.ex (.mt .pop (.v 1) (.nil))) (.nil)))
      ⟨wSs ⟨fun x _ S => U x S, none⟩ (.cons (.ret (.bi .tuple false (.cons (.frz (.v 1)) (.nil)))) (.nil)) ⟨fun _ S => Q .non S, Q, fun _ _ => False, fun _ _ => False⟩, Q, fun _ _ => False, fun _ _ => False⟩ k [some x, some (.ref q)] (supd S q (.lst (ys.map frq))) := by
    intro n
    induction n with
    | zero =>
      intro ys hn ht
      obtain rfl := List.eq_nil_of_length_eq_zero hn
      refine ⟨1, ?_⟩
      unfold wWh
      simp! only
      refine ne_nilQ (xs := []) (by show cL _ = _; rw [supd_same]; rfl) ?_
      simp! only [List.isEmpty_nil]
      rw [sdel_supd hq]
      rw [← ht] at h
      exact h
    | succ n ih =>
      intro ys hn ht
      obtain ⟨zs, b, rfl⟩ : ∃ zs b, ys = zs ++ [b] := ⟨ys.dropLast, ys.getLast (by intro z; subst z; cases hn), (List.dropLast_concat_getLast _).symm⟩
      have hl : zs.length = n := by
        rw [List.length_append] at hn
        exact Nat.succ.inj hn
      have hlast : atI ((zs ++ [b]).map frq) (-1) = some (frq b) := by
        rw [map_at, at_last (by simp)]
        simp
      have hcell : (supd S q (.lst ((zs ++ [b]).map frq))) q = some (.lst ((zs ++ [b]).map frq)) := supd_same
      have test : ∀ T : Bool → Sto → Prop, T (decide (b = 0)) (supd S q (.lst ((zs ++ [b]).map frq))) → (w ⟨fun x x_1 S => U x S, none⟩ (.and_ (.cons (.cmp .ne (.v 1) (.lst false (.nil))) (.cons (.cmp .eq (.ix (.v 1) (.neg (.cI 1))) (.gl "NOUGHT" c_NOUGHT)) (.nil))))).t [some x, some (.ref q)] (supd S q (.lst ((zs ++ [b]).map frq))) T := by
        intro T hT
        simp! only
        refine ne_nilQ (xs := zs ++ [b]) (by show cL _ = _; rw [supd_same]; rfl) ?_
        have e : (zs ++ [b]).isEmpty = false := by simp
        simp! only [e, at_ref hcell, hlast]
        exact hT
      by_cases c : b = 0
      · subst c
        rw [trim_app0] at ht
        obtain ⟨k, hk⟩ := ih zs hl ht
        refine ⟨k + 1, ?_⟩
        unfold wWh
        refine test _ ?_
        rw [if_pos (by simp)]
        simp! only
        refine ⟨⟨q, _, rfl, supd_same⟩, q, _, frq 0, rfl, rfl, supd_same, ?_, ?_⟩
        · rw [List.length_map, List.getElem?_map, List.length_append]
          simp
        · have e : ((zs ++ [(0 : Rat)]).map frq).dropLast = zs.map frq := by simp
          rw [e, supd_supd]
          exact hk
      · refine ⟨1, ?_⟩
        unfold wWh
        refine test _ ?_
        rw [if_neg (by simp [c])]
        simp! only
        rw [sdel_supd hq]
        rw [trim_app c] at ht
        rw [← ht] at h
        exact h
  exact go _ xs rfl rfl
abbrev sp_poly_number : Spec := fun ds S Q _ => ∃ (p : List Rat) (k : Nat), ds = [plD p, .int (k : Int)] ∧ Q (frq (pn p k)) S
theorem use_poly_number {S : Sto} {p : List Rat} {k : Nat} {Q : EQ} {U : Ex → Sto → Prop} (q : Q (frq (pn p k)) S) : @callS sp_poly_number [plD p, .int (k : Int)] S U ⟨Q⟩ := ⟨p, k, rfl, q⟩
def b_poly_number : Sms := .cons (.ret (.ite (.cmp .lt (.v 1) (.bi .len false (.cons (.v 0) (.nil)))) (.ix (.v 0) (.v 1)) (.gl "NOUGHT" c_NOUGHT))) (.nil)
theorem t_poly_number : Keeps 2 b_poly_number sp_poly_number 2 := by
  rintro ds S Q U ⟨p, k, rfl, h⟩
  refine ⟨rfl, ?_⟩
  simp! only [b_poly_number, ↓len_p, ↓ix_p]
  rw [iteE_def]
  split
  · rename_i c
    have c := of_decide_eq_true c
    rw [at_pn (by omega)]
    exact h
  · rename_i c
    have c : ¬ ((k : Int) < p.length) := fun z => c (decide_eq_true z)
    rw [pn_len (by omega)] at h
    exact h
abbrev sp_poly_sum : Spec := fun ds S Q _ => ∃ a b : List Rat, ds = [plD a, plD b] ∧ (RL 3900 a ∧ RL 3900 b ∧ a.length ≤ 1000 ∧ b.length ≤ 1000) ∧ Q (plD (trim (addP a b))) S
theorem use_poly_sum {S : Sto} {a b : List Rat} {Q : EQ} {U : Ex → Sto → Prop} (h : RL 3900 a ∧ RL 3900 b ∧ a.length ≤ 1000 ∧ b.length ≤ 1000) (q : Q (plD (trim (addP a b))) S) : @callS sp_poly_sum [plD a, plD b] S U ⟨Q⟩ := ⟨a, b, rfl, h, q⟩
def b_poly_sum : Sms := .cons (.asg (.nm 2) (.bi .max2 false (.cons (.bi .len false (.cons (.v 0) (.nil))) (.cons (.bi .len false (.cons (.v 1) (.nil))) (.nil))))) (.cons (.ret (.call "poly_of" sp_poly_of (.cons (.lc false (.call "plus_by" sp_plus_by (.cons (.call "poly_number" sp_poly_number (.cons (.v 0) (.cons (.v 3) (.nil)))) (.cons (.call "poly_number" sp_poly_number (.cons (.v 1) (.cons (.v 3) (.nil)))) (.nil)))) (.nm 3) (.r1 (.v 2)) (.nil)) (.nil)))) (.nil))
theorem t_poly_sum : Keeps 4 b_poly_sum sp_poly_sum 2 := by
  rintro ds S Q U ⟨a, b, rfl, ⟨ha, hb, hla, hlb⟩, h⟩
  refine ⟨rfl, ?_⟩
  simp! only [b_poly_sum, ↓len_p]
  rw [max_nat]
  refine ⟨r62_ok (by omega), ?_⟩
  rw [Int.toNat_natCast, rng_map]
  refine lc_pure (g := fun i : Nat => frq (pn a i + pn b i)) trivial _ (by rw [List.length_range]; exact few_ok (by omega)) ?_ ?_
  · intro i hi R hR
    simp! only
    refine use_poly_number ?_
    simp! only
    refine use_poly_number ?_
    simp! only [↓q2_add]
    exact ⟨⟨ha.pn (by decide) i, hb.pn (by decide) i⟩, hR⟩
  · simp! only
    refine use_poly_of (xs := addP a b) ?_ h
    show some _ = some _
    unfold addP
    rw [List.map_map]
    rfl
abbrev sp_poly_scaled : Spec := fun ds S Q _ => ∃ (p : List Rat) (t : Rat), ds = [plD p, frq t] ∧ (RL 3900 p ∧ RB 3900 t ∧ p.length ≤ 1000) ∧ Q (plD (trim (p.map (· * t)))) S
theorem use_poly_scaled {S : Sto} {p : List Rat} {t : Rat} {Q : EQ} {U : Ex → Sto → Prop} (h : RL 3900 p ∧ RB 3900 t ∧ p.length ≤ 1000) (q : Q (plD (trim (p.map (· * t)))) S) : @callS sp_poly_scaled [plD p, frq t] S U ⟨Q⟩ := ⟨p, t, rfl, h, q⟩
abbrev sp_product_numbers : Spec := fun ds S Q _ => ∃ (a b : List Rat) (x y : Nat), ds = [plD a, plD b] ∧ (RL x a ∧ RL y b ∧ a.length ≤ 100 ∧ b.length ≤ 100 ∧ 1 + (a.length + 1) * (x + y + 1) ≤ 3900) ∧
  ∀ f : List Rat, f.length = a.length + b.length → (∀ k, pn f k = conv a b k) → RL (1 + a.length * (x + y + 1)) f → Q (.lst (f.map frq)) S
theorem use_product_numbers {S : Sto} {a b : List Rat} {Q : EQ} {U : Ex → Sto → Prop} (x y : Nat) (h : RL x a ∧ RL y b ∧ a.length ≤ 100 ∧ b.length ≤ 100 ∧ 1 + (a.length + 1) * (x + y + 1) ≤ 3900)
    (q : ∀ f : List Rat, f.length = a.length + b.length → (∀ k, pn f k = conv a b k) → RL (1 + a.length * (x + y + 1)) f → Q (.lst (f.map frq)) S) : @callS sp_product_numbers [plD a, plD b] S U ⟨Q⟩ := ⟨a, b, x, y, rfl, h, q⟩
def b_product_numbers : Sms := .cons (.asg (.nm 2) (.bin .mul true (.lst false (.cons (.gl "NOUGHT" c_NOUGHT) (.nil))) (.bin .add false (.bi .len false (.cons (.v 0) (.nil))) (.bi .len false (.cons (.v 1) (.nil)))))) (.cons (.for_ (.nm 3) (.r1 (.bi .len false (.cons (.v 0) (.nil)))) (.cons (.for_ (.nm 4) (.r1 (.bi .len false (.cons (.v 1) (.nil)))) (.cons (.setI (.v 2) (.bin .add false (.v 3) (.v 4)) (.call "plus_by" sp_plus_by (.cons (.ix (.v 2) (.bin .add false (.v 3) (.v 4))) (.cons (.call "times_by" sp_times_by (.cons (.ix (.v 0) (.v 3)) (.cons (.ix (.v 1) (.v 4)) (.nil)))) (.nil))))) (.nil))) (.nil))) (.cons (.ret (.frz (.v 2))) (.nil)))
theorem t_product_numbers : Keeps 5 b_product_numbers sp_product_numbers 2 := by
  rintro ds S Q U ⟨a, b, x, y, rfl, ⟨ha, hb, hla, hlb, hB⟩, h⟩
  refine ⟨rfl, ?_⟩
  have e1 : ((a.length : Int) + (b.length : Int)).toNat = a.length + b.length := by omega
  simp! only [b_product_numbers, ↓len_p, e1]
  refine ⟨⟨by omega, by omega, by rw [List.length_singleton]; exact few_ok (by omega)⟩, fun q hq => ?_⟩
  rw [rep_one]
  refine ⟨r62_ok (by omega), ?_⟩
  rw [Int.toNat_natCast]
  have hz : List.replicate (a.length + b.length) (frq 0) = (List.replicate (a.length + b.length) (0 : Rat)).map frq := by rw [List.map_replicate]
  rw [hz]
  -- the outer loop: the first j rows are in
  refine for_inv (fun ds δ S' => ∃ (j : Nat) (f : List Rat) (o3 o4 : Option D), ds = rngD (j : Int) (a.length - j) ∧ j ≤ a.length ∧ δ = [some (plD a), some (plD b), some (.ref q), o3, o4] ∧ S' = supd S q (.lst (f.map frq)) ∧
    f.length = a.length + b.length ∧ (∀ k, pn f k = conv (a.take j) b k) ∧ RL (1 + j * (x + y + 1)) f) ?_ ?_ (fun _ _ _ _ => trivial) _ _ _ ?_
  · rintro d ds δ S' nx hnx ⟨j, f, o3, o4, e, hj, rfl, rfl, hf, hc, hr⟩
    have hj2 : j < a.length := by
      by_cases c : j < a.length
      · exact c
      · have : a.length - j = 0 := by omega
        rw [this] at e
        cases e
    obtain ⟨m, hm⟩ : ∃ m, a.length - j = m + 1 := ⟨a.length - j - 1, by omega⟩
    rw [hm, rng_s] at e
    cases e
    simp! only [↓len_p]
    refine ⟨r62_ok (by omega), ?_⟩
    rw [Int.toNat_natCast]
    -- the inner loop: of this row the first i numbers are in
    refine for_inv (fun ds δ S' => ∃ (i : Nat) (g : List Rat) (o4 : Option D), ds = rngD (i : Int) (b.length - i) ∧ i ≤ b.length ∧ δ = [some (plD a), some (plD b), some (.ref q), some (.int (j : Int)), o4] ∧ S' = supd S q (.lst (g.map frq)) ∧
      g.length = a.length + b.length ∧ (∀ k, pn g k = pn f k + (if j ≤ k ∧ k < j + i then pn a j * pn b (k - j) else 0)) ∧ RL (1 + (j + 1) * (x + y + 1)) g) ?_ ?_ (fun _ _ _ _ => trivial) _ _ _ ?_
    · rintro d ds δ S' nx2 hnx2 ⟨i, g, o4, e, hi, rfl, rfl, hg, hcg, hrg⟩
      have hi2 : i < b.length := by
        by_cases c : i < b.length
        · exact c
        · have : b.length - i = 0 := by omega
          rw [this] at e
          cases e
      obtain ⟨n, hn⟩ : ∃ n, b.length - i = n + 1 := ⟨b.length - i - 1, by omega⟩
      rw [hn, rng_s] at e
      cases e
      have e2 : ((j : Int) + (i : Int)) = ((j + i : Nat) : Int) := by omega
      have hget : atI g ((j + i : Nat) : Int) = some (pn g (j + i)) := at_pn (by omega)
      have hcell : (supd S q (.lst (g.map frq))) q = some (.lst (g.map frq)) := supd_same
      have hle : 1 + (j + 1) * (x + y + 1) ≤ 3900 := Nat.le_trans (Nat.add_le_add_left (Nat.mul_le_mul_right _ (by omega)) 1) hB
      have hxy : x + y + 1 ≤ 3900 := by
        have : 1 * (x + y + 1) ≤ (j + 1) * (x + y + 1) := Nat.mul_le_mul_right _ (by omega)
        omega
      have hx' : RB x (pn a j) := by
        refine ha _ ?_
        unfold pn
        rw [List.getD_eq_getElem?_getD, List.getElem?_eq_getElem hj2]
        exact List.getElem_mem _
      have hy' : RB y (pn b i) := by
        refine hb _ ?_
        unfold pn
        rw [List.getD_eq_getElem?_getD, List.getElem?_eq_getElem hi2]
        exact List.getElem_mem _
      have hold : pn g (j + i) = pn f (j + i) := by
        rw [hcg, if_neg (by omega), Rat.add_zero]
      have hbf : RB (1 + j * (x + y + 1)) (pn g (j + i)) := by
        rw [hold]
        exact hr.pn (by omega) _
      simp! only [e2, ↓ix_p, hget, at_pn hj2, at_pn hi2, ↓q2_mul, ↓q2_add]
      refine ⟨⟨hx'.le (by omega), hy'.le (by omega)⟩, ⟨hbf.le (Nat.le_trans (Nat.add_le_add_left (Nat.mul_le_mul_right _ (by omega)) 1) hle), (hx'.mul hy').le (by omega)⟩, ?_⟩
      rw [← set_ref (S := S)]
      refine set_at (j := j + i) hcell rfl (by rw [List.length_map]; omega) ?_
      rw [supd_supd]
      have hset : (g.map frq).set (j + i) (frq (pn g (j + i) + pn a j * pn b i)) = (addAt g (j + i) (pn a j * pn b i)).map frq := by
        unfold addAt
        rw [List.map_set]
      rw [hset]
      refine hnx2 _ _ trivial ⟨i + 1, _, _, ?_, by omega, rfl, rfl, by rw [addAt_len]; exact hg, ?_, ?_⟩
      · have : b.length - (i + 1) = n := by omega
        rw [this]
        rfl
      · intro k
        rw [addAt_pn (by omega), hcg]
        by_cases c : k = j + i
        · subst c
          rw [if_neg (by omega), if_pos rfl, if_pos (by omega), Rat.add_zero]
          congr 3
          omega
        · rw [if_neg c, Rat.add_zero]
          by_cases c2 : j ≤ k ∧ k < j + i
          · rw [if_pos c2, if_pos (by omega)]
          · rw [if_neg c2, if_neg (by omega)]
      · refine addAt_RL hrg ?_
        have := hbf.add (hx'.mul hy')
        refine this.le ?_
        rw [Nat.add_mul]
        omega
    · rintro δ S' ⟨i, g, o4, e, hi, rfl, rfl, hg, hcg, hrg⟩
      have hi2 : i = b.length := by
        have := congrArg List.length e
        rw [rng_len] at this
        simp at this
        omega
      subst hi2
      simp! only
      refine hnx _ _ trivial ⟨j + 1, g, _, _, ?_, by omega, rfl, rfl, hg, ?_, hrg⟩
      · have : a.length - (j + 1) = m := by omega
        rw [this]
        rfl
      · intro k
        rw [hcg, hc, take_succ_pn hj2, conv_snoc]
        have hlen : (a.take j).length = j := by
          rw [List.length_take]
          omega
        rw [hlen]
        congr 1
        by_cases c : j ≤ k
        · rw [if_pos c]
          by_cases c2 : k < j + b.length
          · rw [if_pos ⟨c, c2⟩]
          · rw [if_neg (by omega), pn_len (p := b) (by omega), Rat.mul_zero]
        · rw [if_neg c, if_neg (by omega)]
    · refine ⟨0, f, _, rfl, Nat.zero_le _, rfl, rfl, hf, ?_, hr.le (Nat.add_le_add_left (Nat.mul_le_mul_right _ (by omega)) 1)⟩
      intro k
      rw [if_neg (by omega), Rat.add_zero]
  · rintro δ S' ⟨j, f, o3, o4, e, hj, rfl, rfl, hf, hc, hr⟩
    have hj2 : j = a.length := by
      have := congrArg List.length e
      rw [rng_len] at this
      simp at this
      omega
    subst hj2
    simp! only
    rw [sdel_supd hq]
    rw [List.take_length] at hc
    exact h f hf hc hr
  · refine ⟨0, _, _, _, rfl, Nat.zero_le _, rfl, rfl, by simp, ?_, ?_⟩
    · intro k
      rw [List.take_zero, conv_nil]
      unfold pn
      rw [List.getD_eq_getElem?_getD, List.getElem?_replicate]
      split <;> rfl
    · intro z m
      rw [List.eq_of_mem_replicate m]
      exact RB.zero (by omega)
abbrev sp_poly_times : Spec := fun ds S Q _ => ∃ (a b : List Rat) (x y : Nat), ds = [plD a, plD b] ∧ (RL x a ∧ RL y b ∧ a.length ≤ 100 ∧ b.length ≤ 100 ∧ 1 + (a.length + 1) * (x + y + 1) ≤ 3900) ∧
  ∀ f : List Rat, f.length = a.length + b.length → (∀ k, pn f k = conv a b k) → RL (1 + a.length * (x + y + 1)) f → Q (plD (trim f)) S
theorem use_poly_times {S : Sto} {a b : List Rat} {Q : EQ} {U : Ex → Sto → Prop} (x y : Nat) (h : RL x a ∧ RL y b ∧ a.length ≤ 100 ∧ b.length ≤ 100 ∧ 1 + (a.length + 1) * (x + y + 1) ≤ 3900)
    (q : ∀ f : List Rat, f.length = a.length + b.length → (∀ k, pn f k = conv a b k) → RL (1 + a.length * (x + y + 1)) f → Q (plD (trim f)) S) : @callS sp_poly_times [plD a, plD b] S U ⟨Q⟩ := ⟨a, b, x, y, rfl, h, q⟩
def b_poly_times : Sms := .cons (.ret (.call "poly_of" sp_poly_of (.cons (.call "product_numbers" sp_product_numbers (.cons (.v 0) (.cons (.v 1) (.nil)))) (.nil)))) (.nil)
theorem t_poly_times : Keeps 2 b_poly_times sp_poly_times 2 := by
  rintro ds S Q U ⟨a, b, x, y, rfl, hh, h⟩
  refine ⟨rfl, ?_⟩
  simp! only [b_poly_times]
  refine use_product_numbers x y hh fun f h1 h2 h3 => ?_
  simp! only
  exact use_poly_of (xs := f) rfl (h f h1 h2 h3)
abbrev sp_value_of : Spec := fun ds S Q _ => ∃ (p : List Rat) (t : Rat) (x y : Nat), ds = [plD p, frq t] ∧ (RL x p ∧ RB y t ∧ 1 + (p.length + 1) * (x + y + 2) ≤ 3900) ∧ Q (frq (ev p t)) S
theorem use_value_of {S : Sto} {p : List Rat} {t : Rat} {Q : EQ} {U : Ex → Sto → Prop} (x y : Nat) (h : RL x p ∧ RB y t ∧ 1 + (p.length + 1) * (x + y + 2) ≤ 3900) (q : Q (frq (ev p t)) S) : @callS sp_value_of [plD p, frq t] S U ⟨Q⟩ := ⟨p, t, x, y, rfl, h, q⟩
def b_value_of : Sms := .cons (.asg (.nm 2) (.gl "NOUGHT" c_NOUGHT)) (.cons (.for_ (.nm 3) (.rev (.v 0)) (.cons (.asg (.nm 2) (.call "plus_by" sp_plus_by (.cons (.call "times_by" sp_times_by (.cons (.v 2) (.cons (.v 1) (.nil)))) (.cons (.v 3) (.nil))))) (.nil))) (.cons (.ret (.v 2)) (.nil)))
theorem t_value_of : Keeps 4 b_value_of sp_value_of 2 := by
  rintro ds S Q U ⟨p, t, x, y, rfl, ⟨hp, ht, hB⟩, h⟩
  refine ⟨rfl, ?_⟩
  simp! only [b_value_of, ↓itq_p]
  refine for_inv (fun ds δ S' => S' = S ∧ ∃ (a b : List Rat) (o : Option D), p = a ++ b ∧ ds = (a.map frq).reverse ∧ δ = [some (plD p), some (frq t), some (frq (ev b t)), o] ∧ RB (1 + b.length * (x + y + 2)) (ev b t)) ?_ ?_ (fun _ _ _ _ => trivial) _ _ _ ?_
  · rintro d ds δ S' nx hnx ⟨rfl, a, b, o, rfl, e, rfl, hb⟩
    obtain ⟨a, z, rfl⟩ : ∃ a' z, a = a' ++ [z] := by
      cases a with
      | nil => cases e
      | cons u v => exact ⟨(u :: v).dropLast, (u :: v).getLast (by simp), (List.dropLast_concat_getLast _).symm⟩
    rw [List.map_append, List.reverse_append] at e
    cases e
    have hz : RB x z := hp z (by simp)
    have hbl : 1 + b.length * (x + y + 2) + (x + y + 2) ≤ 3900 := by
      refine Nat.le_trans ?_ hB
      rw [Nat.add_assoc]
      refine Nat.add_le_add_left ?_ 1
      have : b.length * (x + y + 2) + 1 * (x + y + 2) ≤ (((a ++ [z]) ++ b).length + 1) * (x + y + 2) := by
        rw [← Nat.add_mul]
        refine Nat.mul_le_mul_right _ ?_
        simp
        omega
      omega
    simp! only [↓q2_mul, ↓q2_add]
    refine ⟨⟨hb.le (by omega), ht.le (by omega)⟩, ⟨(hb.mul ht).le (by omega), hz.le (by omega)⟩, ?_⟩
    have e1 : ev b t * t + z = ev (z :: b) t := by
      show _ = z + t * ev b t
      grind
    have hb2 : RB (1 + (z :: b).length * (x + y + 2)) (ev (z :: b) t) := by
      rw [← e1]
      refine ((hb.mul ht).add hz).le ?_
      rw [List.length_cons, Nat.add_mul]
      omega
    rw [e1]
    exact hnx _ _ trivial ⟨rfl, a, z :: b, _, by simp, rfl, rfl, hb2⟩
  · rintro δ S' ⟨rfl, a, b, o, rfl, e, rfl, hb⟩
    have ha : a = [] := by
      have := congrArg List.length e
      simp at this
      exact List.eq_nil_of_length_eq_zero this.symm
    subst ha
    simp! only
    exact h
  · exact ⟨rfl, p, [], _, by simp, rfl, rfl, RB.zero (by simp)⟩
abbrev sp_slope_of : Spec := fun ds S Q _ => ∃ (p : List Rat), ds = [plD p] ∧ (RL 3000 p ∧ p.length ≤ 1000) ∧ Q (plD (trim ((List.range (p.length - 1)).map fun i : Nat => ((i : Rat) + 1) * pn p (i + 1)))) S
theorem use_slope_of {S : Sto} {p : List Rat} {Q : EQ} {U : Ex → Sto → Prop} (h : RL 3000 p ∧ p.length ≤ 1000) (q : Q (plD (trim ((List.range (p.length - 1)).map fun i : Nat => ((i : Rat) + 1) * pn p (i + 1)))) S) : @callS sp_slope_of [plD p] S U ⟨Q⟩ := ⟨p, rfl, h, q⟩
theorem frq_nat {i : Int} {q : Rat} (h : q = (i : Rat)) : D.tup [.int i, .int 1] = frq q := by
  subst h
  rfl
theorem RB_int {b : Nat} {i : Int} (h : Bt b i) (hb : 1 ≤ b) : RB b (i : Rat) := ⟨h, Bt.le (a := 1) (i := 1) (Bt.lit (by decide)) hb⟩
def b_slope_of : Sms := .cons (.ret (.call "poly_of" sp_poly_of (.cons (.lc false (.call "times_by" sp_times_by (.cons (.tup (.cons (.v 1) (.cons (.cI 1) (.nil)))) (.cons (.ix (.v 0) (.v 1)) (.nil)))) (.nm 1) (.r2 (.cI 1) (.bi .len false (.cons (.v 0) (.nil)))) (.nil)) (.nil)))) (.nil)
theorem t_slope_of : Keeps 2 b_slope_of sp_slope_of 1 := by
  rintro ds S Q U ⟨p, rfl, ⟨hp, hl⟩, h⟩
  refine ⟨rfl, ?_⟩
  have e1 : ((p.length : Int) - 1).toNat = p.length - 1 := by omega
  simp! only [b_slope_of, ↓len_p, e1]
  refine ⟨⟨⟨by decide, by decide⟩, r62_ok (by omega)⟩, ?_⟩
  rw [rng_mapL]
  refine lc_pure (g := fun i : Nat => frq (((i : Rat) + 1) * pn p (i + 1))) trivial _ (by rw [List.length_range]; exact few_ok (by omega)) ?_ ?_
  · intro i hi R hR
    have hi := List.mem_range.mp hi
    have e2 : (1 : Int) + (i : Int) = ((i + 1 : Nat) : Int) := by omega
    have hat : atI p ((i + 1 : Nat) : Int) = some (pn p (i + 1)) := at_pn (by omega)
    have e3 : D.tup [.int ((i + 1 : Nat) : Int), .int 1] = frq ((i : Rat) + 1) := frq_nat (by
      rw [Rat.intCast_natCast, Rat.natCast_add]; rfl)
    have hb : RB 3900 ((i : Rat) + 1) := by
      have := RB_int (b := 12) (i := ((i + 1 : Nat) : Int)) (by show (((i + 1 : Nat) : Int)).natAbs < 4096; omega) (by decide)
      rw [Rat.intCast_natCast, Rat.natCast_add] at this
      exact RB.le this (by decide)
    simp! only [e2, ↓ix_p, hat, e3, ↓q2_mul]
    exact ⟨⟨hb, (hp.pn (by decide) _).le (by decide)⟩, hR⟩
  · simp! only
    refine use_poly_of ?_ h
    show some _ = some _
    rw [List.map_map]
    rfl

/-- what comes on the way of moving is small -/
def MvB (p : List Rat) (t : Rat) : Prop := ∀ a b : List Rat, p = a ++ b → ∀ k, RB 500 (mvN b t k)
theorem MvB.of {p : List Rat} {t T V : Rat} {D E : Nat} (hp : Nm D V p) (hl : p.length ≤ 4) (hV : 0 ≤ V) (hT : 0 ≤ T) (h1 : Ig E t) (h2 : Ab T t) (n1 : D * E ^ 3 ≠ 0) (n2 : D * E ^ 3 < 2 ^ 500) (n3 : (T + 2) ^ 3 * V * ((D * E ^ 3 : Nat) : Rat) < ((2 ^ 500 : Nat) : Rat)) : MvB p t := by
  intro a b e k
  have hb : Nm D V b := fun x m => hp x (by rw [e]; exact List.mem_append_right _ m)
  have lb : b.length ≤ 4 := by
    rw [e, List.length_append] at hl
    omega
  have := mvN_Nm hb lb hV hT h1 h2 k
  exact RB.of this.1 this.2 n1 n2 n3
/-- at most four numbers, below 2 ^ 45 -/
abbrev sp_moved_poly : Spec := fun ds S Q _ => ∃ (p : List Rat) (t : Rat), ds = [plD p, frq t] ∧ (RL 400 p ∧ RB 60 t ∧ p.length ≤ 4 ∧ MvB p t) ∧ ∀ r : List Rat, trim r = r → (∀ k, pn r k = mvN p t k) → RL 500 r → Q (plD r) S
theorem use_moved_poly {S : Sto} {p : List Rat} {t : Rat} {Q : EQ} {U : Ex → Sto → Prop} (h : RL 400 p ∧ RB 60 t ∧ p.length ≤ 4 ∧ MvB p t) (q : ∀ r : List Rat, trim r = r → (∀ k, pn r k = mvN p t k) → RL 500 r → Q (plD r) S) : @callS sp_moved_poly [plD p, frq t] S U ⟨Q⟩ := ⟨p, t, rfl, h, q⟩
def b_moved_poly : Sms := .cons (.asg (.nm 2) (.tup (.nil))) (.cons (.asg (.nm 3) (.call "poly_of" sp_poly_of (.cons (.lst false (.cons (.v 1) (.cons (.gl "ONE" c_ONE) (.nil)))) (.nil)))) (.cons (.for_ (.nm 4) (.rev (.v 0)) (.cons (.asg (.nm 2) (.call "poly_sum" sp_poly_sum (.cons (.call "poly_times" sp_poly_times (.cons (.v 2) (.cons (.v 3) (.nil)))) (.cons (.call "poly_of" sp_poly_of (.cons (.lst false (.cons (.v 4) (.nil))) (.nil))) (.nil))))) (.nil))) (.cons (.ret (.v 2)) (.nil))))
theorem t_moved_poly : Keeps 5 b_moved_poly sp_moved_poly 2 := by
  rintro ds S Q U ⟨p, t, rfl, ⟨hp, ht, hl, hB⟩, h⟩
  refine ⟨rfl, ?_⟩
  simp! only [b_moved_poly]
  refine use_poly_of (xs := [t, 1]) rfl ?_
  have e1 : trim [t, 1] = [t, 1] := trim_app (p := [t]) (b := 1) (by decide)
  rw [e1]
  simp! only [↓itq_p]
  have one : RL 60 [t, 1] := by
    intro x m
    rcases List.mem_cons.mp m with m | m
    · rw [m]; exact ht
    · rw [List.mem_singleton.mp m]; exact RB.lit (by decide)
  refine for_inv (fun ds δ S' => S' = S ∧ ∃ (a b r : List Rat) (o : Option D), p = a ++ b ∧ ds = (a.map frq).reverse ∧ δ = [some (plD p), some (frq t), some (plD r), some (plD [t, 1]), o] ∧ trim r = r ∧ (∀ k, pn r k = mvN b t k) ∧ RL 500 r) ?_ ?_ (fun _ _ _ _ => trivial) _ _ _ ?_
  · rintro d ds δ S' nx hnx ⟨rfl, a, b, r, o, rfl, e, rfl, hr, hv, hb⟩
    obtain ⟨a, z, rfl⟩ : ∃ a' z, a = a' ++ [z] := by
      cases a with
      | nil => cases e
      | cons u v => exact ⟨(u :: v).dropLast, (u :: v).getLast (by simp), (List.dropLast_concat_getLast _).symm⟩
    rw [List.map_append, List.reverse_append] at e
    cases e
    have hz : RB 400 z := hp z (by simp)
    have hbl : b.length + 1 ≤ 4 := by
      rw [List.length_append, List.length_append] at hl
      simp at hl
      omega
    have hrl : r.length ≤ b.length := by
      rw [← hr]
      refine trim_len_le r _ fun i hi => ?_
      rw [hv, mvN_far hi]
    have hbig : 1 + (r.length + 1) * (500 + 60 + 1) ≤ 3900 := by
      have : (r.length + 1) * (500 + 60 + 1) ≤ 4 * (500 + 60 + 1) := Nat.mul_le_mul_right _ (by omega)
      omega
    simp! only
    refine use_poly_times 500 60 ⟨hb, one, by omega, (by decide : 2 ≤ 100), hbig⟩ fun f f1 f2 f3 => ?_
    simp! only
    refine use_poly_of (xs := [z]) rfl ?_
    simp! only
    have zl : RL 400 (trim [z]) := RL.trim fun x m => by rw [List.mem_singleton.mp m]; exact hz
    have fl : RL (1 + r.length * (500 + 61)) (trim f) := f3.trim
    have l1 : (trim f).length ≤ 100 := Nat.le_trans (trim_len f) (by simp at f1; omega)
    have l2 : (trim [z]).length ≤ 1 := trim_len [z]
    have hle : 1 + r.length * (500 + 61) ≤ 3900 := by
      refine Nat.le_trans ?_ hbig
      exact Nat.add_le_add_left (Nat.mul_le_mul_right _ (by omega)) 1
    refine use_poly_sum ⟨fl.le hle, zl.le (by decide), by omega, by omega⟩ ?_
    simp! only
    have key : ∀ k, pn (trim (addP (trim f) (trim [z]))) k = mvN (z :: b) t k := by
      intro k
      rw [trim_pn, addP_pn, trim_pn, trim_pn, f2]
      obtain ⟨c1, c2⟩ := conv_two (t := t) r
      cases k with
      | zero =>
        rw [c1, hv]
        show mvN b t 0 * t + z = t * mvN b t 0 + z
        grind
      | succ k =>
        rw [c2, hv, hv]
        have e : pn [z] (k + 1) = 0 := rfl
        rw [e]
        show mvN b t (k + 1) * t + mvN b t k + 0 = t * mvN b t (k + 1) + mvN b t k
        grind
    refine hnx _ _ trivial ⟨rfl, a, z :: b, trim (addP (trim f) (trim [z])), _, by simp, rfl, rfl, trim_trim _, key, ?_⟩
    · intro x hx
      obtain ⟨i, hi, rfl⟩ := List.mem_iff_getElem.mp hx
      have e : (trim (addP (trim f) (trim [z])))[i] = pn (trim (addP (trim f) (trim [z]))) i := by
        unfold pn
        rw [List.getD_eq_getElem?_getD, List.getElem?_eq_getElem hi]
        rfl
      rw [e, key]
      exact hB a (z :: b) (by simp) i
  · rintro δ S' ⟨rfl, a, b, r, o, rfl, e, rfl, hr, hv, hb⟩
    have ha : a = [] := by
      have := congrArg List.length e
      simp at this
      exact List.eq_nil_of_length_eq_zero this.symm
    subst ha
    simp! only
    exact h r hr hv hb
  · exact ⟨rfl, p, [], [], _, by simp, rfl, rfl, rfl, fun k => by cases k <;> rfl, fun x m => nomatch m⟩
theorem rng_int {lo : Int} {n : Nat} : ∀ d ∈ rngD lo n, ∃ i, d = D.int i := by
  intro d m
  rw [rng_mapL] at m
  obtain ⟨i, _, e⟩ := List.mem_map.mp m
  exact ⟨_, e.symm⟩
theorem sl_l {m : Bool} {S : Sto} {ds : List D} {lo hi : Option Int} {P : EQ} : slD m (.lst ds) lo hi S P = nwL m (cutD ds lo hi) S P := lsx_sl (x := .lst ds) rfl
theorem frz_at {S : Sto} {p : Addr} {ds : List D} {P : EQ} (h : S p = some (.lst ds)) (q : P (.lst ds) (sdel S p)) : frzD (.ref p) S P := by
  show frzC p (S p) _ P
  rw [h]
  exact q
theorem lsx_at {S : Sto} {p : Addr} {ds : List D} (h : S p = some (.lst ds)) : lsx S (.ref p) = some ds := by
  show cL (S p) = _
  rw [h]
  rfl
theorem last_pn {cs : List Rat} {j : Nat} (h : cs.length = j + 1) : atI cs (-1) = some (pn cs j) := by
  have hn : cs ≠ [] := fun e => by rw [e] at h; cases h
  rw [at_last hn, List.getLast?_eq_getElem?, h]
  show cs[j]? = _
  unfold pn
  rw [List.getD_eq_getElem?_getD, List.getElem?_eq_getElem (by omega)]
  rfl
theorem last_app {α : Type} {xs : List α} {x : α} : atI (xs ++ [x]) (-1) = some x := by
  rw [at_last (by simp)]
  simp
theorem use_app2 {S : Sto} {p : Addr} {ds : List D} {y : D} {Q : EQ} (h : S p = some (.lst ds)) (hl : ds.length < sizeLine) (q : Q .non (supd S p (.lst (ds ++ [y])))) : @mtS .append (.ref p) [y] S ⟨Q⟩ := by
  refine ⟨p, ds, y, rfl, rfl, h, hl, q⟩
abbrev spBelow9 : Spec := spQ2 3900 fun x y => .bl (decide (x < y))
theorem q2_below {S : Sto} {x y : Rat} {Q : EQ} {U : Ex → Sto → Prop} : @callS spBelow9 [frq x, frq y] S U ⟨Q⟩ = ((RB 3900 x ∧ RB 3900 y) ∧ Q (.bl (decide (x < y))) S) := q2_eq
def b_is_below : Sms := .cons (.ret (.cmp .lt (.bin .mul false (.ix (.v 0) (.cI 0)) (.ix (.v 1) (.cI 1))) (.bin .mul false (.ix (.v 1) (.cI 0)) (.ix (.v 0) (.cI 1))))) (.nil)
theorem t_is_below : Keeps 2 b_is_below spBelow9 2 := by
  rintro ds S Q U ⟨x, y, rfl, ⟨hx, hy⟩, h⟩
  refine ⟨rfl, ?_⟩
  simp! only [b_is_below]
  rw [lt_mul]
  exact ⟨hx.n.cmul hy.d (by decide), hy.n.cmul hx.d (by decide), h⟩
abbrev sp_is_below := spBelow9
abbrev sp__law_below := spBelow9
abbrev sp__law_minus : Spec := spQ2 3900 fun x y => frq (x - y)
theorem q2_lminus {S : Sto} {x y : Rat} {Q : EQ} {U : Ex → Sto → Prop} : @callS sp__law_minus [frq x, frq y] S U ⟨Q⟩ = ((RB 3900 x ∧ RB 3900 y) ∧ Q (frq (x - y)) S) := q2_eq
def outR (cs : List Rat) (ps : List (List Rat)) (x : Rat) : Bool := decide (x < pn cs 0) || decide (pn cs ps.length < x)
theorem last_row {cs : List Rat} {ps : List (List Rat)} (h : Rw cs ps) : atI cs (-1) = some (pn cs ps.length) := last_pn h.ln
theorem first_row {cs : List Rat} {ps : List (List Rat)} (h : Rw cs ps) : atI cs 0 = some (pn cs 0) := at_pn (i := 0) (by have := h.ln; omega)
abbrev spOut : Spec := fun ds S Q _ => ∃ (cs : List Rat) (ps : List (List Rat)) (x : Rat), ds = [rowD cs ps, frq x] ∧ (Rw cs ps ∧ RL 3900 cs ∧ RB 3900 x) ∧ Q (.bl (outR cs ps x)) S
theorem use_out {S : Sto} {cs : List Rat} {ps : List (List Rat)} {x : Rat} {Q : EQ} {U : Ex → Sto → Prop} (h : Rw cs ps ∧ RL 3900 cs ∧ RB 3900 x) (q : Q (.bl (outR cs ps x)) S) : @callS spOut [rowD cs ps, frq x] S U ⟨Q⟩ := ⟨cs, ps, x, rfl, h, q⟩
def b_is_outside : Sms := .cons (.ret (.or_ (.cons (.call "is_below" sp_is_below (.cons (.v 1) (.cons (.ix (.ix (.v 0) (.cI 0)) (.cI 0)) (.nil)))) (.cons (.call "is_below" sp_is_below (.cons (.ix (.ix (.v 0) (.cI 0)) (.neg (.cI 1))) (.cons (.v 1) (.nil)))) (.nil))))) (.nil)
theorem t_is_outside : Keeps 2 b_is_outside spOut 2 := by
  rintro ds S Q U ⟨cs, ps, x, rfl, ⟨hr, hc, hx⟩, h⟩
  refine ⟨rfl, ?_⟩
  have e0 := first_row hr
  have e1 := last_row hr
  have r : ∀ k, RB 3900 (pn cs k) := hc.pn (by decide)
  have r0 := r 0
  have r1 := r ps.length
  simp! only [b_is_outside, rowD, e0, e1, ↓q2_below, r0, r1, hx]
  exact h
abbrev sp_is_outside := spOut
abbrev sp__law_is_out := spOut
abbrev xNoPlace (x : Rat) : Ex := ⟨"NoPlace", [("place", frq x)]⟩
abbrev sp_ask_place : Spec := fun ds S Q U => ∃ (cs : List Rat) (ps : List (List Rat)) (x : Rat), ds = [rowD cs ps, frq x] ∧ (Rw cs ps ∧ RL 3900 cs ∧ RB 3900 x) ∧ (if outR cs ps x = true then U (xNoPlace x) S else Q .non S)
theorem use_ask_place {S : Sto} {cs : List Rat} {ps : List (List Rat)} {x : Rat} {Q : EQ} {U : Ex → Sto → Prop} (h : Rw cs ps ∧ RL 3900 cs ∧ RB 3900 x) (q : if outR cs ps x = true then U (xNoPlace x) S else Q .non S) : @callS sp_ask_place [rowD cs ps, frq x] S U ⟨Q⟩ := ⟨cs, ps, x, rfl, h, q⟩
def b_ask_place : Sms := .cons (.ite (.call "is_outside" sp_is_outside (.cons (.v 0) (.cons (.v 1) (.nil)))) (.cons (.raise_ "NoPlace" (.cons (.v 1) (.nil))) (.nil)) (.nil)) (.nil)
theorem t_ask_place : Keeps 2 b_ask_place sp_ask_place 2 := by
  rintro ds S Q U ⟨cs, ps, x, rfl, hh, h⟩
  refine ⟨rfl, ?_⟩
  simp! only [b_ask_place]
  refine use_out hh ?_
  simp! only
  exact h
theorem wh_to {t : WpT} {body : WpS} {P : Pst} {st : Nat → Dts} {S : Sto} {k : Nat} (c : Nat → Bool) (ht : ∀ j T, j ≤ k → T (c j) S → t (st j) S T)
    (hb : ∀ j rt bk ct (nx : Dts → Sto → Prop), j < k → nx (st (j + 1)) S → body ⟨nx, rt, bk, ct⟩ (st j) S) (c1 : ∀ j, j < k → c j = true) (c0 : c k = false) (h : P.nx (st k) S) : ∃ n, wWh t body P n (st 0) S := by
  have go : ∀ d j, j + d = k → ∃ n, wWh t body P n (st j) S := by
    intro d
    induction d with
    | zero =>
      intro j e
      rw [Nat.add_zero] at e
      subst e
      refine ⟨1, ht j _ (Nat.le_refl _) ?_⟩
      rw [c0, if_neg Bool.false_ne_true]
      exact h
    | succ d ih =>
      intro j e
      obtain ⟨n, hn⟩ := ih (j + 1) (by omega)
      refine ⟨n + 1, ht j _ (by omega) ?_⟩
      rw [c1 j (by omega), if_pos rfl]
      exact hb j _ _ _ _ (by omega) hn
  exact go k 0 (by omega)
theorem at_cut {cs : List Rat} {ps : List (List Rat)} (h : Rw cs ps) {k : Nat} (hk : k ≤ ps.length) : atI cs (k : Int) = some (pn cs k) := at_pn (by have := h.ln; omega)
theorem at_cut1 {cs : List Rat} {ps : List (List Rat)} (h : Rw cs ps) {k : Nat} (hk : k < ps.length) : atI cs ((k : Int) + 1) = some (pn cs (k + 1)) := at_cut h (k := k + 1) (by omega)
abbrev sp_value_at : Spec := fun ds S Q U => ∃ (cs : List Rat) (ps : List (List Rat)) (x : Rat) (k : Nat), ds = [rowD cs ps, frq x] ∧ (Rw cs ps ∧ RL 60 cs ∧ RB 60 x ∧ (∀ p ∈ ps, RL 300 p)) ∧
  (outR cs ps x = false → k < ps.length ∧ x ≤ pn cs (k + 1) ∧ ∀ j, j < k → pn cs (j + 1) < x) ∧ (if outR cs ps x = true then U (xNoPlace x) S else Q (frq (ev (pg ps k) (x - pn cs k))) S)
theorem use_value_at {S : Sto} {cs : List Rat} {ps : List (List Rat)} {x : Rat} {Q : EQ} {U : Ex → Sto → Prop} (k : Nat) (h : Rw cs ps ∧ RL 60 cs ∧ RB 60 x ∧ (∀ p ∈ ps, RL 300 p))
    (hk : outR cs ps x = false → k < ps.length ∧ x ≤ pn cs (k + 1) ∧ ∀ j, j < k → pn cs (j + 1) < x) (q : if outR cs ps x = true then U (xNoPlace x) S else Q (frq (ev (pg ps k) (x - pn cs k))) S) : @callS sp_value_at [rowD cs ps, frq x] S U ⟨Q⟩ := ⟨cs, ps, x, k, rfl, h, hk, q⟩
theorem ixrow0 {S : Sto} {cs : List Rat} {ps : List (List Rat)} {P : EQ} : ixD (rowD cs ps) (.int 0) S P = P (.tup (cs.map frq)) S := by
  unfold rowD
  rw [ix_t, at_0]
  rfl
theorem ixrow1 {S : Sto} {cs : List Rat} {ps : List (List Rat)} {P : EQ} : ixD (rowD cs ps) (.int 1) S P = P (.tup (ps.map plD)) S := by
  unfold rowD
  rw [ix_t, at_1]
  rfl
abbrev sp_bends_by : Spec := fun ds S Q _ => ∃ (p : List Rat) (t : Rat), ds = [plD p, frq t] ∧ (RL 300 p ∧ RB 125 t ∧ p.length ≤ 4) ∧ Q (bD p t) S
theorem use_bends_by {S : Sto} {p : List Rat} {t : Rat} {Q : EQ} {U : Ex → Sto → Prop} (h : RL 300 p ∧ RB 125 t ∧ p.length ≤ 4) (q : Q (bD p t) S) : @callS sp_bends_by [plD p, frq t] S U ⟨Q⟩ := ⟨p, t, rfl, h, q⟩

theorem use_slope {S : Sto} {p : List Rat} {Q : EQ} {U : Ex → Sto → Prop} (h : RL 3000 p ∧ p.length ≤ 1000) (q : Q (plD (slP p)) S) : @callS sp_slope_of [plD p] S U ⟨Q⟩ := ⟨p, rfl, h, q⟩
def b_bends_by : Sms := .cons (.asg (.nm 2) (.lst true (.nil))) (.cons (.for_ (.nm 3) (.r1 (.gl "BENDS" c_BENDS)) (.cons (.ex (.mt .append (.v 2) (.cons (.call "value_of" sp_value_of (.cons (.v 0) (.cons (.v 1) (.nil)))) (.nil)))) (.cons (.asg (.nm 0) (.call "slope_of" sp_slope_of (.cons (.v 0) (.nil)))) (.nil)))) (.cons (.ret (.bi .tuple false (.cons (.frz (.v 2)) (.nil)))) (.nil)))
theorem t_bends_by : Keeps 4 b_bends_by sp_bends_by 2 := by
  rintro ds S Q U ⟨p, t, rfl, ⟨hp, ht, hl⟩, h⟩
  refine ⟨rfl, ?_⟩
  have l1 := slP_len (p := p)
  have l2 := slP_len (p := slP p)
  have l3 := slP_len (p := slP (slP p))
  have p1 := slP_RL hp (by decide) hl
  have p2 := slP_RL p1 (by decide) (by omega)
  have p3 := slP_RL p2 (by decide) (by omega)
  have p4 := slP_RL p3 (by decide) (by omega)
  have hr : rngD 0 (Int.toNat 4) = [.int 0, .int 1, .int 2, .int 3] := rfl
  obtain ⟨v1, v2, v3⟩ := bends4 (t := t) hl
  have v0 := ev_mv0 (t := t) p
  simp! only [b_bends_by]
  intro q hq
  refine ⟨r62_ok' (by omega), ?_⟩
  rw [hr]
  simp! only [↓for_cons, ↓for_nil]
  refine ⟨⟨q, _, rfl, supd_same⟩, ?_⟩
  refine use_value_of 300 125 ⟨hp, ht, by omega⟩ ?_
  simp! only
  refine use_app (by show 0 < sizeLine; decide) ?_
  simp! only
  refine use_slope ⟨hp.le (by decide), by omega⟩ ?_
  simp! only [↓for_cons, ↓for_nil, List.nil_append, List.cons_append]
  refine ⟨⟨q, _, rfl, supd_same⟩, ?_⟩
  refine use_value_of 303 125 ⟨p1, ht, by omega⟩ ?_
  simp! only
  refine use_app (by show 1 < sizeLine; decide) ?_
  simp! only [List.nil_append, List.cons_append]
  refine use_slope ⟨p1.le (by decide), by omega⟩ ?_
  simp! only [↓for_cons, ↓for_nil, List.nil_append, List.cons_append]
  refine ⟨⟨q, _, rfl, supd_same⟩, ?_⟩
  refine use_value_of 306 125 ⟨p2, ht, by omega⟩ ?_
  simp! only
  refine use_app (by show 2 < sizeLine; decide) ?_
  simp! only [List.nil_append, List.cons_append]
  refine use_slope ⟨p2.le (by decide), by omega⟩ ?_
  simp! only [↓for_cons, ↓for_nil, List.nil_append, List.cons_append]
  refine ⟨⟨q, _, rfl, supd_same⟩, ?_⟩
  refine use_value_of 309 125 ⟨p3, ht, by omega⟩ ?_
  simp! only
  refine use_app (by show 3 < sizeLine; decide) ?_
  simp! only [List.nil_append, List.cons_append]
  refine use_slope ⟨p3.le (by decide), by omega⟩ ?_
  simp! only [↓for_cons, ↓for_nil, List.nil_append, List.cons_append]
  rw [sdel_supd hq, v1, v2, v3, ← v0]
  exact h
theorem ixA_1 {cs : List Rat} {x : Rat} {j : Nat} (c : (decide (pn cs j < x) && !decide (pn cs (j + 1) < x)) = true) : ixA cs x (j + 1) = some j := by
  simp only [Bool.and_eq_true, decide_eq_true_eq, Bool.not_eq_true', decide_eq_false_iff_not] at c
  exact if_pos ⟨c.1, Rat.not_lt.mp c.2⟩
theorem ixA_0 {cs : List Rat} {x : Rat} {j : Nat} (c : (decide (pn cs j < x) && !decide (pn cs (j + 1) < x)) = false) : ixA cs x (j + 1) = ixA cs x j := by
  refine if_neg fun h => ?_
  rw [decide_eq_true h.1, decide_eq_false (Rat.not_lt.mpr h.2)] at c
  cases c
theorem ixB_1 {cs : List Rat} {x : Rat} {j : Nat} (c : (decide (x < pn cs (j + 1)) && !decide (x < pn cs j)) = true) : ixB cs x (j + 1) = some j := by
  simp only [Bool.and_eq_true, decide_eq_true_eq, Bool.not_eq_true', decide_eq_false_iff_not] at c
  exact if_pos ⟨Rat.not_lt.mp c.2, c.1⟩
theorem ixB_0 {cs : List Rat} {x : Rat} {j : Nat} (c : (decide (x < pn cs (j + 1)) && !decide (x < pn cs j)) = false) : ixB cs x (j + 1) = ixB cs x j := by
  refine if_neg fun h => ?_
  rw [decide_eq_true h.2, decide_eq_false (Rat.not_lt.mpr h.1)] at c
  cases c
abbrev sp_bends_at : Spec := fun ds S Q U => ∃ (cs : List Rat) (ps : List (List Rat)) (x : Rat), ds = [rowD cs ps, frq x] ∧ (Rw cs ps ∧ RL 60 cs ∧ RB 60 x ∧ (∀ p ∈ ps, RL 300 p) ∧ ps.length ≤ 100) ∧
  (if outR cs ps x = true then U (xNoPlace x) S else Q (.tup [boD cs ps x (ixA cs x ps.length), boD cs ps x (ixB cs x ps.length)]) S)
theorem use_bends_at {S : Sto} {cs : List Rat} {ps : List (List Rat)} {x : Rat} {Q : EQ} {U : Ex → Sto → Prop} (h : Rw cs ps ∧ RL 60 cs ∧ RB 60 x ∧ (∀ p ∈ ps, RL 300 p) ∧ ps.length ≤ 100)
    (q : if outR cs ps x = true then U (xNoPlace x) S else Q (.tup [boD cs ps x (ixA cs x ps.length), boD cs ps x (ixB cs x ps.length)]) S) : @callS sp_bends_at [rowD cs ps, frq x] S U ⟨Q⟩ := ⟨cs, ps, x, rfl, h, q⟩
theorem rng_go {j : Nat} {d : D} {ds : List D} {m : Nat} (h : d :: ds = rngD (j : Int) m) : ∃ m', m = m' + 1 ∧ d = .int (j : Int) ∧ ds = rngD ((j + 1 : Nat) : Int) m' := by
  cases m with
  | zero => cases h
  | succ m' =>
    rw [rng_s] at h
    injection h with h1 h2
    exact ⟨m', rfl, h1, h2⟩
theorem len_tm {α : Type} {f : α → D} {xs : List α} {S : Sto} {P : EQ} : biO .len false [.tup (xs.map f)] S P = P (.int (xs.length : Int)) S := by
  rw [len_t, List.length_map]
def b_bends_at : Sms := .cons (.ex (.call "ask_place" sp_ask_place (.cons (.v 0) (.cons (.v 1) (.nil))))) (.cons (.asg (.nm 2) (.cN)) (.cons (.asg (.nm 3) (.cN)) (.cons (.for_ (.nm 4) (.r1 (.bi .len false (.cons (.ix (.v 0) (.cI 1)) (.nil)))) (.cons (.asg (.nm 5) (.ix (.ix (.v 0) (.cI 0)) (.v 4))) (.cons (.asg (.nm 6) (.ix (.ix (.v 0) (.cI 0)) (.bin .add false (.v 4) (.cI 1)))) (.cons (.ite (.and_ (.cons (.call "is_below" sp_is_below (.cons (.v 5) (.cons (.v 1) (.nil)))) (.cons (.not_ (.call "is_below" sp_is_below (.cons (.v 6) (.cons (.v 1) (.nil))))) (.nil)))) (.cons (.asg (.nm 2) (.call "bends_by" sp_bends_by (.cons (.ix (.ix (.v 0) (.cI 1)) (.v 4)) (.cons (.call "minus_by" sp_minus_by (.cons (.v 1) (.cons (.v 5) (.nil)))) (.nil))))) (.nil)) (.nil)) (.cons (.ite (.and_ (.cons (.call "is_below" sp_is_below (.cons (.v 1) (.cons (.v 6) (.nil)))) (.cons (.not_ (.call "is_below" sp_is_below (.cons (.v 1) (.cons (.v 5) (.nil))))) (.nil)))) (.cons (.asg (.nm 3) (.call "bends_by" sp_bends_by (.cons (.ix (.ix (.v 0) (.cI 1)) (.v 4)) (.cons (.call "minus_by" sp_minus_by (.cons (.v 1) (.cons (.v 5) (.nil)))) (.nil))))) (.nil)) (.nil)) (.nil)))))) (.cons (.ret (.tup (.cons (.v 2) (.cons (.v 3) (.nil))))) (.nil)))))
theorem t_bends_at : Keeps 7 b_bends_at sp_bends_at 2 := by
  rintro ds S Q U ⟨cs, ps, x, rfl, ⟨hr, hc, hx, hp, hm⟩, h⟩
  refine ⟨rfl, ?_⟩
  simp! only [b_bends_at]
  refine use_ask_place ⟨hr, hc.le (by decide), hx.le (by decide)⟩ ?_
  split
  · rename_i e
    rw [if_pos e] at h
    exact h
  rename_i e
  rw [if_neg e] at h
  have r : ∀ k, RB 60 (pn cs k) := hc.pn (by decide)
  have r9 : ∀ k, RB 3900 (pn cs k) := fun k => (r k).le (by decide)
  have x9 : RB 3900 x := hx.le (by decide)
  simp! only [ixrow0, ixrow1, len_tm]
  rw [List.length_map]
  refine ⟨r62_ok (by omega), for_inv (fun ds δ S' => S' = S ∧ ∃ (j m : Nat) (o4 o5 o6 : Option D), ds = rngD (j : Int) m ∧ j + m = ps.length ∧ δ = [some (rowD cs ps), some (frq x), some (boD cs ps x (ixA cs x j)), some (boD cs ps x (ixB cs x j)), o4, o5, o6]) ?_ ?_ (fun _ _ _ _ => trivial) _ _ _ ?_⟩
  · rintro d ds δ S' nx hnx ⟨rfl, j, m, o4, o5, o6, e, hj, rfl⟩
    obtain ⟨m', rfl, rfl, rfl⟩ := rng_go e
    have e1 := at_cut hr (k := j) (by omega)
    have e2 := at_cut1 hr (k := j) (by omega)
    have e3 := at_pg (ps := ps) (k := j) (by omega)
    simp! only [ixrow0, ixrow1, e1, e2, e3, ↓q2_below, ↓q2_sub, r9, x9]
    have tb : RB 125 (x - pn cs j) := (hx.sub (r j)).le (by decide)
    have l4 := (hr.tr _ (pg_mem (ps := ps) (k := j) (by omega))).2
    refine iteS_fac (fun δ S2 => S2 = S' ∧ δ = [some (rowD cs ps), some (frq x), some (boD cs ps x (ixA cs x (j + 1))), some (boD cs ps x (ixB cs x j)), some (.int (j : Int)), some (frq (pn cs j)), some (frq (pn cs (j + 1)))]) ?_ ?_ ?_
    · intro c N' hN'
      refine use_bends_by ⟨hp _ (pg_mem (by omega)), tb, l4⟩ ?_
      simp! only
      refine hN' _ _ ⟨rfl, ?_⟩
      rw [ixA_1 c]
      rfl
    · intro c N' hN'
      refine hN' _ _ ⟨rfl, ?_⟩
      rw [ixA_0 c]
    rintro δ S2 ⟨rfl, rfl⟩
    simp! only [ixrow0, ixrow1, e1, e2, e3, ↓q2_below, ↓q2_sub, r9, x9]
    refine iteS_fac (fun δ S3 => S3 = S2 ∧ δ = [some (rowD cs ps), some (frq x), some (boD cs ps x (ixA cs x (j + 1))), some (boD cs ps x (ixB cs x (j + 1))), some (.int (j : Int)), some (frq (pn cs j)), some (frq (pn cs (j + 1)))]) ?_ ?_ ?_
    · intro c N' hN'
      refine use_bends_by ⟨hp _ (pg_mem (by omega)), tb, l4⟩ ?_
      simp! only
      refine hN' _ _ ⟨rfl, ?_⟩
      rw [ixB_1 c]
      rfl
    · intro c N' hN'
      refine hN' _ _ ⟨rfl, ?_⟩
      rw [ixB_0 c]
    rintro δ S3 ⟨rfl, rfl⟩
    exact hnx _ _ trivial ⟨rfl, j + 1, m', _, _, _, rfl, by omega, rfl⟩
  · rintro δ S' ⟨rfl, j, m, o4, o5, o6, e, hj, rfl⟩
    have m0 := congrArg List.length e
    rw [rng_len, List.length_nil] at m0
    have : j = ps.length := by omega
    subst this
    simp! only
    exact h
  · exact ⟨rfl, 0, ps.length, _, _, _, rfl, by omega, rfl⟩
theorem ev_RB {x y : Nat} {t : Rat} : ∀ {p : List Rat}, RL x p → RB y t → RB (1 + p.length * (x + y + 2)) (ev p t)
  | [], _, _ => RB.zero (by simp)
  | a :: p, h, g => by
    have i := ev_RB (x := x) (y := y) (p := p) (fun z m => h z (List.mem_cons_of_mem _ m)) g
    have ha : RB x a := h a List.mem_cons_self
    show RB _ (a + t * ev p t)
    refine (ha.add (g.mul i)).le ?_
    rw [List.length_cons, Nat.add_mul]
    omega
theorem ev_00 {p : List Rat} : ev p 0 = pn p 0 := by
  cases p with
  | nil => rfl
  | cons a p =>
    show a + 0 * _ = a
    grind
theorem Rw.mono {cs : List Rat} {ps : List (List Rat)} (h : Rw cs ps) {i j : Nat} (hij : i ≤ j) (hj : j ≤ ps.length) : pn cs i ≤ pn cs j := by
  induction j with
  | zero =>
    obtain rfl : i = 0 := by omega
    exact Rat.le_refl
  | succ j ih =>
    by_cases c : i = j + 1
    · rw [c]
      exact Rat.le_refl
    · have := ih (by omega) (by omega)
      have := h.up j (by omega)
      grind
theorem Rw.ltt {cs : List Rat} {ps : List (List Rat)} (h : Rw cs ps) {i j : Nat} (hij : i < j) (hj : j ≤ ps.length) : pn cs i < pn cs j := by
  have := h.mono (i := i + 1) (j := j) hij hj
  have := h.up i (by omega)
  grind
theorem pop_loop {t : WpT} {body : WpS} {P : Pst} {δ : Dts} {S : Sto} {q : Addr}
    (h0 : ∀ T : Bool → Sto → Prop, T false (supd S q (.lst [])) → t δ (supd S q (.lst [])) T)
    (h1 : ∀ (zs : List Rat) (b : Rat) (T : Bool → Sto → Prop), T (decide (b = 0)) (supd S q (.lst ((zs ++ [b]).map frq))) → t δ (supd S q (.lst ((zs ++ [b]).map frq))) T)
    (hb : ∀ (zs : List Rat) (b : Rat) rt bk ct (nx : Dts → Sto → Prop), nx δ (supd S q (.lst (zs.map frq))) → body ⟨nx, rt, bk, ct⟩ δ (supd S q (.lst ((zs ++ [b]).map frq)))) :
    ∀ (n : Nat) (ys : List Rat), ys.length = n → P.nx δ (supd S q (.lst ((trim ys).map frq))) → ∃ k, wWh t body P k δ (supd S q (.lst (ys.map frq)))
  | 0, ys, hn, h => by
    obtain rfl := List.eq_nil_of_length_eq_zero hn
    refine ⟨1, h0 _ ?_⟩
    rw [if_neg Bool.false_ne_true]
    exact h
  | n + 1, ys, hn, h => by
    obtain ⟨zs, b, rfl⟩ : ∃ zs b, ys = zs ++ [b] := ⟨ys.dropLast, ys.getLast (by intro z; subst z; cases hn), (List.dropLast_concat_getLast _).symm⟩
    have hl : zs.length = n := by
      rw [List.length_append] at hn
      exact Nat.succ.inj hn
    by_cases c : b = 0
    · subst c
      rw [trim_app0] at h
      obtain ⟨k, hk⟩ := pop_loop h0 h1 hb n zs hl h
      refine ⟨k + 1, h1 zs 0 _ ?_⟩
      rw [decide_eq_true rfl, if_pos rfl]
      exact hb zs 0 _ _ _ _ hk
    · refine ⟨1, h1 zs b _ ?_⟩
      rw [decide_eq_false c, if_neg Bool.false_ne_true]
      rw [trim_app c] at h
      exact h
theorem slr_p {m : Bool} {S : Sto} {p : List Rat} {P : EQ} : slrD m (plD p) S P = P (.tup (p.map frq).reverse) S := rfl
abbrev sp__law_value : Spec := fun ds S Q _ => ∃ (p : List Rat) (t : Rat) (x y : Nat), ds = [plD p, frq t] ∧ (RL x p ∧ RB y t ∧ 1 + (p.length + 1) * (x + y + 2) ≤ 3900) ∧ Q (frq (ev p t)) S
theorem use_law_value {S : Sto} {p : List Rat} {t : Rat} {Q : EQ} {U : Ex → Sto → Prop} (x y : Nat) (h : RL x p ∧ RB y t ∧ 1 + (p.length + 1) * (x + y + 2) ≤ 3900) (q : Q (frq (ev p t)) S) : @callS sp__law_value [plD p, frq t] S U ⟨Q⟩ := ⟨p, t, x, y, rfl, h, q⟩
def b__law_value : Sms := .cons (.asg (.nm 2) (.tup (.cons (.cI 0) (.cons (.cI 1) (.nil))))) (.cons (.for_ (.nm 3) (.val (.slr false (.v 0))) (.cons (.asg (.nm 2) (.call "_law_plus" sp__law_plus (.cons (.call "_law_times" sp__law_times (.cons (.v 2) (.cons (.v 1) (.nil)))) (.cons (.v 3) (.nil))))) (.nil))) (.cons (.ret (.v 2)) (.nil)))
theorem t_law_value : Keeps 4 b__law_value sp__law_value 2 := by
  rintro ds S Q U ⟨p, t, x, y, rfl, ⟨hp, ht, hB⟩, h⟩
  refine ⟨rfl, ?_⟩
  simp! only [b__law_value, same0, ↓slr_p, ↓itp_t]
  refine for_inv (fun ds δ S' => S' = S ∧ ∃ (a b : List Rat) (o : Option D), p = a ++ b ∧ ds = ((a.map frq).reverse) ∧ δ = [some (plD p), some (frq t), some (frq (ev b t)), o] ∧ RB (1 + b.length * (x + y + 2)) (ev b t)) ?_ ?_ (fun _ _ _ _ => trivial) _ _ _ ?_
  · rintro d ds δ S' nx hnx ⟨rfl, a, b, o, rfl, e, rfl, hb⟩
    obtain ⟨a, z, rfl⟩ : ∃ a' z, a = a' ++ [z] := by
      cases a with
      | nil => cases e
      | cons u v => exact ⟨(u :: v).dropLast, (u :: v).getLast (by simp), (List.dropLast_concat_getLast _).symm⟩
    rw [List.map_append, List.reverse_append] at e
    cases e
    have hz : RB x z := hp z (by simp)
    have hbl : 1 + b.length * (x + y + 2) + (x + y + 2) ≤ 3900 := by
      refine Nat.le_trans ?_ hB
      rw [Nat.add_assoc]
      refine Nat.add_le_add_left ?_ 1
      have : b.length * (x + y + 2) + 1 * (x + y + 2) ≤ (((a ++ [z]) ++ b).length + 1) * (x + y + 2) := by
        rw [← Nat.add_mul]
        refine Nat.mul_le_mul_right _ ?_
        simp
        omega
      omega
    simp! only [↓q2_lmul, ↓q2_ladd]
    refine ⟨⟨hb.le (by omega), ht.le (by omega)⟩, ⟨(hb.mul ht).le (by omega), hz.le (by omega)⟩, ?_⟩
    have e1 : ev b t * t + z = ev (z :: b) t := by
      show _ = z + t * ev b t
      grind
    have hb2 : RB (1 + (z :: b).length * (x + y + 2)) (ev (z :: b) t) := by
      rw [← e1]
      refine ((hb.mul ht).add hz).le ?_
      rw [List.length_cons, Nat.add_mul]
      omega
    rw [e1]
    exact hnx _ _ trivial ⟨rfl, a, z :: b, _, by simp, rfl, rfl, hb2⟩
  · rintro δ S' ⟨rfl, a, b, o, rfl, e, rfl, hb⟩
    have ha : a = [] := by
      have := congrArg List.length e
      simp at this
      exact List.eq_nil_of_length_eq_zero this.symm
    subst ha
    simp! only
    exact h
  · exact ⟨rfl, p, [], _, by simp, rfl, rfl, RB.zero (by simp)⟩
/-! tasks, right by kind -/
inductive Wi where
  | free
  | held (q : Rat)
  | near (q w : Rat)
  | least (q : Rat)
  | most (q : Rat)
  deriving DecidableEq, Inhabited
def Wi.wd : Wi → Str
  | .free => "free"
  | .held _ => "held"
  | .near _ _ => "near"
  | .least _ => "least"
  | .most _ => "most"
def Wi.ns : Wi → List Rat
  | .free => []
  | .held q => [q]
  | .near q w => [q, w]
  | .least q => [q]
  | .most q => [q]
def wiD (w : Wi) : D := .tup (.str w.wd :: w.ns.map frq)
def wiP (w : Wi) : PyData := .tuple (.str w.wd :: w.ns.map frP)
structure Pt where
  x : Rat
  v : Wi
  s : Wi
  deriving Inhabited
def ptD (p : Pt) : D := .tup [frq p.x, wiD p.v, wiD p.s]
def ptP (p : Pt) : PyData := .tuple [frP p.x, wiP p.v, wiP p.s]
structure Tk where
  so : Int
  ar : Option Rat
  pr : Rat
  ps : List Pt
def arD : Option Rat → D
  | none => .non
  | some r => frq r
def arP : Option Rat → PyData
  | none => .none
  | some r => frP r
def tkD (t : Tk) : D := .tup [.int t.so, arD t.ar, frq t.pr, .tup (t.ps.map ptD)]
def tkP (t : Tk) : PyData := .tuple [.int t.so, arP t.ar, frP t.pr, .tuple (t.ps.map ptP)]
theorem Wi.len (w : Wi) : w.ns.length ≤ 2 := by cases w <;> exact Nat.le_of_ble_eq_true rfl
/-- kinds and sizes -/
structure WiS (b : Nat) (w : Wi) : Prop where
  n : RL b w.ns
def Wi.vok : Wi → Prop
  | .near _ w => 0 < w
  | _ => True
def Wi.sok : Wi → Prop
  | .near _ _ => False
  | _ => True
structure PtS (b : Nat) (so : Int) (p : Pt) : Prop where
  x : RB b p.x
  v : RL b p.v.ns
  s : RL b p.s.ns
  vk : p.v.vok
  sk : p.s.sok
  fr : so = 3 ∨ p.s = .free
structure TkS (b : Nat) (t : Tk) : Prop where
  so : t.so = 1 ∨ t.so = 3
  ar : ∀ r, t.ar = some r → RB b r
  pr : RB b t.pr
  p0 : 0 < t.pr
  n2 : 2 ≤ t.ps.length
  n6 : t.ps.length ≤ 6
  ps : ∀ p ∈ t.ps, PtS b t.so p
/-! shown -/
theorem Sh.wd (S : Sto) (w : Wi) : Sh S (.str w.wd) (.str w.wd) 1 20 := by
  have g : ∀ z : Str, ((PyData.str z).canLay0 && (z.cps.toList.all (fun c => decide (c < 16 ^ 8)) && decide (z.cps.size ≤ 20))) = true → Sh S (.str z) (.str z) 1 20 := fun z h => (Sh.str z h).le (Nat.zero_le _) (Nat.le_refl _)
  cases w
  · exact g "free" (by decide +kernel)
  · exact g "held" (by decide +kernel)
  · exact g "near" (by decide +kernel)
  · exact g "least" (by decide +kernel)
  · exact g "most" (by decide +kernel)
theorem Sh.wi {S : Sto} {w : Wi} (h : RL 1920 w.ns) : Sh S (wiD w) (wiP w) 3 60 := by
  have a := ShL.map (S := S) (f := GB.frq) (g := frP) (k := 1) (b := 2) w.ns fun q m => Sh.frq (h q m)
  have l := w.len
  exact ((ShL.cons ((Sh.wd S w).le (k' := 1) (by decide) (Nat.le_refl _)) a).tup).le (by decide) (by omega)
theorem Sh.pt {S : Sto} {b : Nat} {so : Int} {p : Pt} (hb : b ≤ 1920) (h : PtS b so p) : Sh S (ptD p) (ptP p) 4 200 :=
  ((ShL.cons ((Sh.frq (h.x.le hb)).le (k' := 3) (by decide) (Nat.le_refl _)) (ShL.cons ((Sh.wi (S := S) (h.v.le hb))) (ShL.cons (Sh.wi (S := S) (h.s.le hb)) (ShL.nil.le (Nat.zero_le _) (Nat.le_refl _))))).tup).le (by decide) (by decide)
theorem Sh.ar {S : Sto} {b : Nat} {o : Option Rat} (hb : b ≤ 1920) (h : ∀ r, o = some r → RB b r) : Sh S (arD o) (arP o) 1 2 := by
  cases o with
  | none => exact Sh.non.le (Nat.zero_le _) (Nat.zero_le _)
  | some r => exact Sh.frq ((h r rfl).le hb)
theorem Sh.tk {S : Sto} {b : Nat} {t : Tk} (hb : b ≤ 1920) (h : TkS b t) : Sh S (tkD t) (tkP t) 6 2000 := by
  have a := (ShL.map (S := S) (f := ptD) (g := ptP) (k := 4) (b := 200) t.ps fun p m => Sh.pt hb (h.ps p m)).tup
  have n6 := h.n6
  have so : Sh S (.int t.so) (.int t.so) 0 0 := Sh.int (by
    rcases h.so with e | e <;> rw [e]
    · exact Bt.lit (by decide)
    · exact Bt.lit (by decide))
  exact ((ShL.cons (so.le (k' := 5) (by decide) (Nat.le_refl _)) (ShL.cons ((Sh.ar hb h.ar).le (by decide) (Nat.le_refl _)) (ShL.cons ((Sh.frq (h.pr.le hb)).le (by decide) (Nat.le_refl _)) (ShL.cons (a.le (by decide) (Nat.le_refl _)) (ShL.nil.le (Nat.zero_le _) (Nat.le_refl _)))))).tup).le (by decide) (by omega)
/-! comparisons -/
theorem eqv_pls (p q : List Rat) : PyData.eqvAll (p.map frP) (q.map frP) = decide (p = q) := by
  induction p generalizing q with
  | nil =>
    cases q with
    | nil => rfl
    | cons _ _ => rfl
  | cons a p ih =>
    cases q with
    | nil => rfl
    | cons b q =>
      show (PyData.eqv (frP a) (frP b) && PyData.eqvAll (p.map frP) (q.map frP)) = _
      rw [ih q, eqv_frP, ← Bool.decide_and]
      congr 1
      rw [List.cons.injEq]
theorem eqv_strs (x y : Str) : PyData.eqv (.str x) (.str y) = decide (x = y) := by
  by_cases c : x = y
  · subst c
    simp [PyData.eqv]
  · simp [PyData.eqv, c]
theorem wd_ns {a b : Wi} (h : a.wd = b.wd) (g : a.ns = b.ns) : a = b := by
  cases a <;> cases b <;> first
    | rfl
    | (cases g; rfl)
    | (exfalso; revert h; show ¬(_ : Str) = _; first | (show ¬("free" : Str) = "held"; decide) | (show ¬("free" : Str) = "near"; decide) | (show ¬("free" : Str) = "least"; decide) | (show ¬("free" : Str) = "most"; decide) | (show ¬("held" : Str) = "free"; decide) | (show ¬("held" : Str) = "near"; decide) | (show ¬("held" : Str) = "least"; decide) | (show ¬("held" : Str) = "most"; decide) | (show ¬("near" : Str) = "free"; decide) | (show ¬("near" : Str) = "held"; decide) | (show ¬("near" : Str) = "least"; decide) | (show ¬("near" : Str) = "most"; decide) | (show ¬("least" : Str) = "free"; decide) | (show ¬("least" : Str) = "held"; decide) | (show ¬("least" : Str) = "near"; decide) | (show ¬("least" : Str) = "most"; decide) | (show ¬("most" : Str) = "free"; decide) | (show ¬("most" : Str) = "held"; decide) | (show ¬("most" : Str) = "near"; decide) | (show ¬("most" : Str) = "least"; decide))
theorem eqv_wi (a b : Wi) : PyData.eqv (wiP a) (wiP b) = decide (a = b) := by
  show (PyData.eqv (.str a.wd) (.str b.wd) && PyData.eqvAll (a.ns.map frP) (b.ns.map frP)) = _
  rw [eqv_strs, eqv_pls, ← Bool.decide_and, decide_eq_decide]
  constructor
  · rintro ⟨x, y⟩
    exact wd_ns x y
  · rintro rfl
    exact ⟨rfl, rfl⟩
theorem Pd.wi {S : Sto} (w : Wi) : Pd S (wiD w) (wiP w) 2 := (PdL.cons (Pd.str.le (Nat.zero_le _)) (PdL.map (f := GB.frq) (g := frP) (fun _ => Pd.frq) w.ns)).tup
theorem eq_wi {a b : Wi} {S : Sto} {T : EQ} (t : T (.bl (decide (a = b))) S) : cmpD .eq (wiD a) (wiD b) S T := by
  refine Pd.eqD (neg := false) (Pd.wi a) (Pd.wi b) (by decide) (by decide) ?_
  rw [eqv_wi, Bool.false_xor]
  exact t
theorem ix_w0 {w : Wi} {S : Sto} {P : EQ} : ixD (wiD w) (.int 0) S P = P (.str w.wd) S := by
  unfold wiD
  rw [ix_t, at_0, ixS_s]
theorem len_w {w : Wi} {S : Sto} {P : EQ} : biO .len false [wiD w] S P = P (.int ((w.ns.length + 1 : Nat) : Int)) S := by
  unfold wiD
  rw [len_t, List.length_cons, List.length_map]
theorem isi_w {w : Wi} {S : Sto} {P : EQ} : isiD .tuple (wiD w) S P = P (.bl true) S := rfl
theorem isi_s {z : Str} {S : Sto} {P : EQ} : isiD .str (.str z) S P = P (.bl true) S := rfl
theorem isi_pt {p : Pt} {S : Sto} {P : EQ} : isiD .tuple (ptD p) S P = P (.bl true) S := rfl
theorem isi_tk {p : Tk} {S : Sto} {P : EQ} : isiD .tuple (tkD p) S P = P (.bl true) S := rfl
theorem ix_p0 {p : Pt} {S : Sto} {P : EQ} : ixD (ptD p) (.int 0) S P = P (frq p.x) S := by
  unfold ptD
  rw [ix_t, at_0, ixS_s]
theorem ix_p1 {p : Pt} {S : Sto} {P : EQ} : ixD (ptD p) (.int 1) S P = P (wiD p.v) S := by
  unfold ptD
  rw [ix_t, at_1, ixS_s]
theorem ix_p2 {p : Pt} {S : Sto} {P : EQ} : ixD (ptD p) (.int 2) S P = P (wiD p.s) S := by
  unfold ptD
  rw [ix_t, at_2, ixS_s]
theorem len_pt {p : Pt} {S : Sto} {P : EQ} : biO .len false [ptD p] S P = P (.int 3) S := len_t
theorem len_tk {p : Tk} {S : Sto} {P : EQ} : biO .len false [tkD p] S P = P (.int 4) S := len_t
theorem str_lit {x y : Str} {b : Bool} (h : decide (x = y) = b) : decide (x = y) = b := h
/-! the walks -/
theorem sx_fehd : decide (("free" : Str) = "held") = false := by decide
theorem sx_fenr : decide (("free" : Str) = "near") = false := by decide
theorem sx_felt : decide (("free" : Str) = "least") = false := by decide
theorem sx_femt : decide (("free" : Str) = "most") = false := by decide
theorem sx_hdfe : decide (("held" : Str) = "free") = false := by decide
theorem sx_hdnr : decide (("held" : Str) = "near") = false := by decide
theorem sx_hdlt : decide (("held" : Str) = "least") = false := by decide
theorem sx_hdmt : decide (("held" : Str) = "most") = false := by decide
theorem sx_nrfe : decide (("near" : Str) = "free") = false := by decide
theorem sx_nrhd : decide (("near" : Str) = "held") = false := by decide
theorem sx_nrlt : decide (("near" : Str) = "least") = false := by decide
theorem sx_nrmt : decide (("near" : Str) = "most") = false := by decide
theorem sx_ltfe : decide (("least" : Str) = "free") = false := by decide
theorem sx_lthd : decide (("least" : Str) = "held") = false := by decide
theorem sx_ltnr : decide (("least" : Str) = "near") = false := by decide
theorem sx_ltmt : decide (("least" : Str) = "most") = false := by decide
theorem sx_mtfe : decide (("most" : Str) = "free") = false := by decide
theorem sx_mthd : decide (("most" : Str) = "held") = false := by decide
theorem sx_mtnr : decide (("most" : Str) = "near") = false := by decide
theorem sx_mtlt : decide (("most" : Str) = "least") = false := by decide
theorem sy_fe : decide (("free" : Str) = "free") = true := by decide
theorem sy_hd : decide (("held" : Str) = "held") = true := by decide
theorem sy_nr : decide (("near" : Str) = "near") = true := by decide
theorem sy_lt : decide (("least" : Str) = "least") = true := by decide
theorem sy_mt : decide (("most" : Str) = "most") = true := by decide
/-! numbers, slopes and places drawn -/
theorem r62_1 : R62 1 := ⟨by decide, by decide⟩
abbrev sp__law_trim : Spec := fun ds S Q _ => ∃ (x : D) (xs : List Rat), ds = [x] ∧ sqx S x = some (xs.map frq) ∧ Q (plD (trim xs)) S
theorem use_law_trim {S : Sto} {x : D} {xs : List Rat} {Q : EQ} {U : Ex → Sto → Prop} (h : sqx S x = some (xs.map frq)) (q : Q (plD (trim xs)) S) : @callS sp__law_trim [x] S U ⟨Q⟩ := ⟨x, xs, rfl, h, q⟩
def b__law_trim : Sms := .cons (.asg (.nm 1) (.bi .list true (.cons (.v 0) (.nil)))) (.cons (.wh (.and_ (.cons (.cmp .ne (.v 1) (.lst false (.nil))) (.cons (.cmp .eq (.ix (.ix (.v 1) (.neg (.cI 1))) (.cI 0)) (.cI 0)) (.nil)))) (.cons (.ex (.mt .pop (.v 1) (.nil))) (.nil))) (.cons (.ret (.bi .tuple false (.cons (.frz (.v 1)) (.nil)))) (.nil)))
theorem t_law_trim : Keeps 2 b__law_trim sp__law_trim 1 := by
  rintro ds S Q U ⟨x, xs, rfl, hx, h⟩
  refine ⟨rfl, ?_⟩
  simp! only [b__law_trim]
  refine ⟨_, hx, fun q hq => ?_⟩
  simp! only
  refine pop_loop ?_ ?_ ?_ xs.length xs rfl ?_
  · intro T hT
    simp! only
    refine ne_nilQ (xs := []) (by show cL _ = _; rw [supd_same]; rfl) ?_
    simp! only [List.isEmpty_nil]
    exact hT
  · intro zs b T hT
    have hlast : atI ((zs ++ [b]).map frq) (-1) = some (frq b) := by
      rw [map_at, at_last (by simp)]
      simp
    have hcell : (supd S q (.lst ((zs ++ [b]).map frq))) q = some (.lst ((zs ++ [b]).map frq)) := supd_same
    have e : (zs ++ [b]).isEmpty = false := by simp
    simp! only
    refine ne_nilQ (xs := zs ++ [b]) (by show cL _ = _; rw [supd_same]; rfl) ?_
    simp! only [e, at_ref hcell, hlast]
    have e2 : decide (b.num = 0) = decide (b = 0) := by rw [decide_eq_decide]; exact Rat.num_eq_zero
    rw [e2]
    exact hT
  · intro zs b rt bk ct nx hn
    simp! only
    refine ⟨⟨q, _, rfl, supd_same⟩, q, _, frq b, rfl, rfl, supd_same, ?_, ?_⟩
    · rw [List.length_map, List.getElem?_map, List.length_append]
      simp
    · have e : ((zs ++ [b]).map frq).dropLast = zs.map frq := by simp
      rw [e, supd_supd]
      exact hn
  · simp! only
    rw [sdel_supd hq]
    exact h
def slU (p : List Rat) : List Rat := (List.range (p.length - 1)).map fun i : Nat => ((i : Rat) + 1) * pn p (i + 1)
abbrev sp__law_slope : Spec := fun ds S Q _ => ∃ (p : List Rat), ds = [plD p] ∧ (RL 1000 p ∧ p.length ≤ 10) ∧ Q (plD (slU p)) S
theorem use_law_slope {S : Sto} {p : List Rat} {Q : EQ} {U : Ex → Sto → Prop} (h : RL 1000 p ∧ p.length ≤ 10) (q : Q (plD (slU p)) S) : @callS sp__law_slope [plD p] S U ⟨Q⟩ := ⟨p, rfl, h, q⟩
def b__law_slope : Sms := .cons (.ret (.bi .tuple false (.cons (.lc false (.call "_law_times" sp__law_times (.cons (.tup (.cons (.v 1) (.cons (.cI 1) (.nil)))) (.cons (.ix (.v 0) (.v 1)) (.nil)))) (.nm 1) (.r2 (.cI 1) (.bi .len false (.cons (.v 0) (.nil)))) (.nil)) (.nil)))) (.nil)
theorem t_law_slope : Keeps 2 b__law_slope sp__law_slope 1 := by
  rintro ds S Q U ⟨p, rfl, ⟨hp, hl⟩, h⟩
  refine ⟨rfl, ?_⟩
  simp! only [b__law_slope, len_p]
  refine ⟨⟨r62_1, r62_ok (by omega)⟩, ?_⟩
  have e : ((p.length : Int) - 1).toNat = p.length - 1 := by omega
  rw [e, rng_mapL]
  refine lc_pure (g := fun i : Nat => frq (((i : Rat) + 1) * pn p (i + 1))) trivial _ (by rw [List.length_range]; exact few_ok (by omega)) ?_ ?_
  · intro i hi R hR
    have hi := List.mem_range.mp hi
    have e1 : (1 : Int) + (i : Int) = ((i + 1 : Nat) : Int) := by omega
    have hat : atI p ((i + 1 : Nat) : Int) = some (pn p (i + 1)) := at_pn (by omega)
    have fr : D.tup [.int ((i + 1 : Nat) : Int), .int 1] = frq ((i : Rat) + 1) := by
      have : (((i + 1 : Nat) : Int) : Rat) = (i : Rat) + 1 := by
        rw [Rat.intCast_natCast, Rat.natCast_add]
        rfl
      rw [← this]
      rfl
    have rb : RB 20 ((i : Rat) + 1) := by
      have : (((i + 1 : Nat) : Int) : Rat) = (i : Rat) + 1 := by
        rw [Rat.intCast_natCast, Rat.natCast_add]
        rfl
      rw [← this]
      exact ⟨by show (((i + 1 : Nat) : Int)).natAbs < 2 ^ 20; omega, show Bt 20 1 from Bt.lit (by decide)⟩
    simp! only [e1, ix_p, hat, fr, ↓q2_lmul]
    exact ⟨⟨rb.le (by decide), (hp.pn (by decide) _).le (by decide)⟩, hR⟩
  · simp! only
    unfold slU plD at h
    rw [List.map_map] at h
    exact h
theorem slU_len {p : List Rat} : (slU p).length = p.length - 1 := by
  unfold slU
  rw [List.length_map, List.length_range]
theorem slU_RL {b : Nat} {p : List Rat} (h : RL b p) (hb : 1 ≤ b) (hl : p.length ≤ 4) : RL (b + 3) (slU p) := by
  intro x m
  obtain ⟨i, hi, rfl⟩ := List.mem_map.mp m
  have i4 := List.mem_range.mp hi
  have : RB 3 ((i : Rat) + 1) := by
    have : i = 0 ∨ i = 1 ∨ i = 2 := by omega
    rcases this with rfl | rfl | rfl <;> exact RB.lit (by decide +kernel)
  rw [Nat.add_comm]
  exact RB.mul this (h.pn hb _)
theorem slU_pn {p : List Rat} {k : Nat} : pn (slU p) k = pn (slP p) k := (trim_pn _ _).symm
theorem mid_part {a d : Int} (a0 : -30 ≤ a) (a1 : a ≤ 30) (d0 : d = 1 ∨ d = 2 ∨ d = 6) : Ig 6 (Rat.divInt a d) ∧ Ab 30 (Rat.divInt a d) := by
  refine ⟨?_, (divInt_Ab (T := 30) a0 a1 (by omega))⟩
  rcases d0 with rfl | rfl | rfl
  · exact divInt_Ig 6 (by decide) (by decide)
  · exact divInt_Ig 3 (by decide) (by decide)
  · exact divInt_Ig 1 (by decide) (by decide)
abbrev sp__law_number : Spec := fun ds S Q _ => ∃ (f : Addr) (n : Nat), ds = [.ref f] ∧ (Feed n S f ∧ n + 2 < nMost) ∧ ∀ (x : Rat) (S' : Sto), Ig 6 x ∧ Ab 30 x → Adv f n 2 S S' → Q (frq x) S'
theorem use_number {S : Sto} {f : Addr} {n : Nat} {Q : EQ} {U : Ex → Sto → Prop} (h : Feed n S f ∧ n + 2 < nMost) (q : ∀ (x : Rat) (S' : Sto), Ig 6 x ∧ Ab 30 x → Adv f n 2 S S' → Q (frq x) S') : @callS sp__law_number [.ref f] S U ⟨Q⟩ := ⟨f, n, rfl, h, q⟩
def b__law_number : Sms := .cons (.ret (.call "_law_low" sp__law_low (.cons (.bin .sub false (.call "_law_draw" sp__law_draw (.cons (.v 0) (.cons (.cI 61) (.nil)))) (.cI 30)) (.cons (.ix (.lst false (.cons (.cI 1) (.cons (.cI 1) (.cons (.cI 2) (.cons (.cI 6) (.nil)))))) (.call "_law_draw" sp__law_draw (.cons (.v 0) (.cons (.cI 4) (.nil))))) (.nil))))) (.nil)
theorem t_law_number : Keeps 1 b__law_number sp__law_number 1 := by
  rintro ds S Q U ⟨f, n, rfl, ⟨hF, hn⟩, h⟩
  refine ⟨rfl, ?_⟩
  simp! only [b__law_number]
  refine use_draw hF (by omega) (by decide) (Bt.lit (by decide)) fun a S1 a0 a1 A1 => ?_
  simp! only
  refine use_draw A1.fd (by omega) (by decide) (Bt.lit (by decide)) fun b S2 b0 b1 A2 => ?_
  obtain ⟨d, hd, d1⟩ : ∃ d : Int, atI [D.int 1, .int 1, .int 2, .int 6] b = some (.int d) ∧ (d = 1 ∨ d = 2 ∨ d = 6) := by
    have : b = 0 ∨ b = 1 ∨ b = 2 ∨ b = 3 := by omega
    rcases this with rfl | rfl | rfl | rfl
    · exact ⟨_, rfl, .inl rfl⟩
    · exact ⟨_, rfl, .inl rfl⟩
    · exact ⟨_, rfl, .inr (.inl rfl)⟩
    · exact ⟨_, rfl, .inr (.inr rfl)⟩
  simp! only [hd, ↓low_eq]
  have x1 : Bt 10 (a - 30) := by show (a - 30).natAbs < 1024; omega
  have x2 : Bt 10 d := by show d.natAbs < 1024; omega
  exact ⟨⟨by omega, x1.le (by decide), x2.le (by decide)⟩, h _ _ (mid_part (by omega) (by omega) d1) (A1.trans A2)⟩
theorem Rw.ixs {cs : List Rat} {ps : List (List Rat)} (h : Rw cs ps) {k : Nat} (h1 : 1 ≤ k) (h2 : k < ps.length) : ixA cs (pn cs k) ps.length = some (k - 1) ∧ ixB cs (pn cs k) ps.length = some k := by
  constructor
  · have go : ∀ m, k ≤ m → m ≤ ps.length → ixA cs (pn cs k) m = some (k - 1) := by
      intro m
      induction m with
      | zero => intro a _; omega
      | succ m ih =>
        intro a b
        by_cases c : k = m + 1
        · subst c
          have := h.up m (by omega)
          show (if pn cs m < pn cs (m + 1) ∧ pn cs (m + 1) ≤ pn cs (m + 1) then some m else _) = some (m + 1 - 1)
          rw [if_pos ⟨this, Rat.le_refl⟩]
          rfl
        · have i := ih (by omega) (by omega)
          have l := h.le' (i := k) (j := m) (by omega) (by omega)
          show (if pn cs m < pn cs k ∧ pn cs k ≤ pn cs (m + 1) then some m else ixA cs (pn cs k) m) = _
          rw [if_neg (fun z => absurd z.1 (Rat.not_lt.mpr l)), i]
    exact go _ (by omega) (Nat.le_refl _)
  · have go : ∀ m, k < m → m ≤ ps.length → ixB cs (pn cs k) m = some k := by
      intro m
      induction m with
      | zero => intro a _; omega
      | succ m ih =>
        intro a b
        by_cases c : k = m
        · subst c
          have := h.up k (by omega)
          show (if pn cs k ≤ pn cs k ∧ pn cs k < pn cs (k + 1) then some k else _) = some k
          rw [if_pos ⟨Rat.le_refl, this⟩]
        · have i := ih (by omega) (by omega)
          have l := h.lt' (i := k) (j := m) (by omega) (by omega)
          show (if pn cs m ≤ pn cs k ∧ pn cs k < pn cs (m + 1) then some m else ixB cs (pn cs k) m) = _
          rw [if_neg (fun z => absurd z.1 (Rat.not_le.mpr l)), i]
    exact go _ h2 (Nat.le_refl _)
/-- how many of slope, slope's slope and its slope are alike -/
def alk (p q : List Rat) (t : Rat) : Nat := if mvN p t 1 = mvN q 0 1 then (if mvN p t 2 = mvN q 0 2 then (if mvN p t 3 = mvN q 0 3 then 3 else 2) else 1) else 0
theorem alk_0 {f g : List Rat} {t : Rat} : decide (0 < alk f g t) = decide (mvN f t 1 = mvN g 0 1) := by
  unfold alk
  split
  · rename_i h
    rw [decide_eq_true h]
    split
    · split <;> rfl
    · rfl
  · rename_i h
    rw [decide_eq_false h]
    rfl
theorem alk_1 {f g : List Rat} {t : Rat} (h1 : 1 ≤ alk f g t) : decide (1 < alk f g t) = decide (mvN f t 2 = mvN g 0 2) := by
  unfold alk at h1 ⊢
  split at h1
  · rename_i h
    rw [if_pos h]
    split
    · rename_i h2
      rw [decide_eq_true h2]
      split <;> rfl
    · rename_i h2
      rw [decide_eq_false h2]
      rfl
  · omega
theorem alk_2 {f g : List Rat} {t : Rat} (h1 : 2 ≤ alk f g t) : decide (2 < alk f g t) = decide (mvN f t 3 = mvN g 0 3) := by
  unfold alk at h1 ⊢
  split at h1
  · rename_i h
    rw [if_pos h]
    split at h1
    · rename_i h2
      rw [if_pos h2]
      split
      · rename_i h3
        rw [decide_eq_true h3]
        rfl
      · rename_i h3
        rw [decide_eq_false h3]
        rfl
    · omega
  · omega
def smR (cs : List Rat) (ps : List (List Rat)) (k : Nat) : Nat := alk (pg ps (k - 1)) (pg ps k) (pn cs k - pn cs (k - 1))
theorem outR_cut {cs : List Rat} {ps : List (List Rat)} (h : Rw cs ps) {k : Nat} (hk : k ≤ ps.length) : outR cs ps (pn cs k) = false := by
  have a := h.le' (i := 0) (j := k) (by omega) hk
  have b := h.le' (i := k) (j := ps.length) hk (Nat.le_refl _)
  unfold outR
  rw [decide_eq_false (Rat.not_lt.mpr a), decide_eq_false (Rat.not_lt.mpr b)]
  rfl
abbrev xNoCut (k : Int) : Ex := ⟨"NoCut", [("number", .int k)]⟩
abbrev sp_smooth_at : Spec := fun ds S Q U => ∃ (cs : List Rat) (ps : List (List Rat)) (k : Int), ds = [rowD cs ps, .int k] ∧ (Rw cs ps ∧ RL 60 cs ∧ (∀ p ∈ ps, RL 300 p) ∧ ps.length ≤ 100) ∧
  (if 1 ≤ k ∧ k < ps.length then Q (.int (smR cs ps k.toNat : Nat)) S else U (xNoCut k) S)
theorem use_smooth_at {S : Sto} {cs : List Rat} {ps : List (List Rat)} {k : Int} {Q : EQ} {U : Ex → Sto → Prop} (h : Rw cs ps ∧ RL 60 cs ∧ (∀ p ∈ ps, RL 300 p) ∧ ps.length ≤ 100)
    (q : if 1 ≤ k ∧ k < ps.length then Q (.int (smR cs ps k.toNat : Nat)) S else U (xNoCut k) S) : @callS sp_smooth_at [rowD cs ps, .int k] S U ⟨Q⟩ := ⟨cs, ps, k, rfl, h, q⟩
def b_smooth_at : Sms := .cons (.ite (.or_ (.cons (.cmp .lt (.v 1) (.cI 1)) (.cons (.cmp .gt (.v 1) (.bin .sub false (.bi .len false (.cons (.ix (.v 0) (.cI 0)) (.nil))) (.cI 2))) (.nil)))) (.cons (.raise_ "NoCut" (.cons (.v 1) (.nil))) (.nil)) (.nil)) (.cons (.asg (.tp (.cons (.nm 3) (.cons (.nm 4) (.nil)))) (.call "bends_at" sp_bends_at (.cons (.v 0) (.cons (.ix (.ix (.v 0) (.cI 0)) (.v 1)) (.nil))))) (.cons (.asg (.nm 2) (.cI 0)) (.cons (.wh (.and_ (.cons (.cmp .lt (.v 2) (.cI 3)) (.cons (.cmp .eq (.ix (.v 3) (.bin .add false (.v 2) (.cI 1))) (.ix (.v 4) (.bin .add false (.v 2) (.cI 1)))) (.nil)))) (.cons (.asg (.nm 2) (.bin .add false (.v 2) (.cI 1))) (.nil))) (.cons (.ret (.v 2)) (.nil)))))
theorem t_smooth_at : Keeps 5 b_smooth_at sp_smooth_at 2 := by
  rintro ds S Q U ⟨cs, ps, k, rfl, ⟨hr, hc, hp, hm⟩, h⟩
  refine ⟨rfl, ?_⟩
  have ln := hr.ln
  simp! only [b_smooth_at, ixrow0, ixrow1, len_tm]
  rw [List.length_map]
  by_cases c : 1 ≤ k ∧ k < ps.length
  · rw [if_pos c] at h
    rw [if_neg (by omega)]
    obtain ⟨m, rfl⟩ : ∃ m : Nat, k = (m : Int) := ⟨k.toNat, by omega⟩
    rw [Int.toNat_natCast] at h
    have e1 := at_cut hr (k := m) (by omega)
    have cb : RB 60 (pn cs m) := hc.pn (by decide) m
    have ix := hr.ixs (k := m) (by omega) (by omega)
    simp! only [e1]
    refine use_bends_at ⟨hr, hc, cb, hp, hm⟩ ?_
    rw [outR_cut hr (by omega), if_neg Bool.false_ne_true, ix.1, ix.2]
    simp! only [boD]
    have z0 : pn cs m - pn cs m = 0 := by grind
    rw [z0]
    unfold smR at h
    generalize pg ps (m - 1) = f at h ⊢
    generalize pg ps m = g at h ⊢
    generalize pn cs m - pn cs (m - 1) = t at h ⊢
    refine wh_to (st := fun j => [some (rowD cs ps), some (.int (m : Int)), some (.int (j : Int)), some (bD f t), some (bD g 0)]) (k := alk f g t) (fun j => decide (j < alk f g t)) ?_ ?_ ?_ ?_ ?_
    · intro j T hj hT
      have a3 : alk f g t ≤ 3 := by
        unfold alk
        split
        · split
          · split <;> omega
          · omega
        · omega
      have hj4 : j = 0 ∨ j = 1 ∨ j = 2 ∨ j = 3 := by omega
      have q2 : decide ((2 : Rat) * mvN f t 2 = 2 * mvN g 0 2) = decide (mvN f t 2 = mvN g 0 2) := by
        congr 1
        exact propext ⟨fun h => by grind, fun h => by rw [h]⟩
      have q3 : decide ((6 : Rat) * mvN f t 3 = 6 * mvN g 0 3) = decide (mvN f t 3 = mvN g 0 3) := by
        congr 1
        exact propext ⟨fun h => by grind, fun h => by rw [h]⟩
      rcases hj4 with rfl | rfl | rfl | rfl
      · have s1 : ((0 : Nat) : Int) + 1 = 1 := rfl
        simp! only [s1, bD]
        rw [alk_0] at hT
        exact hT
      · have s1 : ((1 : Nat) : Int) + 1 = 2 := rfl
        simp! only [s1, bD]
        rw [alk_1 hj] at hT
        rw [q2]
        exact hT
      · have s1 : ((2 : Nat) : Int) + 1 = 3 := rfl
        simp! only [s1, bD]
        rw [alk_2 hj] at hT
        rw [q3]
        exact hT
      · simp! only [bD]
        have e : decide (3 < alk f g t) = false := decide_eq_false (by omega)
        have hT : T (decide (3 < alk f g t)) S := hT
        rw [e] at hT
        rw [show decide (((3 : Nat) : Int) < 3) = false from rfl, andT_0]
        exact hT
    · intro j rt bk ct nx hj hn
      simp! only
      exact hn
    · intro j hj
      exact decide_eq_true hj
    · exact decide_eq_false (Nat.lt_irrefl _)
    · simp! only
      exact h
  · rw [if_neg c] at h
    rw [if_pos (by omega)]
    exact h
abbrev xNoStretch : Ex := ⟨"NoStretch", []⟩
abbrev xNoSmooth (k : Int) : Ex := ⟨"NoSmooth", [("number", .int k)]⟩
/-- of one stretch -/
def oneS (cs ds : List Rat) (ps qs : List (List Rat)) : Prop := pn cs 0 = pn ds 0 ∧ pn cs ps.length = pn ds qs.length
instance {cs ds : List Rat} {ps qs : List (List Rat)} : Decidable (oneS cs ds ps qs) := inferInstanceAs (Decidable (_ ∧ _))
theorem ne_two {a b c d : Rat} {S : Sto} {T : EQ} (t : T (.bl (!decide (a = c ∧ b = d))) S) : cmpD .ne (.tup [frq a, frq b]) (.tup [frq c, frq d]) S T := by
  have g1 := (PdL.frqs (S := S) [a, b]).tup
  have g2 := (PdL.frqs (S := S) [c, d]).tup
  refine Pd.eqD (neg := true) g1 g2 (by decide) (by decide) ?_
  have e : PyData.eqv (.tuple ([a, b].map frP)) (.tuple ([c, d].map frP)) = decide (a = c ∧ b = d) := by
    show (PyData.eqv (frP a) (frP c) && (PyData.eqv (frP b) (frP d) && true)) = _
    rw [eqv_frP, eqv_frP, Bool.and_true, Bool.decide_and]
  rw [e, Bool.true_xor]
  exact t
abbrev sp_ask_stretch : Spec := fun ds S Q U => ∃ (cs es : List Rat) (ps qs : List (List Rat)), ds = [rowD cs ps, rowD es qs] ∧ (Rw cs ps ∧ Rw es qs) ∧ (if oneS cs es ps qs then Q .non S else U xNoStretch S)
theorem use_ask_stretch {S : Sto} {cs es : List Rat} {ps qs : List (List Rat)} {Q : EQ} {U : Ex → Sto → Prop} (h : Rw cs ps ∧ Rw es qs) (q : if oneS cs es ps qs then Q .non S else U xNoStretch S) : @callS sp_ask_stretch [rowD cs ps, rowD es qs] S U ⟨Q⟩ := ⟨cs, es, ps, qs, rfl, h, q⟩
def b_ask_stretch : Sms := .cons (.ite (.cmp .ne (.tup (.cons (.ix (.ix (.v 0) (.cI 0)) (.cI 0)) (.cons (.ix (.ix (.v 0) (.cI 0)) (.neg (.cI 1))) (.nil)))) (.tup (.cons (.ix (.ix (.v 1) (.cI 0)) (.cI 0)) (.cons (.ix (.ix (.v 1) (.cI 0)) (.neg (.cI 1))) (.nil))))) (.cons (.raise_ "NoStretch" (.cons (.cS "rows of unlike stretches") (.nil))) (.nil)) (.nil)) (.nil)
theorem t_ask_stretch : Keeps 2 b_ask_stretch sp_ask_stretch 2 := by
  rintro ds S Q U ⟨cs, es, ps, qs, rfl, ⟨h1, h2⟩, h⟩
  refine ⟨rfl, ?_⟩
  have a0 := first_row h1
  have a1 := last_row h1
  have b0 := first_row h2
  have b1 := last_row h2
  simp! only [b_ask_stretch, ixrow0, ixrow1, a0, a1, b0, b1]
  refine ne_two ?_
  simp! only
  by_cases c : oneS cs es ps qs
  · rw [if_pos c] at h
    rw [if_neg (by intro z; exact z c)]
    exact h
  · rw [if_neg c] at h
    rw [if_pos (by intro z; exact c z)]
    exact h
/-- the first inner cut with unlike slopes, or none -/
def rgh (cs : List Rat) (ps : List (List Rat)) : Nat → Nat → Nat
  | _, 0 => 0
  | k, m + 1 => if smR cs ps k = 0 then k else rgh cs ps (k + 1) m
abbrev sp_ask_smooth : Spec := fun ds S Q U => ∃ (cs : List Rat) (ps : List (List Rat)), ds = [rowD cs ps] ∧ (Rw cs ps ∧ RL 60 cs ∧ (∀ p ∈ ps, RL 300 p) ∧ ps.length ≤ 100) ∧ (if rgh cs ps 1 (ps.length - 1) = 0 then Q .non S else U (xNoSmooth (rgh cs ps 1 (ps.length - 1) : Nat)) S)
theorem use_ask_smooth {S : Sto} {cs : List Rat} {ps : List (List Rat)} {Q : EQ} {U : Ex → Sto → Prop} (h : Rw cs ps ∧ RL 60 cs ∧ (∀ p ∈ ps, RL 300 p) ∧ ps.length ≤ 100) (q : if rgh cs ps 1 (ps.length - 1) = 0 then Q .non S else U (xNoSmooth (rgh cs ps 1 (ps.length - 1) : Nat)) S) : @callS sp_ask_smooth [rowD cs ps] S U ⟨Q⟩ := ⟨cs, ps, rfl, h, q⟩
def b_ask_smooth : Sms := .cons (.for_ (.nm 1) (.r2 (.cI 1) (.bin .sub false (.bi .len false (.cons (.ix (.v 0) (.cI 0)) (.nil))) (.cI 1))) (.cons (.ite (.cmp .eq (.call "smooth_at" sp_smooth_at (.cons (.v 0) (.cons (.v 1) (.nil)))) (.cI 0)) (.cons (.raise_ "NoSmooth" (.cons (.v 1) (.nil))) (.nil)) (.nil)) (.nil))) (.nil)
theorem t_ask_smooth : Keeps 2 b_ask_smooth sp_ask_smooth 1 := by
  rintro ds S Q U ⟨cs, ps, rfl, hh, h⟩
  refine ⟨rfl, ?_⟩
  have hr := hh.1
  have ln := hr.ln
  have ne := hr.ne
  have hm := hh.2.2.2
  simp! only [b_ask_smooth, ixrow0, ixrow1, len_tm]
  rw [List.length_map]
  refine ⟨⟨r62_1, r62_ok' (by omega)⟩, ?_⟩
  refine for_inv (fun ds δ S' => S' = S ∧ ∃ (k m : Nat) (o1 : Option D), ds = rngD (k : Int) m ∧ (1 ≤ k ∧ k + m = ps.length) ∧ δ = [some (rowD cs ps), o1] ∧ rgh cs ps k m = rgh cs ps 1 (ps.length - 1)) ?_ ?_ (fun _ _ _ _ => trivial) _ _ _ ?_
  · rintro d ds δ S' nx hnx ⟨rfl, k, m, o1, e, hk, rfl, hg⟩
    obtain ⟨m', rfl, rfl, rfl⟩ := rng_go e
    simp! only
    refine use_smooth_at hh ?_
    rw [if_pos (by omega), Int.toNat_natCast]
    simp! only
    by_cases c : smR cs ps k = 0
    · have e1 : rgh cs ps k (m' + 1) = k := if_pos c
      rw [← hg, e1, if_neg (by omega)] at h
      rw [if_pos (by omega)]
      exact h
    · have e1 : rgh cs ps k (m' + 1) = rgh cs ps (k + 1) m' := if_neg c
      rw [if_neg (by omega)]
      exact hnx _ _ trivial ⟨rfl, k + 1, m', _, rfl, by omega, rfl, by rw [← e1]; exact hg⟩
  · rintro δ S' ⟨rfl, k, m, o1, e, hk, rfl, hg⟩
    have m0 := congrArg List.length e
    rw [rng_len, List.length_nil] at m0
    subst m0
    simp! only
    rw [← hg, if_pos (by simp [rgh])] at h
    exact h
  · refine ⟨rfl, 1, ps.length - 1, _, ?_, by omega, rfl, rfl⟩
    have : ((cs.length : Int) - 1 - 1).toNat = ps.length - 1 := by omega
    rw [this]
    rfl
abbrev sp_bent_of : Spec := fun ds S Q _ => ∃ (so : Int) (p : List Rat), ds = [.int so, plD p] ∧ (RL 400 p ∧ p.length ≤ 4) ∧ Q (plD (if so = 1 then slP p else slP (slP p))) S
theorem use_bent_of {S : Sto} {so : Int} {p : List Rat} {Q : EQ} {U : Ex → Sto → Prop} (h : RL 400 p ∧ p.length ≤ 4) (q : Q (plD (if so = 1 then slP p else slP (slP p))) S) : @callS sp_bent_of [.int so, plD p] S U ⟨Q⟩ := ⟨so, p, rfl, h, q⟩
def b_bent_of : Sms := .cons (.ret (.ite (.cmp .eq (.v 0) (.cI 1)) (.call "slope_of" sp_slope_of (.cons (.v 1) (.nil))) (.call "slope_of" sp_slope_of (.cons (.call "slope_of" sp_slope_of (.cons (.v 1) (.nil))) (.nil))))) (.nil)
theorem t_bent_of : Keeps 2 b_bent_of sp_bent_of 2 := by
  rintro ds S Q U ⟨so, p, rfl, ⟨hp, hl⟩, h⟩
  refine ⟨rfl, ?_⟩
  have l1 := slP_len (p := p)
  have p1 := slP_RL hp (by decide) hl
  simp! only [b_bent_of]
  rw [iteE_def]
  split
  · rename_i c
    rw [if_pos (of_decide_eq_true c)] at h
    exact use_slope ⟨hp.le (by decide), by omega⟩ h
  · rename_i c
    rw [if_neg (by simpa using c)] at h
    refine use_slope ⟨hp.le (by decide), by omega⟩ ?_
    exact use_slope (U := fun x S2 => U x S2) ⟨p1.le (by decide), by omega⟩ h
/-- all stays but the feed, which goes on -/
structure AdvX (f : Addr) (n : Nat) (S S' : Sto) : Prop where
  fd : Feed n S' f
  eq : ∀ a, a ≠ f → S a ≠ none → S' a = S a
theorem Adv.x {f : Addr} {n k : Nat} {S S' : Sto} (h : Adv f n k S S') : AdvX f (n + k) S S' := ⟨h.fd, fun a ha _ => h.eq a ha⟩
theorem AdvX.le {f : Addr} {n m : Nat} {S S' : Sto} (h : AdvX f n S S') (l : n ≤ m) : AdvX f m S S' := ⟨h.fd.le l, h.eq⟩
theorem AdvX.trans {f : Addr} {n m : Nat} {S S' S'' : Sto} (h : AdvX f n S S') (g : AdvX f m S' S'') : AdvX f m S S'' := ⟨g.fd, fun a ha h0 => by
  have := h.eq a ha h0
  exact (g.eq a ha (by rw [this]; exact h0)).trans this⟩
theorem AdvX.at_ {f q : Addr} {n : Nat} {S S' : Sto} {c : Cell} (h : AdvX f n S S') (a : q ≠ f) (e : S q = some c) : S' q = some c := (h.eq q a (by rw [e]; exact fun z => nomatch z)).trans e
theorem AdvX.new {f q : Addr} {n : Nat} {S S' : Sto} {c : Cell} (h : AdvX f n S S') (a : q ≠ f) (e : S q = none) : AdvX f n S (supd S' q c) :=
  ⟨h.fd.of (supd_ne (fun z => a z.symm)), fun b hb h0 => by
    have : b ≠ q := fun z => by rw [z] at h0; exact h0 e
    exact (supd_ne this).trans (h.eq b hb h0)⟩
theorem AdvX.del {f q : Addr} {n : Nat} {S S' : Sto} (h : AdvX f n S S') (a : q ≠ f) (e : S q = none) : AdvX f n S (sdel S' q) :=
  ⟨h.fd.of (sdel_ne (fun z => a z.symm)), fun b hb h0 => by
    have : b ≠ q := fun z => by rw [z] at h0; exact h0 e
    exact (sdel_ne this).trans (h.eq b hb h0)⟩
theorem andT_fac {k : Bool} {S : Sto} {A : (Bool → Sto → Prop) → Prop} {T : Bool → Sto → Prop} (R : Bool → Sto → Prop) (h1 : k = true → ∀ T' : Bool → Sto → Prop, (∀ b S', R b S' → T' b S') → A T') (h2 : k = false → R false S) (hT : ∀ b S', R b S' → T b S') : @andT k S A ⟨T⟩ := by
  cases k
  · exact hT _ _ (h2 rfl)
  · exact h1 rfl T hT
theorem orT_fac {k : Bool} {S : Sto} {A : (Bool → Sto → Prop) → Prop} {T : Bool → Sto → Prop} (R : Bool → Sto → Prop) (h1 : k = false → ∀ T' : Bool → Sto → Prop, (∀ b S', R b S' → T' b S') → A T') (h2 : k = true → R true S) (hT : ∀ b S', R b S' → T b S') : @orT k S A ⟨T⟩ := by
  cases k
  · exact h1 rfl T hT
  · exact hT _ _ (h2 rfl)
theorem lc_flt {m : Bool} {tg : G} {ifs : WpT} {elt : WpE} {src : Sto → Prop} {δ : Dts} {P : EQ} (I : List D → List D → Sto → Prop)
    (step : ∀ (d : D) (ds acc : List D) (S : Sto) (nx : D → Sto → Prop) (K : Sto → Prop), (∀ y S2, src S2 → I ds (acc ++ [y]) S2 → nx y S2) → (∀ S2, src S2 → I ds acc S2 → K S2) → I (d :: ds) acc S → acc.length < sizeLine ∧ wG tg d δ S fun δ' => ifs δ' S fun b S3 => if b = true then elt δ' S3 nx else K S3)
    (fin : ∀ acc S, I [] acc S → nwL m acc S P) : ∀ (ds acc : List D) (S : Sto), I ds acc S → wLc m tg ifs elt src δ P ds acc S
  | [], acc, S, h => fin acc S h
  | d :: ds, acc, S, h => by
    have hl : acc.length < sizeLine := (step d ds acc S (fun _ _ => True) (fun _ => True) (fun _ _ _ _ => trivial) (fun _ _ _ => trivial) h).1
    exact (step d ds acc S (fun y S4 => src S4 ∧ acc.length < sizeLine ∧ wLc m tg ifs elt src δ P ds (acc ++ [y]) S4) (fun S3 => src S3 ∧ wLc m tg ifs elt src δ P ds acc S3) (fun y S2 s i => ⟨s, hl, lc_flt I step fin ds _ S2 i⟩) (fun S2 s i => ⟨s, lc_flt I step fin ds _ S2 i⟩) h).2
theorem tk_ix {t : Tk} {S : Sto} {P : EQ} : ixD (tkD t) (.int 0) S P = P (.int t.so) S ∧ ixD (tkD t) (.int 1) S P = P (arD t.ar) S ∧ ixD (tkD t) (.int 2) S P = P (frq t.pr) S ∧ ixD (tkD t) (.int 3) S P = P (.tup (t.ps.map ptD)) S := by
  unfold tkD
  exact ⟨by rw [ix_t]; rfl, by rw [ix_t]; rfl, by rw [ix_t]; rfl, by rw [ix_t]; rfl⟩
theorem at_pt {ps : List Pt} {k : Nat} (h : k < ps.length) : atI ps (k : Int) = some (ps.getD k default) := by
  rw [at_n h, List.getElem?_eq_getElem h, List.getD_eq_getElem?_getD, List.getElem?_eq_getElem h]
  rfl
theorem pt_mem {ps : List Pt} {k : Nat} (h : k < ps.length) : ps.getD k default ∈ ps := by
  rw [List.getD_eq_getElem?_getD, List.getElem?_eq_getElem h]
  exact List.getElem_mem _
structure UnB (ns : List Rat) (l h : Rat) : Prop where
  s : ∀ n, n ≤ ns.length → RB 1900 (unS (pn ns) l h n)
  sl : ∀ n, n ≤ ns.length → RB 1900 (unS (pn ns) 0 l n)
  sh : ∀ n, n ≤ ns.length → RB 1900 (unS (pn ns) 0 h n)
  rn : RL 600 ns
  rl : RB 45 l
  rh : RB 45 h
  ln : ns.length ≤ 8
abbrev sp_under_numbers : Spec := fun ds S Q _ => ∃ (x : D) (ns : List Rat) (l h : Rat), ds = [x, frq l, frq h] ∧ sqx S x = some (ns.map frq) ∧ UnB ns l h ∧ Q (frq (unS (pn ns) l h ns.length)) S
theorem use_under_numbers {S : Sto} {x : D} {ns : List Rat} {l h : Rat} {Q : EQ} {U : Ex → Sto → Prop} (hx : sqx S x = some (ns.map frq)) (b : UnB ns l h) (q : Q (frq (unS (pn ns) l h ns.length)) S) : @callS sp_under_numbers [x, frq l, frq h] S U ⟨Q⟩ := ⟨x, ns, l, h, rfl, hx, b, q⟩
def b_under_numbers : Sms := .cons (.asg (.nm 3) (.gl "NOUGHT" c_NOUGHT)) (.cons (.asg (.nm 4) (.v 1)) (.cons (.asg (.nm 5) (.v 2)) (.cons (.for_ (.nm 6) (.r1 (.bi .len false (.cons (.v 0) (.nil)))) (.cons (.asg (.nm 7) (.call "times_by" sp_times_by (.cons (.call "minus_by" sp_minus_by (.cons (.v 5) (.cons (.v 4) (.nil)))) (.cons (.call "fraction_of" sp_fraction_of (.cons (.cI 1) (.cons (.bin .add false (.v 6) (.cI 1)) (.nil)))) (.nil))))) (.cons (.asg (.nm 3) (.call "plus_by" sp_plus_by (.cons (.v 3) (.cons (.call "times_by" sp_times_by (.cons (.ix (.v 0) (.v 6)) (.cons (.v 7) (.nil)))) (.nil))))) (.cons (.asg (.nm 4) (.call "times_by" sp_times_by (.cons (.v 4) (.cons (.v 1) (.nil))))) (.cons (.asg (.nm 5) (.call "times_by" sp_times_by (.cons (.v 5) (.cons (.v 2) (.nil))))) (.nil)))))) (.cons (.ret (.v 3)) (.nil)))))
theorem t_under_numbers : Keeps 8 b_under_numbers sp_under_numbers 3 := by
  rintro ds S Q U ⟨x, ns, l, h, rfl, hx, B, hq⟩
  refine ⟨rfl, ?_⟩
  have ln := B.ln
  simp! only [b_under_numbers, sqx_len hx, List.length_map]
  refine ⟨r62_ok (by omega), ?_⟩
  rw [Int.toNat_natCast]
  refine for_inv (fun ds δ S' => S' = S ∧ ∃ (k : Nat) (o6 o7 : Option D), ds = rngD (k : Int) (ns.length - k) ∧ k ≤ ns.length ∧ δ = [some x, some (frq l), some (frq h), some (frq (unS (pn ns) l h k)), some (frq (l ^ (k + 1))), some (frq (h ^ (k + 1))), o6, o7] ∧ RB (45 * (k + 1)) (l ^ (k + 1)) ∧ RB (45 * (k + 1)) (h ^ (k + 1))) ?_ ?_ (fun _ _ _ _ => trivial) _ _ _ ?_
  · rintro d ds δ S' nx hnx ⟨rfl, k, o6, o7, e, hk, rfl, rl, rh⟩
    have hk2 : k < ns.length := by
      by_cases c : k < ns.length
      · exact c
      · have : ns.length - k = 0 := by omega
        rw [this] at e
        cases e
    obtain ⟨m, hm⟩ : ∃ m, ns.length - k = m + 1 := ⟨ns.length - k - 1, by omega⟩
    rw [hm, rng_s] at e
    cases e
    have hat : atI ns (k : Int) = some (pn ns k) := at_pn hk2
    have e1 : Rat.divInt 1 ((k : Int) + 1) = 1 / ((k : Rat) + 1) := by
      rw [Rat.divInt_eq_div, Rat.intCast_add, Rat.intCast_natCast]
      rfl
    have hkn : (k : Int) + 1 ≠ 0 := by omega
    have bk : Bt 10 ((k : Int) + 1) := by
      show ((k : Int) + 1).natAbs < 1024
      omega
    have r1 : RB 10 (1 / ((k : Rat) + 1)) := by
      rw [← e1]
      exact .divInt (Bt.lit (by decide)) bk hkn
    have hs := B.s k (by omega)
    have rd := rh.sub rl
    have rp := rd.mul r1
    have rnk := B.rn.pn (by decide) k
    simp! only [↓low_eq, ↓q2_sub, ↓q2_mul, ↓q2_add, e1, sqx_ix hx, hat]
    refine ⟨⟨rh.le (by omega), rl.le (by omega)⟩, ⟨hkn, Bt.lit (by decide), bk.le (by decide)⟩, ⟨rd.le (by omega), r1.le (by decide)⟩, ⟨rnk.le (by decide), rp.le (by omega)⟩, ⟨hs.le (by decide), (rnk.mul rp).le (by omega)⟩, ⟨rl.le (by omega), B.rl.le (by decide)⟩, ⟨rh.le (by omega), B.rh.le (by decide)⟩, ?_⟩
    refine hnx _ _ trivial ⟨rfl, k + 1, some (.int (k : Int)), some (frq ((h ^ (k + 1) - l ^ (k + 1)) * (1 / ((k : Rat) + 1)))), ?_, by omega, ?_, ?_, ?_⟩
    · have : ns.length - (k + 1) = m := by omega
      rw [this]
      rfl
    · rw [Rat.pow_succ l (k + 1), Rat.pow_succ h (k + 1)]
      rfl
    · rw [Rat.pow_succ]
      exact (rl.mul B.rl).le (by omega)
    · rw [Rat.pow_succ]
      exact (rh.mul B.rh).le (by omega)
  · rintro δ S' ⟨rfl, k, o6, o7, e, hk, rfl, rl, rh⟩
    have hk2 : k = ns.length := by
      have := congrArg List.length e
      rw [rng_len] at this
      simp at this
      omega
    subst hk2
    simp! only
    exact hq
  · refine ⟨rfl, 0, none, none, rfl, Nat.zero_le _, ?_, ?_, ?_⟩
    · rw [Rat.pow_succ l 0, Rat.pow_zero, Rat.one_mul, Rat.pow_succ h 0, Rat.pow_zero, Rat.one_mul]
      rfl
    · rw [Rat.pow_succ, Rat.pow_zero, Rat.one_mul]
      exact B.rl
    · rw [Rat.pow_succ, Rat.pow_zero, Rat.one_mul]
      exact B.rh
abbrev sp_under_product : Spec := fun ds S Q _ => ∃ (a b : List Rat) (l h : Rat), ds = [plD a, plD b, frq l, frq h] ∧ (RL 290 a ∧ RL 290 b ∧ a.length ≤ 3 ∧ b.length ≤ 3 ∧ (∀ f : List Rat, f.length = a.length + b.length → (∀ k, pn f k = conv a b k) → UnB f l h)) ∧ Q (frq (unS (conv a b) l h (a.length + b.length))) S
theorem use_under_product {S : Sto} {a b : List Rat} {l h : Rat} {Q : EQ} {U : Ex → Sto → Prop} (hb : RL 290 a ∧ RL 290 b ∧ a.length ≤ 3 ∧ b.length ≤ 3 ∧ (∀ f : List Rat, f.length = a.length + b.length → (∀ k, pn f k = conv a b k) → UnB f l h)) (q : Q (frq (unS (conv a b) l h (a.length + b.length))) S) : @callS sp_under_product [plD a, plD b, frq l, frq h] S U ⟨Q⟩ := ⟨a, b, l, h, rfl, hb, q⟩
def b_under_product : Sms := .cons (.ret (.call "under_numbers" sp_under_numbers (.cons (.call "product_numbers" sp_product_numbers (.cons (.v 0) (.cons (.v 1) (.nil)))) (.cons (.v 2) (.cons (.v 3) (.nil)))))) (.nil)
theorem t_under_product : Keeps 4 b_under_product sp_under_product 4 := by
  rintro ds S Q U ⟨a, b, l, h, rfl, ⟨ha, hb, na, nb, hU⟩, hq⟩
  refine ⟨rfl, ?_⟩
  have m1 : (a.length + 1) * (290 + 290 + 1) ≤ 4 * (290 + 290 + 1) := Nat.mul_le_mul_right _ (by omega)
  simp! only [b_under_product]
  refine use_product_numbers 290 290 ⟨ha, hb, by omega, by omega, by omega⟩ fun f f1 f2 f3 => ?_
  simp! only
  refine use_under_numbers (ns := f) rfl (hU f f1 f2) ?_
  have e : pn f = conv a b := funext f2
  rw [e, f1]
  exact hq
/-- this law's own polynomial whose slope it is -/
def whL (ns : List Rat) : List Rat := 0 :: (List.range ns.length).map fun i : Nat => pn ns i * (1 / ((i : Rat) + 1))
/-! cuts put in, sizes by a bottom that is told later -/
theorem in_cuts {cs : List Rat} {x : Rat} {S : Sto} {P : EQ} (p : P (.bl (decide (x ∈ cs))) S) : cmpD .inn (frq x) (.tup (cs.map frq)) S P := by
  have h1 := Pd.frq (S := S) (q := x)
  have h2 := (PdL.frqs (S := S) cs).tup
  obtain ⟨n, e1⟩ := h1.py
  obtain ⟨m, e2⟩ := h2.py
  refine ⟨max n m, _, _, _, pyOf_le (Nat.le_max_left n m) e1, pyOf_le (Nat.le_max_right n m) e2, .inr rfl, ⟨h1.shaped (by decide), Nat.le_trans h1.dp (by decide)⟩, h2.shaped (by decide), ?_⟩
  have e : ∀ cs : List Rat, (cs.map frP).any (fun z => PyData.eqv z (frP x)) = decide (x ∈ cs) := by
    intro cs
    induction cs with
    | nil => rfl
    | cons c cs ih =>
      rw [List.map_cons, List.any_cons, ih, eqv_frP]
      by_cases a : c = x
      · subst a
        simp
      · have : ¬x = c := fun z => a z.symm
        simp [a, this]
  rw [e, Bool.false_xor]
  exact p
abbrev sp_with_cut : Spec := fun ds S Q U => ∃ (cs : List Rat) (ps : List (List Rat)) (x : Rat) (k : Nat), ds = [rowD cs ps, frq x] ∧ (Rw cs ps ∧ RL 60 cs ∧ RB 60 x ∧ (∀ p ∈ ps, RL 400 p) ∧ ps.length ≤ 100) ∧
  (outR cs ps x = false → ¬x ∈ cs → k < ps.length ∧ x ≤ pn cs (k + 1) ∧ (∀ j, j < k → pn cs (j + 1) < x) ∧ RB 60 (x - pn cs k) ∧ MvB (pg ps k) (x - pn cs k)) ∧
  (if outR cs ps x = true then U (xNoPlace x) S else Q (if x ∈ cs then rowD cs ps else rowD (insC cs k x) (insC ps k (mvT (pg ps k) (x - pn cs k)))) S)
def b_with_cut : Sms := .cons (.ex (.call "ask_place" sp_ask_place (.cons (.v 0) (.cons (.v 1) (.nil))))) (.cons (.asg (.tp (.cons (.nm 4) (.cons (.nm 5) (.nil)))) (.v 0)) (.cons (.ite (.cmp .inn (.v 1) (.v 4)) (.cons (.ret (.v 0)) (.nil)) (.nil)) (.cons (.asg (.nm 2) (.cI 0)) (.cons (.wh (.call "is_below" sp_is_below (.cons (.ix (.v 4) (.bin .add false (.v 2) (.cI 1))) (.cons (.v 1) (.nil)))) (.cons (.asg (.nm 2) (.bin .add false (.v 2) (.cI 1))) (.nil))) (.cons (.asg (.nm 3) (.call "moved_poly" sp_moved_poly (.cons (.ix (.v 5) (.v 2)) (.cons (.call "minus_by" sp_minus_by (.cons (.v 1) (.cons (.ix (.v 4) (.v 2)) (.nil)))) (.nil))))) (.cons (.ret (.tup (.cons (.bin .add false (.bin .add false (.sl false (.v 4) (.none) (.some (.bin .add false (.v 2) (.cI 1)))) (.tup (.cons (.v 1) (.nil)))) (.sl false (.v 4) (.some (.bin .add false (.v 2) (.cI 1))) (.none))) (.cons (.bin .add false (.bin .add false (.sl false (.v 5) (.none) (.some (.bin .add false (.v 2) (.cI 1)))) (.tup (.cons (.v 3) (.nil)))) (.sl false (.v 5) (.some (.bin .add false (.v 2) (.cI 1))) (.none))) (.nil))))) (.nil)))))))
theorem t_with_cut : Keeps 6 b_with_cut sp_with_cut 2 := by
  rintro ds S Q U ⟨cs, ps, x, k, rfl, ⟨hr, hc, hx, hp, hm⟩, hk, h⟩
  refine ⟨rfl, ?_⟩
  have ln := hr.ln
  simp! only [b_with_cut]
  refine use_ask_place ⟨hr, hc.le (by decide), hx.le (by decide)⟩ ?_
  cases e : outR cs ps x with
  | true =>
    rw [if_pos rfl]
    rw [e, if_pos rfl] at h
    exact h
  | false =>
  rw [if_neg Bool.false_ne_true]
  rw [e, if_neg Bool.false_ne_true] at h
  simp! only [rowD]
  refine in_cuts ?_
  simp! only
  by_cases c : x ∈ cs
  · rw [if_pos c] at h
    rw [if_pos c]
    exact h
  rw [if_neg c] at h
  rw [if_neg c]
  obtain ⟨k0, k1, k2, k3, k4⟩ := hk e c
  have r9 : ∀ k, RB 3900 (pn cs k) := fun k => (hc.pn (by decide) k).le (by decide)
  have x9 : RB 3900 x := hx.le (by decide)
  refine wh_to (st := fun j => [some (.tup [.tup (cs.map frq), .tup (ps.map plD)]), some (frq x), some (.int (j : Int)), none, some (.tup (cs.map frq)), some (.tup (ps.map plD))]) (k := k) (fun j => decide (pn cs (j + 1) < x)) ?_ ?_ ?_ ?_ ?_
  · intro j T hj hT
    have e1 := at_cut1 hr (k := j) (by omega)
    simp! only [e1, ↓q2_below, r9, x9]
    exact hT
  · intro j rt bk ct nx hj hn
    simp! only
    exact hn
  · intro j hj
    exact decide_eq_true (k2 j hj)
  · exact decide_eq_false (by grind)
  · have e1 := at_cut hr (k := k) (by omega)
    have e2 := at_pg (ps := ps) k0
    have kk : (k : Int) + 1 = ((k + 1 : Nat) : Int) := rfl
    have l4 := (hr.tr _ (pg_mem k0)).2
    simp! only [e1, e2, ↓q2_sub, r9, x9]
    refine use_moved_poly ⟨hp _ (pg_mem k0), k3, l4, k4⟩ fun r a b d => ?_
    rw [mvT_eq l4 a b]
    simp! only [kk, cut_to, cut_from]
    have sz : ∀ {n : Nat}, n ≤ 300 → n ≤ sizeLine := fun h => few_ok (by omega)
    refine ⟨sz ?_, sz ?_, sz ?_, sz ?_, ?_⟩
    · rw [List.length_take, List.length_map, List.length_singleton]; omega
    · rw [List.length_append, List.length_take, List.length_drop, List.length_map, List.length_singleton]; omega
    · rw [List.length_take, List.length_map, List.length_singleton]; omega
    · rw [List.length_append, List.length_take, List.length_drop, List.length_map, List.length_singleton]; omega
    · unfold rowD at h
      rw [ins_map, ins_map] at h
      exact h
/-- sizes with which cuts are put in -/
class Dk where
  d : Nat
  d0 : d ≠ 0
  lt : d ≤ DDj 12
abbrev D12 [K : Dk] : Nat := K.d
theorem RB.ofK {D C b : Nat} {V q : Rat} (h : Ig D q) (a : Ab V q) (hD : D ≠ 0) (le : D ≤ C) (V0 : 0 ≤ V) (h1 : C < 2 ^ b) (h2 : V * (C : Rat) < ((2 ^ b : Nat) : Rat)) : RB b q := by
  refine RB.of h a hD (Nat.lt_of_le_of_lt le h1) ?_
  have e : ((D : Nat) : Rat) ≤ ((C : Nat) : Rat) := Rat.natCast_le_natCast.mpr le
  have e2 := Rat.mul_le_mul_of_nonneg_left e V0
  grind
theorem nmRLK {D C b : Nat} {V : Rat} {p : List Rat} (h : Nm D V p) (hD : D ≠ 0) (le : D ≤ C) (V0 : 0 ≤ V) (h1 : C < 2 ^ b) (h2 : V * (C : Rat) < ((2 ^ b : Nat) : Rat)) : GB.RL b p := fun x m => RB.ofK (h x m).1 (h x m).2 hD le V0 h1 h2
theorem d12_n0 [K : Dk] {n : Nat} (h : n ≠ 0) : D12 * n ≠ 0 := Nat.mul_ne_zero K.d0 h
theorem d12_le [K : Dk] (n : Nat) : D12 * n ≤ DDj 12 * n := Nat.mul_le_mul_right _ K.lt
abbrev V12 : Rat := 27 * VVj 12
theorem V12_pos : 0 ≤ V12 := by decide +kernel
theorem RwD.bc {D : Nat} {V T : Rat} {cs : List Rat} {ps : List (List Rat)} (h : RwD D V T cs ps) : RL 47 cs := fun c m => RB.of (h.cn c m).1 (h.cn c m).2 (by decide) (by decide) (by decide +kernel)
abbrev RwE [Dk] (cs : List Rat) (ps : List (List Rat)) : Prop := RwD D12 V12 48 cs ps
theorem RwE.bp [Dk] {cs : List Rat} {ps : List (List Rat)} (h : RwE cs ps) : ∀ p ∈ ps, RL 280 p := by
  intro p m
  obtain ⟨i, hi, rfl⟩ := List.mem_iff_getElem.mp m
  have e : ps[i] = pg ps i := by
    unfold pg
    rw [List.getD_eq_getElem?_getD, List.getElem?_eq_getElem hi]
    rfl
  rw [e]
  exact nmRLK (h.nm (V12_pos) hi) (d12_n0 (by decide +kernel)) (d12_le _) (by decide +kernel) (by decide +kernel) (by decide +kernel)
theorem RwE.mvb [Dk] {cs : List Rat} {ps : List (List Rat)} (h : RwE cs ps) {k : Nat} (hk : k < ps.length) {t : Rat} (h1 : Ig 126000 t) (h2 : Ab 48 t) : MvB (pg ps k) t :=
  MvB.of (h.nm (V12_pos) hk) (h.rw_.tr _ (pg_mem hk)).2 (by decide +kernel) (by decide +kernel) h1 h2 (by rw [Nat.mul_assoc]; exact d12_n0 (by decide +kernel)) (by rw [Nat.mul_assoc]; exact Nat.lt_of_le_of_lt (d12_le _) (by decide +kernel)) (by
    rw [Nat.mul_assoc]
    have e : ((D12 * (126000 ^ 3 * 126000 ^ 3) : Nat) : Rat) ≤ ((DDj 12 * (126000 ^ 3 * 126000 ^ 3) : Nat) : Rat) := Rat.natCast_le_natCast.mpr (d12_le _)
    have e2 := Rat.mul_le_mul_of_nonneg_left e (show (0 : Rat) ≤ (48 + 2) ^ 3 * ((48 + 2) ^ 3 * V12) by decide +kernel)
    have e3 : (48 + 2) ^ 3 * ((48 + 2) ^ 3 * V12) * ((DDj 12 * (126000 ^ 3 * 126000 ^ 3) : Nat) : Rat) < ((2 ^ 500 : Nat) : Rat) := by decide +kernel
    grind)
theorem InR.rb [Dk] {cs : List Rat} {ps : List (List Rat)} (h : RwE cs ps) {x : Rat} (hx : InR cs ps x) : RB 47 x ∧ Ab (2 ^ 30) x := by
  have ln := h.rw_.ln
  have ne := h.rw_.ne
  have a0 := (h.cn _ (pn_mem (p := cs) (k := 0) (by omega))).2
  have a1 := (h.cn _ (pn_mem (p := cs) (k := ps.length) (by omega))).2
  have lo := hx.lo
  have hi := hx.hi
  have ab : Ab (2 ^ 30) x := by
    obtain ⟨u1, u2⟩ := a0
    obtain ⟨v1, v2⟩ := a1
    generalize (2 : Rat) ^ 30 = A at *
    constructor <;> grind
  exact ⟨RB.of hx.i ab (by decide) (by decide) (by decide +kernel), ab⟩
theorem InR.out {cs : List Rat} {ps : List (List Rat)} {x : Rat} (hx : InR cs ps x) : outR cs ps x = false := by
  unfold outR
  rw [decide_eq_false (Rat.not_lt.mpr hx.lo), decide_eq_false (Rat.not_lt.mpr hx.hi)]
  rfl
/-- what a cut put in needs -/
theorem RwE.cut [Dk] {cs : List Rat} {ps : List (List Rat)} (h : RwE cs ps) {x : Rat} (hx : InR cs ps x) (c : ¬x ∈ cs) : kOf cs x < ps.length ∧ pn cs (kOf cs x) < x ∧ x < pn cs (kOf cs x + 1) ∧ (∀ j, j < kOf cs x → pn cs (j + 1) < x) ∧ RB 60 (x - pn cs (kOf cs x)) ∧ MvB (pg ps (kOf cs x)) (x - pn cs (kOf cs x)) := by
  have ln := h.rw_.ln
  obtain ⟨a, b, d, e⟩ := h.rw_.kOf hx.lo hx.hi c
  obtain ⟨_, t, _, _, _, q4, q5, _⟩ := h.pc _ a
  have ci := h.cn _ (pn_mem (p := cs) (k := kOf cs x) (by omega))
  have ig := hx.i.sub ci.1
  have ab : Ab 48 (x - pn cs (kOf cs x)) := by constructor <;> grind
  exact ⟨a, b, d, e, RB.of ig ab (by decide) (by decide) (by decide +kernel), h.mvb a ig ab⟩
theorem use_with_cut [Dk] {S : Sto} {cs : List Rat} {ps : List (List Rat)} {x : Rat} {Q : EQ} {U : Ex → Sto → Prop} (h : RwE cs ps) (hm : ps.length ≤ 100) (hx : InR cs ps x) (q : Q (rowD (addC (cs, ps) x).1 (addC (cs, ps) x).2) S) : @callS sp_with_cut [rowD cs ps, frq x] S U ⟨Q⟩ := by
  have xb := (hx.rb h).1
  refine ⟨cs, ps, x, kOf cs x, rfl, ⟨h.rw_, h.bc.le (by decide), xb.le (by decide), fun p m => (h.bp p m).le (by decide), hm⟩, fun _ c => ?_, ?_⟩
  · obtain ⟨a, b, d, e, f, g⟩ := h.cut hx c
    exact ⟨a, Rat.le_of_lt d, e, f, g⟩
  · rw [hx.out, if_neg Bool.false_ne_true]
    unfold addC at q
    by_cases c : x ∈ cs
    · rw [if_pos c]
      rw [if_pos c] at q
      exact q
    · rw [if_neg c]
      rw [if_neg c] at q
      exact q
abbrev sp_cut_like : Spec := fun ds S Q _ => ∃ (_ : Dk) (cs es : List Rat) (ps qs : List (List Rat)), ds = [rowD cs ps, rowD es qs] ∧ (RwE cs ps ∧ (∀ x ∈ es, InR cs ps x) ∧ ps.length + es.length ≤ 100) ∧ Q (rowD (es.foldl addC (cs, ps)).1 (es.foldl addC (cs, ps)).2) S
theorem use_cut_like [Dk] {S : Sto} {cs es : List Rat} {ps qs : List (List Rat)} {Q : EQ} {U : Ex → Sto → Prop} (h : RwE cs ps ∧ (∀ x ∈ es, InR cs ps x) ∧ ps.length + es.length ≤ 100) (q : Q (rowD (es.foldl addC (cs, ps)).1 (es.foldl addC (cs, ps)).2) S) : @callS sp_cut_like [rowD cs ps, rowD es qs] S U ⟨Q⟩ := ⟨inferInstance, cs, es, ps, qs, rfl, h, q⟩
def b_cut_like : Sms := .cons (.for_ (.nm 2) (.val (.ix (.v 1) (.cI 0))) (.cons (.asg (.nm 0) (.call "with_cut" sp_with_cut (.cons (.v 0) (.cons (.v 2) (.nil))))) (.nil))) (.cons (.ret (.v 0)) (.nil))
theorem t_cut_like : Keeps 3 b_cut_like sp_cut_like 2 := by
  rintro ds S Q U ⟨K, cs, es, ps, qs, rfl, ⟨hr, hx, hm⟩, h⟩
  refine ⟨rfl, ?_⟩
  simp! only [b_cut_like, ixrow0, ixrow1]
  refine for_inv (fun ds δ S' => S' = S ∧ ∃ (as : List Rat) (bs : List (List Rat)) (xs : List Rat) (o2 : Option D), ds = xs.map frq ∧ (RwE as bs ∧ (∀ x ∈ xs, InR as bs x) ∧ bs.length + xs.length ≤ 100) ∧ xs.foldl addC (as, bs) = es.foldl addC (cs, ps) ∧ δ = [some (rowD as bs), some (rowD es qs), o2]) ?_ ?_ (fun _ _ _ _ => trivial) _ _ _ ⟨rfl, cs, ps, es, _, rfl, ⟨hr, hx, hm⟩, rfl, rfl⟩
  · rintro d ds δ S' nx hnx ⟨rfl, as, bs, xs, o2, e, ⟨g1, g2, g3⟩, g4, rfl⟩
    cases xs with
    | nil => cases e
    | cons x xs =>
    cases e
    rw [List.length_cons] at g3
    have hx0 := g2 x List.mem_cons_self
    have a := addC_ok g1 hx0
    simp! only
    refine use_with_cut g1 (by omega) hx0 ?_
    simp! only
    refine hnx _ _ trivial ⟨rfl, _, _, xs, _, rfl, ⟨a.1, fun z m => ?_, by have := a.2.2.2; omega⟩, g4, rfl⟩
    have := g2 z (List.mem_cons_of_mem _ m)
    exact ⟨this.i, by rw [a.2.1]; exact this.lo, by rw [a.2.2.1]; exact this.hi⟩
  · rintro δ S' ⟨rfl, as, bs, xs, o2, e, g, g4, rfl⟩
    cases xs with
    | cons _ _ => cases e
    | nil =>
      simp! only
      rw [← g4] at h
      exact h
def D9c : Nat := DDj 12 * 126000 ^ 3
def D9 [Dk] : Nat := D12 * 126000 ^ 3
theorem D9_0 [Dk] : D9 ≠ 0 := d12_n0 (by decide +kernel)
theorem D9_le [Dk] : D9 ≤ D9c := d12_le _
theorem DD_0 [Dk] : D9 * D9 ≠ 0 := Nat.mul_ne_zero D9_0 D9_0
theorem DD_le [Dk] : D9 * D9 ≤ D9c * D9c := Nat.mul_le_mul D9_le D9_le
def V9 : Rat := 9 * ((48 + 2) ^ 3 * V12)
def Vc : Rat := 3 * (V9 * V9)
theorem V9_pos : 0 ≤ V9 := by decide +kernel
theorem un9 [Dk] {f : List Rat} {l h : Rat} (hf : ∀ k, Ig (D9 * D9) (pn f k) ∧ Ab Vc (pn f k)) (l1 : Ig 126000 l) (l2 : Ab 48 l) (h1 : Ig 126000 h) (h2 : Ab 48 h) {n : Nat} (hn : n ≤ 6) : RB 1900 (unS (pn f) l h n) := by
  have a := unS_Ig2 (fun k => (hf k).1) l1 h1 n (by omega)
  have b := unS_Ab (fun k => (hf k).2) l2 h2 (by decide) n (by omega)
  have h4 : (n : Rat) ≤ ((6 : Nat) : Rat) := Rat.natCast_le_natCast.mpr hn
  exact RB.ofK a (b.le (Rat.mul_le_mul_of_nonneg_right h4 (by decide +kernel))) (Nat.mul_ne_zero DD_0 (by decide +kernel)) (Nat.mul_le_mul_right _ DD_le) (by decide +kernel) (by decide +kernel) (by decide +kernel)
theorem UnB9 [Dk] {a b f : List Rat} {h : Rat} (ha : Nm D9 V9 a) (hb : Nm D9 V9 b) (la : a.length ≤ 3) (lb : b.length ≤ 3) (fl : f.length ≤ 6) (e : ∀ k, pn f k = conv a b k) (h1 : Ig 126000 h) (h2 : Ab 48 h) : UnB f 0 h := by
  have hf : ∀ k, Ig (D9 * D9) (pn f k) ∧ Ab Vc (pn f k) := fun k => by
    rw [e]
    have c := conv_Nm V9_pos hb ha k
    have h3 : (a.length : Rat) ≤ ((3 : Nat) : Rat) := Rat.natCast_le_natCast.mpr la
    exact ⟨c.1, c.2.le (Rat.mul_le_mul_of_nonneg_right h3 (by decide +kernel))⟩
  have z1 : Ig 126000 (0 : Rat) := Ig.zero
  have z2 : Ab 48 (0 : Rat) := Ab.zero (by decide)
  refine ⟨fun n hn => un9 hf z1 z2 h1 h2 (by omega), fun n hn => un9 hf z1 z2 z1 z2 (by omega), fun n hn => un9 hf z1 z2 h1 h2 (by omega), fun x m => ?_, RB.zero (by decide), RB.of h1 h2 (by decide) (by decide +kernel) (by decide +kernel), by omega⟩
  obtain ⟨i, hi, rfl⟩ := List.mem_iff_getElem.mp m
  have e2 : f[i] = pn f i := by
    unfold pn
    rw [List.getD_eq_getElem?_getD, List.getElem?_eq_getElem hi]
    rfl
  rw [e2]
  exact RB.ofK (hf i).1 (hf i).2 DD_0 DD_le (by decide +kernel) (by decide +kernel) (by decide +kernel)
def bnR (so : Int) (p : List Rat) : List Rat := if so = 1 then slP p else slP (slP p)
def prgR (so : Int) (r1 r2 : List Rat × List (List Rat)) : Nat → Rat
  | 0 => 0
  | k + 1 => prgR so r1 r2 k + unS (conv (bnR so (pg r1.2 k)) (bnR so (pg r2.2 k))) 0 (pn r1.1 (k + 1) - pn r1.1 k) ((bnR so (pg r1.2 k)).length + (bnR so (pg r2.2 k)).length)
theorem RwE.bn [Dk] {cs : List Rat} {ps : List (List Rat)} (h : RwE cs ps) {k : Nat} (hk : k < ps.length) (so : Int) : Nm D9 V9 (bnR so (pg ps k)) ∧ (bnR so (pg ps k)).length ≤ 3 := by
  have l4 := (h.rw_.tr _ (pg_mem hk)).2
  have n0 : Nm D9 ((48 + 2) ^ 3 * V12) (pg ps k) := h.nm (V12_pos) hk
  have p0 : (0 : Rat) ≤ (48 + 2) ^ 3 * V12 := by decide +kernel
  have n1 := n0.slP p0 l4
  have l1 := slP_len (p := pg ps k)
  have l2 := slP_len (p := slP (pg ps k))
  unfold bnR
  split
  · exact ⟨n1.le (by decide +kernel), by omega⟩
  · have n2 := n1.slP (by decide +kernel) (by omega)
    exact ⟨n2.le (by decide +kernel), by omega⟩
theorem RwE.len48 [Dk] {cs : List Rat} {ps : List (List Rat)} (h : RwE cs ps) {k : Nat} (hk : k < ps.length) : Ig 126000 (pn cs (k + 1) - pn cs k) ∧ Ab 48 (pn cs (k + 1) - pn cs k) := by
  have ln := h.rw_.ln
  have up := h.rw_.up k hk
  obtain ⟨_, t, _, _, _, q4, q5, _⟩ := h.pc k hk
  have a0 := (h.cn _ (pn_mem (p := cs) (k := k) (by omega))).1
  have a1 := (h.cn _ (pn_mem (p := cs) (k := k + 1) (by omega))).1
  exact ⟨a1.sub a0, by constructor <;> grind⟩
def Gp [Dk] : Nat := D9 * D9 * (126000 ^ 8 * 840)
def Wp : Rat := ((6 : Nat) : Rat) * (Vc * ((48 ^ 8 + 48 ^ 8) * 1))
theorem prgR_b [Dk] {so : Int} {cs es : List Rat} {ps qs : List (List Rat)} (h : RwE cs ps) (g : RwE es qs) (hl : ps.length = qs.length) : ∀ k, k ≤ ps.length → Ig Gp (prgR so (cs, ps) (es, qs) k) ∧ Ab ((k : Rat) * Wp) (prgR so (cs, ps) (es, qs) k)
  | 0, _ => ⟨Ig.zero, Ab.zero (by have : ((0 : Nat) : Rat) = 0 := rfl; rw [this, Rat.zero_mul]; exact Rat.le_refl)⟩
  | k + 1, hk => by
    have i := prgR_b (so := so) h g hl k (by omega)
    have a := h.bn (k := k) (by omega) so
    have b := g.bn (k := k) (by omega) so
    have t := h.len48 (k := k) (by omega)
    have hf : ∀ j, Ig (D9 * D9) (conv (bnR so (pg ps k)) (bnR so (pg qs k)) j) ∧ Ab Vc (conv (bnR so (pg ps k)) (bnR so (pg qs k)) j) := fun j => by
      have c := conv_Nm V9_pos b.1 a.1 j
      have h3 : ((bnR so (pg ps k)).length : Rat) ≤ ((3 : Nat) : Rat) := Rat.natCast_le_natCast.mpr a.2
      exact ⟨c.1, c.2.le (Rat.mul_le_mul_of_nonneg_right h3 (by decide +kernel))⟩
    have z1 : Ig 126000 (0 : Rat) := Ig.zero
    have z2 : Ab 48 (0 : Rat) := Ab.zero (by decide)
    have n6 : (bnR so (pg ps k)).length + (bnR so (pg qs k)).length ≤ 6 := by omega
    have u := unS_Ig2 (fun j => (hf j).1) z1 t.1 _ (show (bnR so (pg ps k)).length + (bnR so (pg qs k)).length ≤ 8 by omega)
    have v := unS_Ab (fun j => (hf j).2) z2 t.2 (by decide) _ (show (bnR so (pg ps k)).length + (bnR so (pg qs k)).length ≤ 8 by omega)
    have h4 : (((bnR so (pg ps k)).length + (bnR so (pg qs k)).length : Nat) : Rat) ≤ ((6 : Nat) : Rat) := Rat.natCast_le_natCast.mpr n6
    have v2 : Ab Wp _ := v.le (Rat.mul_le_mul_of_nonneg_right h4 (by decide +kernel))
    refine ⟨i.1.add u, (i.2.add v2).le ?_⟩
    rw [Rat.natCast_add]
    have e : ((1 : Nat) : Rat) = 1 := rfl
    rw [e]
    grind
theorem prgR_RB [Dk] {so : Int} {cs es : List Rat} {ps qs : List (List Rat)} (h : RwE cs ps) (g : RwE es qs) (hl : ps.length = qs.length) (hm : ps.length ≤ 100) {k : Nat} (hk : k ≤ ps.length) : RB 1000 (prgR so (cs, ps) (es, qs) k) := by
  have a := prgR_b (so := so) h g hl k hk
  have h4 : (k : Rat) ≤ ((100 : Nat) : Rat) := Rat.natCast_le_natCast.mpr (by omega)
  exact RB.ofK (D := Gp) (C := D9c * D9c * (126000 ^ 8 * 840)) a.1 (a.2.le (Rat.mul_le_mul_of_nonneg_right h4 (by decide +kernel))) (Nat.mul_ne_zero DD_0 (by decide +kernel)) (Nat.mul_le_mul_right _ DD_le) (by decide +kernel) (by decide +kernel) (by decide +kernel)
theorem pn_of_at {p : List Rat} {i : Nat} (h : i < p.length) : p[i] = pn p i := by
  unfold pn
  rw [List.getD_eq_getElem?_getD, List.getElem?_eq_getElem h]
  rfl
abbrev cutR (cs : List Rat) (ps : List (List Rat)) (es : List Rat) : List Rat × List (List Rat) := es.foldl addC (cs, ps)
structure Pair [Dk] (cs es : List Rat) (ps qs : List (List Rat)) : Prop where
  r1 : RwE cs ps
  r2 : RwE es qs
  m1 : ps.length + es.length ≤ 100
  m2 : qs.length + cs.length ≤ 100
  in1 : oneS cs es ps qs → ∀ x ∈ es, InR cs ps x
  in2 : oneS cs es ps qs → ∀ x ∈ cs, InR es qs x
  same : oneS cs es ps qs → (cutR cs ps es).2.length = (cutR es qs cs).2.length
/-! cuts of both, either way about -/
theorem ins_mem' {α : Type} {cs : List α} {k : Nat} {x y : α} (h : y ∈ cs ∨ y = x) : y ∈ insC cs k x := by
  unfold insC
  rcases h with h | h
  · rw [← List.take_append_drop (k + 1) cs] at h
    rcases List.mem_append.mp h with h | h
    · exact List.mem_append_left _ (List.mem_append_left _ h)
    · exact List.mem_append_right _ h
  · rw [h]
    exact List.mem_append_left _ (List.mem_append_right _ (List.mem_singleton.mpr rfl))
theorem addC_mem {r : List Rat × List (List Rat)} {x y : Rat} : y ∈ (addC r x).1 ↔ y ∈ r.1 ∨ y = x := by
  unfold addC
  by_cases c : x ∈ r.1
  · rw [if_pos c]
    constructor
    · exact .inl
    · rintro (h | h)
      · exact h
      · rw [h]; exact c
  · rw [if_neg c]
    exact ⟨ins_mem, ins_mem'⟩
theorem addCs_mem {y : Rat} : ∀ (xs : List Rat) (r : List Rat × List (List Rat)), y ∈ (xs.foldl addC r).1 ↔ y ∈ r.1 ∨ y ∈ xs
  | [], r => by simp
  | x :: xs, r => by
    rw [List.foldl_cons, addCs_mem xs, addC_mem, List.mem_cons, or_assoc]
theorem sorted_ext : ∀ {a b : List Rat}, a.Pairwise (· < ·) → b.Pairwise (· < ·) → (∀ x, x ∈ a ↔ x ∈ b) → a = b
  | [], [], _, _, _ => rfl
  | [], y :: b, _, _, h => absurd ((h y).mpr List.mem_cons_self) (by simp)
  | x :: a, [], _, _, h => absurd ((h x).mp List.mem_cons_self) (by simp)
  | x :: a, y :: b, ha, hb, h => by
    obtain ⟨h1, h2⟩ := List.pairwise_cons.mp ha
    obtain ⟨g1, g2⟩ := List.pairwise_cons.mp hb
    have e : x = y := by
      rcases List.mem_cons.mp ((h x).mp List.mem_cons_self) with c | c
      · exact c
      · rcases List.mem_cons.mp ((h y).mpr List.mem_cons_self) with d | d
        · exact d.symm
        · have := h1 y d
          have := g1 x c
          grind
    subst e
    congr 1
    refine sorted_ext h2 g2 fun z => ?_
    constructor
    · intro m
      rcases List.mem_cons.mp ((h z).mp (List.mem_cons_of_mem _ m)) with c | c
      · have := h1 z m
        grind
      · exact c
    · intro m
      rcases List.mem_cons.mp ((h z).mpr (List.mem_cons_of_mem _ m)) with c | c
      · have := g1 z m
        grind
      · exact c
theorem Rw.pw {cs : List Rat} {ps : List (List Rat)} (h : Rw cs ps) : cs.Pairwise (· < ·) := by
  rw [List.pairwise_iff_getElem]
  intro i j hi hj hij
  have ln := h.ln
  rw [pn_of_at hi, pn_of_at hj]
  exact h.lt' hij (by omega)
theorem RwE.inR [Dk] {cs es : List Rat} {ps qs : List (List Rat)} (h : RwE cs ps) (g : RwE es qs) (o : oneS cs es ps qs) : ∀ x ∈ es, InR cs ps x := by
  intro x m
  have ln := g.rw_.ln
  obtain ⟨i, hi, rfl⟩ := List.mem_iff_getElem.mp m
  rw [pn_of_at hi]
  refine ⟨(g.cn _ (pn_mem hi)).1, ?_, ?_⟩
  · rw [o.1]
    exact g.rw_.le' (by omega) (by omega)
  · rw [o.2]
    exact g.rw_.le' (by omega) (Nat.le_refl _)
theorem oneS.symm {cs es : List Rat} {ps qs : List (List Rat)} (o : oneS cs es ps qs) : oneS es cs qs ps := ⟨o.1.symm, o.2.symm⟩
theorem cutR_cs [Dk] {cs es : List Rat} {ps qs : List (List Rat)} (h : RwE cs ps) (g : RwE es qs) (o : oneS cs es ps qs) : (cutR cs ps es).1 = (cutR es qs cs).1 := by
  refine sorted_ext (addCs_ok es h (h.inR g o)).1.rw_.pw (addCs_ok cs g (g.inR h o.symm)).1.rw_.pw fun x => ?_
  show x ∈ (es.foldl addC (cs, ps)).1 ↔ x ∈ (cs.foldl addC (es, qs)).1
  rw [addCs_mem, addCs_mem]
  exact Or.comm
theorem RwE.pair [Dk] {cs es : List Rat} {ps qs : List (List Rat)} (h : RwE cs ps) (g : RwE es qs) (m1 : ps.length ≤ 12) (m2 : qs.length ≤ 12) : Pair cs es ps qs := by
  have l1 := h.rw_.ln
  have l2 := g.rw_.ln
  refine ⟨h, g, by omega, by omega, h.inR g, fun o => g.inR h o.symm, fun o => ?_⟩
  have a := (addCs_ok es h (h.inR g o)).1.rw_.ln
  have b := (addCs_ok cs g (g.inR h o.symm)).1.rw_.ln
  have c := congrArg List.length (cutR_cs h g o)
  show (es.foldl addC (cs, ps)).2.length = (cs.foldl addC (es, qs)).2.length
  have c : (es.foldl addC (cs, ps)).1.length = (cs.foldl addC (es, qs)).1.length := c
  omega
abbrev sp_pairing_of : Spec := fun ds S Q U => ∃ (_ : Dk) (so : Int) (cs es : List Rat) (ps qs : List (List Rat)), ds = [.int so, rowD cs ps, rowD es qs] ∧ Pair cs es ps qs ∧
  (if oneS cs es ps qs then
    (if so = 3 ∧ rgh cs ps 1 (ps.length - 1) ≠ 0 then U (xNoSmooth (rgh cs ps 1 (ps.length - 1) : Nat)) S
     else if so = 3 ∧ rgh es qs 1 (qs.length - 1) ≠ 0 then U (xNoSmooth (rgh es qs 1 (qs.length - 1) : Nat)) S
     else Q (frq (prgR so (cutR cs ps es) (cutR es qs cs) (cutR cs ps es).2.length)) S)
   else U xNoStretch S)
def b_pairing_of : Sms := .cons (.ex (.call "ask_stretch" sp_ask_stretch (.cons (.v 1) (.cons (.v 2) (.nil))))) (.cons (.ite (.cmp .eq (.v 0) (.cI 3)) (.cons (.ex (.call "ask_smooth" sp_ask_smooth (.cons (.v 1) (.nil)))) (.cons (.ex (.call "ask_smooth" sp_ask_smooth (.cons (.v 2) (.nil)))) (.nil))) (.nil)) (.cons (.asg (.nm 3) (.call "cut_like" sp_cut_like (.cons (.v 1) (.cons (.v 2) (.nil))))) (.cons (.asg (.nm 4) (.call "cut_like" sp_cut_like (.cons (.v 2) (.cons (.v 1) (.nil))))) (.cons (.asg (.nm 5) (.gl "NOUGHT" c_NOUGHT)) (.cons (.for_ (.nm 6) (.r1 (.bi .len false (.cons (.ix (.v 3) (.cI 1)) (.nil)))) (.cons (.asg (.nm 7) (.call "minus_by" sp_minus_by (.cons (.ix (.ix (.v 3) (.cI 0)) (.bin .add false (.v 6) (.cI 1))) (.cons (.ix (.ix (.v 3) (.cI 0)) (.v 6)) (.nil))))) (.cons (.asg (.nm 8) (.call "under_product" sp_under_product (.cons (.call "bent_of" sp_bent_of (.cons (.v 0) (.cons (.ix (.ix (.v 3) (.cI 1)) (.v 6)) (.nil)))) (.cons (.call "bent_of" sp_bent_of (.cons (.v 0) (.cons (.ix (.ix (.v 4) (.cI 1)) (.v 6)) (.nil)))) (.cons (.gl "NOUGHT" c_NOUGHT) (.cons (.v 7) (.nil))))))) (.cons (.asg (.nm 5) (.call "plus_by" sp_plus_by (.cons (.v 5) (.cons (.v 8) (.nil))))) (.nil))))) (.cons (.ret (.v 5)) (.nil)))))))
theorem t_pairing_of : Keeps 9 b_pairing_of sp_pairing_of 3 := by
  rintro ds S Q U ⟨K, so, cs, es, ps, qs, rfl, hp, h⟩
  refine ⟨rfl, ?_⟩
  have w1 : Rw cs ps ∧ RL 60 cs ∧ (∀ p ∈ ps, RL 300 p) ∧ ps.length ≤ 100 := ⟨hp.r1.rw_, hp.r1.bc.le (by decide), fun p m => (hp.r1.bp p m).le (by decide), by have := hp.m1; omega⟩
  have w2 : Rw es qs ∧ RL 60 es ∧ (∀ p ∈ qs, RL 300 p) ∧ qs.length ≤ 100 := ⟨hp.r2.rw_, hp.r2.bc.le (by decide), fun p m => (hp.r2.bp p m).le (by decide), by have := hp.m2; omega⟩
  simp! only [b_pairing_of]
  refine use_ask_stretch ⟨w1.1, w2.1⟩ ?_
  by_cases c : oneS cs es ps qs
  · rw [if_pos c] at h
    rw [if_pos c]
    simp! only
    have tail : (if so = 3 ∧ rgh cs ps 1 (ps.length - 1) ≠ 0 then U (xNoSmooth (rgh cs ps 1 (ps.length - 1) : Nat)) S
        else if so = 3 ∧ rgh es qs 1 (qs.length - 1) ≠ 0 then U (xNoSmooth (rgh es qs 1 (qs.length - 1) : Nat)) S
        else Q (frq (prgR so (cutR cs ps es) (cutR es qs cs) (cutR cs ps es).2.length)) S) := h
    refine iteS_fac (fun δ S' => S' = S ∧ δ = [some (.int so), some (rowD cs ps), some (rowD es qs), none, none, none, none, none, none] ∧ Q (frq (prgR so (cutR cs ps es) (cutR es qs cs) (cutR cs ps es).2.length)) S) ?_ ?_ ?_
    · intro c3 N' hN'
      have c3 : so = 3 := of_decide_eq_true c3
      refine use_ask_smooth w1 ?_
      by_cases g1 : rgh cs ps 1 (ps.length - 1) = 0
      · rw [if_pos g1]
        rw [if_neg (fun z => z.2 g1)] at tail
        simp! only
        refine use_ask_smooth w2 ?_
        by_cases g2 : rgh es qs 1 (qs.length - 1) = 0
        · rw [if_pos g2]
          rw [if_neg (fun z => z.2 g2)] at tail
          simp! only
          exact hN' _ _ ⟨rfl, rfl, tail⟩
        · rw [if_neg g2]
          rw [if_pos ⟨c3, g2⟩] at tail
          exact tail
      · rw [if_neg g1]
        rw [if_pos ⟨c3, g1⟩] at tail
        exact tail
    · intro c3 N' hN'
      have c3 : ¬so = 3 := of_decide_eq_false c3
      rw [if_neg (fun z => c3 z.1), if_neg (fun z => c3 z.1)] at tail
      exact hN' _ _ ⟨rfl, rfl, tail⟩
    rintro δ S' ⟨rfl, rfl, hQ⟩
    simp! only
    refine use_cut_like ⟨hp.r1, hp.in1 c, hp.m1⟩ ?_
    simp! only
    refine use_cut_like ⟨hp.r2, hp.in2 c, hp.m2⟩ ?_
    have A := addCs_ok es hp.r1 (hp.in1 c)
    have B := addCs_ok cs hp.r2 (hp.in2 c)
    have sm := hp.same c
    have hm : (cutR cs ps es).2.length ≤ 100 := Nat.le_trans A.2 hp.m1
    generalize hX : es.foldl addC (cs, ps) = X at *
    generalize hY : cs.foldl addC (es, qs) = Y at *
    obtain ⟨xs, xp⟩ := X
    obtain ⟨ys, yp⟩ := Y
    have rx : RwE xs xp := A.1
    have ry : RwE ys yp := B.1
    have sl : xp.length = yp.length := by
      have : (es.foldl addC (cs, ps)).2.length = (cs.foldl addC (es, qs)).2.length := sm
      rw [hX, hY] at this
      exact this
    have xm : xp.length ≤ 100 := by
      have : (es.foldl addC (cs, ps)).2.length ≤ 100 := hm
      rw [hX] at this
      exact this
    have hQ : Q (frq (prgR so (xs, xp) (ys, yp) xp.length)) S' := by
      have : Q (frq (prgR so (es.foldl addC (cs, ps)) (cs.foldl addC (es, qs)) (es.foldl addC (cs, ps)).2.length)) S' := hQ
      rw [hX, hY] at this
      exact this
    simp! only [ixrow0, ixrow1, len_tm]
    rw [List.length_map]
    refine ⟨r62_ok (by omega), for_inv (fun ds δ S2 => S2 = S' ∧ ∃ (j m : Nat) (o6 o7 o8 : Option D), ds = rngD (j : Int) m ∧ j + m = xp.length ∧ δ = [some (.int so), some (rowD cs ps), some (rowD es qs), some (rowD xs xp), some (rowD ys yp), some (frq (prgR so (xs, xp) (ys, yp) j)), o6, o7, o8]) ?_ ?_ (fun _ _ _ _ => trivial) _ _ _ ⟨rfl, 0, xp.length, _, _, _, rfl, by omega, rfl⟩⟩
    · rintro d ds δ S2 nx hnx ⟨rfl, j, m, o6, o7, o8, e, hj, rfl⟩
      obtain ⟨m', rfl, rfl, rfl⟩ := rng_go e
      have e1 := at_cut rx.rw_ (k := j) (by omega)
      have e2 := at_cut1 rx.rw_ (k := j) (by omega)
      have e3 := at_pg (ps := xp) (k := j) (by omega)
      have e4 := at_pg (ps := yp) (k := j) (by omega)
      have c9 : ∀ k, RB 3900 (pn xs k) := fun k => (rx.bc.pn (by decide) k).le (by decide)
      have la := (rx.rw_.tr _ (pg_mem (ps := xp) (k := j) (by omega))).2
      have lb := (ry.rw_.tr _ (pg_mem (ps := yp) (k := j) (by omega))).2
      have pa := rx.bp _ (pg_mem (ps := xp) (k := j) (by omega))
      have pb := ry.bp _ (pg_mem (ps := yp) (k := j) (by omega))
      have ba := rx.bn (k := j) (by omega) so
      have bb := ry.bn (k := j) (by omega) so
      have t := rx.len48 (k := j) (by omega)
      simp! only [ixrow0, ixrow1, e1, e2, e3, e4, ↓q2_sub, c9]
      refine use_bent_of ⟨pa.le (by decide), la⟩ ?_
      simp! only [ixrow0, ixrow1, e1, e2, e3, e4]
      refine use_bent_of ⟨pb.le (by decide), lb⟩ ?_
      simp! only
      have hu : ∀ f : List Rat, f.length = (bnR so (pg xp j)).length + (bnR so (pg yp j)).length → (∀ k, pn f k = conv (bnR so (pg xp j)) (bnR so (pg yp j)) k) → UnB f 0 (pn xs (j + 1) - pn xs j) := fun f fl fe => UnB9 ba.1 bb.1 ba.2 bb.2 (by omega) fe t.1 t.2
      refine use_under_product (a := bnR so (pg xp j)) (b := bnR so (pg yp j)) ⟨nmRLK ba.1 D9_0 D9_le (by decide +kernel) (by decide +kernel) (by decide +kernel), nmRLK bb.1 D9_0 D9_le (by decide +kernel) (by decide +kernel) (by decide +kernel), ba.2, bb.2, hu⟩ ?_
      have b1 := prgR_RB (so := so) rx ry sl xm (k := j) (by omega)
      have b2 := prgR_RB (so := so) rx ry sl xm (k := j + 1) (by omega)
      have es : prgR so (xs, xp) (ys, yp) (j + 1) = prgR so (xs, xp) (ys, yp) j + unS (conv (bnR so (pg xp j)) (bnR so (pg yp j))) 0 (pn xs (j + 1) - pn xs j) ((bnR so (pg xp j)).length + (bnR so (pg yp j)).length) := rfl
      have bt : RB 3900 (unS (conv (bnR so (pg xp j)) (bnR so (pg yp j))) 0 (pn xs (j + 1) - pn xs j) ((bnR so (pg xp j)).length + (bnR so (pg yp j)).length)) := by
        have b3 := b2.sub b1
        rw [es] at b3
        have e5 : ∀ a b : Rat, a + b - a = b := fun a b => by grind
        rw [e5] at b3
        exact b3.le (by decide)
      simp! only [↓q2_add]
      exact ⟨⟨b1.le (by decide), bt⟩, hnx _ _ trivial ⟨rfl, j + 1, m', _, _, _, rfl, by omega, by rw [es]⟩⟩
    · rintro δ S2 ⟨rfl, j, m, o6, o7, o8, e, hj, rfl⟩
      have m0 := congrArg List.length e
      rw [rng_len, List.length_nil] at m0
      have : j = xp.length := by omega
      subst this
      simp! only
      exact hQ
  · rw [if_neg c] at h
    rw [if_neg c]
    exact h
theorem conv_ext {b b2 : List Rat} (hb : ∀ k, pn b k = pn b2 k) : ∀ {a a2 : List Rat}, (∀ k, pn a k = pn a2 k) → ∀ k, conv a b k = conv a2 b2 k
  | [], [], _, k => by rw [conv_nil, conv_nil]
  | [], y :: a2, h, k => by
    have h0 : y = 0 := (h 0).symm
    have ih := conv_ext hb (a := []) (a2 := a2) fun k => h (k + 1)
    rw [conv_nil]
    cases k with
    | zero => show (0 : Rat) = y * pn b2 0; rw [h0, Rat.zero_mul]
    | succ k =>
      have := ih k
      rw [conv_nil] at this
      show (0 : Rat) = y * pn b2 (k + 1) + conv a2 b2 k
      rw [h0, Rat.zero_mul, ← this, Rat.add_zero]
  | x :: a, [], h, k => by
    have h0 : x = 0 := h 0
    have ih := conv_ext hb (a := a) (a2 := []) fun k => h (k + 1)
    rw [conv_nil]
    cases k with
    | zero => show x * pn b 0 = 0; rw [h0, Rat.zero_mul]
    | succ k =>
      have := ih k
      rw [conv_nil] at this
      show x * pn b (k + 1) + conv a b k = 0
      rw [h0, Rat.zero_mul, this, Rat.add_zero]
  | x :: a, y :: a2, h, k => by
    have h0 : x = y := h 0
    have ih := conv_ext hb (a := a) (a2 := a2) fun k => h (k + 1)
    subst h0
    cases k with
    | zero => show x * pn b 0 = x * pn b2 0; rw [hb]
    | succ k =>
      show x * pn b (k + 1) + conv a b k = x * pn b2 (k + 1) + conv a2 b2 k
      rw [hb, ih]
/-! a pairing by parts: the sum, over the pieces, of what stands at their ends -/
theorem un24_far {f : Nat → Rat} {l h : Rat} {n : Nat} : ∀ {d : Nat}, (∀ k, n ≤ k → f k = 0) → unS f l h (n + d) = unS f l h n
  | 0, _ => rfl
  | d + 1, e => by
    show unS f l h (n + d) + f (n + d) * _ = _
    rw [un24_far e, e (n + d) (by omega), Rat.zero_mul, Rat.add_zero]
/-- what a piece of the pairing comes to -/
def pT (so : Int) (p q : List Rat) (h : Rat) : Rat :=
  if so = 1 then pn p 1 * pn q 1 * h + (pn p 1 * pn q 2 + pn p 2 * pn q 1) * (h * h) + (pn p 1 * pn q 3 + 4 / 3 * (pn p 2 * pn q 2) + pn p 3 * pn q 1) * (h * h * h) + 3 / 2 * (pn p 2 * pn q 3 + pn p 3 * pn q 2) * (h * h * h * h) + 9 / 5 * (pn p 3 * pn q 3) * (h * h * h * h * h)
  else 4 * (pn p 2 * pn q 2) * h + 6 * (pn p 2 * pn q 3 + pn p 3 * pn q 2) * (h * h) + 12 * (pn p 3 * pn q 3) * (h * h * h)
theorem pT_comm {so : Int} {p q : List Rat} {h : Rat} : pT so p q h = pT so q p h := by
  unfold pT
  split <;> grind
theorem slP_k {p : List Rat} (k : Nat) : pn (slP p) k = ((k : Rat) + 1) * pn p (k + 1) := by
  rw [← slU_pn]
  unfold slU
  rw [pn_map]
  split
  · rfl
  · rename_i c
    rw [pn_len (p := p) (by omega), Rat.mul_zero]
theorem conv3 {a b : List Rat} (ha : a.length ≤ 3) (hb : b.length ≤ 3) {h : Rat} : unS (conv a b) 0 h (a.length + b.length) = pn a 0 * pn b 0 * h + (pn a 0 * pn b 1 + pn a 1 * pn b 0) * (h * h) / 2 + (pn a 0 * pn b 2 + pn a 1 * pn b 1 + pn a 2 * pn b 0) * (h * h * h) / 3 + (pn a 1 * pn b 2 + pn a 2 * pn b 1) * (h * h * h * h) / 4 + pn a 2 * pn b 2 * (h * h * h * h * h) / 5 := by
  obtain ⟨d, hd⟩ : ∃ d, a.length + b.length + d = 6 := ⟨6 - (a.length + b.length), by omega⟩
  have e := un24_far (f := conv a b) (l := 0) (h := h) (n := a.length + b.length) (d := d) fun k hk => conv_far hk
  rw [hd] at e
  rw [← e]
  have pad : ∀ {c : List Rat}, c.length ≤ 3 → ∀ k, pn c k = pn [pn c 0, pn c 1, pn c 2] k := by
    intro c hc k
    match k with
    | 0 => rfl
    | 1 => rfl
    | 2 => rfl
    | k + 3 => rw [pn_len (by omega), pn_len (by simp)]
  have ec : conv a b = conv [pn a 0, pn a 1, pn a 2] [pn b 0, pn b 1, pn b 2] := funext fun k => conv_ext (pad hb) (pad ha) k
  rw [ec]
  generalize pn a 0 = a0
  generalize pn a 1 = a1
  generalize pn a 2 = a2
  generalize pn b 0 = b0
  generalize pn b 1 = b1
  generalize pn b 2 = b2
  have c0 : conv [a0, a1, a2] [b0, b1, b2] 0 = a0 * b0 := rfl
  have c1 : conv [a0, a1, a2] [b0, b1, b2] 1 = a0 * b1 + a1 * b0 := rfl
  have c2 : conv [a0, a1, a2] [b0, b1, b2] 2 = a0 * b2 + (a1 * b1 + a2 * b0) := rfl
  have c3 : conv [a0, a1, a2] [b0, b1, b2] 3 = a0 * 0 + (a1 * b2 + (a2 * b1 + 0)) := rfl
  have c4 : conv [a0, a1, a2] [b0, b1, b2] 4 = a0 * 0 + (a1 * 0 + (a2 * b2 + 0)) := rfl
  have c5 : conv [a0, a1, a2] [b0, b1, b2] 5 = a0 * 0 + (a1 * 0 + (a2 * 0 + 0)) := rfl
  simp only [unS, c0, c1, c2, c3, c4, c5, Rat.pow_succ, Rat.pow_zero]
  have n0 : ((0 : Nat) : Rat) = 0 := rfl
  have n1 : ((1 : Nat) : Rat) = 1 := rfl
  have n2 : ((2 : Nat) : Rat) = 2 := rfl
  have n3 : ((3 : Nat) : Rat) = 3 := rfl
  have n4 : ((4 : Nat) : Rat) = 4 := rfl
  have n5 : ((5 : Nat) : Rat) = 5 := rfl
  simp only [n0, n1, n2, n3, n4, n5]
  grind
theorem bn_k {so : Int} {p : List Rat} (l : p.length ≤ 4) : (bnR so p).length ≤ 3 ∧ pn (bnR so p) 0 = (if so = 1 then pn p 1 else 2 * pn p 2) ∧ pn (bnR so p) 1 = (if so = 1 then 2 * pn p 2 else 6 * pn p 3) ∧ pn (bnR so p) 2 = (if so = 1 then 3 * pn p 3 else 0) := by
  have l1 := slP_len (p := p)
  have l2 := slP_len (p := slP p)
  have n0 : ((0 : Nat) : Rat) = 0 := rfl
  have n1 : ((1 : Nat) : Rat) = 1 := rfl
  have n2 : ((2 : Nat) : Rat) = 2 := rfl
  have n3 : ((3 : Nat) : Rat) = 3 := rfl
  unfold bnR
  split
  · refine ⟨by omega, ?_, ?_, ?_⟩
    · rw [slP_k, n0]; grind
    · rw [slP_k, n1]; grind
    · rw [slP_k, n2]; grind
  · refine ⟨by omega, ?_, ?_, ?_⟩
    · rw [slP_k, slP_k, n0, n1]; grind
    · rw [slP_k, slP_k, n1, n2]; grind
    · rw [slP_k, slP_k, n2, n3, pn_len (p := p) (by omega)]; grind
theorem un_pT {so : Int} {p q : List Rat} {h : Rat} (lp : p.length ≤ 4) (lq : q.length ≤ 4) : unS (conv (bnR so p) (bnR so q)) 0 h ((bnR so p).length + (bnR so q).length) = pT so p q h := by
  obtain ⟨a, a0, a1, a2⟩ := bn_k (so := so) lp
  obtain ⟨b, b0, b1, b2⟩ := bn_k (so := so) lq
  rw [conv3 a b, a0, a1, a2, b0, b1, b2]
  unfold pT
  split <;> grind
/-- what stands at an end -/
def bq (so : Int) (f g : Rat → Rat) (p : List Rat) (t x : Rat) : Rat := if so = 1 then mvN p t 1 * f x else 2 * mvN p t 2 * g x - 6 * mvN p t 3 * f x
def dq (so : Int) (f g : Rat → Rat) (cs : List Rat) (ps : List (List Rat)) (k : Nat) : Rat := bq so f g (pg ps k) (pn cs (k + 1) - pn cs k) (pn cs (k + 1)) - bq so f g (pg ps k) 0 (pn cs k)
def psi (so : Int) (f g : Rat → Rat) (cs : List Rat) (ps : List (List Rat)) : Nat → Rat
  | 0 => 0
  | n + 1 => psi so f g cs ps n + dq so f g cs ps n
section
variable {so : Int} {f g : Rat → Rat} {cs : List Rat} {ps : List (List Rat)}
theorem mvT_mv {p : List Rat} (l : p.length ≤ 4) (s t : Rat) (i : Nat) : mvN (mvT p s) t i = mvN p (s + t) i := mv_mv l mvT_len (mvT_pn l) i
theorem psi_ins (R : Rw cs ps) {k : Nat} {x : Rat} (hk : k < ps.length) : psi so f g (insC cs k x) (insC ps k (mvT (pg ps k) (x - pn cs k))) (ps.length + 1) = psi so f g cs ps ps.length := by
  have ln := R.ln
  have l4 := (R.tr _ (pg_mem hk)).2
  have C := fun i => ins_pn (cs := cs) (k := k) (x := x) (by omega) i
  have G := fun i => ins_pg (ps := ps) (k := k) (q := mvT (pg ps k) (x - pn cs k)) hk i
  have a : ∀ j, j ≤ k → psi so f g (insC cs k x) (insC ps k (mvT (pg ps k) (x - pn cs k))) j = psi so f g cs ps j := by
    intro j
    induction j with
    | zero => intro _; rfl
    | succ j ih =>
      intro hj
      show _ + dq _ _ _ _ _ j = _ + dq _ _ _ _ _ j
      rw [ih (by omega)]
      unfold dq
      rw [C, C, G, if_pos (by omega), if_pos (by omega), if_pos (by omega)]
  have b : ∀ d, psi so f g (insC cs k x) (insC ps k (mvT (pg ps k) (x - pn cs k))) (k + 2 + d) = psi so f g cs ps (k + 1 + d) := by
    intro d
    induction d with
    | zero =>
      show psi so f g _ _ k + dq _ _ _ _ _ k + dq _ _ _ _ _ (k + 1) = psi so f g cs ps k + dq _ _ _ _ _ k
      rw [a k (Nat.le_refl _)]
      unfold dq
      rw [C, C, C, G, G, if_neg (show ¬k + 1 ≤ k by omega), if_pos rfl, if_pos (Nat.le_refl _), if_neg (show ¬k + 1 + 1 ≤ k by omega), if_neg (show ¬k + 1 + 1 = k + 1 by omega), if_pos (Nat.le_refl _), if_neg (show ¬k + 1 ≤ k by omega), if_pos rfl, Nat.add_sub_cancel]
      have m1 := fun i => mvT_mv l4 (x - pn cs k) (pn cs (k + 1) - x) i
      have m2 := fun i => mvT_mv l4 (x - pn cs k) 0 i
      rw [show x - pn cs k + (pn cs (k + 1) - x) = pn cs (k + 1) - pn cs k by grind] at m1
      rw [show x - pn cs k + 0 = x - pn cs k by grind] at m2
      unfold bq
      rw [m1, m1, m1, m2, m2, m2]
      split <;> grind
    | succ d ih =>
      show psi so f g _ _ (k + 2 + d) + dq _ _ _ _ _ (k + 2 + d) = psi so f g cs ps (k + 1 + d) + dq _ _ _ _ _ (k + 1 + d)
      rw [ih]
      unfold dq
      rw [C, C, G, if_neg (by omega), if_neg (by omega), if_neg (by omega), if_neg (by omega), if_neg (by omega), if_neg (by omega), show k + 2 + d + 1 - 1 = k + 1 + d + 1 by omega, show k + 2 + d - 1 = k + 1 + d by omega]
  obtain ⟨d, hd⟩ : ∃ d, ps.length = k + 1 + d := ⟨ps.length - (k + 1), by omega⟩
  have := b d
  rw [← hd] at this
  rw [← this]
  congr 1
  omega
theorem psi_add (R : Rw cs ps) {x : Rat} (l : pn cs 0 ≤ x) (h : x ≤ pn cs ps.length) : psi so f g (addC (cs, ps) x).1 (addC (cs, ps) x).2 (addC (cs, ps) x).2.length = psi so f g cs ps ps.length := by
  unfold addC
  by_cases c : x ∈ cs
  · rw [if_pos c]
  · rw [if_neg c]
    obtain ⟨a, _⟩ := R.kOf l h c
    dsimp only
    rw [ins_len a]
    exact psi_ins R a
theorem psi_cut {D : Nat} {V T : Rat} : ∀ (xs : List Rat) {cs : List Rat} {ps : List (List Rat)}, RwD D V T cs ps → (∀ x ∈ xs, InR cs ps x) → psi so f g (xs.foldl addC (cs, ps)).1 (xs.foldl addC (cs, ps)).2 (xs.foldl addC (cs, ps)).2.length = psi so f g cs ps ps.length
  | [], _, _, _, _ => rfl
  | x :: xs, cs, ps, h, hx => by
    have i0 := hx x List.mem_cons_self
    have a := addC_ok h i0
    have b := psi_cut xs a.1 fun z m => by
      have := hx z (List.mem_cons_of_mem _ m)
      exact ⟨this.i, by rw [a.2.1]; exact this.lo, by rw [a.2.2.1]; exact this.hi⟩
    rw [List.foldl_cons]
    exact b.trans (psi_add h.rw_ i0.lo i0.hi)
/-- two functions that a row tells: its values and, unless of sort 1, its slopes -/
def FitR (so : Int) (f g : Rat → Rat) (cs : List Rat) (ps : List (List Rat)) : Prop := ∀ k, k < ps.length → ∀ x, pn cs k ≤ x → x ≤ pn cs (k + 1) → f x = mvN (pg ps k) (x - pn cs k) 0 ∧ (so ≠ 1 → g x = mvN (pg ps k) (x - pn cs k) 1)
theorem FitR.ins (F : FitR so f g cs ps) (R : Rw cs ps) {k : Nat} {x : Rat} (hk : k < ps.length) (h0 : pn cs k < x) (h1 : x < pn cs (k + 1)) : FitR so f g (insC cs k x) (insC ps k (mvT (pg ps k) (x - pn cs k))) := by
  have ln := R.ln
  have l4 := (R.tr _ (pg_mem hk)).2
  have C := fun i => ins_pn (cs := cs) (k := k) (x := x) (by omega) i
  have G := fun i => ins_pg (ps := ps) (k := k) (q := mvT (pg ps k) (x - pn cs k)) hk i
  have lp := ins_len (cs := ps) (k := k) (x := mvT (pg ps k) (x - pn cs k)) hk
  intro i hi y y0 y1
  rw [lp] at hi
  rw [C] at y0 y1
  rw [C, G]
  by_cases c : i + 1 ≤ k
  · rw [if_pos (by omega)] at y0
    rw [if_pos c] at y1
    rw [if_pos (by omega), if_pos (by omega)]
    exact F i (by omega) y y0 y1
  · by_cases c2 : i = k
    · subst c2
      rw [if_pos (Nat.le_refl _)] at y0
      rw [if_neg c, if_pos rfl] at y1
      rw [if_pos (Nat.le_refl _), if_pos (Nat.le_refl _)]
      exact F i hk y y0 (by grind)
    · by_cases c3 : i = k + 1
      · subst c3
        rw [if_neg (by omega), if_pos rfl] at y0
        rw [if_neg (by omega), if_neg (by omega), Nat.add_sub_cancel] at y1
        rw [if_neg (by omega), if_pos rfl, if_neg (by omega), if_pos rfl, mvT_mv l4, mvT_mv l4, show x - pn cs k + (y - x) = y - pn cs k by grind]
        exact F k hk y (by grind) y1
      · rw [if_neg (by omega), if_neg (by omega)] at y0
        rw [if_neg (by omega), if_neg (by omega)] at y1
        rw [if_neg (by omega), if_neg (by omega), if_neg (by omega), if_neg (by omega)]
        have := F (i - 1) (by omega) y y0 (by rw [show i - 1 + 1 = i + 1 - 1 by omega]; exact y1)
        exact this
theorem FitR.add (F : FitR so f g cs ps) (R : Rw cs ps) {x : Rat} (l : pn cs 0 ≤ x) (h : x ≤ pn cs ps.length) : FitR so f g (addC (cs, ps) x).1 (addC (cs, ps) x).2 := by
  unfold addC
  by_cases c : x ∈ cs
  · rw [if_pos c]
    exact F
  · rw [if_neg c]
    obtain ⟨a, b, d, _⟩ := R.kOf l h c
    exact F.ins R a b d
theorem FitR.cut {D : Nat} {V T : Rat} : ∀ (xs : List Rat) {cs : List Rat} {ps : List (List Rat)}, FitR so f g cs ps → RwD D V T cs ps → (∀ x ∈ xs, InR cs ps x) → FitR so f g (xs.foldl addC (cs, ps)).1 (xs.foldl addC (cs, ps)).2
  | [], _, _, F, _, _ => F
  | x :: xs, cs, ps, F, h, hx => by
    have i0 := hx x List.mem_cons_self
    have a := addC_ok h i0
    have b := FitR.cut xs (F.add h.rw_ i0.lo i0.hi) a.1 fun z m => by
      have := hx z (List.mem_cons_of_mem _ m)
      exact ⟨this.i, by rw [a.2.1]; exact this.lo, by rw [a.2.2.1]; exact this.hi⟩
    rw [List.foldl_cons]
    exact b
/-- a piece's pairing is the difference of what stands at its ends -/
theorem pT_bq {p q : List Rat} (lp : p.length ≤ 4) (lq : q.length ≤ 4) (s1 : so = 1 → pn p 2 = 0 ∧ pn p 3 = 0) {a b : Rat} (F0 : f a = mvN q 0 0 ∧ (so ≠ 1 → g a = mvN q 0 1)) (F1 : f b = mvN q (b - a) 0 ∧ (so ≠ 1 → g b = mvN q (b - a) 1)) : pT so p q (b - a) = bq so f g p (b - a) b - bq so f g p 0 a := by
  have P := fun t => mv4 (t := t) lp
  have Q := fun t => mv4 (t := t) lq
  have Q0 : ∀ t, mvN q t 0 = pn q 0 + t * (pn q 1 + t * (pn q 2 + t * pn q 3)) := fun t => by rw [ev_mv0, ev4 lq]
  unfold pT bq
  generalize b - a = h at *
  by_cases c : so = 1
  · obtain ⟨z2, z3⟩ := s1 c
    rw [if_pos c, if_pos c, if_pos c, F0.1, F1.1, Q0, Q0, (P h).1, (P 0).1, z2, z3]
    grind
  · rw [if_neg c, if_neg c, if_neg c, F0.1, F1.1, F0.2 c, F1.2 c, Q0, Q0, (Q h).1, (Q 0).1, (P h).2.1, (P h).2.2, (P 0).2.1, (P 0).2.2]
    grind
theorem prg_psi {qs : List (List Rat)} (R : Rw cs ps) (Q : Rw cs qs) (hl : ps.length = qs.length) (F : FitR so f g cs qs) (s1 : so = 1 → ∀ p ∈ ps, pn p 2 = 0 ∧ pn p 3 = 0) : ∀ k, k ≤ ps.length → prgR so (cs, ps) (cs, qs) k = psi so f g cs ps k
  | 0, _ => rfl
  | k + 1, hk => by
    have up := R.up k (by omega)
    have m1 := pg_mem (ps := ps) (k := k) (by omega)
    have m2 := pg_mem (ps := qs) (k := k) (by omega)
    have F0 := F k (by omega) (pn cs k) Rat.le_refl (Rat.le_of_lt up)
    have F1 := F k (by omega) (pn cs (k + 1)) (Rat.le_of_lt up) Rat.le_refl
    rw [show pn cs k - pn cs k = 0 by grind] at F0
    show prgR so (cs, ps) (cs, qs) k + _ = psi so f g cs ps k + dq so f g cs ps k
    rw [prg_psi R Q hl F s1 k (by omega), un_pT (R.tr _ m1).2 (Q.tr _ m2).2, pT_bq (R.tr _ m1).2 (Q.tr _ m2).2 (fun e => s1 e _ m1) F0 F1]
    rfl
theorem prg_comm {qs : List (List Rat)} (R : Rw cs ps) (Q : Rw cs qs) (hl : ps.length = qs.length) : ∀ k, k ≤ ps.length → prgR so (cs, ps) (cs, qs) k = prgR so (cs, qs) (cs, ps) k
  | 0, _ => rfl
  | k + 1, hk => by
    have m1 := pg_mem (ps := ps) (k := k) (by omega)
    have m2 := pg_mem (ps := qs) (k := k) (by omega)
    show prgR so (cs, ps) (cs, qs) k + _ = prgR so (cs, qs) (cs, ps) k + _
    rw [prg_comm R Q hl k (by omega), un_pT (R.tr _ m1).2 (Q.tr _ m2).2, un_pT (Q.tr _ m2).2 (R.tr _ m1).2, pT_comm]
end
theorem ixA_cut {cs : List Rat} {ps : List (List Rat)} (h : Rw cs ps) {k : Nat} (hk : k ≤ ps.length) : ∀ {m : Nat}, m ≤ ps.length → ixA cs (pn cs k) m = if 0 < k ∧ k ≤ m then some (k - 1) else none
  | 0, _ => by rw [if_neg (by omega)]; rfl
  | m + 1, hm => by
    show (if pn cs m < pn cs k ∧ pn cs k ≤ pn cs (m + 1) then some m else ixA cs (pn cs k) m) = _
    rw [ixA_cut h hk (m := m) (by omega)]
    by_cases c : k = m + 1
    · subst c
      rw [if_pos ⟨h.ltt (by omega) hm, Rat.le_refl⟩, if_pos ⟨by omega, Nat.le_refl _⟩]
      rfl
    · by_cases d : k ≤ m
      · have := h.mono d (by omega)
        rw [if_neg (fun z => by grind)]
        by_cases e : 0 < k
        · rw [if_pos ⟨e, d⟩, if_pos ⟨e, by omega⟩]
        · rw [if_neg (by omega), if_neg (by omega)]
      · have := h.ltt (i := m + 1) (j := k) (by omega) hk
        rw [if_neg (fun z => by grind), if_neg (by omega), if_neg (by omega)]
theorem ixB_cut {cs : List Rat} {ps : List (List Rat)} (h : Rw cs ps) {k : Nat} (hk : k ≤ ps.length) : ∀ {m : Nat}, m ≤ ps.length → ixB cs (pn cs k) m = if k < m then some k else none
  | 0, _ => by rw [if_neg (by omega)]; rfl
  | m + 1, hm => by
    show (if pn cs m ≤ pn cs k ∧ pn cs k < pn cs (m + 1) then some m else ixB cs (pn cs k) m) = _
    rw [ixB_cut h hk (m := m) (by omega)]
    by_cases c : k = m
    · subst c
      rw [if_pos ⟨Rat.le_refl, h.ltt (by omega) hm⟩, if_pos (by omega)]
    · by_cases d : k < m
      · have := h.ltt d (by omega)
        rw [if_neg (fun z => by grind), if_pos d, if_pos (by omega)]
      · have := h.mono (i := m + 1) (j := k) (by omega) hk
        rw [if_neg (fun z => by grind), if_neg (by omega), if_neg (by omega)]
/-! pulls and prices, plainly -/
theorem out_cut {cs : List Rat} {ps : List (List Rat)} (h : Rw cs ps) {k : Nat} (hk : k ≤ ps.length) : outR cs ps (pn cs k) = false := by
  have a := h.mono (i := 0) (j := k) (by omega) hk
  have b := h.mono (i := k) (j := ps.length) hk (Nat.le_refl _)
  unfold outR
  rw [decide_eq_false (by grind), decide_eq_false (by grind)]
  rfl
def bd (p : List Rat) (t : Rat) : Nat → Rat
  | 1 => mvN p t 1
  | 2 => 2 * mvN p t 2
  | _ => 6 * mvN p t 3
def srA (n : Nat) (rd : Bool) (k : Nat) : Option Nat := if 0 < k then some (k - 1) else if rd = true then some (n - 1) else none
def srB (n k : Nat) : Option Nat := if k < n then some k else none
def bsA (cs : List Rat) (ps : List (List Rat)) : Option Nat → D
  | none => c_NO_BENDS
  | some j => bD (pg ps j) (pn cs (j + 1) - pn cs j)
def bsB (ps : List (List Rat)) : Option Nat → D
  | none => c_NO_BENDS
  | some j => bD (pg ps j) 0
def brA (cs : List Rat) (ps : List (List Rat)) (i : Nat) : Option Nat → Rat
  | none => 0
  | some j => bd (pg ps j) (pn cs (j + 1) - pn cs j) i
def brB (ps : List (List Rat)) (i : Nat) : Option Nat → Rat
  | none => 0
  | some j => bd (pg ps j) 0 i
theorem ix_bsA {cs : List Rat} {ps : List (List Rat)} {o : Option Nat} {S : Sto} {P : EQ} : ixD (bsA cs ps o) (.int 1) S P = P (frq (brA cs ps 1 o)) S ∧ ixD (bsA cs ps o) (.int 2) S P = P (frq (brA cs ps 2 o)) S ∧ ixD (bsA cs ps o) (.int 3) S P = P (frq (brA cs ps 3 o)) S := by
  cases o with
  | none => exact ⟨by unfold bsA; rw [ix_t]; rfl, by unfold bsA; rw [ix_t]; rfl, by unfold bsA; rw [ix_t]; rfl⟩
  | some j => exact ⟨by unfold bsA bD; rw [ix_t]; rfl, by unfold bsA bD; rw [ix_t]; rfl, by unfold bsA bD; rw [ix_t]; rfl⟩
theorem ix_bsB {ps : List (List Rat)} {o : Option Nat} {S : Sto} {P : EQ} : ixD (bsB ps o) (.int 1) S P = P (frq (brB ps 1 o)) S ∧ ixD (bsB ps o) (.int 2) S P = P (frq (brB ps 2 o)) S ∧ ixD (bsB ps o) (.int 3) S P = P (frq (brB ps 3 o)) S := by
  cases o with
  | none => exact ⟨by unfold bsB; rw [ix_t]; rfl, by unfold bsB; rw [ix_t]; rfl, by unfold bsB; rw [ix_t]; rfl⟩
  | some j => exact ⟨by unfold bsB bD; rw [ix_t]; rfl, by unfold bsB bD; rw [ix_t]; rfl, by unfold bsB bD; rw [ix_t]; rfl⟩
/-- a row with sizes -/
structure RwQ (cs : List Rat) (ps : List (List Rat)) : Prop where
  rw_ : Rw cs ps
  cb : RL 20 cs
  RL : ∀ p ∈ ps, RL 80 p
  many : ps.length ≤ 6
theorem RwQ.tb {cs : List Rat} {ps : List (List Rat)} (h : RwQ cs ps) {j : Nat} : RB 41 (pn cs (j + 1) - pn cs j) := (h.cb.pn (by decide) _).sub (h.cb.pn (by decide) _)
abbrev PtB (p : Pt) : Prop := RL 900 p.v.ns ∧ RL 900 p.s.ns
theorem bd_RB {p : List Rat} {t : Rat} (h : RL 80 p) (l : p.length ≤ 4) (g : RB 41 t) (i : Nat) : RB 400 (bd p t i) := by
  obtain ⟨v1, v2, v3⟩ := bends4 (t := t) l
  have l1 := slP_len (p := p)
  have l2 := slP_len (p := slP p)
  have l3 := slP_len (p := slP (slP p))
  have r1 := slP_RL h (by decide) l
  have r2 := slP_RL r1 (by decide) (by omega)
  have r3 := slP_RL r2 (by decide) (by omega)
  have b1 := ev_RB r1 g
  have b2 := ev_RB r2 g
  have b3 := ev_RB r3 g
  rw [v1] at b1
  rw [v2] at b2
  rw [v3] at b3
  have m1 : (slP p).length * (80 + 3 + 41 + 2) ≤ 3 * (80 + 3 + 41 + 2) := Nat.mul_le_mul_right _ (by omega)
  have m2 : (slP (slP p)).length * (80 + 3 + 3 + 41 + 2) ≤ 2 * (80 + 3 + 3 + 41 + 2) := Nat.mul_le_mul_right _ (by omega)
  have m3 : (slP (slP (slP p))).length * (80 + 3 + 3 + 3 + 41 + 2) ≤ 1 * (80 + 3 + 3 + 3 + 41 + 2) := Nat.mul_le_mul_right _ (by omega)
  unfold bd
  split
  · exact b1.le (by omega)
  · exact b2.le (by omega)
  · exact b3.le (by omega)
structure PuS (t : Tk) (cs : List Rat) (ps : List (List Rat)) : Prop where
  rw_ : RwQ cs ps
  so : t.so = 1 ∨ t.so = 3
  pr : RB 155 t.pr
  ar : ∀ r, t.ar = some r → RB 30 r
  pts : ∀ p ∈ t.ps, PtB p
  ln : t.ps.length + (if t.ar.isSome = true then 1 else 0) = ps.length + 1
  x : ∀ k, k < t.ps.length → (t.ps.getD k default).x = pn cs k
theorem PuS.le {t : Tk} {cs : List Rat} {ps : List (List Rat)} (h : PuS t cs ps) : t.ps.length ≤ ps.length + 1 ∧ ps.length ≤ t.ps.length ∧ t.ps.length ≤ 7 := by
  have := h.ln
  have := h.rw_.many
  split at * <;> omega
theorem brA_RB {cs : List Rat} {ps : List (List Rat)} (h : RwQ cs ps) {o : Option Nat} (ho : ∀ j, o = some j → j < ps.length) (i : Nat) : RB 400 (brA cs ps i o) := by
  cases o with
  | none => exact RB.zero (by decide)
  | some j =>
    have hj := ho j rfl
    exact bd_RB (h.RL _ (pg_mem hj)) (h.rw_.tr _ (pg_mem hj)).2 h.tb i
theorem brB_RB {cs : List Rat} {ps : List (List Rat)} (h : RwQ cs ps) {o : Option Nat} (ho : ∀ j, o = some j → j < ps.length) (i : Nat) : RB 400 (brB ps i o) := by
  cases o with
  | none => exact RB.zero (by decide)
  | some j =>
    have hj := ho j rfl
    exact bd_RB (h.RL _ (pg_mem hj)) (h.rw_.tr _ (pg_mem hj)).2 (RB.zero (by decide)) i
theorem srA_lt {n k : Nat} {rd : Bool} (n0 : 0 < n) (hk : k ≤ n) : ∀ j, srA n rd k = some j → j < n := by
  intro j e
  unfold srA at e
  split at e
  · cases e; omega
  · split at e
    · cases e; omega
    · cases e
theorem srB_lt {n k : Nat} : ∀ j, srB n k = some j → j < n := by
  intro j e
  unfold srB at e
  split at e
  · cases e; omega
  · cases e
/-- how a row pulls at the k-th point -/
def puR (so : Int) (rd : Bool) (cs : List Rat) (ps : List (List Rat)) (k : Nat) : Rat × Rat :=
  if so = 1 then (brA cs ps 1 (srA ps.length rd k) - brB ps 1 (srB ps.length k), 0)
  else (brB ps 3 (srB ps.length k) - brA cs ps 3 (srA ps.length rd k), brA cs ps 2 (srA ps.length rd k) - brB ps 2 (srB ps.length k))
theorem puR_RB {so : Int} {rd : Bool} {cs : List Rat} {ps : List (List Rat)} (h : RwQ cs ps) {k : Nat} (hk : k ≤ ps.length) : RB 801 (puR so rd cs ps k).1 ∧ RB 801 (puR so rd cs ps k).2 := by
  have a := fun i => brA_RB h (srA_lt (rd := rd) h.rw_.ne hk) i
  have b := fun i => brB_RB h (srB_lt (n := ps.length) (k := k)) i
  unfold puR
  split
  · exact ⟨(a 1).sub (b 1), RB.zero (by decide)⟩
  · exact ⟨(b 3).sub (a 3), (a 2).sub (b 2)⟩
def vaR (cs : List Rat) (ps : List (List Rat)) (k : Nat) : Rat := ev (pg ps (min k (ps.length - 1))) (pn cs k - pn cs (min k (ps.length - 1)))
theorem vaR_at {cs : List Rat} {ps : List (List Rat)} (h : Rw cs ps) {k : Nat} (hk : k ≤ ps.length) : ev (pg ps (k - 1)) (pn cs k - pn cs (k - 1)) = vaR cs ps k := by
  have ne := h.ne
  unfold vaR
  by_cases c : k < ps.length
  · have e : min k (ps.length - 1) = k := by omega
    have z : pn cs k - pn cs k = 0 := by grind
    rw [e, z, ev_00]
    by_cases c0 : k = 0
    · subst c0
      show ev (pg ps 0) (pn cs 0 - pn cs 0) = _
      have z : pn cs 0 - pn cs 0 = 0 := by grind
      rw [z, ev_00]
    · have := h.jn (k - 1) (by omega)
      rw [show k - 1 + 1 = k by omega] at this
      exact this
  · have e : min k (ps.length - 1) = k - 1 := by omega
    rw [e]
theorem vaR_RB {cs : List Rat} {ps : List (List Rat)} (h : RwQ cs ps) {k : Nat} (hk : k ≤ ps.length) : RB 500 (vaR cs ps k) := by
  have ne := h.rw_.ne
  have hj : min k (ps.length - 1) < ps.length := by omega
  have tb : RB 41 (pn cs k - pn cs (min k (ps.length - 1))) := by
    by_cases c : k < ps.length
    · have e : min k (ps.length - 1) = k := by omega
      have z : pn cs k - pn cs k = 0 := by grind
      rw [e, z]
      exact RB.zero (by decide)
    · have e : min k (ps.length - 1) = k - 1 := by omega
      have := h.tb (j := k - 1)
      rw [show k - 1 + 1 = k by omega] at this
      rw [e]
      exact this
  refine (ev_RB (h.RL _ (pg_mem hj)) tb).le ?_
  have := (h.rw_.tr _ (pg_mem hj)).2
  have m : (pg ps (min k (ps.length - 1))).length * (80 + 41 + 2) ≤ 4 * (80 + 41 + 2) := Nat.mul_le_mul_right _ this
  omega
/-- the price at the k-th point -/
def nearW : Wi → Option (Rat × Rat)
  | .near q w => some (q, w)
  | _ => none
def prR (pr : Rat) (w : Wi) (v : Rat) (a : Rat × Rat) : Rat × Rat := (match nearW w with
  | some z => pr * a.1 + z.2 * (v - z.1)
  | none => pr * a.1, pr * a.2)
abbrev paD (a : Rat × Rat) : D := .tup [frq a.1, frq a.2]
abbrev paP (a : Rat × Rat) : PyData := .tuple [frP a.1, frP a.2]
def rngN (k : Nat) : Nat → List Nat
  | 0 => []
  | m + 1 => k :: rngN (k + 1) m
theorem rngN_len : ∀ (m k : Nat), (rngN k m).length = m
  | 0, _ => rfl
  | m + 1, k => by
    show (rngN (k + 1) m).length + 1 = m + 1
    rw [rngN_len m]
theorem rngN_eq : ∀ (m k : Nat), rngN k m = (List.range m).map (k + ·)
  | 0, _ => rfl
  | m + 1, k => by
    show k :: rngN (k + 1) m = _
    rw [rngN_eq m, List.range_succ_eq_map, List.map_cons, List.map_map]
    congr 1
    refine List.map_congr_left fun i _ => ?_
    show k + 1 + i = k + (i + 1)
    omega
theorem rngN_0 {m : Nat} : rngN 0 m = List.range m := by
  rw [rngN_eq]
  simp
/-! pulls and prices, the program's walk -/
theorem isn_n : isNon D.non = true := rfl
theorem isn_t {ds : List D} : isNon (D.tup ds) = false := rfl
abbrev PuK (t : Tk) (cs : List Rat) (ps : List (List Rat)) (k : Nat) : Prop := PuS t cs ps ∧ k < t.ps.length
abbrev sp_bends_there : Spec := fun ds S Q _ => ∃ (t : Tk) (cs : List Rat) (ps : List (List Rat)) (k : Nat), ds = [tkD t, rowD cs ps, .int (k : Int)] ∧ PuK t cs ps k ∧ Q (.tup [bsA cs ps (srA ps.length t.ar.isSome k), bsB ps (srB ps.length k)]) S
theorem use_there {S : Sto} {t : Tk} {cs : List Rat} {ps : List (List Rat)} {k : Nat} {Q : EQ} {U : Ex → Sto → Prop} (h : PuK t cs ps k) (q : Q (.tup [bsA cs ps (srA ps.length t.ar.isSome k), bsB ps (srB ps.length k)]) S) : @callS sp_bends_there [tkD t, rowD cs ps, .int (k : Int)] S U ⟨Q⟩ := ⟨t, cs, ps, k, rfl, h, q⟩
def b_bends_there : Sms := .cons (.asg (.tp (.cons (.nm 3) (.cons (.nm 4) (.nil)))) (.call "bends_at" sp_bends_at (.cons (.v 1) (.cons (.ix (.ix (.ix (.v 0) (.cI 3)) (.v 2)) (.cI 0)) (.nil))))) (.cons (.ite (.and_ (.cons (.cmp .isN (.v 3) (.cN)) (.cons (.cmp .noN (.ix (.v 0) (.cI 1)) (.cN)) (.nil)))) (.cons (.asg (.nm 3) (.ix (.call "bends_at" sp_bends_at (.cons (.v 1) (.cons (.ix (.ix (.v 1) (.cI 0)) (.neg (.cI 1))) (.nil)))) (.cI 0))) (.nil)) (.nil)) (.cons (.ret (.tup (.cons (.ite (.cmp .isN (.v 3) (.cN)) (.gl "NO_BENDS" c_NO_BENDS) (.v 3)) (.cons (.ite (.cmp .isN (.v 4) (.cN)) (.gl "NO_BENDS" c_NO_BENDS) (.v 4)) (.nil))))) (.nil)))
theorem t_bends_there : Keeps 5 b_bends_there sp_bends_there 3 := by
  rintro ds S Q U ⟨t, cs, ps, k, rfl, ⟨H, hk⟩, h⟩
  refine ⟨rfl, ?_⟩
  have R := H.rw_
  have rw_ := R.rw_
  have ne := rw_.ne
  obtain ⟨l1, l2, l3⟩ := H.le
  have many := R.many
  have at0 := at_pt hk
  have xk := H.x k hk
  have rl45 : RL 60 cs := R.cb.le (by decide)
  have bx : ∀ i, i ≤ ps.length → RB 60 (pn cs i) := fun i _ => (R.cb.pn (by decide) i).le (by decide)
  have kn : k ≤ ps.length := by omega
  have r210 : ∀ p ∈ ps, RL 300 p := fun p m => (R.RL p m).le (by decide)
  simp! only [b_bends_there, tk_ix, at0, ix_p0, xk]
  refine use_bends_at ⟨rw_, rl45, bx k kn, r210, by omega⟩ ?_
  rw [out_cut rw_ kn, if_neg Bool.false_ne_true, ixA_cut rw_ kn (Nat.le_refl _), ixB_cut rw_ kn (Nat.le_refl _)]
  have z : pn cs k - pn cs k = 0 := by grind
  have lastc : atI cs (-1) = some (pn cs ps.length) := last_row rw_
  by_cases c0 : k = 0
  · have eB : boD cs ps (pn cs k) (if k < ps.length then some k else none) = bsB ps (srB ps.length k) := by
      unfold srB
      rw [if_pos (show k < ps.length by omega)]
      show bD (pg ps k) (pn cs k - pn cs k) = bD (pg ps k) 0
      rw [z]
    have eB2 : bsB ps (srB ps.length k) = .tup [frq (mvN (pg ps k) 0 0), frq (mvN (pg ps k) 0 1), frq (2 * mvN (pg ps k) 0 2), frq (6 * mvN (pg ps k) 0 3)] := by
      unfold srB
      rw [if_pos (show k < ps.length by omega)]
      rfl
    rw [eB, if_neg (by omega), eB2]
    rw [eB2] at h
    unfold srA at h
    rw [if_neg (by omega)] at h
    cases ar : t.ar with
    | none =>
      rw [ar] at h
      simp! only [boD, tk_ix, ar, arD]
      rw [show (isNon D.non && !isNon D.non) = false from rfl, iteS_0]
      simp! only [isn_n, isn_t]
      rw [if_neg (show ¬(none : Option Rat).isSome = true from Bool.false_ne_true)] at h
      exact h
    | some r =>
      rw [ar] at h
      simp! only [boD, tk_ix, ar, arD, frq, ixrow0, lastc]
      refine use_bends_at ⟨rw_, rl45, bx _ (Nat.le_refl _), r210, by omega⟩ ?_
      rw [out_cut rw_ (Nat.le_refl _), if_neg Bool.false_ne_true, ixA_cut rw_ (Nat.le_refl _) (Nat.le_refl _), ixB_cut rw_ (Nat.le_refl _) (Nat.le_refl _), if_pos ⟨ne, Nat.le_refl _⟩]
      have eA : boD cs ps (pn cs ps.length) (some (ps.length - 1)) = .tup [frq (mvN (pg ps (ps.length - 1)) (pn cs ps.length - pn cs (ps.length - 1)) 0), frq (mvN (pg ps (ps.length - 1)) (pn cs ps.length - pn cs (ps.length - 1)) 1), frq (2 * mvN (pg ps (ps.length - 1)) (pn cs ps.length - pn cs (ps.length - 1)) 2), frq (6 * mvN (pg ps (ps.length - 1)) (pn cs ps.length - pn cs (ps.length - 1)) 3)] := rfl
      rw [eA]
      have e1 : bsA cs ps (some (ps.length - 1)) = bD (pg ps (ps.length - 1)) (pn cs ps.length - pn cs (ps.length - 1)) := by
        show bD (pg ps (ps.length - 1)) (pn cs (ps.length - 1 + 1) - pn cs (ps.length - 1)) = _
        rw [show ps.length - 1 + 1 = ps.length by omega]
      rw [if_pos (show (some r).isSome = true from rfl), e1] at h
      simp! only [isn_n, isn_t]
      exact h
  · have eA : boD cs ps (pn cs k) (some (k - 1)) = .tup [frq (mvN (pg ps (k - 1)) (pn cs k - pn cs (k - 1)) 0), frq (mvN (pg ps (k - 1)) (pn cs k - pn cs (k - 1)) 1), frq (2 * mvN (pg ps (k - 1)) (pn cs k - pn cs (k - 1)) 2), frq (6 * mvN (pg ps (k - 1)) (pn cs k - pn cs (k - 1)) 3)] := rfl
    have e1 : bsA cs ps (some (k - 1)) = bD (pg ps (k - 1)) (pn cs k - pn cs (k - 1)) := by
      show bD (pg ps (k - 1)) (pn cs (k - 1 + 1) - pn cs (k - 1)) = _
      rw [show k - 1 + 1 = k by omega]
    rw [if_pos ⟨by omega, kn⟩, eA]
    unfold srA at h
    rw [if_pos (by omega), e1] at h
    by_cases c : k < ps.length
    · have eB : boD cs ps (pn cs k) (some k) = .tup [frq (mvN (pg ps k) 0 0), frq (mvN (pg ps k) 0 1), frq (2 * mvN (pg ps k) 0 2), frq (6 * mvN (pg ps k) 0 3)] := by
        show bD (pg ps k) (pn cs k - pn cs k) = bD (pg ps k) 0
        rw [z]
      unfold srB at h
      rw [if_pos c] at h
      rw [if_pos c, eB]
      simp! only [isn_n, isn_t]
      exact h
    · unfold srB at h
      rw [if_neg c] at h
      rw [if_neg c]
      simp! only [boD, isn_n, isn_t]
      exact h
abbrev sp_pull_of : Spec := fun ds S Q _ => ∃ (t : Tk) (cs : List Rat) (ps : List (List Rat)) (k : Nat), ds = [tkD t, rowD cs ps, .int (k : Int)] ∧ PuK t cs ps k ∧ Q (paD (puR t.so t.ar.isSome cs ps k)) S
theorem use_pull {S : Sto} {t : Tk} {cs : List Rat} {ps : List (List Rat)} {k : Nat} {Q : EQ} {U : Ex → Sto → Prop} (h : PuK t cs ps k) (q : Q (paD (puR t.so t.ar.isSome cs ps k)) S) : @callS sp_pull_of [tkD t, rowD cs ps, .int (k : Int)] S U ⟨Q⟩ := ⟨t, cs, ps, k, rfl, h, q⟩
def b_pull_of : Sms := .cons (.asg (.tp (.cons (.nm 3) (.cons (.nm 4) (.nil)))) (.call "bends_there" sp_bends_there (.cons (.v 0) (.cons (.v 1) (.cons (.v 2) (.nil)))))) (.cons (.ite (.cmp .eq (.ix (.v 0) (.cI 0)) (.cI 1)) (.cons (.ret (.tup (.cons (.call "minus_by" sp_minus_by (.cons (.ix (.v 3) (.cI 1)) (.cons (.ix (.v 4) (.cI 1)) (.nil)))) (.cons (.gl "NAUGHT" c_NAUGHT) (.nil))))) (.nil)) (.nil)) (.cons (.ret (.tup (.cons (.call "minus_by" sp_minus_by (.cons (.ix (.v 4) (.cI 3)) (.cons (.ix (.v 3) (.cI 3)) (.nil)))) (.cons (.call "minus_by" sp_minus_by (.cons (.ix (.v 3) (.cI 2)) (.cons (.ix (.v 4) (.cI 2)) (.nil)))) (.nil))))) (.nil)))
theorem t_pull_of : Keeps 5 b_pull_of sp_pull_of 3 := by
  rintro ds S Q U ⟨t, cs, ps, k, rfl, H, h⟩
  refine ⟨rfl, ?_⟩
  have R := H.1.rw_
  have kn : k ≤ ps.length := by have := H.1.le; have := H.2; omega
  have a9 : ∀ i, RB 3900 (brA cs ps i (srA ps.length t.ar.isSome k)) := fun i => (brA_RB R (srA_lt R.rw_.ne kn) i).le (by decide)
  have b9 : ∀ i, RB 3900 (brB ps i (srB ps.length k)) := fun i => (brB_RB R srB_lt i).le (by decide)
  have A := fun (S : Sto) (P : EQ) => ix_bsA (cs := cs) (ps := ps) (o := srA ps.length t.ar.isSome k) (S := S) (P := P)
  have B := fun (S : Sto) (P : EQ) => ix_bsB (ps := ps) (o := srB ps.length k) (S := S) (P := P)
  simp! only [b_pull_of]
  refine use_there H ?_
  simp! only [tk_ix]
  unfold puR at h
  rcases H.1.so with so | so
  · rw [so, if_pos rfl] at h
    simp! only [so, A, B, ↓q2_sub, a9, b9]
    exact h
  · rw [so, if_neg (by decide)] at h
    have d : decide ((3 : Int) = 1) = false := by decide
    simp! only [so, d, A, B, ↓q2_sub, a9, b9]
    exact h
abbrev sp_pulls_of : Spec := fun ds S Q _ => ∃ (t : Tk) (cs : List Rat) (ps : List (List Rat)), ds = [tkD t, rowD cs ps] ∧ PuS t cs ps ∧ Q (.tup ((List.range t.ps.length).map fun k => paD (puR t.so t.ar.isSome cs ps k))) S
theorem use_pulls {S : Sto} {t : Tk} {cs : List Rat} {ps : List (List Rat)} {Q : EQ} {U : Ex → Sto → Prop} (h : PuS t cs ps) (q : Q (.tup ((List.range t.ps.length).map fun k => paD (puR t.so t.ar.isSome cs ps k))) S) : @callS sp_pulls_of [tkD t, rowD cs ps] S U ⟨Q⟩ := ⟨t, cs, ps, rfl, h, q⟩
def b_pulls_of : Sms := .cons (.ret (.bi .tuple false (.cons (.lc false (.call "pull_of" sp_pull_of (.cons (.v 0) (.cons (.v 1) (.cons (.v 2) (.nil))))) (.nm 2) (.r1 (.bi .len false (.cons (.ix (.v 0) (.cI 3)) (.nil)))) (.nil)) (.nil)))) (.nil)
theorem t_pulls_of : Keeps 3 b_pulls_of sp_pulls_of 2 := by
  rintro ds S Q U ⟨t, cs, ps, rfl, H, h⟩
  refine ⟨rfl, ?_⟩
  have l7 := H.le
  simp! only [b_pulls_of, tk_ix, len_tm]
  rw [List.length_map]
  refine ⟨r62_ok (by omega), ?_⟩
  rw [Int.toNat_natCast, rng_mapL]
  refine lc_pure (g := fun k : Nat => paD (puR t.so t.ar.isSome cs ps k)) trivial _ (by rw [List.length_range]; exact few_ok (by omega)) ?_ ?_
  · intro k hk R hR
    have hk := List.mem_range.mp hk
    rw [show (0 : Int) + (k : Int) = (k : Int) by omega]
    simp! only
    exact use_pull ⟨H, hk⟩ hR
  · simp! only
    exact h
theorem zip_maps : ∀ (ps : List Pt) (n : Nat) (g : Nat → D), zipD (ps.map ptD) ((rngN n ps.length).map g) = (rngN n ps.length).map fun k => D.tup [ptD (ps.getD (k - n) default), g k]
  | [], n, g => rfl
  | p :: ps, n, g => by
    show D.tup [ptD p, g n] :: zipD (ps.map ptD) ((rngN (n + 1) ps.length).map g) = D.tup [ptD ((p :: ps).getD (n - n) default), g n] :: (rngN (n + 1) ps.length).map fun k => D.tup [ptD ((p :: ps).getD (k - n) default), g k]
    rw [zip_maps ps (n + 1) g, Nat.sub_self]
    congr 1
    refine List.map_congr_left fun k m => ?_
    rw [rngN_eq] at m
    obtain ⟨i, _, rfl⟩ := List.mem_map.mp m
    rw [show n + 1 + i - n = (n + 1 + i - (n + 1)) + 1 by omega, List.getD_cons_succ]
theorem near_wd {w : Wi} : decide (w.wd = "near") = (nearW w).isSome := by
  cases w
  · exact sx_fenr
  · exact sx_hdnr
  · exact sy_nr
  · exact sx_ltnr
  · exact sx_mtnr
theorem near_ix {w : Wi} {q u : Rat} (h : nearW w = some (q, u)) {S : Sto} {P : EQ} : ixD (wiD w) (.int 1) S P = P (frq q) S ∧ ixD (wiD w) (.int 2) S P = P (frq u) S := by
  cases w with
  | near a b =>
    cases h
    exact ⟨by unfold wiD; rw [ix_t]; rfl, by unfold wiD; rw [ix_t]; rfl⟩
  | _ => cases h
theorem near_ns {w : Wi} {q u : Rat} (h : nearW w = some (q, u)) : w.ns = [q, u] := by
  cases w with
  | near a b =>
    cases h
    rfl
  | _ => cases h
abbrev prK (t : Tk) (cs : List Rat) (ps : List (List Rat)) (k : Nat) : Rat × Rat := prR t.pr (t.ps.getD k default).v (vaR cs ps k) (puR t.so t.ar.isSome cs ps k)
abbrev sp_prices_of : Spec := fun ds S Q _ => ∃ (t : Tk) (cs : List Rat) (ps : List (List Rat)), ds = [tkD t, rowD cs ps] ∧ PuS t cs ps ∧ Q (.tup ((List.range t.ps.length).map fun k => paD (prK t cs ps k))) S
theorem use_prices {S : Sto} {t : Tk} {cs : List Rat} {ps : List (List Rat)} {Q : EQ} {U : Ex → Sto → Prop} (h : PuS t cs ps) (q : Q (.tup ((List.range t.ps.length).map fun k => paD (prK t cs ps k))) S) : @callS sp_prices_of [tkD t, rowD cs ps] S U ⟨Q⟩ := ⟨t, cs, ps, rfl, h, q⟩
theorem w_tp3 {a b c : D} {p : Pt} : ptD p = .tup [frq p.x, wiD p.v, wiD p.s] := rfl
/-! the sum of pulls times values and slopes -/
theorem ev_slU {p : List Rat} {t : Rat} (l : p.length ≤ 4) : ev (slU p) t = mvN p t 1 := by
  rw [← ev_trim (slU p)]
  exact (bends4 (t := t) l).1
theorem thX (es : List Rat) (x : Rat) : ∀ m : Nat, 0 < m → ∃ k, k < m ∧ (pn es 0 ≤ x → pn es k ≤ x) ∧ ∀ j, j < m → pn es j ≤ x → j ≤ k
  | 1, _ => ⟨0, by omega, id, fun j hj _ => by omega⟩
  | m + 2, _ => by
    obtain ⟨k, a, b, c⟩ := thX es x (m + 1) (by omega)
    by_cases e : pn es (m + 1) ≤ x
    · exact ⟨m + 1, by omega, fun _ => e, fun j hj _ => by omega⟩
    · refine ⟨k, by omega, b, fun j hj hx => ?_⟩
      by_cases z : j = m + 1
      · rw [z] at hx
        exact absurd hx e
      · exact c j (by omega) hx
/-- the last piece that does not begin behind a place -/
noncomputable def thI (es : List Rat) (m : Nat) (x : Rat) : Nat := if h : 0 < m then Classical.choose (thX es x m h) else 0
theorem thI_ok {es : List Rat} {m : Nat} (h : 0 < m) (x : Rat) : thI es m x < m ∧ (pn es 0 ≤ x → pn es (thI es m x) ≤ x) ∧ ∀ j, j < m → pn es j ≤ x → j ≤ thI es m x := by
  unfold thI
  rw [dif_pos h]
  exact Classical.choose_spec (thX es x m h)
noncomputable def vF (es : List Rat) (qs : List (List Rat)) (x : Rat) : Rat := mvN (pg qs (thI es qs.length x)) (x - pn es (thI es qs.length x)) 0
noncomputable def sF (es : List Rat) (qs : List (List Rat)) (x : Rat) : Rat := mvN (pg qs (thI es qs.length x)) (x - pn es (thI es qs.length x)) 1
def SmJ (so : Int) (es : List Rat) (qs : List (List Rat)) : Prop := so ≠ 1 → ∀ k, k + 1 < qs.length → mvN (pg qs k) (pn es (k + 1) - pn es k) 1 = mvN (pg qs (k + 1)) 0 1
theorem fit0 {so : Int} {es : List Rat} {qs : List (List Rat)} (R : Rw es qs) (J : SmJ so es qs) : FitR so (vF es qs) (sF es qs) es qs := by
  have ne := R.ne
  intro k hk x h0 h1
  obtain ⟨a, b, c⟩ := thI_ok (es := es) ne x
  have b := b (by
    have := R.le' (i := 0) (j := k) (Nat.zero_le _) (by omega)
    grind)
  have kl := c k hk h0
  unfold vF sF
  generalize thI es qs.length x = i at *
  by_cases e : i = k
  · rw [e]
    exact ⟨rfl, fun _ => rfl⟩
  · have ki : k + 1 ≤ i := by omega
    have m := R.le' (i := k + 1) (j := i) ki (by omega)
    have ex : x = pn es (k + 1) := by grind
    have ei : i = k + 1 := by
      by_cases z : k + 1 < i
      · have := R.lt' (i := k + 1) (j := i) z (by omega)
        grind
      · omega
    subst ei
    have j := R.jn k a
    rw [ex, show pn es (k + 1) - pn es (k + 1) = 0 by grind]
    refine ⟨?_, fun s => (J s k a).symm⟩
    rw [ev_mv0, ev_mv0, ev_00]
    exact j.symm
def sP (so : Int) (rd : Bool) (f g : Rat → Rat) (cs : List Rat) (ps : List (List Rat)) : Nat → Rat
  | 0 => 0
  | n + 1 => sP so rd f g cs ps n + ((puR so rd cs ps n).1 * f (pn cs n) + (puR so rd cs ps n).2 * g (pn cs n))
section
variable {so : Int} {rd : Bool} {f g : Rat → Rat} {cs : List Rat} {ps : List (List Rat)}
def aq (so : Int) (f g : Rat → Rat) (cs : List Rat) (ps : List (List Rat)) (x : Rat) : Option Nat → Rat
  | none => 0
  | some j => bq so f g (pg ps j) (pn cs (j + 1) - pn cs j) x
theorem pu_bq (s : so = 1 ∨ so = 3) (k : Nat) : (puR so rd cs ps k).1 * f (pn cs k) + (puR so rd cs ps k).2 * g (pn cs k) = aq so f g cs ps (pn cs k) (srA ps.length rd k) - (if k < ps.length then bq so f g (pg ps k) 0 (pn cs k) else 0) := by
  unfold puR srB
  rcases s with rfl | rfl
  · cases srA ps.length rd k <;> by_cases c : k < ps.length <;> simp only [c, aq, bq, brA, brB, bd, if_true, if_false] <;> grind
  · cases srA ps.length rd k <;> by_cases c : k < ps.length <;> simp only [c, aq, bq, brA, brB, bd, if_true, if_false, Int.reduceEq] <;> grind
theorem sP_go (s : so = 1 ∨ so = 3) : ∀ j, j < ps.length → sP so rd f g cs ps (j + 1) = aq so f g cs ps (pn cs 0) (srA ps.length rd 0) + psi so f g cs ps j - bq so f g (pg ps j) 0 (pn cs j)
  | 0, hj => by
    show 0 + _ = _ + 0 - _
    rw [pu_bq s, if_pos hj]
    grind
  | j + 1, hj => by
    show sP so rd f g cs ps (j + 1) + _ = _ + (psi so f g cs ps j + dq so f g cs ps j) - _
    rw [sP_go s j (by omega), pu_bq s, if_pos hj]
    have e : srA ps.length rd (j + 1) = some j := by
      unfold srA
      rw [if_pos (by omega)]
      rfl
    rw [e]
    unfold dq aq
    grind
theorem sP_psi (s : so = 1 ∨ so = 3) (n0 : 0 < ps.length) {N : Nat} (hN : N + (if rd = true then 1 else 0) = ps.length + 1) (hr : rd = true → f (pn cs 0) = f (pn cs ps.length) ∧ (so ≠ 1 → g (pn cs 0) = g (pn cs ps.length))) : sP so rd f g cs ps N = psi so f g cs ps ps.length := by
  obtain ⟨m, em⟩ : ∃ m, ps.length = m + 1 := ⟨ps.length - 1, by omega⟩
  have G := sP_go (rd := rd) (f := f) (g := g) (cs := cs) (ps := ps) s m (by omega)
  cases rd with
  | false =>
    rw [if_neg Bool.false_ne_true] at hN
    obtain rfl : N = m + 1 + 1 := by omega
    rw [em]
    show sP so false f g cs ps (m + 1) + _ = psi so f g cs ps m + dq so f g cs ps m
    rw [G, pu_bq s, if_neg (by omega)]
    have e : srA ps.length false (m + 1) = some m := by
      unfold srA
      rw [if_pos (by omega)]
      rfl
    have e0 : srA ps.length false 0 = none := rfl
    rw [e, e0]
    unfold dq aq
    grind
  | true =>
    rw [if_pos rfl] at hN
    obtain rfl : N = m + 1 := by omega
    obtain ⟨h1, h2⟩ := hr rfl
    rw [G, em]
    show _ = psi so f g cs ps m + dq so f g cs ps m
    have e0 : srA (m + 1) true 0 = some m := rfl
    rw [em] at h1 h2
    rw [e0]
    unfold dq
    show bq so f g (pg ps m) (pn cs (m + 1) - pn cs m) (pn cs 0) + _ - _ = _
    have eb : bq so f g (pg ps m) (pn cs (m + 1) - pn cs m) (pn cs 0) = bq so f g (pg ps m) (pn cs (m + 1) - pn cs m) (pn cs (m + 1)) := by
      unfold bq
      by_cases c : so = 1
      · rw [if_pos c, if_pos c, h1]
      · rw [if_neg c, if_neg c, h1, h2 c]
    rw [eb]
    grind
end
theorem set_m1 {p : Addr} {ds : List D} {v : D} {S : Sto} {R : Sto → Prop} (h : S p = some (.lst ds)) (hl : 0 < ds.length) (r : R (supd S p (.lst (ds.set (ds.length - 1) v)))) : setD (.ref p) (.int (-1)) v S R := by
  show setC p (S p) _ _ _ _
  rw [h]
  refine ⟨-1, ds.length - 1, rfl, ?_, r⟩
  unfold ixN
  rw [if_neg (by decide), if_pos (by omega)]
  congr 1
  omega
/-- a list of drawn things of a kind -/
theorem lc_gen {α : Type} (g : α → D) {m : Bool} {i : Nat} {elt : WpE} {δ : Dts} {P : EQ} {f : Addr} {n k N : Nat} {S0 : Sto} {G : α → Prop} (hN : N ≤ 1000) (hM : n + k * N < nMost)
    (he : ∀ (d : D) (S : Sto) (R : EQ) (j : Nat), Feed (n + k * j) S f → n + k * j + k < nMost → (∀ (r : α) (S' : Sto), G r → Adv f (n + k * j) k S S' → R (g r) S') → wG (.nm i) d δ S fun δ' => elt δ' S R)
    (hF : Feed n S0 f) (fin : ∀ (ys : List α) (S : Sto), ys.length = N → (∀ y ∈ ys, G y) → Adv f n (k * N) S0 S → nwL m (ys.map g) S P) (ds : List D) (hds : ds.length = N) : wLc m (.nm i) noIf elt (fun _ => True) δ P ds [] S0 := by
  refine lc_inv (fun ds acc S => ∃ ys : List α, acc = ys.map g ∧ ys.length + ds.length = N ∧ (∀ y ∈ ys, G y) ∧ Adv f n (k * ys.length) S0 S) ?_ ?_ _ _ _ ⟨[], rfl, by simpa using hds, (fun x m => nomatch m), by simpa using Adv.refl hF⟩
  · rintro d ds acc S nx hnx ⟨ys, rfl, hl, hr, A⟩
    rw [List.length_cons] at hl
    have hk : k * ys.length + k ≤ k * N := by
      rw [← Nat.mul_succ]
      exact Nat.mul_le_mul_left k (by omega)
    refine ⟨by rw [List.length_map]; exact Nat.lt_of_le_of_lt (show ys.length ≤ 1000 by omega) (by decide), he d S nx ys.length A.fd (by omega) fun r S' h1 h2 => ?_⟩
    refine hnx _ _ trivial ⟨ys ++ [r], by simp, by simp; omega, fun x mx => ?_, ?_⟩
    · rcases List.mem_append.mp mx with mx | mx
      · exact hr x mx
      · rw [List.mem_singleton.mp mx]; exact h1
    · have := A.trans h2
      rw [List.length_append, List.length_singleton, Nat.mul_add, Nat.mul_one]
      exact this
  · rintro acc S ⟨ys, rfl, hl, hr, A⟩
    rw [List.length_nil, Nat.add_zero] at hl
    rw [hl] at A
    exact fin ys S hl hr A
/-! places drawn -/
structure CtS (k : Nat) (cs : List Rat) : Prop where
  lc : cs.length = k + 1
  up : ∀ i, i < k → pn cs i < pn cs (i + 1)
  l9 : ∀ i, i < k → pn cs (i + 1) - pn cs i ≤ 9
  cn : ∀ i, i ≤ k → Ig 6 (pn cs i) ∧ Ab (30 + 9 * (i : Rat)) (pn cs i)
  iv : ∀ i, i < k → Ig 2520 (1 / (pn cs (i + 1) - pn cs i)) ∧ Ab 3 (1 / (pn cs (i + 1) - pn cs i))
theorem CtS.start {x : Rat} (h : Ig 6 x ∧ Ab 30 x) : CtS 0 [x] := by
  refine ⟨rfl, fun i hi => by omega, fun i hi => by omega, fun i hi => ?_, fun i hi => by omega⟩
  obtain rfl : i = 0 := by omega
  have e : ((0 : Nat) : Rat) = 0 := rfl
  rw [e]
  exact ⟨h.1, h.2.le (by decide +kernel)⟩
theorem CtS.more {k : Nat} {cs : List Rat} {s : Rat} (h : CtS k cs) (s0 : 0 < s) (s9 : s ≤ 9) (s6 : Ig 6 s) (si : Ig 2520 (1 / s) ∧ Ab 3 (1 / s)) : CtS (k + 1) (cs ++ [pn cs k + s]) := by
  have lc := h.lc
  have C := fun i => pn_app (a := cs) (x := pn cs k + s) (i := i)
  refine ⟨by simp; omega, fun i hi => ?_, fun i hi => ?_, fun i hi => ?_, fun i hi => ?_⟩
  · rw [C, C, if_pos (by omega)]
    by_cases c : i + 1 < cs.length
    · rw [if_pos c]
      exact h.up i (by omega)
    · obtain rfl : i = k := by omega
      rw [if_neg c, if_pos (by omega)]
      grind
  · rw [C, C, if_pos (show i < cs.length by omega)]
    by_cases c : i + 1 < cs.length
    · rw [if_pos c]
      exact h.l9 i (by omega)
    · obtain rfl : i = k := by omega
      rw [if_neg c, if_pos (by omega)]
      grind
  · rw [C]
    by_cases c : i < cs.length
    · rw [if_pos c]
      exact h.cn i (by omega)
    · obtain rfl : i = k + 1 := by omega
      rw [if_neg c, if_pos (by omega)]
      have g := h.cn k (Nat.le_refl _)
      have e : ((k + 1 : Nat) : Rat) = (k : Rat) + 1 := Rat.natCast_add k 1
      rw [e]
      exact ⟨g.1.add s6, (g.2.add (W := 9) ⟨by grind, s9⟩).le (by grind)⟩
  · rw [C, C, if_pos (show i < cs.length by omega)]
    by_cases c : i + 1 < cs.length
    · rw [if_pos c]
      exact h.iv i (by omega)
    · obtain rfl : i = k := by omega
      rw [if_neg c, if_pos (by omega), show pn cs i + s - pn cs i = s by grind]
      exact si
theorem q_den0 (q : Rat) : q * (q.den : Rat) = (q.num : Rat) := by
  rw [← rat_mul]
  have e1 : ((q.den : Rat)).num = (q.den : Int) := rfl
  have e2 : ((q.den : Rat)).den = 1 := rfl
  rw [e1, e2]
  have e3 : (q.den : Int) * ((1 : Nat) : Int) = 1 * (q.den : Int) := by omega
  rw [e3, Rat.divInt_mul_right den_ne]
  exact Rat.num_divInt_den (q.num : Rat)
theorem Ig.of_den {D : Nat} {q : Rat} (h : (q * (D : Rat)).den = 1) : Ig D q := ⟨(q * (D : Rat)).num, by
  have e := q_den0 (q * (D : Rat))
  rw [h] at e
  rw [← e]
  show _ = q * (D : Rat) * ((1 : Nat) : Rat)
  rw [show ((1 : Nat) : Rat) = 1 from rfl, Rat.mul_one]⟩
theorem step_inv {a d : Int} (a0 : 1 ≤ a) (a1 : a ≤ 9) (d0 : d = 1 ∨ d = 2 ∨ d = 3) : Ig 2520 (1 / Rat.divInt a d) ∧ Ab 3 (1 / Rat.divInt a d) := by
  have : a = 1 ∨ a = 2 ∨ a = 3 ∨ a = 4 ∨ a = 5 ∨ a = 6 ∨ a = 7 ∨ a = 8 ∨ a = 9 := by omega
  rcases this with rfl | rfl | rfl | rfl | rfl | rfl | rfl | rfl | rfl <;> rcases d0 with rfl | rfl | rfl <;> exact ⟨Ig.of_den (by decide +kernel), by constructor <;> decide +kernel⟩
theorem CtS.sz {k : Nat} {cs : List Rat} (h : CtS k cs) (k6 : k ≤ 6) (i : Nat) (hi : i ≤ k) : Ig 6 (pn cs i) ∧ Ab 84 (pn cs i) := by
  have g := h.cn i hi
  have i6 : (i : Rat) ≤ ((6 : Nat) : Rat) := Rat.natCast_le_natCast.mpr (by omega)
  have e6 : ((6 : Nat) : Rat) = 6 := rfl
  exact ⟨g.1, g.2.le (by grind)⟩
theorem CtS.rb {k : Nat} {cs : List Rat} (h : CtS k cs) (k6 : k ≤ 6) (i : Nat) (hi : i ≤ k) : RB 12 (pn cs i) := RB.of (h.sz k6 i hi).1 (h.sz k6 i hi).2 (by decide) (by decide) (by decide +kernel)
theorem CtS.RL {k : Nat} {cs : List Rat} (h : CtS k cs) (k6 : k ≤ 6) : RL 12 cs := fun x m => by
  obtain ⟨i, hi, rfl⟩ := List.mem_iff_getElem.mp m
  have := h.rb k6 i (by have := h.lc; omega)
  unfold pn at this
  rw [List.getD_eq_getElem?_getD, List.getElem?_eq_getElem hi] at this
  exact this
theorem step_part {a d : Int} (a0 : 1 ≤ a) (a1 : a ≤ 9) (d0 : d = 1 ∨ d = 2 ∨ d = 3) : Ig 6 (Rat.divInt a d) ∧ Rat.divInt a d ≤ 9 := by
  refine ⟨?_, (divInt_Ab (T := 9) (by omega) a1 (by omega)).2⟩
  rcases d0 with rfl | rfl | rfl
  · exact divInt_Ig 6 (by decide) (by decide)
  · exact divInt_Ig 3 (by decide) (by decide)
  · exact divInt_Ig 2 (by decide) (by decide)
/-! places drawn, rising -/
abbrev sp__law_rise : Spec := fun ds S Q _ => ∃ (f : Addr) (n m : Nat) (x : Rat), ds = [.ref f, frq x, .int (m : Int)] ∧ (Feed n S f ∧ n + 2 * m < nMost ∧ m ≤ 6 ∧ Ig 6 x ∧ Ab 30 x) ∧ ∀ (q : Addr) (cs : List Rat) (S' : Sto), CtS m cs → q ≠ f → S q = none → S' q = some (.lst (cs.map frq)) → AdvX f (n + 2 * m) S S' → Q (.ref q) S'
theorem use_rise {S : Sto} {f : Addr} {n m : Nat} {x : Rat} {Q : EQ} {U : Ex → Sto → Prop} (h : Feed n S f ∧ n + 2 * m < nMost ∧ m ≤ 6 ∧ Ig 6 x ∧ Ab 30 x) (q : ∀ (q : Addr) (cs : List Rat) (S' : Sto), CtS m cs → q ≠ f → S q = none → S' q = some (.lst (cs.map frq)) → AdvX f (n + 2 * m) S S' → Q (.ref q) S') : @callS sp__law_rise [.ref f, frq x, .int (m : Int)] S U ⟨Q⟩ := ⟨f, n, m, x, rfl, h, q⟩
def b__law_rise : Sms := .cons (.asg (.nm 3) (.lst true (.cons (.v 1) (.nil)))) (.cons (.for_ (.nm 4) (.r1 (.v 2)) (.cons (.ex (.mt .append (.v 3) (.cons (.call "_law_plus" sp__law_plus (.cons (.ix (.v 3) (.neg (.cI 1))) (.cons (.call "_law_low" sp__law_low (.cons (.bin .add false (.cI 1) (.call "_law_draw" sp__law_draw (.cons (.v 0) (.cons (.cI 9) (.nil))))) (.cons (.ix (.lst false (.cons (.cI 1) (.cons (.cI 2) (.cons (.cI 3) (.nil))))) (.call "_law_draw" sp__law_draw (.cons (.v 0) (.cons (.cI 3) (.nil))))) (.nil)))) (.nil)))) (.nil)))) (.nil))) (.cons (.ret (.v 3)) (.nil)))
theorem t_law_rise : Keeps 5 b__law_rise sp__law_rise 3 := by
  rintro ds S Q U ⟨f, n, m, x, rfl, ⟨hF, hn, hm, hx⟩, h⟩
  refine ⟨rfl, ?_⟩
  simp! only [b__law_rise]
  intro q hq
  have qf : q ≠ f := Feed.ne hF hq
  refine ⟨r62_ok (by omega), ?_⟩
  rw [Int.toNat_natCast]
  refine for_inv (fun ds δ S' => ∃ (k j : Nat) (cs : List Rat) (o4 : Option D), ds = rngD (k : Int) j ∧ k + j = m ∧ CtS k cs ∧ S' q = some (.lst (cs.map frq)) ∧ AdvX f (n + 2 * k) S S' ∧ δ = [some (.ref f), some (frq x), some (.int (m : Int)), some (.ref q), o4]) ?_ ?_ (fun _ _ _ _ => trivial) _ _ _ ⟨0, m, [x], _, rfl, by omega, CtS.start hx, supd_same, (AdvX.mk hF fun _ _ _ => rfl).new qf hq, rfl⟩
  · rintro d ds δ S3 nx hnx ⟨k, j, cs, o4, e, hk, hC, hc, A, rfl⟩
    obtain ⟨j, rfl, rfl, rfl⟩ := rng_go e
    have hl : atI cs (-1) = some (pn cs k) := last_pn hC.lc
    have cb := hC.rb (by omega) k (Nat.le_refl _)
    simp! only [at_ref hc, hl]
    refine ⟨⟨q, _, rfl, hc⟩, ?_⟩
    refine use_draw A.fd (by omega) (by decide) (Bt.lit (by decide)) fun a S4 a0 a1 A4 => ?_
    simp! only
    refine use_draw A4.fd (by omega) (by decide) (Bt.lit (by decide)) fun u S5 u0 u1 A5 => ?_
    obtain ⟨g, hg, g1⟩ : ∃ g : Int, atI [D.int 1, .int 2, .int 3] u = some (.int g) ∧ (g = 1 ∨ g = 2 ∨ g = 3) := by
      have : u = 0 ∨ u = 1 ∨ u = 2 := by omega
      rcases this with rfl | rfl | rfl
      · exact ⟨_, rfl, .inl rfl⟩
      · exact ⟨_, rfl, .inr (.inl rfl)⟩
      · exact ⟨_, rfl, .inr (.inr rfl)⟩
    simp! only [hg, ↓low_eq]
    have x1 : Bt 10 (1 + a) := by show (1 + a).natAbs < 1024; omega
    have x2 : Bt 10 g := by show g.natAbs < 1024; omega
    refine ⟨⟨by omega, x1.le (by decide), x2.le (by decide)⟩, ?_⟩
    have s6 := step_part (a := 1 + a) (by omega) (by omega) g1
    have si := step_inv (a := 1 + a) (by omega) (by omega) g1
    have s0 : 0 < Rat.divInt (1 + a) g := divInt_pos (by omega) (by omega)
    have sb : RB 20 (Rat.divInt (1 + a) g) := (RB.divInt x1 x2 (by omega)).le (by decide)
    generalize Rat.divInt (1 + a) g = s at s6 si s0 sb ⊢
    refine ⟨⟨cb.le (by decide), sb.le (by decide)⟩, ?_⟩
    have hc5 : S5 q = some (.lst (cs.map frq)) := (A5.eq q qf).trans ((A4.eq q qf).trans hc)
    refine use_app2 hc5 (by rw [List.length_map, hC.lc]; exact Nat.lt_of_le_of_lt (show k + 1 ≤ 20 by omega) (by decide)) ?_
    simp! only
    have AA := (A.trans A4.x).trans A5.x
    refine hnx _ _ trivial ⟨k + 1, j, cs ++ [pn cs k + s], _, rfl, by omega, hC.more s0 s6.2 s6.1 si, ?_, (AA.new qf hq).le (by omega), rfl⟩
    rw [supd_same, List.map_append]
    rfl
  · rintro δ S3 ⟨k, j, cs, o4, e, hk, hC, hc, A, rfl⟩
    have m0 := congrArg List.length e
    rw [rng_len, List.length_nil] at m0
    obtain rfl : k = m := by omega
    simp! only
    exact h q cs S3 hC qf hq hc A
/-! pieces between values and slopes -/
structure LnK (n : Nat) (t : Rat) : Prop where
  p : 0 < t
  n2 : 1 ≤ n ∧ n ≤ 680400
  inv : Ig n (1 / t) ∧ Ab 42 (1 / t)
  ig : Ig 1260 t ∧ Ab 45 t
theorem LnK.pos {n : Nat} {t : Rat} (h : LnK n t) : 0 < t := h.p
theorem LnK.rb {n : Nat} {t : Rat} (h : LnK n t) : RB 16 t := RB.of h.ig.1 h.ig.2 (by decide) (by decide) (by decide +kernel)
def cuD (v0 v1 t : Rat) : Rat := (v1 - v0) / t
def cu2 (v0 s0 v1 s1 t : Rat) : Rat := (3 * cuD v0 v1 t - (s0 + (s0 + s1))) / t
def cu3 (v0 s0 v1 s1 t : Rat) : Rat := ((s0 + s1) - 2 * cuD v0 v1 t) / t / t
def cuL (v0 s0 v1 s1 t : Rat) : List Rat := [v0, s0, cu2 v0 s0 v1 s1 t, cu3 v0 s0 v1 s1 t]
structure CuS (v0 s0 v1 s1 : Rat) : Prop where
  a : Ig 6 v0 ∧ Ab 30 v0
  b : Ig 6 s0 ∧ Ab 30 s0
  c : Ig 6 v1 ∧ Ab 30 v1
  d : Ig 6 s1 ∧ Ab 30 s1
theorem div_one {x t : Rat} : x / t = x * (1 / t) := by grind
theorem cuL_nm {v0 s0 v1 s1 t : Rat} {n : Nat} (h : CuS v0 s0 v1 s1) (l : LnK n t) : Nm (6 * (n * n * n)) 16777216 (cuL v0 s0 v1 s1 t) := by
  obtain ⟨i1, i2⟩ := l.inv
  have d1 := (h.c.1.sub h.a.1).mul i1
  have d2 := (h.c.2.sub h.a.2).mul i2
  rw [← div_one] at d1 d2
  have k2 : Ig 1 2 ∧ Ab 2 2 := ⟨⟨2, by decide +kernel⟩, by decide +kernel, by decide +kernel⟩
  have k3 : Ig 1 3 ∧ Ab 3 3 := ⟨⟨3, by decide +kernel⟩, by decide +kernel, by decide +kernel⟩
  have s01 := h.b.1.add h.d.1
  have s01b := h.b.2.add h.d.2
  have e1 : 1 * (6 * n) = 6 * n := by omega
  have a1 := (((k3.1.mul d1).cast e1).sub ((h.b.1.add s01).up n)).mul i1
  have a2 := ((k3.2.mul d2).sub (h.b.2.add s01b)).mul i2
  have b1 := (((s01.up n).sub ((k2.1.mul d1).cast e1)).mul i1).mul i1
  have b2 := ((s01b.sub (k2.2.mul d2)).mul i2).mul i2
  rw [← div_one] at a1 a2
  rw [← div_one, ← div_one] at b1 b2
  have eA : 6 * n * n * n = 6 * (n * n * n) := by rw [Nat.mul_assoc, Nat.mul_assoc, Nat.mul_assoc]
  intro x m
  unfold cuL at m
  rcases List.mem_cons.mp m with e | m
  · rw [e]
    exact ⟨h.a.1.up _, h.a.2.le (by decide +kernel)⟩
  rcases List.mem_cons.mp m with e | m
  · rw [e]
    exact ⟨h.b.1.up _, h.b.2.le (by decide +kernel)⟩
  rcases List.mem_cons.mp m with e | m
  · rw [e]
    exact ⟨(a1.up n).cast eA, a2.le (by decide +kernel)⟩
  · rw [List.mem_singleton.mp m]
    exact ⟨b1.cast eA, b2.le (by decide +kernel)⟩
theorem cuL_end {v0 s0 v1 s1 t : Rat} (h : t ≠ 0) : ev (cuL v0 s0 v1 s1 t) t = v1 ∧ mvN (trim (cuL v0 s0 v1 s1 t)) t 1 = s1 ∧ ev (cuL v0 s0 v1 s1 t) 0 = v0 ∧ mvN (trim (cuL v0 s0 v1 s1 t)) 0 1 = s0 := by
  have l4 : (trim (cuL v0 s0 v1 s1 t)).length ≤ 4 := trim_len _
  have m1 := (mv4 (t := t) l4).1
  have m0 := (mv4 (t := (0 : Rat)) l4).1
  rw [trim_pn, trim_pn, trim_pn] at m1 m0
  rw [m1, m0]
  unfold cuL
  rw [ev4 (show [v0, s0, cu2 v0 s0 v1 s1 t, cu3 v0 s0 v1 s1 t].length ≤ 4 from Nat.le_refl _), ev4 (show [v0, s0, cu2 v0 s0 v1 s1 t, cu3 v0 s0 v1 s1 t].length ≤ 4 from Nat.le_refl _)]
  show v0 + t * (s0 + t * (cu2 v0 s0 v1 s1 t + t * cu3 v0 s0 v1 s1 t)) = v1 ∧ s0 + t * (2 * cu2 v0 s0 v1 s1 t + t * (3 * cu3 v0 s0 v1 s1 t)) = s1 ∧ v0 + 0 * _ = v0 ∧ s0 + 0 * _ = s0
  unfold cu2 cu3 cuD
  refine ⟨?_, ?_, ?_, ?_⟩ <;> grind
abbrev sp__law_cubic : Spec := fun ds S Q _ => ∃ (v0 s0 v1 s1 t : Rat) (n : Nat), ds = [.tup [frq v0, frq s0], .tup [frq v1, frq s1], frq t] ∧ (CuS v0 s0 v1 s1 ∧ LnK n t) ∧ Q (plD (trim (cuL v0 s0 v1 s1 t))) S
theorem use_cubic {S : Sto} {v0 s0 v1 s1 t : Rat} {n : Nat} {Q : EQ} {U : Ex → Sto → Prop} (h : CuS v0 s0 v1 s1 ∧ LnK n t) (q : Q (plD (trim (cuL v0 s0 v1 s1 t))) S) : @callS sp__law_cubic [.tup [frq v0, frq s0], .tup [frq v1, frq s1], frq t] S U ⟨Q⟩ := ⟨v0, s0, v1, s1, t, n, rfl, h, q⟩
def b__law_cubic : Sms := .cons (.asg (.nm 3) (.call "_law_over" sp__law_over (.cons (.call "_law_less" sp__law_less (.cons (.ix (.v 1) (.cI 0)) (.cons (.ix (.v 0) (.cI 0)) (.nil)))) (.cons (.v 2) (.nil))))) (.cons (.asg (.nm 4) (.call "_law_plus" sp__law_plus (.cons (.ix (.v 0) (.cI 1)) (.cons (.ix (.v 1) (.cI 1)) (.nil))))) (.cons (.asg (.nm 5) (.call "_law_less" sp__law_less (.cons (.call "_law_times" sp__law_times (.cons (.tup (.cons (.cI 3) (.cons (.cI 1) (.nil)))) (.cons (.v 3) (.nil)))) (.cons (.call "_law_plus" sp__law_plus (.cons (.ix (.v 0) (.cI 1)) (.cons (.v 4) (.nil)))) (.nil))))) (.cons (.asg (.nm 6) (.call "_law_over" sp__law_over (.cons (.call "_law_less" sp__law_less (.cons (.v 4) (.cons (.call "_law_times" sp__law_times (.cons (.tup (.cons (.cI 2) (.cons (.cI 1) (.nil)))) (.cons (.v 3) (.nil)))) (.nil)))) (.cons (.v 2) (.nil))))) (.cons (.ret (.call "_law_trim" sp__law_trim (.cons (.lst false (.cons (.ix (.v 0) (.cI 0)) (.cons (.ix (.v 0) (.cI 1)) (.cons (.call "_law_over" sp__law_over (.cons (.v 5) (.cons (.v 2) (.nil)))) (.cons (.call "_law_over" sp__law_over (.cons (.v 6) (.cons (.v 2) (.nil)))) (.nil)))))) (.nil)))) (.nil)))))
theorem t_law_cubic : Keeps 7 b__law_cubic sp__law_cubic 3 := by
  rintro ds S Q U ⟨v0, s0, v1, s1, t, n, rfl, ⟨H, L⟩, h⟩
  refine ⟨rfl, ?_⟩
  have tp := L.pos
  have t0 : t ≠ 0 := by grind
  have tb := L.rb
  have nb : ∀ {x : Rat}, Ig 6 x ∧ Ab 30 x → RB 18 x := fun h => RB.of h.1 h.2 (by decide) (by decide) (by decide +kernel)
  have a := nb H.a
  have b := nb H.b
  have c := nb H.c
  have d := nb H.d
  have a9 := a.le (show 18 ≤ 3900 by decide)
  have b9 := b.le (show 18 ≤ 3900 by decide)
  have c9 := c.le (show 18 ≤ 3900 by decide)
  have d9 := d.le (show 18 ≤ 3900 by decide)
  have t9 := tb.le (show 16 ≤ 3900 by decide)
  have dv := (c.sub a).div tb (by decide)
  have k2 : RB 2 2 := RB.lit (by decide +kernel)
  have k3 : RB 2 3 := RB.lit (by decide +kernel)
  have fr2 : D.tup [.int 2, .int 1] = frq 2 := rfl
  have fr3 : D.tup [.int 3, .int 1] = frq 3 := rfl
  have s1b := b.add d
  have s2b := b.add s1b
  have z2 := (k3.mul dv).sub s2b
  have z3 := (s1b.sub (k2.mul dv)).div tb (by decide)
  have z2d := z2.div tb (by decide)
  have dv9 := dv.le (show _ ≤ 3900 by decide)
  have cv9 := (c.sub a).le (show _ ≤ 3900 by decide)
  have s19 := s1b.le (show _ ≤ 3900 by decide)
  have s29 := s2b.le (show _ ≤ 3900 by decide)
  have k39 := (k3.mul dv).le (show _ ≤ 3900 by decide)
  have k29 := (k2.mul dv).le (show _ ≤ 3900 by decide)
  have z29 := z2.le (show _ ≤ 3900 by decide)
  have y39 := (s1b.sub (k2.mul dv)).le (show _ ≤ 3900 by decide)
  have z39 := z3.le (show _ ≤ 3900 by decide)
  have r3 := k3.le (show 2 ≤ 3900 by decide)
  have r2 := k2.le (show 2 ≤ 3900 by decide)
  simp! only [b__law_cubic, fr2, fr3, ↓q2_less, ↓q2_ladd, ↓q2_lmul, ↓lov_eq, a9, b9, c9, d9, t9, t0, dv9, cv9, s19, s29, k39, k29, z29, y39, z39, r2, r3]
  exact ⟨t0, t0, t0, t0, use_law_trim (xs := cuL v0 s0 v1 s1 t) rfl h⟩
/-! rows between drawn values and slopes -/
abbrev EnK (a : Rat × Rat) : Prop := (Ig 6 a.1 ∧ Ab 30 a.1) ∧ (Ig 6 a.2 ∧ Ab 30 a.2)
abbrev eN (E : List (Rat × Rat)) (k : Nat) : Rat × Rat := E.getD k (0, 0)
abbrev enD (a : Rat × Rat) : D := .tup [frq a.1, frq a.2]
def EnS (E : List (Rat × Rat)) : Prop := ∀ a ∈ E, EnK a
theorem atE {E : List (Rat × Rat)} {k : Nat} (h : k < E.length) : atI (E.map enD) (k : Int) = some (enD (eN E k)) := by
  rw [at_n (by rw [List.length_map]; exact h), List.getElem?_map, List.getElem?_eq_getElem h]
  unfold eN
  rw [List.getD_eq_getElem?_getD, List.getElem?_eq_getElem h]
  rfl
theorem memE {E : List (Rat × Rat)} {k : Nat} (h : k < E.length) : eN E k ∈ E := by
  unfold eN
  rw [List.getD_eq_getElem?_getD, List.getElem?_eq_getElem h]
  exact List.getElem_mem _
theorem EnK.cu {a b : Rat × Rat} (ha : EnK a) (hb : EnK b) : CuS a.1 a.2 b.1 b.2 := ⟨ha.1, ha.2, hb.1, hb.2⟩
/-- cuts, their lengths' parts of one bottom -/
structure CuE (n m : Nat) (cs : List Rat) : Prop where
  lc : cs.length = m + 1
  m1 : 1 ≤ m
  m7 : m ≤ 7
  up : ∀ k, k < m → pn cs k < pn cs (k + 1)
  cn : ∀ c ∈ cs, Ig 1260 c ∧ Ab 120 c
  ln : ∀ k, k < m → LnK n (pn cs (k + 1) - pn cs k)
theorem CuE.rb {n m : Nat} {cs : List Rat} (h : CuE n m cs) {k : Nat} (hk : k ≤ m) : RB 20 (pn cs k) := by
  have := h.cn _ (pn_mem (p := cs) (k := k) (by have := h.lc; omega))
  exact RB.of this.1 this.2 (by decide) (by decide) (by decide +kernel)
def pcL (so : Int) (a b : Rat × Rat) (t : Rat) : List Rat := if so = 1 then trim [a.1, (b.1 - a.1) / t] else trim (cuL a.1 a.2 b.1 b.2 t)
theorem pcL_tr {so : Int} {a b : Rat × Rat} {t : Rat} : trim (pcL so a b t) = pcL so a b t ∧ (pcL so a b t).length ≤ 4 ∧ (so = 1 → (pcL so a b t).length ≤ 2) := by
  unfold pcL
  split
  · have := trim_len [a.1, (b.1 - a.1) / t]
    rw [show [a.1, (b.1 - a.1) / t].length = 2 from rfl] at this
    exact ⟨trim_trim _, by omega, fun _ => this⟩
  · rename_i c
    exact ⟨trim_trim _, trim_len _, fun e => absurd e c⟩
theorem pcL_0 {so : Int} {a b : Rat × Rat} {t : Rat} : pn (pcL so a b t) 0 = a.1 := by
  unfold pcL
  split
  · rw [trim_pn]
    rfl
  · rw [trim_pn]
    rfl
theorem pcL_1 {so : Int} {a b : Rat × Rat} {t : Rat} (h : t ≠ 0) : ev (pcL so a b t) t = b.1 := by
  unfold pcL
  split
  · rw [ev_trim]
    show a.1 + t * ((b.1 - a.1) / t + t * 0) = b.1
    grind
  · rw [ev_trim]
    exact (cuL_end h).1
theorem pcL_s {so : Int} {a b : Rat × Rat} {t : Rat} (h : t ≠ 0) (s : so ≠ 1) : mvN (pcL so a b t) 0 1 = a.2 ∧ mvN (pcL so a b t) t 1 = b.2 := by
  unfold pcL
  rw [if_neg s]
  have := cuL_end (v0 := a.1) (s0 := a.2) (v1 := b.1) (s1 := b.2) h
  exact ⟨this.2.2.2, this.2.1⟩
theorem pcL_nm {so : Int} {a b : Rat × Rat} {t : Rat} {n : Nat} (ha : EnK a) (hb : EnK b) (l : LnK n t) : Nm (6 * (n * n * n)) 16777216 (pcL so a b t) := by
  unfold pcL
  split
  · obtain ⟨i1, i2⟩ := l.inv
    have d1 := (hb.1.1.sub ha.1.1).mul i1
    have d2 := (hb.1.2.sub ha.1.2).mul i2
    rw [← div_one] at d1 d2
    have e : 6 * n * (n * n) = 6 * (n * n * n) := by rw [Nat.mul_assoc, Nat.mul_assoc]
    intro x m
    have m := trim_mem m
    rcases List.mem_cons.mp m with e | m
    · rw [e]
      exact ⟨ha.1.1.up _, ha.1.2.le (by decide +kernel)⟩
    · rw [List.mem_singleton.mp m]
      exact ⟨(d1.up (n * n)).cast e, d2.le (by decide +kernel)⟩
  · exact (cuL_nm (ha.cu hb) l).trim
/-- a drawn row -/
structure RwM (so : Int) (n : Nat) (cs : List Rat) (E : List (Rat × Rat)) (ps : List (List Rat)) : Prop where
  rw_ : Rw cs ps
  ct : CuE n ps.length cs
  nm : ∀ p ∈ ps, Nm (6 * (n * n * n)) 16777216 p
  d1 : so = 1 → ∀ p ∈ ps, p.length ≤ 2
  v : ∀ k, k ≤ ps.length → (k < ps.length → mvN (pg ps k) 0 0 = (eN E k).1) ∧ ∀ i, k = i + 1 → mvN (pg ps i) (pn cs (i + 1) - pn cs i) 0 = (eN E k).1
  s : so ≠ 1 → ∀ k, k ≤ ps.length → (k < ps.length → mvN (pg ps k) 0 1 = (eN E k).2) ∧ ∀ i, k = i + 1 → mvN (pg ps i) (pn cs (i + 1) - pn cs i) 1 = (eN E k).2
theorem RwM.of {so : Int} {n : Nat} {cs : List Rat} {E : List (Rat × Rat)} {ps : List (List Rat)} {m : Nat} (hC : CuE n m cs) (hE : EnS E) (lE : E.length = m + 1) (l : ps.length = m) (h : ∀ k, k < m → pg ps k = pcL so (eN E k) (eN E (k + 1)) (pn cs (k + 1) - pn cs k)) : RwM so n cs E ps := by
  have m1 := hC.m1
  have tm : ∀ p ∈ ps, ∃ k, k < m ∧ pg ps k = p := fun p mp => by
    obtain ⟨k, hk, e⟩ := List.mem_iff_getElem.mp mp
    refine ⟨k, by omega, ?_⟩
    unfold pg
    rw [List.getD_eq_getElem?_getD, List.getElem?_eq_getElem hk]
    exact e
  have t0 : ∀ k, k < m → pn cs (k + 1) - pn cs k ≠ 0 := fun k hk => by
    have := hC.up k hk
    grind
  have R : Rw cs ps := by
    refine ⟨by rw [hC.lc, l], by omega, fun k hk => hC.up k (by omega), fun p mp => ?_, fun k hk => ?_⟩
    · obtain ⟨k, hk, e⟩ := tm p mp
      rw [← e, h k hk]
      exact ⟨pcL_tr.1, pcL_tr.2.1⟩
    · rw [h k (by omega), h (k + 1) (by omega), pcL_1 (t0 k (by omega)), pcL_0]
  refine ⟨R, by rw [l]; exact hC, fun p mp => ?_, fun s1 p mp => ?_, fun k hk => ⟨fun c => ?_, fun i e => ?_⟩, fun s1 k hk => ⟨fun c => ?_, fun i e => ?_⟩⟩
  · obtain ⟨k, hk, e⟩ := tm p mp
    rw [← e, h k hk]
    exact pcL_nm (hE _ (memE (by omega))) (hE _ (memE (by omega))) (hC.ln k hk)
  · obtain ⟨k, hk, e⟩ := tm p mp
    rw [← e, h k hk]
    exact pcL_tr.2.2 s1
  · rw [ev_mv0, h k (by omega), ev_00, pcL_0]
  · subst e
    rw [ev_mv0, h i (by omega), pcL_1 (t0 i (by omega))]
  · rw [h k (by omega)]
    exact (pcL_s (t0 k (by omega)) s1).1
  · subst e
    rw [h i (by omega)]
    exact (pcL_s (t0 i (by omega)) s1).2
theorem AdvX.new' {f q : Addr} {n : Nat} {S S' : Sto} {c : Cell} (h : AdvX f n S S') (a : q ≠ f) (e : S q = none) : AdvX f n S (supd S' q c) := h.new a e
theorem tup_lsx {S : Sto} {x : D} {ds : List D} {P : EQ} (h : lsx S x = some ds) (p : P (.tup ds) S) : biO .tuple false [x] S P := by
  cases x <;> first | exact ⟨_, h, p⟩ | cases h
abbrev Ext (S S' : Sto) : Prop := ∀ a, S a ≠ none → S' a = S a
abbrev RnE (b : Bool) (m : Nat) (E : List (Rat × Rat)) : Prop := b = true → eN E m = eN E 0
abbrev sp__law_row : Spec := fun ds S Q _ => ∃ (f : Addr) (a n m : Nat) (so : Int) (cs : List Rat) (x : D) (b : Bool), ds = [.ref f, .int so, x, .bl b] ∧ (Feed a S f ∧ a + 40 < nMost ∧ CuE n m cs ∧ ∀ S2 : Sto, (∀ z, z ≠ f → S z ≠ none → S2 z = S z) → lsx S2 x = some (cs.map frq)) ∧ ∀ (E : List (Rat × Rat)) (ps : List (List Rat)) (S' : Sto), RwM so n cs E ps → ps.length = m → RnE b m E → AdvX f (a + 40) S S' → Q (rowD cs ps) S'
theorem use_row {S : Sto} {f : Addr} {a n m : Nat} {so : Int} {cs : List Rat} {x : D} {b : Bool} {Q : EQ} {U : Ex → Sto → Prop} (h : Feed a S f ∧ a + 40 < nMost ∧ CuE n m cs ∧ ∀ S2 : Sto, (∀ z, z ≠ f → S z ≠ none → S2 z = S z) → lsx S2 x = some (cs.map frq)) (k : ∀ (E : List (Rat × Rat)) (ps : List (List Rat)) (S' : Sto), RwM so n cs E ps → ps.length = m → RnE b m E → AdvX f (a + 40) S S' → Q (rowD cs ps) S') : @callS sp__law_row [.ref f, .int so, x, .bl b] S U ⟨Q⟩ := ⟨f, a, n, m, so, cs, x, b, rfl, h, k⟩
def b__law_row : Sms := .cons (.asgL 4 (.lc true (.tup (.cons (.call "_law_number" sp__law_number (.cons (.v 0) (.nil))) (.cons (.call "_law_number" sp__law_number (.cons (.v 0) (.nil))) (.nil)))) (.nm 8) (.val (.v 2)) (.nil))) (.cons (.ite (.v 3) (.cons (.setI (.v 4) (.neg (.cI 1)) (.ix (.v 4) (.cI 0))) (.nil)) (.nil)) (.cons (.asg (.nm 5) (.lst true (.nil))) (.cons (.for_ (.nm 6) (.r1 (.bin .sub false (.bi .len false (.cons (.v 2) (.nil))) (.cI 1))) (.cons (.asg (.nm 7) (.call "_law_less" sp__law_less (.cons (.ix (.v 2) (.bin .add false (.v 6) (.cI 1))) (.cons (.ix (.v 2) (.v 6)) (.nil))))) (.cons (.ite (.cmp .eq (.v 1) (.cI 1)) (.cons (.asg (.nm 9) (.call "_law_over" sp__law_over (.cons (.call "_law_less" sp__law_less (.cons (.ix (.ix (.v 4) (.bin .add false (.v 6) (.cI 1))) (.cI 0)) (.cons (.ix (.ix (.v 4) (.v 6)) (.cI 0)) (.nil)))) (.cons (.v 7) (.nil))))) (.cons (.ex (.mt .append (.v 5) (.cons (.call "_law_trim" sp__law_trim (.cons (.lst false (.cons (.ix (.ix (.v 4) (.v 6)) (.cI 0)) (.cons (.v 9) (.nil)))) (.nil))) (.nil)))) (.nil))) (.cons (.ex (.mt .append (.v 5) (.cons (.call "_law_cubic" sp__law_cubic (.cons (.ix (.v 4) (.v 6)) (.cons (.ix (.v 4) (.bin .add false (.v 6) (.cI 1))) (.cons (.v 7) (.nil))))) (.nil)))) (.nil))) (.nil)))) (.cons (.ret (.tup (.cons (.bi .tuple false (.cons (.v 2) (.nil))) (.cons (.bi .tuple false (.cons (.frz (.v 5)) (.nil))) (.nil))))) (.nil)))))
theorem t_law_row : Keeps 10 b__law_row sp__law_row 4 := by
  rintro ds S Q U ⟨f, a, n, m, so, cs, x, b, rfl, ⟨hF, ha, hC, hx⟩, h⟩
  refine ⟨rfl, ?_⟩
  have lc := hC.lc
  have m7 := hC.m7
  simp! only [b__law_row]
  refine lsx_ItP (hx S fun _ _ _ => rfl) fun src hs hsrc => ?_
  refine lc_inv (fun ds acc S' => ∃ E : List (Rat × Rat), acc = E.map enD ∧ E.length + ds.length = m + 1 ∧ EnS E ∧ AdvX f (a + 4 * E.length) S S' ∧ src S') ?_ ?_ _ _ _ ⟨[], rfl, by rw [List.length_map, lc]; simp, fun z hz => (by cases hz), ⟨hF.le (by omega), fun _ _ _ => rfl⟩, hs⟩
  · rintro d ds acc S1 nx hnx ⟨E, rfl, hl, hE, X1, s1⟩
    rw [List.length_cons] at hl
    refine ⟨by rw [List.length_map]; exact Nat.lt_of_le_of_lt (show E.length ≤ 20 by omega) (by decide), ?_⟩
    simp! only
    refine use_number ⟨X1.fd, by omega⟩ fun v S2 hv A2 => ?_
    simp! only
    refine use_number ⟨A2.fd, by omega⟩ fun u S3 hu A3 => ?_
    have X3 := (X1.trans A2.x).trans A3.x
    have s3 : src S3 := hsrc S3 (by rw [hx S3 X3.eq, hx S fun _ _ _ => rfl])
    simp! only
    refine hnx _ _ s3 ⟨E ++ [(v, u)], by rw [List.map_append]; rfl, by simp; omega, fun z mz => ?_, X3.le (by simp; omega), s3⟩
    rcases List.mem_append.mp mz with mz | mz
    · exact hE z mz
    · rw [List.mem_singleton.mp mz]
      exact ⟨hv, hu⟩
  rintro acc S1 ⟨E, rfl, hl, hE, X1, s1⟩
  rw [List.length_nil, Nat.add_zero] at hl
  rw [nw_t]
  intro q hq
  have qf : q ≠ f := Feed.ne X1.fd hq
  have sq : S q = none := by
    cases c : S q with
    | none => rfl
    | some y =>
      have := X1.at_ qf c
      rw [hq] at this
      cases this
  have X2 := (X1.new qf sq).le (show a + 4 * E.length ≤ a + 4 * (m + 1) by omega) (S' := supd S1 q (.lst (E.map enD)))
  refine iteS_fac (fun δ S' => ∃ E' : List (Rat × Rat), EnS E' ∧ E'.length = m + 1 ∧ RnE b m E' ∧ S' q = some (.lst (E'.map enD)) ∧ AdvX f (a + 4 * (m + 1)) S S' ∧ δ = [some (.ref f), some (.int so), some x, some (.bl b), some (.ref q), none, none, none, none, none]) ?_ ?_ ?_
  · intro cb N' hN'
    have e0 : atI (E.map enD) 0 = some (enD (eN E 0)) := atE (E := E) (k := 0) (by omega)
    simp! only [at_ref (supd_same (S := S1) (p := q)), e0]
    refine ⟨-1, (E.map enD).length - 1, rfl, ?_, ?_⟩
    · unfold ixN
      rw [if_neg (by decide), if_pos (by rw [List.length_map, hl]; omega)]
      congr 1
      rw [List.length_map, hl]
      omega
    rw [supd_supd]
    have el : (E.map enD).set ((E.map enD).length - 1) (enD (eN E 0)) = (E.set m (eN E 0)).map enD := by
      rw [List.map_set, List.length_map, hl]
      rfl
    rw [el]
    refine hN' _ _ ⟨E.set m (eN E 0), fun z mz => ?_, by rw [List.length_set, hl], fun _ => ?_, supd_same, (X1.new qf sq).le (by omega), rfl⟩
    · rcases List.mem_or_eq_of_mem_set mz with mz | mz
      · exact hE z mz
      · rw [mz]
        exact hE _ (memE (by omega))
    · have m1 := hC.m1
      obtain ⟨z, hz⟩ : ∃ z, z = eN E 0 := ⟨_, rfl⟩
      have a1 : eN (E.set m z) m = z := by
        unfold eN
        rw [List.getD_eq_getElem?_getD, List.getElem?_set, if_pos rfl, if_pos (by omega)]
        rfl
      have a2 : eN (E.set m z) 0 = eN E 0 := by
        unfold eN
        rw [List.getD_eq_getElem?_getD, List.getElem?_set, if_neg (by omega), ← List.getD_eq_getElem?_getD]
      rw [← hz, a1, a2, ← hz]
  · intro cb N' hN'
    exact hN' _ _ ⟨E, hE, hl, fun z => absurd z (by rw [cb]; exact Bool.false_ne_true), supd_same, X2, rfl⟩
  rintro δ S2 ⟨E', hE', hl', hrn, h2, X2, rfl⟩
  simp! only
  intro p hp
  have pf : p ≠ f := Feed.ne X2.fd hp
  have pq : p ≠ q := fun z => by rw [z, h2] at hp; cases hp
  have sp : S p = none := by
    cases c : S p with
    | none => rfl
    | some y =>
      have := X2.at_ pf c
      rw [hp] at this
      cases this
  have X3 := X2.new (c := .lst []) pf sp
  have lx : ∀ S', AdvX f (a + 4 * (m + 1)) S S' → lsx S' x = some (cs.map frq) := fun S' X => hx S' X.eq
  rw [lsx_len (lx _ X3), List.length_map, lc]
  simp! only
  rw [show ((m + 1 : Nat) : Int) - 1 = (m : Int) by omega]
  refine ⟨r62_ok (by omega), ?_⟩
  rw [Int.toNat_natCast]
  refine for_inv (fun ds δ S' => ∃ (k j : Nat) (ps : List (List Rat)) (o6 o7 o9 : Option D), ds = rngD (k : Int) j ∧ k + j = m ∧ (ps.length = k ∧ ∀ i, i < k → pg ps i = pcL so (eN E' i) (eN E' (i + 1)) (pn cs (i + 1) - pn cs i)) ∧ S' p = some (.lst (ps.map plD)) ∧ S' q = some (.lst (E'.map enD)) ∧ AdvX f (a + 4 * (m + 1)) S S' ∧ δ = [some (.ref f), some (.int so), some x, some (.bl b), some (.ref q), some (.ref p), o6, o7, none, o9]) ?_ ?_ (fun _ _ _ _ => trivial) _ _ _ ⟨0, m, [], _, _, _, rfl, by omega, ⟨rfl, fun i hi => by omega⟩, supd_same, (supd_ne pq.symm).trans h2, X3, rfl⟩
  · rintro d ds δ S1 nx hnx ⟨k, j, ps, o6, o7, o9, e, hk, ⟨pl, hp'⟩, h1, q1, X1, rfl⟩
    obtain ⟨j, rfl, rfl, rfl⟩ := rng_go e
    have k1 : (k : Int) + 1 = ((k + 1 : Nat) : Int) := rfl
    have f1 : atI cs ((k + 1 : Nat) : Int) = some (pn cs (k + 1)) := at_pn (by omega)
    have f2 : atI cs (k : Int) = some (pn cs k) := at_pn (by omega)
    have c1 : RB 3900 (pn cs (k + 1)) := (hC.rb (by omega)).le (by decide)
    have c2 : RB 3900 (pn cs k) := (hC.rb (by omega)).le (by decide)
    have e0 := atE (E := E') (k := k) (by omega)
    have e1 := atE (E := E') (k := k + 1) (by omega)
    have g0 := hE' _ (memE (E := E') (k := k) (by omega))
    have g1 := hE' _ (memE (E := E') (k := k + 1) (by omega))
    have ix := fun (i : Int) (P : EQ) => lsx_ix (lx S1 X1) (i := i) (P := P)
    have ln := hC.ln k (by omega)
    have t0 : pn cs (k + 1) - pn cs k ≠ 0 := by have := hC.up k (by omega); grind
    have nb : ∀ {x : Rat}, Ig 6 x ∧ Ab 30 x → RB 18 x := fun h => RB.of h.1 h.2 (by decide) (by decide) (by decide +kernel)
    have v0 := nb g0.1
    have v1 := nb g1.1
    have v09 : RB 3900 (eN E' k).1 := v0.le (by decide)
    have v19 : RB 3900 (eN E' (k + 1)).1 := v1.le (by decide)
    have d9 : RB 3900 ((eN E' (k + 1)).1 - (eN E' k).1) := (v1.sub v0).le (by decide)
    have t9 : RB 3900 (pn cs (k + 1) - pn cs k) := ln.rb.le (by decide)
    have fin : ∀ o9 : Option D, nx [some (.ref f), some (.int so), some x, some (.bl b), some (.ref q), some (.ref p), some (.int (k : Int)), some (frq (pn cs (k + 1) - pn cs k)), none, o9] (supd S1 p (.lst ((ps ++ [pcL so (eN E' k) (eN E' (k + 1)) (pn cs (k + 1) - pn cs k)]).map plD))) := fun o9 => by
      refine hnx _ _ trivial ⟨k + 1, j, ps ++ [pcL so (eN E' k) (eN E' (k + 1)) (pn cs (k + 1) - pn cs k)], _, _, _, rfl, by omega, ⟨by simp; omega, fun i hi => ?_⟩, supd_same, (supd_ne pq.symm).trans q1, X1.new' pf sp, rfl⟩
      by_cases c : i < k
      · rw [pg_app0 (by omega)]
        exact hp' i c
      · obtain rfl : i = k := by omega
        have ap : ∀ X : List Rat, pg (ps ++ [X]) i = X := fun X => by
          rw [← pl]
          exact pg_app1
        exact ap _
    simp! only [k1, ix, f1, f2, ↓q2_less, c1, c2]
    refine ⟨fun _ => ⟨p, _, rfl, h1⟩, ?_⟩
    by_cases s1 : so = 1
    · rw [decide_eq_true s1, iteS_1]
      simp! only [at_ref q1, e0, e1, ↓q2_less, ↓lov_eq, v09, v19, d9, t9, t0]
      have ep : trim [(eN E' k).1, ((eN E' (k + 1)).1 - (eN E' k).1) / (pn cs (k + 1) - pn cs k)] = pcL so (eN E' k) (eN E' (k + 1)) (pn cs (k + 1) - pn cs k) := by
        unfold pcL
        rw [if_pos s1]
      refine ⟨t0, ⟨p, _, rfl, h1⟩, ?_⟩
      refine use_law_trim (xs := [(eN E' k).1, ((eN E' (k + 1)).1 - (eN E' k).1) / (pn cs (k + 1) - pn cs k)]) rfl ?_
      rw [ep]
      simp! only
      refine use_app2 h1 (by rw [List.length_map, pl]; exact Nat.lt_of_le_of_lt (show k ≤ 20 by omega) (by decide)) ?_
      try simp only [↓e_cnt, ↓e_sl2, ↓e_dget, ↓e_isx, ↓t_isx, ↓e_fld, ↓e_callh, ↓t_callh, ↓hc_s, ↓hf_s, ↓ix_s, ↓fl_s, ↓ch_s, ↓s_raise, ↓s_try, ↓ex_s, ↓mk_NoOver, ↓mk_NoStretch, ↓mk_NoOne, ↓mk_NoText, ↓mk_NoPlace, ↓mk_NoPoint, ↓mk_Twice, ↓mk_NoCut, ↓mk_NoSmooth, ↓mk_NoShares, ↓mk_NoKnot, ↓mk_NoTask, ↓mk_NoPaper, ↓mk_NoKnots, ↓mk_NoSheet, ↓lk_1, ↓lk_n, ↓lk_w, ↓any_1, ↓gv_z, ↓gv_s, ↓sv_z, ↓sv_s, ↓wv_z, wv_z, ↓wv_s, wv_s, iteE_int, iteE_bl, iteE_str, iteE_lst, iteE_same, iteE_c1, iteE_c2, iteE_1, iteE_0, iteT_1, iteT_0, andT_1, andT_0, orT_1, orT_0, andE_1, andE_0, orE_1, orE_0, iteS_1, iteS_0, andE_bl, andE_c, orE_bl, orE_c, iteT_v, iteT_c1, iteT_c2, andT_v, andT_c, orT_v, orT_c, iteS_v, iteS_c1, iteS_c2, iteS_r1, iteS_r2, joinS_n, joinS_same, joinS_int, joinS_bl, ixS_s, ↓e_v, ↓e_N, ↓e_B, ↓e_I, ↓e_S, ↓e_gl, ↓e_add, ↓e_sub, ↓e_mul, ↓e_fdiv, ↓e_mod, ↓e_pow, ↓e_neg, ↓e_cmp, ↓bP_b, ↓t_cmp, ↓e_cmp2, ↓t_cmp2, ↓e_and1, ↓e_and2, ↓t_and1, ↓t_and2, ↓e_or1, ↓e_or2, ↓t_or1, ↓t_or2, ↓e_not, ↓t_not, ↓e_ite, ↓t_ite, ↓e_tup, ↓e_lst, ↓e_dct, ↓e_ix, ↓e_sl, ↓e_slr, ↓e_call, ↓e_bi, ↓e_mt, ↓e_lc, ↓e_frz, ↓t_frz, ↓iP_i, ↓e_idx, ↓e_lrg1, ↓e_lrg2, ↓t_v, ↓t_B, ↓t_N, ↓t_I, ↓t_ix, ↓t_bin, ↓t_call, ↓t_bi, ↓t_sl, ↓t_lc, ↓a_n, ↓a_c, ↓if_n, ↓if_1, ↓o_n, ↓o_s, ↓i_val, ↓i_r1, ↓i_r2, ↓i_r3, ↓i_enum, ↓i_zip, ↓i_rev, ↓add_i, ↓add_s, ↓add_t, ↓sub_i, ↓mul_i, ↓fdiv_i, ↓mod_i, ↓pow_i, ↓neg_i, ↓eq_i, ↓eq_s, ↓eq_b, ↓ne_i, ↓ne_s, ↓ne_b, ↓lt_i, ↓le_i, ↓gt_i, ↓ge_i, ↓is_N, ↓no_N, ↓is_B, ↓no_B, ↓is_Bt, ↓is_Bl, ↓is_Bi, ↓is_Bs, ↓is_Bn, ↓is_Br, ↓no_Bt, ↓no_Bl, ↓no_Bi, ↓no_Bs, ↓no_Bn, ↓no_Br, ↓tr_b, ↓tr_i, ↓tr_n, ↓tr_t, ↓tr_l, ↓ix_t, ↓ix_l, ↓ix_rl, ↓at_0, ↓at_1, ↓at_2, ↓at_3, ↓s_n, ↓s_c, ↓s_asg, ↓s_asgL, ↓s_par, ↓s_swp, ↓s_set, ↓s_ex, ↓s_ite, ↓s_for, ↓s_wh, ↓s_ret, ↓s_retN, ↓s_pass, ↓s_brk, ↓s_rz, ↓s_cont, ↓g_nm, ↓g_tp, ↓g_ls, ↓g_n, ↓g_c, ↓par_n, ↓par_c, ↓nw_f, ↓nw_t, ↓len_l, ↓len_t, ↓abs_i, ↓int_i, ↓int_b, ↓repr_h, ↓max_i, ↓min_i, ↓st_0, ↓st_s, ↓supd_supd, ↓ix_ref, ↓set_ref, ↓fd_turn, ↓fd_left, ↓fd_at, ↓fd_cells, ↓fs_turn, ↓fs_left, ↓fs_at, ↓ne_nil, ↓len_is, map_at, ↓ix_q0, ↓ix_q1, ↓g_q, ↓len_q, ↓tr_q, ↓low_eq, ↓q1_eq, ↓q2_eq, ↓sz_0, ↓sz_1, ↓sz_2, ↓sz_3, ↓sz_4, ↓sz_5, ↓sz_6, ↓sz_7, ↓sz_8, ↓itp_t, ↓itp_l, ↓itl_l, ↓pl_2, ↓pl_3, iteE_q, joinS_q, ↓eq_q, ↓ne_q, ↓ixC_l, ↓frz_ref, ↓tup_l, ↓tup_t, ↓lst_l, ↓lst_t, ↓sl_t, ↓slr_t, ↓mul_l, ↓add_l, ↓ifs_0, gsl_nm, gsl_tp, gsl_n, gsl_c, wipe_n, wipe_c, List.replicate, Option.map_some, decide_eq_true_eq, ↓reduceIte, Bool.false_eq_true, Bool.not_eq_eq_eq_not, Bool.not_true, Bool.not_false, true_and, forall_const, Bool.and_eq_true, Bool.or_eq_true, decide_eq_false_iff_not, not_true_eq_false, not_false_eq_true, decide_true, decide_false]
      have := fin (some (frq (((eN E' (k + 1)).1 - (eN E' k).1) / (pn cs (k + 1) - pn cs k))))
      rw [List.map_append] at this
      exact this
    · rw [decide_eq_false s1, iteS_0]
      simp! only [at_ref q1, e0, e1]
      refine use_cubic ⟨g0.cu g1, ln⟩ ?_
      simp! only
      have ep : trim (cuL (eN E' k).1 (eN E' k).2 (eN E' (k + 1)).1 (eN E' (k + 1)).2 (pn cs (k + 1) - pn cs k)) = pcL so (eN E' k) (eN E' (k + 1)) (pn cs (k + 1) - pn cs k) := by
        unfold pcL
        rw [if_neg s1]
      rw [ep]
      refine use_app2 h1 (by rw [List.length_map, pl]; exact Nat.lt_of_le_of_lt (show k ≤ 20 by omega) (by decide)) ?_
      try simp only [↓e_cnt, ↓e_sl2, ↓e_dget, ↓e_isx, ↓t_isx, ↓e_fld, ↓e_callh, ↓t_callh, ↓hc_s, ↓hf_s, ↓ix_s, ↓fl_s, ↓ch_s, ↓s_raise, ↓s_try, ↓ex_s, ↓mk_NoOver, ↓mk_NoStretch, ↓mk_NoOne, ↓mk_NoText, ↓mk_NoPlace, ↓mk_NoPoint, ↓mk_Twice, ↓mk_NoCut, ↓mk_NoSmooth, ↓mk_NoShares, ↓mk_NoKnot, ↓mk_NoTask, ↓mk_NoPaper, ↓mk_NoKnots, ↓mk_NoSheet, ↓lk_1, ↓lk_n, ↓lk_w, ↓any_1, ↓gv_z, ↓gv_s, ↓sv_z, ↓sv_s, ↓wv_z, wv_z, ↓wv_s, wv_s, iteE_int, iteE_bl, iteE_str, iteE_lst, iteE_same, iteE_c1, iteE_c2, iteE_1, iteE_0, iteT_1, iteT_0, andT_1, andT_0, orT_1, orT_0, andE_1, andE_0, orE_1, orE_0, iteS_1, iteS_0, andE_bl, andE_c, orE_bl, orE_c, iteT_v, iteT_c1, iteT_c2, andT_v, andT_c, orT_v, orT_c, iteS_v, iteS_c1, iteS_c2, iteS_r1, iteS_r2, joinS_n, joinS_same, joinS_int, joinS_bl, ixS_s, ↓e_v, ↓e_N, ↓e_B, ↓e_I, ↓e_S, ↓e_gl, ↓e_add, ↓e_sub, ↓e_mul, ↓e_fdiv, ↓e_mod, ↓e_pow, ↓e_neg, ↓e_cmp, ↓bP_b, ↓t_cmp, ↓e_cmp2, ↓t_cmp2, ↓e_and1, ↓e_and2, ↓t_and1, ↓t_and2, ↓e_or1, ↓e_or2, ↓t_or1, ↓t_or2, ↓e_not, ↓t_not, ↓e_ite, ↓t_ite, ↓e_tup, ↓e_lst, ↓e_dct, ↓e_ix, ↓e_sl, ↓e_slr, ↓e_call, ↓e_bi, ↓e_mt, ↓e_lc, ↓e_frz, ↓t_frz, ↓iP_i, ↓e_idx, ↓e_lrg1, ↓e_lrg2, ↓t_v, ↓t_B, ↓t_N, ↓t_I, ↓t_ix, ↓t_bin, ↓t_call, ↓t_bi, ↓t_sl, ↓t_lc, ↓a_n, ↓a_c, ↓if_n, ↓if_1, ↓o_n, ↓o_s, ↓i_val, ↓i_r1, ↓i_r2, ↓i_r3, ↓i_enum, ↓i_zip, ↓i_rev, ↓add_i, ↓add_s, ↓add_t, ↓sub_i, ↓mul_i, ↓fdiv_i, ↓mod_i, ↓pow_i, ↓neg_i, ↓eq_i, ↓eq_s, ↓eq_b, ↓ne_i, ↓ne_s, ↓ne_b, ↓lt_i, ↓le_i, ↓gt_i, ↓ge_i, ↓is_N, ↓no_N, ↓is_B, ↓no_B, ↓is_Bt, ↓is_Bl, ↓is_Bi, ↓is_Bs, ↓is_Bn, ↓is_Br, ↓no_Bt, ↓no_Bl, ↓no_Bi, ↓no_Bs, ↓no_Bn, ↓no_Br, ↓tr_b, ↓tr_i, ↓tr_n, ↓tr_t, ↓tr_l, ↓ix_t, ↓ix_l, ↓ix_rl, ↓at_0, ↓at_1, ↓at_2, ↓at_3, ↓s_n, ↓s_c, ↓s_asg, ↓s_asgL, ↓s_par, ↓s_swp, ↓s_set, ↓s_ex, ↓s_ite, ↓s_for, ↓s_wh, ↓s_ret, ↓s_retN, ↓s_pass, ↓s_brk, ↓s_rz, ↓s_cont, ↓g_nm, ↓g_tp, ↓g_ls, ↓g_n, ↓g_c, ↓par_n, ↓par_c, ↓nw_f, ↓nw_t, ↓len_l, ↓len_t, ↓abs_i, ↓int_i, ↓int_b, ↓repr_h, ↓max_i, ↓min_i, ↓st_0, ↓st_s, ↓supd_supd, ↓ix_ref, ↓set_ref, ↓fd_turn, ↓fd_left, ↓fd_at, ↓fd_cells, ↓fs_turn, ↓fs_left, ↓fs_at, ↓ne_nil, ↓len_is, map_at, ↓ix_q0, ↓ix_q1, ↓g_q, ↓len_q, ↓tr_q, ↓low_eq, ↓q1_eq, ↓q2_eq, ↓sz_0, ↓sz_1, ↓sz_2, ↓sz_3, ↓sz_4, ↓sz_5, ↓sz_6, ↓sz_7, ↓sz_8, ↓itp_t, ↓itp_l, ↓itl_l, ↓pl_2, ↓pl_3, iteE_q, joinS_q, ↓eq_q, ↓ne_q, ↓ixC_l, ↓frz_ref, ↓tup_l, ↓tup_t, ↓lst_l, ↓lst_t, ↓sl_t, ↓slr_t, ↓mul_l, ↓add_l, ↓ifs_0, gsl_nm, gsl_tp, gsl_n, gsl_c, wipe_n, wipe_c, List.replicate, Option.map_some, decide_eq_true_eq, ↓reduceIte, Bool.false_eq_true, Bool.not_eq_eq_eq_not, Bool.not_true, Bool.not_false, true_and, forall_const, Bool.and_eq_true, Bool.or_eq_true, decide_eq_false_iff_not, not_true_eq_false, not_false_eq_true, decide_true, decide_false]
      have := fin o9
      rw [List.map_append] at this
      exact this
  · rintro δ S1 ⟨k, j, ps, o6, o7, o9, e, hk, ⟨pl, hp'⟩, h1, q1, X1, rfl⟩
    have m0 := congrArg List.length e
    rw [rng_len, List.length_nil] at m0
    obtain rfl : k = m := by omega
    simp! only
    refine tup_lsx (lx _ X1) ?_
    refine frz_at h1 ?_
    try simp only [↓e_cnt, ↓e_sl2, ↓e_dget, ↓e_isx, ↓t_isx, ↓e_fld, ↓e_callh, ↓t_callh, ↓hc_s, ↓hf_s, ↓ix_s, ↓fl_s, ↓ch_s, ↓s_raise, ↓s_try, ↓ex_s, ↓mk_NoOver, ↓mk_NoStretch, ↓mk_NoOne, ↓mk_NoText, ↓mk_NoPlace, ↓mk_NoPoint, ↓mk_Twice, ↓mk_NoCut, ↓mk_NoSmooth, ↓mk_NoShares, ↓mk_NoKnot, ↓mk_NoTask, ↓mk_NoPaper, ↓mk_NoKnots, ↓mk_NoSheet, ↓lk_1, ↓lk_n, ↓lk_w, ↓any_1, ↓gv_z, ↓gv_s, ↓sv_z, ↓sv_s, ↓wv_z, wv_z, ↓wv_s, wv_s, iteE_int, iteE_bl, iteE_str, iteE_lst, iteE_same, iteE_c1, iteE_c2, iteE_1, iteE_0, iteT_1, iteT_0, andT_1, andT_0, orT_1, orT_0, andE_1, andE_0, orE_1, orE_0, iteS_1, iteS_0, andE_bl, andE_c, orE_bl, orE_c, iteT_v, iteT_c1, iteT_c2, andT_v, andT_c, orT_v, orT_c, iteS_v, iteS_c1, iteS_c2, iteS_r1, iteS_r2, joinS_n, joinS_same, joinS_int, joinS_bl, ixS_s, ↓e_v, ↓e_N, ↓e_B, ↓e_I, ↓e_S, ↓e_gl, ↓e_add, ↓e_sub, ↓e_mul, ↓e_fdiv, ↓e_mod, ↓e_pow, ↓e_neg, ↓e_cmp, ↓bP_b, ↓t_cmp, ↓e_cmp2, ↓t_cmp2, ↓e_and1, ↓e_and2, ↓t_and1, ↓t_and2, ↓e_or1, ↓e_or2, ↓t_or1, ↓t_or2, ↓e_not, ↓t_not, ↓e_ite, ↓t_ite, ↓e_tup, ↓e_lst, ↓e_dct, ↓e_ix, ↓e_sl, ↓e_slr, ↓e_call, ↓e_bi, ↓e_mt, ↓e_lc, ↓e_frz, ↓t_frz, ↓iP_i, ↓e_idx, ↓e_lrg1, ↓e_lrg2, ↓t_v, ↓t_B, ↓t_N, ↓t_I, ↓t_ix, ↓t_bin, ↓t_call, ↓t_bi, ↓t_sl, ↓t_lc, ↓a_n, ↓a_c, ↓if_n, ↓if_1, ↓o_n, ↓o_s, ↓i_val, ↓i_r1, ↓i_r2, ↓i_r3, ↓i_enum, ↓i_zip, ↓i_rev, ↓add_i, ↓add_s, ↓add_t, ↓sub_i, ↓mul_i, ↓fdiv_i, ↓mod_i, ↓pow_i, ↓neg_i, ↓eq_i, ↓eq_s, ↓eq_b, ↓ne_i, ↓ne_s, ↓ne_b, ↓lt_i, ↓le_i, ↓gt_i, ↓ge_i, ↓is_N, ↓no_N, ↓is_B, ↓no_B, ↓is_Bt, ↓is_Bl, ↓is_Bi, ↓is_Bs, ↓is_Bn, ↓is_Br, ↓no_Bt, ↓no_Bl, ↓no_Bi, ↓no_Bs, ↓no_Bn, ↓no_Br, ↓tr_b, ↓tr_i, ↓tr_n, ↓tr_t, ↓tr_l, ↓ix_t, ↓ix_l, ↓ix_rl, ↓at_0, ↓at_1, ↓at_2, ↓at_3, ↓s_n, ↓s_c, ↓s_asg, ↓s_asgL, ↓s_par, ↓s_swp, ↓s_set, ↓s_ex, ↓s_ite, ↓s_for, ↓s_wh, ↓s_ret, ↓s_retN, ↓s_pass, ↓s_brk, ↓s_rz, ↓s_cont, ↓g_nm, ↓g_tp, ↓g_ls, ↓g_n, ↓g_c, ↓par_n, ↓par_c, ↓nw_f, ↓nw_t, ↓len_l, ↓len_t, ↓abs_i, ↓int_i, ↓int_b, ↓repr_h, ↓max_i, ↓min_i, ↓st_0, ↓st_s, ↓supd_supd, ↓ix_ref, ↓set_ref, ↓fd_turn, ↓fd_left, ↓fd_at, ↓fd_cells, ↓fs_turn, ↓fs_left, ↓fs_at, ↓ne_nil, ↓len_is, map_at, ↓ix_q0, ↓ix_q1, ↓g_q, ↓len_q, ↓tr_q, ↓low_eq, ↓q1_eq, ↓q2_eq, ↓sz_0, ↓sz_1, ↓sz_2, ↓sz_3, ↓sz_4, ↓sz_5, ↓sz_6, ↓sz_7, ↓sz_8, ↓itp_t, ↓itp_l, ↓itl_l, ↓pl_2, ↓pl_3, iteE_q, joinS_q, ↓eq_q, ↓ne_q, ↓ixC_l, ↓frz_ref, ↓tup_l, ↓tup_t, ↓lst_l, ↓lst_t, ↓sl_t, ↓slr_t, ↓mul_l, ↓add_l, ↓ifs_0, gsl_nm, gsl_tp, gsl_n, gsl_c, wipe_n, wipe_c, List.replicate, Option.map_some, decide_eq_true_eq, ↓reduceIte, Bool.false_eq_true, Bool.not_eq_eq_eq_not, Bool.not_true, Bool.not_false, true_and, forall_const, Bool.and_eq_true, Bool.or_eq_true, decide_eq_false_iff_not, not_true_eq_false, not_false_eq_true, decide_true, decide_false]
    exact h E' ps _ (RwM.of hC hE' hl' pl hp') pl hrn ((X1.del pf sp).le (by omega))
/-! cuts of one's own, at parts of the stretch -/
/-- rising, from 1 to b -/
def SrN (b : Nat) (ks : List Nat) : Prop := (∀ i, i + 1 < ks.length → ks.getD i 0 < ks.getD (i + 1) 0) ∧ ∀ i, i < ks.length → 1 ≤ ks.getD i 0 ∧ ks.getD i 0 ≤ b
theorem getD_app {ks : List Nat} {x i : Nat} : (ks ++ [x]).getD i 0 = if i < ks.length then ks.getD i 0 else if i = ks.length then x else 0 := by
  rw [List.getD_eq_getElem?_getD, List.getElem?_append, List.getD_eq_getElem?_getD]
  by_cases c : i < ks.length
  · rw [if_pos c, if_pos c]
  · rw [if_neg c, if_neg c]
    by_cases e : i = ks.length
    · rw [if_pos e, e, Nat.sub_self]
      rfl
    · rw [if_neg e, List.getElem?_eq_none (by simp; omega)]
      rfl
theorem SrN.up {b : Nat} {ks : List Nat} (h : SrN b ks) : SrN (b + 1) ks := ⟨h.1, fun i hi => ⟨(h.2 i hi).1, by have := (h.2 i hi).2; omega⟩⟩
theorem SrN.more {b : Nat} {ks : List Nat} (h : SrN b ks) : SrN (b + 1) (ks ++ [b + 1]) := by
  refine ⟨fun i hi => ?_, fun i hi => ?_⟩
  · rw [List.length_append, List.length_singleton] at hi
    rw [getD_app, getD_app, if_pos (show i < ks.length by omega)]
    by_cases c : i + 1 < ks.length
    · rw [if_pos c]
      exact h.1 i c
    · rw [if_neg c, if_pos (by omega)]
      have := (h.2 i (by omega)).2
      omega
  · rw [List.length_append, List.length_singleton] at hi
    rw [getD_app]
    by_cases c : i < ks.length
    · rw [if_pos c]
      have := h.2 i c
      omega
    · rw [if_neg c, if_pos (by omega)]
      omega
theorem SrN.whole {b d : Nat} {ks : List Nat} (h : SrN b ks) (bd : b < d) : (∀ i, i + 1 < (0 :: (ks ++ [d])).length → (0 :: (ks ++ [d])).getD i 0 < (0 :: (ks ++ [d])).getD (i + 1) 0) ∧ ∀ i, i < (0 :: (ks ++ [d])).length → (0 :: (ks ++ [d])).getD i 0 ≤ d := by
  refine ⟨fun i hi => ?_, fun i hi => ?_⟩
  · rw [List.length_cons, List.length_append, List.length_singleton] at hi
    rw [List.getD_cons_succ, getD_app]
    cases i with
    | zero =>
      rw [List.getD_cons_zero]
      split
      · rename_i c
        exact (h.2 0 c).1
      · rw [if_pos (by omega)]
        omega
    | succ i =>
      rw [List.getD_cons_succ, getD_app, if_pos (show i < ks.length by omega)]
      split
      · rename_i c
        exact h.1 i c
      · rw [if_pos (by omega)]
        have := (h.2 i (by omega)).2
        omega
  · rw [List.length_cons, List.length_append, List.length_singleton] at hi
    cases i with
    | zero => exact Nat.zero_le _
    | succ i =>
      rw [List.getD_cons_succ, getD_app]
      split
      · rename_i c
        have := (h.2 i c).2
        omega
      · rw [if_pos (by omega)]
        exact Nat.le_refl _
def ptR (a w : Rat) (d : Nat) (k : Nat) : Rat := a + w * ((k : Rat) / (d : Rat))
theorem ptR_sz {a w : Rat} {d k : Nat} (ha : Ig 6 a ∧ Ab 30 a) (hw : Ig 6 w) (w0 : 0 < w) (w81 : w ≤ 81) (d1 : 1 ≤ d) (kd : k ≤ d) : Ig (6 * d) (ptR a w d k) ∧ Ab 111 (ptR a w d k) := by
  have d0 : (0 : Rat) < (d : Rat) := Rat.natCast_pos.mpr (by omega)
  have kd' : (k : Rat) ≤ (d : Rat) := Rat.natCast_le_natCast.mpr kd
  have k0 : (0 : Rat) ≤ (k : Rat) := Rat.natCast_nonneg
  have e : (k : Rat) / (d : Rat) * (d : Rat) = (k : Rat) := by
    have : (d : Rat) ≠ 0 := by grind
    grind
  have q0 : 0 ≤ (k : Rat) / (d : Rat) := by
    refine Rat.not_lt.mp fun c => ?_
    have := Rat.mul_lt_mul_of_pos_right c d0
    grind
  have q1 : (k : Rat) / (d : Rat) ≤ 1 := by
    refine Rat.not_lt.mp fun c => ?_
    have := Rat.mul_lt_mul_of_pos_right c d0
    grind
  have i : Ig d ((k : Rat) / (d : Rat)) := ⟨(k : Int), by rw [e, Rat.intCast_natCast]⟩
  have wq : Ab 81 (w * ((k : Rat) / (d : Rat))) := by
    have := (show Ab 81 w from ⟨by grind, w81⟩).mul (show Ab 1 ((k : Rat) / (d : Rat)) from ⟨by grind, q1⟩)
    exact this.le (by decide +kernel)
  exact ⟨(ha.1.up d).add (hw.mul i), (ha.2.add wq).le (by decide +kernel)⟩
theorem ptR_lt {a w : Rat} {d k l : Nat} (w0 : 0 < w) (d1 : 1 ≤ d) (kl : k < l) (ld : l ≤ d) : ptR a w d k < ptR a w d l ∧ ptR a w d l - ptR a w d k ≤ w := by
  have d0 : (0 : Rat) < (d : Rat) := Rat.natCast_pos.mpr (by omega)
  have kl' : (k : Rat) < (l : Rat) := Rat.natCast_lt_natCast.mpr kl
  have ld' : (l : Rat) ≤ (d : Rat) := Rat.natCast_le_natCast.mpr ld
  have k0 : (0 : Rat) ≤ (k : Rat) := Rat.natCast_nonneg
  have e : ((l : Rat) / (d : Rat) - (k : Rat) / (d : Rat)) * (d : Rat) = (l : Rat) - (k : Rat) := by
    have : (d : Rat) ≠ 0 := by grind
    grind
  have q0 : 0 < (l : Rat) / (d : Rat) - (k : Rat) / (d : Rat) := by
    refine Rat.not_le.mp fun c => ?_
    have := Rat.mul_le_mul_of_nonneg_right c (Rat.le_of_lt d0)
    grind
  have q1 : (l : Rat) / (d : Rat) - (k : Rat) / (d : Rat) ≤ 1 := by
    refine Rat.not_lt.mp fun c => ?_
    have := Rat.mul_lt_mul_of_pos_right c d0
    grind
  have p := Rat.mul_pos w0 q0
  have r := Rat.mul_le_mul_of_nonneg_left q1 (Rat.le_of_lt w0)
  unfold ptR
  exact ⟨by grind, by grind⟩
theorem pn_ptr {a w : Rat} {d : Nat} {ks : List Nat} {i : Nat} (hi : i < ks.length) : pn (ks.map (ptR a w d)) i = ptR a w d (ks.getD i 0) := by
  unfold pn
  rw [List.getD_eq_getElem?_getD, List.getElem?_map, List.getElem?_eq_getElem hi, List.getD_eq_getElem?_getD, List.getElem?_eq_getElem hi]
  rfl

abbrev D4 (d : Nat) : Prop := d = 2 ∨ d = 3 ∨ d = 5 ∨ d = 7
theorem part_sz {a d : Nat} (h : D4 d) (a1 : 1 ≤ a) (ad : a ≤ d) : (Ig 15120 (1 / ((a : Rat) / (d : Rat))) ∧ Ig 210 ((a : Rat) / (d : Rat))) ∧ 1 / 7 ≤ (a : Rat) / (d : Rat) ∧ (a : Rat) / (d : Rat) ≤ 1 := by
  have : a = 1 ∨ a = 2 ∨ a = 3 ∨ a = 4 ∨ a = 5 ∨ a = 6 ∨ a = 7 := by rcases h with rfl | rfl | rfl | rfl <;> omega
  rcases h with rfl | rfl | rfl | rfl <;> rcases this with rfl | rfl | rfl | rfl | rfl | rfl | rfl <;> first
    | exact ⟨⟨Ig.of_den (by decide +kernel), Ig.of_den (by decide +kernel)⟩, by decide +kernel, by decide +kernel⟩
    | exact absurd ad (by decide)
theorem oc_ln {w : Rat} {N d a : Nat} (hN : w * 6 = (N : Rat)) (N1 : 1 ≤ N) (N2 : N ≤ 270) (h : D4 d) (a1 : 1 ≤ a) (ad : a ≤ d) : LnK (2520 * N) (w * ((a : Rat) / (d : Rat))) := by
  obtain ⟨⟨i1, i2⟩, q1, q2⟩ := part_sz h a1 ad
  generalize (a : Rat) / (d : Rat) = q at *
  have n1 : (1 : Rat) ≤ (N : Rat) := by
    have : ((1 : Nat) : Rat) ≤ (N : Rat) := Rat.natCast_le_natCast.mpr N1
    exact this
  have n2 : (N : Rat) ≤ 270 := by
    have : (N : Rat) ≤ ((270 : Nat) : Rat) := Rat.natCast_le_natCast.mpr N2
    exact this
  have w1 : 1 / 6 ≤ w := by grind
  have w2 : w ≤ 45 := by grind
  have w0 : 0 < w := by grind
  have q0 : 0 < q := by grind
  have t0 : 0 < w * q := Rat.mul_pos w0 q0
  have t1 : w * (1 / 7) ≤ w * q := Rat.mul_le_mul_of_nonneg_left q1 (Rat.le_of_lt w0)
  have t2 : w * q ≤ w * 1 := Rat.mul_le_mul_of_nonneg_left q2 (Rat.le_of_lt w0)
  have e : 1 / (w * q) * (w * q) = 1 := by grind
  have p : 0 < 1 / (w * q) := by
    refine Rat.not_le.mp fun c => ?_
    have := Rat.mul_le_mul_of_nonneg_right c (Rat.le_of_lt t0)
    grind
  refine ⟨t0, ⟨by omega, by omega⟩, ⟨?_, ⟨by grind, ?_⟩⟩, ⟨?_, ⟨by grind, by grind⟩⟩⟩
  · obtain ⟨z, hz⟩ := i1
    refine ⟨z, ?_⟩
    rw [← hz]
    have eN : ((2520 * N : Nat) : Rat) = 2520 * (w * 6) := by rw [Rat.natCast_mul, hN]; rfl
    have e15 : ((15120 : Nat) : Rat) = 15120 := rfl
    have eq : 1 / q * q = 1 := by grind
    rw [eN, e15]
    grind
  · refine Rat.not_lt.mp fun c => ?_
    have := Rat.mul_lt_mul_of_pos_right c t0
    grind
  · have i6 : Ig 6 w := ⟨(N : Int), by rw [Rat.intCast_natCast, ← hN]; rfl⟩
    exact (i6.mul i2).cast (by decide)
theorem CtS.whole {m : Nat} {cs : List Rat} (h : CtS m cs) (m1 : 1 ≤ m) (m5 : m ≤ 5) : ∃ N : Nat, 1 ≤ N ∧ N ≤ 270 ∧ (pn cs m - pn cs 0) * 6 = (N : Rat) := by
  have a0 := (h.cn 0 (Nat.zero_le _)).1
  have am := (h.cn m (Nat.le_refl _)).1
  obtain ⟨z, hz⟩ := am.sub a0
  have lt : ∀ j, j ≤ m → pn cs 0 ≤ pn cs j ∧ pn cs j - pn cs 0 ≤ 9 * (j : Rat) := by
    intro j
    induction j with
    | zero =>
      intro _
      have e : ((0 : Nat) : Rat) = 0 := rfl
      rw [e]
      exact ⟨Rat.le_refl, by grind⟩
    | succ j ih =>
      intro hj
      have i := ih (by omega)
      have u := h.up j (by omega)
      have v := h.l9 j (by omega)
      have e : ((j + 1 : Nat) : Rat) = (j : Rat) + 1 := Rat.natCast_add j 1
      rw [e]
      exact ⟨by grind, by grind⟩
  have lm := lt m (Nat.le_refl _)
  have l1 := lt (m - 1) (by omega)
  have u := h.up (m - 1) (by omega)
  rw [show m - 1 + 1 = m by omega] at u
  have m5' : (m : Rat) ≤ ((5 : Nat) : Rat) := Rat.natCast_le_natCast.mpr m5
  have e5 : ((5 : Nat) : Rat) = 5 := rfl
  have e6 : ((6 : Nat) : Rat) = 6 := rfl
  rw [e6] at hz
  have zp : (0 : Rat) < (z : Rat) := by grind
  have zl : (z : Rat) ≤ 270 := by grind
  have z0 : 0 < z := by
    have : ((0 : Int) : Rat) < (z : Rat) := zp
    exact Rat.intCast_lt_intCast.mp this
  have z2 : z ≤ 270 := by
    have : (z : Rat) ≤ ((270 : Int) : Rat) := zl
    exact Rat.intCast_le_intCast.mp this
  refine ⟨z.toNat, by omega, by omega, ?_⟩
  rw [hz, ← Rat.intCast_natCast, Int.toNat_of_nonneg (by omega)]
theorem CtS.ce {m N : Nat} {cs : List Rat} (h : CtS m cs) (m1 : 1 ≤ m) (m5 : m ≤ 5) (N1 : 1 ≤ N) (N2 : N ≤ 270) : CuE (2520 * N) m cs := by
  refine ⟨h.lc, m1, by omega, h.up, fun c mc => ?_, fun k hk => ?_⟩
  · obtain ⟨i, hi, rfl⟩ := List.mem_iff_getElem.mp mc
    have := h.sz (by omega) i (by have := h.lc; omega)
    rw [pn_of_at hi]
    exact ⟨(this.1.up 210).cast (by decide), this.2.le (by decide +kernel)⟩
  · have u := h.up k hk
    have l := h.l9 k hk
    have i := h.iv k hk
    have a := (h.cn k (by omega)).1
    have b := (h.cn (k + 1) (by omega)).1
    exact ⟨by grind, ⟨by omega, by omega⟩, ⟨i.1.up N, i.2.le (by decide +kernel)⟩, ⟨((b.sub a).up 210).cast (by decide), ⟨by grind, by grind⟩⟩⟩
structure OcK (cs : List Rat) (m : Nat) (es : List Rat) (l : Nat) : Prop where
  ce : ∀ N : Nat, (pn cs m - pn cs 0) * 6 = (N : Rat) → 1 ≤ N → N ≤ 270 → CuE (2520 * N) l es
  f0 : pn es 0 = pn cs 0
  fl : pn es l = pn cs m
theorem OcK.of {cs : List Rat} {m d : Nat} {kk : List Nat} (h : CtS m cs) (m1 : 1 ≤ m) (m5 : m ≤ 5) (hd : D4 d) (W1 : ∀ i, i + 1 < kk.length → kk.getD i 0 < kk.getD (i + 1) 0) (W2 : ∀ i, i < kk.length → kk.getD i 0 ≤ d) (k0 : kk.getD 0 0 = 0) (kl : kk.getD (kk.length - 1) 0 = d) (l2 : 2 ≤ kk.length) (l8 : kk.length ≤ 8) : OcK cs m (kk.map (ptR (pn cs 0) (pn cs m - pn cs 0) d)) (kk.length - 1) := by
  obtain ⟨N, N1, N2, hN⟩ := h.whole m1 m5
  have P := fun i (hi : i < kk.length) => pn_ptr (a := pn cs 0) (w := pn cs m - pn cs 0) (d := d) hi
  have d1 : 1 ≤ d := by omega
  have dr : (d : Rat) ≠ 0 := by
    have : (0 : Rat) < (d : Rat) := Rat.natCast_pos.mpr (by omega)
    grind
  have s0 := h.cn 0 (Nat.zero_le _)
  have sm := (h.cn m (Nat.le_refl _)).1
  have e0 : (30 : Rat) + 9 * ((0 : Nat) : Rat) = 30 := by decide +kernel
  rw [e0] at s0
  have n1 : (1 : Rat) ≤ (N : Rat) := by
    have : ((1 : Nat) : Rat) ≤ (N : Rat) := Rat.natCast_le_natCast.mpr N1
    exact this
  have n2 : (N : Rat) ≤ 270 := by
    have : (N : Rat) ≤ ((270 : Nat) : Rat) := Rat.natCast_le_natCast.mpr N2
    exact this
  refine ⟨fun M hM M1 M2 => ⟨by rw [List.length_map]; omega, by omega, by omega, fun k hk => ?_, fun c mc => ?_, fun k hk => ?_⟩, ?_, ?_⟩
  · rw [P k (by omega), P (k + 1) (by omega)]
    exact (ptR_lt (by grind) d1 (W1 k (by omega)) (W2 _ (by omega))).1
  · obtain ⟨i, mi, rfl⟩ := List.mem_map.mp mc
    obtain ⟨y, hy, ey⟩ := List.mem_iff_getElem.mp mi
    have := W2 y hy
    rw [List.getD_eq_getElem?_getD, List.getElem?_eq_getElem hy] at this
    have e2 : (some kk[y]).getD 0 = kk[y] := rfl
    rw [e2, ey] at this
    have z := ptR_sz s0 (sm.sub s0.1) (by grind) (by grind) d1 this
    refine ⟨?_, z.2.le (by decide +kernel)⟩
    rcases hd with rfl | rfl | rfl | rfl
    · exact (z.1.up 105).cast (by decide)
    · exact (z.1.up 70).cast (by decide)
    · exact (z.1.up 42).cast (by decide)
    · exact (z.1.up 30).cast (by decide)
  · rw [P k (by omega), P (k + 1) (by omega)]
    have lt := W1 k (by omega)
    have le := W2 (k + 1) (by omega)
    have e : ptR (pn cs 0) (pn cs m - pn cs 0) d (kk.getD (k + 1) 0) - ptR (pn cs 0) (pn cs m - pn cs 0) d (kk.getD k 0) = (pn cs m - pn cs 0) * (((kk.getD (k + 1) 0 - kk.getD k 0 : Nat) : Rat) / (d : Rat)) := by
      have ec : ((kk.getD (k + 1) 0 - kk.getD k 0 : Nat) : Rat) + ((kk.getD k 0 : Nat) : Rat) = ((kk.getD (k + 1) 0 : Nat) : Rat) := by
        rw [← Rat.natCast_add]
        congr 1
        omega
      unfold ptR
      rw [← ec]
      grind
    rw [e]
    exact oc_ln hM M1 M2 hd (by omega) (by omega)
  · rw [P 0 (by omega), k0]
    unfold ptR
    have : ((0 : Nat) : Rat) = 0 := rfl
    rw [this]
    grind
  · rw [P _ (by omega), kl]
    unfold ptR
    grind
abbrev sp__law_other_cuts : Spec := fun ds S Q _ => ∃ (f q : Addr) (n m : Nat) (cs : List Rat), ds = [.ref f, .ref q] ∧ (Feed n S f ∧ n + 10 < nMost ∧ q ≠ f ∧ S q = some (.lst (cs.map frq)) ∧ CtS m cs ∧ 1 ≤ m ∧ m ≤ 5) ∧ ∀ (es : List Rat) (l : Nat) (S' : Sto), OcK cs m es l → AdvX f (n + 10) S S' → Q (.lst (es.map frq)) S'
theorem use_ocuts {S : Sto} {f q : Addr} {n m : Nat} {cs : List Rat} {Q : EQ} {U : Ex → Sto → Prop} (h : Feed n S f ∧ n + 10 < nMost ∧ q ≠ f ∧ S q = some (.lst (cs.map frq)) ∧ CtS m cs ∧ 1 ≤ m ∧ m ≤ 5) (k : ∀ (es : List Rat) (l : Nat) (S' : Sto), OcK cs m es l → AdvX f (n + 10) S S' → Q (.lst (es.map frq)) S') : @callS sp__law_other_cuts [.ref f, .ref q] S U ⟨Q⟩ := ⟨f, q, n, m, cs, rfl, h, k⟩
def b__law_other_cuts : Sms := .cons (.asg (.nm 2) (.call "_law_less" sp__law_less (.cons (.ix (.v 1) (.neg (.cI 1))) (.cons (.ix (.v 1) (.cI 0)) (.nil))))) (.cons (.asg (.nm 3) (.ix (.lst false (.cons (.cI 2) (.cons (.cI 3) (.cons (.cI 5) (.cons (.cI 7) (.nil)))))) (.call "_law_draw" sp__law_draw (.cons (.v 0) (.cons (.cI 4) (.nil)))))) (.cons (.asg (.nm 4) (.lst true (.cons (.ix (.v 1) (.cI 0)) (.nil)))) (.cons (.for_ (.nm 5) (.r2 (.cI 1) (.v 3)) (.cons (.ite (.cmp .eq (.call "_law_draw" sp__law_draw (.cons (.v 0) (.cons (.cI 2) (.nil)))) (.cI 0)) (.cons (.ex (.mt .append (.v 4) (.cons (.call "_law_plus" sp__law_plus (.cons (.ix (.v 1) (.cI 0)) (.cons (.call "_law_times" sp__law_times (.cons (.v 2) (.cons (.call "_law_low" sp__law_low (.cons (.v 5) (.cons (.v 3) (.nil)))) (.nil)))) (.nil)))) (.nil)))) (.nil)) (.nil)) (.nil))) (.cons (.ret (.bin .add false (.frz (.v 4)) (.lst false (.cons (.ix (.v 1) (.neg (.cI 1))) (.nil))))) (.nil)))))
theorem t_law_other_cuts : Keeps 6 b__law_other_cuts sp__law_other_cuts 2 := by
  rintro ds S Q U ⟨f, q, n, m, cs, rfl, ⟨hF, hn, qf, hq, hC, m1, m5⟩, h⟩
  refine ⟨rfl, ?_⟩
  have i0 : atI cs 0 = some (pn cs 0) := at_pn (i := 0) (by rw [hC.lc]; omega)
  have il : atI cs (-1) = some (pn cs m) := last_pn hC.lc
  have b0 := (hC.rb (by omega) 0 (Nat.zero_le _)).le (show 12 ≤ 3900 by decide)
  have bm := (hC.rb (by omega) m (Nat.le_refl _)).le (show 12 ≤ 3900 by decide)
  simp! only [b__law_other_cuts, at_ref hq, i0, il, ↓q2_less, b0, bm]
  refine use_draw hF (by omega) (by decide) (Bt.lit (by decide)) fun u S1 u0 u1 A1 => ?_
  obtain ⟨d, hd, d1⟩ : ∃ d : Nat, atI [D.int 2, .int 3, .int 5, .int 7] u = some (.int (d : Int)) ∧ D4 d := by
    have : u = 0 ∨ u = 1 ∨ u = 2 ∨ u = 3 := by omega
    rcases this with rfl | rfl | rfl | rfl
    · exact ⟨2, rfl, .inl rfl⟩
    · exact ⟨3, rfl, .inr (.inl rfl)⟩
    · exact ⟨5, rfl, .inr (.inr (.inl rfl))⟩
    · exact ⟨7, rfl, .inr (.inr (.inr rfl))⟩
  have hq1 : S1 q = some (.lst (cs.map frq)) := (A1.eq q qf).trans hq
  simp! only [hd, at_ref hq1, i0]
  intro p hp
  have pf : p ≠ f := Feed.ne A1.fd hp
  have pq : p ≠ q := fun z => by rw [z, hq1] at hp; cases hp
  have sp : S p = none := by
    cases c : S p with
    | none => rfl
    | some y =>
      have := A1.x.at_ pf c
      rw [hp] at this
      cases this
  have d7 : 2 ≤ d ∧ d ≤ 7 := by omega
  refine ⟨⟨r62_1, r62_ok (by omega)⟩, ?_⟩
  have ed : ((d : Int) - 1).toNat = d - 1 := by omega
  rw [ed]
  have z0 : ptR (pn cs 0) (pn cs m - pn cs 0) d 0 = pn cs 0 := by
    unfold ptR
    have : ((0 : Nat) : Rat) = 0 := rfl
    rw [this]
    grind
  have X1 := A1.x.new (c := .lst [frq (pn cs 0)]) pf sp
  refine for_inv (fun ds δ S' => ∃ (j l : Nat) (ks : List Nat) (o5 : Option D), ds = rngD ((j + 1 : Nat) : Int) l ∧ j + l = d - 1 ∧ (SrN j ks ∧ ks.length ≤ j) ∧ S' p = some (.lst ((0 :: ks).map fun i => frq (ptR (pn cs 0) (pn cs m - pn cs 0) d i))) ∧ AdvX f (n + 1 + j) S S' ∧ δ = [some (.ref f), some (.ref q), some (frq (pn cs m - pn cs 0)), some (.int (d : Int)), some (.ref p), o5]) ?_ ?_ (fun _ _ _ _ => trivial) _ _ _ ⟨0, d - 1, [], _, rfl, by omega, ⟨⟨fun i hi => absurd hi (by simp), fun i hi => absurd hi (by simp)⟩, Nat.le_refl _⟩, by rw [supd_same, List.map_cons, z0]; rfl, X1, rfl⟩
  · rintro e ds δ S2 nx hnx ⟨j, l, ks, o5, e0, hj, ⟨hk1, hk2⟩, hp2, X2, rfl⟩
    obtain ⟨l, rfl, rfl, rfl⟩ := rng_go e0
    simp! only
    refine use_draw X2.fd (by omega) (by decide) (Bt.lit (by decide)) fun v S3 v0 v1 A3 => ?_
    have X3 := X2.trans A3.x
    have hp3 := (A3.eq p pf).trans hp2
    have hq3 : S3 q = some (.lst (cs.map frq)) := X3.at_ qf hq
    simp! only
    refine ⟨fun _ => ⟨p, _, rfl, hp3⟩, ?_⟩
    refine iteS_fac (fun δ S' => ∃ (ks : List Nat) (o5 : Option D), (SrN (j + 1) ks ∧ ks.length ≤ j + 1) ∧ S' p = some (.lst ((0 :: ks).map fun i => frq (ptR (pn cs 0) (pn cs m - pn cs 0) d i))) ∧ AdvX f (n + 1 + (j + 1)) S S' ∧ δ = [some (.ref f), some (.ref q), some (frq (pn cs m - pn cs 0)), some (.int (d : Int)), some (.ref p), o5]) ?_ ?_ ?_
    · intro cv N' hN'
      have c1 : Bt 10 ((j + 1 : Nat) : Int) := by show (((j + 1 : Nat) : Int)).natAbs < 1024; omega
      have c2 : Bt 10 (d : Int) := by show (d : Int).natAbs < 1024; omega
      have q9 : RB 20 (Rat.divInt ((j + 1 : Nat) : Int) (d : Int)) := (RB.divInt c1 c2 (by omega)).le (by decide)
      have eq : Rat.divInt ((j + 1 : Nat) : Int) (d : Int) = ((j + 1 : Nat) : Rat) / (d : Rat) := by
        rw [Rat.divInt_eq_div, Rat.intCast_natCast, Rat.intCast_natCast]
      have wb := ((hC.rb (by omega) m (Nat.le_refl _)).sub (hC.rb (by omega) 0 (Nat.zero_le _)))
      have w9 := wb.le (show _ ≤ 3900 by decide)
      have q99 := q9.le (show 20 ≤ 3900 by decide)
      have pw := (wb.mul q9).le (show _ ≤ 3900 by decide)
      simp! only [at_ref hq3, i0, ↓low_eq, ↓q2_lmul, ↓q2_ladd, b0, w9, q99, pw]
      rw [eq] at q99 pw ⊢
      refine ⟨⟨by omega, c1.le (by decide), c2.le (by decide)⟩, ?_⟩
      trace_state
      refine use_app2 hp3 (by rw [List.length_map]; exact Nat.lt_of_le_of_lt (show (0 :: ks).length ≤ 20 by simp; omega) (by decide)) ?_
      try simp only [↓e_cnt, ↓e_sl2, ↓e_dget, ↓e_isx, ↓t_isx, ↓e_fld, ↓e_callh, ↓t_callh, ↓hc_s, ↓hf_s, ↓ix_s, ↓fl_s, ↓ch_s, ↓s_raise, ↓s_try, ↓ex_s, ↓mk_NoOver, ↓mk_NoStretch, ↓mk_NoOne, ↓mk_NoText, ↓mk_NoPlace, ↓mk_NoPoint, ↓mk_Twice, ↓mk_NoCut, ↓mk_NoSmooth, ↓mk_NoShares, ↓mk_NoKnot, ↓mk_NoTask, ↓mk_NoPaper, ↓mk_NoKnots, ↓mk_NoSheet, ↓lk_1, ↓lk_n, ↓lk_w, ↓any_1, ↓gv_z, ↓gv_s, ↓sv_z, ↓sv_s, ↓wv_z, wv_z, ↓wv_s, wv_s, iteE_int, iteE_bl, iteE_str, iteE_lst, iteE_same, iteE_c1, iteE_c2, iteE_1, iteE_0, iteT_1, iteT_0, andT_1, andT_0, orT_1, orT_0, andE_1, andE_0, orE_1, orE_0, iteS_1, iteS_0, andE_bl, andE_c, orE_bl, orE_c, iteT_v, iteT_c1, iteT_c2, andT_v, andT_c, orT_v, orT_c, iteS_v, iteS_c1, iteS_c2, iteS_r1, iteS_r2, joinS_n, joinS_same, joinS_int, joinS_bl, ixS_s, ↓e_v, ↓e_N, ↓e_B, ↓e_I, ↓e_S, ↓e_gl, ↓e_add, ↓e_sub, ↓e_mul, ↓e_fdiv, ↓e_mod, ↓e_pow, ↓e_neg, ↓e_cmp, ↓bP_b, ↓t_cmp, ↓e_cmp2, ↓t_cmp2, ↓e_and1, ↓e_and2, ↓t_and1, ↓t_and2, ↓e_or1, ↓e_or2, ↓t_or1, ↓t_or2, ↓e_not, ↓t_not, ↓e_ite, ↓t_ite, ↓e_tup, ↓e_lst, ↓e_dct, ↓e_ix, ↓e_sl, ↓e_slr, ↓e_call, ↓e_bi, ↓e_mt, ↓e_lc, ↓e_frz, ↓t_frz, ↓iP_i, ↓e_idx, ↓e_lrg1, ↓e_lrg2, ↓t_v, ↓t_B, ↓t_N, ↓t_I, ↓t_ix, ↓t_bin, ↓t_call, ↓t_bi, ↓t_sl, ↓t_lc, ↓a_n, ↓a_c, ↓if_n, ↓if_1, ↓o_n, ↓o_s, ↓i_val, ↓i_r1, ↓i_r2, ↓i_r3, ↓i_enum, ↓i_zip, ↓i_rev, ↓add_i, ↓add_s, ↓add_t, ↓sub_i, ↓mul_i, ↓fdiv_i, ↓mod_i, ↓pow_i, ↓neg_i, ↓eq_i, ↓eq_s, ↓eq_b, ↓ne_i, ↓ne_s, ↓ne_b, ↓lt_i, ↓le_i, ↓gt_i, ↓ge_i, ↓is_N, ↓no_N, ↓is_B, ↓no_B, ↓is_Bt, ↓is_Bl, ↓is_Bi, ↓is_Bs, ↓is_Bn, ↓is_Br, ↓no_Bt, ↓no_Bl, ↓no_Bi, ↓no_Bs, ↓no_Bn, ↓no_Br, ↓tr_b, ↓tr_i, ↓tr_n, ↓tr_t, ↓tr_l, ↓ix_t, ↓ix_l, ↓ix_rl, ↓at_0, ↓at_1, ↓at_2, ↓at_3, ↓s_n, ↓s_c, ↓s_asg, ↓s_asgL, ↓s_par, ↓s_swp, ↓s_set, ↓s_ex, ↓s_ite, ↓s_for, ↓s_wh, ↓s_ret, ↓s_retN, ↓s_pass, ↓s_brk, ↓s_rz, ↓s_cont, ↓g_nm, ↓g_tp, ↓g_ls, ↓g_n, ↓g_c, ↓par_n, ↓par_c, ↓nw_f, ↓nw_t, ↓len_l, ↓len_t, ↓abs_i, ↓int_i, ↓int_b, ↓repr_h, ↓max_i, ↓min_i, ↓st_0, ↓st_s, ↓supd_supd, ↓ix_ref, ↓set_ref, ↓fd_turn, ↓fd_left, ↓fd_at, ↓fd_cells, ↓fs_turn, ↓fs_left, ↓fs_at, ↓ne_nil, ↓len_is, map_at, ↓ix_q0, ↓ix_q1, ↓g_q, ↓len_q, ↓tr_q, ↓low_eq, ↓q1_eq, ↓q2_eq, ↓sz_0, ↓sz_1, ↓sz_2, ↓sz_3, ↓sz_4, ↓sz_5, ↓sz_6, ↓sz_7, ↓sz_8, ↓itp_t, ↓itp_l, ↓itl_l, ↓pl_2, ↓pl_3, iteE_q, joinS_q, ↓eq_q, ↓ne_q, ↓ixC_l, ↓frz_ref, ↓tup_l, ↓tup_t, ↓lst_l, ↓lst_t, ↓sl_t, ↓slr_t, ↓mul_l, ↓add_l, ↓ifs_0, gsl_nm, gsl_tp, gsl_n, gsl_c, wipe_n, wipe_c, List.replicate, Option.map_some, decide_eq_true_eq, ↓reduceIte, Bool.false_eq_true, Bool.not_eq_eq_eq_not, Bool.not_true, Bool.not_false, true_and, forall_const, Bool.and_eq_true, Bool.or_eq_true, decide_eq_false_iff_not, not_true_eq_false, not_false_eq_true, decide_true, decide_false]
      refine hN' _ _ ⟨ks ++ [j + 1], _, ⟨hk1.more, by simp; omega⟩, ?_, (X3.new pf sp).le (by omega), rfl⟩
      rw [supd_same]
      rw [show (0 :: (ks ++ [j + 1])) = (0 :: ks) ++ [j + 1] from rfl, List.map_append]
      rfl
    · intro cv N' hN'
      exact hN' _ _ ⟨ks, _, ⟨hk1.up, by omega⟩, hp3, X3.le (by omega), rfl⟩
    rintro δ S4 ⟨ks', o5', hk', hp4, X4, rfl⟩
    exact hnx _ _ trivial ⟨j + 1, l, ks', _, rfl, by omega, hk', hp4, X4, rfl⟩
  · rintro δ S2 ⟨j, l, ks, o5, e0, hj, ⟨hk1, hk2⟩, hp2, X2, rfl⟩
    have m1' := congrArg List.length e0
    rw [rng_len, List.length_nil] at m1'
    obtain rfl : j = d - 1 := by omega
    have W := hk1.whole (d := d) (by omega)
    have hq2 : S2 q = some (.lst (cs.map frq)) := X2.at_ qf hq
    simp! only
    refine frz_at hp2 ?_
    have hq4 : sdel S2 p q = some (.lst (cs.map frq)) := (sdel_ne pq.symm).trans hq2
    simp! only [at_ref hq4, il, add_l]
    refine ⟨few_ok (by rw [List.length_map]; simp; omega), ?_⟩
    have zl : ptR (pn cs 0) (pn cs m - pn cs 0) d d = pn cs m := by
      have dr : (d : Rat) ≠ 0 := by
        have : (0 : Rat) < (d : Rat) := Rat.natCast_pos.mpr (by omega)
        grind
      unfold ptR
      grind
    have kl : (0 :: (ks ++ [d])).length = ks.length + 2 := by simp
    have K := OcK.of (kk := 0 :: (ks ++ [d])) hC m1 m5 d1 W.1 W.2 rfl (by rw [kl, show ks.length + 2 - 1 = ks.length + 1 by omega, List.getD_cons_succ, getD_app, if_neg (by omega), if_pos rfl]) (by omega) (by omega)
    have fin := h _ _ _ K ((X2.del pf sp).le (by omega))
    have eL : ((0 :: (ks ++ [d])).map (ptR (pn cs 0) (pn cs m - pn cs 0) d)).map frq = (0 :: ks).map (fun i => frq (ptR (pn cs 0) (pn cs m - pn cs 0) d i)) ++ [frq (pn cs m)] := by
      rw [List.map_map, show (0 :: (ks ++ [d])) = (0 :: ks) ++ [d] from rfl, List.map_append]
      show _ ++ [frq (ptR _ _ d d)] = _
      rw [zl]
      rfl
    rw [eL] at fin
    exact fin
/-! lines bent between their ends -/
structure RwV (so : Int) (n : Nat) (cs : List Rat) (E : List (Rat × Rat)) (ps : List (List Rat)) : Prop where
  rw_ : Rw cs ps
  ct : CuE n ps.length cs
  nm : ∀ p ∈ ps, Nm (6 * (n * n * n)) 33554432 p
  v : ∀ k, k ≤ ps.length → (k < ps.length → mvN (pg ps k) 0 0 = (eN E k).1) ∧ ∀ i, k = i + 1 → mvN (pg ps i) (pn cs (i + 1) - pn cs i) 0 = (eN E k).1
  s : so ≠ 1 → ∀ k, k ≤ ps.length → (k < ps.length → mvN (pg ps k) 0 1 = (eN E k).2) ∧ ∀ i, k = i + 1 → mvN (pg ps i) (pn cs (i + 1) - pn cs i) 1 = (eN E k).2
theorem RwM.V {so : Int} {n : Nat} {cs : List Rat} {E : List (Rat × Rat)} {ps : List (List Rat)} (h : RwM so n cs E ps) : RwV so n cs E ps := ⟨h.rw_, h.ct, fun p mp x mx => ⟨(h.nm p mp x mx).1, (h.nm p mp x mx).2.le (by decide +kernel)⟩, h.v, h.s⟩
def bentL (p : List Rat) (z t : Rat) : List Rat := trim [pn p 0, pn p 1 - z * t, pn p 2 + z]
theorem bentL_ev {p : List Rat} (l : p.length ≤ 2) {z t : Rat} : (pn (bentL p z t) 0 = pn p 0 ∧ ev (bentL p z t) t = ev p t) ∧ (bentL p z t).length ≤ 4 := by
  have l4 := trim_len [pn p 0, pn p 1 - z * t, pn p 2 + z]
  have l5 : [pn p 0, pn p 1 - z * t, pn p 2 + z].length = 3 := rfl
  refine ⟨⟨?_, ?_⟩, by unfold bentL; omega⟩
  · unfold bentL
    rw [trim_pn]
    rfl
  · unfold bentL
    rw [ev_trim, ev4 (p := p) (by omega), pn_len (p := p) (i := 2) (by omega), pn_len (p := p) (i := 3) (by omega)]
    show pn p 0 + t * (pn p 1 - z * t + t * (0 + z + t * 0)) = _
    grind
structure BlK (N : Nat) (cs : List Rat) (ps bs : List (List Rat)) : Prop where
  l : bs.length ≤ ps.length
  h : ∀ k, k < bs.length → ∃ z : Rat, (Ig 6 z ∧ Ab 30 z) ∧ pg bs k = bentL (pg ps k) z (pn cs (k + 1) - pn cs k)
theorem RwM.bent {N : Nat} {cs : List Rat} {E : List (Rat × Rat)} {ps bs : List (List Rat)} (H : RwM 1 (2520 * N) cs E ps) (B : BlK N cs ps bs) (l : bs.length = ps.length) : RwV 1 (2520 * N) cs E bs := by
  have R := H.rw_
  have d1 := H.d1 rfl
  have tm : ∀ p ∈ bs, ∃ k, k < ps.length ∧ pg bs k = p := fun p mp => by
    obtain ⟨k, hk, e⟩ := List.mem_iff_getElem.mp mp
    refine ⟨k, by omega, ?_⟩
    unfold pg
    rw [List.getD_eq_getElem?_getD, List.getElem?_eq_getElem hk]
    exact e
  refine ⟨⟨by rw [l]; exact R.ln, by rw [l]; exact R.ne, fun k hk => R.up k (by omega), fun p mp => ?_, fun k hk => ?_⟩, by rw [l]; exact H.ct, fun p mp x mx => ?_, fun k hk => ⟨fun c => ?_, fun i e => ?_⟩, fun z => absurd rfl z⟩
  · obtain ⟨k, hk, e⟩ := tm p mp
    obtain ⟨z, _, ez⟩ := B.h k (by omega)
    rw [← e, ez]
    exact ⟨trim_trim _, (bentL_ev (d1 _ (pg_mem hk))).2⟩
  · obtain ⟨z, _, ez⟩ := B.h k (by omega)
    obtain ⟨y, _, ey⟩ := B.h (k + 1) hk
    have k0 : k < ps.length := by omega
    have k1 : k + 1 < ps.length := by omega
    rw [ez, ey, (bentL_ev (d1 _ (pg_mem k0))).1.2, (bentL_ev (d1 _ (pg_mem k1))).1.1]
    exact R.jn k (by omega)
  · obtain ⟨k, hk, e⟩ := tm p mp
    obtain ⟨z, zb, ez⟩ := B.h k (by omega)
    rw [← e, ez] at mx
    have t := (H.ct.ln k hk).ig
    have nm := fun i => (H.nm _ (pg_mem hk)).pn (by decide +kernel) i
    have zt := zb.1.mul t.1
    have zta := zb.2.mul t.2
    have e1 : 6 * 1260 * (2 * N * (2520 * N * (2520 * N))) = 6 * (2520 * N * (2520 * N) * (2520 * N)) := by
      rw [show 6 * 1260 * (2 * N * (2520 * N * (2520 * N))) = 6 * (1260 * (2 * N * (2520 * N * (2520 * N)))) from Nat.mul_assoc _ _ _]
      congr 1
      rw [Nat.mul_assoc (2520 * N), ← Nat.mul_assoc 1260, show 1260 * (2 * N) = 2520 * N by omega]
    have mx := trim_mem mx
    rcases List.mem_cons.mp mx with e | mx
    · rw [e]
      exact ⟨(nm 0).1, (nm 0).2.le (by decide +kernel)⟩
    rcases List.mem_cons.mp mx with e | mx
    · rw [e]
      exact ⟨(nm 1).1.sub ((zt.up _).cast e1), ((nm 1).2.sub zta).le (by decide +kernel)⟩
    · rw [List.mem_singleton.mp mx]
      exact ⟨(nm 2).1.add (zb.1.up _), ((nm 2).2.add zb.2).le (by decide +kernel)⟩
  · obtain ⟨z, _, ez⟩ := B.h k c
    have := (H.v k (by omega)).1 (by omega)
    rw [ev_mv0, ev_00] at this
    have k0 : k < ps.length := by omega
    rw [ev_mv0, ev_00, ez, (bentL_ev (d1 _ (pg_mem k0))).1.1]
    exact this
  · obtain ⟨z, _, ez⟩ := B.h i (by omega)
    have := (H.v k (by omega)).2 i e
    rw [ev_mv0] at this
    have k0 : i < ps.length := by omega
    rw [ev_mv0, ez, (bentL_ev (d1 _ (pg_mem k0))).1.2]
    exact this
abbrev sp__law_bent_lines : Spec := fun ds S Q _ => ∃ (f : Addr) (a N : Nat) (cs : List Rat) (E : List (Rat × Rat)) (ps : List (List Rat)), ds = [.ref f, rowD cs ps] ∧ (Feed a S f ∧ a + 20 < nMost ∧ RwM 1 (2520 * N) cs E ps) ∧ ∀ (bs : List (List Rat)) (S' : Sto), RwV 1 (2520 * N) cs E bs → bs.length = ps.length → AdvX f (a + 20) S S' → Q (rowD cs bs) S'
theorem use_bentl {S : Sto} {f : Addr} {a N : Nat} {cs : List Rat} {E : List (Rat × Rat)} {ps : List (List Rat)} {Q : EQ} {U : Ex → Sto → Prop} (h : Feed a S f ∧ a + 20 < nMost ∧ RwM 1 (2520 * N) cs E ps) (k : ∀ (bs : List (List Rat)) (S' : Sto), RwV 1 (2520 * N) cs E bs → bs.length = ps.length → AdvX f (a + 20) S S' → Q (rowD cs bs) S') : @callS sp__law_bent_lines [.ref f, rowD cs ps] S U ⟨Q⟩ := ⟨f, a, N, cs, E, ps, rfl, h, k⟩
def b__law_bent_lines : Sms := .cons (.asg (.tp (.cons (.nm 4) (.cons (.nm 5) (.nil)))) (.v 1)) (.cons (.asg (.nm 2) (.lst true (.nil))) (.cons (.for_ (.nm 3) (.r1 (.bi .len false (.cons (.v 5) (.nil)))) (.cons (.asg (.nm 6) (.call "_law_number" sp__law_number (.cons (.v 0) (.nil)))) (.cons (.asg (.nm 7) (.call "_law_less" sp__law_less (.cons (.ix (.v 4) (.bin .add false (.v 3) (.cI 1))) (.cons (.ix (.v 4) (.v 3)) (.nil))))) (.cons (.asg (.nm 8) (.bin .add true (.bi .list false (.cons (.ix (.v 5) (.v 3)) (.nil))) (.bin .mul false (.lst false (.cons (.tup (.cons (.cI 0) (.cons (.cI 1) (.nil)))) (.nil))) (.bin .sub false (.cI 3) (.bi .len false (.cons (.ix (.v 5) (.v 3)) (.nil))))))) (.cons (.setI (.v 8) (.cI 1) (.call "_law_less" sp__law_less (.cons (.ix (.v 8) (.cI 1)) (.cons (.call "_law_times" sp__law_times (.cons (.v 6) (.cons (.v 7) (.nil)))) (.nil))))) (.cons (.setI (.v 8) (.cI 2) (.call "_law_plus" sp__law_plus (.cons (.ix (.v 8) (.cI 2)) (.cons (.v 6) (.nil))))) (.cons (.ex (.mt .append (.v 2) (.cons (.call "_law_trim" sp__law_trim (.cons (.v 8) (.nil))) (.nil)))) (.nil)))))))) (.cons (.ret (.tup (.cons (.v 4) (.cons (.bi .tuple false (.cons (.frz (.v 2)) (.nil))) (.nil))))) (.nil))))
theorem t_law_bent_lines : Keeps 9 b__law_bent_lines sp__law_bent_lines 2 := by
  rintro ds S Q U ⟨f, a, N, cs, E, ps, rfl, ⟨hF, ha, H⟩, h⟩
  refine ⟨rfl, ?_⟩
  have R := H.rw_
  have ln := R.ln
  have m7 := H.ct.m7
  simp! only [b__law_bent_lines, rowD]
  intro q hq
  have qf : q ≠ f := Feed.ne hF hq
  rw [List.length_map]
  refine ⟨r62_ok (by omega), ?_⟩
  rw [Int.toNat_natCast]
  refine for_inv (fun ds δ S' => ∃ (k j : Nat) (bs : List (List Rat)) (o5 o6 o7 o8 : Option D), ds = rngD (k : Int) j ∧ k + j = ps.length ∧ BlK N cs ps bs ∧ bs.length = k ∧ S' q = some (.lst (bs.map plD)) ∧ AdvX f (a + 2 * k) S S' ∧ δ = [some (.ref f), some (rowD cs ps), some (.ref q), o5, some (.tup (cs.map frq)), some (.tup (ps.map plD)), o6, o7, o8]) ?_ ?_ (fun _ _ _ _ => trivial) _ _ _ ⟨0, ps.length, [], _, _, _, _, rfl, by omega, ⟨Nat.zero_le _, fun k hk => absurd hk (by simp)⟩, rfl, supd_same, (AdvX.mk hF fun _ _ _ => rfl).new qf hq, rfl⟩
  · rintro d ds δ S1 nx hnx ⟨k, j, bs, o5, o6, o7, o8, e, hk, B, bl, h1, X1, rfl⟩
    obtain ⟨j, rfl, rfl, rfl⟩ := rng_go e
    simp! only
    refine use_number ⟨X1.fd, by omega⟩ fun z S2 hz A2 => ?_
    have X2 := X1.trans A2.x
    have h2 := (A2.eq q qf).trans h1
    have e1 := at_cut R (k := k) (by omega)
    have e2 := at_cut1 R (k := k) (by omega)
    have e3 := at_pg (ps := ps) (k := k) (by omega)
    have c9 : ∀ i, i ≤ ps.length → RB 3900 (pn cs i) := fun i hi => (H.ct.rb hi).le (by decide)
    have c1 := c9 k (by omega)
    have c2 := c9 (k + 1) (by omega)
    have pl2 := H.d1 rfl _ (pg_mem (ps := ps) (k := k) (by omega))
    have pb : ∀ i, RB 90 (pn (pg ps k) i) := fun i => by
      have := (H.nm _ (pg_mem (ps := ps) (k := k) (by omega))).pn (by decide +kernel) i
      have l := H.ct.ln k (by omega)
      have n2 := l.n2
      generalize 2520 * N = n at *
      have le : 6 * (n * n * n) ≤ 6 * (680400 * 680400 * 680400) := Nat.mul_le_mul_left _ (Nat.mul_le_mul (Nat.mul_le_mul n2.2 n2.2) n2.2)
      have ne : 6 * (n * n * n) ≠ 0 := Nat.mul_ne_zero (by decide) (Nat.mul_ne_zero (Nat.mul_ne_zero (by omega) (by omega)) (by omega))
      exact RB.ofK this.1 this.2 ne le (by decide +kernel) (by decide) (by decide +kernel)
    generalize hp : pg ps k = p at *
    simp! only [e1, e2, e3, ↓q2_less, c1, c2, ↓len_p, ↓lst_p]
    have e4 : (3 - (p.length : Int)).toNat = 3 - p.length := by omega
    have ex : p.map frq ++ (List.replicate (3 - p.length) [D.tup [.int 0, .int 1]]).flatten = [pn p 0, pn p 1, pn p 2].map frq := by
      match p, pl2 with
      | [], _ => rfl
      | [x], _ => rfl
      | [x, y], _ => rfl
    rw [e4, ex]
    refine ⟨⟨by omega, by omega, few_ok (by simp; omega)⟩, few_ok (by rw [List.length_map, List.length_flatten, List.map_replicate, List.sum_replicate_nat]; simp; omega), fun q5 hq5 => ?_⟩
    have a1 : atI ([pn p 0, pn p 1, pn p 2].map frq) 1 = some (frq (pn p 1)) := rfl
    have t9 : RB 3900 (pn cs (k + 1) - pn cs k) := (H.ct.ln k (by omega)).rb.le (by decide)
    have zb : RB 18 z := RB.of hz.1 hz.2 (by decide) (by decide) (by decide +kernel)
    have nb : ∀ i, RB 90 (pn p i) := fun i => pb i
    have n9 := fun i => (nb i).le (show 90 ≤ 3900 by decide)
    have z9 := zb.le (show 18 ≤ 3900 by decide)
    have tb := (H.ct.ln k (by omega)).rb
    have zt9 := (zb.mul tb).le (show _ ≤ 3900 by decide)
    simp! only [a1, ↓q2_lmul, ↓q2_less, z9, t9, zt9, n9]
    refine ⟨1, 1, rfl, rfl, ?_⟩
    have a2 : atI (([pn p 0, pn p 1, pn p 2].map frq).set 1 (frq (pn p 1 - z * (pn cs (k + 1) - pn cs k)))) 2 = some (frq (pn p 2)) := rfl
    rw [supd_supd]
    simp! only [at_ref (supd_same (S := S2) (p := q5)), a2, ↓q2_ladd, n9, z9]
    refine ⟨2, 2, rfl, rfl, ?_⟩
    rw [supd_supd]
    have q5q : q5 ≠ q := fun w => by rw [w, h2] at hq5; cases hq5
    have q5f : q5 ≠ f := Feed.ne X2.fd hq5
    have sq5 : S q5 = none := by
      cases c : S q5 with
      | none => rfl
      | some y =>
        have := X2.at_ q5f c
        rw [hq5] at this
        cases this
    have h3 : (supd S2 q5 (.lst ((([pn p 0, pn p 1, pn p 2].map frq).set 1 (frq (pn p 1 - z * (pn cs (k + 1) - pn cs k)))).set 2 (frq (pn p 2 + z))))) q = some (.lst (bs.map plD)) := (supd_ne q5q.symm).trans h2
    refine ⟨⟨q, _, rfl, h3⟩, ?_⟩
    refine use_law_trim (xs := [pn p 0, pn p 1 - z * (pn cs (k + 1) - pn cs k), pn p 2 + z]) (lsx_at supd_same) ?_
    simp! only
    refine use_app2 h3 (by rw [List.length_map, bl]; exact Nat.lt_of_le_of_lt (show k ≤ 20 by omega) (by decide)) ?_
    try simp only [↓e_cnt, ↓e_sl2, ↓e_dget, ↓e_isx, ↓t_isx, ↓e_fld, ↓e_callh, ↓t_callh, ↓hc_s, ↓hf_s, ↓ix_s, ↓fl_s, ↓ch_s, ↓s_raise, ↓s_try, ↓ex_s, ↓mk_NoOver, ↓mk_NoStretch, ↓mk_NoOne, ↓mk_NoText, ↓mk_NoPlace, ↓mk_NoPoint, ↓mk_Twice, ↓mk_NoCut, ↓mk_NoSmooth, ↓mk_NoShares, ↓mk_NoKnot, ↓mk_NoTask, ↓mk_NoPaper, ↓mk_NoKnots, ↓mk_NoSheet, ↓lk_1, ↓lk_n, ↓lk_w, ↓any_1, ↓gv_z, ↓gv_s, ↓sv_z, ↓sv_s, ↓wv_z, wv_z, ↓wv_s, wv_s, iteE_int, iteE_bl, iteE_str, iteE_lst, iteE_same, iteE_c1, iteE_c2, iteE_1, iteE_0, iteT_1, iteT_0, andT_1, andT_0, orT_1, orT_0, andE_1, andE_0, orE_1, orE_0, iteS_1, iteS_0, andE_bl, andE_c, orE_bl, orE_c, iteT_v, iteT_c1, iteT_c2, andT_v, andT_c, orT_v, orT_c, iteS_v, iteS_c1, iteS_c2, iteS_r1, iteS_r2, joinS_n, joinS_same, joinS_int, joinS_bl, ixS_s, ↓e_v, ↓e_N, ↓e_B, ↓e_I, ↓e_S, ↓e_gl, ↓e_add, ↓e_sub, ↓e_mul, ↓e_fdiv, ↓e_mod, ↓e_pow, ↓e_neg, ↓e_cmp, ↓bP_b, ↓t_cmp, ↓e_cmp2, ↓t_cmp2, ↓e_and1, ↓e_and2, ↓t_and1, ↓t_and2, ↓e_or1, ↓e_or2, ↓t_or1, ↓t_or2, ↓e_not, ↓t_not, ↓e_ite, ↓t_ite, ↓e_tup, ↓e_lst, ↓e_dct, ↓e_ix, ↓e_sl, ↓e_slr, ↓e_call, ↓e_bi, ↓e_mt, ↓e_lc, ↓e_frz, ↓t_frz, ↓iP_i, ↓e_idx, ↓e_lrg1, ↓e_lrg2, ↓t_v, ↓t_B, ↓t_N, ↓t_I, ↓t_ix, ↓t_bin, ↓t_call, ↓t_bi, ↓t_sl, ↓t_lc, ↓a_n, ↓a_c, ↓if_n, ↓if_1, ↓o_n, ↓o_s, ↓i_val, ↓i_r1, ↓i_r2, ↓i_r3, ↓i_enum, ↓i_zip, ↓i_rev, ↓add_i, ↓add_s, ↓add_t, ↓sub_i, ↓mul_i, ↓fdiv_i, ↓mod_i, ↓pow_i, ↓neg_i, ↓eq_i, ↓eq_s, ↓eq_b, ↓ne_i, ↓ne_s, ↓ne_b, ↓lt_i, ↓le_i, ↓gt_i, ↓ge_i, ↓is_N, ↓no_N, ↓is_B, ↓no_B, ↓is_Bt, ↓is_Bl, ↓is_Bi, ↓is_Bs, ↓is_Bn, ↓is_Br, ↓no_Bt, ↓no_Bl, ↓no_Bi, ↓no_Bs, ↓no_Bn, ↓no_Br, ↓tr_b, ↓tr_i, ↓tr_n, ↓tr_t, ↓tr_l, ↓ix_t, ↓ix_l, ↓ix_rl, ↓at_0, ↓at_1, ↓at_2, ↓at_3, ↓s_n, ↓s_c, ↓s_asg, ↓s_asgL, ↓s_par, ↓s_swp, ↓s_set, ↓s_ex, ↓s_ite, ↓s_for, ↓s_wh, ↓s_ret, ↓s_retN, ↓s_pass, ↓s_brk, ↓s_rz, ↓s_cont, ↓g_nm, ↓g_tp, ↓g_ls, ↓g_n, ↓g_c, ↓par_n, ↓par_c, ↓nw_f, ↓nw_t, ↓len_l, ↓len_t, ↓abs_i, ↓int_i, ↓int_b, ↓repr_h, ↓max_i, ↓min_i, ↓st_0, ↓st_s, ↓supd_supd, ↓ix_ref, ↓set_ref, ↓fd_turn, ↓fd_left, ↓fd_at, ↓fd_cells, ↓fs_turn, ↓fs_left, ↓fs_at, ↓ne_nil, ↓len_is, map_at, ↓ix_q0, ↓ix_q1, ↓g_q, ↓len_q, ↓tr_q, ↓low_eq, ↓q1_eq, ↓q2_eq, ↓sz_0, ↓sz_1, ↓sz_2, ↓sz_3, ↓sz_4, ↓sz_5, ↓sz_6, ↓sz_7, ↓sz_8, ↓itp_t, ↓itp_l, ↓itl_l, ↓pl_2, ↓pl_3, iteE_q, joinS_q, ↓eq_q, ↓ne_q, ↓ixC_l, ↓frz_ref, ↓tup_l, ↓tup_t, ↓lst_l, ↓lst_t, ↓sl_t, ↓slr_t, ↓mul_l, ↓add_l, ↓ifs_0, gsl_nm, gsl_tp, gsl_n, gsl_c, wipe_n, wipe_c, List.replicate, Option.map_some, decide_eq_true_eq, ↓reduceIte, Bool.false_eq_true, Bool.not_eq_eq_eq_not, Bool.not_true, Bool.not_false, true_and, forall_const, Bool.and_eq_true, Bool.or_eq_true, decide_eq_false_iff_not, not_true_eq_false, not_false_eq_true, decide_true, decide_false]
    have Z := B.l
    refine hnx _ _ trivial ⟨k + 1, j, bs ++ [bentL p z (pn cs (k + 1) - pn cs k)], _, _, _, _, rfl, by omega, ⟨by simp; omega, fun i hi => ?_⟩, by simp; omega, ?_, ((X2.new q5f sq5).new qf hq).le (by omega), rfl⟩
    · rw [List.length_append, List.length_singleton] at hi
      by_cases c : i < k
      · rw [pg_app0 (by omega)]
        exact B.h i (by omega)
      · obtain rfl : i = k := by omega
        have ap : ∀ X : List Rat, pg (bs ++ [X]) i = X := fun X => by
          rw [← bl]
          exact pg_app1
        exact ⟨z, hz, by rw [ap, hp]⟩
    · rw [supd_same, List.map_append]
      rfl
  · rintro δ S1 ⟨k, j, bs, o5, o6, o7, o8, e, hk, B, bl, h1, X1, rfl⟩
    have m0 := congrArg List.length e
    rw [rng_len, List.length_nil] at m0
    simp! only
    refine frz_at h1 ?_
    try simp only [↓e_cnt, ↓e_sl2, ↓e_dget, ↓e_isx, ↓t_isx, ↓e_fld, ↓e_callh, ↓t_callh, ↓hc_s, ↓hf_s, ↓ix_s, ↓fl_s, ↓ch_s, ↓s_raise, ↓s_try, ↓ex_s, ↓mk_NoOver, ↓mk_NoStretch, ↓mk_NoOne, ↓mk_NoText, ↓mk_NoPlace, ↓mk_NoPoint, ↓mk_Twice, ↓mk_NoCut, ↓mk_NoSmooth, ↓mk_NoShares, ↓mk_NoKnot, ↓mk_NoTask, ↓mk_NoPaper, ↓mk_NoKnots, ↓mk_NoSheet, ↓lk_1, ↓lk_n, ↓lk_w, ↓any_1, ↓gv_z, ↓gv_s, ↓sv_z, ↓sv_s, ↓wv_z, wv_z, ↓wv_s, wv_s, iteE_int, iteE_bl, iteE_str, iteE_lst, iteE_same, iteE_c1, iteE_c2, iteE_1, iteE_0, iteT_1, iteT_0, andT_1, andT_0, orT_1, orT_0, andE_1, andE_0, orE_1, orE_0, iteS_1, iteS_0, andE_bl, andE_c, orE_bl, orE_c, iteT_v, iteT_c1, iteT_c2, andT_v, andT_c, orT_v, orT_c, iteS_v, iteS_c1, iteS_c2, iteS_r1, iteS_r2, joinS_n, joinS_same, joinS_int, joinS_bl, ixS_s, ↓e_v, ↓e_N, ↓e_B, ↓e_I, ↓e_S, ↓e_gl, ↓e_add, ↓e_sub, ↓e_mul, ↓e_fdiv, ↓e_mod, ↓e_pow, ↓e_neg, ↓e_cmp, ↓bP_b, ↓t_cmp, ↓e_cmp2, ↓t_cmp2, ↓e_and1, ↓e_and2, ↓t_and1, ↓t_and2, ↓e_or1, ↓e_or2, ↓t_or1, ↓t_or2, ↓e_not, ↓t_not, ↓e_ite, ↓t_ite, ↓e_tup, ↓e_lst, ↓e_dct, ↓e_ix, ↓e_sl, ↓e_slr, ↓e_call, ↓e_bi, ↓e_mt, ↓e_lc, ↓e_frz, ↓t_frz, ↓iP_i, ↓e_idx, ↓e_lrg1, ↓e_lrg2, ↓t_v, ↓t_B, ↓t_N, ↓t_I, ↓t_ix, ↓t_bin, ↓t_call, ↓t_bi, ↓t_sl, ↓t_lc, ↓a_n, ↓a_c, ↓if_n, ↓if_1, ↓o_n, ↓o_s, ↓i_val, ↓i_r1, ↓i_r2, ↓i_r3, ↓i_enum, ↓i_zip, ↓i_rev, ↓add_i, ↓add_s, ↓add_t, ↓sub_i, ↓mul_i, ↓fdiv_i, ↓mod_i, ↓pow_i, ↓neg_i, ↓eq_i, ↓eq_s, ↓eq_b, ↓ne_i, ↓ne_s, ↓ne_b, ↓lt_i, ↓le_i, ↓gt_i, ↓ge_i, ↓is_N, ↓no_N, ↓is_B, ↓no_B, ↓is_Bt, ↓is_Bl, ↓is_Bi, ↓is_Bs, ↓is_Bn, ↓is_Br, ↓no_Bt, ↓no_Bl, ↓no_Bi, ↓no_Bs, ↓no_Bn, ↓no_Br, ↓tr_b, ↓tr_i, ↓tr_n, ↓tr_t, ↓tr_l, ↓ix_t, ↓ix_l, ↓ix_rl, ↓at_0, ↓at_1, ↓at_2, ↓at_3, ↓s_n, ↓s_c, ↓s_asg, ↓s_asgL, ↓s_par, ↓s_swp, ↓s_set, ↓s_ex, ↓s_ite, ↓s_for, ↓s_wh, ↓s_ret, ↓s_retN, ↓s_pass, ↓s_brk, ↓s_rz, ↓s_cont, ↓g_nm, ↓g_tp, ↓g_ls, ↓g_n, ↓g_c, ↓par_n, ↓par_c, ↓nw_f, ↓nw_t, ↓len_l, ↓len_t, ↓abs_i, ↓int_i, ↓int_b, ↓repr_h, ↓max_i, ↓min_i, ↓st_0, ↓st_s, ↓supd_supd, ↓ix_ref, ↓set_ref, ↓fd_turn, ↓fd_left, ↓fd_at, ↓fd_cells, ↓fs_turn, ↓fs_left, ↓fs_at, ↓ne_nil, ↓len_is, map_at, ↓ix_q0, ↓ix_q1, ↓g_q, ↓len_q, ↓tr_q, ↓low_eq, ↓q1_eq, ↓q2_eq, ↓sz_0, ↓sz_1, ↓sz_2, ↓sz_3, ↓sz_4, ↓sz_5, ↓sz_6, ↓sz_7, ↓sz_8, ↓itp_t, ↓itp_l, ↓itl_l, ↓pl_2, ↓pl_3, iteE_q, joinS_q, ↓eq_q, ↓ne_q, ↓ixC_l, ↓frz_ref, ↓tup_l, ↓tup_t, ↓lst_l, ↓lst_t, ↓sl_t, ↓slr_t, ↓mul_l, ↓add_l, ↓ifs_0, gsl_nm, gsl_tp, gsl_n, gsl_c, wipe_n, wipe_c, List.replicate, Option.map_some, decide_eq_true_eq, ↓reduceIte, Bool.false_eq_true, Bool.not_eq_eq_eq_not, Bool.not_true, Bool.not_false, true_and, forall_const, Bool.and_eq_true, Bool.or_eq_true, decide_eq_false_iff_not, not_true_eq_false, not_false_eq_true, decide_true, decide_false]
    exact h bs _ (H.bent B (by omega)) (by omega) ((X1.del qf hq).le (by omega))
/-! a comprehension with a test -/
theorem lc_filter {α : Type} {m : Bool} {tg : G} {ifs : WpT} {elt : WpE} {src : Sto → Prop} {δ : Dts} {P : EQ} {f g : α → D} {c : α → Bool} {S : Sto} (hs : src S) : ∀ (xs : List α) (acc : List D), acc.length + xs.length ≤ sizeLine →
    (∀ a ∈ xs, ∀ (K : Sto → Prop) (Q : EQ), (c a = true → Q (g a) S) → (c a = false → K S) → wG tg (f a) δ S fun δ' => ifs δ' S fun b S3 => if b = true then elt δ' S3 Q else K S3) →
    nwL m (acc ++ (xs.filter c).map g) S P → wLc m tg ifs elt src δ P (xs.map f) acc S
  | [], acc, _, _, p => by
    rw [List.filter_nil, List.map_nil, List.append_nil] at p
    exact p
  | x :: xs, acc, hl, h, p => by
    rw [List.length_cons] at hl
    have ih := fun acc' (hl' : acc'.length + xs.length ≤ sizeLine) => lc_filter (m := m) (tg := tg) (ifs := ifs) (elt := elt) (δ := δ) (P := P) (f := f) (g := g) (c := c) hs xs acc' hl' fun a ha => h a (List.mem_cons_of_mem _ ha)
    refine h x List.mem_cons_self (fun S3 => src S3 ∧ wLc m tg ifs elt src δ P (xs.map f) acc S3) (fun y S4 => src S4 ∧ acc.length < sizeLine ∧ wLc m tg ifs elt src δ P (xs.map f) (acc ++ [y]) S4) ?_ ?_
    · intro e
      refine ⟨hs, by omega, ih _ (by rw [List.length_append, List.length_singleton]; omega) ?_⟩
      rw [List.filter_cons, if_pos e, List.map_cons] at p
      rw [List.append_assoc]
      exact p
    · intro e
      refine ⟨hs, ih _ (by omega) ?_⟩
      rw [List.filter_cons, if_neg (by rw [e]; exact Bool.false_ne_true)] at p
      exact p
/-! the value and the slope at a place; the sum of pulls times these -/
abbrev W50 : Rat := (48 + 2) ^ 3 * V12
theorem RwE.mvs [Dk] {cs : List Rat} {ps : List (List Rat)} (h : RwE cs ps) {k : Nat} (hk : k < ps.length) {t : Rat} (i1 : Ig 126000 t) (t0 : 0 ≤ t) (t1 : t ≤ pn cs (k + 1) - pn cs k) (i : Nat) : Ig D9 (mvN (pg ps k) t i) ∧ Ab W50 (mvN (pg ps k) t i) := by
  obtain ⟨b, s, q1, q2, q3, q4, q5, q6⟩ := h.pc k hk
  rw [mv_mv q1 (h.rw_.tr _ (pg_mem hk)).2 q6 i]
  exact mvN_Nm q2 q1 (by decide +kernel) (by decide +kernel) (q3.add i1) (by constructor <;> grind) i
structure AtR (cs : List Rat) (ps : List (List Rat)) (x : Rat) : Prop where
  i : Ig 126000 x
  b : RB 20 x
  lo : pn cs 0 ≤ x
  hi : x ≤ pn cs ps.length
theorem AtR.t {es : List Rat} {qs : List (List Rat)} (R : Rw es qs) {x : Rat} (h : AtR es qs x) : thI es qs.length x < qs.length ∧ 0 ≤ x - pn es (thI es qs.length x) ∧ x - pn es (thI es qs.length x) ≤ pn es (thI es qs.length x + 1) - pn es (thI es qs.length x) := by
  obtain ⟨a, b, c⟩ := thI_ok (es := es) R.ne x
  have b := b h.lo
  generalize thI es qs.length x = k at *
  refine ⟨a, by grind, ?_⟩
  have : x ≤ pn es (k + 1) := by
    by_cases e : k + 1 < qs.length
    · refine Rat.not_lt.mp fun d => ?_
      have := c (k + 1) e (Rat.le_of_lt d)
      omega
    · have : k + 1 = qs.length := by omega
      rw [this]
      exact h.hi
  grind
theorem AtR.vs [Dk] {es : List Rat} {qs : List (List Rat)} (h : RwE es qs) {x : Rat} (a : AtR es qs x) : (Ig D9 (vF es qs x) ∧ Ab W50 (vF es qs x)) ∧ (Ig D9 (sF es qs x) ∧ Ab W50 (sF es qs x)) := by
  obtain ⟨k, t0, t1⟩ := a.t h.rw_
  have ln := h.rw_.ln
  have ci := (h.cn _ (pn_mem (p := es) (k := thI es qs.length x) (by omega))).1
  have i := a.i.sub ci
  exact ⟨h.mvs k i t0 t1 0, h.mvs k i t0 t1 1⟩
theorem ig_c {c : Nat} {D : Nat} {x W : Rat} (h : Ig D x ∧ Ab W x) (c0 : (0 : Rat) ≤ (c : Rat)) : Ig D ((c : Rat) * x) ∧ Ab ((c : Rat) * W) ((c : Rat) * x) := by
  have i : Ig 1 ((c : Nat) : Rat) := ⟨(c : Int), by rw [Rat.intCast_natCast]; show (c : Rat) * 1 = _; rw [Rat.mul_one]⟩
  have b : Ab (c : Rat) ((c : Nat) : Rat) := ⟨by grind, Rat.le_refl⟩
  exact ⟨(i.mul h.1).cast (Nat.one_mul _), b.mul h.2⟩
theorem bd_sz [Dk] {cs : List Rat} {ps : List (List Rat)} (h : RwE cs ps) {k : Nat} (hk : k < ps.length) {t : Rat} (i1 : Ig 126000 t) (t0 : 0 ≤ t) (t1 : t ≤ pn cs (k + 1) - pn cs k) (i : Nat) : Ig D9 (bd (pg ps k) t i) ∧ Ab (6 * W50) (bd (pg ps k) t i) := by
  have m := h.mvs hk i1 t0 t1
  have e2 : ((2 : Nat) : Rat) = 2 := rfl
  have e6 : ((6 : Nat) : Rat) = 6 := rfl
  have a2 := fun j => ig_c (c := 2) (m j) (by decide +kernel)
  have a6 := fun j => ig_c (c := 6) (m j) (by decide +kernel)
  rw [e2] at a2
  rw [e6] at a6
  unfold bd
  split
  · exact ⟨(m 1).1, (m 1).2.le (by decide +kernel)⟩
  · exact ⟨(a2 2).1, (a2 2).2.le (by decide +kernel)⟩
  · exact a6 3
theorem br_sz [Dk] {cs : List Rat} {ps : List (List Rat)} (h : RwE cs ps) {k : Nat} {rd : Bool} (hk : k ≤ ps.length) (i : Nat) : (Ig D9 (brA cs ps i (srA ps.length rd k)) ∧ Ab (6 * W50) (brA cs ps i (srA ps.length rd k))) ∧ (Ig D9 (brB ps i (srB ps.length k)) ∧ Ab (6 * W50) (brB ps i (srB ps.length k))) := by
  have ln := h.rw_.ln
  have z : Ig D9 (0 : Rat) ∧ Ab (6 * W50) (0 : Rat) := ⟨Ig.zero, Ab.zero (by decide +kernel)⟩
  refine ⟨?_, ?_⟩
  · cases e : srA ps.length rd k with
    | none => exact z
    | some j =>
      have hj := srA_lt h.rw_.ne hk j e
      have up := h.rw_.up j hj
      have l := h.len48 hj
      exact bd_sz h hj l.1 (by grind) Rat.le_refl i
  · cases e : srB ps.length k with
    | none => exact z
    | some j =>
      have hj := srB_lt j e
      have up := h.rw_.up j hj
      exact bd_sz h hj Ig.zero Rat.le_refl (by grind) i
theorem pu_sz [Dk] {so : Int} {cs : List Rat} {ps : List (List Rat)} (h : RwE cs ps) {k : Nat} {rd : Bool} (hk : k ≤ ps.length) : (Ig D9 (puR so rd cs ps k).1 ∧ Ab (12 * W50) (puR so rd cs ps k).1) ∧ (Ig D9 (puR so rd cs ps k).2 ∧ Ab (12 * W50) (puR so rd cs ps k).2) := by
  have b := fun i => br_sz h (rd := rd) hk i
  have sb : ∀ {x y : Rat}, Ig D9 x ∧ Ab (6 * W50) x → Ig D9 y ∧ Ab (6 * W50) y → Ig D9 (x - y) ∧ Ab (12 * W50) (x - y) := fun hx hy => ⟨hx.1.sub hy.1, (hx.2.sub hy.2).le (by decide +kernel)⟩
  unfold puR
  split
  · exact ⟨sb (b 1).1 (b 1).2, Ig.zero, Ab.zero (by decide +kernel)⟩
  · exact ⟨sb (b 3).2 (b 3).1, sb (b 2).1 (b 2).2⟩
theorem d9_RB [Dk] {x : Rat} (h : Ig D9 x ∧ Ab (12 * W50) x) : RB 300 x := RB.ofK h.1 h.2 D9_0 D9_le (by decide +kernel) (by decide +kernel) (by decide +kernel)
theorem dd_RB [Dk] {x : Rat} (h : Ig (D9 * D9) x ∧ Ab (100 * (24 * (W50 * W50))) x) : RB 600 x := RB.ofK h.1 h.2 DD_0 DD_le (by decide +kernel) (by decide +kernel) (by decide +kernel)
theorem tm_sz [Dk] {a b c d : Rat} (ha : Ig D9 a ∧ Ab (12 * W50) a) (hb : Ig D9 b ∧ Ab W50 b) (hc : Ig D9 c ∧ Ab (12 * W50) c) (hd : Ig D9 d ∧ Ab W50 d) : ((Ig (D9 * D9) (a * b) ∧ Ab (12 * (W50 * W50)) (a * b)) ∧ (Ig (D9 * D9) (c * d) ∧ Ab (12 * (W50 * W50)) (c * d))) ∧ Ig (D9 * D9) (a * b + c * d) ∧ Ab (24 * (W50 * W50)) (a * b + c * d) := by
  have i1 := ha.1.mul hb.1
  have i2 := hc.1.mul hd.1
  have b1 := (ha.2.mul hb.2).le (W := 12 * (W50 * W50)) (by decide +kernel)
  have b2 := (hc.2.mul hd.2).le (W := 12 * (W50 * W50)) (by decide +kernel)
  exact ⟨⟨⟨i1, b1⟩, i2, b2⟩, i1.add i2, (b1.add b2).le (by decide +kernel)⟩
theorem sP_sz [Dk] {so : Int} {rd : Bool} {cs es : List Rat} {ps qs : List (List Rat)} (h : RwE cs ps) (g : RwE es qs) (hx : ∀ k, k ≤ ps.length → AtR es qs (pn cs k)) : ∀ n, n ≤ ps.length + 1 → Ig (D9 * D9) (sP so rd (vF es qs) (sF es qs) cs ps n) ∧ Ab ((n : Rat) * (24 * (W50 * W50))) (sP so rd (vF es qs) (sF es qs) cs ps n)
  | 0, _ => ⟨Ig.zero, Ab.zero (by have : ((0 : Nat) : Rat) = 0 := rfl; rw [this, Rat.zero_mul]; exact Rat.le_refl)⟩
  | n + 1, hn => by
    have i := sP_sz (so := so) (rd := rd) h g hx n (by omega)
    have a := pu_sz (so := so) (rd := rd) h (k := n) (by omega)
    have v := (hx n (by omega)).vs g
    have t := tm_sz a.1 v.1 a.2 v.2
    refine ⟨i.1.add t.2.1, (i.2.add t.2.2).le ?_⟩
    rw [Rat.natCast_add]
    have e : ((1 : Nat) : Rat) = 1 := rfl
    rw [e]
    grind
theorem sP_RB [Dk] {so : Int} {rd : Bool} {cs es : List Rat} {ps qs : List (List Rat)} (h : RwE cs ps) (g : RwE es qs) (hx : ∀ k, k ≤ ps.length → AtR es qs (pn cs k)) {n : Nat} (hn : n ≤ ps.length + 1) (m : ps.length ≤ 20) : RB 600 (sP so rd (vF es qs) (sF es qs) cs ps n) := by
  have a := sP_sz (so := so) (rd := rd) h g hx n hn
  refine dd_RB ⟨a.1, a.2.le (Rat.mul_le_mul_of_nonneg_right ?_ (by decide +kernel))⟩
  have : (n : Rat) ≤ ((100 : Nat) : Rat) := Rat.natCast_le_natCast.mpr (by omega)
  exact this
theorem intL_map {α : Type} (g : α → Int) : ∀ xs : List α, intL (xs.map fun a => D.int (g a)) = some (xs.map g)
  | [] => rfl
  | a :: xs => by
    show (match intL (xs.map fun a => D.int (g a)) with
      | some l => some (g a :: l)
      | none => none) = _
    rw [intL_map g xs]
    rfl
noncomputable abbrev vsD (es : List Rat) (qs : List (List Rat)) (x : Rat) : D := .tup [frq (vF es qs x), frq (sF es qs x)]
abbrev sp__law_there : Spec := fun ds S Q _ => ∃ (_ : Dk) (es : List Rat) (qs : List (List Rat)) (x : Rat), ds = [rowD es qs, frq x] ∧ (RwE es qs ∧ AtR es qs x ∧ qs.length ≤ 100) ∧ Q (vsD es qs x) S
theorem use_lthere [K : Dk] {S : Sto} {es : List Rat} {qs : List (List Rat)} {x : Rat} {Q : EQ} {U : Ex → Sto → Prop} (h : RwE es qs ∧ AtR es qs x ∧ qs.length ≤ 100) (q : Q (vsD es qs x) S) : @callS sp__law_there [rowD es qs, frq x] S U ⟨Q⟩ := ⟨K, es, qs, x, rfl, h, q⟩
def b__law_there : Sms := .cons (.asg (.tp (.cons (.nm 4) (.cons (.nm 5) (.nil)))) (.v 0)) (.cons (.asg (.nm 2) (.bi .max1 false (.cons (.lc false (.v 6) (.nm 6) (.r1 (.bi .len false (.cons (.v 5) (.nil)))) (.cons (.cmp .le (.ix (.call "_law_less" sp__law_less (.cons (.ix (.v 4) (.v 6)) (.cons (.v 1) (.nil)))) (.cI 0)) (.cI 0)) (.nil))) (.nil)))) (.cons (.asg (.nm 3) (.call "_law_less" sp__law_less (.cons (.v 1) (.cons (.ix (.v 4) (.v 2)) (.nil))))) (.cons (.ret (.tup (.cons (.call "_law_value" sp__law_value (.cons (.ix (.v 5) (.v 2)) (.cons (.v 3) (.nil)))) (.cons (.call "_law_value" sp__law_value (.cons (.call "_law_slope" sp__law_slope (.cons (.ix (.v 5) (.v 2)) (.nil))) (.cons (.v 3) (.nil)))) (.nil))))) (.nil))))
theorem t_law_there : Keeps 7 b__law_there sp__law_there 2 := by
  rintro ds S Q U ⟨K, es, qs, x, rfl, ⟨H, A, m9⟩, h⟩
  refine ⟨rfl, ?_⟩
  have R := H.rw_
  have ln := R.ln
  have ne := R.ne
  have xb : RB 3900 x := A.b.le (by decide)
  have cb := fun j => (H.bc.pn (by decide) j).le (show 47 ≤ 3900 by decide)
  simp! only [b__law_there, rowD, len_tm]
  rw [List.length_map]
  refine ⟨r62_ok (by omega), ?_⟩
  rw [Int.toNat_natCast, rng_mapL]
  refine lc_filter (f := fun j : Nat => D.int (0 + (j : Int))) (g := fun j : Nat => D.int (j : Int)) (c := fun j : Nat => decide (pn es j ≤ x)) trivial _ [] (few_ok (by rw [List.length_range]; simp; omega)) ?_ ?_
  · intro j mj K R h1 h0
    have hj := List.mem_range.mp mj
    have e1 : atI es (j : Int) = some (pn es j) := at_pn (by omega)
    rw [show (0 : Int) + (j : Int) = (j : Int) by omega]
    simp! only [e1, ↓q2_less, cb, xb]
    have en : (pn es j - x).num ≤ 0 ↔ pn es j ≤ x := by
      have a := Rat.num_nonneg (q := -(pn es j - x))
      rw [Rat.neg_num] at a
      constructor
      · intro h
        have := a.mp (by omega)
        grind
      · intro h
        have := a.mpr (by grind)
        omega
    by_cases c : pn es j ≤ x
    · rw [if_pos (en.mpr c)]
      exact h1 (decide_eq_true c)
    · rw [if_neg (fun z => c (en.mp z))]
      exact h0 (decide_eq_false c)
  · rw [List.nil_append, nw_f]
    have inF : ∀ j, j < qs.length → pn es j ≤ x → j ∈ (List.range qs.length).filter (fun j => decide (pn es j ≤ x)) := fun j hj hx => List.mem_filter.mpr ⟨List.mem_range.mpr hj, decide_eq_true hx⟩
    refine ⟨_, _, rfl, intL_map (fun j : Nat => (j : Int)) _, List.length_pos_of_mem (List.mem_map.mpr ⟨0, inF 0 (by omega) A.lo, rfl⟩), fun mx hmx hmax => ?_⟩
    obtain ⟨k, hk, rfl⟩ := List.mem_map.mp hmx
    obtain ⟨k1, k2⟩ := List.mem_filter.mp hk
    have kl := List.mem_range.mp k1
    have kx := of_decide_eq_true k2
    have km : ∀ j, j < qs.length → pn es j ≤ x → j ≤ k := fun j hj hx => by
      have := hmax (j : Int) (List.mem_map.mpr ⟨j, inF j hj hx, rfl⟩)
      omega
    obtain ⟨t1, t2, t3⟩ := thI_ok (es := es) ne x
    have ek : thI es qs.length x = k := by
      have a := t3 k kl kx
      have b := km _ t1 (t2 A.lo)
      omega
    unfold vsD vF sF at h
    rw [ek, ev_mv0] at h
    have e1 : atI es (k : Int) = some (pn es k) := at_pn (by omega)
    have e3 := at_pg (ps := qs) (k := k) (by omega)
    have tb : RB 70 (x - pn es k) := (A.b.sub (H.bc.pn (by decide) k)).le (by decide)
    have rp := H.bp _ (pg_mem kl)
    have l4 := (R.tr _ (pg_mem kl)).2
    simp! only [e1, e3, ↓q2_less, cb, xb]
    refine use_law_value (p := pg qs k) 280 70 ⟨rp, tb, ?_⟩ ?_
    · have : ((pg qs k).length + 1) * (280 + 70 + 2) ≤ 5 * (280 + 70 + 2) := Nat.mul_le_mul_right _ (by omega)
      omega
    simp! only [e3]
    refine use_law_slope ⟨rp.le (by decide), by omega⟩ ?_
    simp! only
    refine use_law_value (p := slU (pg qs k)) 283 70 ⟨slU_RL rp (by decide) l4, tb, ?_⟩ ?_
    · have : ((slU (pg qs k)).length + 1) * (283 + 70 + 2) ≤ 5 * (283 + 70 + 2) := Nat.mul_le_mul_right _ (by rw [slU_len]; omega)
      omega
    simp! only
    rw [ev_slU l4]
    exact h
abbrev sp__law_sum : Spec := fun ds S Q _ => ∃ (_ : Dk) (t : Tk) (cs es : List Rat) (ps qs : List (List Rat)), ds = [tkD t, .tup ((List.range t.ps.length).map fun k => paD (puR t.so t.ar.isSome cs ps k)), rowD es qs] ∧ (RwE cs ps ∧ RwE es qs ∧ (∀ k, k ≤ ps.length → AtR es qs (pn cs k)) ∧ (∀ k, k < t.ps.length → (t.ps.getD k default).x = pn cs k) ∧ t.ps.length ≤ ps.length + 1 ∧ ps.length ≤ 20 ∧ qs.length ≤ 100) ∧ Q (frq (sP t.so t.ar.isSome (vF es qs) (sF es qs) cs ps t.ps.length)) S
theorem use_lsum [K : Dk] {S : Sto} {t : Tk} {cs es : List Rat} {ps qs : List (List Rat)} {Q : EQ} {U : Ex → Sto → Prop} (h : RwE cs ps ∧ RwE es qs ∧ (∀ k, k ≤ ps.length → AtR es qs (pn cs k)) ∧ (∀ k, k < t.ps.length → (t.ps.getD k default).x = pn cs k) ∧ t.ps.length ≤ ps.length + 1 ∧ ps.length ≤ 20 ∧ qs.length ≤ 100) (q : Q (frq (sP t.so t.ar.isSome (vF es qs) (sF es qs) cs ps t.ps.length)) S) : @callS sp__law_sum [tkD t, .tup ((List.range t.ps.length).map fun k => paD (puR t.so t.ar.isSome cs ps k)), rowD es qs] S U ⟨Q⟩ := ⟨K, t, cs, es, ps, qs, rfl, h, q⟩
def b__law_sum : Sms := .cons (.asg (.nm 3) (.tup (.cons (.cI 0) (.cons (.cI 1) (.nil))))) (.cons (.for_ (.tp (.cons (.nm 4) (.cons (.tp (.cons (.nm 5) (.cons (.nm 6) (.nil)))) (.nil)))) (.zip (.ix (.v 0) (.cI 3)) (.v 1)) (.cons (.asg (.tp (.cons (.nm 7) (.cons (.nm 8) (.nil)))) (.call "_law_there" sp__law_there (.cons (.v 2) (.cons (.ix (.v 4) (.cI 0)) (.nil))))) (.cons (.asg (.nm 3) (.call "_law_plus" sp__law_plus (.cons (.v 3) (.cons (.call "_law_plus" sp__law_plus (.cons (.call "_law_times" sp__law_times (.cons (.v 5) (.cons (.v 7) (.nil)))) (.cons (.call "_law_times" sp__law_times (.cons (.v 6) (.cons (.v 8) (.nil)))) (.nil)))) (.nil))))) (.nil)))) (.cons (.ret (.v 3)) (.nil)))
theorem t_law_sum : Keeps 9 b__law_sum sp__law_sum 3 := by
  rintro ds S Q U ⟨K, t, cs, es, ps, qs, rfl, ⟨H, G, hx, tx, tl, m20, m100⟩, h⟩
  refine ⟨rfl, ?_⟩
  simp! only [b__law_sum, tk_ix]
  rw [show List.range t.ps.length = rngN 0 t.ps.length from rngN_0.symm]
  show wFor _ _ _ _ (zipD (t.ps.map ptD) ((rngN 0 t.ps.length).map fun k => paD (puR t.so t.ar.isSome cs ps k))) _ _
  rw [zip_maps]
  obtain ⟨PD, hPD⟩ : ∃ PD : D, PD = .tup ((rngN 0 t.ps.length).map fun k => paD (puR t.so t.ar.isSome cs ps k)) := ⟨_, rfl⟩
  rw [← hPD]
  refine for_inv (fun ds δ S' => S' = S ∧ ∃ (k m : Nat) (o4 o5 o6 o7 o8 : Option D), ds = (rngN k m).map (fun k => D.tup [ptD (t.ps.getD (k - 0) default), paD (puR t.so t.ar.isSome cs ps k)]) ∧ k + m = t.ps.length ∧ δ = [some (tkD t), some PD, some (rowD es qs), some (frq (sP t.so t.ar.isSome (vF es qs) (sF es qs) cs ps k)), o4, o5, o6, o7, o8]) ?_ ?_ (fun _ _ _ _ => trivial) _ _ _ ⟨rfl, 0, t.ps.length, _, _, _, _, _, rfl, by omega, rfl⟩
  · rintro d ds δ S2 nx hnx ⟨rfl, k, m, o4, o5, o6, o7, o8, e, hk, rfl⟩
    cases m with
    | zero => cases e
    | succ m =>
    cases e
    have kn : k ≤ ps.length := by omega
    obtain ⟨b1, b2⟩ := pu_sz (so := t.so) (rd := t.ar.isSome) H kn
    obtain ⟨v1, v2⟩ := (hx k kn).vs G
    obtain ⟨⟨c1, c2⟩, c3⟩ := tm_sz b1 v1 b2 v2
    have s1 := sP_RB (so := t.so) (rd := t.ar.isSome) H G hx (n := k) (by omega) m20
    have s19 := s1.le (show 600 ≤ 3900 by decide)
    have b19 := (d9_RB b1).le (show 300 ≤ 3900 by decide)
    have b29 := (d9_RB b2).le (show 300 ≤ 3900 by decide)
    have v19 := (d9_RB ⟨v1.1, v1.2.le (by decide +kernel)⟩).le (show 300 ≤ 3900 by decide)
    have v29 := (d9_RB ⟨v2.1, v2.2.le (by decide +kernel)⟩).le (show 300 ≤ 3900 by decide)
    have c19 := (dd_RB ⟨c1.1, c1.2.le (by decide +kernel)⟩).le (show 600 ≤ 3900 by decide)
    have c29 := (dd_RB ⟨c2.1, c2.2.le (by decide +kernel)⟩).le (show 600 ≤ 3900 by decide)
    have c39 := (dd_RB ⟨c3.1, c3.2.le (by decide +kernel)⟩).le (show 600 ≤ 3900 by decide)
    obtain ⟨p, ep⟩ : ∃ p, t.ps.getD k default = p := ⟨_, rfl⟩
    have px : p.x = pn cs k := by rw [← ep]; exact tx k (by omega)
    rw [show (fun k => D.tup [ptD (t.ps.getD (k - 0) default), paD (puR t.so t.ar.isSome cs ps k)]) k = D.tup [ptD (t.ps.getD (k - 0) default), paD (puR t.so t.ar.isSome cs ps k)] from rfl]
    rw [Nat.sub_zero, ep]
    simp! only [ix_p0, px]
    refine use_lthere ⟨G, hx k kn, m100⟩ ?_
    simp! only [↓q2_lmul, ↓q2_ladd, s19, b19, b29, v19, v29, c19, c29, c39]
    exact hnx _ _ trivial ⟨rfl, k + 1, m, _, _, _, _, _, rfl, by omega, rfl⟩
  · rintro δ S2 ⟨rfl, k, m, o4, o5, o6, o7, o8, e, hk, rfl⟩
    have m0 := congrArg List.length e
    rw [List.length_map, rngN_len, List.length_nil] at m0
    subst m0
    obtain rfl : k = t.ps.length := by omega
    simp! only
    exact h
/-! the pairing is the sum of pulls times values and slopes -/
theorem rough_at {cs : List Rat} {ps : List (List Rat)} {k : Nat} : smR cs ps k = 0 ↔ mvN (pg ps (k - 1)) (pn cs k - pn cs (k - 1)) 1 ≠ mvN (pg ps k) 0 1 := by
  unfold smR alk
  constructor
  · intro h e
    rw [if_pos e] at h
    split at h
    · split at h <;> cases h
    · cases h
  · intro h
    exact if_neg h
theorem rgh_0 {cs : List Rat} {ps : List (List Rat)} : ∀ (m k : Nat), (∀ i, k ≤ i → i < k + m → smR cs ps i ≠ 0) → rgh cs ps k m = 0
  | 0, _, _ => rfl
  | m + 1, k, h => by
    show (if smR cs ps k = 0 then k else rgh cs ps (k + 1) m) = 0
    rw [if_neg (h k (Nat.le_refl _) (by omega))]
    exact rgh_0 m (k + 1) fun i h1 h2 => h i (by omega) (by omega)
theorem SmJ.rgh {so : Int} {cs : List Rat} {ps : List (List Rat)} (J : SmJ so cs ps) (s : so ≠ 1) : GB.rgh cs ps 1 (ps.length - 1) = 0 := by
  refine rgh_0 _ _ fun i h1 h2 z => ?_
  rw [rough_at] at z
  obtain ⟨j, rfl⟩ : ∃ j, i = j + 1 := ⟨i - 1, by omega⟩
  exact z (J s j (by omega))
theorem FitR.sm {so : Int} {f g : Rat → Rat} {cs : List Rat} {ps : List (List Rat)} (R : Rw cs ps) (F : FitR so f g cs ps) : SmJ so cs ps := fun s k hk => by
  have u := Rat.le_of_lt (R.up k (by omega))
  have v := Rat.le_of_lt (R.up (k + 1) hk)
  have a := (F k (by omega) (pn cs (k + 1)) u Rat.le_refl).2 s
  have b := (F (k + 1) hk (pn cs (k + 1)) Rat.le_refl v).2 s
  rw [show pn cs (k + 1) - pn cs (k + 1) = 0 by grind] at b
  rw [← a, ← b]
def LiN (ps : List (List Rat)) : Prop := ∀ k, k < ps.length → pn (pg ps k) 2 = 0 ∧ pn (pg ps k) 3 = 0
theorem LiN.ins {cs : List Rat} {ps : List (List Rat)} (L : LiN ps) (R : Rw cs ps) {k : Nat} {x : Rat} (hk : k < ps.length) : LiN (insC ps k (mvT (pg ps k) x)) := by
  have l4 := (R.tr _ (pg_mem hk)).2
  have G := fun i => ins_pg (ps := ps) (k := k) (q := mvT (pg ps k) x) hk i
  have lp := ins_len (cs := ps) (k := k) (x := mvT (pg ps k) x) hk
  obtain ⟨z2, z3⟩ := L k hk
  intro i hi
  rw [lp] at hi
  rw [G]
  split
  · exact L i (by omega)
  · split
    · have m := mv4 (t := x) l4
      rw [mvT_pn l4, mvT_pn l4, m.2.1, m.2.2, z2, z3]
      exact ⟨by grind, rfl⟩
    · exact L (i - 1) (by omega)
theorem LiN.cut {D : Nat} {V T : Rat} : ∀ (xs : List Rat) {cs : List Rat} {ps : List (List Rat)}, LiN ps → RwD D V T cs ps → (∀ x ∈ xs, InR cs ps x) → LiN (xs.foldl addC (cs, ps)).2
  | [], _, _, L, _, _ => L
  | x :: xs, cs, ps, L, h, hx => by
    have i0 := hx x List.mem_cons_self
    have a := addC_ok h i0
    have L1 : LiN (addC (cs, ps) x).2 := by
      unfold addC
      by_cases c : x ∈ cs
      · rw [if_pos c]
        exact L
      · rw [if_neg c]
        exact L.ins h.rw_ (h.rw_.kOf i0.lo i0.hi c).1
    rw [List.foldl_cons]
    exact LiN.cut xs (cs := (addC (cs, ps) x).1) (ps := (addC (cs, ps) x).2) L1 a.1 fun z m => by
      have := hx z (List.mem_cons_of_mem _ m)
      exact ⟨this.i, by rw [a.2.1]; exact this.lo, by rw [a.2.2.1]; exact this.hi⟩
theorem LiN.mem {ps : List (List Rat)} (L : LiN ps) : ∀ p ∈ ps, pn p 2 = 0 ∧ pn p 3 = 0 := fun p mp => by
  obtain ⟨k, hk, e⟩ := List.mem_iff_getElem.mp mp
  have := L k hk
  unfold pg at this
  rw [List.getD_eq_getElem?_getD, List.getElem?_eq_getElem hk] at this
  have e2 : (some ps[k]).getD [] = ps[k] := rfl
  rw [e2, e] at this
  exact this
theorem prg_fit [Dk] {so : Int} {f g : Rat → Rat} {cs es : List Rat} {ps qs : List (List Rat)} (H : RwE cs ps) (G : RwE es qs) (o : oneS cs es ps qs) (F : FitR so f g es qs) (L : so = 1 → LiN ps) : prgR so (cutR cs ps es) (cutR es qs cs) (cutR cs ps es).2.length = psi so f g cs ps ps.length ∧ prgR so (cutR es qs cs) (cutR cs ps es) (cutR es qs cs).2.length = psi so f g cs ps ps.length := by
  have i1 := H.inR G o
  have i2 := G.inR H o.symm
  have A := (addCs_ok es H i1).1
  have B := (addCs_ok cs G i2).1
  have FC := FitR.cut cs F G i2
  have LC : so = 1 → LiN (es.foldl addC (cs, ps)).2 := fun e => LiN.cut es (L e) H i1
  have e1 : (es.foldl addC (cs, ps)).1 = (cs.foldl addC (es, qs)).1 := cutR_cs H G o
  have P := psi_cut (so := so) (f := f) (g := g) es H i1
  have la := A.rw_.ln
  have lb := B.rw_.ln
  show prgR so (es.foldl addC (cs, ps)) (cs.foldl addC (es, qs)) (es.foldl addC (cs, ps)).2.length = _ ∧ prgR so (cs.foldl addC (es, qs)) (es.foldl addC (cs, ps)) (cs.foldl addC (es, qs)).2.length = _
  rw [← P]
  generalize es.foldl addC (cs, ps) = X at *
  generalize cs.foldl addC (es, qs) = Y at *
  obtain ⟨x, y⟩ := X
  obtain ⟨u, v⟩ := Y
  dsimp only at *
  subst e1
  have l : y.length = v.length := by omega
  have e := prg_psi A.rw_ B.rw_ l FC (fun s => (LC s).mem) y.length (Nat.le_refl _)
  refine ⟨e, ?_⟩
  rw [← l, ← prg_comm A.rw_ B.rw_ l y.length (Nat.le_refl _)]
  exact e
theorem psi_lvl {so : Int} {z : Rat} {cs : List Rat} {ps : List (List Rat)} (R : Rw cs ps) (L : so = 1 → LiN ps) : ∀ n, n ≤ ps.length → psi so (fun _ => z) (fun _ => 0) cs ps n = 0
  | 0, _ => rfl
  | n + 1, hn => by
    have l4 := (R.tr _ (pg_mem (ps := ps) (k := n) (by omega))).2
    have m := fun t => mv4 (t := t) l4
    show psi so _ _ cs ps n + dq so _ _ cs ps n = 0
    rw [psi_lvl R L n (by omega)]
    unfold dq bq
    by_cases c : so = 1
    · obtain ⟨z2, z3⟩ := L c n (by omega)
      rw [if_pos c, if_pos c, (m _).1, (m 0).1, z2, z3]
      grind
    · rw [if_neg c, if_neg c, (m _).2.2, (m 0).2.2]
      grind
theorem RwE.pairL [Dk] {cs es : List Rat} {ps qs : List (List Rat)} (h : RwE cs ps) (g : RwE es qs) (m1 : ps.length ≤ 40) (m2 : qs.length ≤ 40) : Pair cs es ps qs := by
  have l1 := h.rw_.ln
  have l2 := g.rw_.ln
  refine ⟨h, g, by omega, by omega, h.inR g, fun o => g.inR h o.symm, fun o => ?_⟩
  have a := (addCs_ok es h (h.inR g o)).1.rw_.ln
  have b := (addCs_ok cs g (g.inR h o.symm)).1.rw_.ln
  have c := congrArg List.length (cutR_cs h g o)
  show (es.foldl addC (cs, ps)).2.length = (cs.foldl addC (es, qs)).2.length
  have c : (es.foldl addC (cs, ps)).1.length = (cs.foldl addC (es, qs)).1.length := c
  omega
theorem use_pair24 [K : Dk] {so : Int} {f g : Rat → Rat} {cs es : List Rat} {ps qs : List (List Rat)} {S : Sto} {Q : EQ} {U : Ex → Sto → Prop} (H : RwE cs ps) (G : RwE es qs) (m1 : ps.length ≤ 40) (m2 : qs.length ≤ 40) (o : oneS cs es ps qs) (s13 : so = 1 ∨ so = 3) (J : SmJ so cs ps) (F : FitR so f g es qs) (L : so = 1 → LiN ps) :
    (Q (frq (psi so f g cs ps ps.length)) S → @callS sp_pairing_of [.int so, rowD cs ps, rowD es qs] S U ⟨Q⟩) ∧ (Q (frq (psi so f g cs ps ps.length)) S → @callS sp_pairing_of [.int so, rowD es qs, rowD cs ps] S U ⟨Q⟩) := by
  have J2 := F.sm G.rw_
  obtain ⟨e1, e2⟩ := prg_fit H G o F L
  refine ⟨fun q => ⟨K, so, cs, es, ps, qs, rfl, H.pairL G m1 m2, ?_⟩, fun q => ⟨K, so, es, cs, qs, ps, rfl, G.pairL H m2 m1, ?_⟩⟩
  · rw [if_pos o, if_neg (fun z => z.2 (J.rgh (by omega))), if_neg (fun z => z.2 (J2.rgh (by omega))), e1]
    exact q
  · rw [if_pos o.symm, if_neg (fun z => z.2 (J2.rgh (by omega))), if_neg (fun z => z.2 (J.rgh (by omega))), e2]
    exact q
theorem Sh.pl {S : Sto} {p : List Rat} {n : Nat} (h : RL 1920 p) (hl : p.length ≤ n) : Sh S (plD p) (plP p) 2 (3 * n) := by
  refine ((ShL.map p fun x m => Sh.frq (h x m)).tup).le (by decide) ?_
  have : (2 + 1) * p.length ≤ 3 * n := Nat.mul_le_mul_left 3 hl
  exact this
theorem Sh.ql {S : Sto} {p : List Rat} {n : Nat} (h : RL 1920 p) (hl : p.length ≤ n) : Sh S (.lst (p.map GB.frq)) (.list (p.map frP)) 2 (3 * n) := by
  refine ((ShL.map p fun x m => Sh.frq (h x m)).lst).le (by decide) ?_
  have : (2 + 1) * p.length ≤ 3 * n := Nat.mul_le_mul_left 3 hl
  exact this
def spLaw : Spec := fun ds S Q _ => match ds with
  | [.rls ns] => ∃ cs : List Int, ns = cs.map D.int ∧ cs.length ≤ 63 ∧ ∀ S', Q (.bl true) S'
  | _ => False
/-- a list of drawn numbers, its noughts taken off -/
theorem lc_draws {m : Bool} {j : Nat} {elt : WpE} {δ : Dts} {P : EQ} {p : Addr} {n k b N : Nat} {S0 : Sto} (hN : N ≤ 1000) (hM : n + k * N < nMost)
    (he : ∀ (d : D) (S : Sto) (R : EQ) (i : Nat), Feed (n + k * i) S p → n + k * i + k < nMost → (∀ (r : Rat) (S' : Sto), RB b r → Adv p (n + k * i) k S S' → R (frq r) S') → wG (.nm j) d δ S fun δ' => elt δ' S R)
    (hF : Feed n S0 p) (fin : ∀ (ys : List Rat) (S : Sto), ys.length = N → RL b ys → Adv p n (k * N) S0 S → nwL m (ys.map frq) S P) (ds : List D) (hds : ds.length = N) : wLc m (.nm j) noIf elt (fun _ => True) δ P ds [] S0 := by
  refine lc_inv (fun ds acc S => ∃ ys : List Rat, acc = ys.map frq ∧ ys.length + ds.length = N ∧ RL b ys ∧ Adv p n (k * ys.length) S0 S) ?_ ?_ _ _ _ ⟨[], rfl, by simpa using hds, (fun x m => nomatch m), by simpa using Adv.refl hF⟩
  · rintro d ds acc S nx hnx ⟨ys, rfl, hl, hr, A⟩
    rw [List.length_cons] at hl
    have hk : k * ys.length + k ≤ k * N := by
      rw [← Nat.mul_succ]
      exact Nat.mul_le_mul_left k (by omega)
    refine ⟨by rw [List.length_map]; exact Nat.lt_of_le_of_lt (show ys.length ≤ 1000 by omega) (by decide), he d S nx ys.length A.fd (by omega) fun r S' h1 h2 => ?_⟩
    refine hnx _ _ trivial ⟨ys ++ [r], by simp, by simp; omega, ?_, ?_⟩
    · intro x m
      rcases List.mem_append.mp m with m | m
      · exact hr x m
      · rw [List.mem_singleton.mp m]; exact h1
    · have := A.trans h2
      rw [List.length_append, List.length_singleton, Nat.mul_add, Nat.mul_one]
      exact this
  · rintro acc S ⟨ys, rfl, hl, hr, A⟩
    rw [List.length_nil, Nat.add_zero] at hl
    rw [hl] at A
    exact fin ys S hl hr A

theorem Sh.row {S : Sto} {cs : List Rat} {ps : List (List Rat)} (h1 : RL 1920 cs) (h2 : ∀ p ∈ ps, RL 1920 p) (h3 : ∀ p ∈ ps, p.length ≤ 4) (n : Nat) (h4 : ps.length ≤ n) (h5 : cs.length ≤ n + 1) : Sh S (rowD cs ps) (rowP cs ps) 4 (40 * (n + 2)) := by
  have a := Sh.pl (S := S) h1 h5
  have b := (ShL.map (S := S) (f := plD) (g := plP) ps fun p m => Sh.pl (n := 4) (h2 p m) (h3 p m)).tup
  have hb : (3 * 4 + 1) * ps.length ≤ 13 * n := by omega
  exact ((ShL.cons (a.le (k' := 3) (by decide) (Nat.le_refl _)) (ShL.cons (b.le (Nat.le_refl _) hb) (ShL.nil.le (Nat.zero_le _) (Nat.le_refl _)))).tup).le (by decide) (by omega)
/-! the law -/
@[reducible] def dkN (N : Nat) (h : 1 ≤ N) (h2 : N ≤ 270) : Dk := ⟨6 * (2520 * N * (2520 * N) * (2520 * N)), Nat.mul_ne_zero (by decide) (Nat.mul_ne_zero (Nat.mul_ne_zero (by omega) (by omega)) (by omega)), by
  have n2 : 2520 * N ≤ 680400 := by omega
  exact Nat.le_trans (Nat.mul_le_mul_left _ (Nat.mul_le_mul (Nat.mul_le_mul n2 n2) n2)) (by decide)⟩
theorem RwV.e [K : Dk] {so : Int} {n : Nat} {cs : List Rat} {E : List (Rat × Rat)} {ps : List (List Rat)} (H : RwV so n cs E ps) (hK : K.d = 6 * (n * n * n)) : RwE cs ps := by
  have R := H.rw_
  refine ⟨R, fun c mc => ⟨((H.ct.cn c mc).1.up 100).cast (by decide), (H.ct.cn c mc).2.le (by decide +kernel)⟩, fun k hk => ?_⟩
  have l4 := (R.tr _ (pg_mem hk)).2
  have t := (H.ct.ln k hk).ig.2
  have nm : Nm (D12) V12 (pg ps k) := fun x mx => by
    have := H.nm _ (pg_mem hk) x mx
    unfold D12
    rw [hK]
    exact ⟨this.1, this.2.le (by decide +kernel)⟩
  refine ⟨pg ps k, 0, l4, nm, Ig.zero, Rat.le_refl, ?_, fun i => (mv_at0 l4 i).symm⟩
  obtain ⟨t1, t2⟩ := t
  grind
theorem RwV.up {so : Int} {cs : List Rat} {E : List (Rat × Rat)} {ps : List (List Rat)} {m N : Nat} (H : RwV so (2520 * 1) cs E ps) (hC : CtS m cs) (l : ps.length = m) (m1 : 1 ≤ m) (m5 : m ≤ 5) (N1 : 1 ≤ N) (N2 : N ≤ 270) : RwV so (2520 * N) cs E ps := by
  refine ⟨H.rw_, by rw [l]; exact hC.ce m1 m5 N1 N2, fun p mp x mx => ?_, H.v, H.s⟩
  have := H.nm p mp x mx
  refine ⟨(this.1.up (N * N * N)).cast ?_, this.2⟩
  rw [Nat.mul_one, Nat.mul_assoc 6]
  congr 1
  ac_rfl
theorem RwV.sm {so : Int} {n : Nat} {cs : List Rat} {E : List (Rat × Rat)} {ps : List (List Rat)} (H : RwV so n cs E ps) : SmJ so cs ps := fun s k hk => by
  rw [(H.s s (k + 1) (by omega)).2 k rfl, (H.s s (k + 1) (by omega)).1 hk]
theorem RwM.li {so : Int} {n : Nat} {cs : List Rat} {E : List (Rat × Rat)} {ps : List (List Rat)} (H : RwM so n cs E ps) (s : so = 1) : LiN ps := fun k hk => by
  have := H.d1 s _ (pg_mem hk)
  exact ⟨pn_len (by omega), pn_len (by omega)⟩
theorem RwM.q {so : Int} {cs : List Rat} {E : List (Rat × Rat)} {ps : List (List Rat)} (H : RwM so (2520 * 1) cs E ps) (l : ps.length ≤ 5) : RwQ cs ps := by
  refine ⟨H.rw_, fun c mc => ?_, fun p mp => (H.nm p mp).RL (by decide) (by decide) (by decide +kernel), by omega⟩
  have := H.ct.cn c mc
  exact RB.of this.1 this.2 (by decide) (by decide) (by decide +kernel)
abbrev tN (so : Int) (b : Bool) (cs : List Rat) (m : Nat) : Tk := ⟨so, if b = true then some (pn cs m - pn cs 0) else none, 1, (if b = true then cs.dropLast else cs).map fun x => ⟨x, .held 0, .free⟩⟩
theorem tN_len {so : Int} {b : Bool} {cs : List Rat} {m : Nat} (l : cs.length = m + 1) : (tN so b cs m).ps.length + (if (tN so b cs m).ar.isSome = true then 1 else 0) = m + 1 ∧ (tN so b cs m).ar.isSome = b := by
  cases b with
  | false => exact ⟨by show (cs.map _).length + 0 = _; rw [List.length_map, l], rfl⟩
  | true => exact ⟨by show (cs.dropLast.map _).length + 1 = _; rw [List.length_map, List.length_dropLast, l]; rfl, rfl⟩
theorem tN_x {so : Int} {b : Bool} {cs : List Rat} {m : Nat} : ∀ k, k < (tN so b cs m).ps.length → ((tN so b cs m).ps.getD k default).x = pn cs k := by
  intro k hk
  have hk : k < ((if b = true then cs.dropLast else cs).map fun x => (⟨x, .held 0, .free⟩ : Pt)).length := hk
  rw [List.length_map] at hk
  show (((if b = true then cs.dropLast else cs).map fun x => (⟨x, .held 0, .free⟩ : Pt)).getD k default).x = _
  rw [List.getD_eq_getElem?_getD, List.getElem?_map, List.getElem?_eq_getElem hk]
  show (if b = true then cs.dropLast else cs)[k] = _
  cases b with
  | false => exact pn_of_at hk
  | true =>
    have hk2 : k < cs.dropLast.length := hk
    show cs.dropLast[k] = _
    rw [List.getElem_dropLast]
    exact pn_of_at _
theorem PuS.tN {so : Int} {b : Bool} {cs : List Rat} {ps : List (List Rat)} {E : List (Rat × Rat)} {m : Nat} (H : RwM so (2520 * 1) cs E ps) (l : ps.length = m) (m5 : m ≤ 5) (s13 : so = 1 ∨ so = 3) : PuS (GB.tN so b cs m) cs ps := by
  have lc := H.ct.lc
  rw [l] at lc
  refine ⟨H.q (by omega), s13, (RB.lit (by decide +kernel) : RB 155 1), fun r e => ?_, fun p mp => ?_, by rw [(tN_len lc).1, l], tN_x⟩
  · cases b with
    | false => cases e
    | true =>
      have e : some (pn cs m - pn cs 0) = some r := e
      cases e
      have a := H.ct.cn _ (pn_mem (p := cs) (k := m) (by omega))
      have c := H.ct.cn _ (pn_mem (p := cs) (k := 0) (by omega))
      exact RB.of (a.1.sub c.1) (a.2.sub c.2) (by decide) (by decide) (by decide +kernel)
  · obtain ⟨x, _, rfl⟩ := List.mem_map.mp mp
    refine ⟨fun y my => ?_, fun y my => (by cases my)⟩
    rcases List.mem_cons.mp my with e | my
    · rw [e]; exact RB.zero (by decide)
    · cases my
/-- what both rows tell -/
theorem both24 [K : Dk] {so : Int} {b : Bool} {n m : Nat} {cs es : List Rat} {ps qs : List (List Rat)} {E : List (Rat × Rat)} (H : RwE cs ps) (l : ps.length = m) (V : RwV so n es E qs) (G : RwE es qs) (s13 : so = 1 ∨ so = 3) (r : RnE b qs.length E) (e0 : pn es 0 = pn cs 0) (e1 : pn es qs.length = pn cs m) :
    FitR so (vF es qs) (sF es qs) es qs ∧ sP so b (vF es qs) (sF es qs) cs ps (if b = true then m else m + 1) = psi so (vF es qs) (sF es qs) cs ps ps.length := by
  have F := fit0 G.rw_ V.sm
  refine ⟨F, ?_⟩
  have ne := G.rw_.ne
  have u0 := Rat.le_of_lt (G.rw_.up 0 ne)
  have u1 := Rat.le_of_lt (G.rw_.up (qs.length - 1) (by omega))
  have F0 := F 0 ne (pn es 0) Rat.le_refl u0
  have F1 := F (qs.length - 1) (by omega) (pn es (qs.length - 1 + 1)) u1 Rat.le_refl
  have l1 : qs.length = qs.length - 1 + 1 := by omega
  rw [show pn es 0 - pn es 0 = 0 by grind, (V.v 0 (by omega)).1 ne] at F0
  rw [(V.v qs.length (Nat.le_refl _)).2 _ l1, ← l1] at F1
  refine sP_psi s13 H.rw_.ne ?_ fun hb => ?_
  · rw [l]
    cases b <;> rfl
  · rw [l, ← e0, ← e1, F0.1, F1.1, r hb]
    refine ⟨rfl, fun s => ?_⟩
    have a := F0.2 s
    have c := F1.2 s
    rw [(V.s s 0 (by omega)).1 ne] at a
    have z := (V.s s qs.length (Nat.le_refl _)).2 _ l1
    rw [← l1] at z
    rw [z, r hb] at c
    rw [a, c]
theorem cut_but24 {xs : List D} : cutD xs none (some (-1)) = xs.dropLast := by
  unfold cutD HT.sIx
  dsimp only
  rw [List.drop_zero, Nat.sub_zero, List.dropLast_eq_take]
  congr 1
  split <;> omega
theorem tN_N {so : Int} {b : Bool} {cs : List Rat} {m : Nat} (l : cs.length = m + 1) : (tN so b cs m).ps.length = if b = true then m else m + 1 := by
  cases b with
  | false =>
    show (cs.map _).length = m + 1
    rw [List.length_map, l]
  | true =>
    show (cs.dropLast.map _).length = m
    rw [List.length_map, List.length_dropLast, l]
    rfl
theorem lvl24 [K : Dk] {so : Int} {cs : List Rat} {ps : List (List Rat)} {m : Nat} {y : Rat} (H : RwE cs ps) (pl : ps.length = m) (hy : Ig 6 y ∧ Ab 30 y) (y0 : y ≠ 0) (hl : pn cs m - pn cs 0 ≤ 45) (hd : ∃ n : Nat, K.d = 6 * n) : RwE [pn cs 0, pn cs m] [[y]] ∧ FitR so (fun _ => y) (fun _ => 0) [pn cs 0, pn cs m] [[y]] := by
  have ln := H.rw_.ln
  have ne := H.rw_.ne
  have lt := H.rw_.lt' (i := 0) (j := m) (by omega) (by omega)
  have t : trim [y] = [y] := by
    unfold trim
    simp [y0]
    rfl
  have l1 : [y].length ≤ 4 := show 1 ≤ 4 by decide
  refine ⟨⟨⟨rfl, Nat.one_pos, fun k hk => ?_, fun p mp => ?_, fun k hk => ?_⟩, fun c mc => ?_, fun k hk => ?_⟩, fun k hk x h0 h1 => ?_⟩
  · obtain rfl : k = 0 := by have : k < 1 := hk; omega
    exact lt
  · rw [List.mem_singleton.mp mp]
    exact ⟨t, l1⟩
  · have : k + 1 < 1 := hk
    omega
  · rcases List.mem_cons.mp mc with e | mc
    · rw [e]; exact H.cn _ (pn_mem (by omega))
    · rw [List.mem_singleton.mp mc]; exact H.cn _ (pn_mem (by omega))
  · obtain rfl : k = 0 := by have : k < 1 := hk; omega
    obtain ⟨n, hn⟩ := hd
    refine ⟨[y], 0, l1, fun x mx => ?_, Ig.zero, Rat.le_refl, ?_, fun i => (mv_at0 (p := [y]) l1 i).symm⟩
    · rw [List.mem_singleton.mp mx]
      unfold D12
      rw [hn]
      exact ⟨hy.1.up n, hy.2.le (by decide +kernel)⟩
    · show 0 + (pn cs m - pn cs 0) ≤ 48
      grind
  · obtain rfl : k = 0 := by have : k < 1 := hk; omega
    refine ⟨?_, fun _ => ?_⟩
    · show y = (x - pn cs 0) * 0 + y
      grind
    · show (0 : Rat) = (x - pn cs 0) * 0 + 0
      grind
def b_law : Sms := .cons (.asg (.nm 1) (.call "_law_feed" sp__law_feed (.cons (.v 0) (.nil)))) (.cons (.for_ (.nm 2) (.r1 (.cI 3)) (.cons (.par [13, 14] (.cons (.ix (.lst false (.cons (.cI 1) (.cons (.cI 3) (.cons (.cI 3) (.nil))))) (.call "_law_draw" sp__law_draw (.cons (.v 1) (.cons (.cI 3) (.nil))))) (.cons (.cmp .eq (.call "_law_draw" sp__law_draw (.cons (.v 1) (.cons (.cI 3) (.nil)))) (.cI 0)) (.nil)))) (.cons (.asg (.nm 3) (.call "_law_rise" sp__law_rise (.cons (.v 1) (.cons (.call "_law_number" sp__law_number (.cons (.v 1) (.nil))) (.cons (.bin .add false (.bin .add false (.cI 1) (.call "_law_draw" sp__law_draw (.cons (.v 1) (.cons (.cI 4) (.nil))))) (.bi .int1 false (.cons (.v 14) (.nil)))) (.nil)))))) (.cons (.asg (.nm 4) (.call "_law_row" sp__law_row (.cons (.v 1) (.cons (.v 13) (.cons (.v 3) (.cons (.v 14) (.nil))))))) (.cons (.asg (.nm 5) (.call "_law_row" sp__law_row (.cons (.v 1) (.cons (.v 13) (.cons (.call "_law_other_cuts" sp__law_other_cuts (.cons (.v 1) (.cons (.v 3) (.nil)))) (.cons (.v 14) (.nil))))))) (.cons (.ite (.and_ (.cons (.cmp .eq (.v 13) (.cI 1)) (.cons (.cmp .eq (.call "_law_draw" sp__law_draw (.cons (.v 1) (.cons (.cI 2) (.nil)))) (.cI 0)) (.nil)))) (.cons (.asg (.nm 5) (.call "_law_bent_lines" sp__law_bent_lines (.cons (.v 1) (.cons (.v 5) (.nil))))) (.nil)) (.nil)) (.cons (.asg (.nm 6) (.ite (.v 14) (.call "_law_less" sp__law_less (.cons (.ix (.v 3) (.neg (.cI 1))) (.cons (.ix (.v 3) (.cI 0)) (.nil)))) (.cN))) (.cons (.asg (.nm 7) (.ite (.v 14) (.sl false (.v 3) (.none) (.some (.neg (.cI 1)))) (.v 3))) (.cons (.asg (.nm 8) (.tup (.cons (.v 13) (.cons (.v 6) (.cons (.tup (.cons (.cI 1) (.cons (.cI 1) (.nil)))) (.cons (.bi .tuple false (.cons (.lc false (.tup (.cons (.v 15) (.cons (.tup (.cons (.cS "held") (.cons (.tup (.cons (.cI 0) (.cons (.cI 1) (.nil)))) (.nil)))) (.cons (.tup (.cons (.cS "free") (.nil))) (.nil))))) (.nm 15) (.val (.v 7)) (.nil)) (.nil))) (.nil))))))) (.cons (.asg (.nm 9) (.bi .repr false (.cons (.call "_law_sum" sp__law_sum (.cons (.v 8) (.cons (.call "pulls_of" sp_pulls_of (.cons (.v 8) (.cons (.v 4) (.nil)))) (.cons (.v 5) (.nil))))) (.nil)))) (.cons (.ite (.or_ (.cons (.cmp .ne (.bi .repr false (.cons (.call "pairing_of" sp_pairing_of (.cons (.v 13) (.cons (.v 4) (.cons (.v 5) (.nil))))) (.nil))) (.v 9)) (.cons (.cmp .ne (.bi .repr false (.cons (.call "pairing_of" sp_pairing_of (.cons (.v 13) (.cons (.v 5) (.cons (.v 4) (.nil))))) (.nil))) (.v 9)) (.nil)))) (.cons (.ret (.cB false)) (.nil)) (.nil)) (.cons (.asg (.nm 10) (.v 5)) (.cons (.for_ (.nm 11) (.val (.v 3)) (.cons (.asg (.nm 10) (.call "with_cut" sp_with_cut (.cons (.v 10) (.cons (.v 11) (.nil))))) (.nil))) (.cons (.ite (.cmp .ne (.bi .repr false (.cons (.call "pairing_of" sp_pairing_of (.cons (.v 13) (.cons (.v 4) (.cons (.v 10) (.nil))))) (.nil))) (.v 9)) (.cons (.ret (.cB false)) (.nil)) (.nil)) (.cons (.asg (.nm 12) (.tup (.cons (.tup (.cons (.ix (.v 3) (.cI 0)) (.cons (.ix (.v 3) (.neg (.cI 1))) (.nil)))) (.cons (.tup (.cons (.tup (.cons (.call "_law_number" sp__law_number (.cons (.v 1) (.nil))) (.nil))) (.nil))) (.nil))))) (.cons (.ite (.and_ (.cons (.cmp .ne (.ix (.ix (.ix (.ix (.v 12) (.cI 1)) (.cI 0)) (.cI 0)) (.cI 0)) (.cI 0)) (.cons (.cmp .ne (.bi .repr false (.cons (.call "pairing_of" sp_pairing_of (.cons (.v 13) (.cons (.v 4) (.cons (.v 12) (.nil))))) (.nil))) (.bi .repr false (.cons (.tup (.cons (.cI 0) (.cons (.cI 1) (.nil)))) (.nil)))) (.nil)))) (.cons (.ret (.cB false)) (.nil)) (.nil)) (.nil))))))))))))))))) (.cons (.ret (.cB true)) (.nil)))
theorem t_law : Keeps 16 b_law spLaw 1 := by
  intro ds S Q U h
  match ds, h with
  | [.rls ns], h =>
  refine ⟨rfl, ?_⟩
  obtain ⟨sc, rfl, hl, h⟩ := h
  have hM : nMost = 1099511627776 := by decide
  simp! only [b_law]
  refine ⟨sc, rfl, hl, fun f S1 hp hF _ => ?_⟩
  simp! only
  refine ⟨r62_ok (n := 3) (by decide), ?_⟩
  refine for_inv (fun ds δ S' => ∃ (k j : Nat) (o2 o3 o4 o5 o6 o7 o8 o9 o10 o11 o12 o13 o14 : Option D), ds = rngD (k : Int) j ∧ k + j = 3 ∧ Feed (200 * k) S' f ∧ δ = [some (.rls (sc.map D.int)), some (.ref f), o2, o3, o4, o5, o6, o7, o8, o9, o10, o11, o12, o13, o14, none]) ?_ ?_ (fun _ _ _ _ => trivial) _ _ _ ⟨0, 3, _, _, _, _, _, _, _, _, _, _, _, _, _, rfl, rfl, hF, rfl⟩
  · rintro d ds δ S2 nx hnx ⟨k, j, o2, o3, o4, o5, o6, o7, o8, o9, o10, o11, o12, o13, o14, e, hk, F2, rfl⟩
    obtain ⟨j, rfl, rfl, rfl⟩ := rng_go e
    simp! only
    refine use_draw F2 (by omega) (by decide) (Bt.lit (by decide)) fun u S3 u0 u1 A3 => ?_
    obtain ⟨so, hso, s13⟩ : ∃ so : Int, atI [D.int 1, .int 3, .int 3] u = some (.int so) ∧ (so = 1 ∨ so = 3) := by
      have : u = 0 ∨ u = 1 ∨ u = 2 := by omega
      rcases this with rfl | rfl | rfl
      · exact ⟨1, rfl, .inl rfl⟩
      · exact ⟨3, rfl, .inr rfl⟩
      · exact ⟨3, rfl, .inr rfl⟩
    simp! only [hso]
    refine use_draw A3.fd (by omega) (by decide) (Bt.lit (by decide)) fun v S4 v0 v1 A4 => ?_
    obtain ⟨b, hb⟩ : ∃ b : Bool, b = decide (v = 0) := ⟨_, rfl⟩
    simp! only
    rw [← hb]
    refine use_number ⟨A4.fd, by omega⟩ fun x S5 hx A5 => ?_
    simp! only
    refine use_draw A5.fd (by omega) (by decide) (Bt.lit (by decide)) fun w S6 w0 w1 A6 => ?_
    simp! only
    obtain ⟨m, em, m1, m5, mb⟩ : ∃ m : Nat, 1 + w + (if b = true then 1 else 0) = (m : Int) ∧ 1 ≤ m ∧ m ≤ 5 ∧ (b = true → 2 ≤ m) := by
      cases b
      · exact ⟨(1 + w).toNat, by simp; omega, by omega, by omega, fun z => by cases z⟩
      · exact ⟨(2 + w).toNat, by simp; omega, by omega, by omega, fun _ => by omega⟩
    rw [em]
    refine use_rise ⟨A6.fd, by omega, by omega, hx.1, hx.2⟩ fun q cs S7 hC qf sq hq A7 => ?_
    simp! only
    have lx7 : ∀ S', (∀ z, z ≠ f → S7 z ≠ none → S' z = S7 z) → lsx S' (.ref q) = some (cs.map frq) := fun S' e => by
      show (match S' q with | some (.lst ds) => some ds | _ => none) = _
      rw [e q qf (by rw [hq]; exact fun z => nomatch z), hq]
    refine use_row (n := 2520 * 1) (m := m) (so := so) (x := .ref q) (b := b) ⟨A7.fd, by omega, hC.ce m1 m5 (by decide) (by decide), lx7⟩ fun E ps S8 R pl rE A8 => ?_
    have hq8 : S8 q = some (.lst (cs.map frq)) := A8.at_ qf hq
    simp! only
    refine use_ocuts ⟨A8.fd, by omega, qf, hq8, hC, m1, m5⟩ fun es l S9 O A9 => ?_
    simp! only
    obtain ⟨N, N1, N2, hN⟩ := hC.whole m1 m5
    refine use_row (n := 2520 * N) (m := l) (so := so) (cs := es) (x := .lst (es.map frq)) (b := b) ⟨A9.fd, by omega, O.ce N hN N1 N2, fun S' _ => rfl⟩ fun Eo qs S10 Ro ql rO A10 => ?_
    simp! only
    have X10 : AdvX f (200 * k + 110) S2 S10 := ((((((((A3.x.trans A4.x).trans A5.x).trans A6.x).trans A7).trans A8).trans A9).trans A10).le (by omega))
    have hq10 : S10 q = some (.lst (cs.map frq)) := A10.at_ qf (A9.at_ qf hq8)
    refine andT_fac (fun b' S' => (b' = true → so = 1) ∧ AdvX f (200 * k + 111) S2 S' ∧ S' q = some (.lst (cs.map frq))) ?_ ?_ ?_
    · intro cs1 T' hT'
      refine use_draw X10.fd (by omega) (by decide) (Bt.lit (by decide)) fun y S11 y0 y1 A11 => ?_
      simp! only
      exact hT' _ _ ⟨fun _ => of_decide_eq_true cs1, (X10.trans A11.x).le (by omega), (A11.eq q qf).trans hq10⟩
    · intro cs1
      exact ⟨fun z => absurd z Bool.false_ne_true, X10.le (by omega), hq10⟩
    rintro b' S11 ⟨hb', X11, hq11⟩
    refine iteS_fac (fun δ S' => ∃ bs : List (List Rat), RwV so (2520 * N) es Eo bs ∧ bs.length = l ∧ AdvX f (200 * k + 131) S2 S' ∧ S' q = some (.lst (cs.map frq)) ∧ δ = [some (.rls (sc.map D.int)), some (.ref f), some (.int (k : Int)), some (.ref q), some (rowD cs ps), some (rowD es bs), o6, o7, o8, o9, o10, o11, o12, some (.int so), some (.bl b), none]) ?_ ?_ ?_
    · intro cb N' hN'
      have s1 := hb' cb
      subst s1
      simp! only
      refine use_bentl ⟨X11.fd, by omega, Ro⟩ fun bs S12 V bl A12 => ?_
      simp! only
      exact hN' _ _ ⟨bs, V, by omega, (X11.trans A12).le (by omega), A12.at_ qf hq11, rfl⟩
    · intro cb N' hN'
      exact hN' _ _ ⟨qs, Ro.V, ql, X11.le (by omega), hq11, rfl⟩
    rintro δ S12 ⟨bs, V, bl, X12, hq12, rfl⟩
    clear Ro
    let K : Dk := dkN N N1 N2
    have H : RwE cs ps := (R.V.up hC pl m1 m5 N1 N2).e rfl
    have G : RwE es bs := V.e rfl
    have e0 := O.f0
    have e1 : pn es bs.length = pn cs m := by rw [bl]; exact O.fl
    have lc := hC.lc
    have i0 : atI cs 0 = some (pn cs 0) := at_pn (i := 0) (by omega)
    have il : atI cs (-1) = some (pn cs m) := last_pn lc
    have wl : pn cs m - pn cs 0 ≤ 45 := by
      have : (N : Rat) ≤ ((270 : Nat) : Rat) := Rat.natCast_le_natCast.mpr N2
      have e27 : ((270 : Nat) : Rat) = 270 := rfl
      grind
    have b0 := (hC.rb (by omega) 0 (Nat.zero_le _)).le (show 12 ≤ 3900 by decide)
    have bm := (hC.rb (by omega) m (Nat.le_refl _)).le (show 12 ≤ 3900 by decide)
    obtain ⟨F, eS⟩ := both24 (n := 2520 * N) H pl V G s13 (by rw [bl]; exact rO) e0 e1
    simp! only
    refine iteE_fac (fun e S' => e = arD (tN so b cs m).ar ∧ S' = S12) ?_ ?_ ?_
    · intro cb P' hP'
      simp! only [at_ref hq12, i0, il, ↓q2_less, b0, bm]
      refine hP' _ _ ⟨?_, rfl⟩
      rw [cb]
      rfl
    · intro cb P' hP'
      refine hP' _ _ ⟨?_, rfl⟩
      rw [cb]
      rfl
    rintro e S13 ⟨rfl, rfl⟩
    simp! only
    refine iteE_fac (fun e S' => lsx S13 e = some ((if b = true then cs.dropLast else cs).map frq) ∧ S' = S13) ?_ ?_ ?_
    · intro cb P' hP'
      rw [cb, if_pos rfl] at hP'
      rw [lsx_sl (lsx_at hq12), nw_f, cut_but24]
      exact hP' _ _ ⟨by rw [← List.map_dropLast]; rfl, rfl⟩
    · intro cb P' hP'
      rw [cb, if_neg Bool.false_ne_true] at hP'
      exact hP' _ _ ⟨lsx_at hq12, rfl⟩
    rintro e S14 ⟨le, rfl⟩
    simp! only
    refine lsx_ItP le fun src hs _ => ?_
    have l7 : (if b = true then cs.dropLast else cs).length ≤ 7 := by
      cases b
      · show cs.length ≤ 7
        omega
      · show cs.dropLast.length ≤ 7
        rw [List.length_dropLast]
        omega
    obtain ⟨AR, eAR⟩ : ∃ AR : D, AR = arD (tN so b cs m).ar := ⟨_, rfl⟩
    refine lc_pure (src := src) (f := GB.frq) (g := fun x => ptD ⟨x, .held 0, .free⟩) hs _ (few_ok (by omega)) ?_ ?_
    · intro x mx R hR
      simp! only
      exact hR
    rw [nw_f]
    have PS := PuS.tN (b := b) R pl m5 s13
    have lt := tN_len (so := so) (b := b) lc
    have eT : D.tup [.int so, arD (if b = true then some (pn cs m - pn cs 0) else none), .tup [.int 1, .int 1], .tup ((if b = true then cs.dropLast else cs).map fun x => ptD ⟨x, .held 0, .free⟩)] = tkD (tN so b cs m) := by
      show _ = D.tup [.int so, arD _, frq 1, .tup (((if b = true then cs.dropLast else cs).map fun x => (⟨x, .held 0, .free⟩ : Pt)).map ptD)]
      rw [List.map_map]
      rfl
    simp! only
    rw [eT]
    refine use_pulls PS ?_
    simp! only
    have o1 : oneS cs es ps bs := ⟨e0.symm, by rw [e1, pl]⟩
    have hx : ∀ k, k ≤ ps.length → AtR es bs (pn cs k) := fun k hk => by
      have c := hC.cn k (by omega)
      exact ⟨(c.1.up 21000).cast (by decide), (hC.rb (by omega) k (by omega)).le (by decide), by rw [e0]; exact H.rw_.le' (Nat.zero_le _) hk, by rw [e1, ← pl]; exact H.rw_.le' hk (Nat.le_refl _)⟩
    have bl7 : bs.length ≤ 7 := V.ct.m7
    have tl1 : (tN so b cs m).ps.length ≤ ps.length + 1 := by have := lt.1; omega
    have rbS := sP_RB (so := so) (rd := b) H G hx (n := if b = true then m else m + 1) (by split <;> omega) (by omega)
    have eN1 : (tN so b cs m).ps.length = if b = true then m else m + 1 := tN_N lc
    refine use_lsum (t := tN so b cs m) ⟨H, G, hx, tN_x, tl1, by omega, by omega⟩ ?_
    rw [lt.2, eN1]
    rw [eS] at rbS ⊢
    have rbq := rbS.le (show 600 ≤ 1920 by decide)
    have SH := fun S => Sh.frq (S := S) rbq
    obtain ⟨z, hz⟩ : ∃ z, z = psi so (vF es bs) (sF es bs) cs ps ps.length := ⟨_, rfl⟩
    rw [← hz] at rbS rbq SH ⊢
    simp! only
    refine (SH _).repr (by decide) (by decide) ?_
    simp! only
    have U1 := fun (S : Sto) (Q : EQ) (U : Ex → Sto → Prop) => use_pair24 (S := S) (Q := Q) (U := U) H G (by omega) (by omega) o1 s13 R.V.sm F R.li
    rw [← hz] at U1
    refine (U1 _ _ _).1 ?_
    simp! only
    refine (SH _).repr (by decide) (by decide) ?_
    simp! only
    refine (U1 _ _ _).2 ?_
    simp! only
    refine (SH _).repr (by decide) (by decide) ?_
    simp! only
    refine lsx_ItP (lsx_at hq12) fun src2 hs2 _ => ?_
    obtain ⟨TD, eTD⟩ : ∃ TD : D, TD = tkD (tN so b cs m) := ⟨_, rfl⟩
    have hin : ∀ x ∈ cs, InR es bs x := G.inR H o1.symm
    show wFor _ _ _ _ _ [some (.rls (sc.map D.int)), some (.ref f), some (.int (k : Int)), some (.ref q), some (rowD cs ps), some (rowD es bs), some (arD (tN so b cs m).ar), some e, some (tkD (tN so b cs m)), some (.str (frP z).shown), some (rowD es bs), o11, o12, some (.int so), some (.bl b), none] _
    rw [← eTD, ← eAR]
    refine for_inv (fun ds δ S' => S' = S14 ∧ ∃ (xs as : List Rat) (ts : List (List Rat)) (o11 : Option D), ds = xs.map frq ∧ (RwE as ts ∧ FitR so (vF es bs) (sF es bs) as ts ∧ (∀ x ∈ xs, InR as ts x) ∧ pn as 0 = pn es 0 ∧ pn as ts.length = pn es bs.length ∧ ts.length + xs.length ≤ 20) ∧ δ = [some (.rls (sc.map D.int)), some (.ref f), some (.int (k : Int)), some (.ref q), some (rowD cs ps), some (rowD es bs), some AR, some e, some TD, some (.str (frP z).shown), some (rowD as ts), o11, o12, some (.int so), some (.bl b), none]) ?_ ?_ ?_ _ _ _ ⟨rfl, cs, es, bs, _, rfl, ⟨G, F, hin, rfl, rfl, by omega⟩, rfl⟩
    · rintro d ds δ S' nx2 hnx2 ⟨rfl, xs, as, ts, o11, e0, ⟨g1, g2, g3, g4, g5, g6⟩, rfl⟩
      cases xs with
      | nil => cases e0
      | cons x xs =>
      cases e0
      rw [List.length_cons] at g6
      have hx0 := g3 x List.mem_cons_self
      have a := addC_ok g1 hx0
      simp! only
      refine use_with_cut g1 (by omega) hx0 ?_
      simp! only
      refine hnx2 _ _ hs2 ⟨rfl, xs, _, _, _, rfl, ⟨a.1, g2.add g1.rw_ hx0.lo hx0.hi, fun y my => ?_, a.2.1.trans g4, a.2.2.1.trans g5, by have := a.2.2.2; omega⟩, rfl⟩
      have := g3 y (List.mem_cons_of_mem _ my)
      exact ⟨this.i, by rw [a.2.1]; exact this.lo, by rw [a.2.2.1]; exact this.hi⟩
    · rintro δ S' ⟨rfl, xs, as, ts, o11', e0, ⟨g1, g2, g3, g4, g5, g6⟩, rfl⟩
      have o2 : oneS cs as ps ts := ⟨by rw [g4]; exact o1.1, by rw [g5]; exact o1.2⟩
      have U2 := fun (S : Sto) (Q : EQ) (U : Ex → Sto → Prop) => use_pair24 (S := S) (Q := Q) (U := U) H g1 (by omega) (by omega) o2 s13 R.V.sm g2 R.li
      rw [← hz] at U2
      simp! only
      refine (U2 _ _ _).1 ?_
      simp! only
      refine (SH _).repr (by decide) (by decide) ?_
      simp! only [at_ref hq12, i0, il]
      refine use_number ⟨X12.fd, by omega⟩ fun y S15 hy A15 => ?_
      simp! only
      refine andT_fac (fun b' S' => b' = false ∧ S' = S15) ?_ ?_ ?_
      · intro cy T' hT'
        have y0 : y ≠ 0 := fun w => by rw [w] at cy; exact absurd cy (by decide)
        obtain ⟨GL, FL⟩ := lvl24 (so := so) H pl hy y0 wl ⟨_, rfl⟩
        have U3 := fun (S : Sto) (Q : EQ) (U : Ex → Sto → Prop) => use_pair24 (S := S) (Q := Q) (U := U) H GL (by omega) (show 1 ≤ 40 by decide) ⟨rfl, by rw [pl]; rfl⟩ s13 R.V.sm FL R.li
        rw [psi_lvl H.rw_ R.li _ (Nat.le_refl _)] at U3
        refine (U3 _ _ _).1 ?_
        simp! only
        have S0 := fun S => Sh.frq (S := S) (q := 0) (RB.zero (by decide))
        refine (S0 _).repr (by decide) (by decide) ?_
        simp! only
        refine (S0 _).repr (by decide) (by decide) ?_
        simp! only
        exact hT' _ _ ⟨rfl, rfl⟩
      · intro cy
        exact ⟨rfl, rfl⟩
      rintro b' S16 ⟨rfl, rfl⟩
      simp! only
      have X15 := X12.trans A15.x
      exact hnx _ _ trivial ⟨k + 1, j, _, _, _, _, _, _, _, _, _, _, _, _, _, rfl, by omega, X15.fd.le (by omega), rfl⟩
    · rintro ds δ S' ⟨rfl, _⟩
      exact hs2
  · rintro δ S2 ⟨k, j, o2, o3, o4, o5, o6, o7, o8, o9, o10, o11, o12, o13, o14, e, hk, F2, rfl⟩
    simp! only
    exact h S2
end GB
namespace GB
open PySem PySem.Spec PyProof.Rows L2 GH
theorem sc__law_feed : FnScope ["_law_script"] ["_law_script"] (defScope (top 50)) := ⟨rfl, rfl, rfl, by decide +kernel, rfl, by decide +kernel, by decide +kernel⟩
theorem ck__law_feed : chkSs ["_law_script"] (defScope (top 50)) .df b__law_feed (defBody (top 50)) = true := by decide +kernel
theorem sc__law_draw : FnScope ["_law_feed_here", "_law_many", "_law_spot", "_law_cell", "_law_turn", "_law_mixed", "_law_found"] ["_law_feed_here", "_law_many"] (defScope (top 51)) := ⟨rfl, rfl, rfl, by decide +kernel, rfl, by decide +kernel, by decide +kernel⟩
theorem ck__law_draw : chkSs ["_law_feed_here", "_law_many", "_law_spot", "_law_cell", "_law_turn", "_law_mixed", "_law_found"] (defScope (top 51)) .df b__law_draw (defBody (top 51)) = true := by decide +kernel
theorem sc__law_low : FnScope ["_law_top", "_law_bottom", "_law_sign", "_law_one", "_law_other"] ["_law_top", "_law_bottom"] (defScope (top 52)) := ⟨rfl, rfl, rfl, by decide +kernel, rfl, by decide +kernel, by decide +kernel⟩
theorem ck__law_low : chkSs ["_law_top", "_law_bottom", "_law_sign", "_law_one", "_law_other"] (defScope (top 52)) .df b__law_low (defBody (top 52)) = true := by decide +kernel
theorem sc__law_plus : FnScope ["_law_one", "_law_other"] ["_law_one", "_law_other"] (defScope (top 53)) := ⟨rfl, rfl, rfl, by decide +kernel, rfl, by decide +kernel, by decide +kernel⟩
theorem ck__law_plus : chkSs ["_law_one", "_law_other"] (defScope (top 53)) .df b__law_plus (defBody (top 53)) = true := by decide +kernel
theorem sc__law_rise : FnScope ["_law_feed_here", "_law_here", "_law_many", "_law_found", "_law_k"] ["_law_feed_here", "_law_here", "_law_many"] (defScope (top 62)) := ⟨rfl, rfl, rfl, by decide +kernel, rfl, by decide +kernel, by decide +kernel⟩
theorem ck__law_rise : chkSs ["_law_feed_here", "_law_here", "_law_many", "_law_found", "_law_k"] (defScope (top 62)) .df b__law_rise (defBody (top 62)) = true := by decide +kernel
theorem sc__law_number : FnScope ["_law_feed_here"] ["_law_feed_here"] (defScope (top 61)) := ⟨rfl, rfl, rfl, by decide +kernel, rfl, by decide +kernel, by decide +kernel⟩
theorem ck__law_number : chkSs ["_law_feed_here"] (defScope (top 61)) .df b__law_number (defBody (top 61)) = true := by decide +kernel
theorem sc__law_less : FnScope ["_law_one", "_law_other"] ["_law_one", "_law_other"] (defScope (top 54)) := ⟨rfl, rfl, rfl, by decide +kernel, rfl, by decide +kernel, by decide +kernel⟩
theorem ck__law_less : chkSs ["_law_one", "_law_other"] (defScope (top 54)) .df b__law_less (defBody (top 54)) = true := by decide +kernel
theorem sc__law_over : FnScope ["_law_one", "_law_other"] ["_law_one", "_law_other"] (defScope (top 56)) := ⟨rfl, rfl, rfl, by decide +kernel, rfl, by decide +kernel, by decide +kernel⟩
theorem ck__law_over : chkSs ["_law_one", "_law_other"] (defScope (top 56)) .df b__law_over (defBody (top 56)) = true := by decide +kernel
theorem sc__law_trim : FnScope ["_law_numbers", "_law_found"] ["_law_numbers"] (defScope (top 57)) := ⟨rfl, rfl, rfl, by decide +kernel, rfl, by decide +kernel, by decide +kernel⟩
theorem ck__law_trim : chkSs ["_law_numbers", "_law_found"] (defScope (top 57)) .df b__law_trim (defBody (top 57)) = true := by decide +kernel
theorem sc__law_times : FnScope ["_law_one", "_law_other"] ["_law_one", "_law_other"] (defScope (top 55)) := ⟨rfl, rfl, rfl, by decide +kernel, rfl, by decide +kernel, by decide +kernel⟩
theorem ck__law_times : chkSs ["_law_one", "_law_other"] (defScope (top 55)) .df b__law_times (defBody (top 55)) = true := by decide +kernel
theorem sc__law_cubic : FnScope ["_law_begin", "_law_end", "_law_length", "_law_rise_here", "_law_both", "_law_second", "_law_third"] ["_law_begin", "_law_end", "_law_length"] (defScope (top 58)) := ⟨rfl, rfl, rfl, by decide +kernel, rfl, by decide +kernel, by decide +kernel⟩
theorem ck__law_cubic : chkSs ["_law_begin", "_law_end", "_law_length", "_law_rise_here", "_law_both", "_law_second", "_law_third"] (defScope (top 58)) .df b__law_cubic (defBody (top 58)) = true := by decide +kernel
theorem sc__law_row : FnScope ["_law_feed_here", "_law_sort", "_law_cuts", "_law_is_round", "_law_ends", "_law_pieces", "_law_k", "_law_length", "_law_cut", "_law_rise_here"] ["_law_feed_here", "_law_sort", "_law_cuts", "_law_is_round"] (defScope (top 63)) := ⟨rfl, rfl, rfl, by decide +kernel, rfl, by decide +kernel, by decide +kernel⟩
theorem ck__law_row : chkSs ["_law_feed_here", "_law_sort", "_law_cuts", "_law_is_round", "_law_ends", "_law_pieces", "_law_k", "_law_length", "_law_cut", "_law_rise_here"] (defScope (top 63)) .df b__law_row (defBody (top 63)) = true := by decide +kernel
theorem sc__law_other_cuts : FnScope ["_law_feed_here", "_law_cuts", "_law_whole", "_law_many", "_law_found", "_law_k"] ["_law_feed_here", "_law_cuts"] (defScope (top 64)) := ⟨rfl, rfl, rfl, by decide +kernel, rfl, by decide +kernel, by decide +kernel⟩
theorem ck__law_other_cuts : chkSs ["_law_feed_here", "_law_cuts", "_law_whole", "_law_many", "_law_found", "_law_k"] (defScope (top 64)) .df b__law_other_cuts (defBody (top 64)) = true := by decide +kernel
theorem sc__law_bent_lines : FnScope ["_law_feed_here", "_law_row_here", "_law_found", "_law_k", "_law_cuts", "_law_pieces", "_law_more", "_law_length", "_law_numbers"] ["_law_feed_here", "_law_row_here"] (defScope (top 65)) := ⟨rfl, rfl, rfl, by decide +kernel, rfl, by decide +kernel, by decide +kernel⟩
theorem ck__law_bent_lines : chkSs ["_law_feed_here", "_law_row_here", "_law_found", "_law_k", "_law_cuts", "_law_pieces", "_law_more", "_law_length", "_law_numbers"] (defScope (top 65)) .df b__law_bent_lines (defBody (top 65)) = true := by decide +kernel
theorem sc__law_value : FnScope ["_law_poly", "_law_t", "_law_found", "_law_number_here"] ["_law_poly", "_law_t"] (defScope (top 59)) := ⟨rfl, rfl, rfl, by decide +kernel, rfl, by decide +kernel, by decide +kernel⟩
theorem ck__law_value : chkSs ["_law_poly", "_law_t", "_law_found", "_law_number_here"] (defScope (top 59)) .df b__law_value (defBody (top 59)) = true := by decide +kernel
theorem sc__law_slope : FnScope ["_law_poly", "_law_k"] ["_law_poly"] (defScope (top 60)) := ⟨rfl, rfl, rfl, by decide +kernel, rfl, by decide +kernel, by decide +kernel⟩
theorem ck__law_slope : chkSs ["_law_poly", "_law_k"] (defScope (top 60)) .df b__law_slope (defBody (top 60)) = true := by decide +kernel
theorem sc__law_there : FnScope ["_law_row_here", "_law_x", "_law_k", "_law_t", "_law_cuts", "_law_pieces", "_law_j"] ["_law_row_here", "_law_x"] (defScope (top 66)) := ⟨rfl, rfl, rfl, by decide +kernel, rfl, by decide +kernel, by decide +kernel⟩
theorem ck__law_there : chkSs ["_law_row_here", "_law_x", "_law_k", "_law_t", "_law_cuts", "_law_pieces", "_law_j"] (defScope (top 66)) .df b__law_there (defBody (top 66)) = true := by decide +kernel
theorem sc__law_sum : FnScope ["_law_task", "_law_pulls", "_law_other", "_law_found", "_law_point", "_law_pull", "_law_turn", "_law_value_here", "_law_slope_here"] ["_law_task", "_law_pulls", "_law_other"] (defScope (top 67)) := ⟨rfl, rfl, rfl, by decide +kernel, rfl, by decide +kernel, by decide +kernel⟩
theorem ck__law_sum : chkSs ["_law_task", "_law_pulls", "_law_other", "_law_found", "_law_point", "_law_pull", "_law_turn", "_law_value_here", "_law_slope_here"] (defScope (top 67)) .df b__law_sum (defBody (top 67)) = true := by decide +kernel
theorem sc_is_below : FnScope ["one", "other"] ["one", "other"] (defScope (top 15)) := ⟨rfl, rfl, rfl, by decide +kernel, rfl, by decide +kernel, by decide +kernel⟩
theorem ck_is_below : chkSs ["one", "other"] (defScope (top 15)) .df b_is_below (defBody (top 15)) = true := by decide +kernel
theorem sc_is_outside : FnScope ["row", "x"] ["row", "x"] (defScope (top 29)) := ⟨rfl, rfl, rfl, by decide +kernel, rfl, by decide +kernel, by decide +kernel⟩
theorem ck_is_outside : chkSs ["row", "x"] (defScope (top 29)) .df b_is_outside (defBody (top 29)) = true := by decide +kernel
theorem sc_ask_place : FnScope ["row", "x"] ["row", "x"] (defScope (top 30)) := ⟨rfl, rfl, rfl, by decide +kernel, rfl, by decide +kernel, by decide +kernel⟩
theorem ck_ask_place : chkSs ["row", "x"] (defScope (top 30)) .df b_ask_place (defBody (top 30)) = true := by decide +kernel
theorem sc_common_of : FnScope ["one", "other"] ["one", "other"] (defScope (top 10)) := ⟨rfl, rfl, rfl, by decide +kernel, rfl, by decide +kernel, by decide +kernel⟩
theorem ck_common_of : chkSs ["one", "other"] (defScope (top 10)) .df b_common_of (defBody (top 10)) = true := by decide +kernel
theorem sc_fraction_of : FnScope ["n", "d", "by"] ["n", "d"] (defScope (top 11)) := ⟨rfl, rfl, rfl, by decide +kernel, rfl, by decide +kernel, by decide +kernel⟩
theorem ck_fraction_of : chkSs ["n", "d", "by"] (defScope (top 11)) .df b_fraction_of (defBody (top 11)) = true := by decide +kernel
theorem sc_plus_by : FnScope ["one", "other"] ["one", "other"] (defScope (top 12)) := ⟨rfl, rfl, rfl, by decide +kernel, rfl, by decide +kernel, by decide +kernel⟩
theorem ck_plus_by : chkSs ["one", "other"] (defScope (top 12)) .df b_plus_by (defBody (top 12)) = true := by decide +kernel
theorem sc_times_by : FnScope ["one", "other"] ["one", "other"] (defScope (top 14)) := ⟨rfl, rfl, rfl, by decide +kernel, rfl, by decide +kernel, by decide +kernel⟩
theorem ck_times_by : chkSs ["one", "other"] (defScope (top 14)) .df b_times_by (defBody (top 14)) = true := by decide +kernel
theorem sc_value_of : FnScope ["poly", "t", "found", "one"] ["poly", "t"] (defScope (top 22)) := ⟨rfl, rfl, rfl, by decide +kernel, rfl, by decide +kernel, by decide +kernel⟩
theorem ck_value_of : chkSs ["poly", "t", "found", "one"] (defScope (top 22)) .df b_value_of (defBody (top 22)) = true := by decide +kernel
theorem sc_poly_of : FnScope ["numbers", "found"] ["numbers"] (defScope (top 17)) := ⟨rfl, rfl, rfl, by decide +kernel, rfl, by decide +kernel, by decide +kernel⟩
theorem ck_poly_of : chkSs ["numbers", "found"] (defScope (top 17)) .df b_poly_of (defBody (top 17)) = true := by decide +kernel
theorem sc_slope_of : FnScope ["poly", "k"] ["poly"] (defScope (top 23)) := ⟨rfl, rfl, rfl, by decide +kernel, rfl, by decide +kernel, by decide +kernel⟩
theorem ck_slope_of : chkSs ["poly", "k"] (defScope (top 23)) .df b_slope_of (defBody (top 23)) = true := by decide +kernel
theorem sc_bends_by : FnScope ["poly", "t", "found", "k"] ["poly", "t"] (defScope (top 31)) := ⟨rfl, rfl, rfl, by decide +kernel, rfl, by decide +kernel, by decide +kernel⟩
theorem ck_bends_by : chkSs ["poly", "t", "found", "k"] (defScope (top 31)) .df b_bends_by (defBody (top 31)) = true := by decide +kernel
theorem sc_minus_by : FnScope ["one", "other"] ["one", "other"] (defScope (top 13)) := ⟨rfl, rfl, rfl, by decide +kernel, rfl, by decide +kernel, by decide +kernel⟩
theorem ck_minus_by : chkSs ["one", "other"] (defScope (top 13)) .df b_minus_by (defBody (top 13)) = true := by decide +kernel
theorem sc_bends_at : FnScope ["row", "x", "ahead", "behind", "k", "low", "high"] ["row", "x"] (defScope (top 32)) := ⟨rfl, rfl, rfl, by decide +kernel, rfl, by decide +kernel, by decide +kernel⟩
theorem ck_bends_at : chkSs ["row", "x", "ahead", "behind", "k", "low", "high"] (defScope (top 32)) .df b_bends_at (defBody (top 32)) = true := by decide +kernel
theorem sc_bends_there : FnScope ["task", "row", "k", "ahead", "behind"] ["task", "row", "k"] (defScope (top 37)) := ⟨rfl, rfl, rfl, by decide +kernel, rfl, by decide +kernel, by decide +kernel⟩
theorem ck_bends_there : chkSs ["task", "row", "k", "ahead", "behind"] (defScope (top 37)) .df b_bends_there (defBody (top 37)) = true := by decide +kernel
theorem sc_pull_of : FnScope ["task", "row", "k", "ahead", "behind"] ["task", "row", "k"] (defScope (top 38)) := ⟨rfl, rfl, rfl, by decide +kernel, rfl, by decide +kernel, by decide +kernel⟩
theorem ck_pull_of : chkSs ["task", "row", "k", "ahead", "behind"] (defScope (top 38)) .df b_pull_of (defBody (top 38)) = true := by decide +kernel
theorem sc_pulls_of : FnScope ["task", "row", "k"] ["task", "row"] (defScope (top 39)) := ⟨rfl, rfl, rfl, by decide +kernel, rfl, by decide +kernel, by decide +kernel⟩
theorem ck_pulls_of : chkSs ["task", "row", "k"] (defScope (top 39)) .df b_pulls_of (defBody (top 39)) = true := by decide +kernel
theorem sc_ask_stretch : FnScope ["one", "other"] ["one", "other"] (defScope (top 43)) := ⟨rfl, rfl, rfl, by decide +kernel, rfl, by decide +kernel, by decide +kernel⟩
theorem ck_ask_stretch : chkSs ["one", "other"] (defScope (top 43)) .df b_ask_stretch (defBody (top 43)) = true := by decide +kernel
theorem sc_smooth_at : FnScope ["row", "k", "found", "ahead", "behind"] ["row", "k"] (defScope (top 33)) := ⟨rfl, rfl, rfl, by decide +kernel, rfl, by decide +kernel, by decide +kernel⟩
theorem ck_smooth_at : chkSs ["row", "k", "found", "ahead", "behind"] (defScope (top 33)) .df b_smooth_at (defBody (top 33)) = true := by decide +kernel
theorem sc_ask_smooth : FnScope ["row", "k"] ["row"] (defScope (top 46)) := ⟨rfl, rfl, rfl, by decide +kernel, rfl, by decide +kernel, by decide +kernel⟩
theorem ck_ask_smooth : chkSs ["row", "k"] (defScope (top 46)) .df b_ask_smooth (defBody (top 46)) = true := by decide +kernel
theorem sc_poly_number : FnScope ["poly", "k"] ["poly", "k"] (defScope (top 18)) := ⟨rfl, rfl, rfl, by decide +kernel, rfl, by decide +kernel, by decide +kernel⟩
theorem ck_poly_number : chkSs ["poly", "k"] (defScope (top 18)) .df b_poly_number (defBody (top 18)) = true := by decide +kernel
theorem sc_poly_sum : FnScope ["one", "other", "many", "k"] ["one", "other"] (defScope (top 19)) := ⟨rfl, rfl, rfl, by decide +kernel, rfl, by decide +kernel, by decide +kernel⟩
theorem ck_poly_sum : chkSs ["one", "other", "many", "k"] (defScope (top 19)) .df b_poly_sum (defBody (top 19)) = true := by decide +kernel
theorem sc_product_numbers : FnScope ["one", "other", "found", "j", "k"] ["one", "other"] (defScope (top 20)) := ⟨rfl, rfl, rfl, by decide +kernel, rfl, by decide +kernel, by decide +kernel⟩
theorem ck_product_numbers : chkSs ["one", "other", "found", "j", "k"] (defScope (top 20)) .df b_product_numbers (defBody (top 20)) = true := by decide +kernel
theorem sc_poly_times : FnScope ["one", "other"] ["one", "other"] (defScope (top 21)) := ⟨rfl, rfl, rfl, by decide +kernel, rfl, by decide +kernel, by decide +kernel⟩
theorem ck_poly_times : chkSs ["one", "other"] (defScope (top 21)) .df b_poly_times (defBody (top 21)) = true := by decide +kernel
theorem sc_moved_poly : FnScope ["poly", "a", "found", "step", "one"] ["poly", "a"] (defScope (top 24)) := ⟨rfl, rfl, rfl, by decide +kernel, rfl, by decide +kernel, by decide +kernel⟩
theorem ck_moved_poly : chkSs ["poly", "a", "found", "step", "one"] (defScope (top 24)) .df b_moved_poly (defBody (top 24)) = true := by decide +kernel
theorem sc_with_cut : FnScope ["row", "x", "k", "piece", "cuts", "pieces"] ["row", "x"] (defScope (top 41)) := ⟨rfl, rfl, rfl, by decide +kernel, rfl, by decide +kernel, by decide +kernel⟩
theorem ck_with_cut : chkSs ["row", "x", "k", "piece", "cuts", "pieces"] (defScope (top 41)) .df b_with_cut (defBody (top 41)) = true := by decide +kernel
theorem sc_cut_like : FnScope ["one", "other", "x"] ["one", "other"] (defScope (top 44)) := ⟨rfl, rfl, rfl, by decide +kernel, rfl, by decide +kernel, by decide +kernel⟩
theorem ck_cut_like : chkSs ["one", "other", "x"] (defScope (top 44)) .df b_cut_like (defBody (top 44)) = true := by decide +kernel
theorem sc_under_numbers : FnScope ["numbers", "low", "high", "found", "lower", "higher", "k", "part"] ["numbers", "low", "high"] (defScope (top 25)) := ⟨rfl, rfl, rfl, by decide +kernel, rfl, by decide +kernel, by decide +kernel⟩
theorem ck_under_numbers : chkSs ["numbers", "low", "high", "found", "lower", "higher", "k", "part"] (defScope (top 25)) .df b_under_numbers (defBody (top 25)) = true := by decide +kernel
theorem sc_under_product : FnScope ["one", "other", "low", "high"] ["one", "other", "low", "high"] (defScope (top 26)) := ⟨rfl, rfl, rfl, by decide +kernel, rfl, by decide +kernel, by decide +kernel⟩
theorem ck_under_product : chkSs ["one", "other", "low", "high"] (defScope (top 26)) .df b_under_product (defBody (top 26)) = true := by decide +kernel
theorem sc_bent_of : FnScope ["sort", "poly"] ["sort", "poly"] (defScope (top 47)) := ⟨rfl, rfl, rfl, by decide +kernel, rfl, by decide +kernel, by decide +kernel⟩
theorem ck_bent_of : chkSs ["sort", "poly"] (defScope (top 47)) .df b_bent_of (defBody (top 47)) = true := by decide +kernel
theorem sc_pairing_of : FnScope ["sort", "one", "other", "first", "second", "found", "k", "length", "part"] ["sort", "one", "other"] (defScope (top 48)) := ⟨rfl, rfl, rfl, by decide +kernel, rfl, by decide +kernel, by decide +kernel⟩
theorem ck_pairing_of : chkSs ["sort", "one", "other", "first", "second", "found", "k", "length", "part"] (defScope (top 48)) .df b_pairing_of (defBody (top 48)) = true := by decide +kernel
theorem sc_law : FnScope ["_law_script", "_law_feed_here", "_law_turn", "_law_cuts", "_law_row_here", "_law_other", "_law_around", "_law_spots", "_law_task", "_law_due", "_law_finer", "_law_cut", "_law_level", "_law_sort", "_law_is_round", "_law_spot"] ["_law_script"] (defScope (top 68)) := ⟨rfl, rfl, rfl, by decide +kernel, rfl, by decide +kernel, by decide +kernel⟩
theorem ck_law : chkSs ["_law_script", "_law_feed_here", "_law_turn", "_law_cuts", "_law_row_here", "_law_other", "_law_around", "_law_spots", "_law_task", "_law_due", "_law_finer", "_law_cut", "_law_level", "_law_sort", "_law_is_round", "_law_spot"] (defScope (top 68)) .df b_law (defBody (top 68)) = true := by decide +kernel
set_option maxHeartbeats 4000000
theorem facts {P : Program} {w : World} {K : FK} {h : Heap} {mg : MG} {f : Addr} (X : K.In h) (G : h.Ns mainGlobals mg) (hfa : mg ("law" : Str) = some (.ref f)) (c1 : SaysX fa fn cs ectA K) :
    ∃ fd : FuncData, (∀ (s : Shared) (v : Value), BindsTo s fd ⟨[v], []⟩ [("_law_script", v)]) ∧ ∀ base : Heap, K.In base → base.Ns mainGlobals mg → FOk P w K mg base 10 f fd ["_law_script"] (LSp K mg spLaw) := by
  have c := c1.1
  obtain ⟨fd__law_feed, F__law_feed⟩ := c.def_ 30 rfl
  obtain ⟨fd__law_draw, F__law_draw⟩ := c.def_ 31 rfl
  obtain ⟨fd__law_low, F__law_low⟩ := c.def_ 32 rfl
  obtain ⟨fd__law_plus, F__law_plus⟩ := c.def_ 33 rfl
  obtain ⟨fd__law_rise, F__law_rise⟩ := c.def_ 42 rfl
  obtain ⟨fd__law_number, F__law_number⟩ := c.def_ 41 rfl
  obtain ⟨fd__law_less, F__law_less⟩ := c.def_ 34 rfl
  obtain ⟨fd__law_over, F__law_over⟩ := c.def_ 36 rfl
  obtain ⟨fd__law_trim, F__law_trim⟩ := c.def_ 37 rfl
  obtain ⟨fd__law_times, F__law_times⟩ := c.def_ 35 rfl
  obtain ⟨fd__law_cubic, F__law_cubic⟩ := c.def_ 38 rfl
  obtain ⟨fd__law_row, F__law_row⟩ := c.def_ 43 rfl
  obtain ⟨fd__law_other_cuts, F__law_other_cuts⟩ := c.def_ 44 rfl
  obtain ⟨fd__law_bent_lines, F__law_bent_lines⟩ := c.def_ 45 rfl
  obtain ⟨fd__law_value, F__law_value⟩ := c.def_ 39 rfl
  obtain ⟨fd__law_slope, F__law_slope⟩ := c.def_ 40 rfl
  obtain ⟨fd__law_there, F__law_there⟩ := c.def_ 46 rfl
  obtain ⟨fd__law_sum, F__law_sum⟩ := c.def_ 47 rfl
  obtain ⟨fd_is_below, F_is_below⟩ := c.def_ 5 rfl
  obtain ⟨fd_is_outside, F_is_outside⟩ := c.def_ 16 rfl
  obtain ⟨fd_ask_place, F_ask_place⟩ := c.def_ 17 rfl
  obtain ⟨fd_common_of, F_common_of⟩ := c.def_ 0 rfl
  obtain ⟨fd_fraction_of, F_fraction_of⟩ := c.def_ 1 rfl
  obtain ⟨fd_plus_by, F_plus_by⟩ := c.def_ 2 rfl
  obtain ⟨fd_times_by, F_times_by⟩ := c.def_ 4 rfl
  obtain ⟨fd_value_of, F_value_of⟩ := c.def_ 11 rfl
  obtain ⟨fd_poly_of, F_poly_of⟩ := c.def_ 6 rfl
  obtain ⟨fd_slope_of, F_slope_of⟩ := c.def_ 12 rfl
  obtain ⟨fd_bends_by, F_bends_by⟩ := c.def_ 18 rfl
  obtain ⟨fd_minus_by, F_minus_by⟩ := c.def_ 3 rfl
  obtain ⟨fd_bends_at, F_bends_at⟩ := c.def_ 19 rfl
  obtain ⟨fd_bends_there, F_bends_there⟩ := c.def_ 21 rfl
  obtain ⟨fd_pull_of, F_pull_of⟩ := c.def_ 22 rfl
  obtain ⟨fd_pulls_of, F_pulls_of⟩ := c.def_ 23 rfl
  obtain ⟨fd_ask_stretch, F_ask_stretch⟩ := c.def_ 25 rfl
  obtain ⟨fd_smooth_at, F_smooth_at⟩ := c.def_ 20 rfl
  obtain ⟨fd_ask_smooth, F_ask_smooth⟩ := c.def_ 27 rfl
  obtain ⟨fd_poly_number, F_poly_number⟩ := c.def_ 7 rfl
  obtain ⟨fd_poly_sum, F_poly_sum⟩ := c.def_ 8 rfl
  obtain ⟨fd_product_numbers, F_product_numbers⟩ := c.def_ 9 rfl
  obtain ⟨fd_poly_times, F_poly_times⟩ := c.def_ 10 rfl
  obtain ⟨fd_moved_poly, F_moved_poly⟩ := c.def_ 13 rfl
  obtain ⟨fd_with_cut, F_with_cut⟩ := c.def_ 24 rfl
  obtain ⟨fd_cut_like, F_cut_like⟩ := c.def_ 26 rfl
  obtain ⟨fd_under_numbers, F_under_numbers⟩ := c.def_ 14 rfl
  obtain ⟨fd_under_product, F_under_product⟩ := c.def_ 15 rfl
  obtain ⟨fd_bent_of, F_bent_of⟩ := c.def_ 28 rfl
  obtain ⟨fd_pairing_of, F_pairing_of⟩ := c.def_ 29 rfl
  obtain ⟨fd_law, F_law⟩ := c.def_ 48 rfl
  have e := hfa.symm.trans (He.glo_ok X G (c.fact 0 (f := .glo "law") rfl))
  cases e
  have b := FunD.bindsA (ps := ["_law_script"]) F_law fun _ _ _ _ _ _ us hl => match us, hl with | [_], _ => rfl
  refine ⟨fd_law, fun s v => b s [v] rfl, fun base _ _ => ?_⟩
  have fr_isinstance : mg ("isinstance" : Str) = none := He.free_ok X G (c.fact 55 (f := .free "isinstance") rfl)
  have fr_ValueError : mg ("ValueError" : Str) = none := He.free_ok X G (c.fact 56 (f := .free "ValueError") rfl)
  have fr_abs : mg ("abs" : Str) = none := He.free_ok X G (c.fact 57 (f := .free "abs") rfl)
  have fr_list : mg ("list" : Str) = none := He.free_ok X G (c.fact 58 (f := .free "list") rfl)
  have fr_tuple : mg ("tuple" : Str) = none := He.free_ok X G (c.fact 59 (f := .free "tuple") rfl)
  have fr_len : mg ("len" : Str) = none := He.free_ok X G (c.fact 60 (f := .free "len") rfl)
  have fr_max : mg ("max" : Str) = none := He.free_ok X G (c.fact 61 (f := .free "max") rfl)
  have fr_range : mg ("range" : Str) = none := He.free_ok X G (c.fact 62 (f := .free "range") rfl)
  have fr_reversed : mg ("reversed" : Str) = none := He.free_ok X G (c.fact 63 (f := .free "reversed") rfl)
  have fr_zip : mg ("zip" : Str) = none := He.free_ok X G (c.fact 64 (f := .free "zip") rfl)
  have fr_int : mg ("int" : Str) = none := He.free_ok X G (c.fact 65 (f := .free "int") rfl)
  have fr_repr : mg ("repr" : Str) = none := He.free_ok X G (c.fact 66 (f := .free "repr") rfl)
  have g_NOUGHT : Global ⟨P, w, K, mg, base⟩ "NOUGHT" c_NOUGHT := mgB_ok (T := ⟨P, w, K, mg, base⟩) X G (c1.const 0 rfl)
  have g_ONE : Global ⟨P, w, K, mg, base⟩ "ONE" c_ONE := mgB_ok (T := ⟨P, w, K, mg, base⟩) X G (c1.const 1 rfl)
  have g_BENDS : Global ⟨P, w, K, mg, base⟩ "BENDS" c_BENDS := mgB_ok (T := ⟨P, w, K, mg, base⟩) X G (c1.const 2 rfl)
  have g_NO_BENDS : Global ⟨P, w, K, mg, base⟩ "NO_BENDS" c_NO_BENDS := mgB_ok (T := ⟨P, w, K, mg, base⟩) X G (c1.const 3 rfl)
  have g_NAUGHT : Global ⟨P, w, K, mg, base⟩ "NAUGHT" c_NAUGHT := mgB_ok (T := ⟨P, w, K, mg, base⟩) X G (c1.const 4 rfl)
  obtain ⟨baI, exA⟩ := c1.exc (by decide)
  have m_BendError : mg ("BendError" : Str) = some (.ref (He.ga K "BendError")) := He.glo_ok X G (c.fact 49 (f := .glo "BendError") rfl)
  have m_NoOver : mg ("NoOver" : Str) = some (.ref (He.ga K "NoOver")) := He.glo_ok X G (c.fact 50 (f := .glo "NoOver") rfl)
  have m_NoPlace : mg ("NoPlace" : Str) = some (.ref (He.ga K "NoPlace")) := He.glo_ok X G (c.fact 51 (f := .glo "NoPlace") rfl)
  have m_NoStretch : mg ("NoStretch" : Str) = some (.ref (He.ga K "NoStretch")) := He.glo_ok X G (c.fact 52 (f := .glo "NoStretch") rfl)
  have m_NoCut : mg ("NoCut" : Str) = some (.ref (He.ga K "NoCut")) := He.glo_ok X G (c.fact 53 (f := .glo "NoCut") rfl)
  have m_NoSmooth : mg ("NoSmooth" : Str) = some (.ref (He.ga K "NoSmooth")) := He.glo_ok X G (c.fact 54 (f := .glo "NoSmooth") rfl)
  have exT : ExT ⟨P, w, K, mg, base⟩ ect := by
    refine ⟨fr_isinstance, fr_ValueError, ?_⟩
    intro n hn
    have hx := exA n hn
    simp only [ect, List.mem_cons, List.not_mem_nil, or_false] at hn
    rcases hn with rfl | rfl | rfl | rfl | rfl | rfl
    · exact ⟨m_BendError, hx, by decide, by decide⟩
    · exact ⟨m_NoOver, hx, by decide, by decide⟩
    · exact ⟨m_NoPlace, hx, by decide, by decide⟩
    · exact ⟨m_NoStretch, hx, by decide, by decide⟩
    · exact ⟨m_NoCut, hx, by decide, by decide⟩
    · exact ⟨m_NoSmooth, hx, by decide, by decide⟩
  obtain ⟨fi_NoCut, FI_NoCut⟩ := c.def_ 50 (d := di "NoCut" 5 0) rfl
  have R_NoCut : ∀ {k : Nat}, 2 ≤ k → CanR ⟨P, w, K, mg, base⟩ k "NoCut" := fun h2 => canR1 (exA "NoCut" (by decide)) m_NoCut (by decide) FI_NoCut (N := ["self", "number"]) (ps := ["self", "number"]) ⟨rfl, rfl, rfl, by decide +kernel, rfl, by decide +kernel, by decide +kernel⟩ (by decide +kernel) (by decide) (FI_NoCut.bindsN fun _ _ _ _ _ _ us hl => match us, hl with | [_, _], _ => rfl) m_BendError baI h2
  obtain ⟨fi_NoPlace, FI_NoPlace⟩ := c.def_ 49 (d := di "NoPlace" 3 0) rfl
  have R_NoPlace : ∀ {k : Nat}, 2 ≤ k → CanR ⟨P, w, K, mg, base⟩ k "NoPlace" := fun h2 => canR1 (exA "NoPlace" (by decide)) m_NoPlace (by decide) FI_NoPlace (N := ["self", "place"]) (ps := ["self", "place"]) ⟨rfl, rfl, rfl, by decide +kernel, rfl, by decide +kernel, by decide +kernel⟩ (by decide +kernel) (by decide) (FI_NoPlace.bindsN fun _ _ _ _ _ _ us hl => match us, hl with | [_, _], _ => rfl) m_BendError baI h2
  obtain ⟨fi_NoSmooth, FI_NoSmooth⟩ := c.def_ 51 (d := di "NoSmooth" 6 0) rfl
  have R_NoSmooth : ∀ {k : Nat}, 2 ≤ k → CanR ⟨P, w, K, mg, base⟩ k "NoSmooth" := fun h2 => canR1 (exA "NoSmooth" (by decide)) m_NoSmooth (by decide) FI_NoSmooth (N := ["self", "number"]) (ps := ["self", "number"]) ⟨rfl, rfl, rfl, by decide +kernel, rfl, by decide +kernel, by decide +kernel⟩ (by decide +kernel) (by decide) (FI_NoSmooth.bindsN fun _ _ _ _ _ _ us hl => match us, hl with | [_, _], _ => rfl) m_BendError baI h2
  have R_NoStretch : ∀ {k : Nat}, 2 ≤ k → CanR ⟨P, w, K, mg, base⟩ k "NoStretch" := fun h2 => canR0 (exA "NoStretch" (by decide)) m_NoStretch (by decide) (by decide) h2
  have c__law_feed : Callee ⟨P, w, K, mg, base⟩ 1 "_law_feed" sp__law_feed := callee (k := 0) (He.glo_ok X G (c.fact 31 (f := .glo "_law_feed") rfl)) F__law_feed sc__law_feed ck__law_feed ⟨fr_list, trivial⟩ t_feed (F__law_feed.bindsN fun _ _ _ _ _ _ us hl => match us, hl with | [_], _ => rfl)
  have c__law_draw : Callee ⟨P, w, K, mg, base⟩ 1 "_law_draw" sp__law_draw := callee (k := 0) (He.glo_ok X G (c.fact 32 (f := .glo "_law_draw") rfl)) F__law_draw sc__law_draw ck__law_draw ⟨fr_len, fr_len, trivial⟩ t_draw (F__law_draw.bindsN fun _ _ _ _ _ _ us hl => match us, hl with | [_, _], _ => rfl)
  have c__law_low : Callee ⟨P, w, K, mg, base⟩ 1 "_law_low" sp__law_low := callee (k := 0) (He.glo_ok X G (c.fact 33 (f := .glo "_law_low") rfl)) F__law_low sc__law_low ck__law_low ⟨fr_abs, fr_abs, trivial⟩ t_low (F__law_low.bindsN fun _ _ _ _ _ _ us hl => match us, hl with | [_, _], _ => rfl)
  have c__law_plus : Callee ⟨P, w, K, mg, base⟩ 2 "_law_plus" sp__law_plus := callee (k := 1) (He.glo_ok X G (c.fact 34 (f := .glo "_law_plus") rfl)) F__law_plus sc__law_plus ck__law_plus ⟨(c__law_low.up (by decide)), trivial⟩ t_law_plus (F__law_plus.bindsN fun _ _ _ _ _ _ us hl => match us, hl with | [_, _], _ => rfl)
  have c__law_rise : Callee ⟨P, w, K, mg, base⟩ 3 "_law_rise" sp__law_rise := callee (k := 2) (He.glo_ok X G (c.fact 43 (f := .glo "_law_rise") rfl)) F__law_rise sc__law_rise ck__law_rise ⟨fr_range, (c__law_plus.up (by decide)), (c__law_low.up (by decide)), (c__law_draw.up (by decide)), (c__law_draw.up (by decide)), trivial⟩ t_law_rise (F__law_rise.bindsN fun _ _ _ _ _ _ us hl => match us, hl with | [_, _, _], _ => rfl)
  have c__law_number : Callee ⟨P, w, K, mg, base⟩ 2 "_law_number" sp__law_number := callee (k := 1) (He.glo_ok X G (c.fact 42 (f := .glo "_law_number") rfl)) F__law_number sc__law_number ck__law_number ⟨(c__law_low.up (by decide)), (c__law_draw.up (by decide)), (c__law_draw.up (by decide)), trivial⟩ t_law_number (F__law_number.bindsN fun _ _ _ _ _ _ us hl => match us, hl with | [_], _ => rfl)
  have c__law_less : Callee ⟨P, w, K, mg, base⟩ 2 "_law_less" sp__law_less := callee (k := 1) (He.glo_ok X G (c.fact 35 (f := .glo "_law_less") rfl)) F__law_less sc__law_less ck__law_less ⟨(c__law_low.up (by decide)), trivial⟩ t_law_less (F__law_less.bindsN fun _ _ _ _ _ _ us hl => match us, hl with | [_, _], _ => rfl)
  have c__law_over : Callee ⟨P, w, K, mg, base⟩ 2 "_law_over" sp__law_over := callee (k := 1) (He.glo_ok X G (c.fact 37 (f := .glo "_law_over") rfl)) F__law_over sc__law_over ck__law_over ⟨(c__law_low.up (by decide)), trivial⟩ t_law_over (F__law_over.bindsN fun _ _ _ _ _ _ us hl => match us, hl with | [_, _], _ => rfl)
  have c__law_trim : Callee ⟨P, w, K, mg, base⟩ 1 "_law_trim" sp__law_trim := callee (k := 0) (He.glo_ok X G (c.fact 38 (f := .glo "_law_trim") rfl)) F__law_trim sc__law_trim ck__law_trim ⟨fr_list, fr_tuple, trivial⟩ t_law_trim (F__law_trim.bindsN fun _ _ _ _ _ _ us hl => match us, hl with | [_], _ => rfl)
  have c__law_times : Callee ⟨P, w, K, mg, base⟩ 2 "_law_times" sp__law_times := callee (k := 1) (He.glo_ok X G (c.fact 36 (f := .glo "_law_times") rfl)) F__law_times sc__law_times ck__law_times ⟨(c__law_low.up (by decide)), trivial⟩ t_law_times (F__law_times.bindsN fun _ _ _ _ _ _ us hl => match us, hl with | [_, _], _ => rfl)
  have c__law_cubic : Callee ⟨P, w, K, mg, base⟩ 3 "_law_cubic" sp__law_cubic := callee (k := 2) (He.glo_ok X G (c.fact 39 (f := .glo "_law_cubic") rfl)) F__law_cubic sc__law_cubic ck__law_cubic ⟨(c__law_over.up (by decide)), (c__law_less.up (by decide)), (c__law_plus.up (by decide)), (c__law_less.up (by decide)), (c__law_times.up (by decide)), (c__law_plus.up (by decide)), (c__law_over.up (by decide)), (c__law_less.up (by decide)), (c__law_times.up (by decide)), (c__law_trim.up (by decide)), (c__law_over.up (by decide)), (c__law_over.up (by decide)), trivial⟩ t_law_cubic (F__law_cubic.bindsN fun _ _ _ _ _ _ us hl => match us, hl with | [_, _, _], _ => rfl)
  have c__law_row : Callee ⟨P, w, K, mg, base⟩ 4 "_law_row" sp__law_row := callee (k := 3) (He.glo_ok X G (c.fact 44 (f := .glo "_law_row") rfl)) F__law_row sc__law_row ck__law_row ⟨(c__law_number.up (by decide)), (c__law_number.up (by decide)), fr_range, fr_len, (c__law_less.up (by decide)), (c__law_over.up (by decide)), (c__law_less.up (by decide)), (c__law_trim.up (by decide)), (c__law_cubic.up (by decide)), fr_tuple, fr_tuple, trivial⟩ t_law_row (F__law_row.bindsN fun _ _ _ _ _ _ us hl => match us, hl with | [_, _, _, _], _ => rfl)
  have c__law_other_cuts : Callee ⟨P, w, K, mg, base⟩ 3 "_law_other_cuts" sp__law_other_cuts := callee (k := 2) (He.glo_ok X G (c.fact 45 (f := .glo "_law_other_cuts") rfl)) F__law_other_cuts sc__law_other_cuts ck__law_other_cuts ⟨(c__law_less.up (by decide)), (c__law_draw.up (by decide)), fr_range, (c__law_draw.up (by decide)), (c__law_plus.up (by decide)), (c__law_times.up (by decide)), (c__law_low.up (by decide)), trivial⟩ t_law_other_cuts (F__law_other_cuts.bindsN fun _ _ _ _ _ _ us hl => match us, hl with | [_, _], _ => rfl)
  have c__law_bent_lines : Callee ⟨P, w, K, mg, base⟩ 3 "_law_bent_lines" sp__law_bent_lines := callee (k := 2) (He.glo_ok X G (c.fact 46 (f := .glo "_law_bent_lines") rfl)) F__law_bent_lines sc__law_bent_lines ck__law_bent_lines ⟨fr_range, fr_len, (c__law_number.up (by decide)), (c__law_less.up (by decide)), fr_list, fr_len, (c__law_less.up (by decide)), (c__law_times.up (by decide)), (c__law_plus.up (by decide)), (c__law_trim.up (by decide)), fr_tuple, trivial⟩ t_law_bent_lines (F__law_bent_lines.bindsN fun _ _ _ _ _ _ us hl => match us, hl with | [_, _], _ => rfl)
  have c__law_value : Callee ⟨P, w, K, mg, base⟩ 3 "_law_value" sp__law_value := callee (k := 2) (He.glo_ok X G (c.fact 40 (f := .glo "_law_value") rfl)) F__law_value sc__law_value ck__law_value ⟨(c__law_plus.up (by decide)), (c__law_times.up (by decide)), trivial⟩ t_law_value (F__law_value.bindsN fun _ _ _ _ _ _ us hl => match us, hl with | [_, _], _ => rfl)
  have c__law_slope : Callee ⟨P, w, K, mg, base⟩ 3 "_law_slope" sp__law_slope := callee (k := 2) (He.glo_ok X G (c.fact 41 (f := .glo "_law_slope") rfl)) F__law_slope sc__law_slope ck__law_slope ⟨fr_tuple, (c__law_times.up (by decide)), fr_range, fr_len, trivial⟩ t_law_slope (F__law_slope.bindsN fun _ _ _ _ _ _ us hl => match us, hl with | [_], _ => rfl)
  have c__law_there : Callee ⟨P, w, K, mg, base⟩ 4 "_law_there" sp__law_there := callee (k := 3) (He.glo_ok X G (c.fact 47 (f := .glo "_law_there") rfl)) F__law_there sc__law_there ck__law_there ⟨fr_max, fr_range, fr_len, (c__law_less.up (by decide)), (c__law_less.up (by decide)), (c__law_value.up (by decide)), (c__law_value.up (by decide)), (c__law_slope.up (by decide)), trivial⟩ t_law_there (F__law_there.bindsN fun _ _ _ _ _ _ us hl => match us, hl with | [_, _], _ => rfl)
  have c__law_sum : Callee ⟨P, w, K, mg, base⟩ 5 "_law_sum" sp__law_sum := callee (k := 4) (He.glo_ok X G (c.fact 48 (f := .glo "_law_sum") rfl)) F__law_sum sc__law_sum ck__law_sum ⟨fr_zip, (c__law_there.up (by decide)), (c__law_plus.up (by decide)), (c__law_plus.up (by decide)), (c__law_times.up (by decide)), (c__law_times.up (by decide)), trivial⟩ t_law_sum (F__law_sum.bindsN fun _ _ _ _ _ _ us hl => match us, hl with | [_, _, _], _ => rfl)
  have c_is_below : Callee ⟨P, w, K, mg, base⟩ 1 "is_below" sp_is_below := callee (k := 0) (He.glo_ok X G (c.fact 6 (f := .glo "is_below") rfl)) F_is_below sc_is_below ck_is_below trivial t_is_below (F_is_below.bindsN fun _ _ _ _ _ _ us hl => match us, hl with | [_, _], _ => rfl)
  have c_is_outside : Callee ⟨P, w, K, mg, base⟩ 2 "is_outside" sp_is_outside := callee (k := 1) (He.glo_ok X G (c.fact 17 (f := .glo "is_outside") rfl)) F_is_outside sc_is_outside ck_is_outside ⟨(c_is_below.up (by decide)), (c_is_below.up (by decide)), trivial⟩ t_is_outside (F_is_outside.bindsN fun _ _ _ _ _ _ us hl => match us, hl with | [_, _], _ => rfl)
  have c_ask_place : Callee ⟨P, w, K, mg, base⟩ 3 "ask_place" sp_ask_place := callee (k := 2) (He.glo_ok X G (c.fact 18 (f := .glo "ask_place") rfl)) F_ask_place sc_ask_place ck_ask_place ⟨(c_is_outside.up (by decide)), R_NoPlace (by decide), trivial⟩ t_ask_place (F_ask_place.bindsN fun _ _ _ _ _ _ us hl => match us, hl with | [_, _], _ => rfl)
  have c_common_of : Callee ⟨P, w, K, mg, base⟩ 1 "common_of" sp_common_of := callee (k := 0) (He.glo_ok X G (c.fact 1 (f := .glo "common_of") rfl)) F_common_of sc_common_of ck_common_of ⟨fr_abs, fr_abs, trivial⟩ t_common_of (F_common_of.bindsN fun _ _ _ _ _ _ us hl => match us, hl with | [_, _], _ => rfl)
  have c_fraction_of : Callee ⟨P, w, K, mg, base⟩ 2 "fraction_of" sp_fraction_of := callee (k := 1) (He.glo_ok X G (c.fact 2 (f := .glo "fraction_of") rfl)) F_fraction_of sc_fraction_of ck_fraction_of ⟨(c_common_of.up (by decide)), trivial⟩ t_fraction_of (F_fraction_of.bindsN fun _ _ _ _ _ _ us hl => match us, hl with | [_, _], _ => rfl)
  have c_plus_by : Callee ⟨P, w, K, mg, base⟩ 3 "plus_by" sp_plus_by := callee (k := 2) (He.glo_ok X G (c.fact 3 (f := .glo "plus_by") rfl)) F_plus_by sc_plus_by ck_plus_by ⟨(c_fraction_of.up (by decide)), trivial⟩ t_plus_by (F_plus_by.bindsN fun _ _ _ _ _ _ us hl => match us, hl with | [_, _], _ => rfl)
  have c_times_by : Callee ⟨P, w, K, mg, base⟩ 3 "times_by" sp_times_by := callee (k := 2) (He.glo_ok X G (c.fact 5 (f := .glo "times_by") rfl)) F_times_by sc_times_by ck_times_by ⟨(c_fraction_of.up (by decide)), trivial⟩ t_times_by (F_times_by.bindsN fun _ _ _ _ _ _ us hl => match us, hl with | [_, _], _ => rfl)
  have c_value_of : Callee ⟨P, w, K, mg, base⟩ 4 "value_of" sp_value_of := callee (k := 3) (He.glo_ok X G (c.fact 12 (f := .glo "value_of") rfl)) F_value_of sc_value_of ck_value_of ⟨g_NOUGHT, fr_reversed, (c_plus_by.up (by decide)), (c_times_by.up (by decide)), trivial⟩ t_value_of (F_value_of.bindsN fun _ _ _ _ _ _ us hl => match us, hl with | [_, _], _ => rfl)
  have c_poly_of : Callee ⟨P, w, K, mg, base⟩ 1 "poly_of" sp_poly_of := callee (k := 0) (He.glo_ok X G (c.fact 7 (f := .glo "poly_of") rfl)) F_poly_of sc_poly_of ck_poly_of ⟨fr_list, g_NOUGHT, fr_tuple, trivial⟩ t_poly_of (F_poly_of.bindsN fun _ _ _ _ _ _ us hl => match us, hl with | [_], _ => rfl)
  have c_slope_of : Callee ⟨P, w, K, mg, base⟩ 4 "slope_of" sp_slope_of := callee (k := 3) (He.glo_ok X G (c.fact 13 (f := .glo "slope_of") rfl)) F_slope_of sc_slope_of ck_slope_of ⟨(c_poly_of.up (by decide)), (c_times_by.up (by decide)), fr_range, fr_len, trivial⟩ t_slope_of (F_slope_of.bindsN fun _ _ _ _ _ _ us hl => match us, hl with | [_], _ => rfl)
  have c_bends_by : Callee ⟨P, w, K, mg, base⟩ 5 "bends_by" sp_bends_by := callee (k := 4) (He.glo_ok X G (c.fact 19 (f := .glo "bends_by") rfl)) F_bends_by sc_bends_by ck_bends_by ⟨fr_range, g_BENDS, (c_value_of.up (by decide)), (c_slope_of.up (by decide)), fr_tuple, trivial⟩ t_bends_by (F_bends_by.bindsN fun _ _ _ _ _ _ us hl => match us, hl with | [_, _], _ => rfl)
  have c_minus_by : Callee ⟨P, w, K, mg, base⟩ 3 "minus_by" sp_minus_by := callee (k := 2) (He.glo_ok X G (c.fact 4 (f := .glo "minus_by") rfl)) F_minus_by sc_minus_by ck_minus_by ⟨(c_fraction_of.up (by decide)), trivial⟩ t_minus_by (F_minus_by.bindsN fun _ _ _ _ _ _ us hl => match us, hl with | [_, _], _ => rfl)
  have c_bends_at : Callee ⟨P, w, K, mg, base⟩ 6 "bends_at" sp_bends_at := callee (k := 5) (He.glo_ok X G (c.fact 20 (f := .glo "bends_at") rfl)) F_bends_at sc_bends_at ck_bends_at ⟨(c_ask_place.up (by decide)), fr_range, fr_len, (c_is_below.up (by decide)), (c_is_below.up (by decide)), (c_bends_by.up (by decide)), (c_minus_by.up (by decide)), (c_is_below.up (by decide)), (c_is_below.up (by decide)), (c_bends_by.up (by decide)), (c_minus_by.up (by decide)), trivial⟩ t_bends_at (F_bends_at.bindsN fun _ _ _ _ _ _ us hl => match us, hl with | [_, _], _ => rfl)
  have c_bends_there : Callee ⟨P, w, K, mg, base⟩ 7 "bends_there" sp_bends_there := callee (k := 6) (He.glo_ok X G (c.fact 22 (f := .glo "bends_there") rfl)) F_bends_there sc_bends_there ck_bends_there ⟨(c_bends_at.up (by decide)), (c_bends_at.up (by decide)), g_NO_BENDS, g_NO_BENDS, trivial⟩ t_bends_there (F_bends_there.bindsN fun _ _ _ _ _ _ us hl => match us, hl with | [_, _, _], _ => rfl)
  have c_pull_of : Callee ⟨P, w, K, mg, base⟩ 8 "pull_of" sp_pull_of := callee (k := 7) (He.glo_ok X G (c.fact 23 (f := .glo "pull_of") rfl)) F_pull_of sc_pull_of ck_pull_of ⟨(c_bends_there.up (by decide)), (c_minus_by.up (by decide)), g_NAUGHT, (c_minus_by.up (by decide)), (c_minus_by.up (by decide)), trivial⟩ t_pull_of (F_pull_of.bindsN fun _ _ _ _ _ _ us hl => match us, hl with | [_, _, _], _ => rfl)
  have c_pulls_of : Callee ⟨P, w, K, mg, base⟩ 9 "pulls_of" sp_pulls_of := callee (k := 8) (He.glo_ok X G (c.fact 24 (f := .glo "pulls_of") rfl)) F_pulls_of sc_pulls_of ck_pulls_of ⟨fr_tuple, (c_pull_of.up (by decide)), fr_range, fr_len, trivial⟩ t_pulls_of (F_pulls_of.bindsN fun _ _ _ _ _ _ us hl => match us, hl with | [_, _], _ => rfl)
  have c_ask_stretch : Callee ⟨P, w, K, mg, base⟩ 3 "ask_stretch" sp_ask_stretch := callee (k := 2) (He.glo_ok X G (c.fact 26 (f := .glo "ask_stretch") rfl)) F_ask_stretch sc_ask_stretch ck_ask_stretch ⟨R_NoStretch (by decide), trivial⟩ t_ask_stretch (F_ask_stretch.bindsN fun _ _ _ _ _ _ us hl => match us, hl with | [_, _], _ => rfl)
  have c_smooth_at : Callee ⟨P, w, K, mg, base⟩ 7 "smooth_at" sp_smooth_at := callee (k := 6) (He.glo_ok X G (c.fact 21 (f := .glo "smooth_at") rfl)) F_smooth_at sc_smooth_at ck_smooth_at ⟨fr_len, R_NoCut (by decide), (c_bends_at.up (by decide)), trivial⟩ t_smooth_at (F_smooth_at.bindsN fun _ _ _ _ _ _ us hl => match us, hl with | [_, _], _ => rfl)
  have c_ask_smooth : Callee ⟨P, w, K, mg, base⟩ 8 "ask_smooth" sp_ask_smooth := callee (k := 7) (He.glo_ok X G (c.fact 28 (f := .glo "ask_smooth") rfl)) F_ask_smooth sc_ask_smooth ck_ask_smooth ⟨fr_range, fr_len, (c_smooth_at.up (by decide)), R_NoSmooth (by decide), trivial⟩ t_ask_smooth (F_ask_smooth.bindsN fun _ _ _ _ _ _ us hl => match us, hl with | [_], _ => rfl)
  have c_poly_number : Callee ⟨P, w, K, mg, base⟩ 1 "poly_number" sp_poly_number := callee (k := 0) (He.glo_ok X G (c.fact 8 (f := .glo "poly_number") rfl)) F_poly_number sc_poly_number ck_poly_number ⟨fr_len, g_NOUGHT, trivial⟩ t_poly_number (F_poly_number.bindsN fun _ _ _ _ _ _ us hl => match us, hl with | [_, _], _ => rfl)
  have c_poly_sum : Callee ⟨P, w, K, mg, base⟩ 4 "poly_sum" sp_poly_sum := callee (k := 3) (He.glo_ok X G (c.fact 9 (f := .glo "poly_sum") rfl)) F_poly_sum sc_poly_sum ck_poly_sum ⟨fr_max, fr_len, fr_len, (c_poly_of.up (by decide)), (c_plus_by.up (by decide)), (c_poly_number.up (by decide)), (c_poly_number.up (by decide)), fr_range, trivial⟩ t_poly_sum (F_poly_sum.bindsN fun _ _ _ _ _ _ us hl => match us, hl with | [_, _], _ => rfl)
  have c_product_numbers : Callee ⟨P, w, K, mg, base⟩ 4 "product_numbers" sp_product_numbers := callee (k := 3) (He.glo_ok X G (c.fact 10 (f := .glo "product_numbers") rfl)) F_product_numbers sc_product_numbers ck_product_numbers ⟨g_NOUGHT, fr_len, fr_len, fr_range, fr_len, fr_range, fr_len, (c_plus_by.up (by decide)), (c_times_by.up (by decide)), trivial⟩ t_product_numbers (F_product_numbers.bindsN fun _ _ _ _ _ _ us hl => match us, hl with | [_, _], _ => rfl)
  have c_poly_times : Callee ⟨P, w, K, mg, base⟩ 5 "poly_times" sp_poly_times := callee (k := 4) (He.glo_ok X G (c.fact 11 (f := .glo "poly_times") rfl)) F_poly_times sc_poly_times ck_poly_times ⟨(c_poly_of.up (by decide)), (c_product_numbers.up (by decide)), trivial⟩ t_poly_times (F_poly_times.bindsN fun _ _ _ _ _ _ us hl => match us, hl with | [_, _], _ => rfl)
  have c_moved_poly : Callee ⟨P, w, K, mg, base⟩ 6 "moved_poly" sp_moved_poly := callee (k := 5) (He.glo_ok X G (c.fact 14 (f := .glo "moved_poly") rfl)) F_moved_poly sc_moved_poly ck_moved_poly ⟨(c_poly_of.up (by decide)), g_ONE, fr_reversed, (c_poly_sum.up (by decide)), (c_poly_times.up (by decide)), (c_poly_of.up (by decide)), trivial⟩ t_moved_poly (F_moved_poly.bindsN fun _ _ _ _ _ _ us hl => match us, hl with | [_, _], _ => rfl)
  have c_with_cut : Callee ⟨P, w, K, mg, base⟩ 7 "with_cut" sp_with_cut := callee (k := 6) (He.glo_ok X G (c.fact 25 (f := .glo "with_cut") rfl)) F_with_cut sc_with_cut ck_with_cut ⟨(c_ask_place.up (by decide)), (c_is_below.up (by decide)), (c_moved_poly.up (by decide)), (c_minus_by.up (by decide)), trivial⟩ t_with_cut (F_with_cut.bindsN fun _ _ _ _ _ _ us hl => match us, hl with | [_, _], _ => rfl)
  have c_cut_like : Callee ⟨P, w, K, mg, base⟩ 8 "cut_like" sp_cut_like := callee (k := 7) (He.glo_ok X G (c.fact 27 (f := .glo "cut_like") rfl)) F_cut_like sc_cut_like ck_cut_like ⟨(c_with_cut.up (by decide)), trivial⟩ t_cut_like (F_cut_like.bindsN fun _ _ _ _ _ _ us hl => match us, hl with | [_, _], _ => rfl)
  have c_under_numbers : Callee ⟨P, w, K, mg, base⟩ 4 "under_numbers" sp_under_numbers := callee (k := 3) (He.glo_ok X G (c.fact 15 (f := .glo "under_numbers") rfl)) F_under_numbers sc_under_numbers ck_under_numbers ⟨g_NOUGHT, fr_range, fr_len, (c_times_by.up (by decide)), (c_minus_by.up (by decide)), (c_fraction_of.up (by decide)), (c_plus_by.up (by decide)), (c_times_by.up (by decide)), (c_times_by.up (by decide)), (c_times_by.up (by decide)), trivial⟩ t_under_numbers (F_under_numbers.bindsN fun _ _ _ _ _ _ us hl => match us, hl with | [_, _, _], _ => rfl)
  have c_under_product : Callee ⟨P, w, K, mg, base⟩ 5 "under_product" sp_under_product := callee (k := 4) (He.glo_ok X G (c.fact 16 (f := .glo "under_product") rfl)) F_under_product sc_under_product ck_under_product ⟨(c_under_numbers.up (by decide)), (c_product_numbers.up (by decide)), trivial⟩ t_under_product (F_under_product.bindsN fun _ _ _ _ _ _ us hl => match us, hl with | [_, _, _, _], _ => rfl)
  have c_bent_of : Callee ⟨P, w, K, mg, base⟩ 5 "bent_of" sp_bent_of := callee (k := 4) (He.glo_ok X G (c.fact 29 (f := .glo "bent_of") rfl)) F_bent_of sc_bent_of ck_bent_of ⟨(c_slope_of.up (by decide)), (c_slope_of.up (by decide)), (c_slope_of.up (by decide)), trivial⟩ t_bent_of (F_bent_of.bindsN fun _ _ _ _ _ _ us hl => match us, hl with | [_, _], _ => rfl)
  have c_pairing_of : Callee ⟨P, w, K, mg, base⟩ 9 "pairing_of" sp_pairing_of := callee (k := 8) (He.glo_ok X G (c.fact 30 (f := .glo "pairing_of") rfl)) F_pairing_of sc_pairing_of ck_pairing_of ⟨(c_ask_stretch.up (by decide)), (c_ask_smooth.up (by decide)), (c_ask_smooth.up (by decide)), (c_cut_like.up (by decide)), (c_cut_like.up (by decide)), g_NOUGHT, fr_range, fr_len, (c_minus_by.up (by decide)), (c_under_product.up (by decide)), (c_bent_of.up (by decide)), (c_bent_of.up (by decide)), g_NOUGHT, (c_plus_by.up (by decide)), trivial⟩ t_pairing_of (F_pairing_of.bindsN fun _ _ _ _ _ _ us hl => match us, hl with | [_, _, _], _ => rfl)
  exact callee_F (k := 9) F_law sc_law ck_law ⟨(c__law_feed.up (by decide)), fr_range, (c__law_draw.up (by decide)), (c__law_draw.up (by decide)), (c__law_rise.up (by decide)), (c__law_number.up (by decide)), (c__law_draw.up (by decide)), fr_int, (c__law_row.up (by decide)), (c__law_row.up (by decide)), (c__law_other_cuts.up (by decide)), (c__law_draw.up (by decide)), (c__law_bent_lines.up (by decide)), (c__law_less.up (by decide)), fr_tuple, fr_repr, (c__law_sum.up (by decide)), (c_pulls_of.up (by decide)), fr_repr, (c_pairing_of.up (by decide)), fr_repr, (c_pairing_of.up (by decide)), (c_with_cut.up (by decide)), fr_repr, (c_pairing_of.up (by decide)), (c__law_number.up (by decide)), fr_repr, (c_pairing_of.up (by decide)), fr_repr, trivial⟩ t_law
end GB
open PySem PySem.W PySem.Calls PyProof.Rows
theorem PySem.Challenge.cw_gentlebends_k24_whole_pulls_are_pairings_holds : PySem.Challenge.rw_gentlebends_k24_whole_pulls_are_pairings.Holds := by
  w_on; o_law
  refine HandSHeadRun.head_any (r := OpenLaw.row PySem.Challenge.rw_gentlebends_k24_whole_pulls_are_pairings) (q := view (OpenLaw.row PySem.Challenge.rw_gentlebends_k24_whole_pulls_are_pairings).prog [68]) (H := GH.hk) (ob := GH.ob) (M := 20000) (loose := ((["__name__", "BendError", "NoOver", "NoPlace", "NoStretch", "NoCut", "NoSmooth", "NOUGHT", "ONE", "common_of", "fraction_of", "plus_by", "minus_by", "times_by", "is_below", "poly_of", "poly_number", "poly_sum", "product_numbers", "poly_times"] : List PySem.Str) ++ (["value_of", "slope_of", "moved_poly", "under_numbers", "under_product", "BENDS", "is_outside", "ask_place", "bends_by", "bends_at", "smooth_at", "NAUGHT", "NO_BENDS", "bends_there", "pull_of", "pulls_of", "with_cut", "ask_stretch", "cut_like", "ask_smooth"] : List PySem.Str) ++ (["bent_of", "pairing_of", "_law_feed", "_law_draw", "_law_low", "_law_plus", "_law_less", "_law_times", "_law_over", "_law_trim", "_law_cubic", "_law_value", "_law_slope", "_law_number", "_law_rise", "_law_row", "_law_other_cuts", "_law_bent_lines", "_law_there", "_law_sum"] : List PySem.Str))) (d := HandSHeadRun.topDef (OpenLaw.row PySem.Challenge.rw_gentlebends_k24_whole_pulls_are_pairings).prog 68) (kwd := []) GH.ob_eq
    (by kernel_rfl) (fun s => by kernel_rfl) GH.run (by kernel_rfl) (by kernel_rfl) (by kernel_rfl) (by rfl) (by first | assumption | decide +kernel) (by decide +kernel) ⟨rfl, rfl, rfl, rfl, rfl, by decide +kernel⟩ ?hw ?hc
  case hw => w_witness2
  case hc =>
    refine GB.walk_G (l := PySem.Challenge.rw_gentlebends_k24_whole_pulls_are_pairings) (n := 63) (k := 10) (x := "_law_script") rfl (by decide) (by kernel_rfl) ⟨rfl, by decide, by decide⟩ ?F
    intro w mg fa h Y G hmg0
    obtain ⟨K, KX, c⟩ := Y
    have hmg : mg ("law" : PySem.Str) = some (.ref fa) := by
      have e : (HandSHeadRun.topDef (OpenLaw.row PySem.Challenge.rw_gentlebends_k24_whole_pulls_are_pairings).prog 68).name = ("law" : PySem.Str) := by kernel_rfl
      rw [← e]
      exact hmg0
    obtain ⟨fd, hb, hF⟩ := GB.facts (P := (PySem.Challenge.rw_gentlebends_k24_whole_pulls_are_pairings).prog) (w := w) KX G hmg c
    exact ⟨K, fd, GB.spLaw, KX, hb, fun ns hl => ⟨ns, rfl, hl, fun _ => rfl⟩, hF⟩
