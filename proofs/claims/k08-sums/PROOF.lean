import PyProof.Rows.All
import Wide.All
import OpenK.AllK
import Wide.FinOn
import KE.KStateDown
import Lean
import HandS.ForMost
import HandS.ForExc
import HandS.TupAny
import HandS.TupMul
import HandS.Defaults
import HandS.Wide
import HandS.WideBits
import HandS.IsInst
import HandS.Deep
import HandS.Style
import HandS.Head0
import HandS.Head1
import HandS.Head2
import HandS.HeadEnd
import HandS.HeadHook1
import HandS.HeadHook2
import HandS.RaiseMore
import HandS.Flow
import HandS.Rev
import HandS.RevRange
import HandS.Zip
import PySem.Challenge.RW_gentlebends_k08_sums_beneath_polynomials
set_option Elab.async false
set_option linter.all false
set_option maxRecDepth 100000
set_option maxHeartbeats 8000000
set_option exponentiation.threshold 20000
/-! GB1: pure data over the abstract heap; lifted readings. -/
namespace GB
open PySem PySem.Spec PyProof.Rows L2

/-- pure data: tuples are trees; lst: a list that nobody changes any more; ref: a list or dict that lives in the store -/
inductive D where
  | non
  | bl (b : Bool)
  | int (i : Int)
  | str (x : Str)
  | tup (xs : List D)
  | lst (xs : List D)
  | rls (xs : List D)
  | dct (kvs : List (Key × D))
  | ref (a : Addr)
  deriving Inhabited

inductive Cell where
  | lst (xs : List D)
  | dct (kvs : List (Key × D))

abbrev Sto := Addr → Option Cell
abbrev Dts := List (Option D)
abbrev FK := PySem.W.Frag
abbrev VS := L2.St

mutual
inductive Rep (K : FK) (F : Hp) : D → V → Prop
  | non : Rep K F .non .non
  | bl (b : Bool) : Rep K F (.bl b) (.bl b)
  | int (i : Int) : Rep K F (.int i) (.int i)
  | str (x : Str) : Rep K F (.str x) (.str x)
  | ref (a : Addr) : Rep K F (.ref a) (.ref a)
  | tup {p : Addr} {vs : List V} {ds : List D} : SqT K F p vs → RepL K F ds vs → Rep K F (.tup ds) (.ref p)
  | lst {p : Addr} {vs : List V} {ds : List D} : F p = some (.lst vs) → RepL K F ds vs → Rep K F (.lst ds) (.ref p)
  | rls {p : Addr} {vs : List V} {ds : List D} : SqL K F p vs → RepL K F ds vs → Rep K F (.rls ds) (.ref p)
  | dct {p : Addr} {kvs : List (Key × V)} {dvs : List (Key × D)} : F p = some (.dK kvs) → RepK K F dvs kvs → Rep K F (.dct dvs) (.ref p)
inductive RepL (K : FK) (F : Hp) : List D → List V → Prop
  | nil : RepL K F [] []
  | cons {d : D} {v : V} {ds : List D} {vs : List V} : Rep K F d v → RepL K F ds vs → RepL K F (d :: ds) (v :: vs)
inductive RepK (K : FK) (F : Hp) : List (Key × D) → List (Key × V) → Prop
  | nil : RepK K F [] []
  | cons {k : Key} {d : D} {v : V} {ds : List (Key × D)} {vs : List (Key × V)} : Rep K F d v → RepK K F ds vs → RepK K F ((k, d) :: ds) ((k, v) :: vs)
end

theorem sqT_mono {K : FK} {F G : Hp} {a : Addr} {xs : List V} (e : Same F G) (h : SqT K F a xs) : SqT K G a xs := by
  rcases h with (q | ⟨o, q⟩) | q
  · exact .inl (.inl (e _ _ q))
  · exact .inl (.inr ⟨o, e _ _ q⟩)
  · exact .inr q
mutual
theorem Rep.mono {K : FK} {F G : Hp} (e : Same F G) : ∀ {d : D} {v : V}, Rep K F d v → Rep K G d v
  | _, _, .non => .non
  | _, _, .bl b => .bl b
  | _, _, .int b => .int b
  | _, _, .str b => .str b
  | _, _, .ref b => .ref b
  | _, _, .tup h t => .tup (sqT_mono e h) (RepL.mono e t)
  | _, _, .lst h t => .lst (e _ _ h) (RepL.mono e t)
  | _, _, .rls h t => .rls (e.seq h) (RepL.mono e t)
  | _, _, .dct h t => .dct (e _ _ h) (RepK.mono e t)
theorem RepL.mono {K : FK} {F G : Hp} (e : Same F G) : ∀ {d : List D} {v : List V}, RepL K F d v → RepL K G d v
  | _, _, .nil => .nil
  | _, _, .cons h t => .cons (Rep.mono e h) (RepL.mono e t)
theorem RepK.mono {K : FK} {F G : Hp} (e : Same F G) : ∀ {d : List (Key × D)} {v : List (Key × V)}, RepK K F d v → RepK K G d v
  | _, _, .nil => .nil
  | _, _, .cons h t => .cons (Rep.mono e h) (RepK.mono e t)
end

/-! ### lists of data -/
section
variable {K : FK} {F : Hp}
theorem RepL.length : ∀ {ds : List D} {vs : List V}, RepL K F ds vs → ds.length = vs.length
  | _, _, .nil => rfl
  | _, _, .cons _ t => by rw [List.length_cons, List.length_cons, RepL.length t]
theorem RepL.app : ∀ {ds es : List D} {vs us : List V}, RepL K F ds vs → RepL K F es us → RepL K F (ds ++ es) (vs ++ us)
  | _, _, _, _, .nil, h => h
  | _, _, _, _, .cons r t, h => .cons r (RepL.app t h)
theorem RepL.get : ∀ {ds : List D} {vs : List V} {i : Nat} {d : D}, RepL K F ds vs → ds[i]? = some d → ∃ v, vs[i]? = some v ∧ Rep K F d v
  | _, _, i, _, .nil, e => by simp at e
  | _, _, 0, _, .cons r t, e => by simp at e; subst e; exact ⟨_, rfl, r⟩
  | _, _, i + 1, _, .cons r t, e => by
    obtain ⟨v, h1, h2⟩ := RepL.get (i := i) t (by simpa using e)
    exact ⟨v, by simpa using h1, h2⟩
theorem RepL.get' : ∀ {ds : List D} {vs : List V} {i : Nat} {v : V}, RepL K F ds vs → vs[i]? = some v → ∃ d, ds[i]? = some d ∧ Rep K F d v
  | _, _, i, _, .nil, e => by simp at e
  | _, _, 0, _, .cons r t, e => by simp at e; subst e; exact ⟨_, rfl, r⟩
  | _, _, i + 1, _, .cons r t, e => by
    obtain ⟨v, h1, h2⟩ := RepL.get' (i := i) t (by simpa using e)
    exact ⟨v, by simpa using h1, h2⟩
theorem RepL.drop : ∀ {ds : List D} {vs : List V} (n : Nat), RepL K F ds vs → RepL K F (ds.drop n) (vs.drop n)
  | _, _, 0, h => h
  | _, _, _ + 1, .nil => .nil
  | _, _, n + 1, .cons _ t => RepL.drop n t
theorem RepL.take : ∀ {ds : List D} {vs : List V} (n : Nat), RepL K F ds vs → RepL K F (ds.take n) (vs.take n)
  | _, _, 0, _ => .nil
  | _, _, _ + 1, .nil => .nil
  | _, _, n + 1, .cons r t => .cons r (RepL.take n t)
theorem RepL.rev : ∀ {ds : List D} {vs : List V}, RepL K F ds vs → RepL K F ds.reverse vs.reverse
  | _, _, .nil => .nil
  | _, _, .cons r t => by
    rw [List.reverse_cons, List.reverse_cons]
    exact RepL.app (RepL.rev t) (.cons r .nil)
theorem RepL.set {d : D} {v : V} (r : Rep K F d v) : ∀ {ds : List D} {vs : List V} (n : Nat), RepL K F ds vs → RepL K F (ds.set n d) (vs.set n v)
  | _, _, _, .nil => .nil
  | _, _, 0, .cons _ t => .cons r t
  | _, _, n + 1, .cons q t => .cons q (RepL.set r n t)
theorem RepL.dropLast : ∀ {ds : List D} {vs : List V}, RepL K F ds vs → RepL K F ds.dropLast vs.dropLast
  | _, _, .nil => .nil
  | _, _, .cons r .nil => .nil
  | _, _, .cons r (.cons q t) => .cons r (RepL.dropLast (.cons q t))
theorem RepL.erase : ∀ {ds : List D} {vs : List V} (n : Nat), RepL K F ds vs → RepL K F (ds.eraseIdx n) (vs.eraseIdx n)
  | _, _, _, .nil => .nil
  | _, _, 0, .cons _ t => t
  | _, _, n + 1, .cons q t => .cons q (RepL.erase n t)
theorem RepL.rep {ds : List D} {vs : List V} (h : RepL K F ds vs) : ∀ n : Nat, RepL K F (List.replicate n ds).flatten (List.replicate n vs).flatten
  | 0 => .nil
  | n + 1 => by
    rw [List.replicate_succ, List.replicate_succ, List.flatten_cons, List.flatten_cons]
    exact RepL.app h (RepL.rep h n)
theorem RepL.atI {ds : List D} {vs : List V} {i : Int} {d : D} (h : RepL K F ds vs) (e : L2.atI ds i = some d) : ∃ v, L2.atI vs i = some v ∧ Rep K F d v := by
  unfold L2.atI at e ⊢
  rw [h.length] at e
  cases q : ixN vs.length i with
  | none => rw [q] at e; cases e
  | some j => rw [q] at e; exact h.get e
theorem RepL.ints : ∀ (ns : List Int), RepL K F (ns.map D.int) (ns.map V.int)
  | [] => .nil
  | n :: ns => .cons (.int n) (RepL.ints ns)
end

/-! ### the store against the heap -/
def CRep (K : FK) (F : Hp) : Cell → HO → Prop
  | .lst ds, .lst vs => RepL K F ds vs
  | .dct ds, .dK vs => RepK K F ds vs
  | _, _ => False
theorem CRep.mono {K : FK} {F G : Hp} (e : Same F G) {c : Cell} {o : HO} (h : CRep K F c o) : CRep K G c o := by
  cases c <;> cases o <;> first
    | exact False.elim h
    | exact RepL.mono e h
    | exact RepK.mono e h
theorem CRep.lst {K : FK} {F : Hp} {ds : List D} {o : HO} (h : CRep K F (.lst ds) o) : ∃ vs, o = .lst vs ∧ RepL K F ds vs := by
  cases o <;> first
    | exact False.elim h
    | exact ⟨_, rfl, h⟩
theorem CRep.dct {K : FK} {F : Hp} {ds : List (Key × D)} {o : HO} (h : CRep K F (.dct ds) o) : ∃ vs, o = .dK vs ∧ RepK K F ds vs := by
  cases o <;> first
    | exact False.elim h
    | exact ⟨_, rfl, h⟩

/-- Z: hidden (a list that is being made) -/
structure RelH (K : FK) (Z F : Hp) (S : Sto) (H : Hp) : Prop where
  fz : Same F H
  hid : ∀ p o, Z p = some o → F p = none ∧ S p = none ∧ H p = some o
  st : ∀ p c, S p = some c → F p = none ∧ ∃ o, H p = some o ∧ CRep K F c o
structure RelS (K : FK) (F : Hp) (δ : Dts) (σ : VS) : Prop where
  len : δ.length = σ.length
  at_ : ∀ (i : Nat) (d : D), δ[i]? = some (some d) → ∃ v, σ[i]? = some (some v) ∧ Rep K F d v
theorem RelS.mono {K : FK} {F G : Hp} {δ : Dts} {σ : VS} (h : RelS K F δ σ) (e : Same F G) : RelS K G δ σ :=
  ⟨h.len, fun i d q => let ⟨v, a, b⟩ := h.at_ i d q; ⟨v, a, b.mono e⟩⟩
theorem RelS.set {K : FK} {F : Hp} {δ : Dts} {σ : VS} {d : D} {v : V} (h : RelS K F δ σ) (r : Rep K F d v) (i : Nat) : RelS K F (δ.set i (some d)) (σ.set i (some v)) := by
  refine ⟨by rw [List.length_set, List.length_set, h.len], fun j e q => ?_⟩
  by_cases hj : i = j
  · subst hj
    by_cases hl : i < δ.length
    · rw [List.getElem?_set_self hl] at q
      cases q
      exact ⟨v, List.getElem?_set_self (by rw [← h.len]; exact hl), r⟩
    · rw [List.getElem?_eq_none (by rw [List.length_set]; omega)] at q
      cases q
  · rw [List.getElem?_set_ne hj] at q ⊢
    exact h.at_ j e q
/-- forgetting slots -/
theorem RelS.wipe {K : FK} {F : Hp} {δ : Dts} {σ : VS} (h : RelS K F δ σ) (i : Nat) : RelS K F (δ.set i none) (σ.set i none) := by
  refine ⟨by rw [List.length_set, List.length_set, h.len], fun j e q => ?_⟩
  by_cases hj : i = j
  · subst hj
    by_cases hl : i < δ.length
    · rw [List.getElem?_set_self hl] at q
      cases q
    · rw [List.getElem?_eq_none (by rw [List.length_set]; omega)] at q
      cases q
  · rw [List.getElem?_set_ne hj] at q ⊢
    exact h.at_ j e q

def supd (S : Sto) (p : Addr) (c : Cell) : Sto := fun q => if q = p then some c else S q
def sdel (S : Sto) (p : Addr) : Sto := fun q => if q = p then none else S q
@[simp] theorem supd_same {S : Sto} {p : Addr} {c : Cell} : supd S p c p = some c := if_pos rfl
theorem supd_ne {S : Sto} {p q : Addr} {c : Cell} (h : q ≠ p) : supd S p c q = S q := if_neg h
theorem sdel_ne {S : Sto} {p q : Addr} (h : q ≠ p) : sdel S p q = S q := if_neg h

section
variable {K : FK} {Z F : Hp} {S : Sto} {H : Hp}
theorem RelH.hz (R : RelH K Z F S H) {p : Addr} (h : H p = Option.none) : Z p = Option.none := by
  cases e : Z p with
  | none => rfl
  | some o => rw [(R.hid _ _ e).2.2] at h; cases h
theorem RelH.sz (R : RelH K Z F S H) {p : Addr} {c : Cell} (h : S p = some c) : Z p = Option.none := by
  cases e : Z p with
  | none => rfl
  | some o => rw [(R.hid _ _ e).2.1] at h; cases h
theorem RelH.none (R : RelH K Z F S H) {p : Addr} (h : H p = Option.none) : F p = Option.none ∧ S p = Option.none := by
  constructor
  · cases e : F p with
    | none => rfl
    | some o => rw [R.fz _ _ e] at h; cases h
  · cases e : S p with
    | none => rfl
    | some c =>
      obtain ⟨_, o, q, _⟩ := R.st p c e
      rw [q] at h; cases h
theorem same_upd {G : Hp} {p : Addr} {o : HO} (h : G p = none) : Same G (upd G p o) := fun b u e => by
  rw [upd_ne (ne_of_none e h)]; exact e
/-- a new thing that nobody will change -/
theorem RelH.newF (R : RelH K Z F S H) {p : Addr} {o : HO} (h : H p = Option.none) : Same F (upd F p o) ∧ RelH K Z (upd F p o) S (upd H p o) := by
  obtain ⟨f0, s0⟩ := R.none h
  have sf : Same F (upd F p o) := same_upd f0
  refine ⟨sf, fun b u e => ?_, fun q u e => ?_, fun q c e => ?_⟩
  rotate_left
  · have hq := ne_of_none e (R.hz h)
    obtain ⟨a, b, c⟩ := R.hid q u e
    exact ⟨by rw [upd_ne hq]; exact a, b, by rw [upd_ne hq]; exact c⟩
  rotate_left
  · by_cases hb : b = p
    · subst hb; rw [upd_same] at e ⊢; exact e
    · rw [upd_ne hb] at e ⊢; exact R.fz _ _ e
  · have hq : q ≠ p := fun z => by subst z; rw [s0] at e; cases e
    obtain ⟨a, u, b, c'⟩ := R.st q c e
    exact ⟨by rw [upd_ne hq]; exact a, u, by rw [upd_ne hq]; exact b, c'.mono sf⟩
/-- a new list or dict of the store -/
theorem RelH.newS (R : RelH K Z F S H) {p : Addr} {o : HO} {c : Cell} (h : H p = Option.none) (r : CRep K F c o) : RelH K Z F (supd S p c) (upd H p o) := by
  obtain ⟨f0, s0⟩ := R.none h
  refine ⟨fun b u e => ?_, fun q u e => ?_, fun q d e => ?_⟩
  rotate_left
  · have hq := ne_of_none e (R.hz h)
    obtain ⟨a, b, c⟩ := R.hid q u e
    exact ⟨a, by rw [supd_ne hq]; exact b, by rw [upd_ne hq]; exact c⟩
  rotate_left
  · rw [upd_ne (ne_of_none e f0)]; exact R.fz _ _ e
  · by_cases hq : q = p
    · subst hq
      rw [supd_same] at e; cases e
      exact ⟨f0, o, upd_same, r⟩
    · rw [supd_ne hq] at e
      obtain ⟨a, u, b, c'⟩ := R.st q d e
      exact ⟨a, u, by rw [upd_ne hq]; exact b, c'⟩
/-- a cell of the store is written -/
theorem RelH.write (R : RelH K Z F S H) {p : Addr} {o : HO} {c c' : Cell} (h : S p = some c) (r : CRep K F c' o) : RelH K Z F (supd S p c') (upd H p o) := by
  obtain ⟨f0, _, _, _⟩ := R.st p c h
  refine ⟨fun b u e => ?_, fun q u e => ?_, fun q d e => ?_⟩
  rotate_left
  · have hq := ne_of_none e (R.sz h)
    obtain ⟨a, b, c⟩ := R.hid q u e
    exact ⟨a, by rw [supd_ne hq]; exact b, by rw [upd_ne hq]; exact c⟩
  rotate_left
  · rw [upd_ne (ne_of_none e f0)]; exact R.fz _ _ e
  · by_cases hq : q = p
    · subst hq
      rw [supd_same] at e; cases e
      exact ⟨f0, o, upd_same, r⟩
    · rw [supd_ne hq] at e
      obtain ⟨a, u, b, c'⟩ := R.st q d e
      exact ⟨a, u, by rw [upd_ne hq]; exact b, c'⟩
/-- less is known of the store -/
theorem RelH.less (R : RelH K Z F S H) {S' : Sto} (h : ∀ p c, S' p = some c → S p = some c) : RelH K Z F S' H := by
  refine ⟨R.fz, fun p o e => ?_, fun p c e => R.st p c (h p c e)⟩
  obtain ⟨a, b, c⟩ := R.hid p o e
  refine ⟨a, ?_, c⟩
  cases q : S' p with
  | none => rfl
  | some c => rw [h p c q] at b; cases b
/-- a cell is frozen -/
theorem RelH.freeze (R : RelH K Z F S H) {p : Addr} {c : Cell} (h : S p = some c) : ∃ o, H p = some o ∧ CRep K (upd F p o) c o ∧ Same F (upd F p o) ∧ RelH K Z (upd F p o) (sdel S p) H := by
  obtain ⟨f0, o, ho, r⟩ := R.st p c h
  have sf : Same F (upd F p o) := same_upd f0
  refine ⟨o, ho, r.mono sf, sf, fun b u e => ?_, fun q u e => ?_, fun q d e => ?_⟩
  rotate_left
  · have hq := ne_of_none e (R.sz h)
    obtain ⟨a, b, c⟩ := R.hid q u e
    exact ⟨by rw [upd_ne hq]; exact a, by rw [sdel_ne hq]; exact b, c⟩
  rotate_left
  · by_cases hb : b = p
    · subst hb; rw [upd_same] at e; cases e; exact ho
    · rw [upd_ne hb] at e; exact R.fz _ _ e
  · have hq : q ≠ p := fun z => by
      subst z
      unfold sdel at e
      rw [if_pos rfl] at e; cases e
    rw [sdel_ne hq] at e
    obtain ⟨a, u, b, c'⟩ := R.st q d e
    exact ⟨by rw [upd_ne hq]; exact a, u, b, c'.mono sf⟩
end
end GB

/-! GB2: lifted readings, calls of defs. -/
namespace GB
open PySem PySem.Spec PyProof.Rows L2

/-- an exception: its class by name, its fields -/
structure Ex where
  cls : Str
  fs : List (Str × D)
abbrev XP := Ex → Dts → Sto → Prop
abbrev EQ := D → Sto → Prop
abbrev MG := Str → Option Value

inductive RepF (K : FK) (F : Hp) : List (Str × D) → List (Str × V) → Prop
  | nil : RepF K F [] []
  | cons {k : Str} {d : D} {v : V} {ds : List (Str × D)} {vs : List (Str × V)} : Rep K F d v → RepF K F ds vs → RepF K F ((k, d) :: ds) ((k, v) :: vs)
def XRep (K : FK) (mg : MG) (F H : Hp) (x : Ex) (cls : Value) (d : Option Addr) : Prop :=
  mg x.cls = some cls ∧ (x.fs = [] ∨ ∃ dx vs, d = some dx ∧ H dx = some (.xd vs) ∧ RepF K F x.fs vs)

/-- what follows, of data and of values -/
def Ct (K : FK) (Z F : Hp) (P : EQ) (Q : VK) : Prop := ∀ F' H' S' d v, Same F F' → RelH K Z F' S' H' → Rep K F' d v → P d S' → Q v H'
theorem Ct.mono {K : FK} {Z F G : Hp} {P : EQ} {Q : VK} (h : Ct K Z F P Q) (e : Same F G) : Ct K Z G P Q := fun F' H' S' d v s => h F' H' S' d v (e.trans s)

abbrev WpE := Dts → Sto → EQ → Prop
abbrev WpT := Dts → Sto → (Bool → Sto → Prop) → Prop
abbrev WpA := Dts → Sto → (List D → Sto → Prop) → Prop
structure Pst where
  nx : Dts → Sto → Prop
  rt : EQ
  bk : Dts → Sto → Prop
  ct : Dts → Sto → Prop
abbrev WpS := Pst → Dts → Sto → Prop
abbrev WpG := D → Dts → Sto → (Dts → Sto → Prop) → Prop
abbrev WpGs := List D → Dts → Sto → (Dts → Sto → Prop) → Prop

def LE (K : FK) (Z F0 : Hp) (w : WpE) : TE := fun σ H Q => ∃ F δ S P, Same F0 F ∧ RelS K F δ σ ∧ RelH K Z F S H ∧ w δ S P ∧ Ct K Z F P Q
def LT (K : FK) (Z F0 : Hp) (w : WpT) : TT := fun σ H Q => ∃ F δ S P, Same F0 F ∧ RelS K F δ σ ∧ RelH K Z F S H ∧ w δ S P ∧
  ∀ F' H' S' b, Same F F' → RelH K Z F' S' H' → P b S' → Q b H'
def LA (K : FK) (Z F0 : Hp) (w : WpA) : TA := fun σ H Q => ∃ F δ S P, Same F0 F ∧ RelS K F δ σ ∧ RelH K Z F S H ∧ w δ S P ∧
  ∀ F' H' S' ds vs, Same F F' → RelH K Z F' S' H' → RepL K F' ds vs → P ds S' → Q vs H'
def Cs (K : FK) (Z F : Hp) (P : Dts → Sto → Prop) (Q : VS → Hp → Prop) : Prop := ∀ F' H' S' δ σ, Same F F' → RelS K F' δ σ → RelH K Z F' S' H' → P δ S' → Q σ H'
theorem Cs.mono {K : FK} {Z F G : Hp} {P : Dts → Sto → Prop} {Q : VS → Hp → Prop} (h : Cs K Z F P Q) (e : Same F G) : Cs K Z G P Q := fun F' H' S' d v s => h F' H' S' d v (e.trans s)
def LS (K : FK) (Z F0 : Hp) (w : WpS) : TS := fun E σ H => ∃ F δ S P, Same F0 F ∧ RelS K F δ σ ∧ RelH K Z F S H ∧ w P δ S ∧
  Cs K Z F P.nx E.nx ∧ Ct K Z F P.rt E.rt ∧ Cs K Z F P.bk E.bk ∧ Cs K Z F P.ct E.ct
def LG (K : FK) (Z F0 : Hp) (w : WpG) : TG := fun v σ H Q => ∃ F δ S P d, Same F0 F ∧ RelS K F δ σ ∧ RelH K Z F S H ∧ Rep K F d v ∧ w d δ S P ∧ Cs K Z F P Q
def LGs (K : FK) (Z F0 : Hp) (w : WpGs) : TGs := fun vs σ H Q => ∃ F δ S P ds, Same F0 F ∧ RelS K F δ σ ∧ RelH K Z F S H ∧ RepL K F ds vs ∧ w ds δ S P ∧ Cs K Z F P Q

theorem PE_imp {X : Cx} {e : Expr} {t t' : TE} (h : PE X e t) (i : ∀ σ H Q, t' σ H Q → t σ H Q) : PE X e t' := ⟨fun pins s σ H Q I q => h.run pins s σ H Q I (i σ H Q q)⟩
theorem PT_imp {X : Cx} {e : Expr} {t t' : TT} (h : PT X e t) (i : ∀ σ H Q, t' σ H Q → t σ H Q) : PT X e t' := ⟨fun pins s σ H Q I q => h.run pins s σ H Q I (i σ H Q q)⟩
theorem PW_imp {X : Cx} {e : Expr} {t t' : TT} (h : PW X e t) (i : ∀ σ H Q, t' σ H Q → t σ H Q) : PW X e t' := ⟨fun wh pins s σ H Q I q => h.run wh pins s σ H Q I (i σ H Q q)⟩
theorem PA_imp {X : Cx} {e : List Expr} {t t' : TA} (h : PA X e t) (i : ∀ σ H Q, t' σ H Q → t σ H Q) : PA X e t' := ⟨fun pos pins s σ H Q I q => h.run pos pins s σ H Q I (i σ H Q q)⟩
theorem PS_imp {X : Cx} {e : Stmt} {t t' : TS} (h : PS X e t) (i : ∀ D σ H, t' D σ H → t D σ H) : PS X e t' := ⟨fun pins s σ H Q I q => h.run pins s σ H Q I (i Q σ H q)⟩
theorem PSs_imp {X : Cx} {e : List Stmt} {t t' : TS} (h : PSs X e t) (i : ∀ D σ H, t' D σ H → t D σ H) : PSs X e t' := ⟨fun pins s σ H Q I q => h.run pins s σ H Q I (i Q σ H q)⟩
theorem PG_imp {X : Cx} {e : Expr} {t t' : TG} (h : PG X e t) (i : ∀ v σ H Q, t' v σ H Q → t v σ H Q) : PG X e t' := ⟨fun pins s σ H v u Q I r q => h.run pins s σ H v u Q I r (i v σ H Q q)⟩
theorem PGs_imp {X : Cx} {e : List Expr} {t t' : TGs} (h : PGs X e t) (i : ∀ v σ H Q, t' v σ H Q → t v σ H Q) : PGs X e t' := ⟨fun pins s σ H v u Q I r q => h.run pins s σ H v u Q I r (i v σ H Q q)⟩

/-- what is wanted of an exception, of data -/
def LX (K : FK) (mg : MG) (Z F0 : Hp) (xq : XP) : WX := fun cls d σ H => ∃ F δ S x, Same F0 F ∧ RelS K F δ σ ∧ RelH K Z F S H ∧ XRep K mg F H x cls d ∧ xq x δ S

/-! ### a def's promise, of data -/
abbrev Spec := List D → Sto → EQ → (Ex → Sto → Prop) → Prop
def LSp (K : FK) (mg : MG) (sp : Spec) : Sp := fun vs H Q E => ∃ Z F S ds P U, RelH K Z F S H ∧ RepL K F ds vs ∧ sp ds S P U ∧ Ct K Z F P Q ∧
  ∀ F' H' S' x cls d, Same F F' → RelH K Z F' S' H' → XRep K mg F' H' x cls d → U x S' → E cls d H'

/-- as FnOk, where no repr is under way -/
structure FOk (P : Program) (w : World) (K : FK) (mg : MG) (base : Heap) (k : Nat) (f : Addr) (fd : FuncData) (ps : List Str) (sp : Sp) : Prop where
  len : ∀ vs H Q E, sp vs H Q E → vs.length = ps.length
  run : ∀ (A : Around) (outer : List Env) (s : Shared) (H : Hp) (args : Args) (us : List Value) (vs : List V) (Q : VK) (E : XK),
    Room k A → A.guards = some [] → Env0 P w K mg base A outer s H → BindsTo s fd args (ps.zip us) → Vals vs us → sp vs H Q E →
    codeAny (model P w) A (.call (.ref f) args) (CR (L2.CX P w) outer P w H s Q E) s
theorem FOk.up {P : Program} {w : World} {K : FK} {mg : MG} {base : Heap} {j k : Nat} {f : Addr} {fd : FuncData} {ps : List Str} {sp : Sp} (h : FOk P w K mg base j f fd ps sp) (le : j ≤ k) : FOk P w K mg base k f fd ps sp :=
  ⟨h.len, fun A outer s H args us vs Q E r => h.run A outer s H args us vs Q E (r.mono le)⟩
theorem FOk.weak {P : Program} {w : World} {K : FK} {mg : MG} {base : Heap} {k : Nat} {f : Addr} {fd : FuncData} {ps : List Str} {sp sp' : Sp} (h : FOk P w K mg base k f fd ps sp) (i : ∀ vs H Q E, sp' vs H Q E → sp vs H Q E) : FOk P w K mg base k f fd ps sp' :=
  ⟨fun vs H Q E q => h.len vs H Q E (i _ _ _ _ q), fun A outer s H args us vs Q E r g e b v q => h.run A outer s H args us vs Q E r g e b v (i _ _ _ _ q)⟩

/-- the callee runs -/
theorem run_g {X : Cx} {W : WX} {k : Nat} {f : Addr} {fd : FuncData} {ps : List Str} {sp : Sp} {pins : List (Addr × Obj)} {σ : VS} {H : Hp} {s : Shared} {Q : VK} {us : List Value} {vs : List V}
    (F : FOk X.prog X.w X.K X.mg X.base k f fd ps sp) (hr : Room k X.A) (hg : X.A.guards = some []) (hb : Binds X.K fd ps []) (tk : Takes X W)
    (I : Inv X pins σ H s) (r : Vals vs us) (h : sp vs H Q (WE W σ)) : wpAny (model X.prog X.w) X.A (call (.ref f) us) (EP X pins σ Q) X.xe s := by
  have hl : us.length = ps.length := r.length.symm.trans (F.len _ _ _ _ h)
  have b : BindsTo s fd ⟨us, []⟩ (ps.zip us) := by
    have z := hb s us I.kIn (by rw [List.append_nil]; exact hl)
    rwa [List.append_nil] at z
  refine wpAny_call (codeAny_mono (F.run X.A X.stack s H _ us vs Q (WE W σ) hr hg I.env0 b r h) ?_)
  intro r s' hq
  cases r with
  | error e => exact passAt tk σ pins H s e s' I hq
  | ok fl =>
    cases fl with
    | ret u => exact I.after hq
    | next => exact absurd hq id
    | brk => exact absurd hq id
    | cont => exact absurd hq id

/-- f(a, ..) -/
theorem pe_callG {X : Cx} {W : WX} {k : Nat} {f : Addr} {fd : FuncData} {ps : List Str} {sp : Sp} {x : Str} {p pos : Pos} {e : Expr} {es : List Expr} {t : TA}
    (F : FOk X.prog X.w X.K X.mg X.base k f fd ps sp) (hr : Room k X.A) (hg : X.A.guards = some []) (hb : Binds X.K fd ps []) (tk : Takes X W)
    (gx : Gl X x) (hm : X.mg x = some (.ref f)) (hk : PySem.W.keepIn X.K (.ref f) = true) (ha : PA X (e :: es) t) (hdb : (x == ("__debug__" : Str)) = false)
    (h1 : starEach (e :: es) X.env = (false, eval e X.env) :: starEach es X.env) (h2 : (backTo pos (starEach es X.env)).any (·.1) = false) :
    PE X (.Call (.Name x p) (e :: es) [] pos) (fun σ H Q => t σ H fun vs H1 => sp vs H1 Q (WE W σ)) := by
  refine ⟨fun pins s σ H Q I h => wpAny_Call_Name_kw (ld_glob I gx hm ?_ hdb)⟩
  exact PySem.W.callWith_K (h₀ := X.base) I.ok.mod.kin hk (thn (ha.run pos pins s σ H _ I h) fun us s1 ⟨vs, H1, I1, r1, q1⟩ => ⟨I1.kIn, run_g F hr hg hb tk I1 r1 q1⟩) h1 h2
theorem pe_callG0 {X : Cx} {W : WX} {k : Nat} {f : Addr} {fd : FuncData} {ps : List Str} {sp : Sp} {x : Str} {p pos : Pos}
    (F : FOk X.prog X.w X.K X.mg X.base k f fd ps sp) (hr : Room k X.A) (hg : X.A.guards = some []) (hb : Binds X.K fd ps []) (tk : Takes X W)
    (gx : Gl X x) (hm : X.mg x = some (.ref f)) (hk : PySem.W.keepIn X.K (.ref f) = true) (hdb : (x == ("__debug__" : Str)) = false) :
    PE X (.Call (.Name x p) [] [] pos) (fun σ H Q => sp [] H Q (WE W σ)) := by
  refine ⟨fun pins s σ H Q I h => wpAny_Call_Name_kw (ld_glob I gx hm ?_ hdb)⟩
  exact PySem.W.callWith_K0 I.kIn hk (run_g (us := []) F hr hg hb tk I .nil h)

/-! ### a def by its body -/
theorem guards_deeper {A : Around} {env : Env} (h : A.guards = some []) : (A.deeper env).guards = some [] := by
  first
    | exact h
    | (unfold Around.deeper; exact h)
    | (simp [Around.deeper, h])

theorem def_by_body {P : Program} {w : World} {K : FK} {mg : MG} {base : Heap} {x qual : Str} {params : Arguments} {body : List Stmt} {scope : Scope} {f : Addr} {fd : FuncData} {N ps : List Str} {k : Nat} {sp : Sp}
    (F : FunD K x qual params body scope [] [] f fd) (S : FnScope N ps scope) (len : ∀ vs H Q E, sp vs H Q E → vs.length = ps.length)
    (hb : ∀ (cdv : Value) (A : Around) (outer : List Env) (s : Shared) (H : Hp) (vs : List V) (Q : VK) (E : XK),
      Room k (A.deeper (envOfC qual scope s.heap.objs.size f cdv)) → (A.deeper (envOfC qual scope s.heap.objs.size f cdv)).guards = some [] → sp vs H Q E →
      ∃ t, PSs (cxOf (L2.CX P w) P w K mg base N qual scope f cdv A outer s H E) body t ∧ t { nx := fun _ H' => Q .non H', rt := Q } (start N vs) H) :
    FOk P w K mg base (k + 1) f fd ps sp := by
  obtain ⟨oc, od, dV, kV, doc, pm, an, cdv, ct, osl, rfl, lk, hcd, hD, hK⟩ := F.ex
  refine ⟨len, ?_⟩
  intro A outer s H args us vs Q E hr hg e0 bd r hsp
  have hl := len _ _ _ _ hsp
  have kin : K.In s.heap := e0.mod.kin.keeps (fun b o e => (e0.bs b o e).1)
  have lim := e0.mod.nolimit.keeps (fun b o e => (e0.bs b o e).1)
  have par : ∀ y ∈ ps.zip us, scope.names.lookup y.1 = some .local ∨ (scope.names.lookup y.1 = some .cell ∧ ((cellsFrom (s.heap.objs.size + 1) scope.names []).lookup y.1).isSome = true) := by
    rintro ⟨n, v⟩ hy
    cases S.par n (List.of_mem_zip hy).1 with
    | inl q => exact .inl q
    | inr q => exact .inr ⟨q, PySem.W.cellsFrom_some _ _ _ (.inl q)⟩
  refine codeAny_call_function hr.depth (kin _ _ lk) rfl S.co S.gen rfl (PySem.W.codeRec_of kin hcd) (bd _ _ _ _ ?_)
  refine wpAny_newFunctionEnv_cells S.kind par ?_
  intro env he s1 c
  subst he
  refine ⟨lim.keeps c.toInCall.keep, codeAny_func ?_⟩
  obtain ⟨t, ht, hq⟩ := hb cdv A outer s H vs Q E (hr.deeper _) (guards_deeper hg) hsp
  have I := inv_start (CX := L2.CX P w) (E := E) (qual := qual) (f := f) (cd := cdv) S hr.hd e0 hl r c
  refine wpAny_mono (ht.run [] s1 (start N vs) H _ I hq) ?_ (fun _ _ z => z)
  intro fl s' hs
  cases fl with
  | ret u =>
    obtain ⟨v, σ', H', J, rv, q⟩ := hs
    exact ⟨v, H', J.os, J.bare, J.base, J.hok, rv, q⟩
  | next =>
    obtain ⟨σ', H', J, q⟩ := hs
    exact ⟨.non, H', J.os, J.bare, J.base, J.hok, rfl, q⟩
  | brk =>
    obtain ⟨_, _, _, q⟩ := hs
    exact absurd q id
  | cont =>
    obtain ⟨_, _, _, q⟩ := hs
    exact absurd q id
end GB

/-! GB3: the end of a law. -/
namespace GB
open PySem PySem.Spec PyProof.Rows L2

section
variable {P : Program} {w : World} {K : FK} {mg mb : MG} {k : Nat} {fa a : Addr} {fd : FuncData} {x : Str} {sp : Sp} {s1 : Shared} {vs : List Value} {ns : List Int}
/-- the run over an abstract heap in which the script alone may stand -/
theorem law_core (H : Hp) (hO : Only H) (hS : SqL K H a (ns.map V.int)) (hok : HOk P w H s1.heap) (hA : ∀ b, H b ≠ none → b = a) (hK : H a ≠ none → K.lookup a = none)
    (kin : K.In s1.heap) (gl : s1.heap.Ns mainGlobals mg) (bl : s1.heap.Ns builtinsNs mb) (bb : ∀ y : Str, y ≠ "__name__" → mb y = bootBuiltins y) (nl : s1.heap.NoLimit) (g0 : s1.gens = #[])
    (at_ : s1.heap.get? a = some { cls := .type "list", data := .seq vs.toArray }) (hr : Room k callerA)
    (F : ∀ base : Heap, K.In base → base.Ns mainGlobals mg → FOk P w K mg base k fa fd [x] sp) (hb : ∀ (s : Shared) (u : Value), BindsTo s fd ⟨[u], []⟩ [(x, u)])
    (hsp : sp [.ref a] H (fun v _ => v = .bl true) fun _ _ _ => False) :
    codeAny (model P w) callerA (.call (.ref fa) ⟨[.ref a], []⟩) (fun r s' => r = .ok (.ret (.bool true)) ∧ OldK s1.heap s'.heap ∧ s'.os = s1.os ∧ AllBare s'.gens) s1 := by
  have only : ∀ (b : Addr) (u : HO), H b = some u → b = a := by
    intro b u e
    exact hA b (by rw [e]; exact fun z => nomatch z)
  have base : ∀ (b : Addr) (o : Obj), s1.heap.get? b = some o → H b = none → (hidT s1.heap H).get? b = some o := by
    intro b o e n
    exact hidT_get e n
  have nodict : ∀ (b : Addr) (o : Obj) (es : Array DictEntry) (ep : Nat), s1.heap.get? b = some o → o.data = .dict es ep → H b = none := by
    intro b o es ep e d
    cases q : H b with
    | none => rfl
    | some u =>
      obtain rfl := only b u q
      rw [at_] at e
      obtain rfl := Option.some.inj e
      exact nomatch d
  have ns' : ∀ {b : Addr} {m : MG}, s1.heap.Ns b m → (hidT s1.heap H).Ns b m := by
    rintro b m ⟨o, es, ep, e, d, r⟩
    exact ⟨o, es, ep, base b o e (nodict b o _ _ e d), d, r⟩
  have kin' : K.In (hidT s1.heap H) := by
    intro b o e
    refine base b o (kin b o e) ?_
    cases q : H b with
    | none => rfl
    | some u =>
      obtain rfl := only b u q
      rw [hK (by rw [q]; exact fun z => nomatch z)] at e
      cases e
  obtain ⟨mc, c1, c2⟩ := nl
  have md : Mod K mg (hidT s1.heap H) := ⟨kin', ns' gl, ⟨mb, ns' bl, bb⟩, ⟨mc, ns' c1, c2⟩⟩
  have e0 : Env0 P w K mg (hidT s1.heap H) callerA [] s1 H := by
    refine ⟨rfl, md, fun b o e => of_hidT e, Nat.le_of_eq (hidT_size _ _), trivial, ?_, hok, .of_eq g0⟩
    intro b z
    exact absurd z (by simp [frs])
  have go := (F _ kin' (ns' gl)).run callerA [] s1 H ⟨[.ref a], []⟩ [.ref a] [.ref a] _ _ hr rfl e0 (hb s1 (.ref a)) (.cons rfl .nil) hsp
  refine codeAny_mono go ?_
  intro r s' h
  cases r with
  | error e =>
    obtain ⟨_, _, _, _, _, _, _, _, _, _, _, _, z⟩ := h
    exact absurd z id
  | ok fl =>
    cases fl with
    | next => exact absurd h id
    | brk => exact absurd h id
    | cont => exact absurd h id
    | ret u =>
      obtain ⟨v, H', os, bare, un, hok', rv, q⟩ := h
      subst q
      cases rv
      refine ⟨rfl, OldK.of_keep ?_, os, bare⟩
      intro b o e
      cases q : H b with
      | none => exact un.keep b o e q (by simp [frs]) (by simp)
      | some u =>
        rcases hO b with z | ⟨ob, xs, z⟩
        · rw [q] at z; cases z
        · obtain ⟨e1, _⟩ := hok b _ z
          obtain ⟨e2, _⟩ := hok' b _ (un.frzs b ob _ z)
          rw [e] at e1
          obtain rfl := Option.some.inj e1
          exact e2
end

/-- the abstract heap of a law's start: the script, frozen (where it is no object of the module) -/
theorem law_run {P : Program} {w : World} {K : FK} {mg mb : MG} {k : Nat} {fa a : Addr} {fd : FuncData} {x : Str} {sp : Sp} {s1 : Shared} {vs : List Value} {ns : List Int}
    (kin : K.In s1.heap) (gl : s1.heap.Ns mainGlobals mg) (bl : s1.heap.Ns builtinsNs mb) (bb : ∀ y : Str, y ≠ "__name__" → mb y = bootBuiltins y) (nl : s1.heap.NoLimit) (g0 : s1.gens = #[])
    (at_ : s1.heap.get? a = some { cls := .type "list", data := .seq vs.toArray }) (hi : IntsAre vs ns) (hl : ns.length ≤ sizeLine) (hr : Room k callerA)
    (F : ∀ base : Heap, K.In base → base.Ns mainGlobals mg → FOk P w K mg base k fa fd [x] sp) (hb : ∀ (s : Shared) (u : Value), BindsTo s fd ⟨[u], []⟩ [(x, u)])
    (hsp : ∀ H : Hp, Only H → SqL K H a (ns.map V.int) → sp [.ref a] H (fun v _ => v = .bl true) fun _ _ _ => False) :
    codeAny (model P w) callerA (.call (.ref fa) ⟨[.ref a], []⟩) (fun r s' => r = .ok (.ret (.bool true)) ∧ OldK s1.heap s'.heap ∧ s'.os = s1.os ∧ AllBare s'.gens) s1 := by
  have rv := vals_ints hi
  have hlen : vs.length = ns.length := hi.length
  cases q : K.lookup a with
  | some o =>
    have e := kin a o q
    rw [at_] at e
    obtain rfl := Option.some.inj e
    have hS : SqL K (fun _ => none) a (ns.map V.int) := .inr ⟨_, vs.toArray, _, q, rfl, rfl, rfl, by rw [List.size_toArray, hlen]; exact hl, by simpa using rv⟩
    exact law_core (fun _ => none) (fun _ => .inl rfl) hS (fun b u z => nomatch z) (fun b z => absurd rfl z) (fun z => absurd rfl z) kin gl bl bb nl g0 at_ hr F hb (hsp _ (fun _ => .inl rfl) hS)
  | none =>
    let o0 : Obj := { cls := .type "list", data := .seq vs.toArray }
    let H : Hp := fun b => if b = a then some (.frz o0 (.lst (ns.map V.int))) else none
    have here : H a = some (.frz o0 (.lst (ns.map V.int))) := if_pos rfl
    have other : ∀ b, b ≠ a → H b = none := fun b z => if_neg z
    have hO : Only H := by
      intro b
      by_cases z : b = a
      · subst z; exact .inr ⟨_, _, here⟩
      · exact .inl (other b z)
    have hS : SqL K H a (ns.map V.int) := .inl (.inr ⟨_, here⟩)
    refine law_core H hO hS ?_ ?_ (fun _ => q) kin gl bl bb nl g0 at_ hr F hb (hsp _ hO hS)
    · intro b u z
      by_cases e : b = a
      · subst e
        rw [here] at z
        obtain rfl := Option.some.inj z
        exact ⟨at_, by rw [List.length_map]; exact hl, vs, _, rv, at_⟩
      · rw [other b e] at z; cases z
    · intro b z
      by_cases e : b = a
      · exact e
      · exact absurd (other b e) z

/-- a law's walk, from its def's promise -/
theorem walk_G {l : PySem.W.OpenLaw} {n k : Nat} {q : Program} {loose : List Str} {XP' : MG → Heap → Prop} {YP : World → Heap → Prop} {d : DefRec} {x : Str}
    (hn : l.most = some n) (hn2 : n ≤ sizeLine) (hdf : d.params.defaults = []) (hr : Room k callerA)
    (F : ∀ (w : World) (mg : MG) (fa : Addr) (h : Heap), YP w h → h.Ns mainGlobals mg → mg d.name = some (.ref fa) →
      ∃ (K : FK) (fd : FuncData) (sp : Spec), K.In h ∧ (∀ (s : Shared) (u : Value), BindsTo s fd ⟨[u], []⟩ [(x, u)]) ∧
        (∀ ns : List Int, ns.length ≤ n → sp [.rls (ns.map D.int)] (fun _ => none) (fun d _ => d = .bl true) fun _ _ => False) ∧
        ∀ base : Heap, K.In base → base.Ns mainGlobals mg → FOk l.prog w K mg base k fa fd [x] (LSp K mg sp)) :
    PySem.W.WalkO q loose XP' YP l.row.toRowW d [] (fun f vs => PySem.call f vs) := by
  refine Att.attach_call hn hdf ?_
  intro w s0 s1 mg mb fa o pm cd doc a vs ns G Y ho hd hcd hmg hobj hints hlen hg
  obtain ⟨K, fd, sp, kin, hb, hsp, hF⟩ := F w mg fa _ Y G.T.g hmg
  refine law_run kin G.T.g G.T.b G.T.builtins G.T.nolimit hg hobj hints (Nat.le_trans hlen hn2) hr hF hb ?_
  intro H hO hS
  refine ⟨fun _ => none, H, fun _ => none, [.rls (ns.map D.int)], _, _, ⟨fun _ _ e => e, fun _ _ e => (nomatch e), fun _ _ e => (nomatch e)⟩, .cons (.rls hS (RepL.ints ns)) .nil, hsp ns hlen, ?_, ?_⟩
  · intro F' H' S' d v _ _ r e
    subst e
    cases r
    rfl
  · intro _ _ _ _ _ _ _ _ _ z
    exact absurd z id
end GB

/-! GB4: operators of data, the small syntax, its weakest preconditions. -/
namespace GB
open PySem PySem.Spec PyProof.Rows L2

/-! ### operators of data -/
def cL : Option Cell → Option (List D)
  | some (.lst ds) => some ds
  | _ => none
def cK : Option Cell → Option (List (Key × D))
  | some (.dct ds) => some ds
  | _ => none
/-- a list's items: a frozen one, or one of the store -/
def mls (S : Sto) : D → Option (List D)
  | .lst ds => some ds
  | .ref p => cL (S p)
  | _ => none
/-- .. or one that is only read -/
def lsx (S : Sto) : D → Option (List D)
  | .lst ds => some ds
  | .rls ds => some ds
  | .ref p => cL (S p)
  | _ => none
/-- a list's or a tuple's items -/
def sqx (S : Sto) : D → Option (List D)
  | .tup ds => some ds
  | x => lsx S x
/-- a new list: of the store (m), or never changed -/
def nwL (m : Bool) (ds : List D) (S : Sto) (P : EQ) : Prop := match m with
  | true => ∀ p, S p = none → P (.ref p) (supd S p (.lst ds))
  | false => P (.lst ds) S
def nwD (m : Bool) (ds : List (Key × D)) (S : Sto) (P : EQ) : Prop := match m with
  | true => ∀ p, S p = none → P (.ref p) (supd S p (.dct ds))
  | false => P (.dct ds) S

def addD (m : Bool) (x y : D) (S : Sto) (P : EQ) : Prop := match x with
  | .int i => (match y with
    | .int j => P (.int (i + j)) S
    | _ => False)
  | .str a => (match y with
    | .str b => a.length + b.length ≤ sizeLine ∧ P (.str (a ++ b)) S
    | _ => False)
  | .tup a => (match y with
    | .tup b => a.length + b.length ≤ sizeLine ∧ P (.tup (a ++ b)) S
    | _ => False)
  | .lst a => ∃ b, mls S y = some b ∧ a.length + b.length ≤ sizeLine ∧ nwL m (a ++ b) S P
  | .ref p => ∃ a b, mls S (.ref p) = some a ∧ mls S y = some b ∧ a.length + b.length ≤ sizeLine ∧ nwL m (a ++ b) S P
  | _ => False
def subD (x y : D) (S : Sto) (P : EQ) : Prop := match x with
  | .int i => (match y with
    | .int j => P (.int (i - j)) S
    | _ => False)
  | _ => False
def mulD (m : Bool) (x y : D) (S : Sto) (P : EQ) : Prop := match x with
  | .int i => (match y with
    | .int j => CMulW i j ∧ P (.int (i * j)) S
    | _ => False)
  | .lst a => (match y with
    | .int k => (-(2 ^ 63) ≤ k ∧ k < 2 ^ 63 ∧ a.length * k.toNat ≤ sizeLine) ∧ nwL m (List.replicate k.toNat a).flatten S P
    | _ => False)
  | _ => False
def CDvD (j : Int) : Prop := j ≠ 0 ∧ j.natAbs.log2 < 9000
def fdivD (x y : D) (S : Sto) (P : EQ) : Prop := match x with
  | .int i => (match y with
    | .int j => CDvD j ∧ P (.int (i.fdiv j)) S
    | _ => False)
  | _ => False
def modD (x y : D) (S : Sto) (P : EQ) : Prop := match x with
  | .int i => (match y with
    | .int j => j ≠ 0 ∧ P (.int (i.fmod j)) S
    | _ => False)
  | _ => False
def CPwD (i j : Int) : Prop := 0 ≤ j ∧ (i.natAbs.log2 + 1) * j.toNat ≤ 134217728
def powD (x y : D) (S : Sto) (P : EQ) : Prop := match x with
  | .int i => (match y with
    | .int j => CPwD i j ∧ P (.int (i ^ j.toNat)) S
    | _ => False)
  | _ => False

/-- data as the library's data, lists of the store read (n deep) -/
def pyL (f : D → Option PyData) : List D → Option (List PyData)
  | [] => some []
  | d :: ds => (match f d with
    | some x => (match pyL f ds with
      | some xs => some (x :: xs)
      | none => none)
    | none => none)
def pyOf (S : Sto) : Nat → D → Option PyData
  | 0, _ => none
  | _ + 1, .non => some .none
  | _ + 1, .bl b => some (.bool b)
  | _ + 1, .int i => some (.int i)
  | _ + 1, .str x => some (.str x)
  | n + 1, .tup ds => (pyL (pyOf S n) ds).map .tuple
  | n + 1, .lst ds => (pyL (pyOf S n) ds).map .list
  | n + 1, .rls ds => (pyL (pyOf S n) ds).map .list
  | n + 1, .ref p => (match cL (S p) with
    | some ds => (pyL (pyOf S n) ds).map .list
    | none => none)
  | _ + 1, .dct _ => none
def eqD (neg : Bool) (x y : D) (S : Sto) (P : EQ) : Prop := match x, y with
  | .int i, .int j => P (.bl (xor neg (decide (i = j)))) S
  | .str i, .str j => P (.bl (xor neg (decide (i = j)))) S
  | .bl i, .bl j => P (.bl (xor neg (decide (i = j)))) S
  | x, y => ∃ n d e, pyOf S n x = some d ∧ pyOf S n y = some e ∧ SeqAt.shaped d = true ∧ SeqAt.shaped e = true ∧ P (.bl (xor neg (PyData.eqv d e))) S

inductive COp where | eq | ne | lt | le | gt | ge | isN | noN | inn | nin
def inD (neg : Bool) (x y : D) (S : Sto) (P : EQ) : Prop := ∃ n d e ds, pyOf S n x = some d ∧ pyOf S n y = some e ∧ (e = .list ds ∨ e = .tuple ds) ∧ (SeqAt.shaped d = true ∧ d.depth ≤ 60) ∧ SeqAt.shaped e = true ∧ P (.bl (xor neg (ds.any fun z => PyData.eqv z d))) S
/-- built-in types that isinstance is asked of -/
inductive TY where | non | bool | int | str | tuple | list | dict
def TY.nm : TY → String
  | .non => "NoneType"
  | .bool => "bool"
  | .int => "int"
  | .str => "str"
  | .tuple => "tuple"
  | .list => "list"
  | .dict => "dict"
def tyC : Option Cell → Option TY
  | some (.lst _) => some .list
  | some (.dct _) => some .dict
  | none => none
def tyD (S : Sto) : D → Option TY
  | .non => some .non
  | .bl _ => some .bool
  | .int _ => some .int
  | .str _ => some .str
  | .tup _ => some .tuple
  | .lst _ => some .list
  | .rls _ => some .list
  | .dct _ => some .dict
  | .ref p => tyC (S p)
def tyOk : TY → Bool
  | .non => false
  | _ => true
/-- is a value of the first of the second -/
def isiB : TY → TY → Bool
  | .bool, .int => true
  | .non, .non => true
  | .bool, .bool => true
  | .int, .int => true
  | .str, .str => true
  | .tuple, .tuple => true
  | .list, .list => true
  | .dict, .dict => true
  | _, _ => false
def isiD (t : TY) (x : D) (S : Sto) (P : EQ) : Prop := match tyD S x with
  | some k => P (.bl (isiB k t)) S
  | none => False
def icmp (p : Int → Int → Bool) (x y : D) (S : Sto) (P : EQ) : Prop := match x with
  | .int i => (match y with
    | .int j => P (.bl (p i j)) S
    | _ => False)
  | _ => False
def isNon : D → Bool
  | .non => true
  | _ => false
def cmpD (o : COp) (x y : D) (S : Sto) (P : EQ) : Prop := match o with
  | .eq => eqD false x y S P
  | .ne => eqD true x y S P
  | .lt => icmp (fun i j => decide (i < j)) x y S P
  | .le => icmp (fun i j => decide (i ≤ j)) x y S P
  | .gt => icmp (fun i j => decide (j < i)) x y S P
  | .ge => icmp (fun i j => decide (j ≤ i)) x y S P
  | .isN => isNon y = true ∧ P (.bl (isNon x)) S
  | .noN => isNon y = true ∧ P (.bl (!isNon x)) S
  | .inn => inD false x y S P
  | .nin => inD true x y S P

inductive BOp where | add | sub | mul | fdiv | mod | pow | shl | shr | band
def shlD (x y : D) (S : Sto) (P : EQ) : Prop := match x with
  | .int i => (match y with
    | .int j => (0 ≤ j ∧ CShl i j) ∧ P (.int (i * 2 ^ j.toNat)) S
    | _ => False)
  | _ => False
def shrD (x y : D) (S : Sto) (P : EQ) : Prop := match x with
  | .int i => (match y with
    | .int j => 0 ≤ j ∧ P (.int (i / 2 ^ j.toNat)) S
    | _ => False)
  | _ => False
/-- the last bit -/
def bandD (x y : D) (S : Sto) (P : EQ) : Prop := match x with
  | .int i => (match y with
    | .int j => j = 1 ∧ P (.int (i % 2)) S
    | _ => False)
  | _ => False
def binD (o : BOp) (m : Bool) (x y : D) (S : Sto) (P : EQ) : Prop := match o with
  | .add => addD m x y S P
  | .sub => subD x y S P
  | .mul => mulD m x y S P
  | .fdiv => fdivD x y S P
  | .mod => modD x y S P
  | .pow => powD x y S P
  | .shl => shlD x y S P
  | .shr => shrD x y S P
  | .band => bandD x y S P

def negD (x : D) (S : Sto) (P : EQ) : Prop := match x with
  | .int i => P (.int (-i)) S
  | _ => False
/-- truth -/
def truD (x : D) (S : Sto) (P : Bool → Sto → Prop) : Prop := match x with
  | .bl b => P b S
  | .int i => P (i != 0) S
  | .non => P false S
  | .tup ds => P (!ds.isEmpty) S
  | .lst ds => P (!ds.isEmpty) S
  | .str z => z.length ≤ sizeLine ∧ P ((z.length : Int) != 0) S
  | .ref p => ∃ ds, cL (S p) = some ds ∧ P (!ds.isEmpty) S
  | _ => False
def lookK : List (Key × D) → Key → Option D
  | [], _ => none
  | (k, d) :: r, q => if k = q then some d else lookK r q
def putK : List (Key × D) → Key → D → List (Key × D)
  | [], q, e => [(q, e)]
  | (k, d) :: r, q, e => if k = q then (k, e) :: r else (k, d) :: putK r q e
def keyD : D → Option Key
  | .int i => some (.inl i)
  | .str x => some (.inr x)
  | _ => none
/-- the pairs of a dict -/
def dcx (S : Sto) : D → Option (List (Key × D))
  | .dct ds => some ds
  | .ref p => cK (S p)
  | _ => none
def ixC (c : Option Cell) (y : D) (S : Sto) (P : EQ) : Prop := match c with
  | some (.lst ds) => (match y with
    | .int i => ∃ d, atI ds i = some d ∧ P d S
    | _ => False)
  | some (.dct ds) => ∃ k d, keyD y = some k ∧ lookK ds k = some d ∧ P d S
  | none => False
def ixD (x y : D) (S : Sto) (P : EQ) : Prop := match x with
  | .tup ds => (match y with
    | .int i => ∃ d, atI ds i = some d ∧ P d S
    | _ => False)
  | .lst ds => (match y with
    | .int i => ∃ d, atI ds i = some d ∧ P d S
    | _ => False)
  | .rls ds => (match y with
    | .int i => ∃ d, atI ds i = some d ∧ P d S
    | _ => False)
  | .str z => (match y with
    | .int i => z.length ≤ sizeLine ∧ ∃ c, atI z.cps.toList i = some c ∧ P (.str ⟨#[c]⟩) S
    | _ => False)
  | .ref p => ixC (S p) y S P
  | _ => False
def cutD (xs : List D) (lo hi : Option Int) : List D := (xs.drop (HT.sIx xs.length 0 lo)).take (HT.sIx xs.length xs.length hi - HT.sIx xs.length 0 lo)
def slD (m : Bool) (x : D) (lo hi : Option Int) (S : Sto) (P : EQ) : Prop := match x with
  | .tup ds => P (.tup (cutD ds lo hi)) S
  | .str z => z.length ≤ sizeLine ∧ P (.str (cutS z lo hi)) S
  | x => ∃ ds, lsx S x = some ds ∧ nwL m (cutD ds lo hi) S P

/-! ### the small syntax -/
inductive BI where | len | abs | repr | int1 | str1 | tuple | list | max2 | min2 | sum | all | any
inductive MT where | append | pop | popAt | reverse | extend | insert | count | index
mutual
inductive E where
  | v (i : Nat)
  | cN
  | cB (b : Bool)
  | cI (i : Int)
  | cS (x : Str)
  | gl (x : Str) (d : D)
  | bin (o : BOp) (m : Bool) (a b : E)
  | neg (a : E)
  | cmp (o : COp) (a b : E)
  | cmp2 (o o2 : COp) (a b c : E)
  | and_ (es : Es)
  | or_ (es : Es)
  | not_ (a : E)
  | ite (t a b : E)
  | tup (es : Es)
  | lst (m : Bool) (es : Es)
  | dct (m : Bool) (es : Es)
  | ix (a i : E)
  | sl (m : Bool) (a : E) (lo hi : Eo)
  | slr (m : Bool) (a : E)
  | call (x : Str) (sp : Spec) (es : Es)
  | bi (b : BI) (m : Bool) (es : Es)
  | mt (f : MT) (a : E) (es : Es)
  | lc (m : Bool) (elt : E) (tg : G) (it : It') (ifs : Es)
  | frz (a : E)
  | isi (t : TY) (a : E)
inductive Es where
  | nil
  | cons (e : E) (r : Es)
inductive Eo where
  | none
  | some (e : E)
inductive It' where
  | val (a : E)
  | r1 (a : E)
  | r2 (a b : E)
  | r3 (a b c : E)
  | enum (a : E)
  | zip (a b : E)
  | rev (a : E)
inductive G where
  | nm (i : Nat)
  | tp (gs : Gs)
inductive Gs where
  | nil
  | cons (g : G) (r : Gs)
end
mutual
inductive Sm where
  | asg (g : G) (e : E)
  | par (is : List Nat) (es : Es)
  | asgL (i : Nat) (e : E)
  | setI (a i e : E)
  | ex (e : E)
  | ite (t : E) (a b : Sms)
  | for_ (g : G) (it : It') (b : Sms)
  | wh (t : E) (b : Sms)
  | ret (e : E)
  | retN
  | pass
  | brk
  | cont
  | rz
inductive Sms where
  | nil
  | cons (s : Sm) (r : Sms)
end
end GB

/-! GB5: operators of values against operators of data. -/
namespace GB
open PySem PySem.Spec PyProof.Rows L2

abbrev Opd := D → D → Sto → EQ → Prop
def OpL (K : FK) (r : R2) (o : Opd) : Prop := ∀ (Z F : Hp) (S : Sto) (H : Hp) (x y : D) (v u : V) (P : EQ) (Q : VK), RelH K Z F S H → Rep K F x v → Rep K F y u → o x y S P → Ct K Z F P Q → r v u H Q
def UnL (K : FK) (r : V → Hp → VK → Prop) (o : D → Sto → EQ → Prop) : Prop := ∀ (Z F : Hp) (S : Sto) (H : Hp) (x : D) (v : V) (P : EQ) (Q : VK), RelH K Z F S H → Rep K F x v → o x S P → Ct K Z F P Q → r v H Q

def wBin (o : Opd) (wa wb : WpE) : WpE := fun δ S P => wa δ S fun x S1 => wb δ S1 fun y S2 => o x y S2 P
theorem bin_lift {K : FK} {Z F0 : Hp} {r : R2} {o : Opd} {wa wb : WpE} (h : OpL K r o) {σ : VS} {H : Hp} {Q : VK} (q : LE K Z F0 (wBin o wa wb) σ H Q) : tOp r (LE K Z F0 wa) (LE K Z F0 wb) σ H Q := by
  obtain ⟨F, δ, S, P, sf, rs, rh, w, c⟩ := q
  refine ⟨F, δ, S, _, sf, rs, rh, w, ?_⟩
  intro F1 H1 S1 x v s1 rh1 rx w1
  refine ⟨F1, δ, S1, _, sf.trans s1, rs.mono s1, rh1, w1, ?_⟩
  intro F2 H2 S2 y u s2 rh2 ry w2
  exact h Z F2 S2 H2 x y v u P Q rh2 (rx.mono s2) ry w2 (c.mono (s1.trans s2))
theorem pe_bin {X : Cx} {Z F0 : Hp} {op : Operator} {r : R2} {o : Opd} {a b : Expr} {wa wb : WpE} {pos : Pos} (hr : OpR X (binaryOp op) r) (h : OpL X.K r o) (ha : PE X a (LE X.K Z F0 wa)) (hb : PE X b (LE X.K Z F0 wb)) :
    PE X (.BinOp a op b pos) (LE X.K Z F0 (wBin o wa wb)) := PE_imp (pe_op hr ha hb) fun _ _ _ q => bin_lift h q

section
variable {K : FK} {Z F : Hp} {S : Sto} {H : Hp}
/-- the value of an int, a text .. -/
theorem Rep.int_ {i : Int} {v : V} (h : Rep K F (.int i) v) : v = .int i := by cases h; rfl
theorem Rep.bl_ {i : Bool} {v : V} (h : Rep K F (.bl i) v) : v = .bl i := by cases h; rfl
theorem Rep.str_ {i : Str} {v : V} (h : Rep K F (.str i) v) : v = .str i := by cases h; rfl
theorem Rep.non_ {v : V} (h : Rep K F .non v) : v = .non := by cases h; rfl
theorem Rep.ref_ {a : Addr} {v : V} (h : Rep K F (.ref a) v) : v = .ref a := by cases h; rfl
theorem Rep.tup_ {ds : List D} {v : V} (h : Rep K F (.tup ds) v) : ∃ p vs, v = .ref p ∧ SqT K F p vs ∧ RepL K F ds vs := by cases h with | tup a b => exact ⟨_, _, rfl, a, b⟩
theorem mls_of {x : D} {ds : List D} {v : V} (R : RelH K Z F S H) (r : Rep K F x v) (h : mls S x = some ds) : ∃ p vs, v = .ref p ∧ H p = some (.lst vs) ∧ RepL K F ds vs := by
  cases r with
  | lst a b =>
    obtain rfl := Option.some.inj h
    exact ⟨_, _, rfl, R.fz _ _ a, b⟩
  | ref p =>
    have h : cL (S p) = some ds := h
    cases e : S p with
    | none => rw [e] at h; cases h
    | some c =>
      rw [e] at h
      cases c with
      | dct _ => cases h
      | lst es =>
        obtain rfl := Option.some.inj h
        obtain ⟨_, o, ho, cr⟩ := R.st p _ e
        obtain ⟨vs, rfl, rl⟩ := cr.lst
        exact ⟨p, vs, rfl, ho, rl⟩
  | _ => cases h
theorem lsx_of {x : D} {ds : List D} {v : V} (R : RelH K Z F S H) (r : Rep K F x v) (h : lsx S x = some ds) : ∃ p vs, v = .ref p ∧ SqL K H p vs ∧ RepL K F ds vs := by
  cases r with
  | lst a b =>
    obtain rfl := Option.some.inj h
    exact ⟨_, _, rfl, SqL.of (R.fz _ _ a), b⟩
  | rls a b =>
    obtain rfl := Option.some.inj h
    exact ⟨_, _, rfl, R.fz.seq a, b⟩
  | ref p =>
    obtain ⟨q, vs, e, ho, rl⟩ := mls_of R (.ref p) (show mls S (.ref p) = some ds from h)
    exact ⟨q, vs, e, SqL.of ho, rl⟩
  | _ => cases h
theorem sqx_of {x : D} {ds : List D} {v : V} (R : RelH K Z F S H) (r : Rep K F x v) (h : sqx S x = some ds) : ∃ p vs, v = .ref p ∧ (SqL K H p vs ∨ SqT K H p vs) ∧ RepL K F ds vs := by
  cases r with
  | tup a b =>
    obtain rfl := Option.some.inj h
    exact ⟨_, _, rfl, .inr (sqT_mono R.fz a), b⟩
  | lst a b =>
    obtain ⟨p, vs, e, q, rl⟩ := lsx_of R (.lst a b) (show lsx S _ = some ds from h)
    exact ⟨p, vs, e, .inl q, rl⟩
  | rls a b =>
    obtain ⟨p, vs, e, q, rl⟩ := lsx_of R (.rls a b) (show lsx S _ = some ds from h)
    exact ⟨p, vs, e, .inl q, rl⟩
  | ref a =>
    obtain ⟨p, vs, e, q, rl⟩ := lsx_of R (.ref a) (show lsx S _ = some ds from h)
    exact ⟨p, vs, e, .inl q, rl⟩
  | _ => cases h
/-- a new list -/
theorem nwL_ok {m : Bool} {ds : List D} {vs : List V} {P : EQ} {Q : VK} (R : RelH K Z F S H) (r : RepL K F ds vs) (w : nwL m ds S P) (c : Ct K Z F P Q) : ∀ p, H p = none → Q (.ref p) (upd H p (.lst vs)) := by
  intro p hp
  cases m with
  | true =>
    refine c F _ _ _ _ (Same.refl F) (R.newS (c := .lst ds) hp r) (.ref p) (w p (R.none hp).2)
  | false =>
    obtain ⟨s1, R1⟩ := R.newF (o := .lst vs) hp
    exact c _ _ _ _ _ s1 R1 (.lst upd_same (r.mono s1)) w
theorem newT_ok {ds : List D} {vs : List V} {P : EQ} {Q : VK} (R : RelH K Z F S H) (r : RepL K F ds vs) (w : P (.tup ds) S) (c : Ct K Z F P Q) : ∀ p, H p = none → Q (.ref p) (upd H p (.tup vs)) := by
  intro p hp
  obtain ⟨s1, R1⟩ := R.newF (o := .tup vs) hp
  exact c _ _ _ _ _ s1 R1 (.tup (SqT.of upd_same) (r.mono s1)) w
/-- the same thing handed on -/
theorem same_ok {x : D} {v : V} {P : EQ} {Q : VK} (R : RelH K Z F S H) (r : Rep K F x v) (w : P x S) (c : Ct K Z F P Q) : Q v H := c F H S x v (Same.refl F) R r w
theorem nwD_ok {m : Bool} {ds : List (Key × D)} {vs : List (Key × V)} {P : EQ} {Q : VK} (R : RelH K Z F S H) (r : RepK K F ds vs) (w : nwD m ds S P) (c : Ct K Z F P Q) : ∀ p, H p = none → Q (.ref p) (upd H p (.dK vs)) := by
  intro p hp
  cases m with
  | true =>
    refine c F _ _ _ _ (Same.refl F) (R.newS (c := .dct ds) hp r) (.ref p) (w p (R.none hp).2)
  | false =>
    obtain ⟨s1, R1⟩ := R.newF (o := .dK vs) hp
    exact c _ _ _ _ _ s1 R1 (.dct upd_same (r.mono s1)) w
end

/-! ### + -/
def rAddA (K : FK) : R2 := fun x y H Q => rI0 (fun i j => .int (i + j)) x y H Q ∨ (∃ i j, x = .str i ∧ y = .str j ∧ i.length + j.length ≤ sizeLine ∧ Q (.str (i ++ j)) H) ∨ rCatA K x y H Q ∨ rCat x y H Q
theorem op_addA {X : Cx} : OpR X (binaryOp .Add) (rAddA X.K) := op_add.or (op_add_str.or (op_catA.or op_cat))
theorem addL {K : FK} {m : Bool} : OpL K (rAddA K) (addD m) := by
  intro Z F S H x y v u P Q R rx ry w c
  cases x with
  | int i =>
    cases y with
    | int j =>
      cases rx; cases ry
      exact .inl ⟨i, j, rfl, rfl, same_ok R (.int _) w c⟩
    | _ => exact absurd w id
  | str i =>
    cases y with
    | str j =>
      cases rx; cases ry
      exact .inr (.inl ⟨i, j, rfl, rfl, w.1, same_ok R (.str _) w.2 c⟩)
    | _ => exact absurd w id
  | tup a =>
    cases y with
    | tup b =>
      obtain ⟨p, vs, rfl, h1, r1⟩ := rx.tup_
      obtain ⟨q, us, rfl, h2, r2⟩ := ry.tup_
      obtain ⟨hl, w⟩ := w
      refine .inr (.inr (.inl ⟨p, q, vs, us, rfl, rfl, sqT_mono R.fz h1, sqT_mono R.fz h2, by rw [← r1.length, ← r2.length]; exact hl, ?_, ?_, ?_⟩))
      · rintro rfl
        cases r1
        exact same_ok R ry (show P (.tup b) S from w) c
      · rintro _ rfl
        cases r2
        rw [List.append_nil] at w
        exact same_ok R rx w c
      · intro _ _
        exact newT_ok R (r1.app r2) w c
    | _ => exact absurd w id
  | lst a =>
    obtain ⟨b, hb, hl, w⟩ := w
    obtain ⟨p, vs, rfl, h1, r1⟩ := mls_of R rx (show mls S (.lst a) = some a from rfl)
    obtain ⟨q, us, rfl, h2, r2⟩ := mls_of R ry hb
    exact .inr (.inr (.inr ⟨p, q, vs, us, rfl, rfl, h1, h2, by rw [← r1.length, ← r2.length]; exact hl, nwL_ok R (r1.app r2) w c⟩))
  | ref a =>
    obtain ⟨a', b, ha, hb, hl, w⟩ := w
    obtain ⟨p, vs, rfl, h1, r1⟩ := mls_of R rx ha
    obtain ⟨q, us, rfl, h2, r2⟩ := mls_of R ry hb
    exact .inr (.inr (.inr ⟨p, q, vs, us, rfl, rfl, h1, h2, by rw [← r1.length, ← r2.length]; exact hl, nwL_ok R (r1.app r2) w c⟩))
  | _ => exact absurd w id

theorem subL {K : FK} : OpL K (rI0 fun i j => .int (i - j)) subD := by
  intro Z F S H x y v u P Q R rx ry w c
  cases x with
  | int i =>
    cases y with
    | int j =>
      cases rx; cases ry
      exact ⟨i, j, rfl, rfl, same_ok R (.int _) w c⟩
    | _ => exact absurd w id
  | _ => exact absurd w id
def rMulA : R2 := fun x y H Q => rI CMulW (fun i j => .int (i * j)) x y H Q ∨ rRep x y H Q
theorem op_mulA {X : Cx} : OpR X (binaryOp .Mult) rMulA := op_mulW.or op_rep
theorem mulL {K : FK} {m : Bool} : OpL K rMulA (mulD m) := by
  intro Z F S H x y v u P Q R rx ry w c
  cases x with
  | int i =>
    cases y with
    | int j =>
      cases rx; cases ry
      exact .inl ⟨i, j, rfl, rfl, w.1, same_ok R (.int _) w.2 c⟩
    | _ => exact absurd w id
  | lst a =>
    cases y with
    | int k =>
      obtain ⟨⟨h1, h2, h3⟩, w⟩ := w
      obtain ⟨p, vs, rfl, h4, r1⟩ := mls_of R rx (show mls S (.lst a) = some a from rfl)
      cases ry
      exact .inr ⟨p, k, vs, rfl, rfl, h4, h1, h2, by rw [← r1.length]; exact h3, nwL_ok R (r1.rep _) w c⟩
    | _ => exact absurd w id
  | _ => exact absurd w id
theorem op_fdivA {X : Cx} : OpR X (binaryOp .FloorDiv) (rI (fun _ j => CDvD j) fun i j => .int (i.fdiv j)) :=
  opI fun i j _ _ _ _ _ hc q => floordiv_int hc.1 q (.inl (PyProof.noPylong_of_log2 hc.2))
theorem fdivL {K : FK} : OpL K (rI (fun _ j => CDvD j) fun i j => .int (i.fdiv j)) fdivD := by
  intro Z F S H x y v u P Q R rx ry w c
  cases x with
  | int i =>
    cases y with
    | int j =>
      cases rx; cases ry
      exact ⟨i, j, rfl, rfl, w.1, same_ok R (.int _) w.2 c⟩
    | _ => exact absurd w id
  | _ => exact absurd w id
theorem modL {K : FK} : OpL K (rI (fun _ j => j ≠ 0) fun i j => .int (i.fmod j)) modD := by
  intro Z F S H x y v u P Q R rx ry w c
  cases x with
  | int i =>
    cases y with
    | int j =>
      cases rx; cases ry
      exact ⟨i, j, rfl, rfl, w.1, same_ok R (.int _) w.2 c⟩
    | _ => exact absurd w id
  | _ => exact absurd w id
theorem op_powA {X : Cx} : OpR X (binaryOp .Pow) (rI CPwD fun i j => .int (i ^ j.toNat)) := by
  refine opI fun i j _ _ _ _ _ hc q => ?_
  refine pow_int hc.1 ?_ q
  have e : Builtin.Int.intBits i ≤ i.natAbs.log2 + 1 := by
    unfold Builtin.Int.intBits
    split <;> omega
  obtain ⟨k, rfl⟩ : ∃ k : Nat, j = (k : Int) := ⟨j.toNat, by have := hc.1; omega⟩
  have h2 : (i.natAbs.log2 + 1) * k ≤ 134217728 := hc.2
  have h3 : Builtin.Int.intBits i * k ≤ (i.natAbs.log2 + 1) * k := Nat.mul_le_mul_right k e
  have h4 : Builtin.Int.intBits i * k ≤ 134217728 := Nat.le_trans h3 h2
  have e27 : (2 : Int) ^ 27 = 134217728 := by decide
  rw [e27]
  have h5 : ((Builtin.Int.intBits i * k : Nat) : Int) ≤ ((134217728 : Nat) : Int) := Int.ofNat_le.mpr h4
  rw [Int.natCast_mul] at h5
  exact h5
theorem powL {K : FK} : OpL K (rI CPwD fun i j => .int (i ^ j.toNat)) powD := by
  intro Z F S H x y v u P Q R rx ry w c
  cases x with
  | int i =>
    cases y with
    | int j =>
      cases rx; cases ry
      exact ⟨i, j, rfl, rfl, w.1, same_ok R (.int _) w.2 c⟩
    | _ => exact absurd w id
  | _ => exact absurd w id

/-! ### comparisons -/
mutual
theorem py_of {K : FK} {Z F : Hp} {S : Sto} {H : Hp} (R : RelH K Z F S H) : ∀ (n : Nat) (x : D) (v : V) (d : PyData), Rep K F x v → pyOf S n x = some d → Dp K H v d
  | n + 1, .non, _, _, r, h => by cases r; cases h; exact .non
  | n + 1, .bl b, _, _, r, h => by cases r; cases h; exact .bl b
  | n + 1, .int b, _, _, r, h => by cases r; cases h; exact .int b
  | n + 1, .str b, _, _, r, h => by cases r; cases h; exact .str b
  | n + 1, .tup ds, _, d, r, h => by
    obtain ⟨p, vs, rfl, h1, r1⟩ := r.tup_
    unfold pyOf at h
    cases e : pyL (pyOf S n) ds with
    | none => rw [e] at h; cases h
    | some xs =>
      rw [e] at h; cases h
      exact .tup (sqT_mono R.fz h1) (pyL_of R n ds vs xs r1 e)
  | n + 1, .lst ds, v, d, r, h => by
    obtain ⟨p, vs, rfl, h1, r1⟩ := mls_of R r (show mls S (.lst ds) = some ds from rfl)
    unfold pyOf at h
    cases e : pyL (pyOf S n) ds with
    | none => rw [e] at h; cases h
    | some xs =>
      rw [e] at h; cases h
      exact .lst (SqL.of h1) (pyL_of R n ds vs xs r1 e)
  | n + 1, .rls ds, v, d, r, h => by
    obtain ⟨p, vs, rfl, h1, r1⟩ := lsx_of R r (show lsx S (.rls ds) = some ds from rfl)
    unfold pyOf at h
    cases e : pyL (pyOf S n) ds with
    | none => rw [e] at h; cases h
    | some xs =>
      rw [e] at h; cases h
      exact .lst h1 (pyL_of R n ds vs xs r1 e)
  | n + 1, .ref a, v, d, r, h => by
    unfold pyOf at h
    cases q : cL (S a) with
    | none => rw [q] at h; cases h
    | some ds =>
      rw [q] at h
      obtain ⟨p, vs, rfl, h1, r1⟩ := mls_of R r (show mls S (.ref a) = some ds from q)
      have h' : (pyL (pyOf S n) ds).map PyData.list = some d := h
      cases e : pyL (pyOf S n) ds with
      | none => rw [e] at h'; cases h'
      | some xs =>
        rw [e] at h'; cases h'
        exact .lst (SqL.of h1) (pyL_of R n ds vs xs r1 e)
  | n + 1, .dct _, _, _, r, h => by cases h
theorem pyL_of {K : FK} {Z F : Hp} {S : Sto} {H : Hp} (R : RelH K Z F S H) : ∀ (n : Nat) (ds : List D) (vs : List V) (xs : List PyData), RepL K F ds vs → pyL (pyOf S n) ds = some xs → DpAll K H vs xs
  | n, [], _, _, r, h => by cases r; cases h; exact .nil
  | n, d :: ds, _, xs, .cons r t, h => by
    unfold pyL at h
    cases e : pyOf S n d with
    | none => rw [e] at h; cases h
    | some y =>
      rw [e] at h
      cases e2 : pyL (pyOf S n) ds with
      | none => rw [e2] at h; cases h
      | some ys =>
        rw [e2] at h; cases h
        exact .cons (py_of R n d _ y r e) (pyL_of R n ds _ ys t e2)
end
def rEqA (K : FK) : R2 := fun x y H Q => rEq x y H Q ∨ rEqD K x y H Q
def rNeA (K : FK) : R2 := fun x y H Q => rNe x y H Q ∨ rNeD K x y H Q
theorem op_eqA {X : Cx} (hu : X.A.units + 64 < cLine) : OpR X (compareOp .Eq) (rEqA X.K) := op_eq.or (op_eqD hu)
theorem op_neA {X : Cx} (hu : X.A.units + 64 < cLine) : OpR X (compareOp .NotEq) (rNeA X.K) := op_ne.or (op_neD hu)
theorem eqL {K : FK} : OpL K (rEqA K) (eqD false) := by
  intro Z F S H x y v u P Q R rx ry w c
  have gen : (∃ n d e, pyOf S n x = some d ∧ pyOf S n y = some e ∧ SeqAt.shaped d = true ∧ SeqAt.shaped e = true ∧ P (.bl (xor false (PyData.eqv d e))) S) → rEqA K v u H Q := by
    rintro ⟨n, d, e, h1, h2, s1, s2, q⟩
    rw [Bool.false_xor] at q
    exact .inr ⟨d, e, py_of R n x v d rx h1, py_of R n y u e ry h2, s1, s2, same_ok R (.bl _) q c⟩
  cases x <;> cases y <;> first
    | exact gen w
    | (cases rx; cases ry
       refine .inl ⟨rfl, ?_⟩
       have q := same_ok R (.bl _) w c
       rw [Bool.false_xor] at q
       first
         | (have e : ∀ i j : Int, decide (V.int i = V.int j) = decide (i = j) := fun i j => by rw [dec_int, Bool.beq_eq_decide_eq]
            rw [e]; exact q)
         | (have e : ∀ i j : Str, decide (V.str i = V.str j) = decide (i = j) := fun i j => by rw [dec_str, Bool.beq_eq_decide_eq]
            rw [e]; exact q)
         | (have e : ∀ i j : Bool, decide (V.bl i = V.bl j) = decide (i = j) := fun i j => by rw [dec_bl, Bool.beq_eq_decide_eq]
            rw [e]; exact q))
theorem neL {K : FK} : OpL K (rNeA K) (eqD true) := by
  intro Z F S H x y v u P Q R rx ry w c
  have gen : (∃ n d e, pyOf S n x = some d ∧ pyOf S n y = some e ∧ SeqAt.shaped d = true ∧ SeqAt.shaped e = true ∧ P (.bl (xor true (PyData.eqv d e))) S) → rNeA K v u H Q := by
    rintro ⟨n, d, e, h1, h2, s1, s2, q⟩
    rw [Bool.true_xor] at q
    exact .inr ⟨d, e, py_of R n x v d rx h1, py_of R n y u e ry h2, s1, s2, same_ok R (.bl _) q c⟩
  cases x <;> cases y <;> first
    | exact gen w
    | (cases rx; cases ry
       refine .inl ⟨rfl, ?_⟩
       have q := same_ok R (.bl _) w c
       rw [Bool.true_xor] at q
       first
         | (have e : ∀ i j : Int, decide (V.int i = V.int j) = decide (i = j) := fun i j => by rw [dec_int, Bool.beq_eq_decide_eq]
            rw [e]; exact q)
         | (have e : ∀ i j : Str, decide (V.str i = V.str j) = decide (i = j) := fun i j => by rw [dec_str, Bool.beq_eq_decide_eq]
            rw [e]; exact q)
         | (have e : ∀ i j : Bool, decide (V.bl i = V.bl j) = decide (i = j) := fun i j => by rw [dec_bl, Bool.beq_eq_decide_eq]
            rw [e]; exact q))
theorem icmpL {K : FK} (p : Int → Int → Bool) : OpL K (rI0 fun i j => .bl (p i j)) (icmp p) := by
  intro Z F S H x y v u P Q R rx ry w c
  cases x with
  | int i =>
    cases y with
    | int j =>
      cases rx; cases ry
      exact ⟨i, j, rfl, rfl, same_ok R (.bl _) w c⟩
    | _ => exact absurd w id
  | _ => exact absurd w id
theorem isNon_of {K : FK} {F : Hp} {x : D} {v : V} (r : Rep K F x v) : decide (v = V.non) = isNon x := by cases r <;> rfl
theorem isNL {K : FK} : OpL K (fun x y H Q => y = .non ∧ Q (.bl (decide (x = .non))) H) (cmpD .isN) := by
  intro Z F S H x y v u P Q R rx ry w c
  have e := isNon_of ry
  rw [w.1] at e
  refine ⟨of_decide_eq_true e, ?_⟩
  rw [isNon_of rx]
  exact same_ok R (.bl _) w.2 c
theorem noNL {K : FK} : OpL K (fun x y H Q => y = .non ∧ Q (.bl (!decide (x = .non))) H) (cmpD .noN) := by
  intro Z F S H x y v u P Q R rx ry w c
  have e := isNon_of ry
  rw [w.1] at e
  refine ⟨of_decide_eq_true e, ?_⟩
  rw [isNon_of rx]
  exact same_ok R (.bl _) w.2 c

/-! ### in, not in -/
def rInA (K : FK) (neg : Bool) : R2 := fun x y H Q => ∃ d e ds, Dp K H x d ∧ Dp K H y e ∧ (e = .list ds ∨ e = .tuple ds) ∧ (SeqAt.shaped d = true ∧ d.depth ≤ 60) ∧ SeqAt.shaped e = true ∧ Q (.bl (xor neg (ds.any fun z => PyData.eqv z d))) H
theorem room_inA {A : Around} {d : PyData} {n : Nat} (sd : d.depth ≤ 60) (hu : A.units + 64 < cLine) : A.units + 1 + min n d.depth < cLine := by
  have : min n d.depth ≤ d.depth := Nat.min_le_right _ _
  omega
theorem op_inA {X : Cx} (hu : X.A.units + 64 < cLine) : OpR X (compareOp .In) (rInA X.K false) := by
  intro pins s σ H x y v u Q I rx ry h
  obtain ⟨d, e, ds, hd, he, he2, ⟨sd, sd2⟩, se, q⟩ := h
  obtain ⟨as, r1⟩ := Dp.reads I d x v hd rx
  obtain ⟨bs, r2⟩ := Dp.reads I e y u he ry
  rw [Bool.false_xor] at q
  rcases he2 with rfl | rfl
  · exact SeqAt.in_list_reads r2 r1 (SeqAt.canLay_of_shaped se) (SeqAt.canLay_of_shaped sd) (room_inA sd2 hu) ⟨.bl _, H, I, rfl, q⟩
  · exact SeqAt.in_tuple_reads r2 r1 (SeqAt.canLay_of_shaped se) (SeqAt.canLay_of_shaped sd) (room_inA sd2 hu) ⟨.bl _, H, I, rfl, q⟩
theorem op_notInA {X : Cx} (hu : X.A.units + 64 < cLine) : OpR X (compareOp .NotIn) (rInA X.K true) := by
  intro pins s σ H x y v u Q I rx ry h
  obtain ⟨d, e, ds, hd, he, he2, ⟨sd, sd2⟩, se, q⟩ := h
  obtain ⟨as, r1⟩ := Dp.reads I d x v hd rx
  obtain ⟨bs, r2⟩ := Dp.reads I e y u he ry
  rw [Bool.true_xor] at q
  rcases he2 with rfl | rfl
  · exact SeqAt.notIn_list_reads r2 r1 (SeqAt.canLay_of_shaped se) (SeqAt.canLay_of_shaped sd) (room_inA sd2 hu) ⟨.bl _, H, I, rfl, q⟩
  · exact SeqAt.notIn_tuple_reads r2 r1 (SeqAt.canLay_of_shaped se) (SeqAt.canLay_of_shaped sd) (room_inA sd2 hu) ⟨.bl _, H, I, rfl, q⟩
theorem inL {K : FK} {neg : Bool} : OpL K (rInA K neg) (inD neg) := by
  intro Z F S H x y v u P Q R rx ry w c
  obtain ⟨n, d, e, ds, h1, h2, h3, s1, s2, q⟩ := w
  exact ⟨d, e, ds, py_of R n x v d rx h1, py_of R n y u e ry h2, h3, s1, s2, same_ok R (.bl _) q c⟩
/-! ### shifts -/
def rShlA : R2 := fun x y H Q => ∃ (i : Int) (k : Nat), x = .int i ∧ y = .int (k : Int) ∧ CShl i (k : Int) ∧ Q (.int (i * 2 ^ k)) H
def rShrA : R2 := fun x y H Q => ∃ (i : Int) (k : Nat), x = .int i ∧ y = .int (k : Int) ∧ Q (.int (i / 2 ^ k)) H
def rAndA : R2 := fun x y H Q => ∃ (i : Int) (k : Nat), x = .int i ∧ y = .int (2 ^ k - 1) ∧ Q (.int (i % 2 ^ k)) H
theorem shlL {K : FK} : OpL K rShlA shlD := by
  intro Z F S H x y v u P Q R rx ry w c
  cases x with
  | int i =>
    cases y with
    | int j =>
      cases rx; cases ry
      obtain ⟨⟨h0, h1⟩, w⟩ := w
      exact ⟨i, j.toNat, rfl, by rw [Int.toNat_of_nonneg h0], by rw [Int.toNat_of_nonneg h0]; exact h1, same_ok R (.int _) w c⟩
    | _ => exact absurd w id
  | _ => exact absurd w id
theorem shrL {K : FK} : OpL K rShrA shrD := by
  intro Z F S H x y v u P Q R rx ry w c
  cases x with
  | int i =>
    cases y with
    | int j =>
      cases rx; cases ry
      obtain ⟨h0, w⟩ := w
      exact ⟨i, j.toNat, rfl, by rw [Int.toNat_of_nonneg h0], same_ok R (.int _) w c⟩
    | _ => exact absurd w id
  | _ => exact absurd w id
theorem bandL {K : FK} : OpL K rAndA bandD := by
  intro Z F S H x y v u P Q R rx ry w c
  cases x with
  | int i =>
    cases y with
    | int j =>
      cases rx; cases ry
      obtain ⟨rfl, w⟩ := w
      exact ⟨i, 1, rfl, rfl, same_ok R (.int _) w c⟩
    | _ => exact absurd w id
  | _ => exact absurd w id

/-! ### places, slices, truth -/
def dIx (hu : Nat) : R2 := fun x y H Q => ∃ a v, x = .ref a ∧ DGet H a y (some v) ∧ Q v H
theorem ix_dict {X : Cx} (hu : X.A.units + 1 < cLine) : IxR X (dIx 0) := by
  intro value slice pins s σ H x y v u Q I rx ry h hs
  obtain ⟨a, z, rfl, g, q⟩ := h
  cases rx
  exact tail_any (dict_typeIs I g) PySem.F.slot_dict_getitem.lookup (d_getItem hu I g ry fun w' s3 I3 rw' => ⟨z, H, I3, rw', q⟩) hs
def rIxA (K : FK) : R2 := fun x y H Q => rIx K x y H Q ∨ dIx 0 x y H Q
theorem ix_any {X : Cx} (hu : X.A.units + 1 < cLine) : IxR X (rIxA X.K) := ix_seq.or (ix_dict hu)
theorem key_of {K : FK} {F : Hp} {y : D} {u : V} {k : Key} (r : Rep K F y u) (h : keyD y = some k) : u = kV k := by
  cases r <;> first
    | (cases h; rfl)
    | cases h
theorem look_of {K : FK} {F : Hp} : ∀ {ds : List (Key × D)} {vs : List (Key × V)} {k : Key} {d : D}, RepK K F ds vs → lookK ds k = some d → ∃ v, valV vs k = some v ∧ Rep K F d v
  | _, _, _, _, .nil, h => by cases h
  | _, _, k, d, @RepK.cons _ _ k0 d0 v0 ds vs r t, h => by
    unfold lookK at h
    by_cases e : k0 = k
    · rw [if_pos e] at h
      cases h
      exact ⟨v0, by simp [valV, List.find?_cons, e], r⟩
    · rw [if_neg e] at h
      obtain ⟨v, h1, h2⟩ := look_of t h
      refine ⟨v, ?_, h2⟩
      unfold valV at h1 ⊢
      rw [List.find?_cons]
      simp only [e, decide_false]
      exact h1
theorem ixL {K : FK} : OpL K (rIxA K) ixD := by
  intro Z F S H x y v u P Q R rx ry w c
  have list : ∀ (ds : List D) (i : Int) (d : D), lsx S x = some ds → y = .int i → atI ds i = some d → P d S → rIxA K v u H Q := by
    rintro ds i d e rfl hd p
    obtain ⟨a, vs, rfl, h1, r1⟩ := lsx_of R rx e
    obtain ⟨z, hz, rz⟩ := r1.atI hd
    cases ry
    exact .inl (.inl ⟨a, vs, i, z, rfl, rfl, h1, hz, same_ok R rz p c⟩)
  cases x with
  | tup ds =>
    cases y with
    | int i =>
      obtain ⟨d, hd, p⟩ := w
      obtain ⟨a, vs, rfl, h1, r1⟩ := rx.tup_
      obtain ⟨z, hz, rz⟩ := r1.atI hd
      cases ry
      exact .inl (.inr (.inl ⟨a, vs, i, z, rfl, rfl, sqT_mono R.fz h1, hz, same_ok R rz p c⟩))
    | _ => exact absurd w id
  | lst ds =>
    cases y with
    | int i =>
      obtain ⟨d, hd, p⟩ := w
      exact list ds i d rfl rfl hd p
    | _ => exact absurd w id
  | rls ds =>
    cases y with
    | int i =>
      obtain ⟨d, hd, p⟩ := w
      exact list ds i d rfl rfl hd p
    | _ => exact absurd w id
  | str z =>
    cases y with
    | int i =>
      obtain ⟨hl, ch, hc, p⟩ := w
      cases rx; cases ry
      exact .inl (.inr (.inr ⟨z, i, ch, rfl, rfl, hl, hc, same_ok R (.str _) p c⟩))
    | _ => exact absurd w id
  | ref a =>
    have w : ixC (S a) y S P := w
    cases e : S a with
    | none => rw [e] at w; exact absurd w id
    | some ce =>
      rw [e] at w
      cases ce with
      | lst ds =>
        cases y with
        | int i =>
          obtain ⟨d, hd, p⟩ := w
          exact list ds i d (show cL (S a) = some ds by rw [e]; rfl) rfl hd p
        | _ => exact absurd w id
      | dct ds =>
        obtain ⟨k, d, hk, hd, p⟩ := w
        obtain ⟨_, o, ho, cr⟩ := R.st a _ e
        obtain ⟨vs, rfl, rk⟩ := cr.dct
        obtain ⟨z, hz, rz⟩ := look_of rk hd
        cases rx
        obtain rfl := key_of ry hk
        refine .inr ⟨a, z, rfl, ?_, same_ok R rz p c⟩
        rw [← hz]
        exact DGet.k ho
  | _ => exact absurd w id

abbrev RSl := V → Option Int → Option Int → Hp → VK → Prop
def rSlX (K : FK) : RSl := fun x lo hi H Q => rSlL K x lo hi H Q ∨ rSlA K x lo hi H Q ∨ rSlS x lo hi H Q
theorem sl_any {X : Cx} : SlR X (rSlX X.K) := sl_list.or (sl_tupA.or sl_str)
theorem RepL.cut {K : FK} {F : Hp} {ds : List D} {vs : List V} (r : RepL K F ds vs) (lo hi : Option Int) : RepL K F (cutD ds lo hi) (cutV vs lo hi) := by
  unfold cutD cutV
  rw [r.length]
  exact (r.drop _).take _
theorem cut_whole {ds : List D} {lo hi : Option Int} (h : HT.sIx ds.length 0 lo = 0 ∧ HT.sIx ds.length ds.length hi = ds.length) : cutD ds lo hi = ds := by
  unfold cutD
  rw [h.1, h.2]
  simp
theorem slL {K : FK} {m : Bool} {Z F : Hp} {S : Sto} {H : Hp} {x : D} {v : V} {lo hi : Option Int} {P : EQ} {Q : VK} (R : RelH K Z F S H) (rx : Rep K F x v) (w : slD m x lo hi S P) (c : Ct K Z F P Q) : rSlX K v lo hi H Q := by
  have gen : (∃ ds, lsx S x = some ds ∧ nwL m (cutD ds lo hi) S P) → rSlX K v lo hi H Q := by
    rintro ⟨ds, e, w⟩
    obtain ⟨p, vs, rfl, h1, r1⟩ := lsx_of R rx e
    exact .inl ⟨p, vs, rfl, h1, nwL_ok R (r1.cut lo hi) w c⟩
  cases x with
  | tup ds =>
    obtain ⟨p, vs, rfl, h1, r1⟩ := rx.tup_
    refine .inr (.inl ⟨p, vs, rfl, sqT_mono R.fz h1, ?_, ?_⟩)
    · intro hw
      rw [← r1.length] at hw
      have w' : P (.tup (cutD ds lo hi)) S := w
      rw [cut_whole hw] at w'
      exact same_ok R rx w' c
    · intro _
      exact newT_ok R (r1.cut lo hi) w c
  | str z =>
    cases rx
    exact .inr (.inr ⟨z, rfl, w.1, same_ok R (.str _) w.2 c⟩)
  | _ => exact gen w
theorem truL {K : FK} {Z F : Hp} {S : Sto} {H : Hp} {x : D} {v : V} {P : Bool → Sto → Prop} (R : RelH K Z F S H) (rx : Rep K F x v) (w : truD x S P) : ∃ k, TruV K v H k ∧ P k S := by
  have emp : ∀ {ds : List D} {vs : List V}, RepL K F ds vs → (!ds.isEmpty) = !vs.isEmpty := by
    intro ds vs r
    cases r <;> rfl
  cases x with
  | non => cases rx; exact ⟨_, rfl, w⟩
  | bl b => cases rx; exact ⟨_, rfl, w⟩
  | int i => cases rx; exact ⟨_, rfl, w⟩
  | str z => cases rx; exact ⟨_, ⟨w.1, rfl⟩, w.2⟩
  | tup ds =>
    obtain ⟨p, vs, rfl, h1, r1⟩ := rx.tup_
    exact ⟨_, .inr (.inl ⟨vs, sqT_mono R.fz h1, emp r1⟩), w⟩
  | lst ds =>
    obtain ⟨p, vs, rfl, h1, r1⟩ := mls_of R rx (show mls S (.lst ds) = some ds from rfl)
    exact ⟨_, .inl ⟨vs, SqL.of h1, emp r1⟩, w⟩
  | ref a =>
    obtain ⟨ds, e, w⟩ := w
    obtain ⟨p, vs, rfl, h1, r1⟩ := mls_of R rx (show mls S (.ref a) = some ds from e)
    exact ⟨_, .inl ⟨vs, SqL.of h1, emp r1⟩, w⟩
  | _ => exact absurd w id
end GB

/-! GB6: built-in functions and methods of data. -/
namespace GB
open PySem PySem.Spec PyProof.Rows L2

/-! ### repr -/
def reprD (x : D) (S : Sto) (P : EQ) : Prop := ∃ n d, pyOf S n x = some d ∧ d.showable = true ∧ d.hasDict = false ∧ d.depth ≤ 60 ∧ d.shown.length ≤ sizeLine ∧ P (.str d.shown) S
def rRepr (K : FK) : List V → Hp → VK → Prop := fun xs H Q => ∃ x d, xs = [x] ∧ Dp K H x d ∧ d.showable = true ∧ d.hasDict = false ∧ d.depth ≤ 60 ∧ d.shown.length ≤ sizeLine ∧ Q (.str d.shown) H
theorem cr_repr {X : Cx} (hg : X.A.guards = some []) (hu : X.A.units + 64 < cLine) : CallR X (.builtin "repr") (rRepr X.K) := by
  intro pins s σ H xs us Q I rs h
  obtain ⟨x, d, rfl, hd, h1, h2, h3, h4, q⟩ := h
  obtain ⟨u, rfl, rx⟩ := vals1 rs
  have fin : ∀ (h' : Heap) (t : Tok) (tk : Nat), (∀ b o, s.heap.get? b = some o → h'.get? b = some o) → EP X pins σ Q (.str d.shown t) { s with heap := h', toks := tk } := by
    intro h' t tk k
    exact ⟨.str _, H, I.kept (t' := tk) k, ⟨_, rfl⟩, q⟩
  obtain ⟨as, rd⟩ := Dp.reads I d x u hd rx
  cases hd with
  | non => cases rx; exact PySem.P.repr_of_none (fin s.heap _ _ fun _ _ e => e)
  | bl b => cases rx; exact PySem.P.repr_of_bool (fin s.heap _ _ fun _ _ e => e)
  | int i =>
    obtain ⟨t, rfl⟩ := rx
    exact PySem.P.repr_of_int (of_decide_eq_true h1) (fin s.heap _ _ fun _ _ e => e)
  | str z =>
    obtain ⟨t, rfl⟩ := rx
    exact PySem.P.repr_of_str (fin s.heap _ _ fun _ _ e => e) h4
  | lst a b =>
    cases rx
    exact repr_of_reads' rd h1 (PyData.noDict_hsm h2) hg (by omega) (fun _ _ e => e) (fun h' u tk k => fin h' u tk k) h4
  | tup a b =>
    cases rx
    exact repr_of_reads' rd h1 (PyData.noDict_hsm h2) hg (by omega) (fun _ _ e => e) (fun h' u tk k => fin h' u tk k) h4

/-! ### built-ins by their data -/
abbrev OpdA := List D → Sto → EQ → Prop
def CaL (K : FK) (r : List V → Hp → VK → Prop) (o : OpdA) : Prop := ∀ (Z F : Hp) (S : Sto) (H : Hp) (xs : List D) (vs : List V) (P : EQ) (Q : VK), RelH K Z F S H → RepL K F xs vs → o xs S P → Ct K Z F P Q → r vs H Q
theorem RepL.one {K : FK} {F : Hp} {d : D} {vs : List V} (h : RepL K F [d] vs) : ∃ v, vs = [v] ∧ Rep K F d v := by
  cases h with
  | cons a b => cases b; exact ⟨_, rfl, a⟩
theorem RepL.two {K : FK} {F : Hp} {d e : D} {vs : List V} (h : RepL K F [d, e] vs) : ∃ v u, vs = [v, u] ∧ Rep K F d v ∧ Rep K F e u := by
  cases h with
  | cons a b =>
    obtain ⟨u, rfl, c⟩ := b.one
    exact ⟨_, u, rfl, a, c⟩

def lenO : OpdA := fun xs S P => match xs with
  | [.str z] => z.length ≤ sizeLine ∧ P (.int z.length) S
  | [.dct ds] => P (.int ds.length) S
  | [x] => ∃ ds, sqx S x = some ds ∧ P (.int ds.length) S
  | _ => False
def absO : OpdA := fun xs S P => match xs with
  | [.int i] => P (.int (if i < 0 then -i else i)) S
  | _ => False
def reprO : OpdA := fun xs S P => match xs with
  | [x] => reprD x S P
  | _ => False
def intO : OpdA := fun xs S P => match xs with
  | [.int i] => P (.int i) S
  | [.bl b] => P (.int (if b then 1 else 0)) S
  | _ => False
def strO : OpdA := fun xs S P => match xs with
  | [.int i] => i.natAbs.log2 < 1920 ∧ P (.str (toString i)) S
  | [.str z] => P (.str z) S
  | _ => False
def tupO : OpdA := fun xs S P => match xs with
  | [.tup ds] => P (.tup ds) S
  | [x] => ∃ ds, lsx S x = some ds ∧ P (.tup ds) S
  | _ => False
def lstO (m : Bool) : OpdA := fun xs S P => match xs with
  | [x] => ∃ ds, sqx S x = some ds ∧ nwL m ds S P
  | _ => False
def maxO : OpdA := fun xs S P => match xs with
  | [.int i, .int j] => P (.int (if j > i then j else i)) S
  | _ => False
def minO : OpdA := fun xs S P => match xs with
  | [.int i, .int j] => P (.int (if j < i then j else i)) S
  | _ => False
def blL : List D → Option (List Bool)
  | [] => some []
  | .bl b :: r => (match blL r with
    | some bs => some (b :: bs)
    | none => none)
  | _ :: _ => none
def allO : OpdA := fun xs S P => match xs with
  | [x] => ∃ ds bs, lsx S x = some ds ∧ blL ds = some bs ∧ P (.bl (bs.all id)) S
  | _ => False
def anyO : OpdA := fun xs S P => match xs with
  | [x] => ∃ ds bs, lsx S x = some ds ∧ blL ds = some bs ∧ P (.bl (bs.any id)) S
  | _ => False
theorem blL_of {K : FK} {F : Hp} : ∀ {ds : List D} {vs : List V} {bs : List Bool}, RepL K F ds vs → blL ds = some bs → vs = bs.map V.bl
  | _, _, bs, .nil, h => by
    cases h; rfl
  | _, _, bs, .cons (d := d) r t, h => by
    cases d with
    | bl b =>
      unfold blL at h
      cases q : blL _ with
      | none => rw [q] at h; cases h
      | some cs =>
        rw [q] at h
        cases h
        cases r
        rw [blL_of t q]; rfl
    | _ => cases h
def biO (b : BI) (m : Bool) : OpdA := match b with
  | .len => lenO
  | .abs => absO
  | .repr => reprO
  | .int1 => intO
  | .str1 => strO
  | .tuple => tupO
  | .list => lstO m
  | .max2 => maxO
  | .min2 => minO
  | .all => allO
  | .any => anyO
  | _ => fun _ _ _ => False

/-- what a built-in name stands for -/
def biV : BI → Str × Value
  | .len => ("len", .builtin "len")
  | .abs => ("abs", .builtin "abs")
  | .repr => ("repr", .builtin "repr")
  | .int1 => ("int", .type "int")
  | .str1 => ("str", .type "str")
  | .tuple => ("tuple", .type "tuple")
  | .list => ("list", .type "list")
  | .max2 => ("max", .builtin "max")
  | .min2 => ("min", .builtin "min")
  | .sum => ("sum", .builtin "sum")
  | .all => ("all", .builtin "all")
  | .any => ("any", .builtin "any")
theorem biV_boot : ∀ b : BI, bootBuiltins (biV b).1 = some (biV b).2 := by
  intro b
  cases b <;> decide +kernel
theorem biV_name : ∀ b : BI, (biV b).1 ≠ "__name__" ∧ ((biV b).1 == ("__debug__" : Str)) = false := by
  intro b
  cases b <;> decide +kernel

theorem Rep.dct_ {K : FK} {F : Hp} {ds : List (Key × D)} {v : V} (h : Rep K F (.dct ds) v) : ∃ p vs, v = .ref p ∧ F p = some (.dK vs) ∧ RepK K F ds vs := by cases h with | dct a b => exact ⟨_, _, rfl, a, b⟩
theorem RepK.length {K : FK} {F : Hp} : ∀ {ds : List (Key × D)} {vs : List (Key × V)}, RepK K F ds vs → ds.length = vs.length
  | _, _, .nil => rfl
  | _, _, .cons _ t => by rw [List.length_cons, List.length_cons, RepK.length t]
def rLenA (K : FK) : List V → Hp → VK → Prop := fun xs H Q => (∃ p ys, xs = [.ref p] ∧ (SqL K H p ys ∨ SqT K H p ys) ∧ Q (.int ys.length) H) ∨ (∃ z, xs = [.str z] ∧ z.length ≤ sizeLine ∧ Q (.int z.length) H) ∨
  (∃ p kvs, xs = [.ref p] ∧ H p = some (.dK kvs) ∧ Q (.int kvs.length) H)
theorem lenD_ok {X : Cx} : CallR X (.builtin "len") (fun xs H Q => ∃ p kvs, xs = [.ref p] ∧ H p = some (.dK kvs) ∧ Q (.int kvs.length) H) := by
  intro pins s σ H xs us Q I rs h
  obtain ⟨p, kvs, rfl, hp, q⟩ := h
  exact call_lenD pins s σ H _ us Q I rs ⟨p, kvs, rfl, hp, q⟩

theorem call_bi {X : Cx} (hc : X.calm = true) (hg : X.A.guards = some []) (hu : X.A.units + 64 < cLine) (b : BI) (m : Bool) : ∃ r, CallR X (biV b).2 r ∧ CaL X.K r (biO b m) := by
  cases b with
  | len =>
    refine ⟨rLenA X.K, call_len_seq.or (call_len_str.or lenD_ok), ?_⟩
    intro Z F S H xs vs P Q R rx w c
    match xs, w with
    | [.str z], w =>
      obtain ⟨v, rfl, r⟩ := rx.one
      cases r
      exact .inr (.inl ⟨z, rfl, w.1, same_ok R (.int _) w.2 c⟩)
    | [.dct ds], w =>
      obtain ⟨v, rfl, r⟩ := rx.one
      obtain ⟨p, vs, rfl, h1, r1⟩ := r.dct_
      refine .inr (.inr ⟨p, vs, rfl, R.fz _ _ h1, ?_⟩)
      rw [← r1.length]
      exact same_ok R (.int _) w c
    | [.tup ds], w =>
      obtain ⟨v, rfl, r⟩ := rx.one
      obtain ⟨ds', e, w⟩ := w
      obtain ⟨p, vs, rfl, h1, r1⟩ := sqx_of R r e
      refine .inl ⟨p, vs, rfl, h1, ?_⟩
      rw [← r1.length]
      exact same_ok R (.int _) w c
    | [.lst ds], w =>
      obtain ⟨v, rfl, r⟩ := rx.one
      obtain ⟨ds', e, w⟩ := w
      obtain ⟨p, vs, rfl, h1, r1⟩ := sqx_of R r e
      refine .inl ⟨p, vs, rfl, h1, ?_⟩
      rw [← r1.length]
      exact same_ok R (.int _) w c
    | [.rls ds], w =>
      obtain ⟨v, rfl, r⟩ := rx.one
      obtain ⟨ds', e, w⟩ := w
      obtain ⟨p, vs, rfl, h1, r1⟩ := sqx_of R r e
      refine .inl ⟨p, vs, rfl, h1, ?_⟩
      rw [← r1.length]
      exact same_ok R (.int _) w c
    | [.ref a], w =>
      obtain ⟨v, rfl, r⟩ := rx.one
      obtain ⟨ds', e, w⟩ := w
      obtain ⟨p, vs, rfl, h1, r1⟩ := sqx_of R r e
      refine .inl ⟨p, vs, rfl, h1, ?_⟩
      rw [← r1.length]
      exact same_ok R (.int _) w c
    | [.non], w => obtain ⟨ds', e, w⟩ := w; cases e
    | [.bl _], w => obtain ⟨ds', e, w⟩ := w; cases e
    | [.int _], w => obtain ⟨ds', e, w⟩ := w; cases e
  | abs =>
    refine ⟨_, call_abs, ?_⟩
    intro Z F S H xs vs P Q R rx w c
    match xs, w with
    | [.int i], w =>
      obtain ⟨v, rfl, r⟩ := rx.one
      cases r
      exact ⟨i, rfl, same_ok R (.int _) w c⟩
  | repr =>
    refine ⟨_, cr_repr hg hu, ?_⟩
    intro Z F S H xs vs P Q R rx w c
    match xs, w with
    | [x], w =>
      obtain ⟨v, rfl, r⟩ := rx.one
      obtain ⟨n, d, h1, h2, h3, h4, h5, p⟩ := w
      exact ⟨v, d, rfl, py_of R n x v d r h1, h2, h3, h4, h5, same_ok R (.str _) p c⟩
  | int1 =>
    refine ⟨_, call_int1, ?_⟩
    intro Z F S H xs vs P Q R rx w c
    match xs, w with
    | [.int i], w =>
      obtain ⟨v, rfl, r⟩ := rx.one
      cases r
      exact .inl ⟨i, rfl, same_ok R (.int _) w c⟩
    | [.bl i], w =>
      obtain ⟨v, rfl, r⟩ := rx.one
      cases r
      exact .inr ⟨i, rfl, same_ok R (.int _) w c⟩
  | str1 =>
    refine ⟨_, call_str_int.or SkE.call_str_str, ?_⟩
    intro Z F S H xs vs P Q R rx w c
    match xs, w with
    | [.int i], w =>
      obtain ⟨v, rfl, r⟩ := rx.one
      cases r
      exact .inl ⟨i, rfl, w.1, same_ok R (.str _) w.2 c⟩
    | [.str i], w =>
      obtain ⟨v, rfl, r⟩ := rx.one
      cases r
      exact .inr ⟨i, rfl, same_ok R (.str _) w c⟩
  | tuple =>
    refine ⟨_, call_tuple_of, ?_⟩
    intro Z F S H xs vs P Q R rx w c
    have gen : ∀ x, xs = [x] → (∃ ds, lsx S x = some ds ∧ P (.tup ds) S) → ∃ p ys, vs = [.ref p] ∧ ((SqL X.K H p ys ∧ ∀ l, H l = none → Q (.ref l) (upd H l (.tup ys))) ∨ (SqT X.K H p ys ∧ Q (.ref p) H)) := by
      rintro x rfl ⟨ds, e, w⟩
      obtain ⟨v, rfl, r⟩ := rx.one
      obtain ⟨p, us, rfl, h1, r1⟩ := lsx_of R r e
      exact ⟨p, us, rfl, .inl ⟨h1, newT_ok R r1 w c⟩⟩
    match xs, w with
    | [.tup ds], w =>
      obtain ⟨v, rfl, r⟩ := rx.one
      obtain ⟨p, us, rfl, h1, r1⟩ := r.tup_
      exact ⟨p, us, rfl, .inr ⟨sqT_mono R.fz h1, same_ok R r w c⟩⟩
    | [.lst ds], w => exact gen _ rfl w
    | [.rls ds], w => exact gen _ rfl w
    | [.ref ds], w => exact gen _ rfl w
    | [.non], w => obtain ⟨ds', e, w⟩ := w; cases e
    | [.bl _], w => obtain ⟨ds', e, w⟩ := w; cases e
    | [.int _], w => obtain ⟨ds', e, w⟩ := w; cases e
    | [.str _], w => obtain ⟨ds', e, w⟩ := w; cases e
    | [.dct _], w => obtain ⟨ds', e, w⟩ := w; cases e
  | list =>
    refine ⟨_, call_list_of, ?_⟩
    intro Z F S H xs vs P Q R rx w c
    match xs, w with
    | [x], w =>
      obtain ⟨v, rfl, r⟩ := rx.one
      obtain ⟨ds, e, w⟩ := w
      obtain ⟨p, us, rfl, h1, r1⟩ := sqx_of R r e
      exact ⟨p, us, rfl, h1, nwL_ok R r1 w c⟩
  | max2 =>
    refine ⟨_, call_max2 hc, ?_⟩
    intro Z F S H xs vs P Q R rx w c
    match xs, w with
    | [.int i, .int j], w =>
      obtain ⟨v, u, rfl, r, r2⟩ := rx.two
      cases r; cases r2
      exact ⟨i, j, rfl, same_ok R (.int _) w c⟩
  | min2 =>
    refine ⟨_, call_min2 hc, ?_⟩
    intro Z F S H xs vs P Q R rx w c
    match xs, w with
    | [.int i, .int j], w =>
      obtain ⟨v, u, rfl, r, r2⟩ := rx.two
      cases r; cases r2
      exact ⟨i, j, rfl, same_ok R (.int _) w c⟩
  | sum => exact ⟨fun _ _ _ => False, fun _ _ _ _ _ _ _ _ _ h => absurd h id, fun _ _ _ _ _ _ _ _ _ _ w _ => absurd w id⟩
  | all =>
    refine ⟨_, cr_all hc, ?_⟩
    intro Z F S H xs vs P Q R rx w c
    match xs, w with
    | [x], w =>
      obtain ⟨v, rfl, r⟩ := rx.one
      obtain ⟨ds, bs, e, e2, w⟩ := w
      obtain ⟨p, us, rfl, h1, r1⟩ := lsx_of R r e
      obtain rfl := blL_of r1 e2
      exact ⟨p, bs, rfl, h1, same_ok R (.bl _) w c⟩
  | any =>
    refine ⟨_, cr_any hc, ?_⟩
    intro Z F S H xs vs P Q R rx w c
    match xs, w with
    | [x], w =>
      obtain ⟨v, rfl, r⟩ := rx.one
      obtain ⟨ds, bs, e, e2, w⟩ := w
      obtain ⟨p, us, rfl, h1, r1⟩ := lsx_of R r e
      obtain rfl := blL_of r1 e2
      exact ⟨p, bs, rfl, h1, same_ok R (.bl _) w c⟩
end GB

/-! GB7: weakest preconditions of the small syntax. -/
namespace GB
open PySem PySem.Spec PyProof.Rows L2

/-! ### methods, stores -/
def putD (ds : List (Key × D)) (k : Key) (v : D) : List (Key × D) :=
  if (ds.any fun kv => decide (kv.1 = k)) = true then ds.map (fun kv => if kv.1 = k then (kv.1, v) else kv) else ds ++ [(k, v)]
def setC (p : Addr) (c : Option Cell) (y z : D) (S : Sto) (P : Sto → Prop) : Prop := match c with
  | some (.lst ds) => ∃ k j, y = .int k ∧ ixN ds.length k = some j ∧ P (supd S p (.lst (ds.set j z)))
  | some (.dct ds) => ∃ k, keyD y = some k ∧ ds.length < sizeLine ∧ P (supd S p (.dct (putD ds k z)))
  | none => False
def setD (x y z : D) (S : Sto) (P : Sto → Prop) : Prop := match x with
  | .ref p => setC p (S p) y z S P
  | _ => False
/-- the receiver is a list of the store -/
def mtT (x : D) (S : Sto) : Prop := ∃ p ds, x = .ref p ∧ S p = some (.lst ds)
def mtO (f : MT) (x : D) (xs : List D) (S : Sto) (P : EQ) : Prop := match f with
  | .append => ∃ p ds y, x = .ref p ∧ xs = [y] ∧ S p = some (.lst ds) ∧ ds.length < sizeLine ∧ P .non (supd S p (.lst (ds ++ [y])))
  | .pop => ∃ p ds y, x = .ref p ∧ xs = [] ∧ S p = some (.lst ds) ∧ ds[ds.length - 1]? = some y ∧ P y (supd S p (.lst ds.dropLast))
  | .reverse => ∃ p ds, x = .ref p ∧ xs = [] ∧ S p = some (.lst ds) ∧ P .non (supd S p (.lst ds.reverse))
  | .extend => ∃ p ds y es, x = .ref p ∧ xs = [y] ∧ S p = some (.lst ds) ∧ mls S y = some es ∧ ds.length + es.length ≤ sizeLine ∧ P .non (supd S p (.lst (ds ++ es)))
  | _ => False

/-! ### targets -/
mutual
def wG : G → D → Dts → (Dts → Prop) → Prop
  | .nm i, d, δ, P => P (δ.set i (some d))
  | .tp gs, d, δ, P => ∃ ds, d = .tup ds ∧ wGs gs ds δ P
def wGs : Gs → List D → Dts → (Dts → Prop) → Prop
  | .nil, ds, δ, P => ds = [] ∧ P δ
  | .cons g r, ds, δ, P => ∃ d es, ds = d :: es ∧ wG g d δ fun δ' => wGs r es δ' P
end
mutual
def gSl : G → List Nat
  | .nm i => [i]
  | .tp gs => gsSl gs
def gsSl : Gs → List Nat
  | .nil => []
  | .cons g r => gSl g ++ gsSl r
end
def wipeD (δ : Dts) : List Nat → Dts
  | [] => δ
  | v :: vs => (wipeD δ vs).set v none

/-! ### expressions -/
structure WE2 where
  e : WpE
  t : WpT
def tv (we : WpE) : WpT := fun δ S P => we δ S fun x S1 => truD x S1 P
def both (we : WpE) : WE2 := ⟨we, tv we⟩
structure WEs where
  all : WpA
  an : WE2
  or : WE2
  ifs : WpT
/-- keys and values by turns -/
def kvL : List D → Option (List (Key × D))
  | [] => some []
  | [_] => none
  | k :: v :: r => match keyD k with
    | some q => (match kvL r with
      | some kvs => some ((q, v) :: kvs)
      | none => none)
    | none => none
def mergeD (kvs more : List (Key × D)) : List (Key × D) := more.foldl (fun acc kv => putD acc kv.1 kv.2) kvs
def rngD (lo : Int) (n : Nat) : List D := (List.range n).map fun (i : Nat) => D.int (lo + (i : Int))
def dwnD (lo : Int) (n : Nat) : List D := (List.range n).map fun (i : Nat) => D.int (lo + (i : Int) * (-1))
def enuD (n : Nat) : List D → List D
  | [] => []
  | d :: ds => .tup [.int (n : Int), d] :: enuD (n + 1) ds
def zipD : List D → List D → List D
  | a :: as, b :: bs => .tup [a, b] :: zipD as bs
  | _, _ => []
abbrev WpI := Dts → Sto → (List D → (Sto → Prop) → Sto → Prop) → Prop
def ItP (x : D) (S : Sto) (P : List D → (Sto → Prop) → Sto → Prop) : Prop := match x with
  | .tup ds => P ds (fun _ => True) S
  | .lst ds => P ds (fun _ => True) S
  | .rls ds => P ds (fun _ => True) S
  | .ref p => ∃ ds, cL (S p) = some ds ∧ P ds (fun S' => cL (S' p) = some ds) S
  | .str z => P (z.cps.toList.map fun c => D.str ⟨#[c]⟩) (fun _ => True) S
  | _ => False
/-- only lists -/
def ItL (x : D) (S : Sto) (P : List D → (Sto → Prop) → Sto → Prop) : Prop := match x with
  | .lst ds => P ds (fun _ => True) S
  | .rls ds => P ds (fun _ => True) S
  | .ref p => ∃ ds, cL (S p) = some ds ∧ P ds (fun S' => cL (S' p) = some ds) S
  | _ => False
def ItQ (x : D) (S : Sto) (P : List D → (Sto → Prop) → Sto → Prop) : Prop := match x with
  | .tup ds => P ds (fun _ => True) S
  | .lst ds => P ds (fun _ => True) S
  | .rls ds => P ds (fun _ => True) S
  | .ref p => ∃ ds, cL (S p) = some ds ∧ P ds (fun S' => cL (S' p) = some ds) S
  | _ => False
def R62 (i : Int) : Prop := -(2 ^ 62) ≤ i ∧ i < 2 ^ 62
/-- the turns of a comprehension -/
def wLc (m : Bool) (tg : G) (ifs : WpT) (elt : WpE) (src : Sto → Prop) (δ : Dts) (P : EQ) : List D → List D → Sto → Prop
  | [], acc, S => nwL m acc S P
  | d :: ds, acc, S => wG tg d δ fun δ' => ifs δ' S fun b S3 => if b = true then elt δ' S3 fun y S4 => src S4 ∧ acc.length < sizeLine ∧ wLc m tg ifs elt src δ P ds (acc ++ [y]) S4
    else src S3 ∧ wLc m tg ifs elt src δ P ds acc S3

def isCmpTrue (P : Bool → Sto → Prop) : EQ := fun x S => ∃ k, x = .bl k ∧ P k S
def frzC (p : Addr) (c : Option Cell) (S : Sto) (P : EQ) : Prop := match c with
  | some (.lst ds) => P (.lst ds) (sdel S p)
  | some (.dct ds) => P (.dct ds) (sdel S p)
  | none => False
def frzD (x : D) (S : Sto) (P : EQ) : Prop := match x with
  | .ref p => frzC p (S p) S P
  | x => P x S
def slrD (m : Bool) (x : D) (S : Sto) (P : EQ) : Prop := match x with
  | .tup ds => P (.tup ds.reverse) S
  | x => ∃ ds, lsx S x = some ds ∧ nwL m ds.reverse S P
def zipP (x y : D) (S : Sto) (P : List D → (Sto → Prop) → Sto → Prop) : Prop := match x with
  | .tup as => (match y with
    | .tup bs => P (zipD as bs) (fun _ => True) S
    | _ => False)
  | x => ItL x S fun as s1 S3 => ItL y S3 fun bs s2 S4 => P (zipD as bs) (fun S => s1 S ∧ s2 S) S4
mutual
def w (X : XP) : E → WE2
  | .v i => both fun δ S P => ∃ d, δ[i]? = some (some d) ∧ P d S
  | .cN => both fun _ S P => P .non S
  | .cB b => both fun _ S P => P (.bl b) S
  | .cI i => both fun _ S P => P (.int i) S
  | .cS x => both fun _ S P => P (.str x) S
  | .gl _ d => both fun _ S P => P d S
  | .bin o m a b => both (wBin (binD o m) (w X a).e (w X b).e)
  | .neg a => both fun δ S P => (w X a).e δ S fun x S1 => negD x S1 P
  | .cmp o a b => ⟨wBin (cmpD o) (w X a).e (w X b).e, fun δ S P => wBin (cmpD o) (w X a).e (w X b).e δ S (isCmpTrue P)⟩
  | .cmp2 o o2 a b c =>
    let f : WpE := fun δ S P => (w X a).e δ S fun x S1 => (w X b).e δ S1 fun y S2 => cmpD o x y S2 fun r S3 => ∃ k, r = .bl k ∧ if k = true then (w X c).e δ S3 fun z S4 => cmpD o2 y z S4 P else P (.bl false) S3
    ⟨f, fun δ S P => f δ S (isCmpTrue P)⟩
  | .and_ es => (ws X es).an
  | .or_ es => (ws X es).or
  | .not_ a => ⟨fun δ S P => (w X a).e δ S fun x S1 => truD x S1 fun b S2 => P (.bl (!b)) S2, fun δ S P => (w X a).t δ S fun b S1 => P (!b) S1⟩
  | .ite t a b => ⟨fun δ S P => (w X t).t δ S fun k S1 => if k = true then (w X a).e δ S1 P else (w X b).e δ S1 P, fun δ S P => (w X t).t δ S fun k S1 => if k = true then (w X a).t δ S1 P else (w X b).t δ S1 P⟩
  | .tup es => both fun δ S P => (ws X es).all δ S fun ds S1 => ds.length ≤ sizeLine ∧ P (.tup ds) S1
  | .lst m es => both fun δ S P => (ws X es).all δ S fun ds S1 => ds.length ≤ sizeLine ∧ nwL m ds S1 P
  | .dct m es => both fun δ S P => (ws X es).all δ S fun ds S1 => ∃ kvs, kvL ds = some kvs ∧ nwD m (mergeD [] kvs) S1 P
  | .ix a i => both (wBin ixD (w X a).e (w X i).e)
  | .sl m a lo hi => both fun δ S P => (w X a).e δ S fun x S1 => wo X lo δ S1 fun l S2 => wo X hi δ S2 fun h S3 => slD m x l h S3 P
  | .slr m a => both fun δ S P => (w X a).e δ S fun x S1 => slrD m x S1 P
  | .call _ sp es => both fun δ S P => (ws X es).all δ S fun ds S1 => sp ds S1 P fun x S2 => X x δ S2
  | .bi b m es => both fun δ S P => (ws X es).all δ S fun ds S1 => biO b m ds S1 P
  | .mt f a es => both fun δ S P => (w X a).e δ S fun x S1 => mtT x S1 ∧ (ws X es).all δ S1 fun ds S2 => mtO f x ds S2 P
  | .lc m elt tg it ifs => both fun δ S P => wi X it δ S fun ds src S1 => wLc m tg (ws (fun _ _ _ => False) ifs).ifs (w (fun _ _ _ => False) elt).e src (wipeD δ (gSl tg)) P ds [] S1
  | .frz a => ⟨fun δ S P => (w X a).e δ S fun x S1 => frzD x S1 P, (w X a).t⟩
  | .isi t a => both fun δ S P => (w X a).e δ S fun x S1 => isiD t x S1 P
def ws (X : XP) : Es → WEs
  | .nil => ⟨fun _ S P => P [] S, both (fun _ _ _ => False), both (fun _ _ _ => False), fun _ S P => P true S⟩
  | .cons a .nil => ⟨fun δ S P => (w X a).e δ S fun x S1 => P [x] S1, w X a, w X a, (w X a).t⟩
  | .cons a (.cons b r) => ⟨fun δ S P => (w X a).e δ S fun x S1 => (ws X (.cons b r)).all δ S1 fun xs S2 => P (x :: xs) S2,
    ⟨fun δ S P => (w X a).e δ S fun x S1 => truD x S1 fun k S2 => if k = true then (ws X (.cons b r)).an.e δ S2 P else P x S2, fun δ S P => (w X a).t δ S fun k S1 => if k = true then (ws X (.cons b r)).an.t δ S1 P else P false S1⟩,
    ⟨fun δ S P => (w X a).e δ S fun x S1 => truD x S1 fun k S2 => if k = true then P x S2 else (ws X (.cons b r)).or.e δ S2 P, fun δ S P => (w X a).t δ S fun k S1 => if k = true then P true S1 else (ws X (.cons b r)).or.t δ S1 P⟩, fun _ _ _ => False⟩
def wo (X : XP) : Eo → Dts → Sto → (Option Int → Sto → Prop) → Prop
  | .none => fun _ S P => P none S
  | .some e => fun δ S P => (w X e).e δ S fun x S1 => ∃ i, x = .int i ∧ P (some i) S1
def wi (X : XP) : It' → WpI
  | .val a => fun δ S P => (w X a).e δ S fun x S1 => ItP x S1 P
  | .r1 a => fun δ S P => (w X a).e δ S fun x S1 => ∃ j, x = .int j ∧ R62 j ∧ P (rngD 0 j.toNat) (fun _ => True) S1
  | .r2 a b => fun δ S P => (w X a).e δ S fun x S1 => (w X b).e δ S1 fun y S2 => ∃ i j, x = .int i ∧ y = .int j ∧ (R62 i ∧ R62 j) ∧ P (rngD i (j - i).toNat) (fun _ => True) S2
  | .r3 a b c => fun δ S P => (w X a).e δ S fun x S1 => (w X b).e δ S1 fun y S2 => (w X c).e δ S2 fun z S3 => ∃ i j, x = .int i ∧ y = .int j ∧ z = .int (-1) ∧ (R62 i ∧ R62 j) ∧ P (dwnD i (i - j).toNat) (fun _ => True) S3
  | .enum a => fun δ S P => (w X a).e δ S fun x S1 => ItL x S1 fun ds src S2 => P (enuD 0 ds) src S2
  | .zip a b => fun δ S P => (w X a).e δ S fun x S1 => (w X b).e δ S1 fun y S2 => zipP x y S2 P
  | .rev a => fun δ S P => (w X a).e δ S fun x S1 => ItQ x S1 fun ds src S2 => P ds.reverse src S2
end
end GB

/-! GB8: statements; the look that a tree of the text is a small tree. -/
namespace GB
open PySem PySem.Spec PyProof.Rows L2

/-! ### statements -/
def parD : List Nat → List D → Dts → Dts
  | i :: is, d :: ds, δ => parD is ds (δ.set i (some d))
  | _, _, δ => δ
def wFor (g : G) (body : WpS) (src : Sto → Prop) (P : Pst) : List D → Dts → Sto → Prop
  | [], δ, S => P.nx δ S
  | d :: ds, δ, S => wG g d δ fun δ' => body ⟨fun δ2 S2 => src S2 ∧ wFor g body src P ds δ2 S2, P.rt, P.nx, fun δ2 S2 => src S2 ∧ wFor g body src P ds δ2 S2⟩ δ' S
def wWh (t : WpT) (body : WpS) (P : Pst) : Nat → Dts → Sto → Prop
  | 0, _, _ => False
  | n + 1, δ, S => t δ S fun b S1 => if b = true then body ⟨wWh t body P n, P.rt, P.nx, wWh t body P n⟩ δ S1 else P.nx δ S1
mutual
def wS (X : XP) : Sm → WpS
  | .asg g e => fun P δ S => (w X e).e δ S fun x S1 => wG g x δ fun δ' => P.nx δ' S1
  | .par is es => fun P δ S => (ws X es).all δ S fun ds S1 => ds.length = is.length ∧ P.nx (parD is ds δ) S1
  | .asgL i e => fun P δ S => (w X e).e δ S fun x S1 => P.nx (δ.set i (some x)) S1
  | .setI a i e => fun P δ S => (w X e).e δ S fun z S1 => (w X a).e δ S1 fun x S2 => (w X i).e δ S2 fun y S3 => setD x y z S3 fun S4 => P.nx δ S4
  | .ex e => fun P δ S => (w X e).e δ S fun _ S1 => P.nx δ S1
  | .ite t a b => fun P δ S => (w X t).t δ S fun k S1 => if k = true then wSs X a P δ S1 else wSs X b P δ S1
  | .for_ g it b => fun P δ S => wi X it δ S fun ds src S1 => wFor g (wSs X b) src P ds δ S1
  | .wh t b => fun P δ S => ∃ n, wWh (w X t).t (wSs X b) P n δ S
  | .ret e => fun P δ S => (w X e).e δ S fun x S1 => P.rt x S1
  | .retN => fun P δ S => P.rt .non S
  | .pass => fun P δ S => P.nx δ S
  | .brk => fun P δ S => P.bk δ S
  | .cont => fun P δ S => P.ct δ S
  | .rz => fun _ _ _ => False
def wSs (X : XP) : Sms → WpS
  | .nil => fun P δ S => P.nx δ S
  | .cons s r => fun P δ S => wS X s ⟨wSs X r P, P.rt, P.bk, P.ct⟩ δ S
end

/-! ### what a tree leans on -/
structure Tx where
  P : Program
  w : World
  K : FK
  mg : MG
  base : Heap
def Callee (T : Tx) (k : Nat) (x : Str) (sp : Spec) : Prop := ∃ f fd ps, T.mg x = some (.ref f) ∧ PySem.W.keepIn T.K (.ref f) = true ∧ Binds T.K fd ps [] ∧ FOk T.P T.w T.K T.mg T.base k f fd ps (LSp T.K T.mg sp)
def Global (T : Tx) (x : Str) (d : D) : Prop := ∃ u v, T.mg x = some u ∧ RelV v u ∧ ∀ F, Rep T.K F d v
inductive Nd where
  | call (x : Str) (sp : Spec)
  | glob (x : Str) (d : D)
  | free (x : Str)
def Nd.ok (T : Tx) (k : Nat) : Nd → Prop
  | .call x sp => Callee T k x sp
  | .glob x d => Global T x d
  | .free x => T.mg x = none
mutual
def nd : E → List Nd
  | .v _ | .cN | .cB _ | .cI _ | .cS _ => []
  | .gl x d => [.glob x d]
  | .bin _ _ a b => nd a ++ nd b
  | .neg a => nd a
  | .cmp _ a b => nd a ++ nd b
  | .cmp2 _ _ a b c => nd a ++ (nd b ++ nd c)
  | .and_ es => nds es
  | .or_ es => nds es
  | .not_ a => nd a
  | .ite t a b => nd t ++ (nd a ++ nd b)
  | .tup es => nds es
  | .lst _ es => nds es
  | .dct _ es => nds es
  | .ix a i => nd a ++ nd i
  | .sl _ a lo hi => nd a ++ (ndo lo ++ ndo hi)
  | .slr _ a => nd a
  | .call x sp es => .call x sp :: nds es
  | .bi b _ es => .free (biV b).1 :: nds es
  | .mt _ a es => nd a ++ nds es
  | .lc _ elt _ it ifs => nd elt ++ (ndi it ++ nds ifs)
  | .frz a => nd a
  | .isi t a => .free "isinstance" :: .free t.nm :: nd a
def nds : Es → List Nd
  | .nil => []
  | .cons e r => nd e ++ nds r
def ndo : Eo → List Nd
  | .none => []
  | .some e => nd e
def ndi : It' → List Nd
  | .val a => nd a
  | .r1 a => .free "range" :: nd a
  | .r2 a b => .free "range" :: (nd a ++ nd b)
  | .r3 a b c => .free "range" :: (nd a ++ (nd b ++ nd c))
  | .enum a => .free "enumerate" :: nd a
  | .zip a b => .free "zip" :: (nd a ++ nd b)
  | .rev a => .free "reversed" :: nd a
end
mutual
def nS : Sm → List Nd
  | .asg _ e => nd e
  | .par _ es => nds es
  | .asgL _ e => nd e
  | .setI a i e => nd a ++ (nd i ++ nd e)
  | .ex e => nd e
  | .ite t a b => nd t ++ (nSs a ++ nSs b)
  | .for_ _ it b => ndi it ++ nSs b
  | .wh t b => nd t ++ nSs b
  | .ret e => nd e
  | .retN | .pass | .brk | .cont | .rz => []
def nSs : Sms → List Nd
  | .nil => []
  | .cons s r => nS s ++ nSs r
end

/-! ### the look -/
def inB (N : List Str) (i : Nat) (x : Str) : Bool := match N[i]? with
  | some y => decide (y = x)
  | none => false
def visB (N : List Str) (sc : Scope) (i : Nat) (x : Str) : Bool :=
  inB N i x && ((match sc.names.lookup x with
    | some .local => true
    | some .cell => true
    | some .free => true
    | _ => false) && (!(x == ("__debug__" : Str)) && !(x == ("__classdict__" : Str))))
def isLoc (sc : Scope) (x : Str) : Bool := match sc.names.lookup x with
  | some .local => true
  | _ => false
def isCell (sc : Scope) (x : Str) : Bool := match sc.names.lookup x with
  | some .cell => true
  | _ => false
def locB (N : List Str) (sc : Scope) (blk : Bool) (i : Nat) (x : Str) : Bool := inB N i x && (isLoc sc x || (!blk && isCell sc x))
def glB (sc : Scope) (x : Str) : Bool := (match sc.names.lookup x with
  | some .globalImplicit => true
  | _ => false) && !(x == ("__debug__" : Str))
def bopB : BOp → Operator → Bool
  | .add, .Add => true
  | .sub, .Sub => true
  | .mul, .Mult => true
  | .fdiv, .FloorDiv => true
  | .mod, .Mod => true
  | .pow, .Pow => true
  | .shl, .LShift => true
  | .shr, .RShift => true
  | .band, .BitAnd => true
  | _, _ => false
def copB : COp → CmpOp → Bool
  | .eq, .Eq => true
  | .ne, .NotEq => true
  | .lt, .Lt => true
  | .le, .LtE => true
  | .gt, .Gt => true
  | .ge, .GtE => true
  | .isN, .Is => true
  | .noN, .IsNot => true
  | .inn, .In => true
  | .nin, .NotIn => true
  | _, _ => false
def inB2 : COp → Bool
  | .inn => true
  | .nin => true
  | _ => false
def nst : Expr → Bool
  | .Starred .. => false
  | _ => true
def nSlice : Expr → Bool
  | .Slice .. => false
  | _ => true
def nCall : Expr → Bool
  | .Call .. => false
  | _ => true
def nComp : Expr → Bool
  | .ListComp .. => false
  | .SetComp .. => false
  | .DictComp .. => false
  | _ => true
def nTuple : Expr → Bool
  | .Tuple .. => false
  | _ => true
def nSet : Expr → Bool
  | .Set .. => false
  | _ => true
def mtN : MT → Str
  | .append => "append"
  | .pop => "pop"
  | .popAt => "pop"
  | .reverse => "reverse"
  | .extend => "extend"
  | .insert => "insert"
  | .count => "count"
  | .index => "index"
/-- how many arguments (of the methods that are carried) -/
def mtA : MT → Option Nat
  | .append => some 1
  | .pop => some 0
  | .reverse => some 0
  | .extend => some 1
  | _ => none
def bOpB (o : BoolOp) (a : Bool) : Bool := match o with
  | .And => a
  | .Or => !a
mutual
def chkG (N : List Str) (sc : Scope) (blk : Bool) : G → Expr → Bool
  | .nm i, .Name x _ => locB N sc blk i x
  | .tp gs, .Tuple ts _ _ => chkGs N sc blk gs ts
  | _, _ => false
def chkGs (N : List Str) (sc : Scope) (blk : Bool) : Gs → List Expr → Bool
  | .nil, [] => true
  | .cons g r, t :: ts => nst t && (chkG N sc blk g t && chkGs N sc blk r ts)
  | _, _ => false
end
mutual
def chk (N : List Str) (sc : Scope) (blk : Bool) : E → Expr → Bool
  | .v i, .Name x _ => visB N sc i x
  | .cN, .Constant .none _ _ => true
  | .cB b, .Constant (.bool c) _ _ => decide (b = c)
  | .cI i, .Constant (.int j) _ _ => decide (i = j)
  | .cS x, .Constant (.str y) _ _ => decide (x = y)
  | .gl x _, .Name y _ => decide (x = y) && glB sc y
  | .bin o _ a b, .BinOp pa op pb _ => bopB o op && (chk N sc blk a pa && chk N sc blk b pb)
  | .neg a, .UnaryOp .USub p _ => chk N sc blk a p
  | .cmp o a b, .Compare pa [op] [pb] _ => (copB o op && !behindInMarks op pb) && (chk N sc blk a pa && chk N sc blk b pb)
  | .cmp2 o o2 a b c, .Compare pa [op, op2] [pb, pc] _ => copB o op && ((copB o2 op2 && (!inB2 o && !inB2 o2)) && (chk N sc blk a pa && (chk N sc blk b pb && chk N sc blk c pc)))
  | .and_ es, .BoolOp o ps _ => bOpB o true && (!ps.isEmpty && chks N sc blk es ps)
  | .or_ es, .BoolOp o ps _ => bOpB o false && (!ps.isEmpty && chks N sc blk es ps)
  | .not_ a, .UnaryOp .Not p _ => chk N sc blk a p
  | .ite t a b, .IfExp pt pa pb _ => chk N sc blk t pt && (chk N sc blk a pa && chk N sc blk b pb)
  | .tup es, .Tuple ps _ _ => chks N sc blk es ps
  | .lst _ es, .List ps _ => chks N sc blk es ps
  | .dct _ es, .Dict ks vs _ => decide (ks.length ≤ 15) && chkD N sc blk es ks vs
  | .ix a i, .Subscript pa pi _ => nSlice pi && (chk N sc blk a pa && chk N sc blk i pi)
  | .sl _ a lo hi, .Subscript pa (.Slice pl ph none _) _ => chk N sc blk a pa && (chko N sc blk lo pl && chko N sc blk hi ph)
  | .call x _ es, .Call (.Name y _) ps [] _ => decide (x = y) && (glB sc y && chks N sc blk es ps)
  | .bi b _ es, .Call (.Name y _) ps [] _ => decide ((biV b).1 = y) && (glB sc y && (!ps.isEmpty && chks N sc blk es ps))
  | .mt f a es, .Call (.Attribute pa nm ap) ps [] cp => decide (mtN f = nm) && ((ap.endLine == cp.line) && (nCall pa && (decide (mtA f = some ps.length) && (chk N sc blk a pa && chks N sc blk es ps))))
  | .lc _ elt tg it ifs, .ListComp pelt [c] scope _ => decide (c.is_async = 0) && (chki N sc blk it c.target c.iter && (blkC N sc scope ((gSl tg).map fun i => (N.getD i Str.empty, i)) &&
      (nSet c.iter && (chkG N (relS scope sc) true tg c.target && (chk N (relS scope sc) true elt pelt && (decide (c.ifs.length ≤ 1) && chks N (relS scope sc) true ifs c.ifs))))))
  | .frz a, p => chk N sc blk a p
  | .slr _ a, .Subscript pa (.Slice none none (some (.UnaryOp .USub (.Constant (.int 1) _ _) _)) _) _ => chk N sc blk a pa
  | .isi t a, .Call (.Name y _) [pa, .Name z _] [] _ => decide (y = ("isinstance" : Str)) && (glB sc y && (decide (z = (t.nm : Str)) && (glB sc z && (tyOk t && (nst pa && chk N sc blk a pa)))))
  | _, _ => false
def chks (N : List Str) (sc : Scope) (blk : Bool) : Es → List Expr → Bool
  | .nil, [] => true
  | .cons e r, p :: ps => nst p && (chk N sc blk e p && chks N sc blk r ps)
  | _, _ => false
def chkD (N : List Str) (sc : Scope) (blk : Bool) : Es → List (Option Expr) → List Expr → Bool
  | .nil, [], [] => true
  | .cons k (.cons v r), some pk :: ks, pv :: vs => chk N sc blk k pk && (chk N sc blk v pv && chkD N sc blk r ks vs)
  | _, _, _ => false
def chko (N : List Str) (sc : Scope) (blk : Bool) : Eo → Option Expr → Bool
  | .none, none => true
  | .some e, some p => chk N sc blk e p
  | _, _ => false
def chki (N : List Str) (sc : Scope) (blk : Bool) : It' → Expr → Expr → Bool
  | .val a, _, p => chk N sc blk a p
  | .r1 a, _, .Call (.Name y _) [pa] [] _ => decide (y = ("range" : Str)) && (glB sc y && (nst pa && chk N sc blk a pa))
  | .r2 a b, _, .Call (.Name y _) [pa, pb] [] _ => decide (y = ("range" : Str)) && (glB sc y && (nst pa && (nst pb && (chk N sc blk a pa && chk N sc blk b pb))))
  | .r3 a b c, _, .Call (.Name y _) [pa, pb, pc] [] _ => decide (y = ("range" : Str)) && (glB sc y && (nst pa && (nst pb && (nst pc && (chk N sc blk a pa && (chk N sc blk b pb && chk N sc blk c pc))))))
  | .enum a, .Tuple _ _ _, .Call (.Name y _) [pa] [] _ => decide (y = ("enumerate" : Str)) && (glB sc y && (nst pa && chk N sc blk a pa))
  | .zip a b, .Tuple _ _ _, .Call (.Name y _) [pa, pb] [] _ => decide (y = ("zip" : Str)) && (glB sc y && (nst pa && (nst pb && (chk N sc blk a pa && chk N sc blk b pb))))
  | .rev a, _, .Call (.Name y _) [pa] [] _ => decide (y = ("reversed" : Str)) && (glB sc y && (nst pa && chk N sc blk a pa))
  | _, _, _ => false
end
/-- not stored within a comprehension -/
def noSw (sc : Scope) (t p : Expr) : Bool := nComp p || (match t with
  | .Name x _ => !isLoc sc x
  | _ => true)
/-- names stored from the right, one line, plain locals -/
def swNames (sc : Scope) (line : Nat) : List Expr → List Str
  | [] => []
  | .Name id pos :: r => if (sc.names.lookup id == some .local && pos.line == line) = true then id :: swNames sc line r else swNames sc line r
  | _ :: r => swNames sc line r
def hdLine : List Expr → Nat
  | t :: _ => t.pos.line
  | [] => 0
/-- nothing is stored from the right -/
def noSwap (sc : Scope) : Expr → Expr → Bool
  | .Tuple ts _ _, .Tuple vs _ _ => !(ts.length == 2 || ts.length == 3) || (vs.length != ts.length || ((swNames sc (hdLine ts) ts).length != ts.length || vs.all (foldedForSure 8)))
  | .List _ _, .Tuple _ _ _ => false
  | _, _ => true
def parB (N : List Str) : List Nat → List Str → Bool
  | [], [] => true
  | i :: is, x :: xs => inB N i x && parB N is xs
  | _, _ => false
/-- name = [..], stored within the comprehension -/
def asgB (N : List Str) (sc : Scope) (i : Nat) (e : E) (p : Stmt) : Bool := match e with
  | .lc m elt tg it ifs => (match p with
    | .Assign [.Name x px] (.ListComp pelt [c] scope pos) sp => inB N i x && (isLoc sc x && ((px.line == pos.line) && (!(scope.names.any fun y => y.1 == x && (y.2 == .local || y.2 == .cell)) &&
      chk N sc false (.lc m elt tg it ifs) (.ListComp pelt [c] scope pos))))
    | _ => false)
  | _ => false
mutual
def chkS (N : List Str) (sc : Scope) : Sm → Stmt → Bool
  | .asg g e, .Assign [t] p _ => nst t && (chkG N sc false g t && (noSw sc t p && (noSwap sc t p && chk N sc false e p)))
  | .par is es, .Assign [.Tuple ts _ _] (.Tuple ps _ _) _ => (ts.length == 2 || ts.length == 3) && (ps.length == ts.length && (parB N is (swNames sc (hdLine ts) ts) && ((swNames sc (hdLine ts) ts).length == ts.length &&
      (decide (is.Nodup) && ((swNames sc (hdLine ts) ts).eraseDups.length == ts.length && (!(ps.all (constantsAlone 8)) && (!(ps.all (foldedForSure 8)) && chks N sc false es ps)))))))
  | .asgL i e, p => asgB N sc i e p
  | .setI a i e, .Assign [.Subscript pa pi _] p _ => nSlice pi && (nComp p && (chk N sc false a pa && (chk N sc false i pi && chk N sc false e p)))
  | .ex e, .Expr p _ => nComp p && chk N sc false e p
  | .ite t a b, .If pt pa pb _ => chk N sc false t pt && (chkSs N sc a pa && chkSs N sc b pb)
  | .for_ g it b, .For t p body [] _ => nSet p && (chkG N sc false g t && (chki N sc false it t p && chkSs N sc b body))
  | .wh t b, .While pt body [] _ => chk N sc false t pt && chkSs N sc b body
  | .ret e, .Return (some p) _ => chk N sc false e p
  | .retN, .Return none _ => true
  | .pass, .Pass _ => true
  | .brk, .Break _ => true
  | .cont, .Continue _ => true
  | .rz, .Raise _ _ _ => true
  | _, _ => false
def chkSs (N : List Str) (sc : Scope) : Sms → List Stmt → Bool
  | .nil, [] => true
  | .cons s r, p :: ps => chkS N sc s p && chkSs N sc r ps
  | _, _ => false
end
end GB

/-! GB9: the parts of soundness: targets, what is walked, comprehensions. -/
namespace GB
open PySem PySem.Spec PyProof.Rows L2

/-! ### hidden lists -/
section
variable {K : FK} {Z F : Hp} {S : Sto} {H : Hp} {p : Addr}
theorem RelH.hide (R : RelH K Z F S H) (h : H p = Option.none) (o : HO) : RelH K (upd Z p o) F S (upd H p o) := by
  obtain ⟨f0, s0⟩ := R.none h
  refine ⟨fun b u e => ?_, fun q u e => ?_, fun q d e => ?_⟩
  · rw [upd_ne (ne_of_none e f0)]; exact R.fz _ _ e
  · by_cases hq : q = p
    · subst hq
      rw [upd_same] at e; cases e
      exact ⟨f0, s0, upd_same⟩
    · rw [upd_ne hq] at e
      obtain ⟨a, b, c⟩ := R.hid q u e
      exact ⟨a, b, by rw [upd_ne hq]; exact c⟩
  · have hq : q ≠ p := fun z => by subst z; rw [s0] at e; cases e
    obtain ⟨a, u, b, c'⟩ := R.st q d e
    exact ⟨a, u, by rw [upd_ne hq]; exact b, c'⟩
theorem RelH.rehide {o u : HO} (R : RelH K (upd Z p o) F S H) : RelH K (upd Z p u) F S (upd H p u) := by
  obtain ⟨f0, s0, _⟩ := R.hid p o upd_same
  refine ⟨fun b u e => ?_, fun q u e => ?_, fun q d e => ?_⟩
  · rw [upd_ne (ne_of_none e f0)]; exact R.fz _ _ e
  · by_cases hq : q = p
    · subst hq
      rw [upd_same] at e; cases e
      exact ⟨f0, s0, upd_same⟩
    · rw [upd_ne hq] at e
      obtain ⟨a, b, c⟩ := R.hid q u (by rw [upd_ne hq]; exact e)
      exact ⟨a, b, by rw [upd_ne hq]; exact c⟩
  · have hq : q ≠ p := fun z => by subst z; rw [s0] at e; cases e
    obtain ⟨a, u, b, c'⟩ := R.st q d e
    exact ⟨a, u, by rw [upd_ne hq]; exact b, c'⟩
theorem RelH.unhideF {o : HO} (R : RelH K (upd Z p o) F S H) (hz : Z p = Option.none) : Same F (upd F p o) ∧ RelH K Z (upd F p o) S H := by
  obtain ⟨f0, s0, h0⟩ := R.hid p o upd_same
  have sf : Same F (upd F p o) := same_upd f0
  refine ⟨sf, fun b u e => ?_, fun q u e => ?_, fun q d e => ?_⟩
  · by_cases hb : b = p
    · subst hb; rw [upd_same] at e; cases e; exact h0
    · rw [upd_ne hb] at e; exact R.fz _ _ e
  · have hq := ne_of_none e hz
    obtain ⟨a, b, c⟩ := R.hid q u (by rw [upd_ne hq]; exact e)
    exact ⟨by rw [upd_ne hq]; exact a, b, c⟩
  · have hq : q ≠ p := fun z => by subst z; rw [s0] at e; cases e
    obtain ⟨a, u, b, c'⟩ := R.st q d e
    exact ⟨by rw [upd_ne hq]; exact a, u, b, c'.mono sf⟩
theorem RelH.unhideS {o : HO} {c : Cell} (R : RelH K (upd Z p o) F S H) (hz : Z p = Option.none) (r : CRep K F c o) : S p = Option.none ∧ RelH K Z F (supd S p c) H := by
  obtain ⟨f0, s0, h0⟩ := R.hid p o upd_same
  refine ⟨s0, R.fz, fun q u e => ?_, fun q d e => ?_⟩
  · have hq := ne_of_none e hz
    obtain ⟨a, b, c⟩ := R.hid q u (by rw [upd_ne hq]; exact e)
    exact ⟨a, by rw [supd_ne hq]; exact b, c⟩
  · by_cases hq : q = p
    · subst hq
      rw [supd_same] at e; cases e
      exact ⟨f0, o, h0, r⟩
    · rw [supd_ne hq] at e
      exact R.st q d e
end

/-! ### slots forgotten -/
theorem wipe_at (σ : VS) : ∀ (vs : List Nat) (i : Nat), (wipe σ vs)[i]? = if i ∈ vs then σ[i]?.map (fun _ => none) else σ[i]?
  | [], i => by simp [wipe]
  | v :: vs, i => by
    unfold wipe
    rw [List.getElem?_set, wipe_at σ vs, wipe_length]
    by_cases h : v = i
    · subst h
      rw [if_pos rfl, if_pos List.mem_cons_self]
      by_cases hl : v < σ.length
      · rw [if_pos hl, List.getElem?_eq_getElem hl]; rfl
      · rw [if_neg hl, List.getElem?_eq_none (by omega)]; rfl
    · rw [if_neg h]
      have e : (i ∈ v :: vs) ↔ i ∈ vs := by
        rw [List.mem_cons]
        exact ⟨fun q => q.resolve_left (fun z => h z.symm), .inr⟩
      by_cases hm : i ∈ vs
      · rw [if_pos hm, if_pos (e.mpr hm)]
      · rw [if_neg hm, if_neg (fun z => hm (e.mp z))]
theorem wipe_ext {σ τ : VS} {vs : List Nat} (hl : σ.length = τ.length) (h : ∀ i, i ∉ vs → σ[i]? = τ[i]?) : wipe σ vs = wipe τ vs := by
  apply List.ext_getElem?
  intro i
  rw [wipe_at, wipe_at]
  by_cases hm : i ∈ vs
  · rw [if_pos hm, if_pos hm]
    by_cases hi : i < σ.length
    · rw [List.getElem?_eq_getElem hi, List.getElem?_eq_getElem (by omega)]; rfl
    · rw [List.getElem?_eq_none (by omega), List.getElem?_eq_none (by omega)]
  · rw [if_neg hm, if_neg hm, h i hm]
theorem wipe_wipe (σ : VS) (vs : List Nat) : wipe (wipe σ vs) vs = wipe σ vs := by
  refine wipe_ext (wipe_length σ vs) fun i hi => ?_
  rw [wipe_at, if_neg hi]
theorem RelS.wipes {K : FK} {F : Hp} {δ : Dts} {σ : VS} (h : RelS K F δ σ) : ∀ vs : List Nat, RelS K F (wipeD δ vs) (L2.wipe σ vs)
  | [] => h
  | v :: vs => (RelS.wipes h vs).wipe v

/-! ### targets -/
mutual
def gR (K : FK) : G → TG
  | .nm i => gName i
  | .tp gs => fun v σ H Q => ∃ a xs, v = .ref a ∧ SqT K H a xs ∧ gsR K gs xs σ H Q
def gsR (K : FK) : Gs → TGs
  | .nil => gNil
  | .cons g r => gCons (gR K g) (gsR K r)
end
mutual
theorem gR_of {K : FK} {Z F : Hp} {S : Sto} {H : Hp} (R : RelH K Z F S H) {Q : VS → Hp → Prop} : ∀ (g : G) (d : D) (v : V) (δ : Dts) (σ : VS) (P : Dts → Prop), Rep K F d v → RelS K F δ σ → wG g d δ P →
    (∀ δ' σ', RelS K F δ' σ' → (∀ i, i ∉ gSl g → σ'[i]? = σ[i]?) → σ'.length = σ.length → P δ' → Q σ' H) → gR K g v σ H Q
  | .nm i, d, v, δ, σ, P, r, rs, w, c => by
    refine c _ _ (rs.set r i) (fun j hj => ?_) (List.length_set ..) w
    exact List.getElem?_set_ne (fun e => hj (by rw [← e]; exact List.mem_singleton.mpr rfl))
  | .tp gs, d, v, δ, σ, P, r, rs, w, c => by
    obtain ⟨ds, rfl, w⟩ := w
    obtain ⟨p, vs, rfl, h1, r1⟩ := r.tup_
    exact ⟨p, vs, rfl, sqT_mono R.fz h1, gsR_of R gs ds vs δ σ P r1 rs w c⟩
theorem gsR_of {K : FK} {Z F : Hp} {S : Sto} {H : Hp} (R : RelH K Z F S H) {Q : VS → Hp → Prop} : ∀ (gs : Gs) (ds : List D) (vs : List V) (δ : Dts) (σ : VS) (P : Dts → Prop), RepL K F ds vs → RelS K F δ σ → wGs gs ds δ P →
    (∀ δ' σ', RelS K F δ' σ' → (∀ i, i ∉ gsSl gs → σ'[i]? = σ[i]?) → σ'.length = σ.length → P δ' → Q σ' H) → gsR K gs vs σ H Q
  | .nil, ds, vs, δ, σ, P, r, rs, w, c => by
    obtain ⟨rfl, w⟩ := w
    cases r
    exact ⟨rfl, c _ _ rs (fun _ _ => rfl) rfl w⟩
  | .cons g gs, ds, vs, δ, σ, P, r, rs, w, c => by
    obtain ⟨d, es, rfl, w⟩ := w
    cases r with
    | cons r1 r2 =>
      refine ⟨_, _, rfl, gR_of R g d _ δ σ _ r1 rs w ?_⟩
      intro δ1 σ1 rs1 k1 l1 w1
      refine gsR_of R gs es _ δ1 σ1 P r2 rs1 w1 ?_
      intro δ2 σ2 rs2 k2 l2 p
      refine c δ2 σ2 rs2 (fun i hi => ?_) (l2.trans l1) p
      have hi' : ¬ (i ∈ gSl g ++ gsSl gs) := hi
      rw [List.mem_append] at hi'
      rw [k2 i (fun z => hi' (.inr z)), k1 i (fun z => hi' (.inl z))]
end

/-! ### what is walked -/
def Beh (K : FK) (F1 : Hp) (J : It) (ds : List D) (src : Sto → Prop) : Prop := ∀ (i : Nat) (Z F H : Hp) (S : Sto), Same F1 F → RelH K Z F S H → src S →
  (∀ d, ds[i]? = some d → J.go i H ∧ ∀ x H', J.yld i H x H' → ∃ F', Same F F' ∧ RelH K Z F' S H' ∧ Rep K F' d x) ∧ (ds.length ≤ i → J.stop i H)
def LI (K : FK) (Z F0 : Hp) (wi : WpI) : TI := fun σ H R => ∃ F δ S P, Same F0 F ∧ RelS K F δ σ ∧ RelH K Z F S H ∧ wi δ S P ∧
  ∀ F' H' S' J ds src, Same F F' → RelH K Z F' S' H' → Beh K F' J ds src → src S' → P ds src S' → R J H'
theorem PI_imp {X : Cx} {tg e : Expr} {t t' : TI} (h : PI X tg e t) (i : ∀ σ H R, t' σ H R → t σ H R) : PI X tg e t' := ⟨fun pins s σ H R I q => h.run pins s σ H R I (i σ H R q)⟩

section
variable {K : FK} {F1 : Hp} {a : Addr} {ds : List D} {src : Sto → Prop}
theorem sqT_det {H : Hp} {xs ys : List V} (h : SqT K H a xs) (g : SqT K H a ys) (hx : ∀ o, K.lookup a = some o → ∀ u, H a ≠ some u) : xs = ys := by
  rcases h with (h | ⟨o, h⟩) | ⟨o, its, n, hk, _, hd, _, r⟩
  · rcases g with (g | ⟨o', g⟩) | ⟨o', its', n', hk', _, hd', _, r'⟩
    · rw [h] at g; cases g; rfl
    · rw [h] at g; cases g
    · exact absurd h (hx _ hk' _)
  · rcases g with (g | ⟨o', g⟩) | ⟨o', its', n', hk', _, hd', _, r'⟩
    · rw [h] at g; cases g
    · rw [h] at g; cases g; rfl
    · exact absurd h (hx _ hk' _)
  · rcases g with (g | ⟨o', g⟩) | ⟨o', its', n', hk', _, hd', _, r'⟩
    · exact absurd g (hx _ hk _)
    · exact absurd g (hx _ hk _)
    · rw [hk] at hk'; cases hk'
      rw [hd] at hd'; cases hd'
      exact r.inj r'
end
/-- a sequence read at a: each turn hands on the item -/
theorem beh_seq {K : FK} {F1 : Hp} {J : It} {ds : List D} {src : Sto → Prop} (C : Hp → List V → Prop)
    (hC : ∀ Z F H S, Same F1 F → RelH K Z F S H → src S → ∃ vs, C H vs ∧ RepL K F ds vs)
    (go : ∀ i H vs v, C H vs → vs[i]? = some v → J.go i H) (yld : ∀ i H vs x H', C H vs → J.yld i H x H' → H' = H ∧ vs[i]? = some x) (stop : ∀ i H vs, C H vs → vs.length ≤ i → J.stop i H) : Beh K F1 J ds src := by
  intro i Z F H S sf R hs
  obtain ⟨vs, c, r⟩ := hC Z F H S sf R hs
  refine ⟨fun d hd => ?_, fun hl => stop i H vs c (by rw [← r.length]; exact hl)⟩
  obtain ⟨v, hv, rv⟩ := r.get hd
  refine ⟨go i H vs v c hv, fun x H' y => ?_⟩
  obtain ⟨rfl, e⟩ := yld i H vs x H' c y
  rw [hv] at e; cases e
  exact ⟨F, Same.refl F, R, rv⟩
theorem beh_list {K : FK} {F1 : Hp} {a : Addr} {ds : List D} {src : Sto → Prop} (hC : ∀ Z F H S, Same F1 F → RelH K Z F S H → src S → ∃ vs, SqL K H a vs ∧ RepL K F ds vs) : Beh K F1 (Itl K a) ds src :=
  beh_seq (fun H vs => SqL K H a vs) hC (fun _ _ vs v c e => ⟨vs, v, c, e⟩) (fun _ _ vs _ _ c y => ⟨y.1, y.2 vs c⟩) (fun _ _ vs c l => ⟨vs, c, l⟩)
theorem beh_tup {K : FK} {F1 : Hp} {a : Addr} {ds : List D} {src : Sto → Prop} (hC : ∀ Z F H S, Same F1 F → RelH K Z F S H → src S → ∃ vs, SqT K H a vs ∧ RepL K F ds vs) : Beh K F1 (Itt K a) ds src :=
  beh_seq (fun H vs => SqT K H a vs) hC (fun _ _ vs v c e => ⟨vs, v, c, e⟩) (fun _ _ vs _ _ c y => ⟨y.1, y.2 vs c⟩) (fun _ _ vs c l => ⟨vs, c, l⟩)
theorem beh_rng {K : FK} {F1 : Hp} {lo : Int} {n : Nat} : Beh K F1 (Itr lo n) (rngD lo n) fun _ => True := by
  intro i Z F H S sf R _
  refine ⟨fun d hd => ?_, fun hl => show n ≤ i by simpa [rngD] using hl⟩
  unfold rngD at hd
  rw [List.getElem?_map] at hd
  by_cases hi : i < n
  · rw [List.getElem?_range hi] at hd
    cases hd
    refine ⟨hi, fun x H' y => ?_⟩
    obtain ⟨rfl, rfl⟩ := y
    exact ⟨F, Same.refl F, R, .int _⟩
  · rw [List.getElem?_eq_none (by simpa using hi)] at hd
    cases hd
theorem beh_dwn {K : FK} {F1 : Hp} {lo : Int} {n : Nat} : Beh K F1 (Itc lo (-1) n) (dwnD lo n) fun _ => True := by
  intro i Z F H S sf R _
  refine ⟨fun d hd => ?_, fun hl => show n ≤ i by simpa [dwnD] using hl⟩
  unfold dwnD at hd
  rw [List.getElem?_map] at hd
  by_cases hi : i < n
  · rw [List.getElem?_range hi] at hd
    cases hd
    refine ⟨hi, fun x H' y => ?_⟩
    obtain ⟨rfl, rfl⟩ := y
    exact ⟨F, Same.refl F, R, .int _⟩
  · rw [List.getElem?_eq_none (by simpa using hi)] at hd
    cases hd
theorem beh_str {K : FK} {F1 : Hp} {z : Str} : Beh K F1 (Its z) (z.cps.toList.map fun c => D.str ⟨#[c]⟩) fun _ => True := by
  intro i Z F H S sf R _
  refine ⟨fun d hd => ?_, fun hl => show z.cps.size ≤ i by simpa using hl⟩
  rw [List.getElem?_map] at hd
  have e : z.cps.toList[i]? = z.cps[i]? := Array.getElem?_toList ..
  rw [e] at hd
  cases q : z.cps[i]? with
  | none => rw [q] at hd; cases hd
  | some c =>
    rw [q] at hd; cases hd
    refine ⟨(Array.getElem?_eq_some_iff.mp q).1, fun x H' y => ?_⟩
    obtain ⟨rfl, c', e', rfl⟩ := y
    rw [q] at e'; cases e'
    exact ⟨F, Same.refl F, R, .str _⟩
theorem enu_at : ∀ (ds : List D) (n i : Nat), (enuD n ds)[i]? = ds[i]?.map fun d => D.tup [.int ((n + i : Nat) : Int), d]
  | [], n, i => by simp [enuD]
  | d :: ds, n, 0 => by simp [enuD]
  | d :: ds, n, i + 1 => by
    show (enuD (n + 1) ds)[i]? = _
    rw [enu_at ds (n + 1) i]
    have e : n + 1 + i = n + (i + 1) := by omega
    rw [e]; rfl
theorem enu_len (ds : List D) : ∀ n, (enuD n ds).length = ds.length := by
  induction ds with
  | nil => intro n; rfl
  | cons d ds ih => intro n; show (enuD (n + 1) ds).length + 1 = ds.length + 1; rw [ih]
theorem zip_at : ∀ (as bs : List D) (i : Nat), (zipD as bs)[i]? = (match as[i]?, bs[i]? with
    | some a, some b => some (D.tup [a, b])
    | _, _ => none)
  | [], bs, i => by simp [zipD]
  | a :: as, [], i => by
    have e : zipD (a :: as) [] = [] := rfl
    rw [e]
    cases h : (a :: as)[i]? <;> simp
  | a :: as, b :: bs, 0 => by simp [zipD]
  | a :: as, b :: bs, i + 1 => by
    show (zipD as bs)[i]? = _
    rw [zip_at as bs i]
    rfl
theorem zip_len : ∀ (as bs : List D), (zipD as bs).length = min as.length bs.length
  | [], bs => by simp [zipD]
  | a :: as, [] => by simp [zipD]
  | a :: as, b :: bs => by
    show (zipD as bs).length + 1 = _
    rw [zip_len as bs, List.length_cons, List.length_cons]
    omega
theorem newPair {K : FK} {Z F H : Hp} {S : Sto} {T : Addr} {d e : D} {x y : V} (R : RelH K Z F S H) (hT : H T = none) (rx : Rep K F d x) (ry : Rep K F e y) :
    ∃ F', Same F F' ∧ RelH K Z F' S (upd H T (.tup [x, y])) ∧ Rep K F' (.tup [d, e]) (.ref T) := by
  obtain ⟨s1, R1⟩ := R.newF (o := .tup [x, y]) hT
  exact ⟨_, s1, R1, .tup (SqT.of upd_same) (.cons (rx.mono s1) (.cons (ry.mono s1) .nil))⟩
theorem beh_enum {K : FK} {F1 : Hp} {a : Addr} {ds : List D} {src : Sto → Prop} (hC : ∀ Z F H S, Same F1 F → RelH K Z F S H → src S → ∃ vs, SqL K H a vs ∧ RepL K F ds vs) : Beh K F1 (Ite K a) (enuD 0 ds) src := by
  intro i Z F H S sf R hs
  obtain ⟨vs, c, r⟩ := hC Z F H S sf R hs
  refine ⟨fun d hd => ?_, fun hl => ⟨vs, c, by rw [← r.length]; rw [enu_len] at hl; exact hl⟩⟩
  rw [enu_at] at hd
  cases q : ds[i]? with
  | none => rw [q] at hd; cases hd
  | some e =>
    rw [q] at hd; cases hd
    obtain ⟨v, hv, rv⟩ := r.get q
    refine ⟨⟨vs, v, c, hv⟩, fun x H' y => ?_⟩
    obtain ⟨T, z, rfl, hT, rfl, g⟩ := y
    have z1 := g vs c
    rw [hv] at z1; cases z1
    rw [Nat.zero_add]
    exact newPair R hT (.int _) rv
theorem beh_zip {K : FK} {F1 : Hp} {a b : Addr} {ds es : List D} {s1 s2 : Sto → Prop} (hC : ∀ Z F H S, Same F1 F → RelH K Z F S H → s1 S → ∃ vs, SqL K H a vs ∧ RepL K F ds vs) (hD : ∀ Z F H S, Same F1 F → RelH K Z F S H → s2 S → ∃ vs, SqL K H b vs ∧ RepL K F es vs) :
    Beh K F1 (Itz K a b) (zipD ds es) (fun S => s1 S ∧ s2 S) := by
  intro i Z F H S sf R hs
  obtain ⟨vs, c, r⟩ := hC Z F H S sf R hs.1
  obtain ⟨us, c2, r2⟩ := hD Z F H S sf R hs.2
  refine ⟨fun d hd => ?_, fun hl => ⟨vs, us, c, c2, ?_⟩⟩
  · rw [zip_at] at hd
    cases q : ds[i]? with
    | none => rw [q] at hd; cases hd
    | some e =>
      cases q2 : es[i]? with
      | none => rw [q, q2] at hd; cases hd
      | some e2 =>
        rw [q, q2] at hd; cases hd
        obtain ⟨v, hv, rv⟩ := r.get q
        obtain ⟨v2, hv2, rv2⟩ := r2.get q2
        refine ⟨⟨vs, us, v, v2, c, c2, hv, hv2⟩, fun x H' y => ?_⟩
        obtain ⟨T, z, z2, rfl, hT, rfl, g, g2⟩ := y
        have e1 := g vs c
        have e3 := g2 us c2
        rw [hv] at e1; cases e1
        rw [hv2] at e3; cases e3
        exact newPair R hT rv rv2
  · rw [zip_len, r.length, r2.length] at hl
    omega
theorem beh_zipT {K : FK} {F1 : Hp} {a b : Addr} {ds es : List D} {src : Sto → Prop} (hC : ∀ Z F H S, Same F1 F → RelH K Z F S H → src S → (∃ vs, SqT K H a vs ∧ RepL K F ds vs) ∧ ∃ vs, SqT K H b vs ∧ RepL K F es vs) :
    Beh K F1 (RZ.ItzT K a b) (zipD ds es) src := by
  intro i Z F H S sf R hs
  obtain ⟨⟨vs, c, r⟩, us, c2, r2⟩ := hC Z F H S sf R hs
  refine ⟨fun d hd => ?_, fun hl => ⟨vs, us, c, c2, ?_⟩⟩
  · rw [zip_at] at hd
    cases q : ds[i]? with
    | none => rw [q] at hd; cases hd
    | some e =>
      cases q2 : es[i]? with
      | none => rw [q, q2] at hd; cases hd
      | some e2 =>
        rw [q, q2] at hd; cases hd
        obtain ⟨v, hv, rv⟩ := r.get q
        obtain ⟨v2, hv2, rv2⟩ := r2.get q2
        refine ⟨⟨vs, us, v, v2, c, c2, hv, hv2⟩, fun x H' y => ?_⟩
        obtain ⟨T, z, z2, rfl, hT, rfl, g, g2⟩ := y
        have e1 := g vs c
        have e3 := g2 us c2
        rw [hv] at e1; cases e1
        rw [hv2] at e3; cases e3
        exact newPair R hT rv rv2
  · rw [zip_len, r.length, r2.length] at hl
    omega
theorem beh_rev {K : FK} {F1 : Hp} {a : Addr} {ds : List D} {n : Nat} {src : Sto → Prop} (hn : n = ds.length) (hC : ∀ Z F H S, Same F1 F → RelH K Z F S H → src S → ∃ vs, SqL K H a vs ∧ RepL K F ds vs) : Beh K F1 (Itv K a n) ds.reverse src := by
  subst hn
  intro i Z F H S sf R hs
  obtain ⟨vs, c, r⟩ := hC Z F H S sf R hs
  refine ⟨fun d hd => ?_, fun hl => by rw [List.length_reverse] at hl; exact hl⟩
  have hi : i < ds.length := by
    have := (List.getElem?_eq_some_iff.mp hd).1
    rwa [List.length_reverse] at this
  rw [List.getElem?_reverse hi] at hd
  obtain ⟨v, hv, rv⟩ := r.get hd
  refine ⟨⟨hi, vs, v, c, hv⟩, fun x H' y => ?_⟩
  obtain ⟨rfl, g⟩ := y
  have e := g vs c
  rw [hv] at e; cases e
  exact ⟨F, Same.refl F, R, rv⟩
theorem beh_revT {K : FK} {F1 : Hp} {a : Addr} {ds : List D} {n : Nat} {src : Sto → Prop} (hn : n = ds.length) (hC : ∀ Z F H S, Same F1 F → RelH K Z F S H → src S → ∃ vs, SqT K H a vs ∧ RepL K F ds vs) : Beh K F1 (RT.ItvT K a n) ds.reverse src := by
  subst hn
  intro i Z F H S sf R hs
  obtain ⟨vs, c, r⟩ := hC Z F H S sf R hs
  refine ⟨fun d hd => ?_, fun hl => by rw [List.length_reverse] at hl; exact hl⟩
  have hi : i < ds.length := by
    have := (List.getElem?_eq_some_iff.mp hd).1
    rwa [List.length_reverse] at this
  rw [List.getElem?_reverse hi] at hd
  obtain ⟨v, hv, rv⟩ := r.get hd
  refine ⟨⟨hi, vs, v, c, hv⟩, fun x H' y => ?_⟩
  obtain ⟨rfl, g⟩ := y
  have e := g vs c
  rw [hv] at e; cases e
  exact ⟨F, Same.refl F, R, rv⟩

/-! ### comprehensions -/
theorem lc_lift {K : FK} {Z F0 : Hp} {wi : WpI} {tg : G} {m : Bool} {ifs : WpT} {elt : WpE} {vs : List Nat} (hvs : vs = gSl tg) {tt : TT} {te : TE}
    (ht : ∀ Z F0 σ H Q, LT K Z F0 ifs σ H Q → tt σ H Q) (he : ∀ Z F0 σ H Q, LE K Z F0 elt σ H Q → te σ H Q) {σ : VS} {H : Hp} {Q : VK}
    (q : LE K Z F0 (fun δ S P => wi δ S fun ds src S1 => wLc m tg ifs elt src (wipeD δ (gSl tg)) P ds [] S1) σ H Q) : tLc (LI K Z F0 wi) (gR K tg) tt te vs σ H Q := by
  subst hvs
  obtain ⟨F, δ, S, P, sf, rs, rh, w, c⟩ := q
  refine ⟨F, δ, S, _, sf, rs, rh, w, ?_⟩
  intro F1 H1 S1 J ds src s1 R1 beh hsrc w1 D hD
  have hz := R1.hz hD
  refine ⟨fun i m' H => m' = ds.length - i ∧ i ≤ ds.length ∧ ∃ F S acc avs, Same F1 F ∧ RelH K (upd Z D (.lst avs)) F S H ∧ RepL K F acc avs ∧ src S ∧ wLc m tg ifs elt src (wipeD δ (gSl tg)) P (ds.drop i) acc S,
    ⟨_, rfl, Nat.zero_le _, F1, S1, [], [], Same.refl _, R1.hide hD _, .nil, hsrc, w1⟩, ?_⟩
  rintro i m' H2 ⟨rfl, hi, F2, S2, acc, avs, s2, R2, ra, hs2, w2⟩
  obtain ⟨b1, b2⟩ := beh i _ F2 H2 S2 s2 R2 hs2
  by_cases hlt : i < ds.length
  · right
    obtain ⟨d, hd⟩ : ∃ d, ds[i]? = some d := ⟨ds[i], List.getElem?_eq_getElem hlt⟩
    have ed : ds.drop i = d :: ds.drop (i + 1) := by
      rw [List.drop_eq_getElem_cons hlt]
      rw [List.getElem?_eq_getElem hlt] at hd
      cases hd; rfl
    rw [ed] at w2
    obtain ⟨go, yl⟩ := b1 d hd
    refine ⟨go, fun H' => (i + 1 ≤ ds.length ∧ ∃ F S acc avs, Same F1 F ∧ RelH K (upd Z D (.lst avs)) F S H' ∧ RepL K F acc avs ∧ src S ∧ wLc m tg ifs elt src (wipeD δ (gSl tg)) P (ds.drop (i + 1)) acc S),
      fun H' h => ⟨ds.length - (i + 1), by omega, rfl, h⟩, ?_⟩
    intro x H' y
    obtain ⟨F3, s3, R3, rx⟩ := yl x H' y
    refine gR_of R3 tg d x _ _ _ rx ((rs.mono (s1.trans (s2.trans s3))).wipes (gSl tg)) w2 ?_
    intro δ4 σ4 rs4 keep len w4
    refine ⟨?_, ?_⟩
    · rw [← wipe_wipe σ (gSl tg)]
      exact wipe_ext len keep
    refine ht (upd Z D (.lst avs)) F3 σ4 H' _ ⟨F3, δ4, S2, _, Same.refl _, rs4, R3, w4, ?_⟩
    intro F5 H5 S5 b s5 R5 w5
    cases b with
    | true =>
      rw [if_pos rfl] at w5 ⊢
      refine he (upd Z D (.lst avs)) F5 σ4 H5 _ ⟨F5, δ4, S5, _, Same.refl _, rs4.mono s5, R5, w5, ?_⟩
      intro F6 H6 S6 yd yv s6 R6 ry w6
      obtain ⟨hs6, hl6, w6⟩ := w6
      have all := (s3.trans (s5.trans s6))
      refine ⟨avs, (R6.hid D _ upd_same).2.2, by rw [← ra.length]; exact hl6, by omega, F6, S6, acc ++ [yd], avs ++ [yv], s2.trans all, R6.rehide, (ra.mono all).app (.cons ry .nil), hs6, w6⟩
    | false =>
      rw [if_neg Bool.false_ne_true] at w5 ⊢
      obtain ⟨hs5, w5⟩ := w5
      exact ⟨by omega, F5, S5, acc, avs, s2.trans (s3.trans s5), R5, ra.mono (s3.trans s5), hs5, w5⟩
  · left
    have e : i = ds.length := by omega
    subst e
    refine ⟨b2 (Nat.le_refl _), ?_⟩
    rw [List.drop_length] at w2
    have w2 : nwL m acc S2 P := w2
    cases m with
    | true =>
      obtain ⟨n0, R3⟩ := R2.unhideS (c := .lst acc) hz ra
      exact c F2 H2 _ _ _ (s1.trans s2) R3 (.ref D) (w2 D n0)
    | false =>
      obtain ⟨s3, R3⟩ := R2.unhideF hz
      exact c _ H2 S2 _ _ (s1.trans (s2.trans s3)) R3 (.lst upd_same (ra.mono s3)) w2
end GB

/-! GB10: soundness of expressions. -/
namespace GB
open PySem PySem.Spec PyProof.Rows L2

structure Gd (X : Cx) (k : Nat) (Z F0 : Hp) (xq : XP) (blk : Bool) : Prop where
  nd : X.N.Nodup
  calm : X.calm = true
  room : Room k X.A
  gu : X.A.guards = some []
  tk : Takes X (LX X.K X.mg Z F0 xq)
  po : PassesOwn (model X.prog X.w) X.A X.env X.xe
  fn : blk = false → ∀ x, X.fn x = true
def txOf (X : Cx) : Tx := ⟨X.prog, X.w, X.K, X.mg, X.base⟩
theorem Gd.un {X : Cx} {k : Nat} {Z F0 : Hp} {xq : XP} {blk : Bool} (g : Gd X k Z F0 xq blk) : X.A.units + 64 < cLine := g.room.units
/-- a comprehension's block -/
theorem Gd.blk {X : Cx} {k : Nat} {Z F0 : Hp} {xq : XP} {b : Bool} (g : Gd X k Z F0 xq b) (Z' F' : Hp) (s : Shared) (H : Hp) (scope : Scope) (C : Addr) (cl : List (Str × Addr)) (fp : List Addr) :
    Gd (X.blk s H scope (compEnvC scope cl C X.env) fp) k Z' F' (fun _ _ _ => False) true := by
  refine ⟨g.nd, g.calm, g.room, g.gu, ?_, PassesOwn.never, fun h => nomatch h⟩
  refine Takes.imp takes0 ?_
  rintro c d σ H ⟨_, _, _, _, _, _, _, _, z⟩
  exact z

section
variable {X : Cx} {Z F0 : Hp}
theorem PT_of {p : Expr} {we : WpE} (h : PE X p (LE X.K Z F0 we)) (he : ∀ whole, isTrue p X.env whole = (do let v ← whole; standAt p.pos; holding [v] (truthy v))) : PT X p (LT X.K Z F0 (tv we)) := by
  refine PT_imp (pt_truth h he) ?_
  rintro σ H Q ⟨F, δ, S, P, sf, rs, rh, w, c⟩
  refine ⟨F, δ, S, _, sf, rs, rh, w, ?_⟩
  intro F' H' S' d v s R r t
  obtain ⟨b, tb, pb⟩ := truL R r t
  exact ⟨b, tb, c F' H' S' b s R pb⟩
theorem both_ok {p : Expr} {we : WpE} (h : PE X p (LE X.K Z F0 we)) (he : ∀ whole, isTrue p X.env whole = (do let v ← whole; standAt p.pos; holding [v] (truthy v))) :
    PE X p (LE X.K Z F0 (both we).e) ∧ PT X p (LT X.K Z F0 (both we).t) := ⟨h, PT_of h he⟩
/-- a constant -/
theorem cst_ok {p : Expr} {d : D} {v : V} (h : PE X p (tC v)) (r : ∀ F, Rep X.K F d v) : PE X p (LE X.K Z F0 fun _ S P => P d S) := by
  refine PE_imp h ?_
  rintro σ H Q ⟨F, δ, S, P, sf, rs, rh, w, c⟩
  exact same_ok rh (r F) w c
theorem un_ok {p : Expr} {we : WpE} {r : V → Hp → VK → Prop} {o : D → Sto → EQ → Prop} {q : Expr} (h : PE X p (LE X.K Z F0 we)) (f : ∀ {t : TE}, PE X p t → PE X q (tUn r t)) (u : UnL X.K r o) : PE X q (LE X.K Z F0 fun δ S P => we δ S fun x S1 => o x S1 P) := by
  refine PE_imp (f h) ?_
  rintro σ H Q ⟨F, δ, S, P, sf, rs, rh, w, c⟩
  refine ⟨F, δ, S, _, sf, rs, rh, w, ?_⟩
  intro F' H' S' d v s R rd od
  exact u Z F' S' H' d v P Q R rd od (c.mono s)
theorem negL {K : FK} : UnL K (rU fun i => .int (-i)) negD := by
  intro Z F S H x v P Q R rx w c
  cases x with
  | int i => cases rx; exact ⟨i, rfl, same_ok R (.int _) w c⟩
  | _ => exact absurd w id
/-- a comparison's value is a truth -/
theorem cmp_test {p : Expr} {we : WpE} (h : PE X p (LE X.K Z F0 we)) (hp : ∀ {t : TE}, PE X p t → PT X p (tTest t)) : PT X p (LT X.K Z F0 fun δ S P => we δ S (isCmpTrue P)) := by
  refine PT_imp (hp h) ?_
  rintro σ H Q ⟨F, δ, S, P, sf, rs, rh, w, c⟩
  refine ⟨F, δ, S, _, sf, rs, rh, w, ?_⟩
  rintro F' H' S' d v s R rd ⟨b, rfl, pb⟩
  cases rd
  exact ⟨b, rfl, c F' H' S' b s R pb⟩
end

/-- the operator of a comparison -/
def copO : COp → CmpOp
  | .eq => .Eq
  | .ne => .NotEq
  | .lt => .Lt
  | .le => .LtE
  | .gt => .Gt
  | .ge => .GtE
  | .isN => .Is
  | .noN => .IsNot
  | .inn => .In
  | .nin => .NotIn
theorem copO_of : ∀ {o : COp} {op : CmpOp}, copB o op = true → op = copO o := by
  intro o op h
  cases o <;> cases op <;> first
    | rfl
    | exact absurd h Bool.false_ne_true
theorem cop_ok {X : Cx} (hu : X.A.units + 64 < cLine) : ∀ {o : COp} {op : CmpOp}, copB o op = true → ∃ r, OpR X (compareOp op) r ∧ OpL X.K r (cmpD o) ∧ (inB2 o = false → op ≠ .In ∧ op ≠ .NotIn) := by
  intro o op h
  obtain rfl := copO_of h
  cases o with
  | eq => exact ⟨_, op_eqA hu, eqL, fun _ => ⟨nofun, nofun⟩⟩
  | ne => exact ⟨_, op_neA hu, neL, fun _ => ⟨nofun, nofun⟩⟩
  | lt => exact ⟨_, op_lt, icmpL _, fun _ => ⟨nofun, nofun⟩⟩
  | le => exact ⟨_, op_le, icmpL _, fun _ => ⟨nofun, nofun⟩⟩
  | gt => exact ⟨_, op_gt, icmpL _, fun _ => ⟨nofun, nofun⟩⟩
  | ge => exact ⟨_, op_ge, icmpL _, fun _ => ⟨nofun, nofun⟩⟩
  | isN => exact ⟨_, op_isN, isNL, fun _ => ⟨nofun, nofun⟩⟩
  | noN => exact ⟨_, op_notN, noNL, fun _ => ⟨nofun, nofun⟩⟩
  | inn => exact ⟨_, op_inA hu, inL, fun z => absurd z (by decide)⟩
  | nin => exact ⟨_, op_notInA hu, inL, fun z => absurd z (by decide)⟩
def bopO : BOp → Operator
  | .add => .Add
  | .sub => .Sub
  | .mul => .Mult
  | .fdiv => .FloorDiv
  | .mod => .Mod
  | .pow => .Pow
  | .shl => .LShift
  | .shr => .RShift
  | .band => .BitAnd
theorem bopO_of : ∀ {o : BOp} {op : Operator}, bopB o op = true → op = bopO o := by
  intro o op h
  cases o <;> cases op <;> first
    | rfl
    | exact absurd h Bool.false_ne_true
theorem bop_ok {X : Cx} : ∀ {o : BOp} {op : Operator} (m : Bool), bopB o op = true → ∃ r, OpR X (binaryOp op) r ∧ OpL X.K r (binD o m) := by
  intro o op m h
  obtain rfl := bopO_of h
  cases o with
  | add => exact ⟨_, op_addA, addL⟩
  | sub => exact ⟨_, op_sub, subL⟩
  | mul => exact ⟨_, op_mulA, mulL⟩
  | fdiv => exact ⟨_, op_fdivA, fdivL⟩
  | mod => exact ⟨_, op_modN, modL⟩
  | pow => exact ⟨_, op_powA, powL⟩
  | shl => exact ⟨_, op_shlN, shlL⟩
  | shr => exact ⟨_, op_shrN, shrL⟩
  | band => exact ⟨_, op_andM, bandL⟩

theorem and_t {a b : Bool} (h : (a && b) = true) : a = true ∧ b = true := Bool.and_eq_true_iff.mp h
theorem star_cons {e : Expr} {es : List Expr} {env : Env} (h : nst e = true) : starEach (e :: es) env = (false, eval e env) :: starEach es env := by
  cases e <;> first
    | rfl
    | exact absurd h Bool.false_ne_true
/-- no star in a list of arguments -/
def NStar : List Expr → Prop
  | [] => True
  | e :: es => nst e = true ∧ NStar es
theorem star_none {pos : Pos} {env : Env} : ∀ {es : List Expr}, NStar es → (backTo pos (starEach es env)).any (·.1) = false
  | [], _ => rfl
  | e :: es, h => by
    rw [star_cons h.1]
    show (false || (backTo pos (starEach es env)).any (·.1)) = false
    rw [star_none h.2]; rfl
theorem star_all {pos : Pos} {env : Env} : ∀ {es : List Expr}, NStar es → ((backTo pos (starEach es env)).all fun x => !x.1) = true
  | [], _ => rfl
  | e :: es, h => by
    rw [star_cons h.1]
    show (true && (backTo pos (starEach es env)).all fun x => !x.1) = true
    rw [star_all h.2]; rfl
/-- what a look at a list of expressions gives -/
structure EsOk (X : Cx) (Z F0 : Hp) (ps : List Expr) (W : WEs) : Prop where
  st : NStar ps
  all : PA X ps (LA X.K Z F0 W.all)
  an : ps ≠ [] → ∀ pos, PE X (.BoolOp .And ps pos) (LE X.K Z F0 W.an.e) ∧ PW X (.BoolOp .And ps pos) (LT X.K Z F0 W.an.t)
  or : ps ≠ [] → ∀ pos, PE X (.BoolOp .Or ps pos) (LE X.K Z F0 W.or.e) ∧ PW X (.BoolOp .Or ps pos) (LT X.K Z F0 W.or.t)
  ifs : ps.length ≤ 1 → PTs X ps (LT X.K Z F0 W.ifs)

section
variable {X : Cx} {Z F0 : Hp}
theorem pw_one_a {a : Expr} {t : TT} {pos : Pos} (h : PT X a t) : PW X (.BoolOp .And [a] pos) t := pw_and1 h
theorem pa_more {p : Expr} {ps : List Expr} {we : WpE} {wa : WpA} (h : PE X p (LE X.K Z F0 we)) (hs : PA X ps (LA X.K Z F0 wa)) (n : nst p = true) :
    PA X (p :: ps) (LA X.K Z F0 fun δ S P => we δ S fun x S1 => wa δ S1 fun xs S2 => P (x :: xs) S2) := by
  refine PA_imp (pa_cons h hs (star_cons n)) ?_
  rintro σ H Q ⟨F, δ, S, P, sf, rs, rh, w, c⟩
  refine ⟨F, δ, S, _, sf, rs, rh, w, ?_⟩
  intro F1 H1 S1 d v s1 R1 r1 w1
  refine ⟨F1, δ, S1, _, sf.trans s1, rs.mono s1, R1, w1, ?_⟩
  intro F2 H2 S2 ds vs s2 R2 r2 w2
  exact c F2 H2 S2 (d :: ds) (v :: vs) (s1.trans s2) R2 (.cons (r1.mono s2) r2) w2
theorem pa_nil' : PA X [] (LA X.K Z F0 fun _ S P => P [] S) := by
  refine PA_imp pa_nil ?_
  rintro σ H Q ⟨F, δ, S, P, sf, rs, rh, w, c⟩
  exact c F H S [] [] (Same.refl F) rh .nil w
/-- and, or: the next operand -/
theorem an_e {a b : Expr} {r : List Expr} {pos : Pos} {wa wb : WpE} (ha : PE X a (LE X.K Z F0 wa)) (hb : PE X (.BoolOp .And (b :: r) pos) (LE X.K Z F0 wb)) :
    PE X (.BoolOp .And (a :: b :: r) pos) (LE X.K Z F0 fun δ S P => wa δ S fun x S1 => truD x S1 fun k S2 => if k = true then wb δ S2 P else P x S2) := by
  refine PE_imp (pe_andT ha hb) ?_
  rintro σ H Q ⟨F, δ, S, P, sf, rs, rh, w, c⟩
  refine ⟨F, δ, S, _, sf, rs, rh, w, ?_⟩
  intro F1 H1 S1 d v s1 R1 r1 w1
  obtain ⟨k, tk, w1⟩ := truL R1 r1 w1
  refine ⟨k, tk, ?_⟩
  cases k with
  | true =>
    rw [if_pos rfl] at w1 ⊢
    exact ⟨F1, δ, S1, P, sf.trans s1, rs.mono s1, R1, w1, c.mono s1⟩
  | false =>
    rw [if_neg Bool.false_ne_true] at w1 ⊢
    exact same_ok R1 r1 w1 (c.mono s1)
theorem or_e {a b : Expr} {r : List Expr} {pos : Pos} {wa wb : WpE} (ha : PE X a (LE X.K Z F0 wa)) (hb : PE X (.BoolOp .Or (b :: r) pos) (LE X.K Z F0 wb)) :
    PE X (.BoolOp .Or (a :: b :: r) pos) (LE X.K Z F0 fun δ S P => wa δ S fun x S1 => truD x S1 fun k S2 => if k = true then P x S2 else wb δ S2 P) := by
  refine PE_imp (pe_orT ha hb) ?_
  rintro σ H Q ⟨F, δ, S, P, sf, rs, rh, w, c⟩
  refine ⟨F, δ, S, _, sf, rs, rh, w, ?_⟩
  intro F1 H1 S1 d v s1 R1 r1 w1
  obtain ⟨k, tk, w1⟩ := truL R1 r1 w1
  refine ⟨k, tk, ?_⟩
  cases k with
  | true =>
    rw [if_pos rfl] at w1 ⊢
    exact same_ok R1 r1 w1 (c.mono s1)
  | false =>
    rw [if_neg Bool.false_ne_true] at w1 ⊢
    exact ⟨F1, δ, S1, P, sf.trans s1, rs.mono s1, R1, w1, c.mono s1⟩
theorem an_t {a b : Expr} {r : List Expr} {pos : Pos} {wa wb : WpT} (ha : PT X a (LT X.K Z F0 wa)) (hb : PW X (.BoolOp .And (b :: r) pos) (LT X.K Z F0 wb)) :
    PW X (.BoolOp .And (a :: b :: r) pos) (LT X.K Z F0 fun δ S P => wa δ S fun k S1 => if k = true then wb δ S1 P else P false S1) := by
  refine PW_imp (pw_and ha hb) ?_
  rintro σ H Q ⟨F, δ, S, P, sf, rs, rh, w, c⟩
  refine ⟨F, δ, S, _, sf, rs, rh, w, ?_⟩
  intro F1 H1 S1 k s1 R1 w1
  cases k with
  | true =>
    rw [if_pos rfl] at w1 ⊢
    exact ⟨F1, δ, S1, P, sf.trans s1, rs.mono s1, R1, w1, fun F2 H2 S2 b s2 => c F2 H2 S2 b (s1.trans s2)⟩
  | false =>
    rw [if_neg Bool.false_ne_true] at w1 ⊢
    exact c F1 H1 S1 false s1 R1 w1
theorem or_t {a b : Expr} {r : List Expr} {pos : Pos} {wa wb : WpT} (ha : PT X a (LT X.K Z F0 wa)) (hb : PW X (.BoolOp .Or (b :: r) pos) (LT X.K Z F0 wb)) :
    PW X (.BoolOp .Or (a :: b :: r) pos) (LT X.K Z F0 fun δ S P => wa δ S fun k S1 => if k = true then P true S1 else wb δ S1 P) := by
  refine PW_imp (pw_or ha hb) ?_
  rintro σ H Q ⟨F, δ, S, P, sf, rs, rh, w, c⟩
  refine ⟨F, δ, S, _, sf, rs, rh, w, ?_⟩
  intro F1 H1 S1 k s1 R1 w1
  cases k with
  | true =>
    rw [if_pos rfl] at w1 ⊢
    exact c F1 H1 S1 true s1 R1 w1
  | false =>
    rw [if_neg Bool.false_ne_true] at w1 ⊢
    exact ⟨F1, δ, S1, P, sf.trans s1, rs.mono s1, R1, w1, fun F2 H2 S2 b s2 => c F2 H2 S2 b (s1.trans s2)⟩
/-- a if t else b -/
theorem ite_e {t a b : Expr} {pos : Pos} {wt : WpT} {wa wb : WpE} (ht : PT X t (LT X.K Z F0 wt)) (ha : PE X a (LE X.K Z F0 wa)) (hb : PE X b (LE X.K Z F0 wb)) :
    PE X (.IfExp t a b pos) (LE X.K Z F0 fun δ S P => wt δ S fun k S1 => if k = true then wa δ S1 P else wb δ S1 P) := by
  refine PE_imp (pe_ifExp ht ha hb) ?_
  rintro σ H Q ⟨F, δ, S, P, sf, rs, rh, w, c⟩
  refine ⟨F, δ, S, _, sf, rs, rh, w, ?_⟩
  intro F1 H1 S1 k s1 R1 w1
  cases k with
  | true =>
    rw [if_pos rfl] at w1 ⊢
    exact ⟨F1, δ, S1, P, sf.trans s1, rs.mono s1, R1, w1, c.mono s1⟩
  | false =>
    rw [if_neg Bool.false_ne_true] at w1 ⊢
    exact ⟨F1, δ, S1, P, sf.trans s1, rs.mono s1, R1, w1, c.mono s1⟩
theorem ite_t {t a b : Expr} {pos : Pos} {wt wa wb : WpT} (ht : PT X t (LT X.K Z F0 wt)) (ha : PT X a (LT X.K Z F0 wa)) (hb : PT X b (LT X.K Z F0 wb)) :
    PT X (.IfExp t a b pos) (LT X.K Z F0 fun δ S P => wt δ S fun k S1 => if k = true then wa δ S1 P else wb δ S1 P) := by
  refine ⟨fun pins s σ H Q I q => ?_⟩
  obtain ⟨F, δ, S, P, sf, rs, rh, w, c⟩ := q
  have e : isTrue (.IfExp t a b pos) X.env (eval (.IfExp t a b pos) X.env) = (do if ← isTrue t X.env (eval t X.env) then isTrue a X.env (eval a X.env) else isTrue b X.env (eval b X.env)) := rfl
  rw [e]
  have h1 := ht.run pins s σ H (fun k H1 => ∃ F1 S1, Same F F1 ∧ RelH X.K Z F1 S1 H1 ∧ if k = true then wa δ S1 P else wb δ S1 P) I ⟨F, δ, S, _, sf, rs, rh, w, fun F' H' S' b s R p => ⟨F', S', s, R, p⟩⟩
  refine wpAny_bind (thn h1 ?_)
  rintro k s1 ⟨H1, I1, F1, S1, s1', R1, w1⟩
  cases k with
  | true =>
    rw [if_pos rfl] at w1
    exact ha.run pins s1 σ H1 Q I1 ⟨F1, δ, S1, P, sf.trans s1', rs.mono s1', R1, w1, fun F2 H2 S2 b s2 => c F2 H2 S2 b (s1'.trans s2)⟩
  | false =>
    rw [if_neg Bool.false_ne_true] at w1
    exact hb.run pins s1 σ H1 Q I1 ⟨F1, δ, S1, P, sf.trans s1', rs.mono s1', R1, w1, fun F2 H2 S2 b s2 => c F2 H2 S2 b (s1'.trans s2)⟩
theorem not_e {a : Expr} {pos : Pos} {wa : WpE} (ha : PE X a (LE X.K Z F0 wa)) : PE X (.UnaryOp .Not a pos) (LE X.K Z F0 fun δ S P => wa δ S fun x S1 => truD x S1 fun b S2 => P (.bl (!b)) S2) := by
  refine PE_imp (pe_notT ha) ?_
  rintro σ H Q ⟨F, δ, S, P, sf, rs, rh, w, c⟩
  refine ⟨F, δ, S, _, sf, rs, rh, w, ?_⟩
  intro F1 H1 S1 d v s1 R1 r1 w1
  obtain ⟨k, tk, w1⟩ := truL R1 r1 w1
  exact ⟨k, tk, same_ok R1 (.bl _) w1 (c.mono s1)⟩
theorem not_t {a : Expr} {pos : Pos} {wa : WpT} (ha : PT X a (LT X.K Z F0 wa)) : PT X (.UnaryOp .Not a pos) (LT X.K Z F0 fun δ S P => wa δ S fun b S1 => P (!b) S1) := by
  refine PT_imp (pt_not ha) ?_
  rintro σ H Q ⟨F, δ, S, P, sf, rs, rh, w, c⟩
  refine ⟨F, δ, S, _, sf, rs, rh, w, ?_⟩
  intro F1 H1 S1 b s1 R1 w1
  exact c F1 H1 S1 (!b) s1 R1 w1
/-- a op b op' c -/
theorem chain_e {op op' : CmpOp} {r r' : R2} {o o' : Opd} {a b c : Expr} {wa wb wc : WpE} {pos : Pos} (ho : OpR X (compareOp op) r) (ho' : OpR X (compareOp op') r') (l : OpL X.K r o) (l' : OpL X.K r' o') (n1 : op' ≠ .In) (n2 : op' ≠ .NotIn)
    (ha : PE X a (LE X.K Z F0 wa)) (hb : PE X b (LE X.K Z F0 wb)) (hc : PE X c (LE X.K Z F0 wc)) :
    PE X (.Compare a [op, op'] [b, c] pos) (LE X.K Z F0 fun δ S P => wa δ S fun x S1 => wb δ S1 fun y S2 => o x y S2 fun q S3 => ∃ k, q = .bl k ∧ if k = true then wc δ S3 fun z S4 => o' y z S4 P else P (.bl false) S3) := by
  refine PE_imp (pe_chain ho ho' ha hb hc (nobehind c n1 n2)) ?_
  rintro σ H Q ⟨F, δ, S, P, sf, rs, rh, w, c⟩
  refine ⟨F, δ, S, _, sf, rs, rh, w, ?_⟩
  intro F1 H1 S1 x v s1 R1 rx w1
  refine ⟨F1, δ, S1, _, sf.trans s1, rs.mono s1, R1, w1, ?_⟩
  intro F2 H2 S2 y u s2 R2 ry w2
  refine l Z F2 S2 H2 x y v u _ _ R2 (rx.mono s2) ry w2 ?_
  rintro F3 H3 S3 q z s3 R3 rz ⟨k, rfl, w3⟩
  cases rz
  refine ⟨k, rfl, ?_⟩
  cases k with
  | true =>
    rw [if_pos rfl] at w3 ⊢
    refine ⟨F3, δ, S3, _, sf.trans (s1.trans (s2.trans s3)), rs.mono (s1.trans (s2.trans s3)), R3, w3, ?_⟩
    intro F4 H4 S4 z' v4 s4 R4 r4 w4
    exact l' Z F4 S4 H4 y z' u v4 P Q R4 (ry.mono (s3.trans s4)) r4 w4 (c.mono (s1.trans (s2.trans (s3.trans s4))))
  | false =>
    rw [if_neg Bool.false_ne_true] at w3 ⊢
    exact same_ok R3 (.bl _) w3 (c.mono (s1.trans (s2.trans s3)))
theorem chain_t {op op' : CmpOp} {r r' : R2} {o o' : Opd} {a b c : Expr} {wa wb wc : WpE} {pos : Pos} (ho : OpR X (compareOp op) r) (ho' : OpR X (compareOp op') r') (l : OpL X.K r o) (l' : OpL X.K r' o') (n1 : op' ≠ .In) (n2 : op' ≠ .NotIn)
    (ha : PE X a (LE X.K Z F0 wa)) (hb : PE X b (LE X.K Z F0 wb)) (hc : PE X c (LE X.K Z F0 wc)) :
    PT X (.Compare a [op, op'] [b, c] pos) (LT X.K Z F0 fun δ S P => wa δ S fun x S1 => wb δ S1 fun y S2 => o x y S2 fun q S3 => ∃ k, q = .bl k ∧ if k = true then wc δ S3 fun z S4 => o' y z S4 (isCmpTrue P) else (isCmpTrue P) (.bl false) S3) := by
  refine PT_imp (pt_chain ho ho' ha hb hc (nobehind c n1 n2)) ?_
  rintro σ H Q ⟨F, δ, S, P, sf, rs, rh, w, c⟩
  have c' : Ct X.K Z F (isCmpTrue P) (fun x H' => ∃ k, x = .bl k ∧ Q k H') := by
    rintro F' H' S' d v s R r ⟨k, rfl, p⟩
    cases r
    exact ⟨k, rfl, c F' H' S' k s R p⟩
  refine ⟨F, δ, S, _, sf, rs, rh, w, ?_⟩
  intro F1 H1 S1 x v s1 R1 rx w1
  refine ⟨F1, δ, S1, _, sf.trans s1, rs.mono s1, R1, w1, ?_⟩
  intro F2 H2 S2 y u s2 R2 ry w2
  refine l Z F2 S2 H2 x y v u _ _ R2 (rx.mono s2) ry w2 ?_
  rintro F3 H3 S3 q z s3 R3 rz ⟨k, rfl, w3⟩
  cases rz
  refine ⟨k, rfl, ?_⟩
  cases k with
  | true =>
    rw [if_pos rfl] at w3 ⊢
    refine ⟨F3, δ, S3, _, sf.trans (s1.trans (s2.trans s3)), rs.mono (s1.trans (s2.trans s3)), R3, w3, ?_⟩
    intro F4 H4 S4 z' v4 s4 R4 r4 w4
    exact l' Z F4 S4 H4 y z' u v4 _ _ R4 (ry.mono (s3.trans s4)) r4 w4 (c'.mono (s1.trans (s2.trans (s3.trans s4))))
  | false =>
    rw [if_neg Bool.false_ne_true] at w3 ⊢
    exact same_ok R3 (.bl _) w3 (c'.mono (s1.trans (s2.trans s3)))
theorem tup_e {ps : List Expr} {k : Nat} {pos : Pos} {wa : WpA} (ha : PA X ps (LA X.K Z F0 wa)) : PE X (.Tuple ps k pos) (LE X.K Z F0 fun δ S P => wa δ S fun ds S1 => ds.length ≤ sizeLine ∧ P (.tup ds) S1) := by
  refine PE_imp (pe_tup ha) ?_
  rintro σ H Q ⟨F, δ, S, P, sf, rs, rh, w, c⟩
  refine ⟨F, δ, S, _, sf, rs, rh, w, ?_⟩
  rintro F1 H1 S1 ds vs s1 R1 r1 ⟨hl, w1⟩
  exact ⟨by rw [← r1.length]; exact hl, newT_ok R1 r1 w1 (c.mono s1)⟩
theorem lst_e {ps : List Expr} {m : Bool} {pos : Pos} {wa : WpA} (ha : PA X ps (LA X.K Z F0 wa)) : PE X (.List ps pos) (LE X.K Z F0 fun δ S P => wa δ S fun ds S1 => ds.length ≤ sizeLine ∧ nwL m ds S1 P) := by
  refine PE_imp (pe_lst ha) ?_
  rintro σ H Q ⟨F, δ, S, P, sf, rs, rh, w, c⟩
  refine ⟨F, δ, S, _, sf, rs, rh, w, ?_⟩
  rintro F1 H1 S1 ds vs s1 R1 r1 ⟨hl, w1⟩
  exact ⟨by rw [← r1.length]; exact hl, nwL_ok R1 r1 w1 (c.mono s1)⟩
theorem bi_e {ps : List Expr} {p pos : Pos} {y : Str} {wa : WpA} {r : List V → Hp → VK → Prop} {o : OpdA} {f : Value} (hf : (∃ id, f = .builtin id) ∨ ∃ T, f = .type T) (hc : CallR X f r) (l : CaL X.K r o) (gy : Gl X y) (hm : X.mg y = none) (hv : bootBuiltins y = some f) (hn : y ≠ "__name__") (hd : (y == ("__debug__" : Str)) = false)
    (ne : ps ≠ []) (st : NStar ps) (ha : PA X ps (LA X.K Z F0 wa)) : PE X (.Call (.Name y p) ps [] pos) (LE X.K Z F0 fun δ S P => wa δ S fun ds S1 => o ds S1 P) := by
  have go : PE X (.Call (.Name y p) ps [] pos) (tCB r (LA X.K Z F0 wa)) := by
    cases ps with
    | nil => exact absurd rfl ne
    | cons e es =>
      rcases hf with ⟨id, rfl⟩ | ⟨T, rfl⟩
      · exact pe_callB hc gy hm hv ha hn hd (star_cons st.1) (star_none st.2)
      · exact pe_callTy hc gy hm hv ha hn hd (star_cons st.1) (star_none st.2)
  refine PE_imp go ?_
  rintro σ H Q ⟨F, δ, S, P, sf, rs, rh, w, c⟩
  refine ⟨F, δ, S, _, sf, rs, rh, w, ?_⟩
  intro F1 H1 S1 ds vs s1 R1 r1 w1
  exact l Z F1 S1 H1 ds vs P Q R1 r1 w1 (c.mono s1)
end
end GB

/-! GB11: soundness of expressions, whole. -/
namespace GB
open PySem PySem.Spec PyProof.Rows L2

section
variable {X : Cx} {Z F0 : Hp}
theorem plain_ix {b : Expr} (h : nSlice b = true) : PlainIx b := by
  intro o i
  cases b <;> first
    | rfl
    | exact absurd h Bool.false_ne_true
theorem ix_e {a b : Expr} {pos : Pos} {wa wb : WpE} (hu : X.A.units + 64 < cLine) (n : nSlice b = true) (ha : PE X a (LE X.K Z F0 wa)) (hb : PE X b (LE X.K Z F0 wb)) : PE X (.Subscript a b pos) (LE X.K Z F0 (wBin ixD wa wb)) :=
  PE_imp (pe_ix (ix_any (by omega)) ha hb (plain_ix n)) fun _ _ _ q => bin_lift ixL q

/-- a slice's part -/
def LO (K : FK) (Z F0 : Hp) (w : Dts → Sto → (Option Int → Sto → Prop) → Prop) : TO := fun σ H Q => ∃ F δ S P, Same F0 F ∧ RelS K F δ σ ∧ RelH K Z F S H ∧ w δ S P ∧ ∀ F' H' S' o, Same F F' → RelH K Z F' S' H' → P o S' → Q o H'
theorem po_n : PO X none (LO X.K Z F0 fun _ S P => P none S) := by
  refine ⟨fun pins s σ H Q I q => po_none.run pins s σ H Q I ?_⟩
  obtain ⟨F, δ, S, P, sf, rs, rh, w, c⟩ := q
  exact c F H S none (Same.refl F) rh w
theorem po_s {e : Expr} {we : WpE} (h : PE X e (LE X.K Z F0 we)) : PO X (some e) (LO X.K Z F0 fun δ S P => we δ S fun x S1 => ∃ i, x = .int i ∧ P (some i) S1) := by
  refine ⟨fun pins s σ H Q I q => (po_some h).run pins s σ H Q I ?_⟩
  obtain ⟨F, δ, S, P, sf, rs, rh, w, c⟩ := q
  refine ⟨F, δ, S, _, sf, rs, rh, w, ?_⟩
  rintro F1 H1 S1 d v s1 R1 r1 ⟨i, rfl, w1⟩
  cases r1
  exact ⟨i, rfl, c F1 H1 S1 _ s1 R1 w1⟩
theorem sl_e {m : Bool} {a : Expr} {lo hi : Option Expr} {p2 pos : Pos} {wa : WpE} {wl wh : Dts → Sto → (Option Int → Sto → Prop) → Prop} (ha : PE X a (LE X.K Z F0 wa)) (hl : PO X lo (LO X.K Z F0 wl)) (hh : PO X hi (LO X.K Z F0 wh)) :
    PE X (.Subscript a (.Slice lo hi none p2) pos) (LE X.K Z F0 fun δ S P => wa δ S fun x S1 => wl δ S1 fun l S2 => wh δ S2 fun h S3 => slD m x l h S3 P) := by
  refine PE_imp (pe_slice sl_any ha hl hh) ?_
  rintro σ H Q ⟨F, δ, S, P, sf, rs, rh, w, c⟩
  refine ⟨F, δ, S, _, sf, rs, rh, w, ?_⟩
  intro F1 H1 S1 d v s1 R1 r1 w1
  refine ⟨F1, δ, S1, _, sf.trans s1, rs.mono s1, R1, w1, ?_⟩
  intro F2 H2 S2 l s2 R2 w2
  refine ⟨F2, δ, S2, _, sf.trans (s1.trans s2), rs.mono (s1.trans s2), R2, w2, ?_⟩
  intro F3 H3 S3 h s3 R3 w3
  exact slL R3 (r1.mono (s2.trans s3)) w3 (c.mono (s1.trans (s2.trans s3)))
/-- a call of a def of the text -/
theorem call_e {k : Nat} {xq : XP} {b : Bool} {e : Expr} {es : List Expr} {x : Str} {p pos : Pos} {sp : Spec} {wa : WpA} (g : Gd X k Z F0 xq b) (cl : Callee (txOf X) k x sp) (gx : Gl X x) (hd : (x == ("__debug__" : Str)) = false) (st : NStar (e :: es))
    (ha : PA X (e :: es) (LA X.K Z F0 wa)) : PE X (.Call (.Name x p) (e :: es) [] pos) (LE X.K Z F0 fun δ S P => wa δ S fun ds S1 => sp ds S1 P fun x S2 => xq x δ S2) := by
  obtain ⟨f, fd, qs, hm, hk, hb, ok⟩ := cl
  refine PE_imp (pe_callG ok g.room g.gu hb g.tk gx hm hk ha hd (star_cons st.1) (star_none st.2)) ?_
  rintro σ H Q ⟨F, δ, S, P, sf, rs, rh, w, c⟩
  refine ⟨F, δ, S, _, sf, rs, rh, w, ?_⟩
  intro F1 H1 S1 ds vs s1 R1 r1 w1
  refine ⟨Z, F1, S1, ds, P, _, R1, r1, w1, c.mono s1, ?_⟩
  intro F2 H2 S2 x cls d s2 R2 xr q
  exact ⟨F2, δ, S2, x, sf.trans (s1.trans s2), rs.mono (s1.trans s2), R2, xr, q⟩
theorem call_e0 {k : Nat} {xq : XP} {b : Bool} {x : Str} {p pos : Pos} {sp : Spec} (g : Gd X k Z F0 xq b) (cl : Callee (txOf X) k x sp) (gx : Gl X x) (hd : (x == ("__debug__" : Str)) = false) :
    PE X (.Call (.Name x p) [] [] pos) (LE X.K Z F0 fun δ S P => sp [] S P fun x S2 => xq x δ S2) := by
  obtain ⟨f, fd, qs, hm, hk, hb, ok⟩ := cl
  refine PE_imp (pe_callG0 ok g.room g.gu hb g.tk gx hm hk hd) ?_
  rintro σ H Q ⟨F, δ, S, P, sf, rs, rh, w, c⟩
  refine ⟨Z, F, S, [], P, _, rh, .nil, w, c, ?_⟩
  intro F2 H2 S2 x cls d s2 R2 xr q
  exact ⟨F2, δ, S2, x, sf.trans s2, rs.mono s2, R2, xr, q⟩

/-! ### methods of lists -/
theorem cell_lst {K : FK} {F : Hp} {S : Sto} {H : Hp} {p : Addr} {ds : List D} (R : RelH K Z F S H) (h : S p = some (.lst ds)) : ∃ vs, H p = some (.lst vs) ∧ RepL K F ds vs := by
  obtain ⟨_, o, ho, cr⟩ := R.st p _ h
  obtain ⟨vs, rfl, r⟩ := cr.lst
  exact ⟨vs, ho, r⟩
theorem base_ok {o : Expr} {nm : Str} {env : Env} (h : nCall o = true) : attributeBase o nm env (eval o env) = eval o env := by
  cases o <;> first
    | rfl
    | exact absurd h Bool.false_ne_true
theorem lst_ty {K : FK} {F : Hp} {S : Sto} {H : Hp} {x : D} {v : V} (R : RelH K Z F S H) (r : Rep K F x v) (h : mtT x S) : tyV K "list" v H := by
  obtain ⟨p, ds, rfl, hp⟩ := h
  cases r
  obtain ⟨vs, ho, _⟩ := cell_lst R hp
  exact .inl ⟨rfl, vs, SqL.of ho⟩
/-- o.m() -/
theorem mt_0 {f : MT} {id : String} {r : V → List V → Hp → VK → Prop} {pa : Expr} {nm : Str} {ap cp : Pos} {wa : WpE} (slot : Slot "list" nm id) (hty : typeOf (.builtin id) = pure (.type "method_descriptor")) (hm : MtR X id r)
    (l : ∀ F S H x v (P : EQ) (Q : VK), RelH X.K Z F S H → Rep X.K F x v → mtO f x [] S P → Ct X.K Z F P Q → r v [] H Q) (ha : PE X pa (LE X.K Z F0 wa)) (hl : (ap.endLine == cp.line) = true) (nc : nCall pa = true) :
    PE X (.Call (.Attribute pa nm ap) [] [] cp) (LE X.K Z F0 fun δ S P => wa δ S fun x S1 => mtT x S1 ∧ mtO f x [] S1 P) := by
  refine PE_imp (pe_bm0 PySem.F.plainAttrs_list slot hty hm ha (base_ok nc) hl) ?_
  rintro σ H Q ⟨F, δ, S, P, sf, rs, rh, w, c⟩
  refine ⟨F, δ, S, _, sf, rs, rh, w, ?_⟩
  rintro F1 H1 S1 x v s1 R1 rx ⟨t1, w1⟩
  exact ⟨lst_ty R1 rx t1, l F1 S1 H1 x v P Q R1 rx w1 (c.mono s1)⟩
/-- o.m(e) -/
theorem mt_1 {f : MT} {id : String} {r : V → List V → Hp → VK → Prop} {pa e : Expr} {nm : Str} {ap cp : Pos} {wa : WpE} {ws : WpA} (slot : Slot "list" nm id) (hty : typeOf (.builtin id) = pure (.type "method_descriptor")) (hm : MtR X id r)
    (l : ∀ F S H x v (xs : List D) (vs : List V) (P : EQ) (Q : VK), RelH X.K Z F S H → Rep X.K F x v → RepL X.K F xs vs → mtO f x xs S P → Ct X.K Z F P Q → r v vs H Q) (ha : PE X pa (LE X.K Z F0 wa)) (hs : PA X [e] (LA X.K Z F0 ws)) (st : nst e = true)
    (hl : (ap.endLine == cp.line) = true) (nc : nCall pa = true) :
    PE X (.Call (.Attribute pa nm ap) [e] [] cp) (LE X.K Z F0 fun δ S P => wa δ S fun x S1 => mtT x S1 ∧ ws δ S1 fun ds S2 => mtO f x ds S2 P) := by
  have few : ((backTo cp (starEach [e] X.env)).all (fun x => !x.1) && (backToKw cp (keywordEach [] X.env)).all (fun x => x.1.isSome) && decide ([e].length + ([] : List Keyword).length + (if ([] : List Keyword).isEmpty then 0 else 1) < 30)) = true := by
    rw [star_cons st]; rfl
  refine PE_imp (pe_bm PySem.F.plainAttrs_list slot hty hm ha hs (base_ok nc) few hl (star_cons st) rfl) ?_
  rintro σ H Q ⟨F, δ, S, P, sf, rs, rh, w, c⟩
  refine ⟨F, δ, S, _, sf, rs, rh, w, ?_⟩
  rintro F1 H1 S1 x v s1 R1 rx ⟨t1, w1⟩
  refine ⟨lst_ty R1 rx t1, F1, δ, S1, _, sf.trans s1, rs.mono s1, R1, w1, ?_⟩
  intro F2 H2 S2 ds vs s2 R2 r2 w2
  exact l F2 S2 H2 x v ds vs P Q R2 (rx.mono s2) r2 w2 (c.mono (s1.trans s2))
theorem append_l {K : FK} {F : Hp} {S : Sto} {H : Hp} {x : D} {v : V} {xs : List D} {vs : List V} {P : EQ} {Q : VK} (R : RelH K Z F S H) (rx : Rep K F x v) (rs : RepL K F xs vs) (w : mtO .append x xs S P) (c : Ct K Z F P Q) : rAppend v vs H Q := by
  obtain ⟨p, ds, y, rfl, rfl, hp, hl, w⟩ := w
  obtain ⟨us, ho, ru⟩ := cell_lst R hp
  obtain ⟨yv, rfl, ry⟩ := rs.one
  cases rx
  have rn : RepL K F (ds ++ [y]) (us ++ [yv]) := ru.app (.cons ry .nil)
  exact ⟨p, us, yv, rfl, rfl, ho, by rw [← ru.length]; exact hl, c F _ _ _ _ (Same.refl F) (R.write (c' := .lst (ds ++ [y])) hp rn) .non w⟩
theorem pop_l {K : FK} {F : Hp} {S : Sto} {H : Hp} {x : D} {v : V} {P : EQ} {Q : VK} (R : RelH K Z F S H) (rx : Rep K F x v) (w : mtO .pop x [] S P) (c : Ct K Z F P Q) : rPop v [] H Q := by
  obtain ⟨p, ds, y, rfl, _, hp, hy, w⟩ := w
  obtain ⟨us, ho, ru⟩ := cell_lst R hp
  obtain ⟨yv, hv, ry⟩ := ru.get hy
  rw [ru.length] at hv
  cases rx
  exact ⟨p, us, yv, rfl, rfl, ho, hv, c F _ _ _ _ (Same.refl F) (R.write (c' := .lst ds.dropLast) hp ru.dropLast) ry w⟩
theorem reverse_l {K : FK} {F : Hp} {S : Sto} {H : Hp} {x : D} {v : V} {P : EQ} {Q : VK} (R : RelH K Z F S H) (rx : Rep K F x v) (w : mtO .reverse x [] S P) (c : Ct K Z F P Q) : rReverse v [] H Q := by
  obtain ⟨p, ds, rfl, _, hp, w⟩ := w
  obtain ⟨us, ho, ru⟩ := cell_lst R hp
  cases rx
  exact ⟨p, us, rfl, rfl, ho, c F _ _ _ _ (Same.refl F) (R.write (c' := .lst ds.reverse) hp ru.rev) .non w⟩
theorem extend_l {K : FK} {F : Hp} {S : Sto} {H : Hp} {x : D} {v : V} {xs : List D} {vs : List V} {P : EQ} {Q : VK} (R : RelH K Z F S H) (rx : Rep K F x v) (rs : RepL K F xs vs) (w : mtO .extend x xs S P) (c : Ct K Z F P Q) : rExtend v vs H Q := by
  obtain ⟨p, ds, y, es, rfl, rfl, hp, hy, hl, w⟩ := w
  obtain ⟨us, ho, ru⟩ := cell_lst R hp
  obtain ⟨yv, rfl, ry⟩ := rs.one
  obtain ⟨b, ws, rfl, hb, rw'⟩ := mls_of R ry hy
  cases rx
  exact ⟨p, b, us, ws, rfl, rfl, ho, hb, by rw [← ru.length, ← rw'.length]; exact hl, c F _ _ _ _ (Same.refl F) (R.write (c' := .lst (ds ++ es)) hp (ru.app rw')) .non w⟩
end

/-! ### what is walked -/
section
variable {X : Cx} {Z F0 : Hp}
theorem srcL {K : FK} {F1 : Hp} {p : Addr} {vs : List V} {ds : List D} (h : SqL K F1 p vs) (r : RepL K F1 ds vs) : ∀ Z F H S, Same F1 F → RelH K Z F S H → True → ∃ us, SqL K H p us ∧ RepL K F ds us :=
  fun _ F H S sf R _ => ⟨vs, R.fz.seq (sf.seq h), r.mono sf⟩
theorem srcT {K : FK} {F1 : Hp} {p : Addr} {vs : List V} {ds : List D} (h : SqT K F1 p vs) (r : RepL K F1 ds vs) : ∀ Z F H S, Same F1 F → RelH K Z F S H → True → ∃ us, SqT K H p us ∧ RepL K F ds us :=
  fun _ F H S sf R _ => ⟨vs, sqT_mono R.fz (sqT_mono sf h), r.mono sf⟩
theorem srcR {K : FK} {F1 : Hp} {p : Addr} {ds : List D} : ∀ Z F H S, Same F1 F → RelH K Z F S H → cL (S p) = some ds → ∃ us, SqL K H p us ∧ RepL K F ds us := by
  intro Z F H S sf R hs
  obtain ⟨q, vs, e, ho, r⟩ := mls_of R (.ref p) (show mls S (.ref p) = some ds from hs)
  cases e
  exact ⟨vs, SqL.of ho, r⟩
/-- over a list or a tuple or a text, by its kind: which of the three iterators -/
theorem it_val {K : FK} {F1 : Hp} {S1 : Sto} {H1 : Hp} {x : D} {v : V} {P : List D → (Sto → Prop) → Sto → Prop} {R : It → Hp → Prop} (rh : RelH K Z F1 S1 H1) (rx : Rep K F1 x v) (w : ItP x S1 P)
    (c : ∀ J ds src, Beh K F1 J ds src → src S1 → P ds src S1 → R J H1) :
    (∃ a, v = .ref a ∧ (∃ xs, SqL K H1 a xs) ∧ R (Itl K a) H1) ∨ (∃ a, v = .ref a ∧ (∃ xs, SqT K H1 a xs) ∧ R (Itt K a) H1) ∨ (∃ z, v = .str z ∧ R (Its z) H1) := by
  cases rx with
  | tup h r => exact .inr (.inl ⟨_, rfl, ⟨_, sqT_mono rh.fz h⟩, c _ _ _ (beh_tup (srcT h r)) trivial w⟩)
  | lst h r => exact .inl ⟨_, rfl, ⟨_, SqL.of (rh.fz _ _ h)⟩, c _ _ _ (beh_list (srcL (SqL.of h) r)) trivial w⟩
  | rls h r => exact .inl ⟨_, rfl, ⟨_, rh.fz.seq h⟩, c _ _ _ (beh_list (srcL h r)) trivial w⟩
  | ref p =>
    obtain ⟨ds, e, w⟩ := w
    obtain ⟨us, hs, r⟩ := srcR Z F1 H1 S1 (Same.refl F1) rh e
    exact .inl ⟨p, rfl, ⟨us, hs⟩, c _ _ _ (beh_list srcR) e w⟩
  | str z => exact .inr (.inr ⟨z, rfl, c _ _ _ beh_str trivial w⟩)
  | _ => exact absurd w id
theorem it_lst {K : FK} {F1 : Hp} {S1 : Sto} {H1 : Hp} {x : D} {v : V} {P : List D → (Sto → Prop) → Sto → Prop} {G : Prop} (rh : RelH K Z F1 S1 H1) (rx : Rep K F1 x v) (w : ItL x S1 P)
    (c : ∀ a xs ds src, v = .ref a → SqL K H1 a xs → RepL K F1 ds xs → (∀ Z F H S, Same F1 F → RelH K Z F S H → src S → ∃ us, SqL K H a us ∧ RepL K F ds us) → src S1 → P ds src S1 → G) : G := by
  cases rx with
  | lst h r => exact c _ _ _ _ rfl (SqL.of (rh.fz _ _ h)) r (srcL (SqL.of h) r) trivial w
  | rls h r => exact c _ _ _ _ rfl (rh.fz.seq h) r (srcL h r) trivial w
  | ref p =>
    obtain ⟨ds, e, w⟩ := w
    obtain ⟨us, hs, r⟩ := srcR Z F1 H1 S1 (Same.refl F1) rh e
    exact c _ _ _ _ rfl hs r srcR e w
  | _ => exact absurd w id
/-- an iterator of a value -/
theorem iter_val {tg : Expr} {pins : List (Addr × Obj)} {σ : VS} {H : Hp} {s : Shared} {v : V} {u : Value} {R : It → Hp → Prop} (I : Inv X pins σ H s) (rv : RelV v u)
    (q : (∃ a, v = .ref a ∧ (∃ xs, SqL X.K H a xs) ∧ R (Itl X.K a) H) ∨ (∃ a, v = .ref a ∧ (∃ xs, SqT X.K H a xs) ∧ R (Itt X.K a) H) ∨ (∃ z, v = .str z ∧ R (Its z) H)) :
    wpAny (model X.prog X.w) X.A (pyIter u) (PIE X pins σ tg R) X.xe s := by
  rcases q with ⟨a, rfl, ⟨xs, h⟩, r⟩ | ⟨a, rfl, ⟨xs, h⟩, r⟩ | ⟨z, rfl, r⟩
  · cases rv
    obtain ⟨its, _, pl, _⟩ := I.list h
    exact wpAny_pyIter_list pl.isList (pi_one (tk := s.toks) I _ (turn_list a _) ⟨_, Heap.get?_push_size _ rfl, rfl, rfl⟩ r)
  · cases rv
    obtain ⟨its, _, pl, _⟩ := I.tuple h
    exact wpAny_pyIter_tuple (show s.heap.IsTuple a its.toArray from pl) (pi_one (tk := s.toks) I _ (turn_tuple a _) ⟨_, Heap.get?_push_size _ rfl, rfl, rfl⟩ r)
  · obtain ⟨t, rfl⟩ := rv
    cases ha : z.cps.all (· < 128) with
    | false => exact wpAny_pyIter_wide ha (pi_one (tk := s.toks) I _ (turn_str _ z t "str_iterator" (.inr rfl)) ⟨_, Heap.get?_push_size _ rfl, rfl, rfl⟩ r)
    | true => exact wpAny_pyIter_ascii ha (pi_one (tk := s.toks) I _ (turn_str _ z t "str_ascii_iterator" (.inl rfl)) ⟨_, Heap.get?_push_size _ rfl, rfl, rfl⟩ r)
theorem pi_val {tg e : Expr} {we : WpE} (he : PE X e (LE X.K Z F0 we)) : PI X tg e (LI X.K Z F0 fun δ S P => we δ S fun x S1 => ItP x S1 P) := by
  refine ⟨fun pins s σ H R I q => ?_⟩
  obtain ⟨F, δ, S, P, sf, rs, rh, w, c⟩ := q
  refine thn (he.run pins s σ H (fun v H1 => (∃ a, v = .ref a ∧ (∃ xs, SqL X.K H1 a xs) ∧ R (Itl X.K a) H1) ∨ (∃ a, v = .ref a ∧ (∃ xs, SqT X.K H1 a xs) ∧ R (Itt X.K a) H1) ∨ (∃ z, v = .str z ∧ R (Its z) H1)) I
    ⟨F, δ, S, _, sf, rs, rh, w, fun F1 H1 S1 x v s1 R1 rx w1 => it_val R1 rx w1 fun J ds src b hs p => c F1 H1 S1 J ds src s1 R1 b hs p⟩) ?_
  rintro u s1 ⟨v, H1, I1, rv, q⟩
  exact iter_val I1 rv q
theorem arg1 {e : Expr} {we : WpE} (he : PE X e (LE X.K Z F0 we)) (n : nst e = true) : PA X [e] (LA X.K Z F0 fun δ S P => we δ S fun x S1 => P [x] S1) := pa_more he pa_nil' n
theorem star1 {e : Expr} {env : Env} (n : nst e = true) : starEach [e] env = [(false, eval e env)] := star_cons n
theorem star2 {a b : Expr} {env : Env} (n : nst a = true) (m : nst b = true) : starEach [a, b] env = [(false, eval a env), (false, eval b env)] := by rw [star_cons n, star_cons m]; rfl
/-- what follows one, two, three arguments -/
def p1 (B : D → Sto → Prop) : List D → Sto → Prop := fun xs S => match xs with
  | [x] => B x S
  | _ => False
def p2 (B : D → D → Sto → Prop) : List D → Sto → Prop := fun xs S => match xs with
  | [x, y] => B x y S
  | _ => False
def p3 (B : D → D → D → Sto → Prop) : List D → Sto → Prop := fun xs S => match xs with
  | [x, y, z] => B x y z S
  | _ => False
theorem p1_of {K : FK} {F : Hp} {B : D → Sto → Prop} {ds : List D} {vs : List V} {S : Sto} (r : RepL K F ds vs) (h : p1 B ds S) : ∃ x v, vs = [v] ∧ Rep K F x v ∧ B x S := by
  match ds, h with
  | [x], h =>
    obtain ⟨v, rfl, rv⟩ := r.one
    exact ⟨x, v, rfl, rv, h⟩
theorem p2_of {K : FK} {F : Hp} {B : D → D → Sto → Prop} {ds : List D} {vs : List V} {S : Sto} (r : RepL K F ds vs) (h : p2 B ds S) : ∃ x y v u, vs = [v, u] ∧ Rep K F x v ∧ Rep K F y u ∧ B x y S := by
  match ds, h with
  | [x, y], h =>
    obtain ⟨v, u, rfl, rv, ru⟩ := r.two
    exact ⟨x, y, v, u, rfl, rv, ru, h⟩
theorem p3_of {K : FK} {F : Hp} {B : D → D → D → Sto → Prop} {ds : List D} {vs : List V} {S : Sto} (r : RepL K F ds vs) (h : p3 B ds S) : ∃ x y z v u t, vs = [v, u, t] ∧ Rep K F x v ∧ Rep K F y u ∧ Rep K F z t ∧ B x y z S := by
  match ds, h with
  | [x, y, z], h =>
    cases r with
    | cons rv r =>
      obtain ⟨u, t, rfl, ru, rt⟩ := r.two
      exact ⟨x, y, z, _, u, t, rfl, rv, ru, rt, h⟩
theorem pi_r1 {tg a : Expr} {p pos : Pos} {wa : WpE} (gl : Gl X "range") (hm : X.mg "range" = none) (ha : PE X a (LE X.K Z F0 wa)) (n : nst a = true) :
    PI X tg (.Call (.Name "range" p) [a] [] pos) (LI X.K Z F0 fun δ S P => wa δ S fun x S1 => ∃ j, x = .int j ∧ R62 j ∧ P (rngD 0 j.toNat) (fun _ => True) S1) := by
  refine PI_imp (pi_range1 gl hm (arg1 ha n) (star1 n)) ?_
  rintro σ H R ⟨F, δ, S, P, sf, rs, rh, w, c⟩
  refine ⟨F, δ, S, p1 fun x S1 => ∃ j, x = .int j ∧ R62 j ∧ P (rngD 0 j.toNat) (fun _ => True) S1, sf, rs, rh, w, ?_⟩
  intro F1 H1 S1 ds vs s1 R1 r1 q
  obtain ⟨_, v, rfl, rv, j, rfl, hj, w1⟩ := p1_of r1 q
  cases rv
  exact ⟨j, rfl, hj.1, hj.2, c F1 H1 S1 _ _ _ s1 R1 beh_rng trivial w1⟩
theorem pi_r2 {tg a b : Expr} {p pos : Pos} {wa wb : WpE} (gl : Gl X "range") (hm : X.mg "range" = none) (ha : PE X a (LE X.K Z F0 wa)) (hb : PE X b (LE X.K Z F0 wb)) (n : nst a = true) (n2 : nst b = true) :
    PI X tg (.Call (.Name "range" p) [a, b] [] pos) (LI X.K Z F0 fun δ S P => wa δ S fun x S1 => wb δ S1 fun y S2 => ∃ i j, x = .int i ∧ y = .int j ∧ (R62 i ∧ R62 j) ∧ P (rngD i (j - i).toNat) (fun _ => True) S2) := by
  refine PI_imp (pi_range2 gl hm (pa_more ha (arg1 hb n2) n) (star2 n n2) (star1 n2)) ?_
  rintro σ H R ⟨F, δ, S, P, sf, rs, rh, w, c⟩
  refine ⟨F, δ, S, p2 fun x y S' => ∃ i j, x = .int i ∧ y = .int j ∧ (R62 i ∧ R62 j) ∧ P (rngD i (j - i).toNat) (fun _ => True) S', sf, rs, rh, w, ?_⟩
  intro F1 H1 S1 ds vs s1 R1 r1 q
  obtain ⟨_, _, v, u, rfl, rv, ru, i, j, rfl, rfl, hh, w1⟩ := p2_of r1 q
  cases rv; cases ru
  exact ⟨i, j, rfl, ⟨hh.1.1, hh.1.2, hh.2.1, hh.2.2⟩, c F1 H1 S1 _ _ _ s1 R1 beh_rng trivial w1⟩
theorem pi_r3 {tg a b c : Expr} {p pos : Pos} {wa wb wc : WpE} (gl : Gl X "range") (hm : X.mg "range" = none) (ha : PE X a (LE X.K Z F0 wa)) (hb : PE X b (LE X.K Z F0 wb)) (hc : PE X c (LE X.K Z F0 wc)) (n : nst a = true) (n2 : nst b = true) (n3 : nst c = true) :
    PI X tg (.Call (.Name "range" p) [a, b, c] [] pos) (LI X.K Z F0 fun δ S P => wa δ S fun x S1 => wb δ S1 fun y S2 => wc δ S2 fun z S3 => ∃ i j, x = .int i ∧ y = .int j ∧ z = .int (-1) ∧ (R62 i ∧ R62 j) ∧ P (dwnD i (i - j).toNat) (fun _ => True) S3) := by
  refine PI_imp (pi_range3 gl hm (pa_more ha (pa_more hb (arg1 hc n3) n2) n) (star_cons n) (star_none ⟨n2, n3, trivial⟩)) ?_
  rintro σ H R ⟨F, δ, S, P, sf, rs, rh, w, c⟩
  refine ⟨F, δ, S, p3 fun x y z S' => ∃ i j, x = .int i ∧ y = .int j ∧ z = .int (-1) ∧ (R62 i ∧ R62 j) ∧ P (dwnD i (i - j).toNat) (fun _ => True) S', sf, rs, rh, w, ?_⟩
  intro F1 H1 S1 ds vs s1 R1 r1 q
  obtain ⟨_, _, _, v, u, t, rfl, rv, ru, rt, i, j, rfl, rfl, rfl, hh, w1⟩ := p3_of r1 q
  cases rv; cases ru; cases rt
  exact ⟨i, j, -1, (i - j).toNat, rfl, RgC.neg hh.1.1 hh.1.2 hh.2.1 hh.2.2, c F1 H1 S1 _ _ _ s1 R1 beh_dwn trivial w1⟩
theorem pi_en {elts : List Expr} {kk : Nat} {tpos : Pos} {a : Expr} {p pos : Pos} {wa : WpE} (gl : Gl X "enumerate") (hm : X.mg "enumerate" = none) (ha : PE X a (LE X.K Z F0 wa)) (n : nst a = true) :
    PI X (.Tuple elts kk tpos) (.Call (.Name "enumerate" p) [a] [] pos) (LI X.K Z F0 fun δ S P => wa δ S fun x S1 => ItL x S1 fun ds src S2 => P (enuD 0 ds) src S2) := by
  refine PI_imp (pi_enum gl hm (arg1 ha n) (star1 n)) ?_
  rintro σ H R ⟨F, δ, S, P, sf, rs, rh, w, c⟩
  refine ⟨F, δ, S, p1 fun x S1 => ItL x S1 fun ds src S2 => P (enuD 0 ds) src S2, sf, rs, rh, w, ?_⟩
  intro F1 H1 S1 ds vs s1 R1 r1 q
  obtain ⟨x, v, rfl, rv, w1⟩ := p1_of r1 q
  refine it_lst R1 rv w1 ?_
  rintro a xs es src rfl h r hb hs p
  exact ⟨a, xs, rfl, h, c F1 H1 S1 _ _ _ s1 R1 (beh_enum hb) hs p⟩
theorem pi_rv {tg a : Expr} {p pos : Pos} {wa : WpE} (gl : Gl X "reversed") (hm : X.mg "reversed" = none) (ha : PE X a (LE X.K Z F0 wa)) (n : nst a = true) :
    PI X tg (.Call (.Name "reversed" p) [a] [] pos) (LI X.K Z F0 fun δ S P => wa δ S fun x S1 => ItQ x S1 fun ds src S2 => P ds.reverse src S2) := by
  refine PI_imp (RT.pi_revA gl hm ha (star_cons n)) ?_
  rintro σ H R ⟨F, δ, S, P, sf, rs, rh, w, c⟩
  refine ⟨F, δ, S, _, sf, rs, rh, w, ?_⟩
  intro F1 H1 S1 x v s1 R1 rv w1
  have lists : ItL x S1 (fun ds src S2 => P ds.reverse src S2) → ∃ (a : Addr) (xs : List V), v = .ref a ∧ ((SqL X.K H1 a xs ∧ R (Itv X.K a xs.length) H1) ∨ (SqT X.K H1 a xs ∧ R (RT.ItvT X.K a xs.length) H1)) := by
    intro w1
    refine it_lst R1 rv w1 ?_
    rintro a xs es src rfl h r hb hs p
    exact ⟨a, xs, rfl, .inl ⟨h, c F1 H1 S1 _ _ _ s1 R1 (beh_rev r.length.symm hb) hs p⟩⟩
  cases x with
  | tup ds =>
    obtain ⟨a, xs, rfl, h, r⟩ := rv.tup_
    exact ⟨a, xs, rfl, .inr ⟨sqT_mono R1.fz h, c F1 H1 S1 _ _ _ s1 R1 (beh_revT r.length.symm (srcT h r)) trivial w1⟩⟩
  | lst ds => exact lists w1
  | rls ds => exact lists w1
  | ref ds => exact lists w1
  | _ => exact absurd w1 id
theorem pi_zp {elts : List Expr} {kk : Nat} {tpos : Pos} {a b : Expr} {p pos : Pos} {wa wb : WpE} (gl : Gl X "zip") (hm : X.mg "zip" = none) (ha : PE X a (LE X.K Z F0 wa)) (hb : PE X b (LE X.K Z F0 wb)) (n : nst a = true) (n2 : nst b = true) :
    PI X (.Tuple elts kk tpos) (.Call (.Name "zip" p) [a, b] [] pos) (LI X.K Z F0 fun δ S P => wa δ S fun x S1 => wb δ S1 fun y S2 => zipP x y S2 P) := by
  refine PI_imp (RZ.pi_zipA gl hm (pa_more ha (arg1 hb n2) n) (star_cons n) (star_none ⟨n2, trivial⟩)) ?_
  rintro σ H R ⟨F, δ, S, P, sf, rs, rh, w, c⟩
  refine ⟨F, δ, S, p2 fun x y S' => zipP x y S' P, sf, rs, rh, w, ?_⟩
  intro F1 H1 S1 ds vs s1 R1 r1 q
  obtain ⟨x, y, v, u, rfl, rv, ru, w1⟩ := p2_of r1 q
  have lists : ItL x S1 (fun as s1 S3 => ItL y S3 fun bs s2 S4 => P (zipD as bs) (fun S => s1 S ∧ s2 S) S4) →
      ∃ a b xs ys, [v, u] = [V.ref a, V.ref b] ∧ ((SqL X.K H1 a xs ∧ SqL X.K H1 b ys ∧ R (Itz X.K a b) H1) ∨ (SqT X.K H1 a xs ∧ SqT X.K H1 b ys ∧ R (RZ.ItzT X.K a b) H1)) := by
    intro w1
    refine it_lst R1 rv w1 ?_
    rintro a xs es src rfl h r hb hs p
    refine it_lst R1 ru p ?_
    rintro b ys fs src2 rfl h2 r2 hb2 hs2 p2
    exact ⟨a, b, xs, ys, rfl, .inl ⟨h, h2, c F1 H1 S1 _ _ _ s1 R1 (beh_zip hb hb2) ⟨hs, hs2⟩ p2⟩⟩
  cases x with
  | tup ds =>
    cases y with
    | tup es =>
      obtain ⟨a, xs, rfl, h, r⟩ := rv.tup_
      obtain ⟨b, ys, rfl, h2, r2⟩ := ru.tup_
      refine ⟨a, b, xs, ys, rfl, .inr ⟨sqT_mono R1.fz h, sqT_mono R1.fz h2, c F1 H1 S1 _ _ _ s1 R1 (beh_zipT (src := fun _ => True) ?_) trivial w1⟩⟩
      intro Z F H S sf R t
      exact ⟨srcT h r Z F H S sf R t, srcT h2 r2 Z F H S sf R t⟩
    | _ => exact absurd w1 id
  | lst ds => exact lists w1
  | rls ds => exact lists w1
  | ref ds => exact lists w1
  | _ => exact absurd w1 id
end
end GB

/-! GB12: each look is right. -/
namespace GB
open PySem PySem.Spec PyProof.Rows L2

theorem in_ok {N : List Str} {i : Nat} {x : Str} (h : inB N i x = true) : N[i]? = some x := by
  unfold inB at h
  cases e : N[i]? with
  | none => rw [e] at h; cases h
  | some y =>
    rw [e] at h
    rw [of_decide_eq_true h]
theorem not_t' {a : Bool} (h : (!a) = true) : a = false := by
  cases a
  · rfl
  · cases h
theorem vis_ok {N : List Str} {sc : Scope} {i : Nat} {x : Str} (h : visB N sc i x = true) : N[i]? = some x ∧ Vis sc x ∧ (x == ("__debug__" : Str)) = false ∧ (x == ("__classdict__" : Str)) = false := by
  obtain ⟨h1, h⟩ := and_t h
  obtain ⟨h2, h⟩ := and_t h
  obtain ⟨h3, h4⟩ := and_t h
  refine ⟨in_ok h1, ?_, not_t' h3, not_t' h4⟩
  unfold Vis
  cases e : sc.names.lookup x with
  | none => rw [e] at h2; cases h2
  | some k =>
    rw [e] at h2
    cases k <;> first
      | exact .inl rfl
      | exact .inr (.inl rfl)
      | exact .inr (.inr rfl)
      | cases h2
theorem isLoc_ok {sc : Scope} {x : Str} (h : isLoc sc x = true) : sc.names.lookup x = some .local := by
  unfold isLoc at h
  cases e : sc.names.lookup x with
  | none => rw [e] at h; cases h
  | some k =>
    rw [e] at h
    cases k <;> first
      | rfl
      | cases h
theorem isCell_ok {sc : Scope} {x : Str} (h : isCell sc x = true) : sc.names.lookup x = some .cell := by
  unfold isCell at h
  cases e : sc.names.lookup x with
  | none => rw [e] at h; cases h
  | some k =>
    rw [e] at h
    cases k <;> first
      | rfl
      | cases h
theorem gl_ok {X : Cx} {x : Str} (h : glB X.env.scope x = true) : Gl X x ∧ (x == ("__debug__" : Str)) = false := by
  obtain ⟨h1, h2⟩ := and_t h
  refine ⟨?_, not_t' h2⟩
  show X.env.scope.names.lookup x = some .globalImplicit
  cases e : X.env.scope.names.lookup x with
  | none => rw [e] at h1; cases h1
  | some k =>
    rw [e] at h1
    cases k <;> first
      | rfl
      | cases h1
theorem or_t' {a b : Bool} (h : (a || b) = true) : a = true ∨ b = true := Bool.or_eq_true_iff.mp h

/-! ### targets -/
mutual
theorem g_ok {X : Cx} {k : Nat} {Z F0 : Hp} {xq : XP} {blk : Bool} (g : Gd X k Z F0 xq blk) : ∀ (t : G) (p : Expr), chkG X.N X.env.scope blk t p = true → PG X p (gR X.K t)
  | .nm i, p, h => by
    cases p <;> first
      | exact absurd h Bool.false_ne_true
      | (obtain ⟨h1, h2⟩ := and_t h
         rcases or_t' h2 with h3 | h3
         · exact pg_name g.nd (in_ok h1) (.inl (isLoc_ok h3)) (.inr (isLoc_ok h3))
         · obtain ⟨h4, h5⟩ := and_t h3
           exact pg_name g.nd (in_ok h1) (.inr (isCell_ok h5)) (.inl (g.fn (not_t' h4) _)))
  | .tp gs, p, h => by
    cases p <;> first
      | exact absurd h Bool.false_ne_true
      | skip
    rename_i ts kk pos
    obtain ⟨h1, h2, h3⟩ := gs_ok g gs ts h
    refine PG_imp (pg_tup (n := ts.length) g.calm h1 h2 h3) ?_
    rintro v σ H Q ⟨a, xs, rfl, hs, q⟩
    exact ⟨a, xs, rfl, hs, gs_len gs ts h xs σ H Q q, q⟩
theorem gs_ok {X : Cx} {k : Nat} {Z F0 : Hp} {xq : XP} {blk : Bool} (g : Gd X k Z F0 xq blk) : ∀ (t : Gs) (ps : List Expr), chkGs X.N X.env.scope blk t ps = true →
    PGs X ps (gsR X.K t) ∧ (assignEach ps X.env).length = ps.length ∧ (assignEach ps X.env).findIdx? (·.1) = none
  | .nil, ps, h => by
    cases ps with
    | nil => exact ⟨pgs_nil, rfl, rfl⟩
    | cons _ _ => exact absurd h Bool.false_ne_true
  | .cons t r, ps, h => by
    cases ps with
    | nil => exact absurd h Bool.false_ne_true
    | cons p ps =>
      obtain ⟨h1, h⟩ := and_t h
      obtain ⟨h2, h3⟩ := and_t h
      obtain ⟨a, b, c⟩ := gs_ok g r ps h3
      have e : assignEach (p :: ps) X.env = (false, assign p X.env) :: assignEach ps X.env := by
        cases p <;> first
          | rfl
          | exact absurd h1 Bool.false_ne_true
      refine ⟨pgs_cons (g_ok g t p h2) a (by rw [e]; rfl), by rw [e, List.length_cons, List.length_cons, b], ?_⟩
      rw [e, List.findIdx?_cons]
      show (if false = true then some 0 else _) = none
      rw [if_neg Bool.false_ne_true, c]
      rfl
theorem gs_len {K : FK} {N : List Str} {sc : Scope} {blk : Bool} : ∀ (t : Gs) (ps : List Expr), chkGs N sc blk t ps = true → ∀ (xs : List V) (σ : VS) (H : Hp) (Q : VS → Hp → Prop), gsR K t xs σ H Q → xs.length = ps.length
  | .nil, ps, h, xs, σ, H, Q, q => by
    cases ps with
    | nil =>
      obtain ⟨rfl, _⟩ := q
      rfl
    | cons _ _ => exact absurd h Bool.false_ne_true
  | .cons t r, ps, h, xs, σ, H, Q, q => by
    cases ps with
    | nil => exact absurd h Bool.false_ne_true
    | cons p ps =>
      obtain ⟨h1, h⟩ := and_t h
      obtain ⟨h2, h3⟩ := and_t h
      obtain ⟨v, rest, rfl, q⟩ := q
      have q2 := gR_mono (K := K) t q
      obtain ⟨σ', H', q2⟩ := q2
      rw [List.length_cons, List.length_cons, gs_len r ps h3 rest σ' H' Q q2]
theorem gR_mono {K : FK} {v : V} {σ : VS} {H : Hp} {Q : VS → Hp → Prop} : ∀ (t : G), gR K t v σ H Q → ∃ σ' H', Q σ' H'
  | .nm i, q => ⟨_, _, q⟩
  | .tp gs, q => by
    obtain ⟨a, xs, _, _, q⟩ := q
    exact gsR_mono gs q
theorem gsR_mono {K : FK} {v : List V} {σ : VS} {H : Hp} {Q : VS → Hp → Prop} : ∀ (t : Gs), gsR K t v σ H Q → ∃ σ' H', Q σ' H'
  | .nil, q => ⟨_, _, q.2⟩
  | .cons t r, q => by
    obtain ⟨_, _, _, q⟩ := q
    obtain ⟨_, _, q⟩ := gR_mono t q
    exact gsR_mono r q
end
end GB

/-! GB12b: xs[::-1] of lists and tuples; isinstance. -/
namespace HT
open PySem PySem.Spec PyProof.Rows
section
variable {prog : Program} {w : World} {A : Around} {E : Value → Shared → Prop} {s : Shared}
theorem revPlaces (n : Nat) : Builtin.Slice.slicePlaces ((n : Int) - 1) (-1) (-1) = n := by
  unfold Builtin.Slice.slicePlaces
  have h1 : ¬ ((-1 : Int) > 0) := by omega
  simp only [h1, if_false, Int.neg_neg, Int.ediv_one]
  split <;> omega
theorem revApplied {sl : Addr} {vl vu vs : Value} {n : Nat} {Q : Int × Int × Nat → Shared → Prop} (hs : s.heap.IsSliceOf sl vl vu vs) (pl : IsPart vl none) (pu : IsPart vu none) (ps : IsPart vs (some (-1)))
    (h : Q ((n : Int) - 1, -1, n) s) : wpAny (model prog w) A (Builtin.Slice.sliceApplied (.ref sl) (pure (n : Int))) Q E s := by
  obtain ⟨os, hos, hcs, hds⟩ := id hs
  unfold Builtin.Slice.sliceApplied Builtin.Slice.sliceFields
  refine wpAny_bind (wpAny_bind (wpAny_field hos hds (x := vl) rfl (wpAny_bind (wpAny_field hos hds (x := vu) rfl (wpAny_bind (wpAny_field hos hds (x := vs) rfl (wpAny_pure ?_)))))))
  refine wpAny_bind (slicePart_ ps ?_)
  show wpAny _ _ (if ((-1 : Int) == 0) = true then _ else _) _ _ s
  rw [if_neg (by decide)]
  refine wpAny_bind (slicePart_ pl (wpAny_bind (slicePart_ pu (wpAny_bind (wpAny_pure ?_)))))
  show wpAny _ _ (pure ((n : Int) - 1, (-1 : Int), Builtin.Slice.slicePlaces ((n : Int) - 1) (-1) (-1))) _ _ s
  rw [revPlaces]
  exact wpAny_pure h
theorem revPick (xs : List Value) : ((List.range xs.length).filterMap fun (m : Nat) => xs[((xs.length : Int) - 1 + (m : Int) * (-1)).toNat]?) = xs.reverse := by
  have e : ∀ k, k ≤ xs.length → ((List.range k).filterMap fun (m : Nat) => xs[((xs.length : Int) - 1 + (m : Int) * (-1)).toNat]?) = xs.reverse.take k := by
    intro k
    induction k with
    | zero => intro _; simp
    | succ k ih =>
      intro hk
      rw [List.range_succ, List.filterMap_append, ih (by omega), List.take_succ]
      congr 1
      have e1 : ((xs.length : Int) - 1 + (k : Int) * (-1)).toNat = xs.length - 1 - k := by omega
      have e2 : xs.reverse[k]? = xs[xs.length - 1 - k]? := List.getElem?_reverse (by omega)
      rw [e2]
      simp only [List.filterMap_cons, List.filterMap_nil, e1]
      rw [List.getElem?_eq_getElem (by omega)]
      rfl
  rw [e _ (Nat.le_refl _)]
  rw [List.take_of_length_le (by simp)]
theorem getItem_tuple_rev {t sl : Addr} {items : Array Value} {vl vu vs : Value} {Q : Value → Shared → Prop} (ht : IsTup s.heap t items) (hs : s.heap.IsSliceOf sl vl vu vs) (pl : IsPart vl none) (pu : IsPart vu none) (ps : IsPart vs (some (-1)))
    (h : Q (.ref s.heap.objs.size) { s with heap := s.heap.push { cls := .type "tuple", data := .seq items.toList.reverse.toArray } })
    (hsz : items.size ≤ sizeLine) : wpAny (model prog w) A (getItem (.ref t) (.ref sl)) Q E s := by
  have htake : sizeOk (.seq items.toList.reverse.toArray) := by
    show items.toList.reverse.toArray.size ≤ sizeLine
    rw [List.size_toArray, List.length_reverse, Array.length_toList]
    exact hsz
  obtain ⟨os, hos, hcs, hds⟩ := id hs
  have hTs : s.TypeIs (.ref sl) "slice" := ⟨os, hos, hcs⟩
  unfold getItem
  try with_reducible refine wpAny_holding ?_
  first | refine wpAny_bind (wpAny_pure ?_) | skip
  refine wpAny_bind (wpAny_sequenceKey ht.typeIs (by decide) ?_)
  refine wpAny_bind (wpAny_callSpecial?_slot (name := Str.ofString "__getitem__") ht.typeIs PyProof.Rows.slot_tuple_getitem
    (wpAny_call_entry PyProof.Rows.slot_tuple_getitem ht.typeIs entry_tuple_getitem ?_ (args_tuple_getitem _ _)))
  show wpAny _ _ (Builtin.Tuple.tupleItemsOf (.ref t) >>= _) _ _ s
  refine wpAny_bind (tupleItemsOf_ ht ?_)
  refine wpAny_bind (wpAny_typeOf hTs ?_)
  rw [if_pos (by decide)]
  refine wpAny_bind (revApplied hs pl pu ps ?_)
  have hno : ¬ ((((items.size : Int) - 1) == 0 && (-1 : Int) == 1 && items.size == items.size) = true) := by
    intro q
    rw [Bool.and_eq_true, Bool.and_eq_true] at q
    exact absurd q.1.2 (by decide)
  show wpAny _ _ (if ((((items.size : Int) - 1) == 0 && (-1 : Int) == 1 && items.size == items.size) = true) then _ else _) _ _ s
  have hp : ((List.range items.size).filterMap fun (k : Nat) => items[(((items.size : Int) - 1) + (k : Int) * (-1)).toNat]?).toArray = items.toList.reverse.toArray := by
    have := revPick items.toList
    rw [Array.length_toList] at this
    rw [← this]
    simp
  rw [if_neg hno, hp]
  first
    | exact wpAny_bind (m := Builtin.Tuple.tupleExact _) (wpAny_newObj_type (wpAny_pure ⟨_, rfl, wpAny_pure h⟩) htake)
    | exact wpAny_bind (m := Builtin.Tuple.tupleExact _) (wpAny_newObj_type (wpAny_bind (wpAny_pure (wpAny_pure ⟨_, rfl, wpAny_pure h⟩))) htake)
    | exact wpAny_bind (wpAny_bind (m := Builtin.Tuple.tupleExact _) (wpAny_newObj_type (wpAny_pure (wpAny_pure ⟨_, rfl, wpAny_pure h⟩)) htake))
    | exact wpAny_bind (wpAny_bind (m := Builtin.Tuple.tupleExact _) (wpAny_newObj_type (wpAny_pure ⟨_, rfl, wpAny_pure h⟩) htake))
end
end HT
namespace GB
open PySem PySem.Spec PyProof.Rows L2
section
variable {X : Cx} {Z F0 : Hp}
def tRevA (K : FK) (te : TE) : TE := fun σ H Q => te σ H fun x H1 => ∃ a xs, x = .ref a ∧ ((SqL K H1 a xs ∧ ∀ p, H1 p = none → Q (.ref p) (upd H1 p (.lst xs.reverse))) ∨ (SqT K H1 a xs ∧ ∀ p, H1 p = none → Q (.ref p) (upd H1 p (.tup xs.reverse))))
theorem pe_revA {e : Expr} {te : TE} {k : Nat} {p1 p2 p3 pos : Pos} (he : PE X e te) : PE X (.Subscript e (.Slice none none (some (.UnaryOp .USub (.Constant (.int 1) k p1) p2)) p3) pos) (tRevA X.K te) := by
  refine ⟨fun pins s σ H Q I h => ?_⟩
  refine Subscript_ (thn (he.run pins s σ H _ I h) fun v s1 ⟨x, H1, I1, r1, q1⟩ => ?_)
  obtain ⟨a, xs, ex, q⟩ := q1
  subst ex
  cases r1
  have hst : PO X (some (.UnaryOp .USub (.Constant (.int 1) k p1) p2)) (tPart (tUn (rU fun i => .int (-i)) (tC (.int 1)))) := po_some (pe_un un_neg pe_int)
  refine wpAny_Slice (thn (po_none.run pins s1 σ H1 (fun o H2 => o = none ∧ H2 = H1) I1 ⟨rfl, rfl⟩) fun vl s2 ⟨l, H2, I2, pl, el, e2⟩ => ?_)
  subst el e2
  refine thn (po_none.run pins s2 σ H2 (fun o H3 => o = none ∧ H3 = H2) I2 ⟨rfl, rfl⟩) fun vu s3 ⟨u, H3, I3, pu, eu, e3⟩ => ?_
  subst eu e3
  refine thn (hst.run pins s3 σ H3 (fun o H4 => o = some (-1) ∧ H4 = H3) I3 ⟨1, rfl, -1, rfl, rfl, rfl⟩) fun vs s4 ⟨o, H4, I4, ps, eo, e4⟩ => ?_
  subst eo e4
  have I5 : Inv X pins σ H4 { s4 with heap := s4.heap.push { cls := .type "slice", data := .fields #[vl, vu, vs] } } := I4.kept (t' := s4.toks) fun b ob q => Heap.get?_push_of_some _ q
  show wpAny (model X.prog X.w) X.A (subscriptTail e (.Slice none none (some (.UnaryOp .USub (.Constant (.int 1) k p1) p2)) p3) (.ref a) (.ref s4.heap.objs.size)) (EP X pins σ Q) X.xe { s4 with heap := s4.heap.push { cls := .type "slice", data := .fields #[vl, vu, vs] } }
  rcases q with ⟨hx, q⟩ | ⟨hx, q⟩
  · obtain ⟨its, r, ht, hz⟩ := I5.list hx
    have hlen := r.length
    refine tail_any (ops := [.ref a, .ref s4.heap.objs.size]) ht.isList.typeIs (PySem.slot_list_getitem.lookup) ?_ (by with_unfolding_all rfl)
    refine wpAny_getItem_list_slice ht.isList (Heap.IsSliceOf.new _ vl vu vs) pl pu ps (by decide) ?_ (by rw [List.size_toArray]; omega)
    rw [PySem.W.krv_pick]
    refine ⟨.ref _, _, I5.laid (t' := s4.toks) (o := .lst xs.reverse) (fun b ob q => Heap.get?_push_of_some _ q) (Nat.le_refl _) ?_, rfl, q _ (I5.hok.fresh (Nat.le_refl _))⟩
    have hlen := r.length
    exact ⟨by rw [List.length_reverse]; exact hz, _, 0, r.reverse, Heap.get?_push_size _ rfl⟩
  · obtain ⟨its, r, ht, hz⟩ := I5.tuple hx
    refine tail_any (ops := [.ref a, .ref s4.heap.objs.size]) ht.typeIs (PyProof.Rows.slot_tuple_getitem.lookup) ?_ (by with_unfolding_all rfl)
    have hlen := r.length
    refine HT.getItem_tuple_rev ht (Heap.IsSliceOf.new _ vl vu vs) pl pu ps ?_ (by rw [List.size_toArray]; omega)
    refine ⟨.ref _, _, I5.laid (t' := s4.toks) (o := .tup xs.reverse) (fun b ob q => Heap.get?_push_of_some _ q) (Nat.le_refl _) ?_, rfl, q _ (I5.hok.fresh (Nat.le_refl _))⟩
    exact ⟨by rw [List.length_reverse]; exact hz, _, r.reverse, _, Heap.get?_push_size _ rfl, rfl, 0, rfl⟩
theorem slr_e {m : Bool} {a : Expr} {k : Nat} {p1 p2 p3 pos : Pos} {wa : WpE} (ha : PE X a (LE X.K Z F0 wa)) :
    PE X (.Subscript a (.Slice none none (some (.UnaryOp .USub (.Constant (.int 1) k p1) p2)) p3) pos) (LE X.K Z F0 fun δ S P => wa δ S fun x S1 => slrD m x S1 P) := by
  refine PE_imp (pe_revA ha) ?_
  rintro σ H Q ⟨F, δ, S, P, sf, rs, rh, w, c⟩
  refine ⟨F, δ, S, _, sf, rs, rh, w, ?_⟩
  intro F1 H1 S1 d v s1 R1 r1 w1
  have gen : (∃ ds, lsx S1 d = some ds ∧ nwL m ds.reverse S1 P) → ∃ a xs, v = .ref a ∧ ((SqL X.K H1 a xs ∧ ∀ p, H1 p = none → Q (.ref p) (upd H1 p (.lst xs.reverse))) ∨ (SqT X.K H1 a xs ∧ ∀ p, H1 p = none → Q (.ref p) (upd H1 p (.tup xs.reverse)))) := by
    rintro ⟨ds, e, w1⟩
    obtain ⟨p, us, rfl, h1, rr⟩ := lsx_of R1 r1 e
    exact ⟨p, us, rfl, .inl ⟨h1, nwL_ok R1 rr.rev w1 (c.mono s1)⟩⟩
  cases d with
  | tup ds =>
    obtain ⟨p, us, rfl, h1, rr⟩ := r1.tup_
    exact ⟨p, us, rfl, .inr ⟨sqT_mono R1.fz h1, newT_ok R1 rr.rev w1 (c.mono s1)⟩⟩
  | lst ds => exact gen w1
  | rls ds => exact gen w1
  | ref p => exact gen w1
  | non => obtain ⟨_, e, _⟩ := w1; cases e
  | bl _ => obtain ⟨_, e, _⟩ := w1; cases e
  | int _ => obtain ⟨_, e, _⟩ := w1; cases e
  | str _ => obtain ⟨_, e, _⟩ := w1; cases e
  | dct _ => obtain ⟨_, e, _⟩ := w1; cases e

/-! ### isinstance -/
theorem kit_isi (k t : TY) : kitB k.nm t.nm = some (isiB k t) := by cases k <;> cases t <;> decide +kernel
theorem boot_ty {t : TY} (h : tyOk t = true) : bootBuiltins (Str.ofString t.nm) = some (.type t.nm) := by
  cases t <;> first
    | exact absurd h Bool.false_ne_true
    | decide +kernel
theorem name_ty (t : TY) : (Str.ofString t.nm) ≠ "__name__" ∧ ((Str.ofString t.nm) == ("__debug__" : Str)) = false := by cases t <;> decide +kernel
theorem ty_of {K : FK} {F : Hp} {S : Sto} {H : Hp} {x : D} {v : V} {k : TY} (R : RelH K Z F S H) (r : Rep K F x v) (h : tyD S x = some k) : TyX K H v (.type k.nm) := by
  have sl : ∀ {p : Addr} {vs : List V}, SqL K H p vs → TyX K H (.ref p) (.type "list") := by
    intro p vs h1
    rcases h1 with (h1 | ⟨o, h1⟩) | ⟨o, its, n, h1, h2, _⟩
    · exact .base (.lst h1)
    · exact .base (.frz h1)
    · exact .kList h1 h2
  cases x with
  | non => cases h; cases r; exact .base .non
  | bl b => cases h; cases r; exact .base (.bl b)
  | int i => cases h; cases r; exact .base (.int i)
  | str z => cases h; cases r; exact .base (.str z)
  | tup ds =>
    cases h
    obtain ⟨p, vs, rfl, h1, _⟩ := r.tup_
    rcases sqT_mono R.fz h1 with (h1 | ⟨o, h1⟩) | ⟨o, its, n, h1, h2, _⟩
    · exact .base (.tup h1)
    · exact .fTuple h1
    · exact .kTuple h1 h2
  | lst ds =>
    cases h
    obtain ⟨p, vs, rfl, h1, _⟩ := lsx_of R r rfl
    exact sl h1
  | rls ds =>
    cases h
    obtain ⟨p, vs, rfl, h1, _⟩ := lsx_of R r rfl
    exact sl h1
  | dct ds =>
    cases h
    obtain ⟨p, vs, rfl, h1, _⟩ := r.dct_
    exact .base (.dK (R.fz _ _ h1))
  | ref p =>
    have h : tyC (S p) = some k := h
    cases r
    cases e : S p with
    | none => rw [e] at h; cases h
    | some c =>
      rw [e] at h
      obtain ⟨_, o, ho, cr⟩ := R.st p c e
      cases c with
      | lst ds =>
        cases h
        obtain ⟨vs, rfl, _⟩ := cr.lst
        exact .base (.lst ho)
      | dct ds =>
        cases h
        obtain ⟨vs, rfl, _⟩ := cr.dct
        exact .base (.dK ho)
theorem isi_e {a : Expr} {t : TY} {p pz pos : Pos} {wa : WpE} (gi : Gl X "isinstance") (hi : X.mg "isinstance" = none) (gt : Gl X (Str.ofString t.nm)) (ht : X.mg (Str.ofString t.nm) = none) (ok : tyOk t = true) (st : nst a = true) (ha : PE X a (LE X.K Z F0 wa)) :
    PE X (.Call (.Name "isinstance" p) [a, .Name (Str.ofString t.nm) pz] [] pos) (LE X.K Z F0 fun δ S P => wa δ S fun x S1 => isiD t x S1 P) := by
  have pt : PE X (.Name (Str.ofString t.nm) pz) (tC (.ty t.nm)) := pe_bltn gt ht (boot_ty ok) rfl (name_ty t).1 (name_ty t).2
  have hs1 : starEach [a, .Name (Str.ofString t.nm) pz] X.env = (false, eval a X.env) :: starEach [.Name (Str.ofString t.nm) pz] X.env := star_cons st
  have hs2 : (backTo pos (starEach [.Name (Str.ofString t.nm) pz] X.env)).any (·.1) = false := rfl
  refine PE_imp (pe_callB call_isi gi hi PyProof.Rows.boot_isinstance (pa_cons ha (pa_cons pt pa_nil) hs1) (by decide) (by decide) hs1 hs2) ?_
  rintro σ H Q ⟨F, δ, S, P, sf, rs, rh, w, c⟩
  refine ⟨F, δ, S, _, sf, rs, rh, w, ?_⟩
  intro F1 H1 S1 d v s1 R1 r1 w1
  have w1 : isiD t d S1 P := w1
  unfold isiD at w1
  cases e : tyD S1 d with
  | none => rw [e] at w1; exact absurd w1 id
  | some k =>
    rw [e] at w1
    exact ⟨v, .ty t.nm, .type k.nm, .type t.nm, isiB k t, rfl, .ty _, ty_of R1 r1 e, kit_ty (kit_isi k t), same_ok R1 (.bl _) w1 (c.mono s1)⟩
end
end GB

/-! GB13: soundness of expressions. -/
namespace GB
open PySem PySem.Spec PyProof.Rows L2

abbrev EOk (X : Cx) (Z F0 : Hp) (p : Expr) (W : WE2) : Prop := PE X p (LE X.K Z F0 W.e) ∧ PT X p (LT X.K Z F0 W.t)
theorem all_l {l m : List Nd} {T : Tx} {k : Nat} (h : ∀ n ∈ l ++ m, n.ok T k) : ∀ n ∈ l, n.ok T k := fun n hn => h n (List.mem_append_left _ hn)
theorem all_r {l m : List Nd} {T : Tx} {k : Nat} (h : ∀ n ∈ l ++ m, n.ok T k) : ∀ n ∈ m, n.ok T k := fun n hn => h n (List.mem_append_right _ hn)
theorem all_h {a : Nd} {m : List Nd} {T : Tx} {k : Nat} (h : ∀ n ∈ a :: m, n.ok T k) : a.ok T k := h a List.mem_cons_self
theorem all_t {a : Nd} {m : List Nd} {T : Tx} {k : Nat} (h : ∀ n ∈ a :: m, n.ok T k) : ∀ n ∈ m, n.ok T k := fun n hn => h n (List.mem_cons_of_mem _ hn)
theorem ne_of_chk {ps : List Expr} (h : (!ps.isEmpty) = true) : ps ≠ [] := by
  rintro rfl
  cases h

/-- the names of a comprehension's own slots -/
theorem own_snd (N : List Str) (l : List Nat) : (l.map fun i => (N.getD i Str.empty, i)).map (·.2) = l := by
  rw [List.map_map]
  exact List.map_id' l
theorem fold_ok {p : Expr} {env : Env} (h : nSet p = true) : ∀ x, foldedSetIterable p env x = pure x := by
  intro x
  cases p <;> first
    | rfl
    | exact absurd h Bool.false_ne_true

/-! ### displays of dicts -/
theorem RepK.app {K : FK} {F : Hp} : ∀ {a b : List (Key × D)} {c d : List (Key × V)}, RepK K F a c → RepK K F b d → RepK K F (a ++ b) (c ++ d)
  | _, _, _, _, .nil, h => h
  | _, _, _, _, .cons r t, h => .cons r (RepK.app t h)
theorem RepK.any {K : FK} {F : Hp} {k : Key} : ∀ {a : List (Key × D)} {c : List (Key × V)}, RepK K F a c → (a.any fun kv => decide (kv.1 = k)) = (c.any fun kv => decide (kv.1 = k))
  | _, _, .nil => rfl
  | _, _, .cons r t => by rw [List.any_cons, List.any_cons, RepK.any t]
theorem RepK.upd {K : FK} {F : Hp} {k : Key} {x : D} {v : V} (rx : Rep K F x v) : ∀ {a : List (Key × D)} {c : List (Key × V)}, RepK K F a c → RepK K F (a.map fun kv => if kv.1 = k then (kv.1, x) else kv) (c.map fun kv => if kv.1 = k then (kv.1, v) else kv)
  | _, _, .nil => .nil
  | _, _, @RepK.cons _ _ k0 d0 v0 ds vs r t => by
    rw [List.map_cons, List.map_cons]
    by_cases e : k0 = k
    · simp only [e, if_true]
      exact .cons rx (RepK.upd rx t)
    · simp only [e, if_false]
      exact .cons r (RepK.upd rx t)
theorem RepK.put {K : FK} {F : Hp} {k : Key} {x : D} {v : V} {a : List (Key × D)} {c : List (Key × V)} (r : RepK K F a c) (rx : Rep K F x v) : RepK K F (putD a k x) (L2.putK c k v) := by
  unfold putD L2.putK
  rw [r.any]
  by_cases e : (c.any fun kv => decide (kv.1 = k)) = true
  · rw [if_pos e, if_pos e]; exact r.upd rx
  · rw [if_neg e, if_neg e]; exact r.app (.cons rx .nil)
theorem RelH.lessZ {K : FK} {Z Z' F : Hp} {S : Sto} {H : Hp} (R : RelH K Z' F S H) (h : Same Z Z') : RelH K Z F S H := ⟨R.fz, fun p o e => R.hid p o (h p o e), R.st⟩
theorem Gd.less {X : Cx} {k : Nat} {Z Z' F0 : Hp} {xq : XP} {b : Bool} (g : Gd X k Z F0 xq b) (h : Same Z Z') : Gd X k Z' F0 xq b := by
  refine ⟨g.nd, g.calm, g.room, g.gu, Takes.imp g.tk ?_, g.po, g.fn⟩
  rintro c d σ H ⟨F, δ, S, x, sf, rs, R, xr, q⟩
  exact ⟨F, δ, S, x, sf, rs, R.lessZ h, xr, q⟩
inductive RepP (K : FK) (F : Hp) : List D → List (V × V) → Prop
  | nil : RepP K F [] []
  | cons {d e : D} {v u : V} {ds : List D} {ps : List (V × V)} : Rep K F d v → Rep K F e u → RepP K F ds ps → RepP K F (d :: e :: ds) ((v, u) :: ps)
theorem RepP.mono {K : FK} {F G : Hp} (s : Same F G) : ∀ {ds : List D} {ps : List (V × V)}, RepP K F ds ps → RepP K G ds ps
  | _, _, .nil => .nil
  | _, _, .cons a b c => .cons (a.mono s) (b.mono s) (RepP.mono s c)
theorem kv_of {K : FK} {F : Hp} : ∀ {ds : List D} {ps : List (V × V)} {kvs : List (Key × D)}, RepP K F ds ps → kvL ds = some kvs → ∃ us : List (Key × V), ps = us.map (fun kv => (kV kv.1, kv.2)) ∧ RepK K F kvs us
  | _, _, kvs, .nil, h => by
    cases h
    exact ⟨[], rfl, .nil⟩
  | _, _, kvs, @RepP.cons _ _ d e v u ds ps a b c, h => by
    have h : (match keyD d with
      | some q => (match kvL ds with
        | some kvs => some ((q, e) :: kvs)
        | none => none)
      | none => none) = some kvs := h
    cases hk : keyD d with
    | none => rw [hk] at h; cases h
    | some q =>
      rw [hk] at h
      cases hr : kvL ds with
      | none => rw [hr] at h; cases h
      | some r =>
        rw [hr] at h
        cases h
        obtain ⟨us, rfl, ru⟩ := kv_of c hr
        refine ⟨(q, u) :: us, ?_, .cons b ru⟩
        rw [key_of a hk]; rfl
theorem merge_rel {K : FK} {F : Hp} : ∀ (more : List (Key × D)) (us : List (Key × V)) (a : List (Key × D)) (b : List (Key × V)), RepK K F more us → RepK K F a b → RepK K F (mergeD a more) (mergeK b us)
  | _, _, _, _, .nil, h => h
  | _, _, a, b, @RepK.cons _ _ k d v ds vs r t, h => by
    show RepK K F (mergeD (putD a k d) ds) (mergeK (L2.putK b k v) vs)
    exact merge_rel ds vs _ _ t (h.put r)
structure DisOk (X : Cx) (Z F0 : Hp) (ks : List (Option Expr)) (vs : List Expr) (wa : WpA) : Prop where
  ex : ∃ trs, (∀ pos, PPs X pos ks vs trs) ∧ ks.all (·.isSome) = true ∧ ks.length = vs.length ∧ trs.length = ks.length ∧
    ∀ (Z' : Hp) (σ : VS) (H : Hp) (F : Hp) (δ : Dts) (S : Sto) (P : List D → Sto → Prop) (Q : List (V × V) → Hp → Prop), Same Z Z' → Same F0 F → RelS X.K F δ σ → RelH X.K Z' F S H → wa δ S P →
      (∀ F' H' S' ds ps, Same F F' → RelH X.K Z' F' S' H' → RepP X.K F' ds ps → ps.length = ks.length → P ds S' → Q ps H') → tPairs trs σ H Q
theorem dis_nil {X : Cx} {Z F0 : Hp} : DisOk X Z F0 [] [] (fun _ S P => P [] S) :=
  ⟨[], fun _ => pps_nil, rfl, rfl, rfl, fun Z' σ H F δ S P Q _ _ _ R w c => c F H S [] [] (Same.refl F) R .nil rfl w⟩
theorem dis_cons {X : Cx} {Z F0 : Hp} {pk pv : Expr} {ks : List (Option Expr)} {vs : List Expr} {wk wv : WpE} {wa : WpA} (hk : ∀ Z', Same Z Z' → PE X pk (LE X.K Z' F0 wk)) (hv : ∀ Z', Same Z Z' → PE X pv (LE X.K Z' F0 wv)) (h : DisOk X Z F0 ks vs wa) :
    DisOk X Z F0 (some pk :: ks) (pv :: vs) (fun δ S P => wk δ S fun x S1 => wv δ S1 fun y S2 => wa δ S2 fun xs S3 => P (x :: y :: xs) S3) := by
  obtain ⟨trs, pp, al, ln, lt, lift⟩ := h.ex
  have e1 : PE X pk (fun σ H Q => ∃ Z', Same Z Z' ∧ LE X.K Z' F0 wk σ H Q) := ⟨fun pins s σ H Q I ⟨Z', hz, q⟩ => (hk Z' hz).run pins s σ H Q I q⟩
  have e2 : PE X pv (fun σ H Q => ∃ Z', Same Z Z' ∧ LE X.K Z' F0 wv σ H Q) := ⟨fun pins s σ H Q I ⟨Z', hz, q⟩ => (hv Z' hz).run pins s σ H Q I q⟩
  refine ⟨_, fun pos => pps_cons e1 e2 (pp pos), by rw [List.all_cons, al]; rfl, by rw [List.length_cons, List.length_cons, ln], by rw [List.length_cons, List.length_cons, lt], ?_⟩
  intro Z' σ H F δ S P Q hz sf rs R w c
  refine ⟨Z', hz, F, δ, S, _, sf, rs, R, w, ?_⟩
  intro F1 H1 S1 x v s1 R1 rx w1
  refine ⟨Z', hz, F1, δ, S1, _, sf.trans s1, rs.mono s1, R1, w1, ?_⟩
  intro F2 H2 S2 y u s2 R2 ry w2
  refine lift Z' σ H2 F2 δ S2 _ _ hz (sf.trans (s1.trans s2)) (rs.mono (s1.trans s2)) R2 w2 ?_
  intro F3 H3 S3 ds ps s3 R3 rp len w3
  exact c F3 H3 S3 _ _ (s1.trans (s2.trans s3)) R3 (.cons (rx.mono (s2.trans s3)) (ry.mono s3) rp) (by rw [List.length_cons, List.length_cons, len]) w3
theorem RelH.unhideW {K : FK} {Z F : Hp} {S : Sto} {H : Hp} {p : Addr} {o u : HO} (R : RelH K (upd Z p o) F S H) : RelH K (upd Z p u) F S (upd H p u) := R.rehide
theorem dct_e {X : Cx} {Z F0 : Hp} {ks : List (Option Expr)} {vs : List Expr} {pos : Pos} {m : Bool} {wa : WpA} (h15 : ks.length ≤ 15) (h : DisOk X Z F0 ks vs wa) :
    PE X (.Dict ks vs pos) (LE X.K Z F0 fun δ S P => wa δ S fun ds S1 => ∃ kvs, kvL ds = some kvs ∧ nwD m (mergeD [] kvs) S1 P) := by
  obtain ⟨trs, pp, al, ln, lt, lift⟩ := h.ex
  have go : PE X (.Dict ks vs pos) (tDisp trs) := by
    cases ks with
    | nil =>
      cases vs with
      | cons _ _ => cases ln
      | nil =>
        have e := pp pos
        refine PE_imp pe_dnewK ?_
        intro σ H Q q p hp
        have z := q p hp
        cases trs with
        | nil =>
          obtain ⟨_, kvs, e2, _, z⟩ := z
          cases kvs with
          | nil =>
            have e3 : upd (upd H p (.dK [])) p (.dK (mergeK [] [])) = upd H p (.dK []) := upd_upd
            rw [e3] at z
            exact z
          | cons _ _ => cases e2
        | cons _ _ => cases lt
    | cons k0 kr => exact pe_disp (pp pos) al ln (List.cons_ne_nil _ _) h15
  refine PE_imp go ?_
  rintro σ H Q ⟨F, δ, S, P, sf, rs, rh, w, c⟩ p hp
  have hz := rh.hz hp
  refine lift (upd Z p (.dK [])) σ _ F δ S _ _ (same_upd hz) sf rs (rh.hide hp _) w ?_
  rintro F1 H1 S1 ds ps s1 R1 rp len ⟨kvs, e, w1⟩
  obtain ⟨us, rfl, ru⟩ := kv_of rp e
  refine ⟨(R1.hid p _ upd_same).2.2, us, rfl, by rw [List.length_map] at len; omega, ?_⟩
  have rm : RepK X.K F1 (mergeD [] kvs) (mergeK [] us) := merge_rel _ _ _ _ ru .nil
  have R2 : RelH X.K (upd Z p (.dK (mergeK [] us))) F1 S1 (upd H1 p (.dK (mergeK [] us))) := R1.rehide
  cases m with
  | true =>
    obtain ⟨n0, R3⟩ := R2.unhideS (c := .dct (mergeD [] kvs)) hz rm
    exact c F1 _ _ _ _ s1 R3 (.ref p) (w1 p n0)
  | false =>
    obtain ⟨s3, R3⟩ := R2.unhideF hz
    exact c _ _ S1 _ _ (s1.trans s3) R3 (.dct upd_same (rm.mono s3)) w1

theorem slr_form {N : List Str} {sc : Scope} {blk : Bool} {m : Bool} {a : E} {pa : Expr} {st : Option Expr} {p3 pos : Pos} (h : chk N sc blk (.slr m a) (.Subscript pa (.Slice none none st p3) pos) = true) :
    ∃ k p1 p2, st = some (.UnaryOp .USub (.Constant (.int 1) k p1) p2) ∧ chk N sc blk a pa = true := by
  unfold chk at h
  split at h <;> simp_all
theorem isi_form {N : List Str} {sc : Scope} {blk : Bool} {t : TY} {a : E} {y : Str} {py pos : Pos} {ps : List Expr} {kw : List Keyword} (h : chk N sc blk (.isi t a) (.Call (.Name y py) ps kw pos) = true) :
    ∃ pa z pz, ps = [pa, .Name z pz] ∧ kw = [] ∧ (decide (y = ("isinstance" : Str)) && (glB sc y && (decide (z = Str.ofString t.nm) && (glB sc z && (tyOk t && (nst pa && chk N sc blk a pa)))))) = true := by
  cases ps with
  | nil => exact absurd h Bool.false_ne_true
  | cons pa r =>
    cases r with
    | nil => exact absurd h Bool.false_ne_true
    | cons q r2 =>
      cases r2 with
      | cons _ _ => cases q <;> exact absurd h Bool.false_ne_true
      | nil =>
        cases q with
        | Name z pz =>
          cases kw with
          | nil => exact ⟨pa, z, pz, rfl, rfl, h⟩
          | cons _ _ => exact absurd h Bool.false_ne_true
        | _ => exact absurd h Bool.false_ne_true
mutual
theorem sE {X : Cx} {k : Nat} {Z F0 : Hp} {xq : XP} {blk : Bool} (g : Gd X k Z F0 xq blk) : ∀ (e : E) (p : Expr), chk X.N X.env.scope blk e p = true → (∀ n ∈ nd e, n.ok (txOf X) k) → EOk X Z F0 p (w xq e)
  | .v i, p, h, _ => by
    cases p <;> first
      | exact absurd h Bool.false_ne_true
      | (obtain ⟨h1, h2, h3, h4⟩ := vis_ok h
         refine both_ok (PE_imp (pe_var h1 h2 h3 h4) ?_) (fun _ => rfl)
         rintro σ H Q ⟨F, δ, S, P, sf, rs, rh, ⟨d, e, w⟩, c⟩
         obtain ⟨v, ev, rv⟩ := rs.at_ i d e
         exact ⟨v, ev, same_ok rh rv w c⟩)
  | .cN, p, h, _ => by
    cases p <;> first
      | exact absurd h Bool.false_ne_true
      | skip
    rename_i c _ _
    cases c <;> first
      | exact absurd h Bool.false_ne_true
      | exact both_ok (cst_ok pe_non fun _ => .non) (fun _ => rfl)
  | .cB b, p, h, _ => by
    cases p <;> first
      | exact absurd h Bool.false_ne_true
      | skip
    rename_i c _ _
    cases c <;> first
      | exact absurd h Bool.false_ne_true
      | (obtain rfl := of_decide_eq_true h
         exact both_ok (cst_ok pe_bl fun _ => .bl _) (fun _ => rfl))
  | .cI b, p, h, _ => by
    cases p <;> first
      | exact absurd h Bool.false_ne_true
      | skip
    rename_i c _ _
    cases c <;> first
      | exact absurd h Bool.false_ne_true
      | (obtain rfl := of_decide_eq_true h
         exact both_ok (cst_ok pe_int fun _ => .int _) (fun _ => rfl))
  | .cS b, p, h, _ => by
    cases p <;> first
      | exact absurd h Bool.false_ne_true
      | skip
    rename_i c _ _
    cases c <;> first
      | exact absurd h Bool.false_ne_true
      | (obtain rfl := of_decide_eq_true h
         exact both_ok (cst_ok pe_str fun _ => .str _) (fun _ => rfl))
  | .gl x d, p, h, n => by
    cases p <;> first
      | exact absurd h Bool.false_ne_true
      | skip
    obtain ⟨h1, h2⟩ := and_t h
    obtain rfl := of_decide_eq_true h1
    obtain ⟨a, b⟩ := gl_ok h2
    obtain ⟨u, v, hm, rv, r⟩ := all_h n
    exact both_ok (cst_ok (pe_glob a hm rv b) r) (fun _ => rfl)
  | .bin o m a b, p, h, n => by
    cases p <;> first
      | exact absurd h Bool.false_ne_true
      | skip
    obtain ⟨h1, h⟩ := and_t h
    obtain ⟨h2, h3⟩ := and_t h
    obtain ⟨r, hr, l⟩ := bop_ok m h1
    exact both_ok (pe_bin hr l (sE g a _ h2 (all_l n)).1 (sE g b _ h3 (all_r n)).1) (fun _ => rfl)
  | .neg a, p, h, n => by
    cases p <;> first
      | exact absurd h Bool.false_ne_true
      | skip
    rename_i op q _
    cases op <;> first
      | exact absurd h Bool.false_ne_true
      | exact both_ok (un_ok (sE g a q h n).1 (fun z => pe_un un_neg z) negL) (fun _ => rfl)
  | .cmp o a b, p, h, n => by
    cases p <;> first
      | exact absurd h Bool.false_ne_true
      | skip
    rename_i pa ops cs pos
    match ops, cs, h with
    | [op], [pb], h =>
      obtain ⟨h0, h⟩ := and_t h
      obtain ⟨h1, h0⟩ := and_t h0
      have hmk : behindInMarks op pb = false := (Bool.not_eq_true' _).mp h0
      obtain ⟨h2, h3⟩ := and_t h
      obtain ⟨r, hr, l, _⟩ := cop_ok g.un h1
      have ha := (sE g a pa h2 (all_l n)).1
      have hb := (sE g b pb h3 (all_r n)).1
      refine ⟨PE_imp (pe_cmpR hr ha hb hmk) fun _ _ _ q => bin_lift l q, PT_imp (pt_cmpR hr ha hb hmk) ?_⟩
      rintro σ H Q ⟨F, δ, S, P, sf, rs, rh, w, c⟩
      refine bin_lift (Z := Z) (F0 := F0) l ⟨F, δ, S, isCmpTrue P, sf, rs, rh, w, ?_⟩
      rintro F' H' S' d v s R rd ⟨b, rfl, pb⟩
      cases rd
      exact ⟨b, rfl, c F' H' S' b s R pb⟩
  | .cmp2 o o2 a b c, p, h, n => by
    cases p <;> first
      | exact absurd h Bool.false_ne_true
      | skip
    rename_i pa ops cs pos
    match ops, cs, h with
    | [op, op2], [pb, pc], h =>
      obtain ⟨h1, h⟩ := and_t h
      obtain ⟨h2, h⟩ := and_t h
      obtain ⟨h2, hz⟩ := and_t h2
      obtain ⟨hz1, hz2⟩ := and_t hz
      obtain ⟨h3, h⟩ := and_t h
      obtain ⟨h4, h5⟩ := and_t h
      obtain ⟨r, hr, l, n12⟩ := cop_ok g.un h1
      obtain ⟨r2, hr2, l2, n34⟩ := cop_ok g.un h2
      obtain ⟨n3, n4⟩ := n34 ((Bool.not_eq_true' _).mp hz2)
      have ha := (sE g a pa h3 (all_l n)).1
      have hb := (sE g b pb h4 (all_l (all_r n))).1
      have hc := (sE g c pc h5 (all_r (all_r n))).1
      exact ⟨chain_e hr hr2 l l2 n3 n4 ha hb hc, chain_t hr hr2 l l2 n3 n4 ha hb hc⟩
  | .and_ es, p, h, n => by
    cases p <;> first
      | exact absurd h Bool.false_ne_true
      | skip
    rename_i o ps pos
    cases o with
    | Or => exact absurd h Bool.false_ne_true
    | And =>
      obtain ⟨_, h⟩ := and_t h
      obtain ⟨h1, h2⟩ := and_t h
      obtain ⟨a, b⟩ := (sEs g es ps h2 n).an (ne_of_chk h1) pos
      exact ⟨a, b.pt⟩
  | .or_ es, p, h, n => by
    cases p <;> first
      | exact absurd h Bool.false_ne_true
      | skip
    rename_i o ps pos
    cases o with
    | And => exact absurd h Bool.false_ne_true
    | Or =>
      obtain ⟨_, h⟩ := and_t h
      obtain ⟨h1, h2⟩ := and_t h
      obtain ⟨a, b⟩ := (sEs g es ps h2 n).or (ne_of_chk h1) pos
      exact ⟨a, b.pt⟩
  | .not_ a, p, h, n => by
    cases p <;> first
      | exact absurd h Bool.false_ne_true
      | skip
    rename_i op q _
    cases op <;> first
      | exact absurd h Bool.false_ne_true
      | exact ⟨not_e (sE g a q h n).1, not_t (sE g a q h n).2⟩
  | .ite t a b, p, h, n => by
    cases p <;> first
      | exact absurd h Bool.false_ne_true
      | skip
    obtain ⟨h1, h⟩ := and_t h
    obtain ⟨h2, h3⟩ := and_t h
    have it := sE g t _ h1 (all_l n)
    have ia := sE g a _ h2 (all_l (all_r n))
    have ib := sE g b _ h3 (all_r (all_r n))
    exact ⟨ite_e it.2 ia.1 ib.1, ite_t it.2 ia.2 ib.2⟩
  | .tup es, p, h, n => by
    cases p <;> first
      | exact absurd h Bool.false_ne_true
      | exact both_ok (tup_e (sEs g es _ h n).all) (fun _ => rfl)
  | .lst m es, p, h, n => by
    cases p <;> first
      | exact absurd h Bool.false_ne_true
      | exact both_ok (lst_e (sEs g es _ h n).all) (fun _ => rfl)
  | .dct m es, p, h, n => by
    cases p <;> first
      | exact absurd h Bool.false_ne_true
      | skip
    rename_i ks vs pos
    obtain ⟨h1, h2⟩ := and_t h
    have q := sD g es ks vs h2 n
    exact both_ok (dct_e (of_decide_eq_true h1) q) (fun _ => rfl)
  | .ix a i, p, h, n => by
    cases p <;> first
      | exact absurd h Bool.false_ne_true
      | skip
    obtain ⟨h1, h⟩ := and_t h
    obtain ⟨h2, h3⟩ := and_t h
    exact both_ok (ix_e g.un h1 (sE g a _ h2 (all_l n)).1 (sE g i _ h3 (all_r n)).1) (fun _ => rfl)
  | .sl m a lo hi, p, h, n => by
    cases p <;> first
      | exact absurd h Bool.false_ne_true
      | skip
    rename_i pa pi pos
    cases pi <;> first
      | exact absurd h Bool.false_ne_true
      | skip
    rename_i pl ph st pos2
    cases st with
    | some _ => exact absurd h Bool.false_ne_true
    | none =>
      obtain ⟨h1, h⟩ := and_t h
      obtain ⟨h2, h3⟩ := and_t h
      exact both_ok (sl_e (sE g a _ h1 (all_l n)).1 (sO g lo _ h2 (all_l (all_r n))) (sO g hi _ h3 (all_r (all_r n)))) (fun _ => rfl)
  | .slr m a, p, h, n => by
    cases p <;> first
      | exact absurd h Bool.false_ne_true
      | skip
    rename_i pa pi pos
    cases pi <;> first
      | exact absurd h Bool.false_ne_true
      | skip
    rename_i pl ph st pos2
    cases pl with
    | some _ => exact absurd h Bool.false_ne_true
    | none =>
      cases ph with
      | some _ => exact absurd h Bool.false_ne_true
      | none =>
        obtain ⟨k, p1, p2, rfl, h⟩ := slr_form h
        exact both_ok (slr_e (sE g a _ h n).1) (fun _ => rfl)
  | .isi t a, p, h, n => by
    cases p <;> first
      | exact absurd h Bool.false_ne_true
      | skip
    rename_i f ps kw pos
    cases f <;> first
      | exact absurd h Bool.false_ne_true
      | skip
    rename_i y py
    obtain ⟨pa, z, pz, rfl, rfl, h⟩ := isi_form h
    obtain ⟨h1, h⟩ := and_t h
    obtain ⟨h2, h⟩ := and_t h
    obtain ⟨h3, h⟩ := and_t h
    obtain ⟨h4, h⟩ := and_t h
    obtain ⟨h5, h⟩ := and_t h
    obtain ⟨h7, h6⟩ := and_t h
    obtain rfl := of_decide_eq_true h1
    obtain rfl := of_decide_eq_true h3
    obtain ⟨a1, _⟩ := gl_ok h2
    obtain ⟨a2, _⟩ := gl_ok h4
    exact both_ok (isi_e a1 (all_h n) a2 (all_h (all_t n)) h5 h7 (sE g a pa h6 (all_t (all_t n))).1) (fun _ => rfl)
  | .call x sp es, p, h, n => by
    cases p <;> first
      | exact absurd h Bool.false_ne_true
      | skip
    rename_i f ps kw pos
    cases f <;> first
      | exact absurd h Bool.false_ne_true
      | skip
    rename_i y py
    cases kw with
    | cons _ _ => exact absurd h Bool.false_ne_true
    | nil =>
      obtain ⟨h1, h⟩ := and_t h
      obtain ⟨h2, h3⟩ := and_t h
      obtain rfl := of_decide_eq_true h1
      obtain ⟨a, b⟩ := gl_ok h2
      have q := sEs g es ps h3 (all_t n)
      cases ps with
      | nil =>
        cases es with
        | nil => exact both_ok (call_e0 g (all_h n) a b) (fun _ => rfl)
        | cons _ _ => exact absurd h3 Bool.false_ne_true
      | cons e r => exact both_ok (call_e g (all_h n) a b q.st q.all) (fun _ => rfl)
  | .bi b m es, p, h, n => by
    cases p <;> first
      | exact absurd h Bool.false_ne_true
      | skip
    rename_i f ps kw pos
    cases f <;> first
      | exact absurd h Bool.false_ne_true
      | skip
    rename_i y py
    cases kw with
    | cons _ _ => exact absurd h Bool.false_ne_true
    | nil =>
      obtain ⟨h1, h⟩ := and_t h
      obtain ⟨h2, h⟩ := and_t h
      obtain ⟨h3, h4⟩ := and_t h
      have e1 := of_decide_eq_true h1
      subst e1
      obtain ⟨a, _⟩ := gl_ok h2
      have q := sEs g es ps h4 (all_t n)
      obtain ⟨r, hr, l⟩ := call_bi (X := X) g.calm g.gu g.un b m
      have hf : (∃ id, (biV b).2 = .builtin id) ∨ ∃ T, (biV b).2 = .type T := by
        cases b <;> first
          | exact .inl ⟨_, rfl⟩
          | exact .inr ⟨_, rfl⟩
      exact both_ok (bi_e hf hr l a (all_h n) (biV_boot b) (biV_name b).1 (biV_name b).2 (ne_of_chk h3) q.st q.all) (fun _ => rfl)
  | .mt f a es, p, h, n => by
    cases p <;> first
      | exact absurd h Bool.false_ne_true
      | skip
    rename_i fn ps kw cp
    cases fn <;> first
      | exact absurd h Bool.false_ne_true
      | skip
    rename_i pa nm ap
    cases kw with
    | cons _ _ => exact absurd h Bool.false_ne_true
    | nil =>
      obtain ⟨h1, h⟩ := and_t h
      obtain ⟨h2, h⟩ := and_t h
      obtain ⟨h3, h⟩ := and_t h
      obtain ⟨h4, h⟩ := and_t h
      obtain ⟨h5, h6⟩ := and_t h
      have e1 := of_decide_eq_true h1
      subst e1
      have e4 := of_decide_eq_true h4
      have ia := (sE g a pa h5 (all_l n)).1
      have q := sEs g es ps h6 (all_r n)
      have one : ps.length = 1 → ∃ e, ps = [e] := fun z => by
        match ps, z with
        | [e], _ => exact ⟨e, rfl⟩
      cases f with
      | append =>
        obtain ⟨e, rfl⟩ := one (Option.some.inj e4).symm
        exact both_ok (mt_1 PySem.F.slot_list_append PySem.F.type_list_append mt_append (fun _ _ _ _ _ _ _ _ _ R rx rs w c => append_l R rx rs w c) ia q.all q.st.1 h2 h3) (fun _ => rfl)
      | extend =>
        obtain ⟨e, rfl⟩ := one (Option.some.inj e4).symm
        exact both_ok (mt_1 PySem.F.slot_list_extend PySem.F.type_list_extend mt_extend (fun _ _ _ _ _ _ _ _ _ R rx rs w c => extend_l R rx rs w c) ia q.all q.st.1 h2 h3) (fun _ => rfl)
      | pop =>
        have z : ps = [] := List.eq_nil_of_length_eq_zero (Option.some.inj e4).symm
        subst z
        cases es with
        | nil => exact both_ok (mt_0 PySem.F.slot_list_pop PySem.F.type_list_pop mt_pop (fun _ _ _ _ _ _ _ R rx w c => pop_l R rx w c) ia h2 h3) (fun _ => rfl)
        | cons _ _ => exact absurd h6 Bool.false_ne_true
      | reverse =>
        have z : ps = [] := List.eq_nil_of_length_eq_zero (Option.some.inj e4).symm
        subst z
        cases es with
        | nil => exact both_ok (mt_0 PySem.F.slot_list_reverse PySem.F.type_list_reverse mt_reverse (fun _ _ _ _ _ _ _ R rx w c => reverse_l R rx w c) ia h2 h3) (fun _ => rfl)
        | cons _ _ => exact absurd h6 Bool.false_ne_true
      | popAt => cases e4
      | insert => cases e4
      | count => cases e4
      | index => cases e4
  | .lc m elt tg it ifs, p, h, n => by
    cases p <;> first
      | exact absurd h Bool.false_ne_true
      | skip
    rename_i pe gens scope pos
    match gens, h with
    | [⟨ptg, piter, pifs, asy⟩], h =>
      obtain ⟨h1, h⟩ := and_t h
      obtain ⟨h2, h⟩ := and_t h
      obtain ⟨h3, h⟩ := and_t h
      obtain ⟨h4, h⟩ := and_t h
      obtain ⟨h5, h⟩ := and_t h
      obtain ⟨h6, h⟩ := and_t h
      obtain ⟨h7, h8⟩ := and_t h
      have e1 : asy = 0 := of_decide_eq_true h1
      subst e1
      have ok := blkOk_by h3
      have B : ∀ (Z' F' : Hp) (s : Shared) (H : Hp) (C : Addr) (cl : List (Str × Addr)) (fp : List Addr), Gd (X.blk s H scope (compEnvC scope cl C X.env) fp) k Z' F' (fun _ _ _ => False) true := fun Z' F' s H C cl fp => g.blk Z' F' s H scope C cl fp
      have it_ := sI g it ptg piter h2 (all_l (all_r n))
      have hg : ∀ (s : Shared) (H : Hp) (C : Addr) (cl : List (Str × Addr)) (fp : List Addr), PG (X.blk s H scope (compEnvC scope cl C X.env) fp) ptg (gR X.K tg) := fun s H C cl fp => g_ok (B Z F0 s H C cl fp) tg ptg h5
      have he : ∀ (s : Shared) (H : Hp) (C : Addr) (cl : List (Str × Addr)) (fp : List Addr), PE (X.blk s H scope (compEnvC scope cl C X.env) fp) pe (fun σ H Q => ∃ Z F0, LE X.K Z F0 (w (fun _ _ _ => False) elt).e σ H Q) := by
        intro s H C cl fp
        refine ⟨fun pins s1 σ H1 Q I q => ?_⟩
        obtain ⟨Z', F', q⟩ := q
        exact (sE (B Z' F' s H C cl fp) elt pe h6 (all_l n)).1.run pins s1 σ H1 Q I q
      have ht : ∀ (s : Shared) (H : Hp) (C : Addr) (cl : List (Str × Addr)) (fp : List Addr), PTs (X.blk s H scope (compEnvC scope cl C X.env) fp) pifs (fun σ H Q => ∃ Z F0, LT X.K Z F0 (ws (fun _ _ _ => False) ifs).ifs σ H Q) := by
        intro s H C cl fp
        refine ⟨fun pins s1 σ H1 Q I q => ?_⟩
        obtain ⟨Z', F', q⟩ := q
        exact ((sEs (B Z' F' s H C cl fp) ifs pifs h8 (all_r (all_r n))).ifs (of_decide_eq_true h7)).run pins s1 σ H1 Q I q
      refine both_ok (PE_imp (pe_lc g.calm g.nd it_ ok hg ht he (fold_ok h4)) ?_) (fun _ => rfl)
      intro σ H Q q
      exact lc_lift (own_snd _ _) (fun Z F0 σ H Q z => ⟨Z, F0, z⟩) (fun Z F0 σ H Q z => ⟨Z, F0, z⟩) q
  | .frz a, p, h, n => by
    have q := sE g a p h n
    refine ⟨PE_imp q.1 ?_, q.2⟩
    rintro σ H Q ⟨F, δ, S, P, sf, rs, rh, w, c⟩
    refine ⟨F, δ, S, _, sf, rs, rh, w, ?_⟩
    intro F1 H1 S1 d v s1 R1 r1 w1
    have c1 := c.mono s1
    cases d with
    | ref a =>
      have w1 : frzC a (S1 a) S1 P := w1
      cases r1
      cases e : S1 a with
      | none => rw [e] at w1; exact absurd w1 id
      | some ce =>
        rw [e] at w1
        obtain ⟨o, ho, cr, s2, R2⟩ := R1.freeze e
        cases ce with
        | lst ds =>
          obtain ⟨vs, rfl, r⟩ := cr.lst
          exact c1 _ H1 _ _ _ s2 R2 (.lst upd_same r) w1
        | dct ds =>
          obtain ⟨vs, rfl, r⟩ := cr.dct
          exact c1 _ H1 _ _ _ s2 R2 (.dct upd_same r) w1
    | _ => exact same_ok R1 r1 w1 c1
theorem sEs {X : Cx} {k : Nat} {Z F0 : Hp} {xq : XP} {blk : Bool} (g : Gd X k Z F0 xq blk) : ∀ (es : Es) (ps : List Expr), chks X.N X.env.scope blk es ps = true → (∀ n ∈ nds es, n.ok (txOf X) k) → EsOk X Z F0 ps (ws xq es)
  | .nil, ps, h, _ => by
    cases ps with
    | nil =>
      refine ⟨trivial, pa_nil', fun z => absurd rfl z, fun z => absurd rfl z, fun _ => ⟨fun pins s σ H Q I q => pts_nil.run pins s σ H Q I ?_⟩⟩
      obtain ⟨F, δ, S, P, sf, rs, rh, w, c⟩ := q
      exact c F H S true (Same.refl F) rh w
    | cons _ _ => exact absurd h Bool.false_ne_true
  | .cons e .nil, ps, h, n => by
    match ps, h with
    | [p], h =>
      obtain ⟨h1, h⟩ := and_t h
      obtain ⟨h2, _⟩ := and_t h
      have q := sE g e p h2 (all_l n)
      exact ⟨⟨h1, trivial⟩, arg1 q.1 h1, fun _ pos => ⟨pe_one q.1, pw_and1 q.2⟩, fun _ pos => ⟨pe_one q.1, pw_or1 q.2⟩, fun _ => pts_one q.2⟩
    | p :: p2 :: r, h =>
      obtain ⟨h1, h⟩ := and_t h
      obtain ⟨_, h2⟩ := and_t h
      exact absurd h2 Bool.false_ne_true
  | .cons e (.cons e2 r), ps, h, n => by
    match ps, h with
    | [p], h =>
      obtain ⟨h1, h⟩ := and_t h
      obtain ⟨_, h2⟩ := and_t h
      exact absurd h2 Bool.false_ne_true
    | p :: p2 :: rs, h =>
      obtain ⟨h1, h⟩ := and_t h
      obtain ⟨h2, h3⟩ := and_t h
      have q := sE g e p h2 (all_l n)
      have qs := sEs g (.cons e2 r) (p2 :: rs) h3 (all_r n)
      refine ⟨⟨h1, qs.st⟩, pa_more q.1 qs.all h1, fun _ pos => ?_, fun _ pos => ?_, fun z => ?_⟩
      · obtain ⟨a, b⟩ := qs.an (List.cons_ne_nil _ _) pos
        exact ⟨an_e q.1 a, an_t q.2 b⟩
      · obtain ⟨a, b⟩ := qs.or (List.cons_ne_nil _ _) pos
        exact ⟨or_e q.1 a, or_t q.2 b⟩
      · rw [List.length_cons, List.length_cons] at z
        omega
theorem sD {X : Cx} {k : Nat} {Z F0 : Hp} {xq : XP} {blk : Bool} (g : Gd X k Z F0 xq blk) : ∀ (es : Es) (ks : List (Option Expr)) (vs : List Expr), chkD X.N X.env.scope blk es ks vs = true → (∀ n ∈ nds es, n.ok (txOf X) k) → DisOk X Z F0 ks vs (ws xq es).all
  | .nil, ks, vs, h, _ => by
    cases ks with
    | cons _ _ => exact absurd h Bool.false_ne_true
    | nil =>
      cases vs with
      | cons _ _ => exact absurd h Bool.false_ne_true
      | nil => exact dis_nil
  | .cons _ .nil, ks, vs, h, _ => by
    cases ks <;> exact absurd h Bool.false_ne_true
  | .cons a (.cons b r), ks, vs, h, n => by
    match ks, vs, h with
    | some pk :: ks, pv :: vs, h =>
      obtain ⟨h1, h⟩ := and_t h
      obtain ⟨h2, h3⟩ := and_t h
      have e : (ws xq (.cons a (.cons b r))).all = fun δ S P => (w xq a).e δ S fun x S1 => (w xq b).e δ S1 fun y S2 => (ws xq r).all δ S2 fun xs S3 => P (x :: y :: xs) S3 := by
        cases r <;> rfl
      rw [e]
      exact dis_cons (fun Z' hz => (sE (g.less hz) a pk h1 (all_l n)).1) (fun Z' hz => (sE (g.less hz) b pv h2 (all_l (all_r n))).1) (sD g r ks vs h3 (all_r (all_r n)))
theorem sO {X : Cx} {k : Nat} {Z F0 : Hp} {xq : XP} {blk : Bool} (g : Gd X k Z F0 xq blk) : ∀ (e : Eo) (p : Option Expr), chko X.N X.env.scope blk e p = true → (∀ n ∈ ndo e, n.ok (txOf X) k) → PO X p (LO X.K Z F0 (wo xq e))
  | .none, p, h, _ => by
    cases p with
    | none => exact po_n
    | some _ => exact absurd h Bool.false_ne_true
  | .some e, p, h, n => by
    cases p with
    | none => exact absurd h Bool.false_ne_true
    | some q => exact po_s (sE g e q h n).1
theorem sI {X : Cx} {k : Nat} {Z F0 : Hp} {xq : XP} {blk : Bool} (g : Gd X k Z F0 xq blk) : ∀ (it : It') (tg p : Expr), chki X.N X.env.scope blk it tg p = true → (∀ n ∈ ndi it, n.ok (txOf X) k) → PI X tg p (LI X.K Z F0 (wi xq it))
  | .val a, tg, p, h, n => pi_val (sE g a p h n).1
  | .r1 a, tg, p, h, n => by
    cases p <;> first
      | exact absurd h Bool.false_ne_true
      | skip
    rename_i f ps kw pos
    cases f <;> first
      | exact absurd h Bool.false_ne_true
      | skip
    match ps, kw, h with
    | [pa], [], h =>
      obtain ⟨h1, h⟩ := and_t h
      obtain ⟨h2, h⟩ := and_t h
      obtain ⟨h3, h4⟩ := and_t h
      obtain rfl := of_decide_eq_true h1
      exact pi_r1 (gl_ok h2).1 (all_h n) (sE g a pa h4 (all_t n)).1 h3
  | .r2 a b, tg, p, h, n => by
    cases p <;> first
      | exact absurd h Bool.false_ne_true
      | skip
    rename_i f ps kw pos
    cases f <;> first
      | exact absurd h Bool.false_ne_true
      | skip
    match ps, kw, h with
    | [pa, pb], [], h =>
      obtain ⟨h1, h⟩ := and_t h
      obtain ⟨h2, h⟩ := and_t h
      obtain ⟨h3, h⟩ := and_t h
      obtain ⟨h4, h⟩ := and_t h
      obtain ⟨h5, h6⟩ := and_t h
      obtain rfl := of_decide_eq_true h1
      exact pi_r2 (gl_ok h2).1 (all_h n) (sE g a pa h5 (all_l (all_t n))).1 (sE g b pb h6 (all_r (all_t n))).1 h3 h4
  | .r3 a b c, tg, p, h, n => by
    cases p <;> first
      | exact absurd h Bool.false_ne_true
      | skip
    rename_i f ps kw pos
    cases f <;> first
      | exact absurd h Bool.false_ne_true
      | skip
    match ps, kw, h with
    | [pa, pb, pc], [], h =>
      obtain ⟨h1, h⟩ := and_t h
      obtain ⟨h2, h⟩ := and_t h
      obtain ⟨h3, h⟩ := and_t h
      obtain ⟨h4, h⟩ := and_t h
      obtain ⟨h5, h⟩ := and_t h
      obtain ⟨h6, h⟩ := and_t h
      obtain ⟨h7, h8⟩ := and_t h
      obtain rfl := of_decide_eq_true h1
      exact pi_r3 (gl_ok h2).1 (all_h n) (sE g a pa h6 (all_l (all_t n))).1 (sE g b pb h7 (all_l (all_r (all_t n)))).1 (sE g c pc h8 (all_r (all_r (all_t n)))).1 h3 h4 h5
  | .enum a, tg, p, h, n => by
    cases tg <;> first
      | exact absurd h Bool.false_ne_true
      | skip
    cases p <;> first
      | exact absurd h Bool.false_ne_true
      | skip
    rename_i f ps kw pos
    cases f <;> first
      | exact absurd h Bool.false_ne_true
      | skip
    match ps, kw, h with
    | [pa], [], h =>
      obtain ⟨h1, h⟩ := and_t h
      obtain ⟨h2, h⟩ := and_t h
      obtain ⟨h3, h4⟩ := and_t h
      obtain rfl := of_decide_eq_true h1
      exact pi_en (gl_ok h2).1 (all_h n) (sE g a pa h4 (all_t n)).1 h3
  | .zip a b, tg, p, h, n => by
    cases tg <;> first
      | exact absurd h Bool.false_ne_true
      | skip
    cases p <;> first
      | exact absurd h Bool.false_ne_true
      | skip
    rename_i f ps kw pos
    cases f <;> first
      | exact absurd h Bool.false_ne_true
      | skip
    match ps, kw, h with
    | [pa, pb], [], h =>
      obtain ⟨h1, h⟩ := and_t h
      obtain ⟨h2, h⟩ := and_t h
      obtain ⟨h3, h⟩ := and_t h
      obtain ⟨h4, h⟩ := and_t h
      obtain ⟨h5, h6⟩ := and_t h
      obtain rfl := of_decide_eq_true h1
      exact pi_zp (gl_ok h2).1 (all_h n) (sE g a pa h5 (all_l (all_t n))).1 (sE g b pb h6 (all_r (all_t n))).1 h3 h4
  | .rev a, tg, p, h, n => by
    cases p <;> first
      | exact absurd h Bool.false_ne_true
      | skip
    rename_i f ps kw pos
    cases f <;> first
      | exact absurd h Bool.false_ne_true
      | skip
    match ps, kw, h with
    | [pa], [], h =>
      obtain ⟨h1, h⟩ := and_t h
      obtain ⟨h2, h⟩ := and_t h
      obtain ⟨h3, h4⟩ := and_t h
      obtain rfl := of_decide_eq_true h1
      exact pi_rv (gl_ok h2).1 (all_h n) (sE g a pa h4 (all_t n)).1 h3
end
end GB

/-! GB14: soundness of statements, of defs. -/
namespace GB
open PySem PySem.Spec PyProof.Rows L2

/-! ### the stores' sides -/
theorem sw_ok {p : Expr} {t : Option Expr} {l : Nat} {env : Env} (h : nComp p = true) : swapsWith p t l env = pure false := by
  cases p <;> first
    | rfl
    | exact absurd h Bool.false_ne_true
theorem sw_ok2 {t p : Expr} {l : Nat} {env : Env} (h : noSw env.scope t p = true) : swapsWith p (some t) l env = pure false := by
  unfold noSw at h
  rcases Bool.or_eq_true_iff.mp h with h | h
  · exact sw_ok h
  · cases t with
    | Name x pos =>
      have hl : isLoc env.scope x = false := (Bool.not_eq_true' _).mp h
      have hk : (env.kindOf x == some .local) = false := by
        unfold isLoc at hl
        show (env.scope.names.lookup x == some .local) = false
        cases e : env.scope.names.lookup x with
        | none => rfl
        | some k =>
          rw [e] at hl
          cases k <;> first
            | rfl
            | cases hl
      have aux : ∀ a b c : Bool, pure (f := Sem) (a && (env.kindOf x == some NameKind.local) && b && c) = pure false := by
        intro a b c
        rw [hk, Bool.and_false, Bool.false_and, Bool.false_and]
      cases p <;> first
        | rfl
        | exact aux _ _ _
    | _ => cases p <;> rfl
theorem each_ok {t : Expr} {env : Env} (h : nst t = true) : (assignEach [t] env).map (·.2) = [assign t env] := by
  cases t <;> first
    | rfl
    | exact absurd h Bool.false_ne_true
/-- the name of a plain local on that line -/
def nmOf (env : Env) (line : Nat) : Expr → Option Str := fun e => match e with
  | .Name id pos => if env.kindOf id == some .local && pos.line == line then some id else none
  | _ => none
def isSt : Expr → Bool := fun e => match e with
  | .Starred .. => true
  | _ => false
theorem swNames_eq (env : Env) (line : Nat) : ∀ ts : List Expr, ts.filterMap (nmOf env line) = swNames env.scope line ts
  | [] => rfl
  | t :: ts => by
    rw [List.filterMap_cons]
    cases t <;> first
      | exact swNames_eq env line ts
      | skip
    rename_i id pos
    have e1 : nmOf env line (.Name id pos) = if (env.scope.names.lookup id == some .local && pos.line == line) = true then some id else none := rfl
    have e2 : swNames env.scope line (.Name id pos :: ts) = if (env.scope.names.lookup id == some .local && pos.line == line) = true then id :: swNames env.scope line ts else swNames env.scope line ts := rfl
    rw [e1, e2, swNames_eq env line ts]
    by_cases c : (env.scope.names.lookup id == some .local && pos.line == line) = true
    · rw [if_pos c, if_pos c]
    · rw [if_neg c, if_neg c]
theorem hd_eq : ∀ ts : List Expr, (ts.head?.map (·.pos.line)).getD 0 = hdLine ts
  | [] => rfl
  | _ :: _ => rfl
theorem isSt_none : ∀ {es : List Expr}, NStar es → es.any isSt = false
  | [], _ => rfl
  | e :: es, s => by
    rw [List.any_cons, isSt_none s.2]
    have := s.1
    cases e <;> first
      | rfl
      | exact absurd this Bool.false_ne_true
theorem swap_form (ts vs : List Expr) (k k2 : Nat) (q q2 : Pos) (env : Env) : swappedStores [.Tuple ts k q] (.Tuple vs k2 q2) env =
    (if (!(ts.length == 2 || ts.length == 3) || vs.length != ts.length || env.blockKind != .function) = true then pure none else
     if vs.any isSt = true then pure none else
     if ((ts.filterMap (nmOf env ((ts.head?.map (·.pos.line)).getD 0))).length != ts.length || (ts.filterMap (nmOf env ((ts.head?.map (·.pos.line)).getD 0))).eraseDups.length != (ts.filterMap (nmOf env ((ts.head?.map (·.pos.line)).getD 0))).length) = true then pure none else
     if vs.all (foldedForSure 8) = true then pure none else
     if vs.all (constantsAlone 8) = true then (do unsupported "assign.tuple-of-constant-expressions:order-of-the-stores"; pure (some (ts.filterMap (nmOf env ((ts.head?.map (·.pos.line)).getD 0))))) else
     pure (some (ts.filterMap (nmOf env ((ts.head?.map (·.pos.line)).getD 0))))) := by kernel_rfl
theorem noSwap_other {t p : Expr} {env : Env} (h : nTuple p = true ∨ (nTuple t = true ∧ ∀ ts q, t ≠ .List ts q)) : swappedStores [t] p env = pure none := by
  rcases h with h | ⟨h, h2⟩
  · by_cases ht : nTuple t = true
    · by_cases hl : ∃ ts q, t = .List ts q
      · obtain ⟨ts, q, rfl⟩ := hl
        cases p <;> first
          | rfl
          | exact absurd h Bool.false_ne_true
      · cases t <;> first
          | exact absurd ht Bool.false_ne_true
          | exact absurd ⟨_, _, rfl⟩ hl
          | rfl
    · have et : ∃ ts k q, t = .Tuple ts k q := by
        cases t <;> first
          | exact absurd rfl ht
          | exact ⟨_, _, _, rfl⟩
      obtain ⟨ts, k, q, rfl⟩ := et
      cases p <;> first
        | rfl
        | exact absurd h Bool.false_ne_true
  · cases t <;> first
      | exact absurd h Bool.false_ne_true
      | exact absurd rfl (h2 _ _)
      | rfl
theorem noSwap_ok {t p : Expr} {env : Env} (h : noSwap env.scope t p = true) : swappedStores [t] p env = pure none := by
  by_cases np : nTuple p = true
  · exact noSwap_other (.inl np)
  · have ep : ∃ vs k2 q2, p = .Tuple vs k2 q2 := by
      cases p <;> first
        | exact absurd rfl np
        | exact ⟨_, _, _, rfl⟩
    obtain ⟨vs, k2, q2, rfl⟩ := ep
    by_cases nt : nTuple t = true
    · refine noSwap_other (.inr ⟨nt, ?_⟩)
      rintro ts q rfl
      exact absurd h Bool.false_ne_true
    · have et : ∃ ts k q, t = .Tuple ts k q := by
        cases t <;> first
          | exact absurd rfl nt
          | exact ⟨_, _, _, rfl⟩
      obtain ⟨ts, k, q, rfl⟩ := et
      have h : (!(ts.length == 2 || ts.length == 3) || (vs.length != ts.length || ((swNames env.scope (hdLine ts) ts).length != ts.length || vs.all (foldedForSure 8)))) = true := h
      rw [swap_form, hd_eq, swNames_eq]
      by_cases a : (!(ts.length == 2 || ts.length == 3) || vs.length != ts.length || env.blockKind != .function) = true
      · rw [if_pos a]
      · rw [if_neg a]
        by_cases b : vs.any isSt = true
        · rw [if_pos b]
        · rw [if_neg b]
          by_cases c : ((swNames env.scope (hdLine ts) ts).length != ts.length || (swNames env.scope (hdLine ts) ts).eraseDups.length != (swNames env.scope (hdLine ts) ts).length) = true
          · rw [if_pos c]
          · rw [if_neg c]
            have d : vs.all (foldedForSure 8) = true := by
              rcases Bool.or_eq_true_iff.mp h with z | z
              · exact absurd (Bool.or_eq_true_iff.mpr (.inl (Bool.or_eq_true_iff.mpr (.inl z)))) a
              · rcases Bool.or_eq_true_iff.mp z with z | z
                · exact absurd (Bool.or_eq_true_iff.mpr (.inl (Bool.or_eq_true_iff.mpr (.inr z)))) a
                · rcases Bool.or_eq_true_iff.mp z with z | z
                  · exact absurd (Bool.or_eq_true_iff.mpr (.inl z)) c
                  · exact z
            rw [if_pos d]
theorem swap_ok {ts ps : List Expr} {k k2 : Nat} {q q2 : Pos} {env : Env} (hk : env.scope.kind = .function) (h1 : (ts.length == 2 || ts.length == 3) = true) (h2 : (ps.length == ts.length) = true) (st : NStar ps) (h3 : ((swNames env.scope (hdLine ts) ts).length == ts.length) = true)
    (h4 : ((swNames env.scope (hdLine ts) ts).eraseDups.length == ts.length) = true) (h5 : ps.all (constantsAlone 8) = false) (h6 : ps.all (foldedForSure 8) = false) :
    swappedStores [.Tuple ts k q] (.Tuple ps k2 q2) env = pure (some (swNames env.scope (hdLine ts) ts)) := by
  rw [swap_form, hd_eq, swNames_eq]
  have a : ¬ (!(ts.length == 2 || ts.length == 3) || ps.length != ts.length || env.blockKind != .function) = true := by
    have e : env.blockKind = .function := by unfold Env.blockKind; rw [hk]; rfl
    rw [h1, e, bne, h2]
    decide
  have e3 := eq_of_beq h3
  have e4 := eq_of_beq h4
  have c : ¬ ((swNames env.scope (hdLine ts) ts).length != ts.length || (swNames env.scope (hdLine ts) ts).eraseDups.length != (swNames env.scope (hdLine ts) ts).length) = true := by
    rw [e3, e4]
    simp
  rw [if_neg a, if_neg (by rw [isSt_none st]; exact Bool.false_ne_true), if_neg c, if_neg (by rw [h6]; exact Bool.false_ne_true), if_neg (by rw [h5]; exact Bool.false_ne_true)]

/-! ### names stored from the right -/
def parV : List Nat → List V → VS → VS
  | i :: is, d :: ds, σ => parV is ds (σ.set i (some d))
  | _, _, σ => σ
theorem parB_len {N : List Str} : ∀ {is : List Nat} {ns : List Str}, parB N is ns = true → is.length = ns.length
  | [], [], _ => rfl
  | [], _ :: _, h => absurd h Bool.false_ne_true
  | _ :: _, [], h => absurd h Bool.false_ne_true
  | i :: is, n :: ns, h => by
    obtain ⟨_, h2⟩ := and_t h
    rw [List.length_cons, List.length_cons, parB_len h2]
theorem parB_app {N : List Str} : ∀ {is js : List Nat} {ns ms : List Str}, parB N is ns = true → parB N js ms = true → parB N (is ++ js) (ns ++ ms) = true
  | [], _, [], _, _, h => h
  | i :: is, js, n :: ns, ms, h, h' => by
    obtain ⟨h1, h2⟩ := and_t h
    exact Bool.and_eq_true_iff.mpr ⟨h1, parB_app h2 h'⟩
theorem parB_rev {N : List Str} : ∀ {is : List Nat} {ns : List Str}, parB N is ns = true → parB N is.reverse ns.reverse = true
  | [], [], _ => rfl
  | i :: is, n :: ns, h => by
    obtain ⟨h1, h2⟩ := and_t h
    rw [List.reverse_cons, List.reverse_cons]
    exact parB_app (parB_rev h2) (Bool.and_eq_true_iff.mpr ⟨h1, rfl⟩)
theorem swNames_loc (sc : Scope) (line : Nat) : ∀ (ts : List Expr) (n : Str), n ∈ swNames sc line ts → sc.names.lookup n = some .local
  | [], n, h => nomatch h
  | t :: ts, n, h => by
    cases t <;> first
      | exact swNames_loc sc line ts n h
      | skip
    rename_i id pos
    have h : n ∈ (if (sc.names.lookup id == some .local && pos.line == line) = true then id :: swNames sc line ts else swNames sc line ts) := h
    by_cases c : (sc.names.lookup id == some .local && pos.line == line) = true
    · rw [if_pos c] at h
      rcases List.mem_cons.mp h with rfl | h
      · have z := (Bool.and_eq_true_iff.mp c).1
        cases q : sc.names.lookup n with
        | none => rw [q] at z; cases z
        | some kd =>
          rw [q] at z
          cases kd <;> first
            | rfl
            | cases z
      · exact swNames_loc sc line ts n h
    · rw [if_neg c] at h
      exact swNames_loc sc line ts n h
theorem inorder {X : Cx} {pins : List (Addr × Obj)} {H : Hp} (nd : X.N.Nodup) (is : List Nat) : ∀ (ns : List Str) (vs : List V) (us : List Value) (σ : VS) (s : Shared) (Q : Unit → Shared → Prop), parB X.N is ns = true → (∀ n ∈ ns, X.env.scope.names.lookup n = some .local) →
    Vals vs us → vs.length = is.length → Inv X pins σ H s → (∀ s', Inv X pins (parV is vs σ) H s' → Q () s') → wpAny (model X.prog X.w) X.A (assignInOrder (ns.map fun n => fun v => bindName X.env n v) us) Q X.xe s := by
  induction is with
  | nil =>
    intro ns vs us σ s Q h hl r len I q
    have e1 : ns = [] := List.eq_nil_of_length_eq_zero (parB_len h).symm
    have e2 : vs = [] := List.eq_nil_of_length_eq_zero len
    subst e1 e2
    cases r
    exact assignInOrder_nil (q s I)
  | cons i is ih =>
    intro ns vs us σ s Q h hl r len I q
    have e1 := parB_len h
    cases ns with
    | nil => cases e1
    | cons n ns =>
      cases r with
      | nil => cases len
      | cons r1 r2 =>
        obtain ⟨h1, h2⟩ := and_t h
        have ln := hl n List.mem_cons_self
        refine assignInOrder_cons (wpAny_bindName (store_ok I nd (in_ok h1) (.inl ln) r1 (fun s2 I2 => ?_) (.inr ln)))
        exact ih ns _ _ _ s2 Q h2 (fun m hm => hl m (List.mem_cons_of_mem _ hm)) r2 (Nat.succ.inj len) I2 q
theorem ps_parG {X : Cx} {is : List Nat} {ns : List Str} {ts ps : List Expr} {ta : TA} {k k2 : Nat} {q q2 pos : Pos} (hc : X.calm = true) (nd : X.N.Nodup) (ha : PA X ps ta) (hp : parB X.N is ns = true) (hl : ∀ n ∈ ns, X.env.scope.names.lookup n = some .local)
    (hw : swappedStores [.Tuple ts k q] (.Tuple ps k2 q2) X.env = pure (some ns)) (few : ns.length ≤ 3) :
    PS X (.Assign [.Tuple ts k q] (.Tuple ps k2 q2) pos) (fun D σ H => ta σ H fun vs H1 => vs.length = is.length ∧ D.nx (parV is.reverse vs.reverse σ) H1) := by
  refine ⟨fun pins s σ H D I h => ?_⟩
  rw [exec_Assign_arm]
  refine wpAny_bind (wpAny_standAt ?_)
  have e0 : swapsWithSole [.Tuple ts k q] (.Tuple ps k2 q2) pos.line X.env = pure false := rfl
  rw [e0]
  refine wpAny_bind (wpAny_pure ?_)
  rw [if_neg (by decide)]
  refine wpAny_bind (Tuple_ (thn (ha.run _ pins s σ H _ I h) ?_))
  rintro us s1 ⟨vs, H1, I1, r1, len, q1⟩
  have lu := r1.length
  have ln := parB_len hp
  refine wpAny_newObj_type ?_ ?_
  · rw [hw]
    refine wpAny_bind (wpAny_pure ?_)
    have I2 : Inv X pins σ H1 { s1 with heap := s1.heap.push { cls := .type "tuple", data := .seq us.toArray } } := I1.kept (t' := s1.toks) fun b o e => Heap.get?_push_of_some _ e
    show wpAny (model X.prog X.w) X.A (do rule "assign.swapped-stores"; let items ← unpackItems (.ref s1.heap.objs.size) ns.length none; assignInOrder (ns.reverse.map fun n => fun v => bindName X.env n v) items.reverse; pure Flow.next) _ _ _
    have e1 : ns.length = us.toArray.size := by
      rw [List.size_toArray]
      omega
    rw [e1]
    refine wpAny_bind (wpAny_rule (wpAny_bind (unpackItems_tuple (items := us.toArray) (I.ok.hd hc) (IsTup.new s1.heap _) fun h' hx => ?_)))
    have I3 := I2.kept (h' := h') (t' := s1.toks) fun b o e => hx b o (Nat.ne_of_lt (Heap.lt_size e)) e
    refine wpAny_bind (inorder nd is.reverse ns.reverse vs.reverse _ σ _ _ (parB_rev hp) (fun n hn => hl n (List.mem_reverse.mp hn)) r1.reverse (by rw [List.length_reverse, List.length_reverse]; exact len) I3 ?_)
    intro s' I4
    exact wpAny_pure ⟨_, H1, I4, q1⟩
  · show us.length ≤ sizeLine
    have : us.length ≤ 3 := by omega
    exact Nat.le_trans this (by decide)

/-! ### statements -/
theorem sub_form {o i : Expr} {pos : Pos} {env : Env} (h : nSlice i = true) : ∀ v, assign (.Subscript o i pos) env v = (do
      let ov ← holding [v] (eval o env)
      let iv ← holding [v, ov] (eval i env)
      standAt pos
      holding [v, ov, iv] (setItem ov iv v)
      release [v, ov, iv] []) := by
  intro v
  cases i <;> first
    | rfl
    | exact absurd h Bool.false_ne_true
section
variable {X : Cx} {Z F0 : Hp}
/-- a store into a list or a dict -/
def rSetD : TSet := fun o i v H Q => ∃ p y, o = .ref p ∧ ∃ H', DPut H p i v H' ∧ y = i ∧ Q H'
theorem set_dict (hu : X.A.units + 1 < cLine) : PSet X rSetD := by
  intro pins s σ H o i v ov iv u Q I ro ri rv h
  obtain ⟨p, y, rfl, H', g, _, q⟩ := h
  cases ro
  exact d_setItem hu I g ri rv fun s' I' => ⟨H', I', q⟩
theorem set_or {t t' : TSet} (h : PSet X t) (h' : PSet X t') : PSet X (fun o i v H Q => t o i v H Q ∨ t' o i v H Q) := by
  intro pins s σ H o i v ov iv u Q I ro ri rv q
  rcases q with q | q
  · exact h pins s σ H o i v ov iv u Q I ro ri rv q
  · exact h' pins s σ H o i v ov iv u Q I ro ri rv q
theorem setL {K : FK} {F : Hp} {S : Sto} {H : Hp} {x y z : D} {o i v : V} {P : Sto → Prop} {Q : Hp → Prop} (R : RelH K Z F S H) (rx : Rep K F x o) (ry : Rep K F y i) (rz : Rep K F z v) (w : setD x y z S P)
    (c : ∀ S' H', RelH K Z F S' H' → P S' → Q H') : rSetL o i v H Q ∨ rSetD o i v H Q := by
  cases x with
  | ref p =>
    have w : setC p (S p) y z S P := w
    cases rx
    cases e : S p with
    | none => rw [e] at w; exact absurd w id
    | some ce =>
      rw [e] at w
      obtain ⟨_, ho, hp, cr⟩ := R.st p _ e
      cases ce with
      | lst ds =>
        obtain ⟨k, j, rfl, hj, w⟩ := w
        obtain ⟨vs, rfl, r⟩ := cr.lst
        cases ry
        have rn : RepL K F (ds.set j z) (vs.set j v) := r.set rz j
        exact .inl ⟨p, vs, k, j, rfl, rfl, hp, by rw [← r.length]; exact hj, c _ _ (R.write (c' := .lst (ds.set j z)) e rn) w⟩
      | dct ds =>
        obtain ⟨k, hk, hl, w⟩ := w
        obtain ⟨vs, rfl, r⟩ := cr.dct
        obtain rfl := key_of ry hk
        have rn : RepK K F (putD ds k z) (L2.putK vs k v) := RepK.put r rz
        exact .inr ⟨p, _, rfl, _, DPut.k hp (by rw [← r.length]; exact hl), rfl, c _ _ (R.write (c' := .dct (putD ds k z)) e rn) w⟩
  | _ => exact absurd w id
theorem par_rel {K : FK} {F : Hp} : ∀ (is : List Nat) (ds : List D) (vs : List V) (δ : Dts) (σ : VS), RelS K F δ σ → RepL K F ds vs → RelS K F (parD is ds δ) (parV is vs σ)
  | [], _, _, _, _, h, .nil => h
  | [], _, _, _, _, h, .cons _ _ => h
  | _ :: _, _, _, _, _, h, .nil => h
  | i :: is, _, _, _, _, h, .cons r t => par_rel is _ _ _ _ (h.set r i) t
theorem par_rev {is : List Nat} {ds : List D} {δ : Dts} (nd : is.Nodup) (h1 : ds.length = is.length) (h2 : is.length = 2 ∨ is.length = 3) : parD is.reverse ds.reverse δ = parD is ds δ := by
  rcases h2 with h2 | h2
  · match is, ds, h1, h2 with
    | [i, j], [a, b], _, _ =>
      have ne : i ≠ j := fun e => by simp [e] at nd
      show ((δ.set j (some b)).set i (some a)) = ((δ.set i (some a)).set j (some b))
      exact List.set_comm _ _ (Ne.symm ne)
  · match is, ds, h1, h2 with
    | [i, j, l], [a, b, c], _, _ =>
      simp only [List.nodup_cons, List.mem_cons, List.mem_singleton, not_or, List.not_mem_nil, not_false_eq_true, and_true] at nd
      obtain ⟨⟨n1, n2⟩, n3, _⟩ := nd
      show (((δ.set l (some c)).set j (some b)).set i (some a)) = (((δ.set i (some a)).set j (some b)).set l (some c))
      rw [List.set_comm (some c) (some b) (Ne.symm n3), List.set_comm (some c) (some a) (Ne.symm n2), List.set_comm (some b) (some a) (Ne.symm n1)]
end

theorem Cs.nx_of {K : FK} {Z F : Hp} {P : Dts → Sto → Prop} {Q : VS → Hp → Prop} (c : Cs K Z F P Q) {S : Sto} {H : Hp} {δ : Dts} {σ : VS} (rs : RelS K F δ σ) (R : RelH K Z F S H) (p : P δ S) : Q σ H := c F H S δ σ (Same.refl F) rs R p

theorem par_inv {N : List Str} {sc : Scope} {is : List Nat} {es : Es} {tgs : List Expr} {q : Expr} {pos : Pos} (h : chkS N sc (.par is es) (.Assign tgs q pos) = true) : ∃ ts k1 q1 ps k2 q2, tgs = [.Tuple ts k1 q1] ∧ q = .Tuple ps k2 q2 := by
  cases tgs with
  | nil => exact absurd h Bool.false_ne_true
  | cons t0 r =>
    cases t0 with
    | Tuple ts k1 q1 =>
      cases r with
      | nil =>
        cases q with
        | Tuple ps k2 q2 => exact ⟨_, _, _, _, _, _, rfl, rfl⟩
        | _ => exact absurd h Bool.false_ne_true
      | cons _ _ => exact absurd h Bool.false_ne_true
    | _ => exact absurd h Bool.false_ne_true
theorem asgB_inv {N : List Str} {sc : Scope} {i : Nat} {m : Bool} {elt : E} {tg : G} {it : It'} {ifs : Es} {tgs : List Expr} {q : Expr} {pos : Pos} (h : asgB N sc i (.lc m elt tg it ifs) (.Assign tgs q pos) = true) :
    ∃ x px pe ptg piter pifs asy scope cpos, tgs = [.Name x px] ∧ q = .ListComp pe [⟨ptg, piter, pifs, asy⟩] scope cpos := by
  cases tgs with
  | nil => exact absurd h Bool.false_ne_true
  | cons t0 r =>
    cases t0 with
    | Name x px =>
      cases r with
      | nil =>
        cases q with
        | ListComp pe gens scope cpos =>
          cases gens with
          | nil => exact absurd h Bool.false_ne_true
          | cons c r =>
            cases r with
            | nil =>
              obtain ⟨c1, c2, c3, c4⟩ := c
              exact ⟨_, _, _, _, _, _, _, _, _, rfl, rfl⟩
            | cons _ _ => exact absurd h Bool.false_ne_true
        | _ => exact absurd h Bool.false_ne_true
      | cons _ _ => exact absurd h Bool.false_ne_true
    | _ => exact absurd h Bool.false_ne_true
theorem setI_inv {N : List Str} {sc : Scope} {a i e : E} {tgs : List Expr} {q : Expr} {pos : Pos} (h : chkS N sc (.setI a i e) (.Assign tgs q pos) = true) : ∃ pa pi ps, tgs = [.Subscript pa pi ps] := by
  cases tgs with
  | nil => exact absurd h Bool.false_ne_true
  | cons t0 r =>
    cases t0 with
    | Subscript pa pi ps =>
      cases r with
      | nil => exact ⟨_, _, _, rfl⟩
      | cons _ _ => exact absurd h Bool.false_ne_true
    | _ => exact absurd h Bool.false_ne_true
mutual
theorem sS {X : Cx} {k : Nat} {Z F0 : Hp} {xq : XP} (g : Gd X k Z F0 xq false) (hk : X.env.scope.kind = .function) : ∀ (e : Sm) (p : Stmt), chkS X.N X.env.scope e p = true → (∀ n ∈ nS e, n.ok (txOf X) k) → PS X p (LS X.K Z F0 (wS xq e))
  | .asg t e, p, h, n => by
    cases p with
    | Assign ts q pos =>
      match ts, h with
      | [tg], h =>
        obtain ⟨h1, h⟩ := and_t h
        obtain ⟨h2, h⟩ := and_t h
        obtain ⟨h3, h⟩ := and_t h
        obtain ⟨h4, h5⟩ := and_t h
        refine PS_imp (ps_asg (sE g e q h5 n).1 (g_ok g t tg h2) (show swapsWithSole [tg] q pos.line X.env = pure false from sw_ok2 h3) (noSwap_ok h4) (each_ok h1)) ?_
        rintro E σ H ⟨F, δ, S, P, sf, rs, rh, w, cn, cr, cb, cc⟩
        refine ⟨F, δ, S, _, sf, rs, rh, w, ?_⟩
        intro F1 H1 S1 d v s1 R1 r1 w1
        refine gR_of R1 t d v _ _ _ r1 (rs.mono s1) w1 ?_
        intro δ' σ' rs' _ _ q
        exact cn F1 H1 S1 δ' σ' s1 rs' R1 q
    | _ => exact absurd h Bool.false_ne_true
  | .par is es, p, h, n => by
    cases p with
    | Assign tgs q pos =>
      obtain ⟨ts, k1, q1, ps, k2, q2, rfl, rfl⟩ := par_inv h
      obtain ⟨h1, h⟩ := and_t h
      obtain ⟨h2, h⟩ := and_t h
      obtain ⟨h3, h⟩ := and_t h
      obtain ⟨h4, h⟩ := and_t h
      obtain ⟨h5, h⟩ := and_t h
      obtain ⟨h6, h⟩ := and_t h
      obtain ⟨h7, h⟩ := and_t h
      obtain ⟨h8, h9⟩ := and_t h
      have qs := sEs g es ps h9 n
      have len := parB_len h3
      have e4 := eq_of_beq h4
      have two : is.length = 2 ∨ is.length = 3 := by
        rw [len, e4]
        rcases or_t' h1 with z | z
        · exact .inl (eq_of_beq z)
        · exact .inr (eq_of_beq z)
      refine PS_imp (ps_parG g.calm g.nd qs.all h3 (swNames_loc _ _ ts) (swap_ok hk h1 h2 qs.st h4 h6 (not_t' h7) (not_t' h8)) (by omega)) ?_
      rintro E σ H ⟨F, δ, S, P, sf, rs, rh, w, cn, cr, cb, cc⟩
      refine ⟨F, δ, S, _, sf, rs, rh, w, ?_⟩
      rintro F1 H1 S1 ds vs s1 R1 r1 ⟨hl, w1⟩
      refine ⟨by rw [← r1.length]; exact hl, ?_⟩
      refine cn F1 H1 S1 _ _ s1 (par_rel is.reverse _ _ _ _ (rs.mono s1) r1.rev) R1 ?_
      rw [par_rev (of_decide_eq_true h5) hl two]
      exact w1
    | _ => exact absurd h Bool.false_ne_true
  | .asgL i e, p, h, n => by
    replace h : asgB X.N X.env.scope i e p = true := h
    match e, h with
    | .lc m elt tg it ifs, h =>
    cases p with
    | Assign tgs q pos =>
      obtain ⟨x, px, pe, ptg, piter, pifs, asy, scope, cpos, rfl, rfl⟩ := asgB_inv h
      obtain ⟨i1, h⟩ := and_t h
      obtain ⟨i2, h⟩ := and_t h
      obtain ⟨i3, h⟩ := and_t h
      obtain ⟨i4, h⟩ := and_t h
      obtain ⟨h1, h⟩ := and_t h
      obtain ⟨h2, h⟩ := and_t h
      obtain ⟨h3, h⟩ := and_t h
      obtain ⟨h4, h⟩ := and_t h
      obtain ⟨h5, h⟩ := and_t h
      obtain ⟨h6, h⟩ := and_t h
      obtain ⟨h7, h8⟩ := and_t h
      have e1 : asy = 0 := of_decide_eq_true h1
      subst e1
      have ok := blkOk_by h3
      have B : ∀ (Z' F' : Hp) (s : Shared) (H : Hp) (C : Addr) (cl : List (Str × Addr)) (fp : List Addr), Gd (X.blk s H scope (compEnvC scope cl C X.env) fp) k Z' F' (fun _ _ _ => False) true := fun Z' F' s H C cl fp => g.blk Z' F' s H scope C cl fp
      have it_ := sI g it ptg piter h2 (all_l (all_r n))
      have hg : ∀ (s : Shared) (H : Hp) (C : Addr) (cl : List (Str × Addr)) (fp : List Addr), PG (X.blk s H scope (compEnvC scope cl C X.env) fp) ptg (gR X.K tg) := fun s H C cl fp => g_ok (B Z F0 s H C cl fp) tg ptg h5
      have he : ∀ (s : Shared) (H : Hp) (C : Addr) (cl : List (Str × Addr)) (fp : List Addr), PE (X.blk s H scope (compEnvC scope cl C X.env) fp) pe (fun σ H Q => ∃ Z F0, LE X.K Z F0 (w (fun _ _ _ => False) elt).e σ H Q) := by
        intro s H C cl fp
        refine ⟨fun pins s1 σ H1 Q I q => ?_⟩
        obtain ⟨Z', F', q⟩ := q
        exact (sE (B Z' F' s H C cl fp) elt pe h6 (all_l n)).1.run pins s1 σ H1 Q I q
      have ht : ∀ (s : Shared) (H : Hp) (C : Addr) (cl : List (Str × Addr)) (fp : List Addr), PTs (X.blk s H scope (compEnvC scope cl C X.env) fp) pifs (fun σ H Q => ∃ Z F0, LT X.K Z F0 (ws (fun _ _ _ => False) ifs).ifs σ H Q) := by
        intro s H C cl fp
        refine ⟨fun pins s1 σ H1 Q I q => ?_⟩
        obtain ⟨Z', F', q⟩ := q
        exact ((sEs (B Z' F' s H C cl fp) ifs pifs h8 (all_r (all_r n))).ifs (of_decide_eq_true h7)).run pins s1 σ H1 Q I q
      have sw := sw_true (elt := pe) (gs := [⟨ptg, piter, pifs, 0⟩]) (pos := cpos) (l := pos.line) hk (isLoc_ok i2) i3 (not_t' i4)
      refine PS_imp (ps_setLc g.calm g.nd (in_ok i1) (isLoc_ok i2) sw it_ ok hg ht he (fold_ok h4)) ?_
      rintro E σ H ⟨F, δ, S, P, sf, rs, rh, w, cn, cr, cb, cc⟩
      refine lc_lift (Z := Z) (F0 := F0) (own_snd _ _) (fun Z F0 σ H Q z => ⟨Z, F0, z⟩) (fun Z F0 σ H Q z => ⟨Z, F0, z⟩) ⟨F, δ, S, _, sf, rs, rh, w, ?_⟩
      intro F1 H1 S1 d v s1 R1 r1 w1
      exact cn F1 H1 S1 _ _ s1 ((rs.mono s1).set r1 i) R1 w1
    | _ => exact absurd h Bool.false_ne_true
  | .setI a i e, p, h, n => by
    cases p with
    | Assign ts q pos =>
      obtain ⟨pa, pi, ps, rfl⟩ := setI_inv h
      obtain ⟨h0, h⟩ := and_t h
      obtain ⟨h1, h⟩ := and_t h
      obtain ⟨h2, h⟩ := and_t h
      obtain ⟨h3, h4⟩ := and_t h
      have hu := g.un
      refine PS_imp (ps_asg (sE g e q h4 (all_r (all_r n))).1 (pg_sub (sE g a pa h2 (all_l n)).1 (sE g i pi h3 (all_l (all_r n))).1 (set_or set_list (set_dict (by omega))) (sub_form h0)) (sw_ok (t := some (.Subscript pa pi ps)) (l := pos.line) (env := X.env) h1) (noSwap_other (.inr ⟨rfl, nofun⟩)) rfl) ?_
      rintro E σ H ⟨F, δ, S, P, sf, rs, rh, w, cn, cr, cb, cc⟩
      refine ⟨F, δ, S, _, sf, rs, rh, w, ?_⟩
      intro F1 H1 S1 z zv s1 R1 rz w1
      refine ⟨F1, δ, S1, _, sf.trans s1, rs.mono s1, R1, w1, ?_⟩
      intro F2 H2 S2 x xv s2 R2 rx w2
      refine ⟨F2, δ, S2, _, sf.trans (s1.trans s2), rs.mono (s1.trans s2), R2, w2, ?_⟩
      intro F3 H3 S3 y yv s3 R3 ry w3
      refine setL R3 (rx.mono s3) ry (rz.mono (s2.trans s3)) w3 ?_
      intro S4 H4 R4 p4
      exact cn F3 H4 S4 _ _ (s1.trans (s2.trans s3)) (rs.mono (s1.trans (s2.trans s3))) R4 p4
    | _ => exact absurd h Bool.false_ne_true
  | .ex e, p, h, n => by
    cases p with
    | Expr q pos =>
      obtain ⟨h1, h2⟩ := and_t h
      refine PS_imp (ps_expr (sE g e _ h2 n).1 (sw_ok h1)) ?_
      rintro E σ H ⟨F, δ, S, P, sf, rs, rh, w, cn, cr, cb, cc⟩
      refine ⟨F, δ, S, _, sf, rs, rh, w, ?_⟩
      intro F1 H1 S1 d v s1 R1 r1 w1
      exact cn F1 H1 S1 _ _ s1 (rs.mono s1) R1 w1
    | _ => exact absurd h Bool.false_ne_true
  | .ite t a b, p, h, n => by
    cases p with
    | If pt pa pb pos =>
      obtain ⟨h1, h⟩ := and_t h
      obtain ⟨h2, h3⟩ := and_t h
      refine PS_imp (ps_if (sE g t _ h1 (all_l n)).2 (sSs g hk a _ h2 (all_l (all_r n))) (sSs g hk b _ h3 (all_r (all_r n)))) ?_
      rintro E σ H ⟨F, δ, S, P, sf, rs, rh, w, cn, cr, cb, cc⟩
      refine ⟨F, δ, S, _, sf, rs, rh, w, ?_⟩
      intro F1 H1 S1 k s1 R1 w1
      cases k with
      | true =>
        rw [if_pos rfl] at w1 ⊢
        exact ⟨F1, δ, S1, P, sf.trans s1, rs.mono s1, R1, w1, cn.mono s1, cr.mono s1, cb.mono s1, cc.mono s1⟩
      | false =>
        rw [if_neg Bool.false_ne_true] at w1 ⊢
        exact ⟨F1, δ, S1, P, sf.trans s1, rs.mono s1, R1, w1, cn.mono s1, cr.mono s1, cb.mono s1, cc.mono s1⟩
    | _ => exact absurd h Bool.false_ne_true
  | .for_ t it b, p, h, n => by
    cases p with
    | For tg iter body els pos =>
      match els, h with
      | [], h =>
        obtain ⟨h0, h⟩ := and_t h
        obtain ⟨h1, h⟩ := and_t h
        obtain ⟨h2, h3⟩ := and_t h
        refine PS_imp (ps_for g.po g.calm (sI g it tg iter h2 (all_l n)) (g_ok g t tg h1) (sSs g hk b body h3 (all_r n)) (fold_ok h0)) ?_
        rintro E σ H ⟨F, δ, S, P, sf, rs, rh, w, cn, cr, cb, cc⟩
        refine ⟨F, δ, S, _, sf, rs, rh, w, ?_⟩
        intro F1 H1 S1 J ds src s1 R1 beh hs w1
        refine ⟨fun i m σ H => m = ds.length - i ∧ i ≤ ds.length ∧ ∃ F δ S, Same F1 F ∧ RelS X.K F δ σ ∧ RelH X.K Z F S H ∧ src S ∧ wFor t (wSs xq b) src P (ds.drop i) δ S,
          ⟨_, rfl, Nat.zero_le _, F1, δ, S1, Same.refl _, rs.mono s1, R1, hs, w1⟩, ?_⟩
        rintro i m σ2 H2 ⟨rfl, hi, F2, δ2, S2, s2, rs2, R2, hs2, w2⟩
        obtain ⟨b1, b2⟩ := beh i Z F2 H2 S2 s2 R2 hs2
        by_cases hlt : i < ds.length
        · right
          obtain ⟨d, hd⟩ : ∃ d, ds[i]? = some d := ⟨ds[i], List.getElem?_eq_getElem hlt⟩
          have ed : ds.drop i = d :: ds.drop (i + 1) := by
            rw [List.drop_eq_getElem_cons hlt]
            rw [List.getElem?_eq_getElem hlt] at hd
            cases hd; rfl
          rw [ed] at w2
          obtain ⟨go, yl⟩ := b1 d hd
          refine ⟨go, fun σ' H' => (i + 1 ≤ ds.length ∧ ∃ F δ S, Same F1 F ∧ RelS X.K F δ σ' ∧ RelH X.K Z F S H' ∧ src S ∧ wFor t (wSs xq b) src P (ds.drop (i + 1)) δ S),
            fun σ' H' h => ⟨ds.length - (i + 1), by omega, rfl, h⟩, ?_⟩
          intro x H' y
          obtain ⟨F3, s3, R3, rx⟩ := yl x H' y
          refine gR_of R3 t d x _ _ _ rx (rs2.mono s3) w2 ?_
          intro δ4 σ4 rs4 _ _ w4
          have s13 := s1.trans (s2.trans s3)
          refine ⟨F3, δ4, S2, _, sf.trans s13, rs4, R3, w4, ?_, cr.mono s13, cn.mono s13, ?_⟩
          · rintro F5 H5 S5 δ5 σ5 s5 rs5 R5 ⟨hs5, w5⟩
            exact ⟨by omega, F5, δ5, S5, s2.trans (s3.trans s5), rs5, R5, hs5, w5⟩
          · rintro F5 H5 S5 δ5 σ5 s5 rs5 R5 ⟨hs5, w5⟩
            exact ⟨by omega, F5, δ5, S5, s2.trans (s3.trans s5), rs5, R5, hs5, w5⟩
        · left
          have e : i = ds.length := by omega
          subst e
          refine ⟨b2 (Nat.le_refl _), ?_⟩
          rw [List.drop_length] at w2
          exact cn F2 H2 S2 δ2 σ2 (s1.trans s2) rs2 R2 w2
    | _ => exact absurd h Bool.false_ne_true
  | .wh t b, p, h, n => by
    cases p with
    | While tst body els pos =>
      match els, h with
      | [], h =>
        obtain ⟨h1, h2⟩ := and_t h
        refine PS_imp (ps_while g.po (sE g t tst h1 (all_l n)).2 (sSs g hk b body h2 (all_r n))) ?_
        rintro E σ H ⟨F, δ, S, P, sf, rs, rh, ⟨m0, w0⟩, cn, cr, cb, cc⟩
        refine ⟨fun m σ H => ∃ F1 δ S, Same F F1 ∧ RelS X.K F1 δ σ ∧ RelH X.K Z F1 S H ∧ wWh (w xq t).t (wSs xq b) P m δ S, ⟨m0, F, δ, S, Same.refl F, rs, rh, w0⟩, ?_⟩
        rintro m σ1 H1 ⟨F1, δ1, S1, s1, rs1, R1, w1⟩
        cases m with
        | zero => exact absurd w1 id
        | succ m =>
          refine ⟨F1, δ1, S1, _, sf.trans s1, rs1, R1, w1, ?_⟩
          intro F2 H2 S2 k s2 R2 w2
          cases k with
          | true =>
            rw [if_pos rfl] at w2 ⊢
            refine ⟨fun σ' H' => ∃ F3 δ S, Same F F3 ∧ RelS X.K F3 δ σ' ∧ RelH X.K Z F3 S H' ∧ wWh (w xq t).t (wSs xq b) P m δ S, fun σ' H' h => ⟨m, Nat.lt_succ_self m, h⟩, ?_⟩
            have s12 := s1.trans s2
            refine ⟨F2, δ1, S2, _, sf.trans s12, rs1.mono s2, R2, w2, ?_, cr.mono s12, cn.mono s12, ?_⟩
            · intro F3 H3 S3 δ3 σ3 s3 rs3 R3 w3
              exact ⟨F3, δ3, S3, s12.trans s3, rs3, R3, w3⟩
            · intro F3 H3 S3 δ3 σ3 s3 rs3 R3 w3
              exact ⟨F3, δ3, S3, s12.trans s3, rs3, R3, w3⟩
          | false =>
            rw [if_neg Bool.false_ne_true] at w2 ⊢
            exact cn F2 H2 S2 δ1 σ1 (s1.trans s2) (rs1.mono s2) R2 w2
    | _ => exact absurd h Bool.false_ne_true
  | .ret e, p, h, n => by
    cases p with
    | Return v pos =>
      cases v with
      | none => exact absurd h Bool.false_ne_true
      | some q =>
        refine PS_imp (ps_ret (sE g e q h n).1) ?_
        rintro E σ H ⟨F, δ, S, P, sf, rs, rh, w, cn, cr, cb, cc⟩
        refine ⟨F, δ, S, _, sf, rs, rh, w, ?_⟩
        intro F1 H1 S1 d v s1 R1 r1 w1
        exact cr F1 H1 S1 _ _ s1 R1 r1 w1
    | _ => exact absurd h Bool.false_ne_true
  | .retN, p, h, n => by
    cases p with
    | Return v pos =>
      cases v with
      | some _ => exact absurd h Bool.false_ne_true
      | none =>
        refine PS_imp ps_retN ?_
        rintro E σ H ⟨F, δ, S, P, sf, rs, rh, w, cn, cr, cb, cc⟩
        exact cr F H S _ _ (Same.refl F) rh .non w
    | _ => exact absurd h Bool.false_ne_true
  | .pass, p, h, n => by
    cases p with
    | Pass pos =>
      refine PS_imp ps_pass ?_
      rintro E σ H ⟨F, δ, S, P, sf, rs, rh, w, cn, cr, cb, cc⟩
      exact cn.nx_of rs rh w
    | _ => exact absurd h Bool.false_ne_true
  | .brk, p, h, n => by
    cases p with
    | Break pos =>
      refine PS_imp ps_break ?_
      rintro E σ H ⟨F, δ, S, P, sf, rs, rh, w, cn, cr, cb, cc⟩
      exact cb.nx_of rs rh w
    | _ => exact absurd h Bool.false_ne_true
  | .cont, p, h, n => by
    cases p with
    | Continue pos =>
      refine PS_imp ps_continue ?_
      rintro E σ H ⟨F, δ, S, P, sf, rs, rh, w, cn, cr, cb, cc⟩
      exact cc.nx_of rs rh w
    | _ => exact absurd h Bool.false_ne_true
  | .rz, p, h, n => by
    cases p with
    | Raise a b pos =>
      refine ⟨fun pins s σ H Q I q => ?_⟩
      obtain ⟨F, δ, S, P, sf, rs, rh, w, _⟩ := q
      exact absurd w id
    | _ => exact absurd h Bool.false_ne_true
theorem sSs {X : Cx} {k : Nat} {Z F0 : Hp} {xq : XP} (g : Gd X k Z F0 xq false) (hk : X.env.scope.kind = .function) : ∀ (e : Sms) (p : List Stmt), chkSs X.N X.env.scope e p = true → (∀ n ∈ nSs e, n.ok (txOf X) k) → PSs X p (LS X.K Z F0 (wSs xq e))
  | .nil, p, h, n => by
    cases p with
    | cons _ _ => exact absurd h Bool.false_ne_true
    | nil =>
      refine PSs_imp pss_nil ?_
      rintro E σ H ⟨F, δ, S, P, sf, rs, rh, w, cn, cr, cb, cc⟩
      exact cn.nx_of rs rh w
  | .cons s r, p, h, n => by
    cases p with
    | nil => exact absurd h Bool.false_ne_true
    | cons q qs =>
      obtain ⟨h1, h2⟩ := and_t h
      refine PSs_imp (pss_cons (sS g hk s q h1 (all_l n)) (sSs g hk r qs h2 (all_r n))) ?_
      rintro E σ H ⟨F, δ, S, P, sf, rs, rh, w, cn, cr, cb, cc⟩
      refine ⟨F, δ, S, _, sf, rs, rh, w, ?_, cr, cb, cc⟩
      intro F1 H1 S1 δ1 σ1 s1 rs1 R1 w1
      exact ⟨F1, δ1, S1, P, sf.trans s1, rs1, R1, w1, cn.mono s1, cr.mono s1, cb.mono s1, cc.mono s1⟩
end

/-! ### defs -/
def startD (n : Nat) (ds : List D) : Dts := ds.map some ++ List.replicate (n - ds.length) none
theorem start_rel {K : FK} {F : Hp} {N : List Str} {ds : List D} {vs : List V} (r : RepL K F ds vs) : RelS K F (startD N.length ds) (L2.start N vs) := by
  unfold startD L2.start
  refine ⟨by simp [r.length], fun i d e => ?_⟩
  by_cases hi : i < ds.length
  · rw [List.getElem?_append_left (by rw [List.length_map]; exact hi), List.getElem?_map] at e
    rw [List.getElem?_append_left (by rw [List.length_map, ← r.length]; exact hi), List.getElem?_map]
    cases q : ds[i]? with
    | none => rw [q] at e; cases e
    | some x =>
      rw [q] at e; cases e
      obtain ⟨v, hv, rv⟩ := r.get q
      exact ⟨v, by rw [hv]; rfl, rv⟩
  · rw [List.getElem?_append_right (by rw [List.length_map]; omega), List.getElem?_replicate] at e
    split at e <;> cases e
/-- THE RULE: a def keeps its promise, by its small body -/
theorem def_ok {P : Program} {w : World} {K : FK} {mg : MG} {base : Heap} {x qual : Str} {params : Arguments} {body : List Stmt} {scope : Scope} {f : Addr} {fd : FuncData} {N ps : List Str} {k : Nat} {sp : Spec} {b : Sms}
    (F : FunD K x qual params body scope [] [] f fd) (S : FnScope N ps scope) (ck : chkSs N scope b body = true) (nd : ∀ n ∈ nSs b, n.ok ⟨P, w, K, mg, base⟩ k)
    (hb : ∀ ds S Q U, sp ds S Q U → ds.length = ps.length ∧ wSs (fun x _ S => U x S) b ⟨fun _ S => Q .non S, Q, fun _ _ => False, fun _ _ => False⟩ (startD N.length ds) S) :
    FOk P w K mg base (k + 1) f fd ps (LSp K mg sp) := by
  refine def_by_body F S ?_ ?_
  · rintro vs H Q E ⟨Z, F, S, ds, P, U, rh, rl, s, _, _⟩
    rw [← rl.length]
    exact (hb ds S P U s).1
  · intro cdv A outer s H vs Q E hr hg h
    obtain ⟨Z, F0, S0, ds, P0, U, rh, rl, sp0, c, cx⟩ := h
    obtain ⟨_, w0⟩ := hb ds S0 P0 U sp0
    have g : Gd (cxOf (L2.CX P w) P w K mg base N qual scope f cdv A outer s H E) k Z F0 (fun x _ S => U x S) false := by
      refine ⟨S.nd, rfl, hr, hg, ?_, passes_of rfl, fun _ _ => rfl⟩
      refine Takes.imp (takes_of rfl rfl rfl rfl) ?_
      rintro cls d σ H1 ⟨F1, δ, S1, x, sf, rs, R1, xr, u⟩
      exact cx F1 H1 S1 x cls d sf R1 xr u
    refine ⟨_, sSs g S.kind b body ck nd, ?_⟩
    refine ⟨F0, startD N.length ds, S0, _, Same.refl F0, start_rel rl, rh, w0, ?_, c, ?_, ?_⟩
    · intro F1 H1 S1 δ σ s1 rs R1 q
      exact c F1 H1 S1 _ _ s1 R1 .non q
    · intro _ _ _ _ _ _ _ _ z
      exact z
    · intro _ _ _ _ _ _ _ _ z
      exact z
end GB

/-! GB15: the preconditions as equations, to be reckoned from without inwards. -/
namespace GB
open PySem PySem.Spec PyProof.Rows L2

/-- a slot is read -/
def gv : Dts → Nat → (D → Prop) → Prop
  | [], _, _ => False
  | o :: _, 0, P => (match o with
    | some d => P d
    | none => False)
  | _ :: δ, i + 1, P => gv δ i P
theorem gv_z {d : D} {δ : Dts} {P : D → Prop} : gv (some d :: δ) 0 P = P d := rfl
theorem gv_s {o : Option D} {δ : Dts} {i : Nat} {P : D → Prop} : gv (o :: δ) (i + 1) P = gv δ i P := rfl
theorem gv_eq : ∀ (δ : Dts) (i : Nat) (P : D → Prop), gv δ i P = ∃ d, δ[i]? = some (some d) ∧ P d
  | [], i, P => by
    refine propext ⟨fun h => absurd h id, ?_⟩
    rintro ⟨d, e, _⟩
    simp at e
  | some d :: δ, 0, P => by
    refine propext ⟨fun h => ⟨d, rfl, h⟩, ?_⟩
    rintro ⟨e, h1, h2⟩
    cases h1
    exact h2
  | none :: δ, 0, P => by
    refine propext ⟨fun h => absurd h id, ?_⟩
    rintro ⟨e, h1, h2⟩
    cases h1
  | _ :: δ, i + 1, P => (gv_eq δ i P).trans (by simp)
/-- a slot is written -/
def sv : Dts → Nat → D → Dts
  | [], _, _ => []
  | _ :: δ, 0, d => some d :: δ
  | o :: δ, i + 1, d => o :: sv δ i d
theorem sv_z {o : Option D} {δ : Dts} {d : D} : sv (o :: δ) 0 d = some d :: δ := rfl
theorem sv_s {o : Option D} {δ : Dts} {i : Nat} {d : D} : sv (o :: δ) (i + 1) d = o :: sv δ i d := rfl
theorem sv_eq : ∀ (δ : Dts) (i : Nat) (d : D), δ.set i (some d) = sv δ i d
  | [], _, _ => rfl
  | _ :: _, 0, _ => rfl
  | _ :: δ, i + 1, d => congrArg _ (sv_eq δ i d)
def wv : Dts → Nat → Dts
  | [], _ => []
  | _ :: δ, 0 => none :: δ
  | o :: δ, i + 1 => o :: wv δ i
theorem wv_z {o : Option D} {δ : Dts} : wv (o :: δ) 0 = none :: δ := rfl
theorem wv_s {o : Option D} {δ : Dts} {i : Nat} : wv (o :: δ) (i + 1) = o :: wv δ i := rfl
theorem wv_eq : ∀ (δ : Dts) (i : Nat), δ.set i none = wv δ i
  | [], _ => rfl
  | _ :: _, 0 => rfl
  | _ :: δ, i + 1 => congrArg _ (wv_eq δ i)

def oP {α : Type} (Q : α → Prop) : Option α → Prop
  | some d => Q d
  | none => False
theorem oP_eq {α : Type} {Q : α → Prop} {o : Option α} : (∃ d, o = some d ∧ Q d) = oP Q o := by
  refine propext ⟨?_, ?_⟩
  · rintro ⟨k, rfl, h⟩
    exact h
  · intro h
    cases o <;> first
      | exact ⟨_, rfl, h⟩
      | exact absurd h id
/-! what comes behind is kept out of sight till it is due -/
class KE where
  q : EQ
class KT where
  q : Bool → Sto → Prop
class KS where
  q : Dts → Sto → Prop
def iteE (k : Bool) (A B : EQ → Prop) [c : KE] : Prop := if k = true then A c.q else B c.q
def andE (k : Bool) (x : D) (S : Sto) (A : EQ → Prop) [c : KE] : Prop := if k = true then A c.q else c.q x S
def orE (k : Bool) (x : D) (S : Sto) (A : EQ → Prop) [c : KE] : Prop := if k = true then c.q x S else A c.q
def iteT (k : Bool) (A B : (Bool → Sto → Prop) → Prop) [c : KT] : Prop := if k = true then A c.q else B c.q
def andT (k : Bool) (S : Sto) (A : (Bool → Sto → Prop) → Prop) [c : KT] : Prop := if k = true then A c.q else c.q false S
def orT (k : Bool) (S : Sto) (A : (Bool → Sto → Prop) → Prop) [c : KT] : Prop := if k = true then c.q true S else A c.q
def iteS (k : Bool) (A B : (Dts → Sto → Prop) → Prop) [c : KS] : Prop := if k = true then A c.q else B c.q
def joinS (k : Bool) (f : Dts → Dts) (δ1 δ2 : Dts) (S : Sto) [c : KS] : Prop := if k = true then c.q (f δ1) S else c.q (f δ2) S
def ixS (o : Option D) (S : Sto) [c : KE] : Prop := oP (fun d => c.q d S) o
def callS (sp : Spec) (ds : List D) (S : Sto) (U : Ex → Sto → Prop) [c : KE] : Prop := sp ds S c.q U
def reprS (x : D) (S : Sto) [c : KE] : Prop := biO .repr false [x] S c.q
def mtS (f : MT) (x : D) (ds : List D) (S : Sto) [c : KE] : Prop := mtO f x ds S c.q
section
variable {k k2 : Bool} {x y : D} {S : Sto} {C : Prop} {A B : EQ → Prop} {Q : EQ} {A' B' : (Bool → Sto → Prop) → Prop} {T : Bool → Sto → Prop} {δ1 δ2 : Dts} {N : Dts → Sto → Prop} {A2 B2 : (Dts → Sto → Prop) → Prop} {f : Dts → Dts} {o : Option D}
theorem iteE_int {i j : Int} : @iteE k (fun P => P (.int i) S) (fun P => P (.int j) S) ⟨Q⟩ = Q (.int (if k = true then i else j)) S := by cases k <;> rfl
theorem iteE_bl {i j : Bool} : @iteE k (fun P => P (.bl i) S) (fun P => P (.bl j) S) ⟨Q⟩ = Q (.bl (if k = true then i else j)) S := by cases k <;> rfl
theorem iteE_str {i j : Str} : @iteE k (fun P => P (.str i) S) (fun P => P (.str j) S) ⟨Q⟩ = Q (.str (if k = true then i else j)) S := by cases k <;> rfl
theorem iteE_lst {i j : List D} : @iteE k (fun P => P (.lst i) S) (fun P => P (.lst j) S) ⟨Q⟩ = Q (.lst (if k = true then i else j)) S := by cases k <;> rfl
theorem iteE_same : @iteE k (fun P => P x S) (fun P => P x S) ⟨Q⟩ = Q x S := by cases k <;> rfl
theorem iteE_c1 : @iteE k (fun P => C ∧ A P) B ⟨Q⟩ = ((k = true → C) ∧ @iteE k A B ⟨Q⟩) := by cases k <;> simp [iteE]
theorem iteE_c2 : @iteE k A (fun P => C ∧ B P) ⟨Q⟩ = ((k = false → C) ∧ @iteE k A B ⟨Q⟩) := by cases k <;> simp [iteE]
theorem iteE_1 : @iteE true A B ⟨Q⟩ = A Q := rfl
theorem iteE_0 : @iteE false A B ⟨Q⟩ = B Q := rfl
theorem iteT_1 : @iteT true A' B' ⟨T⟩ = A' T := rfl
theorem iteT_0 : @iteT false A' B' ⟨T⟩ = B' T := rfl
theorem andT_1 : @andT true S A' ⟨T⟩ = A' T := rfl
theorem andT_0 : @andT false S A' ⟨T⟩ = T false S := rfl
theorem orT_1 : @orT true S A' ⟨T⟩ = T true S := rfl
theorem orT_0 : @orT false S A' ⟨T⟩ = A' T := rfl
theorem andE_1 : @andE true x S A ⟨Q⟩ = A Q := rfl
theorem andE_0 : @andE false x S A ⟨Q⟩ = Q x S := rfl
theorem orE_1 : @orE true x S A ⟨Q⟩ = Q x S := rfl
theorem orE_0 : @orE false x S A ⟨Q⟩ = A Q := rfl
theorem iteS_1 : @iteS true A2 B2 ⟨N⟩ = A2 N := rfl
theorem iteS_0 : @iteS false A2 B2 ⟨N⟩ = B2 N := rfl
theorem iteE_def : @iteE k A B ⟨Q⟩ = if k = true then A Q else B Q := rfl
theorem andE_bl : @andE k (.bl k) S (fun P => P (.bl k2) S) ⟨Q⟩ = Q (.bl (k && k2)) S := by cases k <;> rfl
theorem andE_c : @andE k x S (fun P => C ∧ A P) ⟨Q⟩ = ((k = true → C) ∧ @andE k x S A ⟨Q⟩) := by cases k <;> simp [andE]
theorem andE_def : @andE k x S A ⟨Q⟩ = if k = true then A Q else Q x S := rfl
theorem orE_bl : @orE k (.bl k) S (fun P => P (.bl k2) S) ⟨Q⟩ = Q (.bl (k || k2)) S := by cases k <;> rfl
theorem orE_c : @orE k x S (fun P => C ∧ A P) ⟨Q⟩ = ((k = false → C) ∧ @orE k x S A ⟨Q⟩) := by cases k <;> simp [orE]
theorem orE_def : @orE k x S A ⟨Q⟩ = if k = true then Q x S else A Q := rfl
theorem iteT_v {i j : Bool} : @iteT k (fun P => P i S) (fun P => P j S) ⟨T⟩ = T (if k = true then i else j) S := by cases k <;> rfl
theorem iteT_c1 : @iteT k (fun P => C ∧ A' P) B' ⟨T⟩ = ((k = true → C) ∧ @iteT k A' B' ⟨T⟩) := by cases k <;> simp [iteT]
theorem iteT_c2 : @iteT k A' (fun P => C ∧ B' P) ⟨T⟩ = ((k = false → C) ∧ @iteT k A' B' ⟨T⟩) := by cases k <;> simp [iteT]
theorem iteT_def : @iteT k A' B' ⟨T⟩ = if k = true then A' T else B' T := rfl
theorem andT_v : @andT k S (fun P => P k2 S) ⟨T⟩ = T (k && k2) S := by cases k <;> rfl
theorem andT_c : @andT k S (fun P => C ∧ A' P) ⟨T⟩ = ((k = true → C) ∧ @andT k S A' ⟨T⟩) := by cases k <;> simp [andT]
theorem andT_def : @andT k S A' ⟨T⟩ = if k = true then A' T else T false S := rfl
theorem orT_v : @orT k S (fun P => P k2 S) ⟨T⟩ = T (k || k2) S := by cases k <;> rfl
theorem orT_c : @orT k S (fun P => C ∧ A' P) ⟨T⟩ = ((k = false → C) ∧ @orT k S A' ⟨T⟩) := by cases k <;> simp [orT]
theorem orT_def : @orT k S A' ⟨T⟩ = if k = true then T true S else A' T := rfl
theorem iteS_v : @iteS k (fun P => P δ1 S) (fun P => P δ2 S) ⟨N⟩ = @joinS k (fun δ => δ) δ1 δ2 S ⟨N⟩ := by cases k <;> rfl
theorem iteS_c1 : @iteS k (fun P => C ∧ A2 P) B2 ⟨N⟩ = ((k = true → C) ∧ @iteS k A2 B2 ⟨N⟩) := by cases k <;> simp [iteS]
theorem iteS_c2 : @iteS k A2 (fun P => C ∧ B2 P) ⟨N⟩ = ((k = false → C) ∧ @iteS k A2 B2 ⟨N⟩) := by cases k <;> simp [iteS]
theorem iteS_r1 : @iteS k (fun _ => C) B2 ⟨N⟩ = if k = true then C else B2 N := by cases k <;> rfl
theorem iteS_r2 : @iteS k A2 (fun _ => C) ⟨N⟩ = if k = true then A2 N else C := by cases k <;> rfl
theorem iteS_def : @iteS k A2 B2 ⟨N⟩ = if k = true then A2 N else B2 N := rfl
theorem joinS_n : @joinS k f [] [] S ⟨N⟩ = N (f []) S := by cases k <;> rfl
theorem joinS_same : @joinS k f (o :: δ1) (o :: δ2) S ⟨N⟩ = @joinS k (fun δ => f (o :: δ)) δ1 δ2 S ⟨N⟩ := rfl
theorem joinS_int {i j : Int} : @joinS k f (some (.int i) :: δ1) (some (.int j) :: δ2) S ⟨N⟩ = @joinS k (fun δ => f (some (.int (if k = true then i else j)) :: δ)) δ1 δ2 S ⟨N⟩ := by cases k <;> rfl
theorem joinS_bl {i j : Bool} : @joinS k f (some (.bl i) :: δ1) (some (.bl j) :: δ2) S ⟨N⟩ = @joinS k (fun δ => f (some (.bl (if k = true then i else j)) :: δ)) δ1 δ2 S ⟨N⟩ := by cases k <;> rfl
theorem joinS_def : @joinS k f δ1 δ2 S ⟨N⟩ = if k = true then N (f δ1) S else N (f δ2) S := rfl
theorem ixS_s {d : D} : @ixS (some d) S ⟨Q⟩ = Q d S := rfl
theorem ixS_ok {d : D} (e : o = some d) (h : Q d S) : @ixS o S ⟨Q⟩ := by
  subst e
  exact h
end
section
variable {X : XP} {δ : Dts} {S : Sto} {P : EQ} {T : Bool → Sto → Prop}
theorem e_v {i : Nat} : (w X (.v i)).e δ S P = gv δ i fun d => P d S := (gv_eq δ i _).symm
theorem e_N : (w X .cN).e δ S P = P .non S := rfl
theorem e_B {b : Bool} : (w X (.cB b)).e δ S P = P (.bl b) S := rfl
theorem e_I {i : Int} : (w X (.cI i)).e δ S P = P (.int i) S := rfl
theorem e_S {x : Str} : (w X (.cS x)).e δ S P = P (.str x) S := rfl
theorem e_gl {x : Str} {d : D} : (w X (.gl x d)).e δ S P = P d S := rfl
theorem e_add {m : Bool} {a b : E} : (w X (.bin .add m a b)).e δ S P = (w X a).e δ S fun x S1 => (w X b).e δ S1 fun y S2 => addD m x y S2 P := rfl
theorem e_sub {m : Bool} {a b : E} : (w X (.bin .sub m a b)).e δ S P = (w X a).e δ S fun x S1 => (w X b).e δ S1 fun y S2 => subD x y S2 P := rfl
theorem e_mul {m : Bool} {a b : E} : (w X (.bin .mul m a b)).e δ S P = (w X a).e δ S fun x S1 => (w X b).e δ S1 fun y S2 => mulD m x y S2 P := rfl
theorem e_fdiv {m : Bool} {a b : E} : (w X (.bin .fdiv m a b)).e δ S P = (w X a).e δ S fun x S1 => (w X b).e δ S1 fun y S2 => fdivD x y S2 P := rfl
theorem e_mod {m : Bool} {a b : E} : (w X (.bin .mod m a b)).e δ S P = (w X a).e δ S fun x S1 => (w X b).e δ S1 fun y S2 => modD x y S2 P := rfl
theorem e_pow {m : Bool} {a b : E} : (w X (.bin .pow m a b)).e δ S P = (w X a).e δ S fun x S1 => (w X b).e δ S1 fun y S2 => powD x y S2 P := rfl
theorem e_neg {a : E} : (w X (.neg a)).e δ S P = (w X a).e δ S fun x S1 => negD x S1 P := rfl
theorem e_cmp {o : COp} {a b : E} : (w X (.cmp o a b)).e δ S P = (w X a).e δ S fun x S1 => (w X b).e δ S1 fun y S2 => cmpD o x y S2 P := rfl
/-- a comparison's bool -/
def bP (T : Bool → Sto → Prop) : EQ := fun x S => match x with
  | .bl k => T k S
  | _ => False
theorem bP_eq : isCmpTrue T = bP T := by
  funext x S
  refine propext ⟨?_, ?_⟩
  · rintro ⟨k, rfl, h⟩
    exact h
  · intro h
    cases x <;> first
      | exact ⟨_, rfl, h⟩
      | exact absurd h id
theorem bP_b {k : Bool} : bP T (.bl k) S = T k S := rfl
theorem t_cmp {o : COp} {a b : E} : (w X (.cmp o a b)).t δ S T = (w X a).e δ S fun x S1 => (w X b).e δ S1 fun y S2 => cmpD o x y S2 (bP T) := by
  rw [← bP_eq]; rfl
theorem e_cmp2 {o o2 : COp} {a b c : E} : (w X (.cmp2 o o2 a b c)).e δ S P = (w X a).e δ S fun x S1 => (w X b).e δ S1 fun y S2 => cmpD o x y S2 (bP fun k S3 => @andE k (.bl false) S3 (fun P => (w X c).e δ S3 fun z S4 => cmpD o2 y z S4 P) ⟨P⟩) := by
  have : (w X (.cmp2 o o2 a b c)).e δ S P = (w X a).e δ S fun x S1 => (w X b).e δ S1 fun y S2 => cmpD o x y S2 (isCmpTrue fun k S3 => if k = true then (w X c).e δ S3 fun z S4 => cmpD o2 y z S4 P else P (.bl false) S3) := rfl
  rw [this]
  simp only [bP_eq]
  rfl
theorem t_cmp2 {o o2 : COp} {a b c : E} : (w X (.cmp2 o o2 a b c)).t δ S T = (w X a).e δ S fun x S1 => (w X b).e δ S1 fun y S2 => cmpD o x y S2 (bP fun k S3 => @andT k S3 (fun T => (w X c).e δ S3 fun z S4 => cmpD o2 y z S4 (bP T)) ⟨T⟩) := by
  have h := @e_cmp2 X δ S (bP T) o o2 a b c
  have h2 : (w X (.cmp2 o o2 a b c)).t δ S T = (w X (.cmp2 o o2 a b c)).e δ S (bP T) := by
    rw [← bP_eq]; rfl
  exact h2.trans h
theorem e_and1 {a : E} : (w X (.and_ (.cons a .nil))).e δ S P = (w X a).e δ S P := rfl
theorem e_and2 {a b : E} {r : Es} : (w X (.and_ (.cons a (.cons b r)))).e δ S P = (w X a).e δ S fun x S1 => truD x S1 fun k S2 => @andE k x S2 (fun P => (w X (.and_ (.cons b r))).e δ S2 P) ⟨P⟩ := rfl
theorem t_and1 {a : E} : (w X (.and_ (.cons a .nil))).t δ S T = (w X a).t δ S T := rfl
theorem t_and2 {a b : E} {r : Es} : (w X (.and_ (.cons a (.cons b r)))).t δ S T = (w X a).t δ S fun k S1 => @andT k S1 (fun T => (w X (.and_ (.cons b r))).t δ S1 T) ⟨T⟩ := rfl
theorem e_or1 {a : E} : (w X (.or_ (.cons a .nil))).e δ S P = (w X a).e δ S P := rfl
theorem e_or2 {a b : E} {r : Es} : (w X (.or_ (.cons a (.cons b r)))).e δ S P = (w X a).e δ S fun x S1 => truD x S1 fun k S2 => @orE k x S2 (fun P => (w X (.or_ (.cons b r))).e δ S2 P) ⟨P⟩ := rfl
theorem t_or1 {a : E} : (w X (.or_ (.cons a .nil))).t δ S T = (w X a).t δ S T := rfl
theorem t_or2 {a b : E} {r : Es} : (w X (.or_ (.cons a (.cons b r)))).t δ S T = (w X a).t δ S fun k S1 => @orT k S1 (fun T => (w X (.or_ (.cons b r))).t δ S1 T) ⟨T⟩ := rfl
theorem e_not {a : E} : (w X (.not_ a)).e δ S P = (w X a).e δ S fun x S1 => truD x S1 fun b S2 => P (.bl (!b)) S2 := rfl
theorem t_not {a : E} : (w X (.not_ a)).t δ S T = (w X a).t δ S fun b S1 => T (!b) S1 := rfl
theorem e_ite {t a b : E} : (w X (.ite t a b)).e δ S P = (w X t).t δ S fun k S1 => @iteE k (fun P => (w X a).e δ S1 P) (fun P => (w X b).e δ S1 P) ⟨P⟩ := rfl
theorem t_ite {t a b : E} : (w X (.ite t a b)).t δ S T = (w X t).t δ S fun k S1 => @iteT k (fun T => (w X a).t δ S1 T) (fun T => (w X b).t δ S1 T) ⟨T⟩ := rfl
theorem e_tup {es : Es} : (w X (.tup es)).e δ S P = (ws X es).all δ S fun ds S1 => ds.length ≤ sizeLine ∧ P (.tup ds) S1 := rfl
theorem e_lst {m : Bool} {es : Es} : (w X (.lst m es)).e δ S P = (ws X es).all δ S fun ds S1 => ds.length ≤ sizeLine ∧ nwL m ds S1 P := rfl
theorem e_dct {m : Bool} {es : Es} : (w X (.dct m es)).e δ S P = (ws X es).all δ S fun ds S1 => ∃ kvs, kvL ds = some kvs ∧ nwD m (mergeD [] kvs) S1 P := rfl
theorem e_ix {a i : E} : (w X (.ix a i)).e δ S P = (w X a).e δ S fun x S1 => (w X i).e δ S1 fun y S2 => ixD x y S2 P := rfl
theorem e_sl {m : Bool} {a : E} {lo hi : Eo} : (w X (.sl m a lo hi)).e δ S P = (w X a).e δ S fun x S1 => wo X lo δ S1 fun l S2 => wo X hi δ S2 fun h S3 => slD m x l h S3 P := rfl
theorem e_slr {m : Bool} {a : E} : (w X (.slr m a)).e δ S P = (w X a).e δ S fun x S1 => slrD m x S1 P := rfl
theorem e_call {x : Str} {sp : Spec} {es : Es} : (w X (.call x sp es)).e δ S P = (ws X es).all δ S fun ds S1 => @callS sp ds S1 (fun x S2 => X x δ S2) ⟨P⟩ := rfl
theorem e_bi {b : BI} {m : Bool} {es : Es} : (w X (.bi b m es)).e δ S P = (ws X es).all δ S fun ds S1 => biO b m ds S1 P := rfl
theorem e_mt {f : MT} {a : E} {es : Es} : (w X (.mt f a es)).e δ S P = (w X a).e δ S fun x S1 => mtT x S1 ∧ (ws X es).all δ S1 fun ds S2 => @mtS f x ds S2 ⟨P⟩ := rfl
theorem e_lc {m : Bool} {elt : E} {tg : G} {it : It'} {ifs : Es} : (w X (.lc m elt tg it ifs)).e δ S P = wi X it δ S fun ds src S1 => wLc m tg (ws (fun _ _ _ => False) ifs).ifs (w (fun _ _ _ => False) elt).e src (wipeD δ (gSl tg)) P ds [] S1 := rfl
theorem e_frz {a : E} : (w X (.frz a)).e δ S P = (w X a).e δ S fun x S1 => frzD x S1 P := rfl
theorem t_frz {a : E} : (w X (.frz a)).t δ S T = (w X a).t δ S T := rfl
/-! truth of the rest -/
theorem t_v {i : Nat} : (w X (.v i)).t δ S T = gv δ i fun d => truD d S T := by
  have : (w X (.v i)).t δ S T = (w X (.v i)).e δ S fun x S1 => truD x S1 T := rfl
  rw [this, e_v]
theorem t_B {b : Bool} : (w X (.cB b)).t δ S T = T b S := rfl
theorem t_N : (w X .cN).t δ S T = T false S := rfl
theorem t_I {i : Int} : (w X (.cI i)).t δ S T = T (i != 0) S := rfl
theorem t_ix {a i : E} : (w X (.ix a i)).t δ S T = (w X (.ix a i)).e δ S fun x S1 => truD x S1 T := rfl
theorem t_bin {o : BOp} {m : Bool} {a b : E} : (w X (.bin o m a b)).t δ S T = (w X (.bin o m a b)).e δ S fun x S1 => truD x S1 T := rfl
theorem t_call {x : Str} {sp : Spec} {es : Es} : (w X (.call x sp es)).t δ S T = (ws X es).all δ S fun ds S1 => @callS sp ds S1 (fun x S2 => X x δ S2) ⟨fun x S1 => truD x S1 T⟩ := rfl
theorem t_bi {b : BI} {m : Bool} {es : Es} : (w X (.bi b m es)).t δ S T = (ws X es).all δ S fun ds S1 => biO b m ds S1 fun x S1 => truD x S1 T := rfl
theorem t_sl {m : Bool} {a : E} {lo hi : Eo} : (w X (.sl m a lo hi)).t δ S T = (w X (.sl m a lo hi)).e δ S fun x S1 => truD x S1 T := rfl
theorem t_lc {m : Bool} {elt : E} {tg : G} {it : It'} {ifs : Es} : (w X (.lc m elt tg it ifs)).t δ S T = (w X (.lc m elt tg it ifs)).e δ S fun x S1 => truD x S1 T := rfl
/-! lists of expressions -/
theorem a_n {Q : List D → Sto → Prop} : (ws X .nil).all δ S Q = Q [] S := rfl
theorem a_c {a : E} {r : Es} {Q : List D → Sto → Prop} : (ws X (.cons a r)).all δ S Q = (w X a).e δ S fun x S1 => (ws X r).all δ S1 fun xs S2 => Q (x :: xs) S2 := by
  cases r <;> rfl
theorem if_n : (ws X .nil).ifs δ S T = T true S := rfl
theorem if_1 {a : E} : (ws X (.cons a .nil)).ifs δ S T = (w X a).t δ S T := rfl
theorem o_n {Q : Option Int → Sto → Prop} : wo X .none δ S Q = Q none S := rfl
def iP (Q : Int → Prop) : D → Prop := fun x => match x with
  | .int i => Q i
  | _ => False
theorem iP_i {Q : Int → Prop} {i : Int} : iP Q (.int i) = Q i := rfl
theorem iP_eq {Q : Int → Prop} {x : D} : (∃ i, x = .int i ∧ Q i) = iP Q x := by
  refine propext ⟨?_, ?_⟩
  · rintro ⟨k, rfl, h⟩
    exact h
  · intro h
    cases x <;> first
      | exact ⟨_, rfl, h⟩
      | exact absurd h id
theorem o_s {e : E} {Q : Option Int → Sto → Prop} : wo X (.some e) δ S Q = (w X e).e δ S fun x S1 => iP (fun i => Q (some i) S1) x := by
  have : wo X (.some e) δ S Q = (w X e).e δ S fun x S1 => ∃ i, x = .int i ∧ Q (some i) S1 := rfl
  rw [this]
  congr 1
  funext x S1
  exact iP_eq
/-! iterables -/
theorem i_val {a : E} {Q : List D → (Sto → Prop) → Sto → Prop} : wi X (.val a) δ S Q = (w X a).e δ S fun x S1 => ItP x S1 Q := rfl
theorem i_r1 {a : E} {Q : List D → (Sto → Prop) → Sto → Prop} : wi X (.r1 a) δ S Q = (w X a).e δ S fun x S1 => iP (fun j => R62 j ∧ Q (rngD 0 j.toNat) (fun _ => True) S1) x := by
  have : wi X (.r1 a) δ S Q = (w X a).e δ S fun x S1 => ∃ j, x = .int j ∧ R62 j ∧ Q (rngD 0 j.toNat) (fun _ => True) S1 := rfl
  rw [this]
  congr 1
  funext x S1
  exact iP_eq
theorem i_r2 {a b : E} {Q : List D → (Sto → Prop) → Sto → Prop} : wi X (.r2 a b) δ S Q = (w X a).e δ S fun x S1 => (w X b).e δ S1 fun y S2 => iP (fun i => iP (fun j => (R62 i ∧ R62 j) ∧ Q (rngD i (j - i).toNat) (fun _ => True) S2) y) x := by
  have : wi X (.r2 a b) δ S Q = (w X a).e δ S fun x S1 => (w X b).e δ S1 fun y S2 => ∃ i j, x = .int i ∧ y = .int j ∧ (R62 i ∧ R62 j) ∧ Q (rngD i (j - i).toNat) (fun _ => True) S2 := rfl
  rw [this]
  congr 1
  funext x S1
  congr 1
  funext y S2
  rw [← iP_eq]
  refine propext ⟨?_, ?_⟩
  · rintro ⟨i, j, h1, rfl, h⟩
    exact ⟨i, h1, h⟩
  · rintro ⟨i, h1, h⟩
    rw [← iP_eq] at h
    obtain ⟨j, h2, h⟩ := h
    exact ⟨i, j, h1, h2, h⟩
theorem i_r3 {a b c : E} {Q : List D → (Sto → Prop) → Sto → Prop} : wi X (.r3 a b c) δ S Q = (w X a).e δ S fun x S1 => (w X b).e δ S1 fun y S2 => (w X c).e δ S2 fun z S3 => iP (fun i => iP (fun j => iP (fun k => k = -1 ∧ (R62 i ∧ R62 j) ∧ Q (dwnD i (i - j).toNat) (fun _ => True) S3) z) y) x := by
  have : wi X (.r3 a b c) δ S Q = (w X a).e δ S fun x S1 => (w X b).e δ S1 fun y S2 => (w X c).e δ S2 fun z S3 => ∃ i j, x = .int i ∧ y = .int j ∧ z = .int (-1) ∧ (R62 i ∧ R62 j) ∧ Q (dwnD i (i - j).toNat) (fun _ => True) S3 := rfl
  rw [this]
  congr 1
  funext x S1
  congr 1
  funext y S2
  congr 1
  funext z S3
  refine propext ⟨?_, ?_⟩
  · rintro ⟨i, j, rfl, rfl, rfl, h⟩
    exact ⟨rfl, h⟩
  · intro h
    cases x with
    | int i =>
      cases y with
      | int j =>
        cases z with
        | int k =>
          obtain ⟨e, h⟩ := h
          exact ⟨i, j, rfl, rfl, congrArg D.int e, h⟩
        | _ => exact absurd h id
      | _ => exact absurd h id
    | _ => exact absurd h id
theorem i_enum {a : E} {Q : List D → (Sto → Prop) → Sto → Prop} : wi X (.enum a) δ S Q = (w X a).e δ S fun x S1 => ItL x S1 fun ds src S2 => Q (enuD 0 ds) src S2 := rfl
theorem i_zip {a b : E} {Q : List D → (Sto → Prop) → Sto → Prop} : wi X (.zip a b) δ S Q = (w X a).e δ S fun x S1 => (w X b).e δ S1 fun y S2 => zipP x y S2 Q := rfl
theorem i_rev {a : E} {Q : List D → (Sto → Prop) → Sto → Prop} : wi X (.rev a) δ S Q = (w X a).e δ S fun x S1 => ItQ x S1 fun ds src S2 => Q ds.reverse src S2 := rfl
/-! operators of known kinds -/
theorem add_i {m : Bool} {i j : Int} : addD m (.int i) (.int j) S P = P (.int (i + j)) S := rfl
theorem add_s {m : Bool} {i j : Str} : addD m (.str i) (.str j) S P = (i.length + j.length ≤ sizeLine ∧ P (.str (i ++ j)) S) := rfl
theorem add_t {m : Bool} {i j : List D} : addD m (.tup i) (.tup j) S P = (i.length + j.length ≤ sizeLine ∧ P (.tup (i ++ j)) S) := rfl
theorem sub_i {i j : Int} : subD (.int i) (.int j) S P = P (.int (i - j)) S := rfl
theorem mul_i {m : Bool} {i j : Int} : mulD m (.int i) (.int j) S P = (CMulW i j ∧ P (.int (i * j)) S) := rfl
theorem fdiv_i {i j : Int} : fdivD (.int i) (.int j) S P = (CDvD j ∧ P (.int (i.fdiv j)) S) := rfl
theorem mod_i {i j : Int} : modD (.int i) (.int j) S P = (j ≠ 0 ∧ P (.int (i.fmod j)) S) := rfl
theorem pow_i {i j : Int} : powD (.int i) (.int j) S P = (CPwD i j ∧ P (.int (i ^ j.toNat)) S) := rfl
theorem neg_i {i : Int} : negD (.int i) S P = P (.int (-i)) S := rfl
theorem eq_i {i j : Int} : cmpD .eq (.int i) (.int j) S P = P (.bl (decide (i = j))) S := by
  show P (.bl (xor false _)) S = _
  rw [Bool.false_xor]
theorem eq_s {i j : Str} : cmpD .eq (.str i) (.str j) S P = P (.bl (decide (i = j))) S := by
  show P (.bl (xor false _)) S = _
  rw [Bool.false_xor]
theorem eq_b {i j : Bool} : cmpD .eq (.bl i) (.bl j) S P = P (.bl (decide (i = j))) S := by
  show P (.bl (xor false _)) S = _
  rw [Bool.false_xor]
theorem ne_i {i j : Int} : cmpD .ne (.int i) (.int j) S P = P (.bl (!decide (i = j))) S := by
  show P (.bl (xor true _)) S = _
  rw [Bool.true_xor]
theorem ne_s {i j : Str} : cmpD .ne (.str i) (.str j) S P = P (.bl (!decide (i = j))) S := by
  show P (.bl (xor true _)) S = _
  rw [Bool.true_xor]
theorem ne_b {i j : Bool} : cmpD .ne (.bl i) (.bl j) S P = P (.bl (!decide (i = j))) S := by
  show P (.bl (xor true _)) S = _
  rw [Bool.true_xor]
theorem lt_i {i j : Int} : cmpD .lt (.int i) (.int j) S P = P (.bl (decide (i < j))) S := rfl
theorem le_i {i j : Int} : cmpD .le (.int i) (.int j) S P = P (.bl (decide (i ≤ j))) S := rfl
theorem gt_i {i j : Int} : cmpD .gt (.int i) (.int j) S P = P (.bl (decide (j < i))) S := rfl
theorem ge_i {i j : Int} : cmpD .ge (.int i) (.int j) S P = P (.bl (decide (j ≤ i))) S := rfl
theorem is_N {x : D} : cmpD .isN x .non S P = P (.bl (isNon x)) S := propext ⟨fun h => h.2, fun h => ⟨rfl, h⟩⟩
theorem no_N {x : D} : cmpD .noN x .non S P = P (.bl (!isNon x)) S := propext ⟨fun h => h.2, fun h => ⟨rfl, h⟩⟩
theorem tr_b {b : Bool} : truD (.bl b) S T = T b S := rfl
theorem tr_i {i : Int} : truD (.int i) S T = T (i != 0) S := rfl
theorem tr_n : truD .non S T = T false S := rfl
theorem tr_t {ds : List D} : truD (.tup ds) S T = T (!ds.isEmpty) S := rfl
theorem tr_l {ds : List D} : truD (.lst ds) S T = T (!ds.isEmpty) S := rfl
theorem ix_t {ds : List D} {i : Int} : ixD (.tup ds) (.int i) S P = @ixS (atI ds i) S ⟨P⟩ := oP_eq
theorem ix_l {ds : List D} {i : Int} : ixD (.lst ds) (.int i) S P = @ixS (atI ds i) S ⟨P⟩ := oP_eq
theorem ix_rl {ds : List D} {i : Int} : ixD (.rls ds) (.int i) S P = @ixS (atI ds i) S ⟨P⟩ := oP_eq
theorem at_n {α : Type} {ds : List α} {n : Nat} (h : n < ds.length) : atI ds (n : Int) = ds[n]? := by
  unfold atI ixN
  rw [if_pos (Int.natCast_nonneg n), if_pos (by omega)]
  rfl
theorem at_0 {α : Type} {d : α} {ds : List α} : atI (d :: ds) 0 = some d := at_n (n := 0) (by simp)
theorem at_1 {α : Type} {c d : α} {ds : List α} : atI (c :: d :: ds) 1 = some d := at_n (n := 1) (by simp)
theorem at_2 {α : Type} {b c d : α} {ds : List α} : atI (b :: c :: d :: ds) 2 = some d := at_n (n := 2) (by simp)
theorem at_3 {α : Type} {a b c d : α} {ds : List α} : atI (a :: b :: c :: d :: ds) 3 = some d := at_n (n := 3) (by simp)
/-! statements -/
variable {Q : Pst}
theorem s_n : wSs X .nil Q δ S = Q.nx δ S := rfl
theorem s_c {s : Sm} {r : Sms} : wSs X (.cons s r) Q δ S = wS X s ⟨wSs X r Q, Q.rt, Q.bk, Q.ct⟩ δ S := rfl
theorem s_asg {g : G} {e : E} : wS X (.asg g e) Q δ S = (w X e).e δ S fun x S1 => wG g x δ fun δ' => Q.nx δ' S1 := rfl
theorem s_asgL {i : Nat} {e : E} : wS X (.asgL i e) Q δ S = (w X e).e δ S fun x S1 => Q.nx (sv δ i x) S1 := by
  have : wS X (.asgL i e) Q δ S = (w X e).e δ S fun x S1 => Q.nx (δ.set i (some x)) S1 := rfl
  rw [this]
  congr 1
  funext x S1
  rw [sv_eq]
theorem s_par {is : List Nat} {es : Es} : wS X (.par is es) Q δ S = (ws X es).all δ S fun ds S1 => ds.length = is.length ∧ Q.nx (parD is ds δ) S1 := rfl
theorem s_set {a i e : E} : wS X (.setI a i e) Q δ S = (w X e).e δ S fun z S1 => (w X a).e δ S1 fun x S2 => (w X i).e δ S2 fun y S3 => setD x y z S3 fun S4 => Q.nx δ S4 := rfl
theorem s_ex {e : E} : wS X (.ex e) Q δ S = (w X e).e δ S fun _ S1 => Q.nx δ S1 := rfl
theorem s_ite {t : E} {a b : Sms} : wS X (.ite t a b) Q δ S = (w X t).t δ S fun k S1 => @iteS k (fun N => wSs X a ⟨N, Q.rt, Q.bk, Q.ct⟩ δ S1) (fun N => wSs X b ⟨N, Q.rt, Q.bk, Q.ct⟩ δ S1) ⟨Q.nx⟩ := rfl
theorem s_for {g : G} {it : It'} {b : Sms} : wS X (.for_ g it b) Q δ S = wi X it δ S fun ds src S1 => wFor g (wSs X b) src Q ds δ S1 := rfl
theorem s_wh {t : E} {b : Sms} : wS X (.wh t b) Q δ S = ∃ n, wWh (w X t).t (wSs X b) Q n δ S := rfl
theorem s_ret {e : E} : wS X (.ret e) Q δ S = (w X e).e δ S fun x S1 => Q.rt x S1 := rfl
theorem s_retN : wS X .retN Q δ S = Q.rt .non S := rfl
theorem s_pass : wS X .pass Q δ S = Q.nx δ S := rfl
theorem s_brk : wS X .brk Q δ S = Q.bk δ S := rfl
theorem s_rz : wS X .rz Q δ S = False := rfl
theorem s_cont : wS X .cont Q δ S = Q.ct δ S := rfl
theorem g_nm {i : Nat} {d : D} {R : Dts → Prop} : wG (.nm i) d δ R = R (sv δ i d) := by
  rw [← sv_eq]; rfl
theorem g_tp {gs : Gs} {ds : List D} {R : Dts → Prop} : wG (.tp gs) (.tup ds) δ R = wGs gs ds δ R := by
  refine propext ⟨?_, fun h => ⟨ds, rfl, h⟩⟩
  rintro ⟨es, e, h⟩
  cases e
  exact h
theorem g_n {R : Dts → Prop} : wGs .nil [] δ R = R δ := propext ⟨fun h => h.2, fun h => ⟨rfl, h⟩⟩
theorem g_c {g : G} {r : Gs} {d : D} {ds : List D} {R : Dts → Prop} : wGs (.cons g r) (d :: ds) δ R = wG g d δ fun δ' => wGs r ds δ' R := by
  refine propext ⟨?_, fun h => ⟨d, ds, rfl, h⟩⟩
  rintro ⟨_, _, e, h⟩
  cases e
  exact h
theorem par_n : parD [] [] δ = δ := rfl
theorem par_c {i : Nat} {is : List Nat} {d : D} {ds : List D} : parD (i :: is) (d :: ds) δ = parD is ds (sv δ i d) := by
  rw [← sv_eq]; rfl
theorem nw_f {ds : List D} : nwL false ds S P = P (.lst ds) S := rfl
theorem nw_t {ds : List D} : nwL true ds S P = ∀ p, S p = none → P (.ref p) (supd S p (.lst ds)) := rfl
theorem len_l {ds : List D} : biO .len false [.lst ds] S P = P (.int ds.length) S := by
  refine propext ⟨?_, fun h => ⟨ds, rfl, h⟩⟩
  rintro ⟨_, e, h⟩
  cases e
  exact h
theorem len_t {ds : List D} : biO .len false [.tup ds] S P = P (.int ds.length) S := by
  refine propext ⟨?_, fun h => ⟨ds, rfl, h⟩⟩
  rintro ⟨_, e, h⟩
  cases e
  exact h
theorem abs_i {i : Int} : biO .abs false [.int i] S P = P (.int (if i < 0 then -i else i)) S := rfl
theorem int_i {i : Int} : biO .int1 false [.int i] S P = P (.int i) S := rfl
theorem int_b {b : Bool} : biO .int1 false [.bl b] S P = P (.int (if b = true then 1 else 0)) S := rfl
theorem repr_h {x : D} : biO .repr false [x] S P = @reprS x S ⟨P⟩ := rfl
theorem max_i {i j : Int} : biO .max2 false [.int i, .int j] S P = P (.int (if j > i then j else i)) S := rfl
theorem min_i {i j : Int} : biO .min2 false [.int i, .int j] S P = P (.int (if j < i then j else i)) S := rfl
end
/-- a def's start -/
theorem st_0 {n : Nat} : startD n [] = List.replicate n none := by
  unfold startD
  simp
theorem st_s {n : Nat} {d : D} {ds : List D} : startD (n + 1) (d :: ds) = some d :: startD n ds := by
  unfold startD
  simp
end GB

/-! GB16: sizes of numbers, what is shown, the feed, draws. -/
namespace GB
open PySem PySem.Spec PyProof.Rows L2

/-! ### sizes -/
/-- below 2 ^ b -/
def Bt (b : Nat) (i : Int) : Prop := i.natAbs < 2 ^ b
theorem Bt.le {a b : Nat} {i : Int} (h : Bt a i) (l : a ≤ b) : Bt b i := Nat.lt_of_lt_of_le h (Nat.pow_le_pow_right (by decide) l)
theorem Bt.mul {a b : Nat} {i j : Int} (h : Bt a i) (k : Bt b j) : Bt (a + b) (i * j) := L2.wide_lt h k
theorem Bt.add {a : Nat} {i j : Int} (h : Bt a i) (k : Bt a j) : Bt (a + 1) (i + j) := by
  unfold Bt at *
  rw [Nat.pow_succ]
  omega
theorem Bt.sub {a : Nat} {i j : Int} (h : Bt a i) (k : Bt a j) : Bt (a + 1) (i - j) := by
  unfold Bt at *
  rw [Nat.pow_succ]
  omega
theorem Bt.neg {a : Nat} {i : Int} (h : Bt a i) : Bt a (-i) := by
  unfold Bt at *
  omega
theorem Bt.of_abs {a : Nat} {i j : Int} (h : Bt a j) (k : i.natAbs ≤ j.natAbs) : Bt a i := Nat.lt_of_le_of_lt k h
theorem Bt.lit {a : Nat} {i : Int} (h : decide (i.natAbs < 2 ^ a) = true) : Bt a i := (of_decide_eq_true h : i.natAbs < 2 ^ a)
theorem Bt.log {b : Nat} {i : Int} (h : Bt b i) (h0 : 0 < b) : i.natAbs.log2 < b := PySem.Flt.log2_lt_of h0 h
theorem Bt.cmul {a b : Nat} {i j : Int} (h : Bt a i) (k : Bt b j) (l : a + b + 2 ≤ 1000000) : CMulW i j :=
  L2.wide_mul (h.le (Nat.le_succ a)) (k.le (Nat.le_succ b)) (by omega) (by omega) (by omega)
theorem Bt.cdv {b : Nat} {j : Int} (h : Bt b j) (h0 : j ≠ 0) (l : b + 1 ≤ 9000) : CDvD j := ⟨h0, Nat.lt_of_lt_of_le ((h.le (Nat.le_succ b)).log (by omega)) l⟩
theorem Bt.cpw {b : Nat} {i j : Int} (h : Bt b i) (h0 : 0 ≤ j) (l : (b + 2) * j.toNat ≤ 134217728) : CPwD i j := by
  refine ⟨h0, Nat.le_trans (Nat.mul_le_mul_right _ ?_) l⟩
  have := (h.le (Nat.le_succ b)).log (by omega)
  omega
theorem Bt.range {b : Nat} {r m : Int} (h : Bt b m) (h0 : 0 ≤ r) (h1 : r < m) : Bt b r := by
  unfold Bt at *
  omega

/-! ### what is shown -/
/-- as data that can be compared -/
structure Pd (S : Sto) (x : D) (d : PyData) (k : Nat) : Prop where
  py : ∃ n, pyOf S n x = some d
  cl : d.canLay0 = true
  dp : d.depth ≤ k
structure PdL (S : Sto) (xs : List D) (ds : List PyData) (k : Nat) : Prop where
  py : ∃ n, pyL (pyOf S n) xs = some ds
  cl : PyData.canLayAll0 ds = true
  dp : PyData.depthAll ds ≤ k
/-- .. and shown -/
structure Sh (S : Sto) (x : D) (d : PyData) (k b : Nat) : Prop where
  pd : Pd S x d k
  sh : d.showable = true
  lv : d.leavesShort 1921 = true
  bk : d.bulk ≤ b
structure ShL (S : Sto) (xs : List D) (ds : List PyData) (k b : Nat) : Prop where
  pd : PdL S xs ds k
  sh : PyData.showableAll ds = true
  lv : PyData.leavesShortAll 1921 ds = true
  bk : PyData.bulkAll ds ≤ b
theorem pyL_mono {f g : D → Option PyData} (h : ∀ x d, f x = some d → g x = some d) : ∀ (xs : List D) (ds : List PyData), pyL f xs = some ds → pyL g xs = some ds
  | [], _, e => e
  | x :: xs, ds, e => by
    unfold pyL at e ⊢
    cases h1 : f x with
    | none => rw [h1] at e; cases e
    | some d =>
      rw [h1] at e
      cases h2 : pyL f xs with
      | none => rw [h2] at e; cases e
      | some es =>
        rw [h2] at e
        rw [h x d h1, pyL_mono h xs es h2]
        exact e
theorem pyOf_succ {S : Sto} : ∀ (n : Nat) (x : D) (d : PyData), pyOf S n x = some d → pyOf S (n + 1) x = some d := by
  intro n
  induction n with
  | zero => intro x d e; cases e
  | succ n ih =>
    intro x d e
    have map : ∀ {xs : List D} {f : List PyData → PyData}, (pyL (pyOf S n) xs).map f = some d → (pyL (pyOf S (n + 1)) xs).map f = some d := by
      intro xs f e
      cases q : pyL (pyOf S n) xs with
      | none => rw [q] at e; cases e
      | some ds =>
        rw [q] at e
        rw [pyL_mono ih xs ds q]
        exact e
    cases x with
    | non => exact e
    | bl _ => exact e
    | int _ => exact e
    | str _ => exact e
    | tup xs => exact map e
    | lst xs => exact map e
    | rls xs => exact map e
    | dct _ => exact e
    | ref p =>
      unfold pyOf at e ⊢
      cases q : cL (S p) with
      | none => rw [q] at e; cases e
      | some ds =>
        rw [q] at e
        exact map e
theorem pyOf_le {S : Sto} {n m : Nat} (h : n ≤ m) {x : D} {d : PyData} (e : pyOf S n x = some d) : pyOf S m x = some d := by
  induction m with
  | zero =>
    obtain rfl := Nat.le_zero.mp h
    exact e
  | succ m ih =>
    by_cases c : n = m + 1
    · subst c; exact e
    · exact pyOf_succ m x d (ih (by omega))
theorem pyL_le {S : Sto} {n m : Nat} (h : n ≤ m) {xs : List D} {ds : List PyData} (e : pyL (pyOf S n) xs = some ds) : pyL (pyOf S m) xs = some ds := pyL_mono (fun _ _ q => pyOf_le h q) xs ds e

section
variable {S : Sto} {k b : Nat}
theorem Pd.le {x : D} {d : PyData} {k' : Nat} (h : Pd S x d k) (h1 : k ≤ k') : Pd S x d k' := ⟨h.py, h.cl, Nat.le_trans h.dp h1⟩
theorem PdL.le {x : List D} {d : List PyData} {k' : Nat} (h : PdL S x d k) (h1 : k ≤ k') : PdL S x d k' := ⟨h.py, h.cl, Nat.le_trans h.dp h1⟩
theorem Pd.non : Pd S .non .none 0 := ⟨⟨1, rfl⟩, rfl, Nat.le_refl _⟩
theorem Pd.bl {c : Bool} : Pd S (.bl c) (.bool c) 0 := ⟨⟨1, rfl⟩, rfl, Nat.le_refl _⟩
theorem Pd.int {i : Int} : Pd S (.int i) (.int i) 0 := ⟨⟨1, rfl⟩, rfl, Nat.le_refl _⟩
theorem PdL.nil : PdL S [] [] 0 := ⟨⟨0, rfl⟩, rfl, Nat.le_refl _⟩
theorem PdL.cons {x : D} {d : PyData} {xs : List D} {ds : List PyData} (h : Pd S x d k) (t : PdL S xs ds k) : PdL S (x :: xs) (d :: ds) k := by
  obtain ⟨n, e⟩ := h.py
  obtain ⟨m, e'⟩ := t.py
  refine ⟨⟨max n m, ?_⟩, ?_, ?_⟩
  · unfold pyL
    rw [pyOf_le (Nat.le_max_left n m) e, pyL_le (Nat.le_max_right n m) e']
  · simp only [PyData.canLayAll0, h.cl, t.cl, Bool.and_true]
  · simp only [PyData.depthAll]
    exact Nat.max_le.mpr ⟨h.dp, t.dp⟩
theorem PdL.map {α : Type} {f : α → D} {g : α → PyData} (h : ∀ a, Pd S (f a) (g a) k) : ∀ xs : List α, PdL S (xs.map f) (xs.map g) k
  | [] => PdL.nil.le (Nat.zero_le k)
  | x :: xs => PdL.cons (h x) (PdL.map h xs)
theorem PdL.tup {xs : List D} {ds : List PyData} (h : PdL S xs ds k) : Pd S (.tup xs) (.tuple ds) (k + 1) := by
  obtain ⟨n, e⟩ := h.py
  refine ⟨⟨n + 1, ?_⟩, h.cl, ?_⟩
  · unfold pyOf
    rw [e]; rfl
  · simp only [PyData.depth]
    have := h.dp
    omega
theorem PdL.lst {xs : List D} {ds : List PyData} (h : PdL S xs ds k) : Pd S (.lst xs) (.list ds) (k + 1) := by
  obtain ⟨n, e⟩ := h.py
  refine ⟨⟨n + 1, ?_⟩, h.cl, ?_⟩
  · unfold pyOf
    rw [e]; rfl
  · simp only [PyData.depth]
    have := h.dp
    omega
/-- a list, however it stands -/
theorem PdL.lsx {x : D} {xs : List D} {ds : List PyData} (h : PdL S xs ds k) (hx : lsx S x = some xs) : Pd S x (.list ds) (k + 1) := by
  cases x with
  | lst ys =>
    cases hx
    exact h.lst
  | rls ys =>
    cases hx
    obtain ⟨n, e⟩ := h.py
    refine ⟨⟨n + 1, ?_⟩, h.cl, ?_⟩
    · unfold pyOf
      rw [e]; rfl
    · simp only [PyData.depth]
      have := h.dp
      omega
  | ref p =>
    obtain ⟨n, e⟩ := h.py
    refine ⟨⟨n + 1, ?_⟩, h.cl, ?_⟩
    · unfold pyOf
      have hx : cL (S p) = some xs := hx
      rw [hx]
      show (pyL (pyOf S n) xs).map _ = _
      rw [e]; rfl
    · simp only [PyData.depth]
      have := h.dp
      omega
  | _ => cases hx
theorem Sh.le {x : D} {d : PyData} {k' b' : Nat} (h : Sh S x d k b) (h1 : k ≤ k') (h2 : b ≤ b') : Sh S x d k' b' := ⟨h.pd.le h1, h.sh, h.lv, Nat.le_trans h.bk h2⟩
theorem ShL.le {x : List D} {d : List PyData} {k' b' : Nat} (h : ShL S x d k b) (h1 : k ≤ k') (h2 : b ≤ b') : ShL S x d k' b' := ⟨h.pd.le h1, h.sh, h.lv, Nat.le_trans h.bk h2⟩
theorem Sh.non : Sh S .non .none 0 0 := ⟨.non, rfl, rfl, Nat.le_refl _⟩
theorem Sh.bl {c : Bool} : Sh S (.bl c) (.bool c) 0 0 := ⟨.bl, rfl, rfl, Nat.le_refl _⟩
theorem Sh.int {i : Int} (h : Bt 1920 i) : Sh S (.int i) (.int i) 0 0 := ⟨.int, decide_eq_true (h.log (by decide)), decide_eq_true (int_text_len_1921 (h.log (by decide))), Nat.le_refl _⟩
theorem ShL.nil : ShL S [] [] 0 0 := ⟨.nil, rfl, rfl, Nat.le_refl _⟩
theorem ShL.cons {x : D} {d : PyData} {xs : List D} {ds : List PyData} {c : Nat} (h : Sh S x d k b) (t : ShL S xs ds k c) : ShL S (x :: xs) (d :: ds) k (b + 1 + c) := by
  refine ⟨PdL.cons h.pd t.pd, ?_, ?_, ?_⟩
  · simp only [PyData.showableAll, h.sh, t.sh, Bool.and_true]
  · simp only [PyData.leavesShortAll, h.lv, t.lv, Bool.and_true]
  · simp only [PyData.bulkAll]
    have := h.bk
    have := t.bk
    omega
theorem ShL.map {α : Type} {f : α → D} {g : α → PyData} : ∀ xs : List α, (∀ a ∈ xs, Sh S (f a) (g a) k b) → ShL S (xs.map f) (xs.map g) k ((b + 1) * xs.length)
  | [], _ => ShL.nil.le (Nat.zero_le k) (Nat.zero_le _)
  | x :: xs, h => (ShL.cons (h x List.mem_cons_self) (ShL.map xs fun a m => h a (List.mem_cons_of_mem _ m))).le (Nat.le_refl _) (by rw [List.length_cons, Nat.mul_succ]; omega)
theorem ShL.tup {xs : List D} {ds : List PyData} (h : ShL S xs ds k b) : Sh S (.tup xs) (.tuple ds) (k + 1) b := ⟨h.pd.tup, h.sh, h.lv, h.bk⟩
theorem ShL.lst {xs : List D} {ds : List PyData} (h : ShL S xs ds k b) : Sh S (.lst xs) (.list ds) (k + 1) b := ⟨h.pd.lst, h.sh, h.lv, h.bk⟩
theorem ShL.lsx {x : D} {xs : List D} {ds : List PyData} (h : ShL S xs ds k b) (hx : lsx S x = some xs) : Sh S x (.list ds) (k + 1) b := ⟨h.pd.lsx hx, h.sh, h.lv, h.bk⟩
theorem Sh.repr {x : D} {d : PyData} {P : EQ} (h : Sh S x d k b) (h1 : k ≤ 60) (h2 : b ≤ 8000) (p : P (.str d.shown) S) : biO .repr false [x] S P := by
  obtain ⟨n, e⟩ := h.pd.py
  refine ⟨n, d, e, h.sh, PyData.hasDict_of_canLay d h.pd.cl, Nat.le_trans h.pd.dp h1, ?_, p⟩
  have := PyData.shown_le_bulk 1921 (by decide) d h.lv
  have e : sizeLine = 16777216 := by decide
  have := h.bk
  omega
theorem Pd.shaped {x : D} {d : PyData} (h : Pd S x d k) (l : k ≤ 64) : SeqAt.shaped d = true := Bool.and_eq_true_iff.mpr ⟨h.cl, decide_eq_true (Nat.le_trans h.dp l)⟩
/-- comparing two things as data -/
theorem Pd.eqD {x y : D} {d e : PyData} {j : Nat} {neg : Bool} {P : EQ} (h : Pd S x d k) (g : Pd S y e j) (h1 : k ≤ 64) (h2 : j ≤ 64) (p : P (.bl (xor neg (PyData.eqv d e))) S) : eqD neg x y S P := by
  obtain ⟨n, e1⟩ := h.py
  obtain ⟨m, e2⟩ := g.py
  have base : ∃ n d e, pyOf S n x = some d ∧ pyOf S n y = some e ∧ SeqAt.shaped d = true ∧ SeqAt.shaped e = true ∧ P (.bl (xor neg (PyData.eqv d e))) S :=
    ⟨max n m, d, e, pyOf_le (Nat.le_max_left n m) e1, pyOf_le (Nat.le_max_right n m) e2, h.shaped h1, g.shaped h2, p⟩
  have up : ∀ {x : D} {d : PyData} {n : Nat}, pyOf S n x = some d → ∃ n, pyOf S (n + 1) x = some d := by
    intro x d n e
    cases n with
    | zero => cases e
    | succ n => exact ⟨n, e⟩
  cases x with
  | int i =>
    cases y with
    | int j =>
      obtain ⟨_, e1⟩ := up e1
      obtain ⟨_, e2⟩ := up e2
      cases e1; cases e2
      exact p
    | _ => exact base
  | str i =>
    cases y with
    | str j =>
      obtain ⟨_, e1⟩ := up e1
      obtain ⟨_, e2⟩ := up e2
      cases e1; cases e2
      have : PyData.eqv (.str i) (.str j) = decide (i = j) := by
        by_cases c : i = j
        · subst c; simp [PyData.eqv]
        · simp [PyData.eqv, c]
      rw [this] at p
      exact p
    | _ => exact base
  | bl i =>
    cases y with
    | bl j =>
      obtain ⟨_, e1⟩ := up e1
      obtain ⟨_, e2⟩ := up e2
      cases e1; cases e2
      have : PyData.eqv (.bool i) (.bool j) = decide (i = j) := by
        by_cases c : i = j
        · subst c; simp [PyData.eqv]
        · simp [PyData.eqv, c]
      rw [this] at p
      exact p
    | _ => exact base
  | _ => exact base
end

/-! ### the feed -/
def feedC (cs : List Int) (a l t : Int) : Cell := .dct [(.inr "cells", .lst (cs.map D.int)), (.inr "at", .int a), (.inr "left", .int l), (.inr "turn", .int t)]
def Feed (n : Nat) (S : Sto) (p : Addr) : Prop := ∃ (cs : List Int) (a l t : Int), S p = some (feedC cs a l t) ∧ (0 ≤ a ∧ 0 ≤ t ∧ t ≤ n) ∧ cs.length ≤ 63
theorem Feed.le {n m : Nat} {S : Sto} {p : Addr} (h : Feed n S p) (l : n ≤ m) : Feed m S p := by
  obtain ⟨cs, a, e, t, h1, h2, h3⟩ := h
  exact ⟨cs, a, e, t, h1, by omega, h3⟩
theorem Feed.of {n : Nat} {S S' : Sto} {p : Addr} (h : Feed n S p) (e : S' p = S p) : Feed n S' p := by
  obtain ⟨cs, a, l, t, h1, h2, h3⟩ := h
  exact ⟨cs, a, l, t, e.trans h1, h2, h3⟩
theorem Feed.ne {n : Nat} {S : Sto} {p q : Addr} (h : Feed n S p) (e : S q = none) : q ≠ p := by
  obtain ⟨cs, a, l, t, h1, h2, h3⟩ := h
  intro z
  subst z
  rw [h1] at e
  cases e
/-- the feed goes on by at most k draws, all else stays -/
structure Adv (p : Addr) (n k : Nat) (S S' : Sto) : Prop where
  fd : Feed (n + k) S' p
  eq : ∀ q, q ≠ p → S' q = S q
theorem Adv.trans {p : Addr} {n j k : Nat} {S T U : Sto} (h : Adv p n j S T) (g : Adv p (n + j) k T U) : Adv p n (j + k) S U :=
  ⟨by rw [← Nat.add_assoc]; exact g.fd, fun q e => (g.eq q e).trans (h.eq q e)⟩
theorem Adv.le {p : Addr} {n j k : Nat} {S T : Sto} (h : Adv p n j S T) (l : j ≤ k) : Adv p n k S T := ⟨h.fd.le (by omega), h.eq⟩
theorem Adv.refl {p : Addr} {n : Nat} {S : Sto} (h : Feed n S p) : Adv p n 0 S S := ⟨h, fun _ _ => rfl⟩
/-- numbers drawn: fewer than -/
def nMost : Nat := 2 ^ 40
def spDraw : Spec := fun ds S Q _ => match ds with
  | [.ref p, .int m] => (0 < m ∧ Bt 8000 m) ∧ ∃ n, Feed n S p ∧ n < nMost ∧ ∀ (r : Int) (S' : Sto), 0 ≤ r → r < m → Adv p n 1 S S' → Q (.int r) S'
  | _ => False
def spFeed : Spec := fun ds S Q _ => match ds with
  | [.rls ns] => ∃ cs : List Int, ns = cs.map D.int ∧ cs.length ≤ 63 ∧ ∀ (p : Addr) (S' : Sto), S p = none → Feed 0 S' p → (∀ q, q ≠ p → S' q = S q) → Q (.ref p) S'
  | _ => False
end GB

/-! GB17: cells of the store, loops, the feed's steps. -/
namespace GB
open PySem PySem.Spec PyProof.Rows L2

theorem supd_supd {S : Sto} {p : Addr} {c d : Cell} : supd (supd S p c) p d = supd S p d := by
  funext q
  unfold supd
  split <;> rfl
theorem supd_self {S : Sto} {p : Addr} {c : Cell} (h : S p = some c) : supd S p c = S := by
  funext q
  unfold supd
  split
  · rename_i e; subst e; exact h.symm
  · rfl
theorem ix_ref {S : Sto} {p : Addr} {c : Cell} {y : D} {P : EQ} : ixD (.ref p) y (supd S p c) P = ixC (some c) y (supd S p c) P := by
  show ixC (supd S p c p) y (supd S p c) P = _
  rw [supd_same]
theorem set_ref {S : Sto} {p : Addr} {c : Cell} {y z : D} {P : Sto → Prop} : setD (.ref p) y z (supd S p c) P = setC p (some c) y z (supd S p c) P := by
  show setC p (supd S p c p) y z (supd S p c) P = _
  rw [supd_same]
section
variable {S : Sto} {p : Addr} {cs : List Int} {a l t v : Int} {P : EQ} {R : Sto → Prop}
theorem fd_turn : ixC (some (feedC cs a l t)) (.str "turn") S P = P (.int t) S := by
  refine propext ⟨?_, fun h => ⟨_, _, rfl, rfl, h⟩⟩
  rintro ⟨k, d, e1, e2, h⟩
  cases e1; cases e2; exact h
theorem fd_left : ixC (some (feedC cs a l t)) (.str "left") S P = P (.int l) S := by
  refine propext ⟨?_, fun h => ⟨_, _, rfl, rfl, h⟩⟩
  rintro ⟨k, d, e1, e2, h⟩
  cases e1; cases e2; exact h
theorem fd_at : ixC (some (feedC cs a l t)) (.str "at") S P = P (.int a) S := by
  refine propext ⟨?_, fun h => ⟨_, _, rfl, rfl, h⟩⟩
  rintro ⟨k, d, e1, e2, h⟩
  cases e1; cases e2; exact h
theorem fd_cells : ixC (some (feedC cs a l t)) (.str "cells") S P = P (.lst (cs.map D.int)) S := by
  refine propext ⟨?_, fun h => ⟨_, _, rfl, rfl, h⟩⟩
  rintro ⟨k, d, e1, e2, h⟩
  cases e1; cases e2; exact h
theorem fs_turn : setC p (some (feedC cs a l t)) (.str "turn") (.int v) (supd S p (feedC cs a l t)) R = R (supd S p (feedC cs a l v)) := by
  have e : putD [(.inr "cells", .lst (cs.map D.int)), (.inr "at", .int a), (.inr "left", .int l), (.inr "turn", .int t)] (.inr "turn" : Key) (.int v) = [(.inr "cells", .lst (cs.map D.int)), (.inr "at", .int a), (.inr "left", .int l), (.inr "turn", .int v)] := rfl
  refine propext ⟨?_, fun h => ⟨_, rfl, (by decide : 4 < sizeLine), ?_⟩⟩
  · rintro ⟨k, e1, _, h⟩
    cases e1
    rw [e, supd_supd] at h
    exact h
  · rw [e, supd_supd]
    exact h
theorem fs_left : setC p (some (feedC cs a l t)) (.str "left") (.int v) (supd S p (feedC cs a l t)) R = R (supd S p (feedC cs a v t)) := by
  have e : putD [(.inr "cells", .lst (cs.map D.int)), (.inr "at", .int a), (.inr "left", .int l), (.inr "turn", .int t)] (.inr "left" : Key) (.int v) = [(.inr "cells", .lst (cs.map D.int)), (.inr "at", .int a), (.inr "left", .int v), (.inr "turn", .int t)] := rfl
  refine propext ⟨?_, fun h => ⟨_, rfl, (by decide : 4 < sizeLine), ?_⟩⟩
  · rintro ⟨k, e1, _, h⟩
    cases e1
    rw [e, supd_supd] at h
    exact h
  · rw [e, supd_supd]
    exact h
theorem fs_at : setC p (some (feedC cs a l t)) (.str "at") (.int v) (supd S p (feedC cs a l t)) R = R (supd S p (feedC cs v l t)) := by
  have e : putD [(.inr "cells", .lst (cs.map D.int)), (.inr "at", .int a), (.inr "left", .int l), (.inr "turn", .int t)] (.inr "at" : Key) (.int v) = [(.inr "cells", .lst (cs.map D.int)), (.inr "at", .int v), (.inr "left", .int l), (.inr "turn", .int t)] := rfl
  refine propext ⟨?_, fun h => ⟨_, rfl, (by decide : 4 < sizeLine), ?_⟩⟩
  · rintro ⟨k, e1, _, h⟩
    cases e1
    rw [e, supd_supd] at h
    exact h
  · rw [e, supd_supd]
    exact h
/-- a list of ints beside the empty list -/
theorem ne_nil {T : Bool → Sto → Prop} : cmpD .ne (.lst (cs.map D.int)) (.lst []) S (bP T) = T (!cs.isEmpty) S := by
  refine propext ⟨?_, ?_⟩
  · intro h
    obtain ⟨n, d, e, h1, h2, h3, h4, h5⟩ := h
    cases n with
    | zero => cases h1
    | succ n =>
      cases h2
      cases cs with
      | nil =>
        cases h1
        exact h5
      | cons c cs =>
        unfold pyOf at h1
        cases q : pyL (pyOf S n) ((c :: cs).map D.int) with
        | none => rw [q] at h1; cases h1
        | some ds =>
          rw [q] at h1
          cases h1
          cases ds with
          | nil =>
            unfold pyL at q
            simp only [List.map_cons] at q
            cases z : pyOf S n (.int c) with
            | none => rw [z] at q; cases q
            | some u =>
              rw [z] at q
              cases z2 : pyL (pyOf S n) (cs.map D.int) with
              | none => rw [z2] at q; cases q
              | some u2 => rw [z2] at q; cases q
          | cons d ds => exact h5
  · intro h
    have g1 : Pd S (.lst (cs.map D.int)) (.list (cs.map PyData.int)) 1 := (PdL.map (fun _ => Pd.int) cs).lst
    have g2 : Pd S (.lst []) (.list []) 1 := (PdL.nil (S := S)).lst
    refine Pd.eqD (neg := true) g1 g2 (by decide) (by decide) ?_
    cases cs with
    | nil => exact h
    | cons c cs => exact h
theorem len_is {T : EQ} : biO .len false [.lst (cs.map D.int)] S T = T (.int cs.length) S := by
  rw [len_l, List.length_map]
end

/-! ### loops -/
theorem for_nil {g : G} {body : WpS} {src : Sto → Prop} {P : Pst} {δ : Dts} {S : Sto} : wFor g body src P [] δ S = P.nx δ S := rfl
theorem for_cons {g : G} {body : WpS} {src : Sto → Prop} {P : Pst} {d : D} {ds : List D} {δ : Dts} {S : Sto} : wFor g body src P (d :: ds) δ S =
    wG g d δ fun δ' => body ⟨fun δ2 S2 => src S2 ∧ wFor g body src P ds δ2 S2, P.rt, P.nx, fun δ2 S2 => src S2 ∧ wFor g body src P ds δ2 S2⟩ δ' S := rfl
/-- a loop by what it keeps: each turn, from what stands -/
theorem for_inv {g : G} {body : WpS} {src : Sto → Prop} {P : Pst} (I : List D → Dts → Sto → Prop)
    (step : ∀ (d : D) (ds : List D) (δ : Dts) (S : Sto) (nx : Dts → Sto → Prop), (∀ δ2 S2, src S2 → I ds δ2 S2 → nx δ2 S2) → I (d :: ds) δ S → wG g d δ fun δ' => body ⟨nx, P.rt, P.nx, nx⟩ δ' S)
    (fin : ∀ δ S, I [] δ S → P.nx δ S) (keep : ∀ ds δ S, I ds δ S → src S) : ∀ (ds : List D) (δ : Dts) (S : Sto), I ds δ S → wFor g body src P ds δ S
  | [], δ, S, h => fin δ S h
  | d :: ds, δ, S, h => by
    rw [for_cons]
    exact step d ds δ S _ (fun δ2 S2 s i => ⟨s, for_inv I step fin keep ds δ2 S2 i⟩) h
theorem rng_0 {lo : Int} : rngD lo 0 = [] := rfl
theorem rng_s {lo : Int} {n : Nat} : rngD lo (n + 1) = .int lo :: rngD (lo + 1) n := by
  unfold rngD
  rw [List.range_succ_eq_map, List.map_cons, List.map_map]
  congr 1
  · simp
  · refine List.map_congr_left fun i _ => ?_
    show D.int (lo + ((i + 1 : Nat) : Int)) = D.int (lo + 1 + (i : Int))
    rw [show lo + ((i + 1 : Nat) : Int) = lo + 1 + (i : Int) by omega]
theorem rng_len {lo : Int} {n : Nat} : (rngD lo n).length = n := by
  unfold rngD
  simp
theorem map_at {α β : Type} {f : α → β} {xs : List α} {i : Int} : atI (xs.map f) i = (atI xs i).map f := by
  unfold atI
  rw [List.length_map]
  cases ixN xs.length i with
  | none => rfl
  | some j => exact List.getElem?_map
theorem at_has {α : Type} {xs : List α} {i : Int} (h0 : 0 ≤ i) (h1 : i < xs.length) : ∃ x, atI xs i = some x ∧ x ∈ xs := by
  unfold atI ixN
  rw [if_pos h0, if_pos h1]
  have : i.toNat < xs.length := by omega
  exact ⟨xs[i.toNat], List.getElem?_eq_getElem this, List.getElem_mem _⟩
theorem at_last {α : Type} {xs : List α} (h : xs ≠ []) : atI xs (-1) = xs.getLast? := by
  have : 0 < xs.length := List.length_pos_iff.mpr h
  unfold atI ixN
  rw [if_neg (by omega), if_pos (by omega), List.getLast?_eq_getElem?]
  show xs[((-1 : Int) + (xs.length : Int)).toNat]? = _
  congr 1
  omega
theorem oP_ok {α : Type} {Q : α → Prop} {o : Option α} {x : α} (e : o = some x) (h : Q x) : oP Q o := by
  subst e
  exact h
theorem Bt.fmod {b : Nat} {i m : Int} (h : Bt b m) (h0 : 0 < m) : Bt b (i.fmod m) := h.range (Int.fmod_nonneg_of_pos i h0) (Int.fmod_lt_of_pos i h0)
/-- the mixing of a draw -/
theorem draw_mix {c t m : Int} {n : Nat} (ht : 0 ≤ t) (htn : t ≤ n) (hn : n < nMost) (h0 : 0 < m) {P : Prop} (h : P) : (2147483629 : Int) ≠ 0 ∧ CMulW 7919 (t + 1) ∧ CPwD (c.fmod 2147483629 + 7919 * (t + 1) + 1) 5 ∧ (2147483647 : Int) ≠ 0 ∧ CMulW 2 (t + 1) ∧
    CMulW (((c.fmod 2147483629 + 7919 * (t + 1) + 1) ^ Int.toNat 5).fmod 2147483647) (2 * (t + 1) + 104729) ∧
    CPwD (((c.fmod 2147483629 + 7919 * (t + 1) + 1) ^ Int.toNat 5).fmod 2147483647 * (2 * (t + 1) + 104729) + 69621) 3 ∧ (2147483629 : Int) ≠ 0 ∧ CDvD 64 ∧ m ≠ 0 ∧ P := by
  have hm : nMost = 1099511627776 := by decide
  have t1 : Bt 42 (t + 1) := by
    show (t + 1).natAbs < 4398046511104
    omega
  have c1 : Bt 64 (c.fmod 2147483629) := Bt.fmod (Bt.lit (by decide)) (by decide)
  have c2 : Bt 64 (7919 * (t + 1)) := (Bt.mul (a := 20) (Bt.lit (by decide)) t1).le (by decide)
  have c3 : Bt 66 (c.fmod 2147483629 + 7919 * (t + 1) + 1) := Bt.add (c1.add c2) (Bt.lit (by decide))
  have c4 : Bt 32 (((c.fmod 2147483629 + 7919 * (t + 1) + 1) ^ Int.toNat 5).fmod 2147483647) := Bt.fmod (Bt.lit (by decide)) (by decide)
  have c5 : Bt 45 (2 * (t + 1) + 104729) := Bt.add ((Bt.mul (a := 2) (Bt.lit (by decide)) t1).le (by decide)) (Bt.lit (by decide))
  have c6 := Bt.add (c4.mul c5) (Bt.lit (i := 69621) (by decide))
  exact ⟨by decide, Bt.cmul (a := 20) (Bt.lit (by decide)) t1 (by decide), c3.cpw (by decide) (by decide), by decide, Bt.cmul (a := 2) (Bt.lit (by decide)) t1 (by decide), c4.cmul c5 (by decide), c6.cpw (by decide) (by decide), by decide, Bt.cdv (b := 8) (Bt.lit (by decide)) (by decide) (by decide), by omega, h⟩
theorem Feed.new {n : Nat} {S : Sto} {p : Addr} {cs : List Int} {a l t a' l' t' : Int} (hS : S p = some (feedC cs a l t)) (h : 0 ≤ a' ∧ 0 ≤ t' ∧ t' ≤ n + 1) (hl : cs.length ≤ 63) : Adv p n 1 S (supd (supd S p (feedC cs a l t)) p (feedC cs a' l' t')) := by
  rw [supd_supd]
  exact ⟨⟨cs, a', l', t', supd_same, by omega, hl⟩, fun q e => supd_ne e⟩
end GB

/-! GB18: fractions as rationals, common divisors. -/
namespace GB
open PySem PySem.Spec PyProof.Rows L2

/-- a fraction, lowest -/
def frq (q : Rat) : D := .tup [.int q.num, .int (q.den : Int)]
def frP (q : Rat) : PyData := .tuple [.int q.num, .int (q.den : Int)]
section
variable {S : Sto} {P : EQ} {q : Rat}
theorem ix_q0 : ixD (frq q) (.int 0) S P = P (.int q.num) S := by
  unfold frq
  rw [ix_t, at_0, ixS_s]
theorem ix_q1 : ixD (frq q) (.int 1) S P = P (.int (q.den : Int)) S := by
  unfold frq
  rw [ix_t, at_1, ixS_s]
theorem g_q {gs : Gs} {δ : Dts} {R : Dts → Prop} : wG (.tp gs) (frq q) δ R = wGs gs [.int q.num, .int (q.den : Int)] δ R := g_tp
theorem len_q : biO .len false [frq q] S P = P (.int 2) S := len_t
theorem tr_q {T : Bool → Sto → Prop} : truD (frq q) S T = T true S := rfl
end
/-- numbers below 2 ^ b -/
structure RB (b : Nat) (q : Rat) : Prop where
  n : Bt b q.num
  d : Bt b (q.den : Int)
theorem RB.le {a b : Nat} {q : Rat} (h : RB a q) (l : a ≤ b) : RB b q := ⟨h.n.le l, h.d.le l⟩
theorem RB.divInt {b : Nat} {t u : Int} (h : Bt b t) (k : Bt b u) (hu : u ≠ 0) : RB b (Rat.divInt t u) := by
  constructor
  · rw [Rat.num_divInt]
    refine h.of_abs ?_
    refine Nat.le_trans (Int.natAbs_ediv_le_natAbs _ _) ?_
    rw [Int.natAbs_mul]
    have : u.sign.natAbs ≤ 1 := by
      rcases Int.lt_trichotomy u 0 with z | z | z
      · rw [Int.sign_eq_neg_one_of_neg z]; decide
      · exact absurd z hu
      · rw [Int.sign_eq_one_of_pos z]; decide
    calc _ ≤ 1 * t.natAbs := Nat.mul_le_mul_right _ this
      _ = _ := Nat.one_mul _
  · rw [Rat.den_divInt, if_neg hu]
    refine k.of_abs ?_
    show u.natAbs / _ ≤ _
    exact Nat.div_le_self _ _
theorem RB.neg {b : Nat} {q : Rat} (h : RB b q) : RB b (-q) := ⟨h.n.neg, h.d⟩
theorem den_ne {q : Rat} : (q.den : Int) ≠ 0 := by
  have := q.den_nz
  omega
theorem den_pos {q : Rat} : (0 : Int) < (q.den : Int) := by
  have := q.den_nz
  omega
theorem RB.inv {b : Nat} {q : Rat} (h : RB b q) (h0 : q.num ≠ 0) : RB b (Rat.divInt (q.den : Int) q.num) := .divInt h.d h.n h0
theorem rat_add (x y : Rat) : Rat.divInt (x.num * y.den + y.num * x.den) (x.den * y.den) = x + y := by
  rw [← Rat.divInt_add_divInt _ _ den_ne den_ne, Rat.num_divInt_den, Rat.num_divInt_den]
theorem rat_sub (x y : Rat) : Rat.divInt (x.num * y.den - y.num * x.den) (x.den * y.den) = x - y := by
  rw [← Rat.divInt_sub_divInt _ _ den_ne den_ne, Rat.num_divInt_den, Rat.num_divInt_den]
theorem rat_mul (x y : Rat) : Rat.divInt (x.num * y.num) (x.den * y.den) = x * y := by
  rw [← Rat.divInt_mul_divInt, Rat.num_divInt_den, Rat.num_divInt_den]
theorem rat_inv (y : Rat) : Rat.divInt y.den y.num = y⁻¹ := (Rat.inv_def y).symm
theorem rat_div (x y : Rat) : Rat.divInt (x.num * y.den) (x.den * y.num) = x / y := by
  rw [← Rat.divInt_mul_divInt, Rat.num_divInt_den, rat_inv, Rat.div_def]
theorem RB.add {a b : Nat} {x y : Rat} (h : RB a x) (k : RB b y) : RB (a + b + 1) (x + y) := by
  rw [← rat_add]
  have h1 := h.n.mul k.d
  have h2 := k.n.mul h.d
  rw [Nat.add_comm b a] at h2
  exact .divInt (h1.add h2) ((h.d.mul k.d).le (Nat.le_succ _)) (Int.mul_ne_zero den_ne den_ne)
theorem RB.sub {a b : Nat} {x y : Rat} (h : RB a x) (k : RB b y) : RB (a + b + 1) (x - y) := by
  rw [← rat_sub]
  have h1 := h.n.mul k.d
  have h2 := k.n.mul h.d
  rw [Nat.add_comm b a] at h2
  exact .divInt (h1.sub h2) ((h.d.mul k.d).le (Nat.le_succ _)) (Int.mul_ne_zero den_ne den_ne)
theorem RB.mul {a b : Nat} {x y : Rat} (h : RB a x) (k : RB b y) : RB (a + b) (x * y) := by
  rw [← rat_mul]
  exact .divInt (h.n.mul k.n) (h.d.mul k.d) (Int.mul_ne_zero den_ne den_ne)
theorem RB.lit {b : Nat} {q : Rat} (h : (decide (q.num.natAbs < 2 ^ b) && decide (q.den < 2 ^ b)) = true) : RB b q := by
  rw [Bool.and_eq_true, decide_eq_true_eq, decide_eq_true_eq] at h
  exact ⟨h.1, h.2⟩

/-! ### the least form -/
theorem Sh.frq {S : Sto} {q : Rat} (h : RB 1920 q) : Sh S (frq q) (frP q) 1 2 := (ShL.cons (Sh.int h.n) (ShL.cons (Sh.int h.d) ShL.nil)).tup.le (by decide) (by decide)
theorem Pd.frq {S : Sto} {q : Rat} : Pd S (frq q) (frP q) 1 := (PdL.cons Pd.int (PdL.cons Pd.int PdL.nil)).tup
theorem gcd_ne {t u : Int} (h : u ≠ 0) : (Nat.gcd t.natAbs u.natAbs : Int) ≠ 0 := by
  have := Nat.gcd_pos_of_pos_right t.natAbs (n := u.natAbs) (by omega)
  omega
theorem fdiv_mul {g k : Int} (h : g ≠ 0) : (g * k).fdiv g = k := Int.mul_fdiv_cancel_left k h
/-- divided by the common divisor, its sign the bottom's -/
theorem low_num {t u : Int} (h : u ≠ 0) : t.fdiv (if u < 0 then 0 - (Nat.gcd t.natAbs u.natAbs : Int) else (Nat.gcd t.natAbs u.natAbs : Int)) = (Rat.divInt t u).num := by
  have hg := gcd_ne (t := t) h
  rw [Rat.num_divInt, show ((u.gcd t : Nat) : Int) = (Nat.gcd t.natAbs u.natAbs : Int) by rw [Int.gcd_comm]; rfl]
  obtain ⟨k, hk⟩ : (Nat.gcd t.natAbs u.natAbs : Int) ∣ t := Int.ofNat_dvd_left.mpr (Nat.gcd_dvd_left _ _)
  generalize (Nat.gcd t.natAbs u.natAbs : Int) = g at *
  subst hk
  by_cases c : u < 0
  · rw [if_pos c, Int.sign_eq_neg_one_of_neg c]
    rw [show g * k = (0 - g) * (-k) by rw [Int.zero_sub, Int.neg_mul_neg], fdiv_mul (by omega), show -1 * ((0 - g) * (-k)) = g * (-k) by rw [Int.zero_sub, Int.neg_mul_neg, Int.mul_neg]; omega, Int.mul_ediv_cancel_left _ hg]
  · rw [if_neg c, Int.sign_eq_one_of_pos (by omega), fdiv_mul hg, Int.one_mul, Int.mul_ediv_cancel_left _ hg]
theorem low_den {t u : Int} (h : u ≠ 0) : u.fdiv (if u < 0 then 0 - (Nat.gcd t.natAbs u.natAbs : Int) else (Nat.gcd t.natAbs u.natAbs : Int)) = ((Rat.divInt t u).den : Int) := by
  have hg := gcd_ne (t := t) h
  rw [Rat.den_divInt, if_neg h, Int.natCast_ediv, show ((u.gcd t : Nat) : Int) = (Nat.gcd t.natAbs u.natAbs : Int) by rw [Int.gcd_comm]; rfl]
  obtain ⟨k, hk⟩ : (Nat.gcd t.natAbs u.natAbs : Int) ∣ u := Int.ofNat_dvd_left.mpr (Nat.gcd_dvd_right _ _)
  have hp : 0 ≤ (Nat.gcd t.natAbs u.natAbs : Int) := Int.natCast_nonneg _
  generalize (Nat.gcd t.natAbs u.natAbs : Int) = g at *
  by_cases c : u < 0
  · rw [if_pos c, Int.ofNat_natAbs_of_nonpos (Int.le_of_lt c), hk]
    rw [show g * k = (0 - g) * (-k) by rw [Int.zero_sub, Int.neg_mul_neg], fdiv_mul (by omega), show -((0 - g) * (-k)) = g * (-k) by rw [Int.zero_sub, Int.neg_mul_neg, Int.mul_neg], Int.mul_ediv_cancel_left _ hg]
  · rw [if_neg c, Int.natAbs_of_nonneg (by omega), hk, fdiv_mul hg, Int.mul_ediv_cancel_left _ hg]
theorem low_frq {t u : Int} (h : u ≠ 0) : D.tup [.int (t.fdiv (if u < 0 then 0 - (Nat.gcd t.natAbs u.natAbs : Int) else (Nat.gcd t.natAbs u.natAbs : Int))), .int (u.fdiv (if u < 0 then 0 - (Nat.gcd t.natAbs u.natAbs : Int) else (Nat.gcd t.natAbs u.natAbs : Int)))] = frq (Rat.divInt t u) := by
  rw [low_num h, low_den h]
  rfl
theorem abs_eq (i : Int) : (if i < 0 then -i else i) = (i.natAbs : Int) := by
  split <;> omega
/-- the loop to the common divisor -/
theorem gcd_loop {body : WpS} {t : WpT} {P : Pst} {st : Nat → Nat → Dts} {S : Sto}
    (ht : ∀ a b T, T (decide (0 < b)) S → t (st a b) S T)
    (hb : ∀ a b rt bk ct (nx : Dts → Sto → Prop), 0 < b → nx (st b (a % b)) S → body ⟨nx, rt, bk, ct⟩ (st a b) S) : ∀ (b a : Nat), P.nx (st (Nat.gcd a b) 0) S → ∃ n, wWh t body P n (st a b) S := by
  intro b
  induction b using Nat.strongRecOn with
  | _ b ih =>
    intro a h
    by_cases c : b = 0
    · subst c
      refine ⟨1, ht a 0 _ ?_⟩
      rw [if_neg (by simp)]
      rw [Nat.gcd_zero_right] at h
      exact h
    · have hlt := Nat.mod_lt a (Nat.pos_of_ne_zero c)
      obtain ⟨n, hn⟩ := ih (a % b) hlt b (by rw [Nat.gcd_comm b (a % b), ← Nat.gcd_rec b a, Nat.gcd_comm]; exact h)
      refine ⟨n + 1, ht a b _ ?_⟩
      rw [if_pos (decide_eq_true (Nat.pos_of_ne_zero c))]
      exact hb a b _ _ _ _ (Nat.pos_of_ne_zero c) hn
theorem mod_nat {a b : Nat} : (a : Int).fmod (b : Int) = ((a % b : Nat) : Int) := by
  rw [Int.fmod_eq_emod_of_nonneg _ (Int.natCast_nonneg b)]
  rfl
end GB

/-! GB19: uses of lists that stand in one way or another; promises by small bodies. -/
namespace GB
open PySem PySem.Spec PyProof.Rows L2

/-- a def's promise, by its small body -/
def Keeps (n : Nat) (b : Sms) (sp : Spec) (j : Nat) : Prop := ∀ ds S Q U, sp ds S Q U → ds.length = j ∧ wSs (fun x _ S => U x S) b ⟨fun _ S => Q .non S, Q, fun _ _ => False, fun _ _ => False⟩ (startD n ds) S
section
variable {S : Sto} {P : EQ} {x : D} {ds : List D}
theorem lsx_ix (h : lsx S x = some ds) {i : Int} : ixD x (.int i) S P = @ixS (atI ds i) S ⟨P⟩ := by
  cases x with
  | lst es => cases h; exact ix_l
  | rls es => cases h; exact ix_rl
  | ref p =>
    have h : cL (S p) = some ds := h
    show ixC (S p) (.int i) S P = _
    cases e : S p with
    | none => rw [e] at h; cases h
    | some c =>
      rw [e] at h
      cases c with
      | lst es => cases h; exact oP_eq
      | dct es => cases h
  | _ => cases h
theorem lsx_len (h : lsx S x = some ds) : biO .len false [x] S P = P (.int ds.length) S := by
  cases x with
  | lst es => cases h; exact len_l
  | rls es =>
    cases h
    refine propext ⟨?_, fun h => ⟨_, rfl, h⟩⟩
    rintro ⟨_, e, h⟩
    cases e; exact h
  | ref p =>
    refine propext ⟨?_, fun g => ⟨ds, h, g⟩⟩
    rintro ⟨_, e, g⟩
    have e : lsx S (.ref p) = _ := e
    rw [h] at e
    cases e; exact g
  | _ => cases h
theorem lsx_ItL (h : lsx S x = some ds) {R : List D → (Sto → Prop) → Sto → Prop} (r : ∀ src : Sto → Prop, src S → (∀ S', lsx S' x = lsx S x → src S') → R ds src S) : ItL x S R := by
  cases x with
  | lst es => cases h; exact r _ trivial fun _ _ => trivial
  | rls es => cases h; exact r _ trivial fun _ _ => trivial
  | ref p => exact ⟨ds, h, r _ h fun S' e => (show lsx S' (.ref p) = some ds from e.trans h)⟩
  | _ => cases h
theorem lsx_ItP (h : lsx S x = some ds) {R : List D → (Sto → Prop) → Sto → Prop} (r : ∀ src : Sto → Prop, src S → (∀ S', lsx S' x = lsx S x → src S') → R ds src S) : ItP x S R := by
  cases x with
  | lst es => cases h; exact r _ trivial fun _ _ => trivial
  | rls es => cases h; exact r _ trivial fun _ _ => trivial
  | ref p => exact ⟨ds, h, r _ h fun S' e => (show lsx S' (.ref p) = some ds from e.trans h)⟩
  | _ => cases h
theorem lsx_sl {m : Bool} {lo hi : Option Int} (h : lsx S x = some ds) : slD m x lo hi S P = nwL m (cutD ds lo hi) S P := by
  have go : (∃ es, lsx S x = some es ∧ nwL m (cutD es lo hi) S P) = nwL m (cutD ds lo hi) S P := by
    refine propext ⟨?_, fun g => ⟨ds, h, g⟩⟩
    rintro ⟨_, e, g⟩
    rw [h] at e
    cases e; exact g
  cases x with
  | lst es => exact go
  | rls es => exact go
  | ref p => exact go
  | _ => cases h
end
theorem cut_map {α : Type} {f : α → D} {xs : List α} {lo hi : Option Int} : ∃ n m, cutD (xs.map f) lo hi = ((xs.drop n).take m).map f ∧ n = HT.sIx xs.length 0 lo ∧ m = HT.sIx xs.length xs.length hi - HT.sIx xs.length 0 lo := by
  refine ⟨_, _, ?_, rfl, rfl⟩
  unfold cutD
  rw [List.length_map, ← List.map_drop, ← List.map_take]
theorem cut_to {xs : List D} {k : Nat} : cutD xs none (some (k : Int)) = xs.take k := by
  unfold cutD
  rw [HT.sIx_none, HT.sIx_nat]
  show (xs.drop 0).take (min k xs.length - 0) = _
  rw [List.drop_zero, Nat.sub_zero]
  by_cases c : k ≤ xs.length
  · rw [Nat.min_eq_left c]
  · rw [Nat.min_eq_right (by omega), List.take_of_length_le (Nat.le_refl _), List.take_of_length_le (by omega)]
theorem cut_from {xs : List D} {k : Nat} : cutD xs (some (k : Int)) none = xs.drop k := by
  unfold cutD
  rw [HT.sIx_none, HT.sIx_nat]
  by_cases c : k ≤ xs.length
  · rw [Nat.min_eq_left c, List.take_of_length_le (by rw [List.length_drop]; omega)]
  · rw [Nat.min_eq_right (by omega), List.drop_of_length_le (Nat.le_refl _), List.drop_of_length_le (by omega), List.take_nil]
theorem use_draw {S : Sto} {p : Addr} {m : Int} {n : Nat} {Q : EQ} {U : Ex → Sto → Prop} (hF : Feed n S p) (hn : n < nMost) (h0 : 0 < m) (h1 : Bt 8000 m) (h : ∀ (r : Int) (S' : Sto), 0 ≤ r → r < m → Adv p n 1 S S' → Q (.int r) S') : @callS spDraw [.ref p, .int m] S U ⟨Q⟩ :=
  ⟨⟨h0, h1⟩, n, hF, hn, h⟩
/-- draws, at last an int -/
def spDrI (k b : Nat) : Spec := fun ds S Q _ => match ds with
  | [.ref p] => ∃ n, Feed n S p ∧ n + k < nMost ∧ ∀ (r : Int) (S' : Sto), Bt b r → Adv p n k S S' → Q (.int r) S'
  | _ => False
theorem use_drI {S : Sto} {p : Addr} {k b n : Nat} {Q : EQ} {U : Ex → Sto → Prop} (hF : Feed n S p) (hn : n + k < nMost) (h : ∀ (r : Int) (S' : Sto), Bt b r → Adv p n k S S' → Q (.int r) S') : @callS (spDrI k b) [.ref p] S U ⟨Q⟩ := ⟨n, hF, hn, h⟩
/-- draws, at last a fraction -/
def spDrQ (k b : Nat) : Spec := fun ds S Q _ => match ds with
  | [.ref p] => ∃ n, Feed n S p ∧ n + k < nMost ∧ ∀ (r : Rat) (S' : Sto), RB b r → Adv p n k S S' → Q (frq r) S'
  | _ => False
theorem use_drQ {S : Sto} {p : Addr} {k b n : Nat} {Q : EQ} {U : Ex → Sto → Prop} (hF : Feed n S p) (hn : n + k < nMost) (h : ∀ (r : Rat) (S' : Sto), RB b r → Adv p n k S S' → Q (frq r) S') : @callS (spDrQ k b) [.ref p] S U ⟨Q⟩ := ⟨n, hF, hn, h⟩
/-- two ints to the lowest fraction -/
def spLow : Spec := fun ds S Q _ => match ds with
  | [.int t, .int u] => (u ≠ 0 ∧ Bt 8000 t ∧ Bt 8000 u) ∧ Q (frq (Rat.divInt t u)) S
  | _ => False
theorem low_eq {S : Sto} {t u : Int} {Q : EQ} {U : Ex → Sto → Prop} : @callS spLow [.int t, .int u] S U ⟨Q⟩ = ((u ≠ 0 ∧ Bt 8000 t ∧ Bt 8000 u) ∧ Q (frq (Rat.divInt t u)) S) := rfl
/-- of one fraction -/
def spQ1 (b : Nat) (f : Rat → D) : Spec := fun ds S Q _ => ∃ x : Rat, ds = [frq x] ∧ RB b x ∧ Q (f x) S
/-- of two fractions -/
def spQ2 (b : Nat) (f : Rat → Rat → D) : Spec := fun ds S Q _ => ∃ x y : Rat, ds = [frq x, frq y] ∧ (RB b x ∧ RB b y) ∧ Q (f x y) S
theorem frq_inj {x y : Rat} (h : frq x = frq y) : x = y := by
  unfold frq at h
  have h1 := List.cons.inj (D.tup.inj h)
  have h2 := List.cons.inj h1.2
  have a := D.int.inj h1.1
  have b := D.int.inj h2.1
  exact Rat.ext a (by omega)
theorem q1_eq {b : Nat} {f : Rat → D} {x : Rat} {S : Sto} {Q : EQ} {U : Ex → Sto → Prop} : @callS (spQ1 b f) [frq x] S U ⟨Q⟩ = (RB b x ∧ Q (f x) S) := by
  refine propext ⟨?_, fun h => ⟨x, rfl, h⟩⟩
  rintro ⟨y, e, h⟩
  obtain rfl := frq_inj (List.cons.inj e).1
  exact h
theorem q2_eq {b : Nat} {f : Rat → Rat → D} {x y : Rat} {S : Sto} {Q : EQ} {U : Ex → Sto → Prop} : @callS (spQ2 b f) [frq x, frq y] S U ⟨Q⟩ = ((RB b x ∧ RB b y) ∧ Q (f x y) S) := by
  refine propext ⟨?_, fun h => ⟨x, y, rfl, h⟩⟩
  rintro ⟨x', y', e, h⟩
  have e := List.cons.inj e
  obtain rfl := frq_inj e.1
  obtain rfl := frq_inj (List.cons.inj e.2).1
  exact h
theorem sz_0 : (([] : List D).length ≤ sizeLine) = True := eq_true (Nat.zero_le _)
theorem sz_1 {a : D} : ([a].length ≤ sizeLine) = True := eq_true (by show 1 ≤ sizeLine; decide)
theorem sz_2 {a b : D} : ([a, b].length ≤ sizeLine) = True := eq_true (by show 2 ≤ sizeLine; decide)
theorem sz_3 {a b c : D} : ([a, b, c].length ≤ sizeLine) = True := eq_true (by show 3 ≤ sizeLine; decide)
theorem sz_4 {a b c d : D} : ([a, b, c, d].length ≤ sizeLine) = True := eq_true (by show 4 ≤ sizeLine; decide)
theorem sz_5 {a b c d e : D} : ([a, b, c, d, e].length ≤ sizeLine) = True := eq_true (by show 5 ≤ sizeLine; decide)
theorem sz_6 {a b c d e f : D} : ([a, b, c, d, e, f].length ≤ sizeLine) = True := eq_true (by show 6 ≤ sizeLine; decide)
theorem sz_7 {a b c d e f g : D} : ([a, b, c, d, e, f, g].length ≤ sizeLine) = True := eq_true (by show 7 ≤ sizeLine; decide)
theorem sz_8 {a b c d e f g h : D} : ([a, b, c, d, e, f, g, h].length ≤ sizeLine) = True := eq_true (by show 8 ≤ sizeLine; decide)
end GB
namespace GB
open PySem PySem.Spec PyProof.Rows L2
theorem at_in {α : Type} {xs : List α} {i : Int} (h0 : -(xs.length : Int) ≤ i) (h1 : i < xs.length) : ∃ x, atI xs i = some x ∧ x ∈ xs := by
  by_cases c : 0 ≤ i
  · exact at_has c h1
  · unfold atI ixN
    rw [if_neg c, if_pos h0]
    have : (i + xs.length).toNat < xs.length := by omega
    exact ⟨xs[(i + xs.length).toNat], List.getElem?_eq_getElem this, List.getElem_mem _⟩
theorem itp_t {S : Sto} {ds : List D} {R : List D → (Sto → Prop) → Sto → Prop} : ItP (.tup ds) S R = R ds (fun _ => True) S := rfl
theorem itp_l {S : Sto} {ds : List D} {R : List D → (Sto → Prop) → Sto → Prop} : ItP (.lst ds) S R = R ds (fun _ => True) S := rfl
theorem itl_l {S : Sto} {ds : List D} {R : List D → (Sto → Prop) → Sto → Prop} : ItL (.lst ds) S R = R ds (fun _ => True) S := rfl
theorem neg_frq {q : Rat} : D.tup [.int (0 - q.num), .int (q.den : Int)] = frq (-q) := by
  unfold frq
  rw [Rat.neg_num, Rat.neg_den, Int.zero_sub]
theorem same_frq {q : Rat} : D.tup [.int q.num, .int (q.den : Int)] = frq q := rfl
theorem lt_sub {x y : Rat} : decide (x.num * y.den - y.num * x.den < 0) = decide (x < y) := by
  rw [decide_eq_decide, Rat.lt_iff]
  omega
theorem lt_mul {x y : Rat} : decide (x.num * (y.den : Int) < y.num * (x.den : Int)) = decide (x < y) := by
  rw [decide_eq_decide, Rat.lt_iff]
theorem enu_n {n : Nat} : enuD n [] = [] := rfl
theorem enu_c {n : Nat} {d : D} {ds : List D} : enuD n (d :: ds) = .tup [.int (n : Int), d] :: enuD (n + 1) ds := rfl
theorem len_ref {S : Sto} {P : EQ} {p : Addr} {ds : List D} (h : S p = some (.lst ds)) : biO .len false [.ref p] S P = P (.int ds.length) S := lsx_len (x := .ref p) (show cL (S p) = some ds by rw [h]; rfl)
theorem at_ref {S : Sto} {P : EQ} {p : Addr} {ds : List D} (h : S p = some (.lst ds)) {i : Int} : ixD (.ref p) (.int i) S P = @ixS (atI ds i) S ⟨P⟩ := lsx_ix (x := .ref p) (show cL (S p) = some ds by rw [h]; rfl)
theorem pl_2 {a b : D} {i j : Nat} : (([a, b] : List D).length = ([i, j] : List Nat).length) = True := eq_true rfl
theorem pl_3 {a b c : D} {i j k : Nat} : (([a, b, c] : List D).length = ([i, j, k] : List Nat).length) = True := eq_true rfl
theorem iteE_q {k : Bool} {x y : Rat} {S : Sto} {Q : EQ} : @iteE k (fun P => P (frq x) S) (fun P => P (frq y) S) ⟨Q⟩ = Q (frq (if k = true then x else y)) S := by cases k <;> rfl
theorem joinS_q {k : Bool} {f : Dts → Dts} {x y : Rat} {δ1 δ2 : Dts} {S : Sto} {N : Dts → Sto → Prop} : @joinS k f (some (frq x) :: δ1) (some (frq y) :: δ2) S ⟨N⟩ = @joinS k (fun δ => f (some (frq (if k = true then x else y)) :: δ)) δ1 δ2 S ⟨N⟩ := by cases k <;> rfl
end GB

/-! GB20: the join of the defs of a law. -/
namespace GB
open PySem PySem.Spec PyProof.Rows L2
def AllOk (T : Tx) (k : Nat) : List Nd → Prop
  | [] => True
  | n :: r => n.ok T k ∧ AllOk T k r
theorem allok {T : Tx} {k : Nat} : ∀ l : List Nd, AllOk T k l → ∀ n ∈ l, n.ok T k
  | [], _, n, h => nomatch h
  | m :: r, h, n, e => by
    rcases List.mem_cons.mp e with e | e
    · subst e; exact h.1
    · exact allok r h.2 n e
theorem Callee.up {T : Tx} {j k : Nat} {x : Str} {sp : Spec} (h : Callee T j x sp) (l : j ≤ k) : Callee T k x sp := by
  obtain ⟨f, fd, ps, h1, h2, h3, h4⟩ := h
  exact ⟨f, fd, ps, h1, h2, h3, h4.up l⟩
/-- one def of the law -/
theorem callee {P : Program} {w : World} {K : FK} {mg : MG} {base : Heap} {x qual : Str} {params : Arguments} {body : List Stmt} {scope : Scope} {f : Addr} {fd : FuncData} {N ps : List Str} {k : Nat} {sp : Spec} {b : Sms}
    (hm : mg x = some (.ref f)) (F : FunD K x qual params body scope [] [] f fd) (S : FnScope N ps scope) (ck : chkSs N scope b body = true) (nd : AllOk ⟨P, w, K, mg, base⟩ k (nSs b)) (hb : Keeps N.length b sp ps.length)
    (bd : Binds K fd ps []) : Callee ⟨P, w, K, mg, base⟩ (k + 1) x sp :=
  ⟨f, fd, ps, hm, F.kp, bd, def_ok F S ck (allok _ nd) hb⟩
theorem callee_F {P : Program} {w : World} {K : FK} {mg : MG} {base : Heap} {x : Str} {params : Arguments} {body : List Stmt} {scope : Scope} {f : Addr} {fd : FuncData} {N ps : List Str} {k : Nat} {sp : Spec} {b : Sms} {qual : Str}
    (F : FunD K x qual params body scope [] [] f fd) (S : FnScope N ps scope) (ck : chkSs N scope b body = true) (nd : AllOk ⟨P, w, K, mg, base⟩ k (nSs b)) (hb : Keeps N.length b sp ps.length) :
    FOk P w K mg base (k + 1) f fd ps (LSp K mg sp) := def_ok F S ck (allok _ nd) hb
/-! ### constants of the module -/
mutual
def repB (K : FK) : D → Value → Bool
  | .non, .none => true
  | .bl b, .bool c => decide (b = c)
  | .int i, .int j _ => decide (i = j)
  | .str x, .str y _ => decide (x = y)
  | .tup ds, .ref p => (match K.lookup p with
    | some ⟨.type c, _, .seq its _, _⟩ => decide (c = "tuple") && (decide (its.size ≤ sizeLine) && repBs K ds its.toList)
    | _ => false)
  | .rls ds, .ref p => (match K.lookup p with
    | some ⟨.type c, none, .seq its _, _⟩ => decide (c = "list") && (decide (its.size ≤ sizeLine) && repBs K ds its.toList)
    | _ => false)
  | _, _ => false
def repBs (K : FK) : List D → List Value → Bool
  | [], [] => true
  | d :: ds, u :: us => repB K d u && repBs K ds us
  | _, _ => false
end
mutual
theorem repB_ok {K : FK} : ∀ (d : D) (u : Value), repB K d u = true → ∃ v, RelV v u ∧ ∀ F, Rep K F d v
  | .non, u, h => by
    cases u with
    | none => exact ⟨.non, rfl, fun _ => .non⟩
    | _ => exact absurd h Bool.false_ne_true
  | .bl b, u, h => by
    cases u with
    | bool c =>
      obtain rfl := of_decide_eq_true h
      exact ⟨.bl b, rfl, fun _ => .bl b⟩
    | _ => exact absurd h Bool.false_ne_true
  | .int b, u, h => by
    cases u with
    | int c t =>
      obtain rfl := of_decide_eq_true h
      exact ⟨.int b, ⟨t, rfl⟩, fun _ => .int b⟩
    | _ => exact absurd h Bool.false_ne_true
  | .str b, u, h => by
    cases u with
    | str c t =>
      obtain rfl := of_decide_eq_true h
      exact ⟨.str b, ⟨t, rfl⟩, fun _ => .str b⟩
    | _ => exact absurd h Bool.false_ne_true
  | .tup ds, u, h => by
    cases u with
    | ref p =>
      unfold repB at h
      cases q : K.lookup p with
      | none => rw [q] at h; cases h
      | some o =>
        obtain ⟨oc, od, dt, osl⟩ := o
        rw [q] at h
        cases oc with
        | type c =>
          cases dt with
          | seq its n =>
            obtain ⟨h1, h2⟩ := and_t (show (decide (c = "tuple") && (decide (its.size ≤ sizeLine) && repBs K ds its.toList)) = true from h)
            obtain ⟨h3, h4⟩ := and_t h2
            obtain ⟨vs, r, rr⟩ := repBs_ok ds its.toList h4
            exact ⟨.ref p, rfl, fun F => .tup (.inr ⟨_, its, n, q, congrArg Value.type (of_decide_eq_true h1), rfl, of_decide_eq_true h3, r⟩) (rr F)⟩
          | _ => cases h
        | _ => cases dt <;> cases h
    | _ => exact absurd h Bool.false_ne_true
  | .rls ds, u, h => by
    cases u with
    | ref p =>
      unfold repB at h
      cases q : K.lookup p with
      | none => rw [q] at h; cases h
      | some o =>
        obtain ⟨oc, od, dt, osl⟩ := o
        rw [q] at h
        cases oc with
        | type c =>
          cases od with
          | none =>
            cases dt with
            | seq its n =>
              obtain ⟨h1, h2⟩ := and_t (show (decide (c = "list") && (decide (its.size ≤ sizeLine) && repBs K ds its.toList)) = true from h)
              obtain ⟨h3, h4⟩ := and_t h2
              obtain ⟨vs, r, rr⟩ := repBs_ok ds its.toList h4
              exact ⟨.ref p, rfl, fun F => .rls (.inr ⟨_, its, n, q, congrArg Value.type (of_decide_eq_true h1), rfl, rfl, of_decide_eq_true h3, r⟩) (rr F)⟩
            | _ => cases h
          | some _ => cases dt <;> cases h
        | _ => cases od <;> cases dt <;> cases h
    | _ => exact absurd h Bool.false_ne_true
  | .lst _, u, h => by cases u <;> exact absurd h Bool.false_ne_true
  | .dct _, u, h => by cases u <;> exact absurd h Bool.false_ne_true
  | .ref _, u, h => by cases u <;> exact absurd h Bool.false_ne_true
theorem repBs_ok {K : FK} : ∀ (ds : List D) (us : List Value), repBs K ds us = true → ∃ vs, Vals vs us ∧ ∀ F, RepL K F ds vs
  | [], [], _ => ⟨[], .nil, fun _ => .nil⟩
  | [], _ :: _, h => absurd h Bool.false_ne_true
  | _ :: _, [], h => absurd h Bool.false_ne_true
  | d :: ds, u :: us, h => by
    obtain ⟨h1, h2⟩ := and_t h
    obtain ⟨v, r, rr⟩ := repB_ok d u h1
    obtain ⟨vs, s, ss⟩ := repBs_ok ds us h2
    exact ⟨v :: vs, .cons r s, fun F => .cons (rr F) (ss F)⟩
end
def mgB (K : FK) (x : Str) (d : D) : Bool := match PySem.W.nsIn K mainGlobals x with
  | some (some u) => repB K d u
  | _ => false
theorem mgB_ok {T : Tx} {h : Heap} {x : Str} {d : D} (X : T.K.In h) (G : h.Ns mainGlobals T.mg) (c : mgB T.K x d = true) : Global T x d := by
  unfold mgB at c
  cases e : PySem.W.nsIn T.K mainGlobals x with
  | none => rw [e] at c; cases c
  | some r =>
    rw [e] at c
    cases r with
    | none => cases c
    | some u =>
      obtain ⟨v, r, rr⟩ := repB_ok d u c
      exact ⟨u, v, PySem.W.mg_of X G e, r, rr⟩
/-! ### the head's Hook, with constants -/
abbrev AlX : Type := He.AlD × Bool
def allC (cs : List (Str × D)) (K : FK) : Bool := cs.all fun q => mgB K q.1 q.2
def SaysX (fa : List He.Fa) (fn : List He.DefD) (cs : List (Str × D)) (K : FK) : Prop := He.SaysD fa fn K ∧ allC cs K = true
def obsX (n : Nat) (fa : List He.Fa) (fn : List He.DefD) (cs : List (Str × D)) (g : Addr → Option Obj) : AlX := (He.obsD fa fn (He.frG g (He.asD g n)), allC cs (He.frG g (He.asD g n)))
def hookX (n : Nat) (fa : List He.Fa) (fn : List He.DefD) (cs : List (Str × D)) : PySem.W.Hook where
  α := AlX
  obs := fun s => obsX n fa fn cs s.heap.get?
  val := fun _ => (He.valD fn, true)
  says := fun _ h => ∃ K : PySem.W.Frag, K.In h ∧ SaysX fa fn cs K
  of := fun _ _ e => ⟨_, He.frG_in, ⟨congrArg (fun z : AlX => z.1) e, congrArg (fun z : AlX => z.2) e⟩⟩
  keeps := fun _ _ _ ⟨K, hK, c⟩ k => ⟨K, PySem.W.Frag.In.keeps hK k, c⟩
theorem obsX_eq {n : Nat} {fa : List He.Fa} {fn : List He.DefD} {cs : List (Str × D)} {g : Addr → Option Obj} {s : Shared} (h : ∀ a, g a = s.heap.get? a) : obsX n fa fn cs g = (hookX n fa fn cs).obs s := by
  have e : g = s.heap.get? := funext h
  rw [e] <;> rfl
theorem SaysX.const {fa : List He.Fa} {fn : List He.DefD} {cs : List (Str × D)} {K : FK} (c : SaysX fa fn cs K) (i : Nat) {x : Str} {d : D} (h : cs[i]? = some (x, d) := by rfl) : mgB K x d = true :=
  List.all_eq_true.mp c.2 (x, d) (List.mem_of_getElem? h)
end GB

/-! GB21: comparing fractions and lists of them; polynomials as lists of rationals. -/
namespace GB
open PySem PySem.Spec PyProof.Rows L2
theorem py_frq {S : Sto} : ∀ {n : Nat} {x : Rat} {d : PyData}, pyOf S n (frq x) = some d → d = frP x
  | 0, _, _, h => by cases h
  | 1, _, _, h => by cases h
  | n + 2, x, d, h => by
    have e : pyOf S (n + 2) (frq x) = some (frP x) := rfl
    rw [e] at h
    exact (Option.some.inj h).symm
theorem eqv_frP (x y : Rat) : PyData.eqv (frP x) (frP y) = decide (x = y) := by
  have e : PyData.eqv (frP x) (frP y) = ((x.num == y.num) && (((x.den : Int) == (y.den : Int)) && true)) := rfl
  rw [e, Bool.and_true]
  by_cases c : x = y
  · subst c; simp
  · rw [decide_eq_false c]
    rw [Bool.and_eq_false_iff]
    by_cases d : x.num = y.num
    · right
      rw [beq_eq_false_iff_ne]
      intro e
      exact c (Rat.ext d (by omega))
    · left
      rw [beq_eq_false_iff_ne]
      exact d
theorem eqD_frq {neg : Bool} {S : Sto} {x y : Rat} {P : EQ} : eqD neg (frq x) (frq y) S P = P (.bl (xor neg (decide (x = y)))) S := by
  refine propext ⟨?_, fun h => Pd.eqD Pd.frq Pd.frq (by decide) (by decide) (by rw [eqv_frP]; exact h)⟩
  rintro ⟨n, d, e, h1, h2, _, _, h⟩
  obtain rfl := py_frq h1
  obtain rfl := py_frq h2
  rw [eqv_frP] at h
  exact h
theorem eq_q {S : Sto} {x y : Rat} {P : EQ} : cmpD .eq (frq x) (frq y) S P = P (.bl (decide (x = y))) S := by
  show eqD false (frq x) (frq y) S P = _
  rw [eqD_frq, Bool.false_xor]
theorem ne_q {S : Sto} {x y : Rat} {P : EQ} : cmpD .ne (frq x) (frq y) S P = P (.bl (!decide (x = y))) S := by
  show eqD true (frq x) (frq y) S P = _
  rw [eqD_frq, Bool.true_xor]
theorem ixC_l {S : Sto} {ds : List D} {i : Int} {P : EQ} : ixC (some (.lst ds)) (.int i) S P = @ixS (atI ds i) S ⟨P⟩ := oP_eq
/-- the fractions' list as data -/
theorem PdL.frqs {S : Sto} (xs : List Rat) : PdL S (xs.map frq) (xs.map frP) 1 := PdL.map (fun _ => Pd.frq) xs
theorem eqvAll_nil {xs : List PyData} : PyData.eqvAll xs [] = xs.isEmpty := by cases xs <;> rfl
theorem pyL_nilR {f : D → Option PyData} {xs : List D} {ds : List PyData} (h : pyL f xs = some ds) : ds.isEmpty = xs.isEmpty := by
  cases xs with
  | nil => cases h; rfl
  | cons x xs =>
    unfold pyL at h
    cases h1 : f x with
    | none => rw [h1] at h; cases h
    | some d =>
      rw [h1] at h
      cases h2 : pyL f xs with
      | none => rw [h2] at h; cases h
      | some es => rw [h2] at h; cases h; rfl
/-- x != [], x a list of fractions that stands in one way or another -/
theorem ne_nilQ {S : Sto} {x : D} {xs : List Rat} {T : EQ} (h : lsx S x = some (xs.map frq)) (t : T (.bl (!xs.isEmpty)) S) : cmpD .ne x (.lst []) S T := by
  have g1 : Pd S x (.list (xs.map frP)) 2 := (PdL.frqs xs).lsx h
  have g2 : Pd S (.lst []) (.list []) 1 := (PdL.nil (S := S)).lst
  refine Pd.eqD (neg := true) g1 g2 (by decide) (by decide) ?_
  have e : PyData.eqv (.list (xs.map frP)) (.list []) = xs.isEmpty := by
    show PyData.eqvAll (xs.map frP) [] = _
    rw [eqvAll_nil]
    cases xs <;> rfl
  rw [e, Bool.true_xor]
  exact t
theorem sdel_supd {S : Sto} {p : Addr} {c : Cell} (h : S p = none) : sdel (supd S p c) p = S := by
  funext q
  unfold sdel supd
  by_cases e : q = p
  · subst e; rw [if_pos rfl, h]
  · rw [if_neg e, if_neg e]
theorem frz_ref {S : Sto} {p : Addr} {ds : List D} {P : EQ} : frzD (.ref p) (supd S p (.lst ds)) P = P (.lst ds) (sdel (supd S p (.lst ds)) p) := by
  show frzC p (supd S p (.lst ds) p) _ P = _
  rw [supd_same]
  rfl
theorem tup_l {S : Sto} {ds : List D} {P : EQ} : biO .tuple false [.lst ds] S P = P (.tup ds) S := by
  refine propext ⟨?_, fun h => ⟨ds, rfl, h⟩⟩
  rintro ⟨_, e, h⟩
  cases e; exact h
theorem tup_t {S : Sto} {ds : List D} {P : EQ} : biO .tuple false [.tup ds] S P = P (.tup ds) S := rfl
theorem lst_l {S : Sto} {m : Bool} {ds : List D} {P : EQ} : biO .list m [.lst ds] S P = nwL m ds S P := by
  refine propext ⟨?_, fun h => ⟨ds, rfl, h⟩⟩
  rintro ⟨_, e, h⟩
  cases e; exact h
theorem lst_t {S : Sto} {m : Bool} {ds : List D} {P : EQ} : biO .list m [.tup ds] S P = nwL m ds S P := by
  refine propext ⟨?_, fun h => ⟨ds, rfl, h⟩⟩
  rintro ⟨_, e, h⟩
  cases e; exact h
theorem sl_t {m : Bool} {S : Sto} {ds : List D} {lo hi : Option Int} {P : EQ} : slD m (.tup ds) lo hi S P = P (.tup (cutD ds lo hi)) S := rfl
theorem slr_t {m : Bool} {S : Sto} {ds : List D} {P : EQ} : slrD m (.tup ds) S P = P (.tup ds.reverse) S := rfl

/-! ### polynomials -/
def plD (p : List Rat) : D := .tup (p.map frq)
def plP (p : List Rat) : PyData := .tuple (p.map frP)
/-- without the noughts at its end -/
def trim : List Rat → List Rat
  | [] => []
  | a :: p => if trim p = [] ∧ a = 0 then [] else a :: trim p
theorem trim_app0 : ∀ p : List Rat, trim (p ++ [0]) = trim p
  | [] => by simp [trim]
  | a :: p => by
    show (if trim (p ++ [0]) = [] ∧ a = 0 then [] else a :: trim (p ++ [0])) = _
    rw [trim_app0 p]
    rfl
theorem trim_app {b : Rat} (h : b ≠ 0) : ∀ p : List Rat, trim (p ++ [b]) = p ++ [b]
  | [] => by simp [trim, h]
  | a :: p => by
    show (if trim (p ++ [b]) = [] ∧ a = 0 then [] else a :: trim (p ++ [b])) = _
    rw [trim_app h p, if_neg (by simp)]
    rfl
theorem trim_len : ∀ p : List Rat, (trim p).length ≤ p.length
  | [] => Nat.le_refl _
  | a :: p => by
    show (if trim p = [] ∧ a = 0 then [] else a :: trim p).length ≤ _
    split
    · exact Nat.zero_le _
    · exact Nat.succ_le_succ (trim_len p)
theorem trim_mem : ∀ {p : List Rat} {x : Rat}, x ∈ trim p → x ∈ p
  | [], _, h => nomatch h
  | a :: p, x, h => by
    have h : x ∈ (if trim p = [] ∧ a = 0 then [] else a :: trim p) := h
    split at h
    · cases h
    · rcases List.mem_cons.mp h with h | h
      · rw [h]; exact List.mem_cons_self
      · exact List.mem_cons_of_mem _ (trim_mem h)
theorem trim_trim : ∀ p : List Rat, trim (trim p) = trim p
  | [] => rfl
  | a :: p => by
    show trim (if trim p = [] ∧ a = 0 then [] else a :: trim p) = (if trim p = [] ∧ a = 0 then [] else a :: trim p)
    split
    · rfl
    · rename_i c
      show (if trim (trim p) = [] ∧ a = 0 then [] else a :: trim (trim p)) = _
      rw [trim_trim p, if_neg c]
/-- the i-th number, nought behind the end -/
def pn (p : List Rat) (i : Nat) : Rat := p.getD i 0
theorem trim_pn : ∀ (p : List Rat) (i : Nat), pn (trim p) i = pn p i
  | [], i => rfl
  | a :: p, i => by
    have ih := trim_pn p
    show pn (if trim p = [] ∧ a = 0 then [] else a :: trim p) i = _
    split
    · rename_i c
      cases i with
      | zero =>
        show (0 : Rat) = a
        exact c.2.symm
      | succ i =>
        have := ih i
        rw [c.1] at this
        exact this
    · cases i with
      | zero => rfl
      | succ i => exact ih i
/-- trimmed lists are told by their numbers -/
theorem trim_ext : ∀ {p q : List Rat}, (∀ i, pn p i = pn q i) → trim p = trim q
  | [], [], _ => rfl
  | [], b :: q, h => by
    have h0 : (0 : Rat) = b := h 0
    have ht : trim [] = trim q := trim_ext fun i => h (i + 1)
    show [] = (if trim q = [] ∧ b = 0 then [] else b :: trim q)
    rw [if_pos ⟨ht.symm, h0.symm⟩]
  | a :: p, [], h => by
    have h0 : a = (0 : Rat) := h 0
    have ht : trim p = trim [] := trim_ext fun i => h (i + 1)
    show (if trim p = [] ∧ a = 0 then [] else a :: trim p) = []
    rw [if_pos ⟨ht, h0⟩]
  | a :: p, b :: q, h => by
    have h0 : a = b := h 0
    have ht : trim p = trim q := trim_ext fun i => h (i + 1)
    show (if trim p = [] ∧ a = 0 then [] else a :: trim p) = (if trim q = [] ∧ b = 0 then [] else b :: trim q)
    rw [h0, ht]
end GB

/-! GB22: lists joined, made longer, stored into; comprehensions. -/
namespace GB
open PySem PySem.Spec PyProof.Rows L2
section
variable {S : Sto} {P : EQ} {m : Bool} {a b : List D}
theorem mul_l {k : Int} : mulD m (.lst a) (.int k) S P = ((-(2 ^ 63) ≤ k ∧ k < 2 ^ 63 ∧ a.length * k.toNat ≤ sizeLine) ∧ nwL m (List.replicate k.toNat a).flatten S P) := rfl
theorem add_l : addD m (.lst a) (.lst b) S P = (a.length + b.length ≤ sizeLine ∧ nwL m (a ++ b) S P) := by
  refine propext ⟨?_, fun h => ⟨b, rfl, h⟩⟩
  rintro ⟨_, e, h⟩
  cases e; exact h
theorem rep_one {d : D} {n : Nat} : (List.replicate n [d]).flatten = List.replicate n d := by
  induction n with
  | zero => rfl
  | succ n ih =>
    rw [List.replicate_succ, List.flatten_cons, ih]
    rfl
/-- a[i] = v, a of the store -/
theorem set_at {p : Addr} {ds : List D} {i : Int} {j : Nat} {v : D} {R : Sto → Prop} (h : S p = some (.lst ds)) (hj : i = (j : Int)) (hl : j < ds.length) (r : R (supd S p (.lst (ds.set j v)))) : setD (.ref p) (.int i) v S R := by
  show setC p (S p) (.int i) v S R
  rw [h]
  refine ⟨i, j, rfl, ?_, r⟩
  subst hj
  unfold ixN
  rw [if_pos (Int.natCast_nonneg j), if_pos (by omega)]
  rfl
end
def noIf : WpT := fun _ S T => T true S
theorem ifs_0 {X : XP} : (ws X .nil).ifs = noIf := rfl
theorem setC_l {S : Sto} {p : Addr} {ds : List D} {k : Int} {z : D} {R : Sto → Prop} : setC p (some (.lst ds)) (.int k) z S R = oP (fun j => R (supd S p (.lst (ds.set j z)))) (ixN ds.length k) := by
  refine propext ⟨?_, ?_⟩
  · rintro ⟨_, j, e, h1, h2⟩
    cases e
    rw [h1]
    exact h2
  · intro h
    cases e : ixN ds.length k with
    | none => rw [e] at h; exact absurd h id
    | some j => rw [e] at h; exact ⟨k, j, rfl, e, h⟩
theorem gsl_nm {i : Nat} : gSl (.nm i) = [i] := rfl
theorem gsl_tp {gs : Gs} : gSl (.tp gs) = gsSl gs := rfl
theorem gsl_n : gsSl .nil = [] := rfl
theorem gsl_c {i : Nat} {r : Gs} : gsSl (.cons (.nm i) r) = i :: gsSl r := rfl
theorem wipe_n {δ : Dts} : wipeD δ [] = δ := rfl
theorem wipe_c {δ : Dts} {v : Nat} {vs : List Nat} : wipeD δ (v :: vs) = wv (wipeD δ vs) v := wv_eq _ _
section
variable {m : Bool} {tg : G} {elt : WpE} {src : Sto → Prop} {δ : Dts} {P : EQ}
/-- a comprehension by what it keeps -/
theorem lc_inv (I : List D → List D → Sto → Prop)
    (step : ∀ (d : D) (ds acc : List D) (S : Sto) (nx : D → Sto → Prop), (∀ y S2, src S2 → I ds (acc ++ [y]) S2 → nx y S2) → I (d :: ds) acc S → acc.length < sizeLine ∧ wG tg d δ fun δ' => elt δ' S nx)
    (fin : ∀ acc S, I [] acc S → nwL m acc S P) : ∀ (ds acc : List D) (S : Sto), I ds acc S → wLc m tg noIf elt src δ P ds acc S
  | [], acc, S, h => fin acc S h
  | d :: ds, acc, S, h => by
    have hl : acc.length < sizeLine := (step d ds acc S (fun _ _ => True) (fun _ _ _ _ => trivial) h).1
    have z := (step d ds acc S (fun y S4 => src S4 ∧ acc.length < sizeLine ∧ wLc m tg noIf elt src δ P ds (acc ++ [y]) S4) (fun y S2 s i => ⟨s, hl, lc_inv I step fin ds _ S2 i⟩) h).2
    exact z
/-- .. where each item is reckoned, and nothing changed -/
theorem lc_pure {α : Type} {f g : α → D} {S : Sto} (hs : src S) (xs : List α) (hl : xs.length ≤ sizeLine) (h : ∀ a ∈ xs, ∀ Q : EQ, Q (g a) S → wG tg (f a) δ fun δ' => elt δ' S Q) (p : nwL m (xs.map g) S P) : wLc m tg noIf elt src δ P (xs.map f) [] S := by
  refine lc_inv (fun ds acc S' => S' = S ∧ ∃ ys zs : List α, xs = ys ++ zs ∧ ds = zs.map f ∧ acc = ys.map g) ?_ ?_ _ _ _ ⟨rfl, [], xs, rfl, rfl, rfl⟩
  · rintro d ds acc S' nx hnx ⟨rfl, ys, zs, rfl, e, rfl⟩
    cases zs with
    | nil => cases e
    | cons z zs =>
      cases e
      refine ⟨?_, h z (by simp) nx (hnx _ _ hs ⟨rfl, ys ++ [z], zs, by simp, rfl, by simp⟩)⟩
      rw [List.length_map]
      rw [List.length_append, List.length_cons] at hl
      omega
  · rintro acc S' ⟨rfl, ys, zs, rfl, e, rfl⟩
    cases zs with
    | cons _ _ => cases e
    | nil =>
      rw [List.append_nil] at p
      exact p
end
theorem rng_map {n : Nat} : rngD 0 n = (List.range n).map fun i : Nat => D.int (i : Int) := by
  unfold rngD
  refine List.map_congr_left fun i _ => ?_
  rw [Int.zero_add]
theorem rng_mapL {lo : Int} {n : Nat} : rngD lo n = (List.range n).map fun i : Nat => D.int (lo + (i : Int)) := rfl
/-- the i-th of a list of fractions -/
theorem at_pn {p : List Rat} {i : Nat} (h : i < p.length) : atI p (i : Int) = some (pn p i) := by
  rw [at_n h]
  unfold pn
  rw [List.getD_eq_getElem?_getD, List.getElem?_eq_getElem h]
  rfl
end GB

/-! GB23: sums, products, values of polynomials, plainly. -/
namespace GB
open PySem PySem.Spec PyProof.Rows L2
def RL (b : Nat) (p : List Rat) : Prop := ∀ x ∈ p, RB b x
theorem RL.le {a b : Nat} {p : List Rat} (h : RL a p) (l : a ≤ b) : RL b p := fun x m => (h x m).le l
theorem RL.trim {a : Nat} {p : List Rat} (h : RL a p) : RL a (trim p) := fun x m => h x (trim_mem m)
theorem RB.zero {b : Nat} (h : 1 ≤ b) : RB b 0 := (RB.lit (b := 1) (by decide)).le h
theorem RL.pn {b : Nat} {p : List Rat} (h : RL b p) (hb : 1 ≤ b) (i : Nat) : RB b (pn p i) := by
  unfold GB.pn
  rw [List.getD_eq_getElem?_getD]
  cases e : p[i]? with
  | none => exact RB.zero hb
  | some x => exact h x (List.mem_of_getElem? e)
theorem pn_len {p : List Rat} {i : Nat} (h : p.length ≤ i) : pn p i = 0 := by
  unfold pn
  rw [List.getD_eq_getElem?_getD, List.getElem?_eq_none h]
  rfl
theorem pn_map {f : Nat → Rat} {n i : Nat} : pn ((List.range n).map f) i = if i < n then f i else 0 := by
  unfold pn
  rw [List.getD_eq_getElem?_getD, List.getElem?_map]
  split
  · rename_i h
    rw [List.getElem?_range h]
    rfl
  · rename_i h
    rw [List.getElem?_eq_none (by simp; omega)]
    rfl
/-- the sum -/
def addP (a b : List Rat) : List Rat := (List.range (max a.length b.length)).map fun i => pn a i + pn b i
theorem addP_pn {a b : List Rat} {i : Nat} : pn (addP a b) i = pn a i + pn b i := by
  unfold addP
  rw [pn_map]
  split
  · rfl
  · rename_i h
    rw [pn_len (p := a) (by omega), pn_len (p := b) (by omega), Rat.add_zero]
theorem addP_RL {a b : List Rat} {x y : Nat} (ha : RL x a) (hb : RL y b) (h0 : 1 ≤ x) (h1 : 1 ≤ y) : RL (x + y + 1) (addP a b) := by
  intro z m
  obtain ⟨i, _, rfl⟩ := List.mem_map.mp m
  exact (ha.pn h0 i).add (hb.pn h1 i)
/-- the product's numbers -/
def conv : List Rat → List Rat → Nat → Rat
  | [], _, _ => 0
  | x :: a, b, 0 => x * pn b 0
  | x :: a, b, k + 1 => x * pn b (k + 1) + conv a b k
/-- one number more at a place -/
def addAt (f : List Rat) (n : Nat) (v : Rat) : List Rat := f.set n (pn f n + v)
theorem addAt_len {f : List Rat} {n : Nat} {v : Rat} : (addAt f n v).length = f.length := List.length_set
theorem pn_set {f : List Rat} {n i : Nat} {v : Rat} (h : n < f.length) : pn (f.set n v) i = if i = n then v else pn f i := by
  unfold pn
  rw [List.getD_eq_getElem?_getD, List.getD_eq_getElem?_getD]
  split
  · rename_i e
    subst e
    rw [List.getElem?_set_self h]
    rfl
  · rename_i e
    rw [List.getElem?_set_ne (fun z => e z.symm)]
theorem addAt_pn {f : List Rat} {n i : Nat} {v : Rat} (h : n < f.length) : pn (addAt f n v) i = pn f i + (if i = n then v else 0) := by
  unfold addAt
  rw [pn_set h]
  split
  · rename_i e; rw [e]
  · rw [Rat.add_zero]
theorem addAt_RL {f : List Rat} {n : Nat} {v : Rat} {x : Nat} (hf : RL x f) (h : RB x (pn f n + v)) : RL x (addAt f n v) := by
  intro z m
  rcases List.mem_or_eq_of_mem_set m with m | m
  · exact hf z m
  · rw [m]; exact h
/-- the value, from the lowest number -/
def ev : List Rat → Rat → Rat
  | [], _ => 0
  | a :: p, t => a + t * ev p t

theorem conv_nil {b : List Rat} {k : Nat} : conv [] b k = 0 := by cases k <;> rfl
theorem conv_snoc {b : List Rat} {x : Rat} : ∀ (a : List Rat) (k : Nat), conv (a ++ [x]) b k = conv a b k + (if a.length ≤ k then x * pn b (k - a.length) else 0)
  | [], 0 => by
    show x * pn b 0 = 0 + _
    simp [Rat.zero_add]
  | [], k + 1 => by
    show x * pn b (k + 1) + conv [] b k = conv [] b (k + 1) + _
    rw [conv_nil, conv_nil]
    simp [Rat.zero_add, Rat.add_zero]
  | y :: a, 0 => by
    show y * pn b 0 = y * pn b 0 + _
    rw [if_neg (by simp), Rat.add_zero]
  | y :: a, k + 1 => by
    show y * pn b (k + 1) + conv (a ++ [x]) b k = y * pn b (k + 1) + conv a b k + _
    rw [conv_snoc a k, Rat.add_assoc]
    congr 2
    by_cases c : a.length ≤ k
    · rw [if_pos c, if_pos (by simpa using c)]
      congr 2
      rw [List.length_cons]
      omega
    · rw [if_neg c, if_neg (by simpa using c)]
theorem conv_far : ∀ {a b : List Rat} {k : Nat}, a.length + b.length ≤ k → conv a b k = 0
  | [], b, k, _ => conv_nil
  | x :: a, b, 0, h => by
    rw [List.length_cons] at h
    omega
  | x :: a, b, k + 1, h => by
    rw [List.length_cons] at h
    show x * pn b (k + 1) + conv a b k = 0
    rw [pn_len (by omega), conv_far (by omega), Rat.mul_zero, Rat.add_zero]
theorem pn_app {a : List Rat} {x : Rat} {i : Nat} : pn (a ++ [x]) i = if i < a.length then pn a i else if i = a.length then x else 0 := by
  unfold pn
  rw [List.getD_eq_getElem?_getD, List.getD_eq_getElem?_getD]
  by_cases c : i < a.length
  · rw [if_pos c, List.getElem?_append_left c]
  · rw [if_neg c]
    by_cases d : i = a.length
    · rw [if_pos d]
      subst d
      rw [List.getElem?_append_right (Nat.le_refl _)]
      simp
    · rw [if_neg d, List.getElem?_eq_none (by rw [List.length_append]; simp; omega)]
      rfl
theorem ev_snoc {t : Rat} : ∀ {p : List Rat} {x : Rat}, ev (p ++ [x]) t = ev p t + x * t ^ p.length
  | [], x => by
    show x + t * 0 = 0 + x * t ^ 0
    grind
  | a :: p, x => by
    show a + t * ev (p ++ [x]) t = a + t * ev p t + x * t ^ (p.length + 1)
    rw [ev_snoc]
    grind
theorem pn_take {p : List Rat} {i n : Nat} (h : i < n) : pn (p.take n) i = pn p i := by
  unfold pn
  rw [List.getD_eq_getElem?_getD, List.getD_eq_getElem?_getD, List.getElem?_take, if_pos h]
theorem take_succ_pn {p : List Rat} {i : Nat} (h : i < p.length) : p.take (i + 1) = p.take i ++ [pn p i] := by
  rw [List.take_succ]
  congr 1
  unfold pn
  rw [List.getD_eq_getElem?_getD, List.getElem?_eq_getElem h]
  rfl

theorem trim_len_le : ∀ (p : List Rat) (n : Nat), (∀ i, n ≤ i → pn p i = 0) → (trim p).length ≤ n
  | [], n, _ => Nat.zero_le n
  | a :: p, 0, h => by
    have h0 : a = 0 := h 0 (Nat.le_refl _)
    have ht := trim_len_le p 0 fun i _ => h (i + 1) (Nat.zero_le _)
    show (if trim p = [] ∧ a = 0 then [] else a :: trim p).length ≤ 0
    rw [if_pos ⟨List.eq_nil_of_length_eq_zero (Nat.le_zero.mp ht), h0⟩]
    exact Nat.le_refl _
  | a :: p, n + 1, h => by
    have ht := trim_len_le p n fun i hi => h (i + 1) (Nat.succ_le_succ hi)
    show (if trim p = [] ∧ a = 0 then [] else a :: trim p).length ≤ n + 1
    split
    · exact Nat.zero_le _
    · exact Nat.succ_le_succ ht
/-- a trimmed list is told by its numbers -/
theorem trim_uniq {p q : List Rat} (hp : trim p = p) (hq : trim q = q) (h : ∀ i, pn p i = pn q i) : p = q := by
  rw [← hp, ← hq]
  exact trim_ext h
/-- moved by t: the numbers -/
def mvN : List Rat → Rat → Nat → Rat
  | [], _, _ => 0
  | c :: p, t, 0 => t * mvN p t 0 + c
  | c :: p, t, k + 1 => t * mvN p t (k + 1) + mvN p t k
theorem mvN_far {t : Rat} : ∀ {p : List Rat} {k : Nat}, p.length ≤ k → mvN p t k = 0
  | [], k, _ => by cases k <;> rfl
  | c :: p, 0, h => by simp at h
  | c :: p, k + 1, h => by
    rw [List.length_cons] at h
    show t * mvN p t (k + 1) + mvN p t k = 0
    rw [mvN_far (by omega), mvN_far (by omega)]
    grind
theorem conv_two {t : Rat} : ∀ (a : List Rat), conv a [t, 1] 0 = pn a 0 * t ∧ ∀ k, conv a [t, 1] (k + 1) = pn a (k + 1) * t + pn a k
  | [] => by
    refine ⟨?_, fun k => ?_⟩
    · show (0 : Rat) = 0 * t
      grind
    · show (0 : Rat) = 0 * t + 0
      grind
  | x :: a => by
    obtain ⟨h1, h2⟩ := conv_two a
    refine ⟨rfl, fun k => ?_⟩
    cases k with
    | zero =>
      show x * 1 + conv a [t, 1] 0 = pn a 0 * t + x
      rw [h1]
      grind
    | succ k =>
      have e : pn [t, 1] (k + 2) = 0 := rfl
      show x * pn [t, 1] (k + 2) + conv a [t, 1] (k + 1) = pn a (k + 1) * t + pn a k
      rw [h2, e]
      grind
def sB : Nat → Nat
  | 0 => 1
  | n + 1 => 1 + n * (sB n + 46) + 46
end GB

/-! GB24: sizes by a common bottom: q * D a whole number; q at most V either way. -/
namespace GB
open PySem PySem.Spec PyProof.Rows L2
def Ig (D : Nat) (q : Rat) : Prop := ∃ z : Int, q * (D : Rat) = (z : Rat)
def Ab (V : Rat) (q : Rat) : Prop := -V ≤ q ∧ q ≤ V
theorem Ig.add {D : Nat} {x y : Rat} (h : Ig D x) (k : Ig D y) : Ig D (x + y) := by
  obtain ⟨a, ha⟩ := h
  obtain ⟨b, hb⟩ := k
  exact ⟨a + b, by rw [Rat.intCast_add]; grind⟩
theorem Ig.sub {D : Nat} {x y : Rat} (h : Ig D x) (k : Ig D y) : Ig D (x - y) := by
  obtain ⟨a, ha⟩ := h
  obtain ⟨b, hb⟩ := k
  exact ⟨a - b, by rw [Rat.intCast_sub]; grind⟩
theorem Ig.mul {D E : Nat} {x y : Rat} (h : Ig D x) (k : Ig E y) : Ig (D * E) (x * y) := by
  obtain ⟨a, ha⟩ := h
  obtain ⟨b, hb⟩ := k
  exact ⟨a * b, by rw [Rat.intCast_mul, Rat.natCast_mul, ← ha, ← hb]; grind⟩
theorem Ig.up {D : Nat} {x : Rat} (h : Ig D x) (E : Nat) : Ig (D * E) x := by
  obtain ⟨a, ha⟩ := h
  exact ⟨a * (E : Int), by rw [Rat.intCast_mul, Rat.natCast_mul, ← ha, Rat.intCast_natCast]; grind⟩
theorem Ig.zero {D : Nat} : Ig D 0 := ⟨0, by rw [Rat.zero_mul]; rfl⟩
theorem Ig.self (q : Rat) : Ig q.den q := by
  refine ⟨q.num, ?_⟩
  rw [← rat_mul]
  have e1 : ((q.den : Rat)).num = (q.den : Int) := rfl
  have e2 : ((q.den : Rat)).den = 1 := rfl
  rw [e1, e2]
  have e3 : (q.den : Int) * ((1 : Nat) : Int) = 1 * (q.den : Int) := by omega
  rw [e3, Rat.divInt_mul_right den_ne]
  exact Rat.num_divInt_den (q.num : Rat)
theorem Ab.add {V W : Rat} {x y : Rat} (h : Ab V x) (k : Ab W y) : Ab (V + W) (x + y) := by
  obtain ⟨a, b⟩ := h
  obtain ⟨c, d⟩ := k
  constructor <;> grind
theorem Ab.sub {V W : Rat} {x y : Rat} (h : Ab V x) (k : Ab W y) : Ab (V + W) (x - y) := by
  obtain ⟨a, b⟩ := h
  obtain ⟨c, d⟩ := k
  constructor <;> grind
theorem Ab.le {V W : Rat} {x : Rat} (h : Ab V x) (k : V ≤ W) : Ab W x := by
  obtain ⟨a, b⟩ := h
  constructor <;> grind
theorem Ab.mul {V W : Rat} {x y : Rat} (h : Ab V x) (k : Ab W y) : Ab (V * W) (x * y) := by
  obtain ⟨a, b⟩ := h
  obtain ⟨c, d⟩ := k
  have hV : 0 ≤ V := by grind
  have hW : 0 ≤ W := by grind
  have p1 : 0 ≤ (V - x) * (W + y) := Rat.mul_nonneg (by grind) (by grind)
  have p2 : 0 ≤ (V + x) * (W - y) := Rat.mul_nonneg (by grind) (by grind)
  have p3 : 0 ≤ (V - x) * (W - y) := Rat.mul_nonneg (by grind) (by grind)
  have p4 : 0 ≤ (V + x) * (W + y) := Rat.mul_nonneg (by grind) (by grind)
  constructor <;> grind
/-- whole with a small bottom, not far: few bits -/
theorem RB.of {D b : Nat} {V q : Rat} (h : Ig D q) (a : Ab V q) (hD : D ≠ 0) (h1 : D < 2 ^ b) (h2 : V * (D : Rat) < ((2 ^ b : Nat) : Rat)) : RB b q := by
  obtain ⟨z, hz⟩ := h
  have hDp : (0 : Rat) < (D : Rat) := by
    have : ((0 : Nat) : Rat) < (D : Rat) := Rat.natCast_lt_natCast.mpr (by omega)
    exact this
  have hq : q = Rat.divInt z (D : Int) := by
    rw [Rat.divInt_eq_div, ← hz, Rat.intCast_natCast]
    grind
  have hzb : Bt b z := by
    obtain ⟨a1, a2⟩ := a
    have u1 : (z : Rat) ≤ V * D := by
      rw [← hz]
      have := Rat.mul_nonneg (a := V - q) (b := (D : Rat)) (by grind) (by grind)
      grind
    have u2 : -(V * D) ≤ (z : Rat) := by
      rw [← hz]
      have := Rat.mul_nonneg (a := V + q) (b := (D : Rat)) (by grind) (by grind)
      grind
    have v1 : (z : Rat) < (((2 ^ b : Nat) : Int) : Rat) := by
      rw [Rat.intCast_natCast]
      grind
    have v2 : ((-((2 ^ b : Nat) : Int) : Int) : Rat) < (z : Rat) := by
      rw [Rat.intCast_neg, Rat.intCast_natCast]
      grind
    have w1 := Rat.intCast_lt_intCast.mp v1
    have w2 := Rat.intCast_lt_intCast.mp v2
    unfold Bt
    omega
  rw [hq]
  exact .divInt hzb (by unfold Bt; simpa using h1) (by omega)
end GB

/-! GB25: sums beneath, plainly. -/
namespace GB
open PySem PySem.Spec PyProof.Rows L2
def unS (f : Nat → Rat) (l h : Rat) : Nat → Rat
  | 0 => 0
  | n + 1 => unS f l h n + f n * ((h ^ (n + 1) - l ^ (n + 1)) * (1 / ((n : Rat) + 1)))
theorem Ig.pow {D : Nat} {q : Rat} (h : Ig D q) : ∀ n : Nat, Ig (D ^ n) (q ^ n)
  | 0 => ⟨1, by rw [Rat.pow_zero, Nat.pow_zero, Rat.one_mul]; rfl⟩
  | n + 1 => by
    rw [Rat.pow_succ, Nat.pow_succ]
    exact (Ig.pow h n).mul h
theorem Ig.lift {D : Nat} {q : Rat} (h : Ig D q) {n m : Nat} (l : n ≤ m) : Ig (D ^ m) (q ^ n) := by
  have e : D ^ m = D ^ n * D ^ (m - n) := by
    rw [← Nat.pow_add]
    congr 1
    omega
  rw [e]
  exact (h.pow n).up _
theorem Ig.cast {D E : Nat} {q : Rat} (h : Ig D q) (e : D = E) : Ig E q := e ▸ h
theorem Ig.inv840 {n : Nat} (h : n < 8) : Ig 840 (1 / ((n : Rat) + 1)) := by
  have : n = 0 ∨ n = 1 ∨ n = 2 ∨ n = 3 ∨ n = 4 ∨ n = 5 ∨ n = 6 ∨ n = 7 := by omega
  rcases this with rfl | rfl | rfl | rfl | rfl | rfl | rfl | rfl
  · exact ⟨840, by decide +kernel⟩
  · exact ⟨420, by decide +kernel⟩
  · exact ⟨280, by decide +kernel⟩
  · exact ⟨210, by decide +kernel⟩
  · exact ⟨168, by decide +kernel⟩
  · exact ⟨140, by decide +kernel⟩
  · exact ⟨120, by decide +kernel⟩
  · exact ⟨105, by decide +kernel⟩
theorem unS_Ig {f : Nat → Rat} {l h : Rat} {Dn : Nat} (hf : ∀ k, Ig Dn (f k)) : ∀ n : Nat, n ≤ 8 → Ig (Dn * ((h.den ^ 8 * l.den ^ 8) * 840)) (unS f l h n)
  | 0, _ => Ig.zero
  | n + 1, hn => by
    have i1 := unS_Ig (l := l) (h := h) hf n (by omega)
    have ih : Ig (h.den ^ 8 * l.den ^ 8) (h ^ (n + 1)) := ((Ig.self h).lift hn).up _
    have il : Ig (h.den ^ 8 * l.den ^ 8) (l ^ (n + 1)) := (((Ig.self l).lift hn).up (h.den ^ 8)).cast (Nat.mul_comm _ _)
    exact i1.add ((hf n).mul ((ih.sub il).mul (Ig.inv840 (by omega))))
theorem Ab.pow {V : Rat} {q : Rat} (h : Ab V q) (h1 : 1 ≤ V) : ∀ n : Nat, Ab (V ^ n) (q ^ n)
  | 0 => by
    rw [Rat.pow_zero, Rat.pow_zero]
    constructor <;> decide
  | n + 1 => by
    rw [Rat.pow_succ, Rat.pow_succ]
    exact (Ab.pow h h1 n).mul h
theorem Ab.pow_le {V : Rat} {q : Rat} (h : Ab V q) (h1 : 1 ≤ V) {n m : Nat} (l : n ≤ m) : Ab (V ^ m) (q ^ n) := by
  have mono : ∀ d : Nat, V ^ n ≤ V ^ (n + d) := by
    intro d
    induction d with
    | zero => exact Rat.le_refl
    | succ d ih =>
      have hp : 0 ≤ V ^ (n + d) := by
        have : ∀ k : Nat, 0 ≤ V ^ k := by
          intro k
          induction k with
          | zero => rw [Rat.pow_zero]; decide
          | succ k ih => rw [Rat.pow_succ]; exact Rat.mul_nonneg ih (by grind)
        exact this _
      have := Rat.mul_nonneg (a := V ^ (n + d)) (b := V - 1) hp (by grind)
      rw [← Nat.add_assoc, Rat.pow_succ]
      grind
  have := mono (m - n)
  rw [show n + (m - n) = m by omega] at this
  exact (Ab.pow h h1 n).le this
theorem Ab.inv {n : Nat} : Ab 1 (1 / ((n : Rat) + 1)) := by
  have h0 : (0 : Rat) ≤ (n : Rat) := by
    have := Rat.natCast_le_natCast.mpr (Nat.zero_le n)
    exact this
  have hp : (0 : Rat) < (n : Rat) + 1 := by grind
  have hi : (0 : Rat) ≤ 1 / ((n : Rat) + 1) := by
    rw [Rat.div_def, Rat.one_mul]
    exact Rat.le_of_lt (Rat.inv_pos.mpr hp)
  constructor
  · grind
  · have : (1 / ((n : Rat) + 1)) * ((n : Rat) + 1) = 1 := by grind
    have h2 := Rat.mul_nonneg hi h0
    grind
theorem unS_Ab {f : Nat → Rat} {l h V W : Rat} (hf : ∀ k, Ab V (f k)) (hl : Ab W l) (hh : Ab W h) (h1 : 1 ≤ W) : ∀ n : Nat, n ≤ 8 → Ab ((n : Rat) * (V * ((W ^ 8 + W ^ 8) * 1))) (unS f l h n)
  | 0, _ => by
    show Ab (((0 : Nat) : Rat) * _) 0
    constructor <;> grind
  | n + 1, hn => by
    have i1 := unS_Ab hf hl hh h1 n (by omega)
    have t := (hf n).mul (((Ab.pow_le hh h1 hn).sub (Ab.pow_le hl h1 hn)).mul (Ab.inv (n := n)))
    refine (i1.add t).le ?_
    rw [Rat.natCast_add]
    have e : ((1 : Nat) : Rat) = 1 := rfl
    rw [e]
    generalize V * ((W ^ 8 + W ^ 8) * 1) = T
    grind
/-- from bits -/
theorem Ab.of_RB {b : Nat} {q : Rat} (h : RB b q) : Ab ((2 ^ b : Nat) : Rat) q := by
  have hn : q.num.natAbs < 2 ^ b := h.n
  have hd : (0 : Rat) < (q.den : Rat) := by
    have := Rat.natCast_lt_natCast.mpr (Nat.pos_of_ne_zero q.den_nz)
    exact this
  have hd1 : (1 : Rat) ≤ (q.den : Rat) := by
    have := Rat.natCast_le_natCast.mpr (Nat.pos_of_ne_zero q.den_nz)
    exact this
  obtain ⟨z, hz⟩ := Ig.self q
  have e : q * (q.den : Rat) = (q.num : Rat) := by
    rw [← rat_mul]
    have e1 : ((q.den : Rat)).num = (q.den : Int) := rfl
    have e2 : ((q.den : Rat)).den = 1 := rfl
    rw [e1, e2]
    have e3 : (q.den : Int) * ((1 : Nat) : Int) = 1 * (q.den : Int) := by omega
    rw [e3, Rat.divInt_mul_right den_ne]
    exact Rat.num_divInt_den (q.num : Rat)
  have u1 : (q.num : Rat) ≤ (((2 ^ b : Nat) : Int) : Rat) := Rat.intCast_le_intCast.mpr (by omega)
  have u2 : ((-((2 ^ b : Nat) : Int) : Int) : Rat) ≤ (q.num : Rat) := Rat.intCast_le_intCast.mpr (by omega)
  rw [Rat.intCast_natCast] at u1
  rw [Rat.intCast_neg, Rat.intCast_natCast] at u2
  have hV : (0 : Rat) ≤ ((2 ^ b : Nat) : Rat) := by
    have := Rat.natCast_le_natCast.mpr (Nat.zero_le (2 ^ b))
    exact this
  generalize ((2 ^ b : Nat) : Rat) = V at *
  constructor
  · by_cases c : -V ≤ q
    · exact c
    · have := Rat.mul_nonneg (a := -q) (b := (q.den : Rat) - 1) (by grind) (by grind)
      grind
  · by_cases c : q ≤ V
    · exact c
    · have := Rat.mul_nonneg (a := q) (b := (q.den : Rat) - 1) (by grind) (by grind)
      grind
theorem den_lt {b : Nat} {q : Rat} (h : RB b q) : q.den ^ 8 ≤ (2 ^ b) ^ 8 := by
  have hd : ((q.den : Int)).natAbs < 2 ^ b := h.d
  exact Nat.pow_le_pow_left (by omega) 8
theorem unS_RB {f : Nat → Rat} {l h : Rat} {Dn : Nat} (hf : ∀ k, Ig Dn (f k)) (h0 : Dn ≠ 0) (hDn : Dn ≤ 2 ^ 360) (ha : ∀ k, Ab ((2 ^ 93 : Nat) : Rat) (f k)) (hl : RB 45 l) (hh : RB 45 h) {n : Nat} (hn : n ≤ 8) : RB 1900 (unS f l h n) := by
  have i := unS_Ig (l := l) (h := h) hf n hn
  have a := unS_Ab ha (Ab.of_RB hl) (Ab.of_RB hh) (by decide +kernel) n hn
  have b1 : h.den ^ 8 ≤ (2 ^ 45) ^ 8 := den_lt hh
  have b2 : l.den ^ 8 ≤ (2 ^ 45) ^ 8 := den_lt hl
  have hD : Dn * ((h.den ^ 8 * l.den ^ 8) * 840) ≤ 2 ^ 360 * (((2 ^ 45) ^ 8 * (2 ^ 45) ^ 8) * 840) := Nat.mul_le_mul hDn (Nat.mul_le_mul_right _ (Nat.mul_le_mul b1 b2))
  have hz : Dn * ((h.den ^ 8 * l.den ^ 8) * 840) ≠ 0 := by
    have z1 : h.den ^ 8 ≠ 0 := Nat.pos_iff_ne_zero.mp (Nat.pow_pos (Nat.pos_of_ne_zero h.den_nz))
    have z2 : l.den ^ 8 ≠ 0 := Nat.pos_iff_ne_zero.mp (Nat.pow_pos (Nat.pos_of_ne_zero l.den_nz))
    exact Nat.mul_ne_zero h0 (Nat.mul_ne_zero (Nat.mul_ne_zero z1 z2) (by decide))
  have hV : (n : Rat) * (((2 ^ 93 : Nat) : Rat) * (((((2 ^ 45 : Nat) : Rat)) ^ 8 + (((2 ^ 45 : Nat) : Rat)) ^ 8) * 1)) = ((n * (2 ^ 93 * (((2 ^ 45) ^ 8 + (2 ^ 45) ^ 8) * 1)) : Nat) : Rat) := by
    rw [Rat.natCast_mul, Rat.natCast_mul, Rat.natCast_mul, Rat.natCast_add, Rat.natCast_pow]
    rfl
  rw [hV] at a
  refine RB.of i a hz ?_ ?_
  · exact Nat.lt_of_le_of_lt hD (by decide +kernel)
  · rw [← Rat.natCast_mul]
    refine Rat.natCast_lt_natCast.mpr ?_
    refine Nat.lt_of_le_of_lt (Nat.mul_le_mul (Nat.mul_le_mul_right _ hn) hD) ?_
    decide +kernel
/-- the bottoms multiplied -/
def pdn : List Rat → Nat
  | [] => 1
  | a :: p => a.den * pdn p
theorem pdn_ne : ∀ p : List Rat, pdn p ≠ 0
  | [] => by decide
  | a :: p => Nat.mul_ne_zero a.den_nz (pdn_ne p)
theorem pdn_le : ∀ {p : List Rat}, RL 45 p → pdn p ≤ (2 ^ 45) ^ p.length
  | [], _ => Nat.le_refl _
  | a :: p, h => by
    have hd : ((a.den : Int)).natAbs < 2 ^ 45 := (h a List.mem_cons_self).d
    rw [List.length_cons, Nat.pow_succ]
    show a.den * pdn p ≤ _
    rw [Nat.mul_comm a.den]
    exact Nat.mul_le_mul (pdn_le fun z m => h z (List.mem_cons_of_mem _ m)) (by omega)
theorem Ig_pn : ∀ (p : List Rat) (k : Nat), Ig (pdn p) (pn p k)
  | [], _ => Ig.zero
  | a :: p, 0 => (Ig.self a).up _
  | a :: p, k + 1 => ((Ig_pn p k).up a.den).cast (Nat.mul_comm _ _)
theorem Ig_conv {b : List Rat} : ∀ (a : List Rat) (k : Nat), Ig (pdn a * pdn b) (conv a b k)
  | [], k => by rw [conv_nil]; exact Ig.zero
  | x :: a, 0 => by
    have h := ((Ig.self x).mul (Ig_pn b 0)).up (pdn a)
    refine h.cast ?_
    show x.den * pdn b * pdn a = x.den * pdn a * pdn b
    rw [Nat.mul_assoc, Nat.mul_comm (pdn b), Nat.mul_assoc]
  | x :: a, k + 1 => by
    have h := ((Ig.self x).mul (Ig_pn b (k + 1))).up (pdn a)
    have h2 := ((Ig_conv (b := b) a k).up x.den)
    refine Ig.add (h.cast ?_) (h2.cast ?_)
    · show x.den * pdn b * pdn a = x.den * pdn a * pdn b
      rw [Nat.mul_assoc, Nat.mul_comm (pdn b), Nat.mul_assoc]
    · show pdn a * pdn b * x.den = x.den * pdn a * pdn b
      rw [Nat.mul_comm, Nat.mul_assoc]
theorem Ab.zero {V : Rat} (h : 0 ≤ V) : Ab V 0 := by
  constructor <;> grind
theorem Ab_pn {p : List Rat} (h : RL 45 p) (k : Nat) : Ab ((2 ^ 45 : Nat) : Rat) (pn p k) := Ab.of_RB (h.pn (by decide) k)
theorem Ab_conv {b : List Rat} (hb : RL 45 b) : ∀ {a : List Rat}, RL 45 a → ∀ k : Nat, Ab ((a.length : Rat) * (((2 ^ 45 : Nat) : Rat) * ((2 ^ 45 : Nat) : Rat))) (conv a b k)
  | [], _, k => by
    rw [conv_nil]
    show Ab (((0 : Nat) : Rat) * _) 0
    constructor <;> grind
  | x :: a, h, k => by
    have hx := Ab.of_RB (h x List.mem_cons_self)
    have ht := fun k => Ab_conv hb (a := a) (fun z m => h z (List.mem_cons_of_mem _ m)) k
    have hl : (((x :: a).length : Nat) : Rat) = (a.length : Rat) + 1 := by
      rw [List.length_cons, Rat.natCast_add]
      rfl
    rw [hl]
    have hn : (0 : Rat) ≤ (a.length : Rat) := by
      have := Rat.natCast_le_natCast.mpr (Nat.zero_le a.length)
      exact this
    have hT : (0 : Rat) ≤ ((2 ^ 45 : Nat) : Rat) * ((2 ^ 45 : Nat) : Rat) := by decide +kernel
    have hm := Rat.mul_nonneg hn hT
    cases k with
    | zero =>
      refine (hx.mul (Ab_pn hb 0)).le ?_
      grind
    | succ k =>
      refine ((hx.mul (Ab_pn hb (k + 1))).add (ht k)).le ?_
      grind
end GB

namespace GB
open PySem PySem.Spec PyProof.Rows L2
def b__law_feed : Sms := .cons (.ret (.dct true (.cons (.cS "cells") (.cons (.bi .list false (.cons (.sl false (.v 0) (.none) (.some (.cI 63))) (.nil))) (.cons (.cS "at") (.cons (.cI 0) (.cons (.cS "left") (.cons (.cI 0) (.cons (.cS "turn") (.cons (.cI 0) (.nil))))))))))) (.nil)
theorem t_feed : Keeps 1 b__law_feed spFeed 1 := by
  intro ds S Q U h
  match ds, h with
  | [.rls ns], h =>
  obtain ⟨cs, rfl, hl, h⟩ := h
  refine ⟨rfl, ?_⟩
  have hc : ∃ cs' : List Int, cutD (cs.map D.int) none (some 63) = cs'.map D.int ∧ cs'.length ≤ 63 := by
    refine ⟨cs.take 63, ?_, by rw [List.length_take]; omega⟩
    rw [show (63 : Int) = ((63 : Nat) : Int) by rfl, cut_to, List.map_take]
  obtain ⟨cs', hc, hl'⟩ := hc
  simp only [b__law_feed, ↓gv_z, ↓gv_s, ↓sv_z, ↓sv_s, ↓wv_z, wv_z, ↓wv_s, wv_s, iteE_int, iteE_bl, iteE_str, iteE_lst, iteE_same, iteE_c1, iteE_c2, iteE_1, iteE_0, iteT_1, iteT_0, andT_1, andT_0, orT_1, orT_0, andE_1, andE_0, orE_1, orE_0, iteS_1, iteS_0, andE_bl, andE_c, orE_bl, orE_c, iteT_v, iteT_c1, iteT_c2, andT_v, andT_c, orT_v, orT_c, iteS_v, iteS_c1, iteS_c2, iteS_r1, iteS_r2, joinS_n, joinS_same, joinS_int, joinS_bl, ixS_s, ↓e_v, ↓e_N, ↓e_B, ↓e_I, ↓e_S, ↓e_gl, ↓e_add, ↓e_sub, ↓e_mul, ↓e_fdiv, ↓e_mod, ↓e_pow, ↓e_neg, ↓e_cmp, ↓bP_b, ↓t_cmp, ↓e_cmp2, ↓t_cmp2, ↓e_and1, ↓e_and2, ↓t_and1, ↓t_and2, ↓e_or1, ↓e_or2, ↓t_or1, ↓t_or2, ↓e_not, ↓t_not, ↓e_ite, ↓t_ite, ↓e_tup, ↓e_lst, ↓e_dct, ↓e_ix, ↓e_sl, ↓e_slr, ↓e_call, ↓e_bi, ↓e_mt, ↓e_lc, ↓e_frz, ↓t_frz, ↓t_v, ↓t_B, ↓t_N, ↓t_I, ↓t_ix, ↓t_bin, ↓t_call, ↓t_bi, ↓t_sl, ↓t_lc, ↓a_n, ↓a_c, ↓if_n, ↓if_1, ↓o_n, ↓iP_i, ↓o_s, ↓i_val, ↓i_r1, ↓i_r2, ↓i_r3, ↓i_enum, ↓i_zip, ↓i_rev, ↓add_i, ↓add_s, ↓add_t, ↓sub_i, ↓mul_i, ↓fdiv_i, ↓mod_i, ↓pow_i, ↓neg_i, ↓eq_i, ↓eq_s, ↓eq_b, ↓ne_i, ↓ne_s, ↓ne_b, ↓lt_i, ↓le_i, ↓gt_i, ↓ge_i, ↓is_N, ↓no_N, ↓tr_b, ↓tr_i, ↓tr_n, ↓tr_t, ↓tr_l, ↓ix_t, ↓ix_l, ↓ix_rl, ↓at_0, ↓at_1, ↓at_2, ↓at_3, ↓s_n, ↓s_c, ↓s_asg, ↓s_asgL, ↓s_par, ↓s_set, ↓s_ex, ↓s_ite, ↓s_for, ↓s_wh, ↓s_ret, ↓s_retN, ↓s_pass, ↓s_brk, ↓s_rz, ↓s_cont, ↓g_nm, ↓g_tp, ↓g_n, ↓g_c, ↓par_n, ↓par_c, ↓nw_f, ↓nw_t, ↓len_l, ↓len_t, ↓abs_i, ↓int_i, ↓int_b, ↓repr_h, ↓max_i, ↓min_i, ↓st_0, ↓st_s, ↓supd_supd, ↓ix_ref, ↓set_ref, ↓fd_turn, ↓fd_left, ↓fd_at, ↓fd_cells, ↓fs_turn, ↓fs_left, ↓fs_at, ↓ne_nil, ↓len_is, map_at, ↓ix_q0, ↓ix_q1, ↓g_q, ↓len_q, ↓tr_q, ↓low_eq, ↓q1_eq, ↓q2_eq, ↓sz_0, ↓sz_1, ↓sz_2, ↓sz_3, ↓sz_4, ↓sz_5, ↓sz_6, ↓sz_7, ↓sz_8, ↓itp_t, ↓itp_l, ↓itl_l, ↓pl_2, ↓pl_3, iteE_q, joinS_q, ↓eq_q, ↓ne_q, ↓ixC_l, ↓frz_ref, ↓tup_l, ↓tup_t, ↓lst_l, ↓lst_t, ↓sl_t, ↓slr_t, ↓mul_l, ↓add_l, ↓ifs_0, gsl_nm, gsl_tp, gsl_n, gsl_c, wipe_n, wipe_c, List.replicate, Option.map_some, decide_eq_true_eq, ↓reduceIte, Bool.false_eq_true, Bool.not_eq_eq_eq_not, Bool.not_true, Bool.not_false, true_and, forall_const, Bool.and_eq_true, Bool.or_eq_true, decide_eq_false_iff_not, not_true_eq_false, not_false_eq_true, decide_true, decide_false]
  refine ⟨cs.map D.int, rfl, ?_⟩
  rw [hc]
  refine ⟨_, rfl, _, rfl, fun p hp => ?_⟩
  exact h p _ hp ⟨cs', 0, 0, 0, supd_same, by omega, hl'⟩ fun q e => supd_ne e
abbrev sp__law_feed := spFeed
def b__law_draw : Sms := .cons (.asg (.nm 2) (.bin .add false (.ix (.v 0) (.cS "turn")) (.cI 1))) (.cons (.setI (.v 0) (.cS "turn") (.v 2)) (.cons (.ite (.cmp .gt (.ix (.v 0) (.cS "left")) (.cI 0)) (.cons (.asg (.nm 6) (.bin .mod false (.ix (.v 0) (.cS "left")) (.v 1))) (.cons (.setI (.v 0) (.cS "left") (.bin .fdiv false (.ix (.v 0) (.cS "left")) (.v 1))) (.cons (.ret (.v 6)) (.nil)))) (.nil)) (.cons (.asg (.nm 3) (.ix (.v 0) (.cS "at"))) (.cons (.setI (.v 0) (.cS "at") (.bin .add false (.v 3) (.cI 1))) (.cons (.asg (.nm 4) (.ite (.cmp .ne (.ix (.v 0) (.cS "cells")) (.lst false (.nil))) (.ix (.ix (.v 0) (.cS "cells")) (.bin .mod false (.v 3) (.bi .len false (.cons (.ix (.v 0) (.cS "cells")) (.nil))))) (.cI 0))) (.cons (.ite (.and_ (.cons (.cmp .ge (.v 4) (.bin .pow false (.cI 10) (.cI 18))) (.cons (.cmp .lt (.v 3) (.bi .len false (.cons (.ix (.v 0) (.cS "cells")) (.nil)))) (.nil)))) (.cons (.setI (.v 0) (.cS "left") (.bin .fdiv false (.v 4) (.v 1))) (.cons (.ret (.bin .mod false (.v 4) (.v 1))) (.nil))) (.nil)) (.cons (.asg (.nm 5) (.bin .mod false (.bin .pow false (.bin .add false (.bin .add false (.bin .mod false (.v 4) (.cI 2147483629)) (.bin .mul false (.cI 7919) (.v 2))) (.cI 1)) (.cI 5)) (.cI 2147483647))) (.cons (.asg (.nm 5) (.bin .mod false (.bin .pow false (.bin .add false (.bin .mul false (.v 5) (.bin .add false (.bin .mul false (.cI 2) (.v 2)) (.cI 104729))) (.cI 69621)) (.cI 3)) (.cI 2147483629))) (.cons (.ret (.bin .mod false (.bin .fdiv false (.v 5) (.cI 64)) (.v 1))) (.nil))))))))))
theorem t_draw : Keeps 7 b__law_draw spDraw 2 := by
  intro ds S Q U h
  match ds, h with
  | [.ref p, .int m], h =>
  refine ⟨rfl, ?_⟩
  obtain ⟨⟨h0, h1⟩, n, ⟨cs, a, l, t, hS, ⟨ha, ht, htn⟩, hl⟩, hn, h⟩ := h
  rw [← supd_self hS]
  have hd : CDvD m := h1.cdv (by omega) (by decide)
  have go : ∀ (r a' l' t' : Int), 0 ≤ r → r < m → 0 ≤ a' ∧ 0 ≤ t' ∧ t' ≤ n + 1 → Q (.int r) (supd S p (feedC cs a' l' t')) := by
    intro r a' l' t' h1 h2 h3
    have := Feed.new hS h3 hl (l' := l')
    rw [supd_supd] at this
    exact h r _ h1 h2 this
  have md : ∀ x : Int, 0 ≤ x.fmod m ∧ x.fmod m < m := fun x => ⟨Int.fmod_nonneg_of_pos x h0, Int.fmod_lt_of_pos x h0⟩
  have c18 : CPwD 10 18 := Bt.cpw (b := 4) (Bt.lit (by decide)) (by decide) (by decide)
  by_cases hcs : cs = []
  · subst hcs
    simp only [b__law_draw, List.isEmpty_nil, ↓gv_z, ↓gv_s, ↓sv_z, ↓sv_s, ↓wv_z, wv_z, ↓wv_s, wv_s, iteE_int, iteE_bl, iteE_str, iteE_lst, iteE_same, iteE_c1, iteE_c2, iteE_1, iteE_0, iteT_1, iteT_0, andT_1, andT_0, orT_1, orT_0, andE_1, andE_0, orE_1, orE_0, iteS_1, iteS_0, andE_bl, andE_c, orE_bl, orE_c, iteT_v, iteT_c1, iteT_c2, andT_v, andT_c, orT_v, orT_c, iteS_v, iteS_c1, iteS_c2, iteS_r1, iteS_r2, joinS_n, joinS_same, joinS_int, joinS_bl, ixS_s, ↓e_v, ↓e_N, ↓e_B, ↓e_I, ↓e_S, ↓e_gl, ↓e_add, ↓e_sub, ↓e_mul, ↓e_fdiv, ↓e_mod, ↓e_pow, ↓e_neg, ↓e_cmp, ↓bP_b, ↓t_cmp, ↓e_cmp2, ↓t_cmp2, ↓e_and1, ↓e_and2, ↓t_and1, ↓t_and2, ↓e_or1, ↓e_or2, ↓t_or1, ↓t_or2, ↓e_not, ↓t_not, ↓e_ite, ↓t_ite, ↓e_tup, ↓e_lst, ↓e_dct, ↓e_ix, ↓e_sl, ↓e_slr, ↓e_call, ↓e_bi, ↓e_mt, ↓e_lc, ↓e_frz, ↓t_frz, ↓t_v, ↓t_B, ↓t_N, ↓t_I, ↓t_ix, ↓t_bin, ↓t_call, ↓t_bi, ↓t_sl, ↓t_lc, ↓a_n, ↓a_c, ↓if_n, ↓if_1, ↓o_n, ↓iP_i, ↓o_s, ↓i_val, ↓i_r1, ↓i_r2, ↓i_r3, ↓i_enum, ↓i_zip, ↓i_rev, ↓add_i, ↓add_s, ↓add_t, ↓sub_i, ↓mul_i, ↓fdiv_i, ↓mod_i, ↓pow_i, ↓neg_i, ↓eq_i, ↓eq_s, ↓eq_b, ↓ne_i, ↓ne_s, ↓ne_b, ↓lt_i, ↓le_i, ↓gt_i, ↓ge_i, ↓is_N, ↓no_N, ↓tr_b, ↓tr_i, ↓tr_n, ↓tr_t, ↓tr_l, ↓ix_t, ↓ix_l, ↓ix_rl, ↓at_0, ↓at_1, ↓at_2, ↓at_3, ↓s_n, ↓s_c, ↓s_asg, ↓s_asgL, ↓s_par, ↓s_set, ↓s_ex, ↓s_ite, ↓s_for, ↓s_wh, ↓s_ret, ↓s_retN, ↓s_pass, ↓s_brk, ↓s_rz, ↓s_cont, ↓g_nm, ↓g_tp, ↓g_n, ↓g_c, ↓par_n, ↓par_c, ↓nw_f, ↓nw_t, ↓len_l, ↓len_t, ↓abs_i, ↓int_i, ↓int_b, ↓repr_h, ↓max_i, ↓min_i, ↓st_0, ↓st_s, ↓supd_supd, ↓ix_ref, ↓set_ref, ↓fd_turn, ↓fd_left, ↓fd_at, ↓fd_cells, ↓fs_turn, ↓fs_left, ↓fs_at, ↓ne_nil, ↓len_is, map_at, ↓ix_q0, ↓ix_q1, ↓g_q, ↓len_q, ↓tr_q, ↓low_eq, ↓q1_eq, ↓q2_eq, ↓sz_0, ↓sz_1, ↓sz_2, ↓sz_3, ↓sz_4, ↓sz_5, ↓sz_6, ↓sz_7, ↓sz_8, ↓itp_t, ↓itp_l, ↓itl_l, ↓pl_2, ↓pl_3, iteE_q, joinS_q, ↓eq_q, ↓ne_q, ↓ixC_l, ↓frz_ref, ↓tup_l, ↓tup_t, ↓lst_l, ↓lst_t, ↓sl_t, ↓slr_t, ↓mul_l, ↓add_l, ↓ifs_0, gsl_nm, gsl_tp, gsl_n, gsl_c, wipe_n, wipe_c, List.replicate, Option.map_some, decide_eq_true_eq, ↓reduceIte, Bool.false_eq_true, Bool.not_eq_eq_eq_not, Bool.not_true, Bool.not_false, true_and, forall_const, Bool.and_eq_true, Bool.or_eq_true, decide_eq_false_iff_not, not_true_eq_false, not_false_eq_true, decide_true, decide_false]
    split
    · exact ⟨by omega, hd, go _ _ _ _ (md _).1 (md _).2 (by omega)⟩
    · refine ⟨fun z => z.elim, c18, fun _ => hd, fun _ => by omega, ?_⟩
      rw [if_neg (by rintro ⟨h, _⟩; exact absurd h (by decide))]
      exact draw_mix ht htn hn h0 (go _ _ _ _ (md _).1 (md _).2 (by omega))
  · have hne : 0 < cs.length := List.length_pos_iff.mpr hcs
    obtain ⟨c, hc, _⟩ := at_has (xs := cs) (i := a.fmod cs.length) (Int.fmod_nonneg_of_pos _ (by omega)) (Int.fmod_lt_of_pos _ (by omega))
    have he : cs.isEmpty = false := by
      cases cs with
      | nil => exact absurd rfl hcs
      | cons _ _ => rfl
    simp only [b__law_draw, List.length_map, hc, he, ↓gv_z, ↓gv_s, ↓sv_z, ↓sv_s, ↓wv_z, wv_z, ↓wv_s, wv_s, iteE_int, iteE_bl, iteE_str, iteE_lst, iteE_same, iteE_c1, iteE_c2, iteE_1, iteE_0, iteT_1, iteT_0, andT_1, andT_0, orT_1, orT_0, andE_1, andE_0, orE_1, orE_0, iteS_1, iteS_0, andE_bl, andE_c, orE_bl, orE_c, iteT_v, iteT_c1, iteT_c2, andT_v, andT_c, orT_v, orT_c, iteS_v, iteS_c1, iteS_c2, iteS_r1, iteS_r2, joinS_n, joinS_same, joinS_int, joinS_bl, ixS_s, ↓e_v, ↓e_N, ↓e_B, ↓e_I, ↓e_S, ↓e_gl, ↓e_add, ↓e_sub, ↓e_mul, ↓e_fdiv, ↓e_mod, ↓e_pow, ↓e_neg, ↓e_cmp, ↓bP_b, ↓t_cmp, ↓e_cmp2, ↓t_cmp2, ↓e_and1, ↓e_and2, ↓t_and1, ↓t_and2, ↓e_or1, ↓e_or2, ↓t_or1, ↓t_or2, ↓e_not, ↓t_not, ↓e_ite, ↓t_ite, ↓e_tup, ↓e_lst, ↓e_dct, ↓e_ix, ↓e_sl, ↓e_slr, ↓e_call, ↓e_bi, ↓e_mt, ↓e_lc, ↓e_frz, ↓t_frz, ↓t_v, ↓t_B, ↓t_N, ↓t_I, ↓t_ix, ↓t_bin, ↓t_call, ↓t_bi, ↓t_sl, ↓t_lc, ↓a_n, ↓a_c, ↓if_n, ↓if_1, ↓o_n, ↓iP_i, ↓o_s, ↓i_val, ↓i_r1, ↓i_r2, ↓i_r3, ↓i_enum, ↓i_zip, ↓i_rev, ↓add_i, ↓add_s, ↓add_t, ↓sub_i, ↓mul_i, ↓fdiv_i, ↓mod_i, ↓pow_i, ↓neg_i, ↓eq_i, ↓eq_s, ↓eq_b, ↓ne_i, ↓ne_s, ↓ne_b, ↓lt_i, ↓le_i, ↓gt_i, ↓ge_i, ↓is_N, ↓no_N, ↓tr_b, ↓tr_i, ↓tr_n, ↓tr_t, ↓tr_l, ↓ix_t, ↓ix_l, ↓ix_rl, ↓at_0, ↓at_1, ↓at_2, ↓at_3, ↓s_n, ↓s_c, ↓s_asg, ↓s_asgL, ↓s_par, ↓s_set, ↓s_ex, ↓s_ite, ↓s_for, ↓s_wh, ↓s_ret, ↓s_retN, ↓s_pass, ↓s_brk, ↓s_rz, ↓s_cont, ↓g_nm, ↓g_tp, ↓g_n, ↓g_c, ↓par_n, ↓par_c, ↓nw_f, ↓nw_t, ↓len_l, ↓len_t, ↓abs_i, ↓int_i, ↓int_b, ↓repr_h, ↓max_i, ↓min_i, ↓st_0, ↓st_s, ↓supd_supd, ↓ix_ref, ↓set_ref, ↓fd_turn, ↓fd_left, ↓fd_at, ↓fd_cells, ↓fs_turn, ↓fs_left, ↓fs_at, ↓ne_nil, ↓len_is, map_at, ↓ix_q0, ↓ix_q1, ↓g_q, ↓len_q, ↓tr_q, ↓low_eq, ↓q1_eq, ↓q2_eq, ↓sz_0, ↓sz_1, ↓sz_2, ↓sz_3, ↓sz_4, ↓sz_5, ↓sz_6, ↓sz_7, ↓sz_8, ↓itp_t, ↓itp_l, ↓itl_l, ↓pl_2, ↓pl_3, iteE_q, joinS_q, ↓eq_q, ↓ne_q, ↓ixC_l, ↓frz_ref, ↓tup_l, ↓tup_t, ↓lst_l, ↓lst_t, ↓sl_t, ↓slr_t, ↓mul_l, ↓add_l, ↓ifs_0, gsl_nm, gsl_tp, gsl_n, gsl_c, wipe_n, wipe_c, List.replicate, Option.map_some, decide_eq_true_eq, ↓reduceIte, Bool.false_eq_true, Bool.not_eq_eq_eq_not, Bool.not_true, Bool.not_false, true_and, forall_const, Bool.and_eq_true, Bool.or_eq_true, decide_eq_false_iff_not, not_true_eq_false, not_false_eq_true, decide_true, decide_false]
    split
    · exact ⟨by omega, hd, go _ _ _ _ (md _).1 (md _).2 (by omega)⟩
    · refine ⟨by omega, c18, fun _ => hd, fun _ => by omega, ?_⟩
      split
      · exact go _ _ _ _ (md _).1 (md _).2 (by omega)
      · exact draw_mix ht htn hn h0 (go _ _ _ _ (md _).1 (md _).2 (by omega))
abbrev sp__law_draw := spDraw
def b__law_lowest : Sms := .cons (.par [2, 3] (.cons (.bi .abs false (.cons (.v 0) (.nil))) (.cons (.bi .abs false (.cons (.v 1) (.nil))) (.nil)))) (.cons (.wh (.cmp .gt (.v 3) (.cI 0)) (.cons (.par [2, 3] (.cons (.v 3) (.cons (.bin .mod false (.v 2) (.v 3)) (.nil)))) (.nil))) (.cons (.ite (.cmp .lt (.v 1) (.cI 0)) (.cons (.asg (.nm 2) (.bin .sub false (.cI 0) (.v 2))) (.nil)) (.nil)) (.cons (.ret (.tup (.cons (.bin .fdiv false (.v 0) (.v 2)) (.cons (.bin .fdiv false (.v 1) (.v 2)) (.nil))))) (.nil))))
theorem t_lowest : Keeps 4 b__law_lowest spLow 2 := by
  intro ds S Q U h
  match ds, h with
  | [.int t, .int u], h =>
  refine ⟨rfl, ?_⟩
  obtain ⟨⟨h0, h1, h2⟩, h⟩ := h
  rw [← low_frq h0] at h
  have hg : Bt 8000 (Nat.gcd t.natAbs u.natAbs : Int) := h2.of_abs (Nat.le_of_dvd (by omega) (Nat.gcd_dvd_right _ _))
  simp only [b__law_lowest, ↓gv_z, ↓gv_s, ↓sv_z, ↓sv_s, ↓wv_z, wv_z, ↓wv_s, wv_s, iteE_int, iteE_bl, iteE_str, iteE_lst, iteE_same, iteE_c1, iteE_c2, iteE_1, iteE_0, iteT_1, iteT_0, andT_1, andT_0, orT_1, orT_0, andE_1, andE_0, orE_1, orE_0, iteS_1, iteS_0, andE_bl, andE_c, orE_bl, orE_c, iteT_v, iteT_c1, iteT_c2, andT_v, andT_c, orT_v, orT_c, iteS_v, iteS_c1, iteS_c2, iteS_r1, iteS_r2, joinS_n, joinS_same, joinS_int, joinS_bl, ixS_s, ↓e_v, ↓e_N, ↓e_B, ↓e_I, ↓e_S, ↓e_gl, ↓e_add, ↓e_sub, ↓e_mul, ↓e_fdiv, ↓e_mod, ↓e_pow, ↓e_neg, ↓e_cmp, ↓bP_b, ↓t_cmp, ↓e_cmp2, ↓t_cmp2, ↓e_and1, ↓e_and2, ↓t_and1, ↓t_and2, ↓e_or1, ↓e_or2, ↓t_or1, ↓t_or2, ↓e_not, ↓t_not, ↓e_ite, ↓t_ite, ↓e_tup, ↓e_lst, ↓e_dct, ↓e_ix, ↓e_sl, ↓e_slr, ↓e_call, ↓e_bi, ↓e_mt, ↓e_lc, ↓e_frz, ↓t_frz, ↓t_v, ↓t_B, ↓t_N, ↓t_I, ↓t_ix, ↓t_bin, ↓t_call, ↓t_bi, ↓t_sl, ↓t_lc, ↓a_n, ↓a_c, ↓if_n, ↓if_1, ↓o_n, ↓iP_i, ↓o_s, ↓i_val, ↓i_r1, ↓i_r2, ↓i_r3, ↓i_enum, ↓i_zip, ↓i_rev, ↓add_i, ↓add_s, ↓add_t, ↓sub_i, ↓mul_i, ↓fdiv_i, ↓mod_i, ↓pow_i, ↓neg_i, ↓eq_i, ↓eq_s, ↓eq_b, ↓ne_i, ↓ne_s, ↓ne_b, ↓lt_i, ↓le_i, ↓gt_i, ↓ge_i, ↓is_N, ↓no_N, ↓tr_b, ↓tr_i, ↓tr_n, ↓tr_t, ↓tr_l, ↓ix_t, ↓ix_l, ↓ix_rl, ↓at_0, ↓at_1, ↓at_2, ↓at_3, ↓s_n, ↓s_c, ↓s_asg, ↓s_asgL, ↓s_par, ↓s_set, ↓s_ex, ↓s_ite, ↓s_for, ↓s_wh, ↓s_ret, ↓s_retN, ↓s_pass, ↓s_brk, ↓s_rz, ↓s_cont, ↓g_nm, ↓g_tp, ↓g_n, ↓g_c, ↓par_n, ↓par_c, ↓nw_f, ↓nw_t, ↓len_l, ↓len_t, ↓abs_i, ↓int_i, ↓int_b, ↓repr_h, ↓max_i, ↓min_i, ↓st_0, ↓st_s, ↓supd_supd, ↓ix_ref, ↓set_ref, ↓fd_turn, ↓fd_left, ↓fd_at, ↓fd_cells, ↓fs_turn, ↓fs_left, ↓fs_at, ↓ne_nil, ↓len_is, map_at, ↓ix_q0, ↓ix_q1, ↓g_q, ↓len_q, ↓tr_q, ↓low_eq, ↓q1_eq, ↓q2_eq, ↓sz_0, ↓sz_1, ↓sz_2, ↓sz_3, ↓sz_4, ↓sz_5, ↓sz_6, ↓sz_7, ↓sz_8, ↓itp_t, ↓itp_l, ↓itl_l, ↓pl_2, ↓pl_3, iteE_q, joinS_q, ↓eq_q, ↓ne_q, ↓ixC_l, ↓frz_ref, ↓tup_l, ↓tup_t, ↓lst_l, ↓lst_t, ↓sl_t, ↓slr_t, ↓mul_l, ↓add_l, ↓ifs_0, gsl_nm, gsl_tp, gsl_n, gsl_c, wipe_n, wipe_c, List.replicate, Option.map_some, decide_eq_true_eq, ↓reduceIte, Bool.false_eq_true, Bool.not_eq_eq_eq_not, Bool.not_true, Bool.not_false, true_and, forall_const, Bool.and_eq_true, Bool.or_eq_true, decide_eq_false_iff_not, not_true_eq_false, not_false_eq_true, decide_true, decide_false]
  rw [abs_eq, abs_eq]
  refine gcd_loop (st := fun a b => [some (D.int t), some (D.int u), some (D.int a), some (D.int b)]) ?_ ?_ u.natAbs t.natAbs ?_
  · intro a b T hT
    simp only [↓gv_z, ↓gv_s, ↓sv_z, ↓sv_s, ↓wv_z, wv_z, ↓wv_s, wv_s, iteE_int, iteE_bl, iteE_str, iteE_lst, iteE_same, iteE_c1, iteE_c2, iteE_1, iteE_0, iteT_1, iteT_0, andT_1, andT_0, orT_1, orT_0, andE_1, andE_0, orE_1, orE_0, iteS_1, iteS_0, andE_bl, andE_c, orE_bl, orE_c, iteT_v, iteT_c1, iteT_c2, andT_v, andT_c, orT_v, orT_c, iteS_v, iteS_c1, iteS_c2, iteS_r1, iteS_r2, joinS_n, joinS_same, joinS_int, joinS_bl, ixS_s, ↓e_v, ↓e_N, ↓e_B, ↓e_I, ↓e_S, ↓e_gl, ↓e_add, ↓e_sub, ↓e_mul, ↓e_fdiv, ↓e_mod, ↓e_pow, ↓e_neg, ↓e_cmp, ↓bP_b, ↓t_cmp, ↓e_cmp2, ↓t_cmp2, ↓e_and1, ↓e_and2, ↓t_and1, ↓t_and2, ↓e_or1, ↓e_or2, ↓t_or1, ↓t_or2, ↓e_not, ↓t_not, ↓e_ite, ↓t_ite, ↓e_tup, ↓e_lst, ↓e_dct, ↓e_ix, ↓e_sl, ↓e_slr, ↓e_call, ↓e_bi, ↓e_mt, ↓e_lc, ↓e_frz, ↓t_frz, ↓t_v, ↓t_B, ↓t_N, ↓t_I, ↓t_ix, ↓t_bin, ↓t_call, ↓t_bi, ↓t_sl, ↓t_lc, ↓a_n, ↓a_c, ↓if_n, ↓if_1, ↓o_n, ↓iP_i, ↓o_s, ↓i_val, ↓i_r1, ↓i_r2, ↓i_r3, ↓i_enum, ↓i_zip, ↓i_rev, ↓add_i, ↓add_s, ↓add_t, ↓sub_i, ↓mul_i, ↓fdiv_i, ↓mod_i, ↓pow_i, ↓neg_i, ↓eq_i, ↓eq_s, ↓eq_b, ↓ne_i, ↓ne_s, ↓ne_b, ↓lt_i, ↓le_i, ↓gt_i, ↓ge_i, ↓is_N, ↓no_N, ↓tr_b, ↓tr_i, ↓tr_n, ↓tr_t, ↓tr_l, ↓ix_t, ↓ix_l, ↓ix_rl, ↓at_0, ↓at_1, ↓at_2, ↓at_3, ↓s_n, ↓s_c, ↓s_asg, ↓s_asgL, ↓s_par, ↓s_set, ↓s_ex, ↓s_ite, ↓s_for, ↓s_wh, ↓s_ret, ↓s_retN, ↓s_pass, ↓s_brk, ↓s_rz, ↓s_cont, ↓g_nm, ↓g_tp, ↓g_n, ↓g_c, ↓par_n, ↓par_c, ↓nw_f, ↓nw_t, ↓len_l, ↓len_t, ↓abs_i, ↓int_i, ↓int_b, ↓repr_h, ↓max_i, ↓min_i, ↓st_0, ↓st_s, ↓supd_supd, ↓ix_ref, ↓set_ref, ↓fd_turn, ↓fd_left, ↓fd_at, ↓fd_cells, ↓fs_turn, ↓fs_left, ↓fs_at, ↓ne_nil, ↓len_is, map_at, ↓ix_q0, ↓ix_q1, ↓g_q, ↓len_q, ↓tr_q, ↓low_eq, ↓q1_eq, ↓q2_eq, ↓sz_0, ↓sz_1, ↓sz_2, ↓sz_3, ↓sz_4, ↓sz_5, ↓sz_6, ↓sz_7, ↓sz_8, ↓itp_t, ↓itp_l, ↓itl_l, ↓pl_2, ↓pl_3, iteE_q, joinS_q, ↓eq_q, ↓ne_q, ↓ixC_l, ↓frz_ref, ↓tup_l, ↓tup_t, ↓lst_l, ↓lst_t, ↓sl_t, ↓slr_t, ↓mul_l, ↓add_l, ↓ifs_0, gsl_nm, gsl_tp, gsl_n, gsl_c, wipe_n, wipe_c, List.replicate, Option.map_some, decide_eq_true_eq, ↓reduceIte, Bool.false_eq_true, Bool.not_eq_eq_eq_not, Bool.not_true, Bool.not_false, true_and, forall_const, Bool.and_eq_true, Bool.or_eq_true, decide_eq_false_iff_not, not_true_eq_false, not_false_eq_true, decide_true, decide_false]
    simpa using hT
  · intro a b rt bk ct nx hb hn
    simp only [↓gv_z, ↓gv_s, ↓sv_z, ↓sv_s, ↓wv_z, wv_z, ↓wv_s, wv_s, iteE_int, iteE_bl, iteE_str, iteE_lst, iteE_same, iteE_c1, iteE_c2, iteE_1, iteE_0, iteT_1, iteT_0, andT_1, andT_0, orT_1, orT_0, andE_1, andE_0, orE_1, orE_0, iteS_1, iteS_0, andE_bl, andE_c, orE_bl, orE_c, iteT_v, iteT_c1, iteT_c2, andT_v, andT_c, orT_v, orT_c, iteS_v, iteS_c1, iteS_c2, iteS_r1, iteS_r2, joinS_n, joinS_same, joinS_int, joinS_bl, ixS_s, ↓e_v, ↓e_N, ↓e_B, ↓e_I, ↓e_S, ↓e_gl, ↓e_add, ↓e_sub, ↓e_mul, ↓e_fdiv, ↓e_mod, ↓e_pow, ↓e_neg, ↓e_cmp, ↓bP_b, ↓t_cmp, ↓e_cmp2, ↓t_cmp2, ↓e_and1, ↓e_and2, ↓t_and1, ↓t_and2, ↓e_or1, ↓e_or2, ↓t_or1, ↓t_or2, ↓e_not, ↓t_not, ↓e_ite, ↓t_ite, ↓e_tup, ↓e_lst, ↓e_dct, ↓e_ix, ↓e_sl, ↓e_slr, ↓e_call, ↓e_bi, ↓e_mt, ↓e_lc, ↓e_frz, ↓t_frz, ↓t_v, ↓t_B, ↓t_N, ↓t_I, ↓t_ix, ↓t_bin, ↓t_call, ↓t_bi, ↓t_sl, ↓t_lc, ↓a_n, ↓a_c, ↓if_n, ↓if_1, ↓o_n, ↓iP_i, ↓o_s, ↓i_val, ↓i_r1, ↓i_r2, ↓i_r3, ↓i_enum, ↓i_zip, ↓i_rev, ↓add_i, ↓add_s, ↓add_t, ↓sub_i, ↓mul_i, ↓fdiv_i, ↓mod_i, ↓pow_i, ↓neg_i, ↓eq_i, ↓eq_s, ↓eq_b, ↓ne_i, ↓ne_s, ↓ne_b, ↓lt_i, ↓le_i, ↓gt_i, ↓ge_i, ↓is_N, ↓no_N, ↓tr_b, ↓tr_i, ↓tr_n, ↓tr_t, ↓tr_l, ↓ix_t, ↓ix_l, ↓ix_rl, ↓at_0, ↓at_1, ↓at_2, ↓at_3, ↓s_n, ↓s_c, ↓s_asg, ↓s_asgL, ↓s_par, ↓s_set, ↓s_ex, ↓s_ite, ↓s_for, ↓s_wh, ↓s_ret, ↓s_retN, ↓s_pass, ↓s_brk, ↓s_rz, ↓s_cont, ↓g_nm, ↓g_tp, ↓g_n, ↓g_c, ↓par_n, ↓par_c, ↓nw_f, ↓nw_t, ↓len_l, ↓len_t, ↓abs_i, ↓int_i, ↓int_b, ↓repr_h, ↓max_i, ↓min_i, ↓st_0, ↓st_s, ↓supd_supd, ↓ix_ref, ↓set_ref, ↓fd_turn, ↓fd_left, ↓fd_at, ↓fd_cells, ↓fs_turn, ↓fs_left, ↓fs_at, ↓ne_nil, ↓len_is, map_at, ↓ix_q0, ↓ix_q1, ↓g_q, ↓len_q, ↓tr_q, ↓low_eq, ↓q1_eq, ↓q2_eq, ↓sz_0, ↓sz_1, ↓sz_2, ↓sz_3, ↓sz_4, ↓sz_5, ↓sz_6, ↓sz_7, ↓sz_8, ↓itp_t, ↓itp_l, ↓itl_l, ↓pl_2, ↓pl_3, iteE_q, joinS_q, ↓eq_q, ↓ne_q, ↓ixC_l, ↓frz_ref, ↓tup_l, ↓tup_t, ↓lst_l, ↓lst_t, ↓sl_t, ↓slr_t, ↓mul_l, ↓add_l, ↓ifs_0, gsl_nm, gsl_tp, gsl_n, gsl_c, wipe_n, wipe_c, List.replicate, Option.map_some, decide_eq_true_eq, ↓reduceIte, Bool.false_eq_true, Bool.not_eq_eq_eq_not, Bool.not_true, Bool.not_false, true_and, forall_const, Bool.and_eq_true, Bool.or_eq_true, decide_eq_false_iff_not, not_true_eq_false, not_false_eq_true, decide_true, decide_false]
    refine ⟨by omega, ?_⟩
    rw [mod_nat]
    exact hn
  · simp only [↓gv_z, ↓gv_s, ↓sv_z, ↓sv_s, ↓wv_z, wv_z, ↓wv_s, wv_s, iteE_int, iteE_bl, iteE_str, iteE_lst, iteE_same, iteE_c1, iteE_c2, iteE_1, iteE_0, iteT_1, iteT_0, andT_1, andT_0, orT_1, orT_0, andE_1, andE_0, orE_1, orE_0, iteS_1, iteS_0, andE_bl, andE_c, orE_bl, orE_c, iteT_v, iteT_c1, iteT_c2, andT_v, andT_c, orT_v, orT_c, iteS_v, iteS_c1, iteS_c2, iteS_r1, iteS_r2, joinS_n, joinS_same, joinS_int, joinS_bl, ixS_s, ↓e_v, ↓e_N, ↓e_B, ↓e_I, ↓e_S, ↓e_gl, ↓e_add, ↓e_sub, ↓e_mul, ↓e_fdiv, ↓e_mod, ↓e_pow, ↓e_neg, ↓e_cmp, ↓bP_b, ↓t_cmp, ↓e_cmp2, ↓t_cmp2, ↓e_and1, ↓e_and2, ↓t_and1, ↓t_and2, ↓e_or1, ↓e_or2, ↓t_or1, ↓t_or2, ↓e_not, ↓t_not, ↓e_ite, ↓t_ite, ↓e_tup, ↓e_lst, ↓e_dct, ↓e_ix, ↓e_sl, ↓e_slr, ↓e_call, ↓e_bi, ↓e_mt, ↓e_lc, ↓e_frz, ↓t_frz, ↓t_v, ↓t_B, ↓t_N, ↓t_I, ↓t_ix, ↓t_bin, ↓t_call, ↓t_bi, ↓t_sl, ↓t_lc, ↓a_n, ↓a_c, ↓if_n, ↓if_1, ↓o_n, ↓iP_i, ↓o_s, ↓i_val, ↓i_r1, ↓i_r2, ↓i_r3, ↓i_enum, ↓i_zip, ↓i_rev, ↓add_i, ↓add_s, ↓add_t, ↓sub_i, ↓mul_i, ↓fdiv_i, ↓mod_i, ↓pow_i, ↓neg_i, ↓eq_i, ↓eq_s, ↓eq_b, ↓ne_i, ↓ne_s, ↓ne_b, ↓lt_i, ↓le_i, ↓gt_i, ↓ge_i, ↓is_N, ↓no_N, ↓tr_b, ↓tr_i, ↓tr_n, ↓tr_t, ↓tr_l, ↓ix_t, ↓ix_l, ↓ix_rl, ↓at_0, ↓at_1, ↓at_2, ↓at_3, ↓s_n, ↓s_c, ↓s_asg, ↓s_asgL, ↓s_par, ↓s_set, ↓s_ex, ↓s_ite, ↓s_for, ↓s_wh, ↓s_ret, ↓s_retN, ↓s_pass, ↓s_brk, ↓s_rz, ↓s_cont, ↓g_nm, ↓g_tp, ↓g_n, ↓g_c, ↓par_n, ↓par_c, ↓nw_f, ↓nw_t, ↓len_l, ↓len_t, ↓abs_i, ↓int_i, ↓int_b, ↓repr_h, ↓max_i, ↓min_i, ↓st_0, ↓st_s, ↓supd_supd, ↓ix_ref, ↓set_ref, ↓fd_turn, ↓fd_left, ↓fd_at, ↓fd_cells, ↓fs_turn, ↓fs_left, ↓fs_at, ↓ne_nil, ↓len_is, map_at, ↓ix_q0, ↓ix_q1, ↓g_q, ↓len_q, ↓tr_q, ↓low_eq, ↓q1_eq, ↓q2_eq, ↓sz_0, ↓sz_1, ↓sz_2, ↓sz_3, ↓sz_4, ↓sz_5, ↓sz_6, ↓sz_7, ↓sz_8, ↓itp_t, ↓itp_l, ↓itl_l, ↓pl_2, ↓pl_3, iteE_q, joinS_q, ↓eq_q, ↓ne_q, ↓ixC_l, ↓frz_ref, ↓tup_l, ↓tup_t, ↓lst_l, ↓lst_t, ↓sl_t, ↓slr_t, ↓mul_l, ↓add_l, ↓ifs_0, gsl_nm, gsl_tp, gsl_n, gsl_c, wipe_n, wipe_c, List.replicate, Option.map_some, decide_eq_true_eq, ↓reduceIte, Bool.false_eq_true, Bool.not_eq_eq_eq_not, Bool.not_true, Bool.not_false, true_and, forall_const, Bool.and_eq_true, Bool.or_eq_true, decide_eq_false_iff_not, not_true_eq_false, not_false_eq_true, decide_true, decide_false]
    have hne := gcd_ne (t := t) h0
    have hg2 : CDvD (if u < 0 then 0 - (Nat.gcd t.natAbs u.natAbs : Int) else (Nat.gcd t.natAbs u.natAbs : Int)) := by
      split
      · exact Bt.cdv (b := 8001) (Bt.sub (Bt.lit (by decide)) hg) (by omega) (by decide)
      · exact hg.cdv hne (by decide)
    exact ⟨hg2, hg2, h⟩
abbrev sp__law_lowest := spLow
def b_common_of : Sms := .cons (.par [0, 1] (.cons (.bi .abs false (.cons (.v 0) (.nil))) (.cons (.bi .abs false (.cons (.v 1) (.nil))) (.nil)))) (.cons (.wh (.cmp .gt (.v 1) (.cI 0)) (.cons (.par [0, 1] (.cons (.v 1) (.cons (.bin .mod false (.v 0) (.v 1)) (.nil)))) (.nil))) (.cons (.ret (.v 0)) (.nil)))
def spGcd : Spec := fun ds S Q _ => match ds with
  | [.int t, .int u] => Q (.int (Nat.gcd t.natAbs u.natAbs : Int)) S
  | _ => False
theorem gcd_eq {S : Sto} {t u : Int} {Q : EQ} {U : Ex → Sto → Prop} : @callS spGcd [.int t, .int u] S U ⟨Q⟩ = Q (.int (Nat.gcd t.natAbs u.natAbs : Int)) S := rfl
theorem t_common_of : Keeps 2 b_common_of spGcd 2 := by
  intro ds S Q U h
  match ds, h with
  | [.int t, .int u], h =>
  refine ⟨rfl, ?_⟩
  simp only [b_common_of, ↓gv_z, ↓gv_s, ↓sv_z, ↓sv_s, ↓wv_z, wv_z, ↓wv_s, wv_s, iteE_int, iteE_bl, iteE_str, iteE_lst, iteE_same, iteE_c1, iteE_c2, iteE_1, iteE_0, iteT_1, iteT_0, andT_1, andT_0, orT_1, orT_0, andE_1, andE_0, orE_1, orE_0, iteS_1, iteS_0, andE_bl, andE_c, orE_bl, orE_c, iteT_v, iteT_c1, iteT_c2, andT_v, andT_c, orT_v, orT_c, iteS_v, iteS_c1, iteS_c2, iteS_r1, iteS_r2, joinS_n, joinS_same, joinS_int, joinS_bl, ixS_s, ↓e_v, ↓e_N, ↓e_B, ↓e_I, ↓e_S, ↓e_gl, ↓e_add, ↓e_sub, ↓e_mul, ↓e_fdiv, ↓e_mod, ↓e_pow, ↓e_neg, ↓e_cmp, ↓bP_b, ↓t_cmp, ↓e_cmp2, ↓t_cmp2, ↓e_and1, ↓e_and2, ↓t_and1, ↓t_and2, ↓e_or1, ↓e_or2, ↓t_or1, ↓t_or2, ↓e_not, ↓t_not, ↓e_ite, ↓t_ite, ↓e_tup, ↓e_lst, ↓e_dct, ↓e_ix, ↓e_sl, ↓e_slr, ↓e_call, ↓e_bi, ↓e_mt, ↓e_lc, ↓e_frz, ↓t_frz, ↓t_v, ↓t_B, ↓t_N, ↓t_I, ↓t_ix, ↓t_bin, ↓t_call, ↓t_bi, ↓t_sl, ↓t_lc, ↓a_n, ↓a_c, ↓if_n, ↓if_1, ↓o_n, ↓iP_i, ↓o_s, ↓i_val, ↓i_r1, ↓i_r2, ↓i_r3, ↓i_enum, ↓i_zip, ↓i_rev, ↓add_i, ↓add_s, ↓add_t, ↓sub_i, ↓mul_i, ↓fdiv_i, ↓mod_i, ↓pow_i, ↓neg_i, ↓eq_i, ↓eq_s, ↓eq_b, ↓ne_i, ↓ne_s, ↓ne_b, ↓lt_i, ↓le_i, ↓gt_i, ↓ge_i, ↓is_N, ↓no_N, ↓tr_b, ↓tr_i, ↓tr_n, ↓tr_t, ↓tr_l, ↓ix_t, ↓ix_l, ↓ix_rl, ↓at_0, ↓at_1, ↓at_2, ↓at_3, ↓s_n, ↓s_c, ↓s_asg, ↓s_asgL, ↓s_par, ↓s_set, ↓s_ex, ↓s_ite, ↓s_for, ↓s_wh, ↓s_ret, ↓s_retN, ↓s_pass, ↓s_brk, ↓s_rz, ↓s_cont, ↓g_nm, ↓g_tp, ↓g_n, ↓g_c, ↓par_n, ↓par_c, ↓nw_f, ↓nw_t, ↓len_l, ↓len_t, ↓abs_i, ↓int_i, ↓int_b, ↓repr_h, ↓max_i, ↓min_i, ↓st_0, ↓st_s, ↓supd_supd, ↓ix_ref, ↓set_ref, ↓fd_turn, ↓fd_left, ↓fd_at, ↓fd_cells, ↓fs_turn, ↓fs_left, ↓fs_at, ↓ne_nil, ↓len_is, map_at, ↓ix_q0, ↓ix_q1, ↓g_q, ↓len_q, ↓tr_q, ↓low_eq, ↓q1_eq, ↓q2_eq, ↓sz_0, ↓sz_1, ↓sz_2, ↓sz_3, ↓sz_4, ↓sz_5, ↓sz_6, ↓sz_7, ↓sz_8, ↓itp_t, ↓itp_l, ↓itl_l, ↓pl_2, ↓pl_3, iteE_q, joinS_q, ↓eq_q, ↓ne_q, ↓ixC_l, ↓frz_ref, ↓tup_l, ↓tup_t, ↓lst_l, ↓lst_t, ↓sl_t, ↓slr_t, ↓mul_l, ↓add_l, ↓ifs_0, gsl_nm, gsl_tp, gsl_n, gsl_c, wipe_n, wipe_c, List.replicate, Option.map_some, decide_eq_true_eq, ↓reduceIte, Bool.false_eq_true, Bool.not_eq_eq_eq_not, Bool.not_true, Bool.not_false, true_and, forall_const, Bool.and_eq_true, Bool.or_eq_true, decide_eq_false_iff_not, not_true_eq_false, not_false_eq_true, decide_true, decide_false]
  rw [abs_eq, abs_eq]
  refine gcd_loop (st := fun a b => [some (D.int a), some (D.int b)]) ?_ ?_ u.natAbs t.natAbs ?_
  · intro a b T hT
    simp only [↓gv_z, ↓gv_s, ↓sv_z, ↓sv_s, ↓wv_z, wv_z, ↓wv_s, wv_s, iteE_int, iteE_bl, iteE_str, iteE_lst, iteE_same, iteE_c1, iteE_c2, iteE_1, iteE_0, iteT_1, iteT_0, andT_1, andT_0, orT_1, orT_0, andE_1, andE_0, orE_1, orE_0, iteS_1, iteS_0, andE_bl, andE_c, orE_bl, orE_c, iteT_v, iteT_c1, iteT_c2, andT_v, andT_c, orT_v, orT_c, iteS_v, iteS_c1, iteS_c2, iteS_r1, iteS_r2, joinS_n, joinS_same, joinS_int, joinS_bl, ixS_s, ↓e_v, ↓e_N, ↓e_B, ↓e_I, ↓e_S, ↓e_gl, ↓e_add, ↓e_sub, ↓e_mul, ↓e_fdiv, ↓e_mod, ↓e_pow, ↓e_neg, ↓e_cmp, ↓bP_b, ↓t_cmp, ↓e_cmp2, ↓t_cmp2, ↓e_and1, ↓e_and2, ↓t_and1, ↓t_and2, ↓e_or1, ↓e_or2, ↓t_or1, ↓t_or2, ↓e_not, ↓t_not, ↓e_ite, ↓t_ite, ↓e_tup, ↓e_lst, ↓e_dct, ↓e_ix, ↓e_sl, ↓e_slr, ↓e_call, ↓e_bi, ↓e_mt, ↓e_lc, ↓e_frz, ↓t_frz, ↓t_v, ↓t_B, ↓t_N, ↓t_I, ↓t_ix, ↓t_bin, ↓t_call, ↓t_bi, ↓t_sl, ↓t_lc, ↓a_n, ↓a_c, ↓if_n, ↓if_1, ↓o_n, ↓iP_i, ↓o_s, ↓i_val, ↓i_r1, ↓i_r2, ↓i_r3, ↓i_enum, ↓i_zip, ↓i_rev, ↓add_i, ↓add_s, ↓add_t, ↓sub_i, ↓mul_i, ↓fdiv_i, ↓mod_i, ↓pow_i, ↓neg_i, ↓eq_i, ↓eq_s, ↓eq_b, ↓ne_i, ↓ne_s, ↓ne_b, ↓lt_i, ↓le_i, ↓gt_i, ↓ge_i, ↓is_N, ↓no_N, ↓tr_b, ↓tr_i, ↓tr_n, ↓tr_t, ↓tr_l, ↓ix_t, ↓ix_l, ↓ix_rl, ↓at_0, ↓at_1, ↓at_2, ↓at_3, ↓s_n, ↓s_c, ↓s_asg, ↓s_asgL, ↓s_par, ↓s_set, ↓s_ex, ↓s_ite, ↓s_for, ↓s_wh, ↓s_ret, ↓s_retN, ↓s_pass, ↓s_brk, ↓s_rz, ↓s_cont, ↓g_nm, ↓g_tp, ↓g_n, ↓g_c, ↓par_n, ↓par_c, ↓nw_f, ↓nw_t, ↓len_l, ↓len_t, ↓abs_i, ↓int_i, ↓int_b, ↓repr_h, ↓max_i, ↓min_i, ↓st_0, ↓st_s, ↓supd_supd, ↓ix_ref, ↓set_ref, ↓fd_turn, ↓fd_left, ↓fd_at, ↓fd_cells, ↓fs_turn, ↓fs_left, ↓fs_at, ↓ne_nil, ↓len_is, map_at, ↓ix_q0, ↓ix_q1, ↓g_q, ↓len_q, ↓tr_q, ↓low_eq, ↓q1_eq, ↓q2_eq, ↓sz_0, ↓sz_1, ↓sz_2, ↓sz_3, ↓sz_4, ↓sz_5, ↓sz_6, ↓sz_7, ↓sz_8, ↓itp_t, ↓itp_l, ↓itl_l, ↓pl_2, ↓pl_3, iteE_q, joinS_q, ↓eq_q, ↓ne_q, ↓ixC_l, ↓frz_ref, ↓tup_l, ↓tup_t, ↓lst_l, ↓lst_t, ↓sl_t, ↓slr_t, ↓mul_l, ↓add_l, ↓ifs_0, gsl_nm, gsl_tp, gsl_n, gsl_c, wipe_n, wipe_c, List.replicate, Option.map_some, decide_eq_true_eq, ↓reduceIte, Bool.false_eq_true, Bool.not_eq_eq_eq_not, Bool.not_true, Bool.not_false, true_and, forall_const, Bool.and_eq_true, Bool.or_eq_true, decide_eq_false_iff_not, not_true_eq_false, not_false_eq_true, decide_true, decide_false]
    simpa using hT
  · intro a b rt bk ct nx hb hn
    simp only [↓gv_z, ↓gv_s, ↓sv_z, ↓sv_s, ↓wv_z, wv_z, ↓wv_s, wv_s, iteE_int, iteE_bl, iteE_str, iteE_lst, iteE_same, iteE_c1, iteE_c2, iteE_1, iteE_0, iteT_1, iteT_0, andT_1, andT_0, orT_1, orT_0, andE_1, andE_0, orE_1, orE_0, iteS_1, iteS_0, andE_bl, andE_c, orE_bl, orE_c, iteT_v, iteT_c1, iteT_c2, andT_v, andT_c, orT_v, orT_c, iteS_v, iteS_c1, iteS_c2, iteS_r1, iteS_r2, joinS_n, joinS_same, joinS_int, joinS_bl, ixS_s, ↓e_v, ↓e_N, ↓e_B, ↓e_I, ↓e_S, ↓e_gl, ↓e_add, ↓e_sub, ↓e_mul, ↓e_fdiv, ↓e_mod, ↓e_pow, ↓e_neg, ↓e_cmp, ↓bP_b, ↓t_cmp, ↓e_cmp2, ↓t_cmp2, ↓e_and1, ↓e_and2, ↓t_and1, ↓t_and2, ↓e_or1, ↓e_or2, ↓t_or1, ↓t_or2, ↓e_not, ↓t_not, ↓e_ite, ↓t_ite, ↓e_tup, ↓e_lst, ↓e_dct, ↓e_ix, ↓e_sl, ↓e_slr, ↓e_call, ↓e_bi, ↓e_mt, ↓e_lc, ↓e_frz, ↓t_frz, ↓t_v, ↓t_B, ↓t_N, ↓t_I, ↓t_ix, ↓t_bin, ↓t_call, ↓t_bi, ↓t_sl, ↓t_lc, ↓a_n, ↓a_c, ↓if_n, ↓if_1, ↓o_n, ↓iP_i, ↓o_s, ↓i_val, ↓i_r1, ↓i_r2, ↓i_r3, ↓i_enum, ↓i_zip, ↓i_rev, ↓add_i, ↓add_s, ↓add_t, ↓sub_i, ↓mul_i, ↓fdiv_i, ↓mod_i, ↓pow_i, ↓neg_i, ↓eq_i, ↓eq_s, ↓eq_b, ↓ne_i, ↓ne_s, ↓ne_b, ↓lt_i, ↓le_i, ↓gt_i, ↓ge_i, ↓is_N, ↓no_N, ↓tr_b, ↓tr_i, ↓tr_n, ↓tr_t, ↓tr_l, ↓ix_t, ↓ix_l, ↓ix_rl, ↓at_0, ↓at_1, ↓at_2, ↓at_3, ↓s_n, ↓s_c, ↓s_asg, ↓s_asgL, ↓s_par, ↓s_set, ↓s_ex, ↓s_ite, ↓s_for, ↓s_wh, ↓s_ret, ↓s_retN, ↓s_pass, ↓s_brk, ↓s_rz, ↓s_cont, ↓g_nm, ↓g_tp, ↓g_n, ↓g_c, ↓par_n, ↓par_c, ↓nw_f, ↓nw_t, ↓len_l, ↓len_t, ↓abs_i, ↓int_i, ↓int_b, ↓repr_h, ↓max_i, ↓min_i, ↓st_0, ↓st_s, ↓supd_supd, ↓ix_ref, ↓set_ref, ↓fd_turn, ↓fd_left, ↓fd_at, ↓fd_cells, ↓fs_turn, ↓fs_left, ↓fs_at, ↓ne_nil, ↓len_is, map_at, ↓ix_q0, ↓ix_q1, ↓g_q, ↓len_q, ↓tr_q, ↓low_eq, ↓q1_eq, ↓q2_eq, ↓sz_0, ↓sz_1, ↓sz_2, ↓sz_3, ↓sz_4, ↓sz_5, ↓sz_6, ↓sz_7, ↓sz_8, ↓itp_t, ↓itp_l, ↓itl_l, ↓pl_2, ↓pl_3, iteE_q, joinS_q, ↓eq_q, ↓ne_q, ↓ixC_l, ↓frz_ref, ↓tup_l, ↓tup_t, ↓lst_l, ↓lst_t, ↓sl_t, ↓slr_t, ↓mul_l, ↓add_l, ↓ifs_0, gsl_nm, gsl_tp, gsl_n, gsl_c, wipe_n, wipe_c, List.replicate, Option.map_some, decide_eq_true_eq, ↓reduceIte, Bool.false_eq_true, Bool.not_eq_eq_eq_not, Bool.not_true, Bool.not_false, true_and, forall_const, Bool.and_eq_true, Bool.or_eq_true, decide_eq_false_iff_not, not_true_eq_false, not_false_eq_true, decide_true, decide_false]
    refine ⟨by omega, ?_⟩
    rw [mod_nat]
    exact hn
  · simp only [↓gv_z, ↓gv_s, ↓sv_z, ↓sv_s, ↓wv_z, wv_z, ↓wv_s, wv_s, iteE_int, iteE_bl, iteE_str, iteE_lst, iteE_same, iteE_c1, iteE_c2, iteE_1, iteE_0, iteT_1, iteT_0, andT_1, andT_0, orT_1, orT_0, andE_1, andE_0, orE_1, orE_0, iteS_1, iteS_0, andE_bl, andE_c, orE_bl, orE_c, iteT_v, iteT_c1, iteT_c2, andT_v, andT_c, orT_v, orT_c, iteS_v, iteS_c1, iteS_c2, iteS_r1, iteS_r2, joinS_n, joinS_same, joinS_int, joinS_bl, ixS_s, ↓e_v, ↓e_N, ↓e_B, ↓e_I, ↓e_S, ↓e_gl, ↓e_add, ↓e_sub, ↓e_mul, ↓e_fdiv, ↓e_mod, ↓e_pow, ↓e_neg, ↓e_cmp, ↓bP_b, ↓t_cmp, ↓e_cmp2, ↓t_cmp2, ↓e_and1, ↓e_and2, ↓t_and1, ↓t_and2, ↓e_or1, ↓e_or2, ↓t_or1, ↓t_or2, ↓e_not, ↓t_not, ↓e_ite, ↓t_ite, ↓e_tup, ↓e_lst, ↓e_dct, ↓e_ix, ↓e_sl, ↓e_slr, ↓e_call, ↓e_bi, ↓e_mt, ↓e_lc, ↓e_frz, ↓t_frz, ↓t_v, ↓t_B, ↓t_N, ↓t_I, ↓t_ix, ↓t_bin, ↓t_call, ↓t_bi, ↓t_sl, ↓t_lc, ↓a_n, ↓a_c, ↓if_n, ↓if_1, ↓o_n, ↓iP_i, ↓o_s, ↓i_val, ↓i_r1, ↓i_r2, ↓i_r3, ↓i_enum, ↓i_zip, ↓i_rev, ↓add_i, ↓add_s, ↓add_t, ↓sub_i, ↓mul_i, ↓fdiv_i, ↓mod_i, ↓pow_i, ↓neg_i, ↓eq_i, ↓eq_s, ↓eq_b, ↓ne_i, ↓ne_s, ↓ne_b, ↓lt_i, ↓le_i, ↓gt_i, ↓ge_i, ↓is_N, ↓no_N, ↓tr_b, ↓tr_i, ↓tr_n, ↓tr_t, ↓tr_l, ↓ix_t, ↓ix_l, ↓ix_rl, ↓at_0, ↓at_1, ↓at_2, ↓at_3, ↓s_n, ↓s_c, ↓s_asg, ↓s_asgL, ↓s_par, ↓s_set, ↓s_ex, ↓s_ite, ↓s_for, ↓s_wh, ↓s_ret, ↓s_retN, ↓s_pass, ↓s_brk, ↓s_rz, ↓s_cont, ↓g_nm, ↓g_tp, ↓g_n, ↓g_c, ↓par_n, ↓par_c, ↓nw_f, ↓nw_t, ↓len_l, ↓len_t, ↓abs_i, ↓int_i, ↓int_b, ↓repr_h, ↓max_i, ↓min_i, ↓st_0, ↓st_s, ↓supd_supd, ↓ix_ref, ↓set_ref, ↓fd_turn, ↓fd_left, ↓fd_at, ↓fd_cells, ↓fs_turn, ↓fs_left, ↓fs_at, ↓ne_nil, ↓len_is, map_at, ↓ix_q0, ↓ix_q1, ↓g_q, ↓len_q, ↓tr_q, ↓low_eq, ↓q1_eq, ↓q2_eq, ↓sz_0, ↓sz_1, ↓sz_2, ↓sz_3, ↓sz_4, ↓sz_5, ↓sz_6, ↓sz_7, ↓sz_8, ↓itp_t, ↓itp_l, ↓itl_l, ↓pl_2, ↓pl_3, iteE_q, joinS_q, ↓eq_q, ↓ne_q, ↓ixC_l, ↓frz_ref, ↓tup_l, ↓tup_t, ↓lst_l, ↓lst_t, ↓sl_t, ↓slr_t, ↓mul_l, ↓add_l, ↓ifs_0, gsl_nm, gsl_tp, gsl_n, gsl_c, wipe_n, wipe_c, List.replicate, Option.map_some, decide_eq_true_eq, ↓reduceIte, Bool.false_eq_true, Bool.not_eq_eq_eq_not, Bool.not_true, Bool.not_false, true_and, forall_const, Bool.and_eq_true, Bool.or_eq_true, decide_eq_false_iff_not, not_true_eq_false, not_false_eq_true, decide_true, decide_false]
    exact h
abbrev sp_common_of := spGcd
def b_fraction_of : Sms := .cons (.ite (.cmp .eq (.v 1) (.cI 0)) (.cons (.rz) (.nil)) (.nil)) (.cons (.asg (.nm 2) (.call "common_of" sp_common_of (.cons (.v 0) (.cons (.v 1) (.nil))))) (.cons (.ite (.cmp .lt (.v 1) (.cI 0)) (.cons (.asg (.nm 2) (.bin .sub false (.cI 0) (.v 2))) (.nil)) (.nil)) (.cons (.ret (.tup (.cons (.bin .fdiv false (.v 0) (.v 2)) (.cons (.bin .fdiv false (.v 1) (.v 2)) (.nil))))) (.nil))))
theorem t_fraction_of : Keeps 3 b_fraction_of spLow 2 := by
  intro ds S Q U h
  match ds, h with
  | [.int t, .int u], h =>
  refine ⟨rfl, ?_⟩
  obtain ⟨⟨h0, h1, h2⟩, h⟩ := h
  rw [← low_frq h0] at h
  have hg : Bt 8000 (Nat.gcd t.natAbs u.natAbs : Int) := h2.of_abs (Nat.le_of_dvd (by omega) (Nat.gcd_dvd_right _ _))
  have hne := gcd_ne (t := t) h0
  have hg2 : CDvD (if u < 0 then 0 - (Nat.gcd t.natAbs u.natAbs : Int) else (Nat.gcd t.natAbs u.natAbs : Int)) := by
    split
    · exact Bt.cdv (b := 8001) (Bt.sub (Bt.lit (by decide)) hg) (by omega) (by decide)
    · exact hg.cdv hne (by decide)
  simp only [b_fraction_of, ↓gcd_eq, ↓gv_z, ↓gv_s, ↓sv_z, ↓sv_s, ↓wv_z, wv_z, ↓wv_s, wv_s, iteE_int, iteE_bl, iteE_str, iteE_lst, iteE_same, iteE_c1, iteE_c2, iteE_1, iteE_0, iteT_1, iteT_0, andT_1, andT_0, orT_1, orT_0, andE_1, andE_0, orE_1, orE_0, iteS_1, iteS_0, andE_bl, andE_c, orE_bl, orE_c, iteT_v, iteT_c1, iteT_c2, andT_v, andT_c, orT_v, orT_c, iteS_v, iteS_c1, iteS_c2, iteS_r1, iteS_r2, joinS_n, joinS_same, joinS_int, joinS_bl, ixS_s, ↓e_v, ↓e_N, ↓e_B, ↓e_I, ↓e_S, ↓e_gl, ↓e_add, ↓e_sub, ↓e_mul, ↓e_fdiv, ↓e_mod, ↓e_pow, ↓e_neg, ↓e_cmp, ↓bP_b, ↓t_cmp, ↓e_cmp2, ↓t_cmp2, ↓e_and1, ↓e_and2, ↓t_and1, ↓t_and2, ↓e_or1, ↓e_or2, ↓t_or1, ↓t_or2, ↓e_not, ↓t_not, ↓e_ite, ↓t_ite, ↓e_tup, ↓e_lst, ↓e_dct, ↓e_ix, ↓e_sl, ↓e_slr, ↓e_call, ↓e_bi, ↓e_mt, ↓e_lc, ↓e_frz, ↓t_frz, ↓t_v, ↓t_B, ↓t_N, ↓t_I, ↓t_ix, ↓t_bin, ↓t_call, ↓t_bi, ↓t_sl, ↓t_lc, ↓a_n, ↓a_c, ↓if_n, ↓if_1, ↓o_n, ↓iP_i, ↓o_s, ↓i_val, ↓i_r1, ↓i_r2, ↓i_r3, ↓i_enum, ↓i_zip, ↓i_rev, ↓add_i, ↓add_s, ↓add_t, ↓sub_i, ↓mul_i, ↓fdiv_i, ↓mod_i, ↓pow_i, ↓neg_i, ↓eq_i, ↓eq_s, ↓eq_b, ↓ne_i, ↓ne_s, ↓ne_b, ↓lt_i, ↓le_i, ↓gt_i, ↓ge_i, ↓is_N, ↓no_N, ↓tr_b, ↓tr_i, ↓tr_n, ↓tr_t, ↓tr_l, ↓ix_t, ↓ix_l, ↓ix_rl, ↓at_0, ↓at_1, ↓at_2, ↓at_3, ↓s_n, ↓s_c, ↓s_asg, ↓s_asgL, ↓s_par, ↓s_set, ↓s_ex, ↓s_ite, ↓s_for, ↓s_wh, ↓s_ret, ↓s_retN, ↓s_pass, ↓s_brk, ↓s_rz, ↓s_cont, ↓g_nm, ↓g_tp, ↓g_n, ↓g_c, ↓par_n, ↓par_c, ↓nw_f, ↓nw_t, ↓len_l, ↓len_t, ↓abs_i, ↓int_i, ↓int_b, ↓repr_h, ↓max_i, ↓min_i, ↓st_0, ↓st_s, ↓supd_supd, ↓ix_ref, ↓set_ref, ↓fd_turn, ↓fd_left, ↓fd_at, ↓fd_cells, ↓fs_turn, ↓fs_left, ↓fs_at, ↓ne_nil, ↓len_is, map_at, ↓ix_q0, ↓ix_q1, ↓g_q, ↓len_q, ↓tr_q, ↓low_eq, ↓q1_eq, ↓q2_eq, ↓sz_0, ↓sz_1, ↓sz_2, ↓sz_3, ↓sz_4, ↓sz_5, ↓sz_6, ↓sz_7, ↓sz_8, ↓itp_t, ↓itp_l, ↓itl_l, ↓pl_2, ↓pl_3, iteE_q, joinS_q, ↓eq_q, ↓ne_q, ↓ixC_l, ↓frz_ref, ↓tup_l, ↓tup_t, ↓lst_l, ↓lst_t, ↓sl_t, ↓slr_t, ↓mul_l, ↓add_l, ↓ifs_0, gsl_nm, gsl_tp, gsl_n, gsl_c, wipe_n, wipe_c, List.replicate, Option.map_some, decide_eq_true_eq, ↓reduceIte, Bool.false_eq_true, Bool.not_eq_eq_eq_not, Bool.not_true, Bool.not_false, true_and, forall_const, Bool.and_eq_true, Bool.or_eq_true, decide_eq_false_iff_not, not_true_eq_false, not_false_eq_true, decide_true, decide_false]
  rw [if_neg h0]
  exact ⟨hg2, hg2, h⟩
abbrev sp_fraction_of := spLow
abbrev sp_plus_by : Spec := spQ2 3900 fun x y => frq (x + y)
abbrev sp_times_by : Spec := spQ2 3900 fun x y => frq (x * y)
abbrev sp_minus_by : Spec := spQ2 3900 fun x y => frq (x - y)
theorem q2_add {S : Sto} {x y : Rat} {Q : EQ} {U : Ex → Sto → Prop} : @callS sp_plus_by [frq x, frq y] S U ⟨Q⟩ = ((RB 3900 x ∧ RB 3900 y) ∧ Q (frq (x + y)) S) := q2_eq
theorem q2_mul {S : Sto} {x y : Rat} {Q : EQ} {U : Ex → Sto → Prop} : @callS sp_times_by [frq x, frq y] S U ⟨Q⟩ = ((RB 3900 x ∧ RB 3900 y) ∧ Q (frq (x * y)) S) := q2_eq
theorem q2_sub {S : Sto} {x y : Rat} {Q : EQ} {U : Ex → Sto → Prop} : @callS sp_minus_by [frq x, frq y] S U ⟨Q⟩ = ((RB 3900 x ∧ RB 3900 y) ∧ Q (frq (x - y)) S) := q2_eq
def b_plus_by : Sms := .cons (.ret (.call "fraction_of" sp_fraction_of (.cons (.bin .add false (.bin .mul false (.ix (.v 0) (.cI 0)) (.ix (.v 1) (.cI 1))) (.bin .mul false (.ix (.v 1) (.cI 0)) (.ix (.v 0) (.cI 1)))) (.cons (.bin .mul false (.ix (.v 0) (.cI 1)) (.ix (.v 1) (.cI 1))) (.nil))))) (.nil)
theorem t_plus_by : Keeps 2 b_plus_by sp_plus_by 2 := by
  rintro ds S Q U ⟨x, y, rfl, ⟨hx, hy⟩, h⟩
  refine ⟨rfl, ?_⟩
  simp only [b_plus_by, ↓gv_z, ↓gv_s, ↓sv_z, ↓sv_s, ↓wv_z, wv_z, ↓wv_s, wv_s, iteE_int, iteE_bl, iteE_str, iteE_lst, iteE_same, iteE_c1, iteE_c2, iteE_1, iteE_0, iteT_1, iteT_0, andT_1, andT_0, orT_1, orT_0, andE_1, andE_0, orE_1, orE_0, iteS_1, iteS_0, andE_bl, andE_c, orE_bl, orE_c, iteT_v, iteT_c1, iteT_c2, andT_v, andT_c, orT_v, orT_c, iteS_v, iteS_c1, iteS_c2, iteS_r1, iteS_r2, joinS_n, joinS_same, joinS_int, joinS_bl, ixS_s, ↓e_v, ↓e_N, ↓e_B, ↓e_I, ↓e_S, ↓e_gl, ↓e_add, ↓e_sub, ↓e_mul, ↓e_fdiv, ↓e_mod, ↓e_pow, ↓e_neg, ↓e_cmp, ↓bP_b, ↓t_cmp, ↓e_cmp2, ↓t_cmp2, ↓e_and1, ↓e_and2, ↓t_and1, ↓t_and2, ↓e_or1, ↓e_or2, ↓t_or1, ↓t_or2, ↓e_not, ↓t_not, ↓e_ite, ↓t_ite, ↓e_tup, ↓e_lst, ↓e_dct, ↓e_ix, ↓e_sl, ↓e_slr, ↓e_call, ↓e_bi, ↓e_mt, ↓e_lc, ↓e_frz, ↓t_frz, ↓t_v, ↓t_B, ↓t_N, ↓t_I, ↓t_ix, ↓t_bin, ↓t_call, ↓t_bi, ↓t_sl, ↓t_lc, ↓a_n, ↓a_c, ↓if_n, ↓if_1, ↓o_n, ↓iP_i, ↓o_s, ↓i_val, ↓i_r1, ↓i_r2, ↓i_r3, ↓i_enum, ↓i_zip, ↓i_rev, ↓add_i, ↓add_s, ↓add_t, ↓sub_i, ↓mul_i, ↓fdiv_i, ↓mod_i, ↓pow_i, ↓neg_i, ↓eq_i, ↓eq_s, ↓eq_b, ↓ne_i, ↓ne_s, ↓ne_b, ↓lt_i, ↓le_i, ↓gt_i, ↓ge_i, ↓is_N, ↓no_N, ↓tr_b, ↓tr_i, ↓tr_n, ↓tr_t, ↓tr_l, ↓ix_t, ↓ix_l, ↓ix_rl, ↓at_0, ↓at_1, ↓at_2, ↓at_3, ↓s_n, ↓s_c, ↓s_asg, ↓s_asgL, ↓s_par, ↓s_set, ↓s_ex, ↓s_ite, ↓s_for, ↓s_wh, ↓s_ret, ↓s_retN, ↓s_pass, ↓s_brk, ↓s_rz, ↓s_cont, ↓g_nm, ↓g_tp, ↓g_n, ↓g_c, ↓par_n, ↓par_c, ↓nw_f, ↓nw_t, ↓len_l, ↓len_t, ↓abs_i, ↓int_i, ↓int_b, ↓repr_h, ↓max_i, ↓min_i, ↓st_0, ↓st_s, ↓supd_supd, ↓ix_ref, ↓set_ref, ↓fd_turn, ↓fd_left, ↓fd_at, ↓fd_cells, ↓fs_turn, ↓fs_left, ↓fs_at, ↓ne_nil, ↓len_is, map_at, ↓ix_q0, ↓ix_q1, ↓g_q, ↓len_q, ↓tr_q, ↓low_eq, ↓q1_eq, ↓q2_eq, ↓sz_0, ↓sz_1, ↓sz_2, ↓sz_3, ↓sz_4, ↓sz_5, ↓sz_6, ↓sz_7, ↓sz_8, ↓itp_t, ↓itp_l, ↓itl_l, ↓pl_2, ↓pl_3, iteE_q, joinS_q, ↓eq_q, ↓ne_q, ↓ixC_l, ↓frz_ref, ↓tup_l, ↓tup_t, ↓lst_l, ↓lst_t, ↓sl_t, ↓slr_t, ↓mul_l, ↓add_l, ↓ifs_0, gsl_nm, gsl_tp, gsl_n, gsl_c, wipe_n, wipe_c, List.replicate, Option.map_some, decide_eq_true_eq, ↓reduceIte, Bool.false_eq_true, Bool.not_eq_eq_eq_not, Bool.not_true, Bool.not_false, true_and, forall_const, Bool.and_eq_true, Bool.or_eq_true, decide_eq_false_iff_not, not_true_eq_false, not_false_eq_true, decide_true, decide_false]
  rw [rat_add]
  exact ⟨hx.n.cmul hy.d (by decide), hy.n.cmul hx.d (by decide), hx.d.cmul hy.d (by decide), ⟨Int.mul_ne_zero den_ne den_ne, (Bt.add (hx.n.mul hy.d) (hy.n.mul hx.d)).le (by decide), (hx.d.mul hy.d).le (by decide)⟩, h⟩
def b_times_by : Sms := .cons (.ret (.call "fraction_of" sp_fraction_of (.cons (.bin .mul false (.ix (.v 0) (.cI 0)) (.ix (.v 1) (.cI 0))) (.cons (.bin .mul false (.ix (.v 0) (.cI 1)) (.ix (.v 1) (.cI 1))) (.nil))))) (.nil)
theorem t_times_by : Keeps 2 b_times_by sp_times_by 2 := by
  rintro ds S Q U ⟨x, y, rfl, ⟨hx, hy⟩, h⟩
  refine ⟨rfl, ?_⟩
  simp only [b_times_by, ↓gv_z, ↓gv_s, ↓sv_z, ↓sv_s, ↓wv_z, wv_z, ↓wv_s, wv_s, iteE_int, iteE_bl, iteE_str, iteE_lst, iteE_same, iteE_c1, iteE_c2, iteE_1, iteE_0, iteT_1, iteT_0, andT_1, andT_0, orT_1, orT_0, andE_1, andE_0, orE_1, orE_0, iteS_1, iteS_0, andE_bl, andE_c, orE_bl, orE_c, iteT_v, iteT_c1, iteT_c2, andT_v, andT_c, orT_v, orT_c, iteS_v, iteS_c1, iteS_c2, iteS_r1, iteS_r2, joinS_n, joinS_same, joinS_int, joinS_bl, ixS_s, ↓e_v, ↓e_N, ↓e_B, ↓e_I, ↓e_S, ↓e_gl, ↓e_add, ↓e_sub, ↓e_mul, ↓e_fdiv, ↓e_mod, ↓e_pow, ↓e_neg, ↓e_cmp, ↓bP_b, ↓t_cmp, ↓e_cmp2, ↓t_cmp2, ↓e_and1, ↓e_and2, ↓t_and1, ↓t_and2, ↓e_or1, ↓e_or2, ↓t_or1, ↓t_or2, ↓e_not, ↓t_not, ↓e_ite, ↓t_ite, ↓e_tup, ↓e_lst, ↓e_dct, ↓e_ix, ↓e_sl, ↓e_slr, ↓e_call, ↓e_bi, ↓e_mt, ↓e_lc, ↓e_frz, ↓t_frz, ↓t_v, ↓t_B, ↓t_N, ↓t_I, ↓t_ix, ↓t_bin, ↓t_call, ↓t_bi, ↓t_sl, ↓t_lc, ↓a_n, ↓a_c, ↓if_n, ↓if_1, ↓o_n, ↓iP_i, ↓o_s, ↓i_val, ↓i_r1, ↓i_r2, ↓i_r3, ↓i_enum, ↓i_zip, ↓i_rev, ↓add_i, ↓add_s, ↓add_t, ↓sub_i, ↓mul_i, ↓fdiv_i, ↓mod_i, ↓pow_i, ↓neg_i, ↓eq_i, ↓eq_s, ↓eq_b, ↓ne_i, ↓ne_s, ↓ne_b, ↓lt_i, ↓le_i, ↓gt_i, ↓ge_i, ↓is_N, ↓no_N, ↓tr_b, ↓tr_i, ↓tr_n, ↓tr_t, ↓tr_l, ↓ix_t, ↓ix_l, ↓ix_rl, ↓at_0, ↓at_1, ↓at_2, ↓at_3, ↓s_n, ↓s_c, ↓s_asg, ↓s_asgL, ↓s_par, ↓s_set, ↓s_ex, ↓s_ite, ↓s_for, ↓s_wh, ↓s_ret, ↓s_retN, ↓s_pass, ↓s_brk, ↓s_rz, ↓s_cont, ↓g_nm, ↓g_tp, ↓g_n, ↓g_c, ↓par_n, ↓par_c, ↓nw_f, ↓nw_t, ↓len_l, ↓len_t, ↓abs_i, ↓int_i, ↓int_b, ↓repr_h, ↓max_i, ↓min_i, ↓st_0, ↓st_s, ↓supd_supd, ↓ix_ref, ↓set_ref, ↓fd_turn, ↓fd_left, ↓fd_at, ↓fd_cells, ↓fs_turn, ↓fs_left, ↓fs_at, ↓ne_nil, ↓len_is, map_at, ↓ix_q0, ↓ix_q1, ↓g_q, ↓len_q, ↓tr_q, ↓low_eq, ↓q1_eq, ↓q2_eq, ↓sz_0, ↓sz_1, ↓sz_2, ↓sz_3, ↓sz_4, ↓sz_5, ↓sz_6, ↓sz_7, ↓sz_8, ↓itp_t, ↓itp_l, ↓itl_l, ↓pl_2, ↓pl_3, iteE_q, joinS_q, ↓eq_q, ↓ne_q, ↓ixC_l, ↓frz_ref, ↓tup_l, ↓tup_t, ↓lst_l, ↓lst_t, ↓sl_t, ↓slr_t, ↓mul_l, ↓add_l, ↓ifs_0, gsl_nm, gsl_tp, gsl_n, gsl_c, wipe_n, wipe_c, List.replicate, Option.map_some, decide_eq_true_eq, ↓reduceIte, Bool.false_eq_true, Bool.not_eq_eq_eq_not, Bool.not_true, Bool.not_false, true_and, forall_const, Bool.and_eq_true, Bool.or_eq_true, decide_eq_false_iff_not, not_true_eq_false, not_false_eq_true, decide_true, decide_false]
  rw [rat_mul]
  exact ⟨hx.n.cmul hy.n (by decide), hx.d.cmul hy.d (by decide), ⟨Int.mul_ne_zero den_ne den_ne, (hx.n.mul hy.n).le (by decide), (hx.d.mul hy.d).le (by decide)⟩, h⟩
def b_minus_by : Sms := .cons (.ret (.call "fraction_of" sp_fraction_of (.cons (.bin .sub false (.bin .mul false (.ix (.v 0) (.cI 0)) (.ix (.v 1) (.cI 1))) (.bin .mul false (.ix (.v 1) (.cI 0)) (.ix (.v 0) (.cI 1)))) (.cons (.bin .mul false (.ix (.v 0) (.cI 1)) (.ix (.v 1) (.cI 1))) (.nil))))) (.nil)
theorem t_minus_by : Keeps 2 b_minus_by sp_minus_by 2 := by
  rintro ds S Q U ⟨x, y, rfl, ⟨hx, hy⟩, h⟩
  refine ⟨rfl, ?_⟩
  simp only [b_minus_by, ↓gv_z, ↓gv_s, ↓sv_z, ↓sv_s, ↓wv_z, wv_z, ↓wv_s, wv_s, iteE_int, iteE_bl, iteE_str, iteE_lst, iteE_same, iteE_c1, iteE_c2, iteE_1, iteE_0, iteT_1, iteT_0, andT_1, andT_0, orT_1, orT_0, andE_1, andE_0, orE_1, orE_0, iteS_1, iteS_0, andE_bl, andE_c, orE_bl, orE_c, iteT_v, iteT_c1, iteT_c2, andT_v, andT_c, orT_v, orT_c, iteS_v, iteS_c1, iteS_c2, iteS_r1, iteS_r2, joinS_n, joinS_same, joinS_int, joinS_bl, ixS_s, ↓e_v, ↓e_N, ↓e_B, ↓e_I, ↓e_S, ↓e_gl, ↓e_add, ↓e_sub, ↓e_mul, ↓e_fdiv, ↓e_mod, ↓e_pow, ↓e_neg, ↓e_cmp, ↓bP_b, ↓t_cmp, ↓e_cmp2, ↓t_cmp2, ↓e_and1, ↓e_and2, ↓t_and1, ↓t_and2, ↓e_or1, ↓e_or2, ↓t_or1, ↓t_or2, ↓e_not, ↓t_not, ↓e_ite, ↓t_ite, ↓e_tup, ↓e_lst, ↓e_dct, ↓e_ix, ↓e_sl, ↓e_slr, ↓e_call, ↓e_bi, ↓e_mt, ↓e_lc, ↓e_frz, ↓t_frz, ↓t_v, ↓t_B, ↓t_N, ↓t_I, ↓t_ix, ↓t_bin, ↓t_call, ↓t_bi, ↓t_sl, ↓t_lc, ↓a_n, ↓a_c, ↓if_n, ↓if_1, ↓o_n, ↓iP_i, ↓o_s, ↓i_val, ↓i_r1, ↓i_r2, ↓i_r3, ↓i_enum, ↓i_zip, ↓i_rev, ↓add_i, ↓add_s, ↓add_t, ↓sub_i, ↓mul_i, ↓fdiv_i, ↓mod_i, ↓pow_i, ↓neg_i, ↓eq_i, ↓eq_s, ↓eq_b, ↓ne_i, ↓ne_s, ↓ne_b, ↓lt_i, ↓le_i, ↓gt_i, ↓ge_i, ↓is_N, ↓no_N, ↓tr_b, ↓tr_i, ↓tr_n, ↓tr_t, ↓tr_l, ↓ix_t, ↓ix_l, ↓ix_rl, ↓at_0, ↓at_1, ↓at_2, ↓at_3, ↓s_n, ↓s_c, ↓s_asg, ↓s_asgL, ↓s_par, ↓s_set, ↓s_ex, ↓s_ite, ↓s_for, ↓s_wh, ↓s_ret, ↓s_retN, ↓s_pass, ↓s_brk, ↓s_rz, ↓s_cont, ↓g_nm, ↓g_tp, ↓g_n, ↓g_c, ↓par_n, ↓par_c, ↓nw_f, ↓nw_t, ↓len_l, ↓len_t, ↓abs_i, ↓int_i, ↓int_b, ↓repr_h, ↓max_i, ↓min_i, ↓st_0, ↓st_s, ↓supd_supd, ↓ix_ref, ↓set_ref, ↓fd_turn, ↓fd_left, ↓fd_at, ↓fd_cells, ↓fs_turn, ↓fs_left, ↓fs_at, ↓ne_nil, ↓len_is, map_at, ↓ix_q0, ↓ix_q1, ↓g_q, ↓len_q, ↓tr_q, ↓low_eq, ↓q1_eq, ↓q2_eq, ↓sz_0, ↓sz_1, ↓sz_2, ↓sz_3, ↓sz_4, ↓sz_5, ↓sz_6, ↓sz_7, ↓sz_8, ↓itp_t, ↓itp_l, ↓itl_l, ↓pl_2, ↓pl_3, iteE_q, joinS_q, ↓eq_q, ↓ne_q, ↓ixC_l, ↓frz_ref, ↓tup_l, ↓tup_t, ↓lst_l, ↓lst_t, ↓sl_t, ↓slr_t, ↓mul_l, ↓add_l, ↓ifs_0, gsl_nm, gsl_tp, gsl_n, gsl_c, wipe_n, wipe_c, List.replicate, Option.map_some, decide_eq_true_eq, ↓reduceIte, Bool.false_eq_true, Bool.not_eq_eq_eq_not, Bool.not_true, Bool.not_false, true_and, forall_const, Bool.and_eq_true, Bool.or_eq_true, decide_eq_false_iff_not, not_true_eq_false, not_false_eq_true, decide_true, decide_false]
  rw [rat_sub]
  exact ⟨hx.n.cmul hy.d (by decide), hy.n.cmul hx.d (by decide), hx.d.cmul hy.d (by decide), ⟨Int.mul_ne_zero den_ne den_ne, (Bt.sub (hx.n.mul hy.d) (hy.n.mul hx.d)).le (by decide), (hx.d.mul hy.d).le (by decide)⟩, h⟩
abbrev c_NOUGHT : D := frq 0
abbrev sp_poly_of : Spec := fun ds S Q _ => ∃ (x : D) (xs : List Rat), ds = [x] ∧ sqx S x = some (xs.map frq) ∧ Q (plD (trim xs)) S
theorem use_poly_of {S : Sto} {x : D} {xs : List Rat} {Q : EQ} {U : Ex → Sto → Prop} (h : sqx S x = some (xs.map frq)) (q : Q (plD (trim xs)) S) : @callS sp_poly_of [x] S U ⟨Q⟩ := ⟨x, xs, rfl, h, q⟩
abbrev sp_poly_number : Spec := fun ds S Q _ => ∃ (p : List Rat) (k : Nat), ds = [plD p, .int (k : Int)] ∧ Q (frq (pn p k)) S
theorem use_poly_number {S : Sto} {p : List Rat} {k : Nat} {Q : EQ} {U : Ex → Sto → Prop} (q : Q (frq (pn p k)) S) : @callS sp_poly_number [plD p, .int (k : Int)] S U ⟨Q⟩ := ⟨p, k, rfl, q⟩
theorem len_p {S : Sto} {p : List Rat} {P : EQ} : biO .len false [plD p] S P = P (.int p.length) S := by
  unfold plD
  rw [len_t, List.length_map]
theorem ix_p {S : Sto} {p : List Rat} {i : Int} {P : EQ} : ixD (plD p) (.int i) S P = @ixS ((atI p i).map frq) S ⟨P⟩ := by
  unfold plD
  rw [ix_t, map_at]
theorem itp_p {S : Sto} {p : List Rat} {R : List D → (Sto → Prop) → Sto → Prop} : ItP (plD p) S R = R (p.map frq) (fun _ => True) S := rfl
theorem itq_p {S : Sto} {p : List Rat} {R : List D → (Sto → Prop) → Sto → Prop} : ItQ (plD p) S R = R (p.map frq) (fun _ => True) S := rfl
theorem sqx_p {S : Sto} {p : List Rat} : sqx S (plD p) = some (p.map frq) := rfl
abbrev sp_poly_sum : Spec := fun ds S Q _ => ∃ a b : List Rat, ds = [plD a, plD b] ∧ (RL 3900 a ∧ RL 3900 b ∧ a.length ≤ 1000 ∧ b.length ≤ 1000) ∧ Q (plD (trim (addP a b))) S
theorem use_poly_sum {S : Sto} {a b : List Rat} {Q : EQ} {U : Ex → Sto → Prop} (h : RL 3900 a ∧ RL 3900 b ∧ a.length ≤ 1000 ∧ b.length ≤ 1000) (q : Q (plD (trim (addP a b))) S) : @callS sp_poly_sum [plD a, plD b] S U ⟨Q⟩ := ⟨a, b, rfl, h, q⟩
theorem max_nat {a b : Nat} : (if (b : Int) > (a : Int) then (b : Int) else (a : Int)) = ((max a b : Nat) : Int) := by
  split <;> omega
theorem few_ok {n : Nat} (h : n ≤ 10000) : n ≤ sizeLine := Nat.le_trans h (by decide)
theorem r62_ok {n : Nat} (h : n ≤ 10000) : R62 (n : Int) := ⟨by omega, by omega⟩
abbrev sp_poly_scaled : Spec := fun ds S Q _ => ∃ (p : List Rat) (t : Rat), ds = [plD p, frq t] ∧ (RL 3900 p ∧ RB 3900 t ∧ p.length ≤ 1000) ∧ Q (plD (trim (p.map (· * t)))) S
theorem use_poly_scaled {S : Sto} {p : List Rat} {t : Rat} {Q : EQ} {U : Ex → Sto → Prop} (h : RL 3900 p ∧ RB 3900 t ∧ p.length ≤ 1000) (q : Q (plD (trim (p.map (· * t)))) S) : @callS sp_poly_scaled [plD p, frq t] S U ⟨Q⟩ := ⟨p, t, rfl, h, q⟩
abbrev sp_product_numbers : Spec := fun ds S Q _ => ∃ (a b : List Rat) (x y : Nat), ds = [plD a, plD b] ∧ (RL x a ∧ RL y b ∧ a.length ≤ 100 ∧ b.length ≤ 100 ∧ 1 + (a.length + 1) * (x + y + 1) ≤ 3900) ∧
  ∀ f : List Rat, f.length = a.length + b.length → (∀ k, pn f k = conv a b k) → RL (1 + a.length * (x + y + 1)) f → Q (.lst (f.map frq)) S
theorem use_product_numbers {S : Sto} {a b : List Rat} {Q : EQ} {U : Ex → Sto → Prop} (x y : Nat) (h : RL x a ∧ RL y b ∧ a.length ≤ 100 ∧ b.length ≤ 100 ∧ 1 + (a.length + 1) * (x + y + 1) ≤ 3900)
    (q : ∀ f : List Rat, f.length = a.length + b.length → (∀ k, pn f k = conv a b k) → RL (1 + a.length * (x + y + 1)) f → Q (.lst (f.map frq)) S) : @callS sp_product_numbers [plD a, plD b] S U ⟨Q⟩ := ⟨a, b, x, y, rfl, h, q⟩
def b_product_numbers : Sms := .cons (.asg (.nm 2) (.bin .mul true (.lst false (.cons (.gl "NOUGHT" c_NOUGHT) (.nil))) (.bin .add false (.bi .len false (.cons (.v 0) (.nil))) (.bi .len false (.cons (.v 1) (.nil)))))) (.cons (.for_ (.nm 3) (.r1 (.bi .len false (.cons (.v 0) (.nil)))) (.cons (.for_ (.nm 4) (.r1 (.bi .len false (.cons (.v 1) (.nil)))) (.cons (.setI (.v 2) (.bin .add false (.v 3) (.v 4)) (.call "plus_by" sp_plus_by (.cons (.ix (.v 2) (.bin .add false (.v 3) (.v 4))) (.cons (.call "times_by" sp_times_by (.cons (.ix (.v 0) (.v 3)) (.cons (.ix (.v 1) (.v 4)) (.nil)))) (.nil))))) (.nil))) (.nil))) (.cons (.ret (.frz (.v 2))) (.nil)))
theorem t_product_numbers : Keeps 5 b_product_numbers sp_product_numbers 2 := by
  rintro ds S Q U ⟨a, b, x, y, rfl, ⟨ha, hb, hla, hlb, hB⟩, h⟩
  refine ⟨rfl, ?_⟩
  have e1 : ((a.length : Int) + (b.length : Int)).toNat = a.length + b.length := by omega
  simp only [b_product_numbers, ↓len_p, e1, ↓gv_z, ↓gv_s, ↓sv_z, ↓sv_s, ↓wv_z, wv_z, ↓wv_s, wv_s, iteE_int, iteE_bl, iteE_str, iteE_lst, iteE_same, iteE_c1, iteE_c2, iteE_1, iteE_0, iteT_1, iteT_0, andT_1, andT_0, orT_1, orT_0, andE_1, andE_0, orE_1, orE_0, iteS_1, iteS_0, andE_bl, andE_c, orE_bl, orE_c, iteT_v, iteT_c1, iteT_c2, andT_v, andT_c, orT_v, orT_c, iteS_v, iteS_c1, iteS_c2, iteS_r1, iteS_r2, joinS_n, joinS_same, joinS_int, joinS_bl, ixS_s, ↓e_v, ↓e_N, ↓e_B, ↓e_I, ↓e_S, ↓e_gl, ↓e_add, ↓e_sub, ↓e_mul, ↓e_fdiv, ↓e_mod, ↓e_pow, ↓e_neg, ↓e_cmp, ↓bP_b, ↓t_cmp, ↓e_cmp2, ↓t_cmp2, ↓e_and1, ↓e_and2, ↓t_and1, ↓t_and2, ↓e_or1, ↓e_or2, ↓t_or1, ↓t_or2, ↓e_not, ↓t_not, ↓e_ite, ↓t_ite, ↓e_tup, ↓e_lst, ↓e_dct, ↓e_ix, ↓e_sl, ↓e_slr, ↓e_call, ↓e_bi, ↓e_mt, ↓e_lc, ↓e_frz, ↓t_frz, ↓t_v, ↓t_B, ↓t_N, ↓t_I, ↓t_ix, ↓t_bin, ↓t_call, ↓t_bi, ↓t_sl, ↓t_lc, ↓a_n, ↓a_c, ↓if_n, ↓if_1, ↓o_n, ↓iP_i, ↓o_s, ↓i_val, ↓i_r1, ↓i_r2, ↓i_r3, ↓i_enum, ↓i_zip, ↓i_rev, ↓add_i, ↓add_s, ↓add_t, ↓sub_i, ↓mul_i, ↓fdiv_i, ↓mod_i, ↓pow_i, ↓neg_i, ↓eq_i, ↓eq_s, ↓eq_b, ↓ne_i, ↓ne_s, ↓ne_b, ↓lt_i, ↓le_i, ↓gt_i, ↓ge_i, ↓is_N, ↓no_N, ↓tr_b, ↓tr_i, ↓tr_n, ↓tr_t, ↓tr_l, ↓ix_t, ↓ix_l, ↓ix_rl, ↓at_0, ↓at_1, ↓at_2, ↓at_3, ↓s_n, ↓s_c, ↓s_asg, ↓s_asgL, ↓s_par, ↓s_set, ↓s_ex, ↓s_ite, ↓s_for, ↓s_wh, ↓s_ret, ↓s_retN, ↓s_pass, ↓s_brk, ↓s_rz, ↓s_cont, ↓g_nm, ↓g_tp, ↓g_n, ↓g_c, ↓par_n, ↓par_c, ↓nw_f, ↓nw_t, ↓len_l, ↓len_t, ↓abs_i, ↓int_i, ↓int_b, ↓repr_h, ↓max_i, ↓min_i, ↓st_0, ↓st_s, ↓supd_supd, ↓ix_ref, ↓set_ref, ↓fd_turn, ↓fd_left, ↓fd_at, ↓fd_cells, ↓fs_turn, ↓fs_left, ↓fs_at, ↓ne_nil, ↓len_is, map_at, ↓ix_q0, ↓ix_q1, ↓g_q, ↓len_q, ↓tr_q, ↓low_eq, ↓q1_eq, ↓q2_eq, ↓sz_0, ↓sz_1, ↓sz_2, ↓sz_3, ↓sz_4, ↓sz_5, ↓sz_6, ↓sz_7, ↓sz_8, ↓itp_t, ↓itp_l, ↓itl_l, ↓pl_2, ↓pl_3, iteE_q, joinS_q, ↓eq_q, ↓ne_q, ↓ixC_l, ↓frz_ref, ↓tup_l, ↓tup_t, ↓lst_l, ↓lst_t, ↓sl_t, ↓slr_t, ↓mul_l, ↓add_l, ↓ifs_0, gsl_nm, gsl_tp, gsl_n, gsl_c, wipe_n, wipe_c, List.replicate, Option.map_some, decide_eq_true_eq, ↓reduceIte, Bool.false_eq_true, Bool.not_eq_eq_eq_not, Bool.not_true, Bool.not_false, true_and, forall_const, Bool.and_eq_true, Bool.or_eq_true, decide_eq_false_iff_not, not_true_eq_false, not_false_eq_true, decide_true, decide_false]
  refine ⟨⟨by omega, by omega, by rw [List.length_singleton]; exact few_ok (by omega)⟩, fun q hq => ?_⟩
  rw [rep_one]
  refine ⟨r62_ok (by omega), ?_⟩
  rw [Int.toNat_natCast]
  have hz : List.replicate (a.length + b.length) (frq 0) = (List.replicate (a.length + b.length) (0 : Rat)).map frq := by rw [List.map_replicate]
  rw [hz]
  -- the outer loop: the first j rows are in
  refine for_inv (fun ds δ S' => ∃ (j : Nat) (f : List Rat) (o3 o4 : Option D), ds = rngD (j : Int) (a.length - j) ∧ j ≤ a.length ∧ δ = [some (plD a), some (plD b), some (.ref q), o3, o4] ∧ S' = supd S q (.lst (f.map frq)) ∧
    f.length = a.length + b.length ∧ (∀ k, pn f k = conv (a.take j) b k) ∧ RL (1 + j * (x + y + 1)) f) ?_ ?_ (fun _ _ _ _ => trivial) _ _ _ ?_
  · rintro d ds δ S' nx hnx ⟨j, f, o3, o4, e, hj, rfl, rfl, hf, hc, hr⟩
    have hj2 : j < a.length := by
      by_cases c : j < a.length
      · exact c
      · have : a.length - j = 0 := by omega
        rw [this] at e
        cases e
    obtain ⟨m, hm⟩ : ∃ m, a.length - j = m + 1 := ⟨a.length - j - 1, by omega⟩
    rw [hm, rng_s] at e
    cases e
    simp only [↓len_p, ↓gv_z, ↓gv_s, ↓sv_z, ↓sv_s, ↓wv_z, wv_z, ↓wv_s, wv_s, iteE_int, iteE_bl, iteE_str, iteE_lst, iteE_same, iteE_c1, iteE_c2, iteE_1, iteE_0, iteT_1, iteT_0, andT_1, andT_0, orT_1, orT_0, andE_1, andE_0, orE_1, orE_0, iteS_1, iteS_0, andE_bl, andE_c, orE_bl, orE_c, iteT_v, iteT_c1, iteT_c2, andT_v, andT_c, orT_v, orT_c, iteS_v, iteS_c1, iteS_c2, iteS_r1, iteS_r2, joinS_n, joinS_same, joinS_int, joinS_bl, ixS_s, ↓e_v, ↓e_N, ↓e_B, ↓e_I, ↓e_S, ↓e_gl, ↓e_add, ↓e_sub, ↓e_mul, ↓e_fdiv, ↓e_mod, ↓e_pow, ↓e_neg, ↓e_cmp, ↓bP_b, ↓t_cmp, ↓e_cmp2, ↓t_cmp2, ↓e_and1, ↓e_and2, ↓t_and1, ↓t_and2, ↓e_or1, ↓e_or2, ↓t_or1, ↓t_or2, ↓e_not, ↓t_not, ↓e_ite, ↓t_ite, ↓e_tup, ↓e_lst, ↓e_dct, ↓e_ix, ↓e_sl, ↓e_slr, ↓e_call, ↓e_bi, ↓e_mt, ↓e_lc, ↓e_frz, ↓t_frz, ↓t_v, ↓t_B, ↓t_N, ↓t_I, ↓t_ix, ↓t_bin, ↓t_call, ↓t_bi, ↓t_sl, ↓t_lc, ↓a_n, ↓a_c, ↓if_n, ↓if_1, ↓o_n, ↓iP_i, ↓o_s, ↓i_val, ↓i_r1, ↓i_r2, ↓i_r3, ↓i_enum, ↓i_zip, ↓i_rev, ↓add_i, ↓add_s, ↓add_t, ↓sub_i, ↓mul_i, ↓fdiv_i, ↓mod_i, ↓pow_i, ↓neg_i, ↓eq_i, ↓eq_s, ↓eq_b, ↓ne_i, ↓ne_s, ↓ne_b, ↓lt_i, ↓le_i, ↓gt_i, ↓ge_i, ↓is_N, ↓no_N, ↓tr_b, ↓tr_i, ↓tr_n, ↓tr_t, ↓tr_l, ↓ix_t, ↓ix_l, ↓ix_rl, ↓at_0, ↓at_1, ↓at_2, ↓at_3, ↓s_n, ↓s_c, ↓s_asg, ↓s_asgL, ↓s_par, ↓s_set, ↓s_ex, ↓s_ite, ↓s_for, ↓s_wh, ↓s_ret, ↓s_retN, ↓s_pass, ↓s_brk, ↓s_rz, ↓s_cont, ↓g_nm, ↓g_tp, ↓g_n, ↓g_c, ↓par_n, ↓par_c, ↓nw_f, ↓nw_t, ↓len_l, ↓len_t, ↓abs_i, ↓int_i, ↓int_b, ↓repr_h, ↓max_i, ↓min_i, ↓st_0, ↓st_s, ↓supd_supd, ↓ix_ref, ↓set_ref, ↓fd_turn, ↓fd_left, ↓fd_at, ↓fd_cells, ↓fs_turn, ↓fs_left, ↓fs_at, ↓ne_nil, ↓len_is, map_at, ↓ix_q0, ↓ix_q1, ↓g_q, ↓len_q, ↓tr_q, ↓low_eq, ↓q1_eq, ↓q2_eq, ↓sz_0, ↓sz_1, ↓sz_2, ↓sz_3, ↓sz_4, ↓sz_5, ↓sz_6, ↓sz_7, ↓sz_8, ↓itp_t, ↓itp_l, ↓itl_l, ↓pl_2, ↓pl_3, iteE_q, joinS_q, ↓eq_q, ↓ne_q, ↓ixC_l, ↓frz_ref, ↓tup_l, ↓tup_t, ↓lst_l, ↓lst_t, ↓sl_t, ↓slr_t, ↓mul_l, ↓add_l, ↓ifs_0, gsl_nm, gsl_tp, gsl_n, gsl_c, wipe_n, wipe_c, List.replicate, Option.map_some, decide_eq_true_eq, ↓reduceIte, Bool.false_eq_true, Bool.not_eq_eq_eq_not, Bool.not_true, Bool.not_false, true_and, forall_const, Bool.and_eq_true, Bool.or_eq_true, decide_eq_false_iff_not, not_true_eq_false, not_false_eq_true, decide_true, decide_false]
    refine ⟨r62_ok (by omega), ?_⟩
    rw [Int.toNat_natCast]
    -- the inner loop: of this row the first i numbers are in
    refine for_inv (fun ds δ S' => ∃ (i : Nat) (g : List Rat) (o4 : Option D), ds = rngD (i : Int) (b.length - i) ∧ i ≤ b.length ∧ δ = [some (plD a), some (plD b), some (.ref q), some (.int (j : Int)), o4] ∧ S' = supd S q (.lst (g.map frq)) ∧
      g.length = a.length + b.length ∧ (∀ k, pn g k = pn f k + (if j ≤ k ∧ k < j + i then pn a j * pn b (k - j) else 0)) ∧ RL (1 + (j + 1) * (x + y + 1)) g) ?_ ?_ (fun _ _ _ _ => trivial) _ _ _ ?_
    · rintro d ds δ S' nx2 hnx2 ⟨i, g, o4, e, hi, rfl, rfl, hg, hcg, hrg⟩
      have hi2 : i < b.length := by
        by_cases c : i < b.length
        · exact c
        · have : b.length - i = 0 := by omega
          rw [this] at e
          cases e
      obtain ⟨n, hn⟩ : ∃ n, b.length - i = n + 1 := ⟨b.length - i - 1, by omega⟩
      rw [hn, rng_s] at e
      cases e
      have e2 : ((j : Int) + (i : Int)) = ((j + i : Nat) : Int) := by omega
      have hget : atI g ((j + i : Nat) : Int) = some (pn g (j + i)) := at_pn (by omega)
      have hcell : (supd S q (.lst (g.map frq))) q = some (.lst (g.map frq)) := supd_same
      have hle : 1 + (j + 1) * (x + y + 1) ≤ 3900 := Nat.le_trans (Nat.add_le_add_left (Nat.mul_le_mul_right _ (by omega)) 1) hB
      have hxy : x + y + 1 ≤ 3900 := by
        have : 1 * (x + y + 1) ≤ (j + 1) * (x + y + 1) := Nat.mul_le_mul_right _ (by omega)
        omega
      have hx' : RB x (pn a j) := by
        refine ha _ ?_
        unfold pn
        rw [List.getD_eq_getElem?_getD, List.getElem?_eq_getElem hj2]
        exact List.getElem_mem _
      have hy' : RB y (pn b i) := by
        refine hb _ ?_
        unfold pn
        rw [List.getD_eq_getElem?_getD, List.getElem?_eq_getElem hi2]
        exact List.getElem_mem _
      have hold : pn g (j + i) = pn f (j + i) := by
        rw [hcg, if_neg (by omega), Rat.add_zero]
      have hbf : RB (1 + j * (x + y + 1)) (pn g (j + i)) := by
        rw [hold]
        exact hr.pn (by omega) _
      simp only [e2, ↓ix_p, hget, at_pn hj2, at_pn hi2, ↓q2_mul, ↓q2_add, ↓gv_z, ↓gv_s, ↓sv_z, ↓sv_s, ↓wv_z, wv_z, ↓wv_s, wv_s, iteE_int, iteE_bl, iteE_str, iteE_lst, iteE_same, iteE_c1, iteE_c2, iteE_1, iteE_0, iteT_1, iteT_0, andT_1, andT_0, orT_1, orT_0, andE_1, andE_0, orE_1, orE_0, iteS_1, iteS_0, andE_bl, andE_c, orE_bl, orE_c, iteT_v, iteT_c1, iteT_c2, andT_v, andT_c, orT_v, orT_c, iteS_v, iteS_c1, iteS_c2, iteS_r1, iteS_r2, joinS_n, joinS_same, joinS_int, joinS_bl, ixS_s, ↓e_v, ↓e_N, ↓e_B, ↓e_I, ↓e_S, ↓e_gl, ↓e_add, ↓e_sub, ↓e_mul, ↓e_fdiv, ↓e_mod, ↓e_pow, ↓e_neg, ↓e_cmp, ↓bP_b, ↓t_cmp, ↓e_cmp2, ↓t_cmp2, ↓e_and1, ↓e_and2, ↓t_and1, ↓t_and2, ↓e_or1, ↓e_or2, ↓t_or1, ↓t_or2, ↓e_not, ↓t_not, ↓e_ite, ↓t_ite, ↓e_tup, ↓e_lst, ↓e_dct, ↓e_ix, ↓e_sl, ↓e_slr, ↓e_call, ↓e_bi, ↓e_mt, ↓e_lc, ↓e_frz, ↓t_frz, ↓t_v, ↓t_B, ↓t_N, ↓t_I, ↓t_ix, ↓t_bin, ↓t_call, ↓t_bi, ↓t_sl, ↓t_lc, ↓a_n, ↓a_c, ↓if_n, ↓if_1, ↓o_n, ↓iP_i, ↓o_s, ↓i_val, ↓i_r1, ↓i_r2, ↓i_r3, ↓i_enum, ↓i_zip, ↓i_rev, ↓add_i, ↓add_s, ↓add_t, ↓sub_i, ↓mul_i, ↓fdiv_i, ↓mod_i, ↓pow_i, ↓neg_i, ↓eq_i, ↓eq_s, ↓eq_b, ↓ne_i, ↓ne_s, ↓ne_b, ↓lt_i, ↓le_i, ↓gt_i, ↓ge_i, ↓is_N, ↓no_N, ↓tr_b, ↓tr_i, ↓tr_n, ↓tr_t, ↓tr_l, ↓ix_t, ↓ix_l, ↓ix_rl, ↓at_0, ↓at_1, ↓at_2, ↓at_3, ↓s_n, ↓s_c, ↓s_asg, ↓s_asgL, ↓s_par, ↓s_set, ↓s_ex, ↓s_ite, ↓s_for, ↓s_wh, ↓s_ret, ↓s_retN, ↓s_pass, ↓s_brk, ↓s_rz, ↓s_cont, ↓g_nm, ↓g_tp, ↓g_n, ↓g_c, ↓par_n, ↓par_c, ↓nw_f, ↓nw_t, ↓len_l, ↓len_t, ↓abs_i, ↓int_i, ↓int_b, ↓repr_h, ↓max_i, ↓min_i, ↓st_0, ↓st_s, ↓supd_supd, ↓ix_ref, ↓set_ref, ↓fd_turn, ↓fd_left, ↓fd_at, ↓fd_cells, ↓fs_turn, ↓fs_left, ↓fs_at, ↓ne_nil, ↓len_is, map_at, ↓ix_q0, ↓ix_q1, ↓g_q, ↓len_q, ↓tr_q, ↓low_eq, ↓q1_eq, ↓q2_eq, ↓sz_0, ↓sz_1, ↓sz_2, ↓sz_3, ↓sz_4, ↓sz_5, ↓sz_6, ↓sz_7, ↓sz_8, ↓itp_t, ↓itp_l, ↓itl_l, ↓pl_2, ↓pl_3, iteE_q, joinS_q, ↓eq_q, ↓ne_q, ↓ixC_l, ↓frz_ref, ↓tup_l, ↓tup_t, ↓lst_l, ↓lst_t, ↓sl_t, ↓slr_t, ↓mul_l, ↓add_l, ↓ifs_0, gsl_nm, gsl_tp, gsl_n, gsl_c, wipe_n, wipe_c, List.replicate, Option.map_some, decide_eq_true_eq, ↓reduceIte, Bool.false_eq_true, Bool.not_eq_eq_eq_not, Bool.not_true, Bool.not_false, true_and, forall_const, Bool.and_eq_true, Bool.or_eq_true, decide_eq_false_iff_not, not_true_eq_false, not_false_eq_true, decide_true, decide_false]
      refine ⟨⟨hx'.le (by omega), hy'.le (by omega)⟩, ⟨hbf.le (Nat.le_trans (Nat.add_le_add_left (Nat.mul_le_mul_right _ (by omega)) 1) hle), (hx'.mul hy').le (by omega)⟩, ?_⟩
      rw [← set_ref (S := S)]
      refine set_at (j := j + i) hcell rfl (by rw [List.length_map]; omega) ?_
      rw [supd_supd]
      have hset : (g.map frq).set (j + i) (frq (pn g (j + i) + pn a j * pn b i)) = (addAt g (j + i) (pn a j * pn b i)).map frq := by
        unfold addAt
        rw [List.map_set]
      rw [hset]
      refine hnx2 _ _ trivial ⟨i + 1, _, _, ?_, by omega, rfl, rfl, by rw [addAt_len]; exact hg, ?_, ?_⟩
      · have : b.length - (i + 1) = n := by omega
        rw [this]
        rfl
      · intro k
        rw [addAt_pn (by omega), hcg]
        by_cases c : k = j + i
        · subst c
          rw [if_neg (by omega), if_pos rfl, if_pos (by omega), Rat.add_zero]
          congr 3
          omega
        · rw [if_neg c, Rat.add_zero]
          by_cases c2 : j ≤ k ∧ k < j + i
          · rw [if_pos c2, if_pos (by omega)]
          · rw [if_neg c2, if_neg (by omega)]
      · refine addAt_RL hrg ?_
        have := hbf.add (hx'.mul hy')
        refine this.le ?_
        rw [Nat.add_mul]
        omega
    · rintro δ S' ⟨i, g, o4, e, hi, rfl, rfl, hg, hcg, hrg⟩
      have hi2 : i = b.length := by
        have := congrArg List.length e
        rw [rng_len] at this
        simp at this
        omega
      subst hi2
      simp only [↓gv_z, ↓gv_s, ↓sv_z, ↓sv_s, ↓wv_z, wv_z, ↓wv_s, wv_s, iteE_int, iteE_bl, iteE_str, iteE_lst, iteE_same, iteE_c1, iteE_c2, iteE_1, iteE_0, iteT_1, iteT_0, andT_1, andT_0, orT_1, orT_0, andE_1, andE_0, orE_1, orE_0, iteS_1, iteS_0, andE_bl, andE_c, orE_bl, orE_c, iteT_v, iteT_c1, iteT_c2, andT_v, andT_c, orT_v, orT_c, iteS_v, iteS_c1, iteS_c2, iteS_r1, iteS_r2, joinS_n, joinS_same, joinS_int, joinS_bl, ixS_s, ↓e_v, ↓e_N, ↓e_B, ↓e_I, ↓e_S, ↓e_gl, ↓e_add, ↓e_sub, ↓e_mul, ↓e_fdiv, ↓e_mod, ↓e_pow, ↓e_neg, ↓e_cmp, ↓bP_b, ↓t_cmp, ↓e_cmp2, ↓t_cmp2, ↓e_and1, ↓e_and2, ↓t_and1, ↓t_and2, ↓e_or1, ↓e_or2, ↓t_or1, ↓t_or2, ↓e_not, ↓t_not, ↓e_ite, ↓t_ite, ↓e_tup, ↓e_lst, ↓e_dct, ↓e_ix, ↓e_sl, ↓e_slr, ↓e_call, ↓e_bi, ↓e_mt, ↓e_lc, ↓e_frz, ↓t_frz, ↓t_v, ↓t_B, ↓t_N, ↓t_I, ↓t_ix, ↓t_bin, ↓t_call, ↓t_bi, ↓t_sl, ↓t_lc, ↓a_n, ↓a_c, ↓if_n, ↓if_1, ↓o_n, ↓iP_i, ↓o_s, ↓i_val, ↓i_r1, ↓i_r2, ↓i_r3, ↓i_enum, ↓i_zip, ↓i_rev, ↓add_i, ↓add_s, ↓add_t, ↓sub_i, ↓mul_i, ↓fdiv_i, ↓mod_i, ↓pow_i, ↓neg_i, ↓eq_i, ↓eq_s, ↓eq_b, ↓ne_i, ↓ne_s, ↓ne_b, ↓lt_i, ↓le_i, ↓gt_i, ↓ge_i, ↓is_N, ↓no_N, ↓tr_b, ↓tr_i, ↓tr_n, ↓tr_t, ↓tr_l, ↓ix_t, ↓ix_l, ↓ix_rl, ↓at_0, ↓at_1, ↓at_2, ↓at_3, ↓s_n, ↓s_c, ↓s_asg, ↓s_asgL, ↓s_par, ↓s_set, ↓s_ex, ↓s_ite, ↓s_for, ↓s_wh, ↓s_ret, ↓s_retN, ↓s_pass, ↓s_brk, ↓s_rz, ↓s_cont, ↓g_nm, ↓g_tp, ↓g_n, ↓g_c, ↓par_n, ↓par_c, ↓nw_f, ↓nw_t, ↓len_l, ↓len_t, ↓abs_i, ↓int_i, ↓int_b, ↓repr_h, ↓max_i, ↓min_i, ↓st_0, ↓st_s, ↓supd_supd, ↓ix_ref, ↓set_ref, ↓fd_turn, ↓fd_left, ↓fd_at, ↓fd_cells, ↓fs_turn, ↓fs_left, ↓fs_at, ↓ne_nil, ↓len_is, map_at, ↓ix_q0, ↓ix_q1, ↓g_q, ↓len_q, ↓tr_q, ↓low_eq, ↓q1_eq, ↓q2_eq, ↓sz_0, ↓sz_1, ↓sz_2, ↓sz_3, ↓sz_4, ↓sz_5, ↓sz_6, ↓sz_7, ↓sz_8, ↓itp_t, ↓itp_l, ↓itl_l, ↓pl_2, ↓pl_3, iteE_q, joinS_q, ↓eq_q, ↓ne_q, ↓ixC_l, ↓frz_ref, ↓tup_l, ↓tup_t, ↓lst_l, ↓lst_t, ↓sl_t, ↓slr_t, ↓mul_l, ↓add_l, ↓ifs_0, gsl_nm, gsl_tp, gsl_n, gsl_c, wipe_n, wipe_c, List.replicate, Option.map_some, decide_eq_true_eq, ↓reduceIte, Bool.false_eq_true, Bool.not_eq_eq_eq_not, Bool.not_true, Bool.not_false, true_and, forall_const, Bool.and_eq_true, Bool.or_eq_true, decide_eq_false_iff_not, not_true_eq_false, not_false_eq_true, decide_true, decide_false]
      refine hnx _ _ trivial ⟨j + 1, g, _, _, ?_, by omega, rfl, rfl, hg, ?_, hrg⟩
      · have : a.length - (j + 1) = m := by omega
        rw [this]
        rfl
      · intro k
        rw [hcg, hc, take_succ_pn hj2, conv_snoc]
        have hlen : (a.take j).length = j := by
          rw [List.length_take]
          omega
        rw [hlen]
        congr 1
        by_cases c : j ≤ k
        · rw [if_pos c]
          by_cases c2 : k < j + b.length
          · rw [if_pos ⟨c, c2⟩]
          · rw [if_neg (by omega), pn_len (p := b) (by omega), Rat.mul_zero]
        · rw [if_neg c, if_neg (by omega)]
    · refine ⟨0, f, _, rfl, Nat.zero_le _, rfl, rfl, hf, ?_, hr.le (Nat.add_le_add_left (Nat.mul_le_mul_right _ (by omega)) 1)⟩
      intro k
      rw [if_neg (by omega), Rat.add_zero]
  · rintro δ S' ⟨j, f, o3, o4, e, hj, rfl, rfl, hf, hc, hr⟩
    have hj2 : j = a.length := by
      have := congrArg List.length e
      rw [rng_len] at this
      simp at this
      omega
    subst hj2
    simp only [↓gv_z, ↓gv_s, ↓sv_z, ↓sv_s, ↓wv_z, wv_z, ↓wv_s, wv_s, iteE_int, iteE_bl, iteE_str, iteE_lst, iteE_same, iteE_c1, iteE_c2, iteE_1, iteE_0, iteT_1, iteT_0, andT_1, andT_0, orT_1, orT_0, andE_1, andE_0, orE_1, orE_0, iteS_1, iteS_0, andE_bl, andE_c, orE_bl, orE_c, iteT_v, iteT_c1, iteT_c2, andT_v, andT_c, orT_v, orT_c, iteS_v, iteS_c1, iteS_c2, iteS_r1, iteS_r2, joinS_n, joinS_same, joinS_int, joinS_bl, ixS_s, ↓e_v, ↓e_N, ↓e_B, ↓e_I, ↓e_S, ↓e_gl, ↓e_add, ↓e_sub, ↓e_mul, ↓e_fdiv, ↓e_mod, ↓e_pow, ↓e_neg, ↓e_cmp, ↓bP_b, ↓t_cmp, ↓e_cmp2, ↓t_cmp2, ↓e_and1, ↓e_and2, ↓t_and1, ↓t_and2, ↓e_or1, ↓e_or2, ↓t_or1, ↓t_or2, ↓e_not, ↓t_not, ↓e_ite, ↓t_ite, ↓e_tup, ↓e_lst, ↓e_dct, ↓e_ix, ↓e_sl, ↓e_slr, ↓e_call, ↓e_bi, ↓e_mt, ↓e_lc, ↓e_frz, ↓t_frz, ↓t_v, ↓t_B, ↓t_N, ↓t_I, ↓t_ix, ↓t_bin, ↓t_call, ↓t_bi, ↓t_sl, ↓t_lc, ↓a_n, ↓a_c, ↓if_n, ↓if_1, ↓o_n, ↓iP_i, ↓o_s, ↓i_val, ↓i_r1, ↓i_r2, ↓i_r3, ↓i_enum, ↓i_zip, ↓i_rev, ↓add_i, ↓add_s, ↓add_t, ↓sub_i, ↓mul_i, ↓fdiv_i, ↓mod_i, ↓pow_i, ↓neg_i, ↓eq_i, ↓eq_s, ↓eq_b, ↓ne_i, ↓ne_s, ↓ne_b, ↓lt_i, ↓le_i, ↓gt_i, ↓ge_i, ↓is_N, ↓no_N, ↓tr_b, ↓tr_i, ↓tr_n, ↓tr_t, ↓tr_l, ↓ix_t, ↓ix_l, ↓ix_rl, ↓at_0, ↓at_1, ↓at_2, ↓at_3, ↓s_n, ↓s_c, ↓s_asg, ↓s_asgL, ↓s_par, ↓s_set, ↓s_ex, ↓s_ite, ↓s_for, ↓s_wh, ↓s_ret, ↓s_retN, ↓s_pass, ↓s_brk, ↓s_rz, ↓s_cont, ↓g_nm, ↓g_tp, ↓g_n, ↓g_c, ↓par_n, ↓par_c, ↓nw_f, ↓nw_t, ↓len_l, ↓len_t, ↓abs_i, ↓int_i, ↓int_b, ↓repr_h, ↓max_i, ↓min_i, ↓st_0, ↓st_s, ↓supd_supd, ↓ix_ref, ↓set_ref, ↓fd_turn, ↓fd_left, ↓fd_at, ↓fd_cells, ↓fs_turn, ↓fs_left, ↓fs_at, ↓ne_nil, ↓len_is, map_at, ↓ix_q0, ↓ix_q1, ↓g_q, ↓len_q, ↓tr_q, ↓low_eq, ↓q1_eq, ↓q2_eq, ↓sz_0, ↓sz_1, ↓sz_2, ↓sz_3, ↓sz_4, ↓sz_5, ↓sz_6, ↓sz_7, ↓sz_8, ↓itp_t, ↓itp_l, ↓itl_l, ↓pl_2, ↓pl_3, iteE_q, joinS_q, ↓eq_q, ↓ne_q, ↓ixC_l, ↓frz_ref, ↓tup_l, ↓tup_t, ↓lst_l, ↓lst_t, ↓sl_t, ↓slr_t, ↓mul_l, ↓add_l, ↓ifs_0, gsl_nm, gsl_tp, gsl_n, gsl_c, wipe_n, wipe_c, List.replicate, Option.map_some, decide_eq_true_eq, ↓reduceIte, Bool.false_eq_true, Bool.not_eq_eq_eq_not, Bool.not_true, Bool.not_false, true_and, forall_const, Bool.and_eq_true, Bool.or_eq_true, decide_eq_false_iff_not, not_true_eq_false, not_false_eq_true, decide_true, decide_false]
    rw [sdel_supd hq]
    rw [List.take_length] at hc
    exact h f hf hc hr
  · refine ⟨0, _, _, _, rfl, Nat.zero_le _, rfl, rfl, by simp, ?_, ?_⟩
    · intro k
      rw [List.take_zero, conv_nil]
      unfold pn
      rw [List.getD_eq_getElem?_getD, List.getElem?_replicate]
      split <;> rfl
    · intro z m
      rw [List.eq_of_mem_replicate m]
      exact RB.zero (by omega)
abbrev sp__law_plus : Spec := spQ2 3900 fun x y => frq (x + y)
abbrev sp__law_times : Spec := spQ2 3900 fun x y => frq (x * y)
theorem q2_ladd {S : Sto} {x y : Rat} {Q : EQ} {U : Ex → Sto → Prop} : @callS sp__law_plus [frq x, frq y] S U ⟨Q⟩ = ((RB 3900 x ∧ RB 3900 y) ∧ Q (frq (x + y)) S) := q2_eq
theorem q2_lmul {S : Sto} {x y : Rat} {Q : EQ} {U : Ex → Sto → Prop} : @callS sp__law_times [frq x, frq y] S U ⟨Q⟩ = ((RB 3900 x ∧ RB 3900 y) ∧ Q (frq (x * y)) S) := q2_eq
def b__law_plus : Sms := .cons (.ret (.call "_law_lowest" sp__law_lowest (.cons (.bin .add false (.bin .mul false (.ix (.v 0) (.cI 0)) (.ix (.v 1) (.cI 1))) (.bin .mul false (.ix (.v 1) (.cI 0)) (.ix (.v 0) (.cI 1)))) (.cons (.bin .mul false (.ix (.v 0) (.cI 1)) (.ix (.v 1) (.cI 1))) (.nil))))) (.nil)
theorem t_law_plus : Keeps 2 b__law_plus sp__law_plus 2 := by
  rintro ds S Q U ⟨x, y, rfl, ⟨hx, hy⟩, h⟩
  refine ⟨rfl, ?_⟩
  simp only [b__law_plus, ↓gv_z, ↓gv_s, ↓sv_z, ↓sv_s, ↓wv_z, wv_z, ↓wv_s, wv_s, iteE_int, iteE_bl, iteE_str, iteE_lst, iteE_same, iteE_c1, iteE_c2, iteE_1, iteE_0, iteT_1, iteT_0, andT_1, andT_0, orT_1, orT_0, andE_1, andE_0, orE_1, orE_0, iteS_1, iteS_0, andE_bl, andE_c, orE_bl, orE_c, iteT_v, iteT_c1, iteT_c2, andT_v, andT_c, orT_v, orT_c, iteS_v, iteS_c1, iteS_c2, iteS_r1, iteS_r2, joinS_n, joinS_same, joinS_int, joinS_bl, ixS_s, ↓e_v, ↓e_N, ↓e_B, ↓e_I, ↓e_S, ↓e_gl, ↓e_add, ↓e_sub, ↓e_mul, ↓e_fdiv, ↓e_mod, ↓e_pow, ↓e_neg, ↓e_cmp, ↓bP_b, ↓t_cmp, ↓e_cmp2, ↓t_cmp2, ↓e_and1, ↓e_and2, ↓t_and1, ↓t_and2, ↓e_or1, ↓e_or2, ↓t_or1, ↓t_or2, ↓e_not, ↓t_not, ↓e_ite, ↓t_ite, ↓e_tup, ↓e_lst, ↓e_dct, ↓e_ix, ↓e_sl, ↓e_slr, ↓e_call, ↓e_bi, ↓e_mt, ↓e_lc, ↓e_frz, ↓t_frz, ↓t_v, ↓t_B, ↓t_N, ↓t_I, ↓t_ix, ↓t_bin, ↓t_call, ↓t_bi, ↓t_sl, ↓t_lc, ↓a_n, ↓a_c, ↓if_n, ↓if_1, ↓o_n, ↓iP_i, ↓o_s, ↓i_val, ↓i_r1, ↓i_r2, ↓i_r3, ↓i_enum, ↓i_zip, ↓i_rev, ↓add_i, ↓add_s, ↓add_t, ↓sub_i, ↓mul_i, ↓fdiv_i, ↓mod_i, ↓pow_i, ↓neg_i, ↓eq_i, ↓eq_s, ↓eq_b, ↓ne_i, ↓ne_s, ↓ne_b, ↓lt_i, ↓le_i, ↓gt_i, ↓ge_i, ↓is_N, ↓no_N, ↓tr_b, ↓tr_i, ↓tr_n, ↓tr_t, ↓tr_l, ↓ix_t, ↓ix_l, ↓ix_rl, ↓at_0, ↓at_1, ↓at_2, ↓at_3, ↓s_n, ↓s_c, ↓s_asg, ↓s_asgL, ↓s_par, ↓s_set, ↓s_ex, ↓s_ite, ↓s_for, ↓s_wh, ↓s_ret, ↓s_retN, ↓s_pass, ↓s_brk, ↓s_rz, ↓s_cont, ↓g_nm, ↓g_tp, ↓g_n, ↓g_c, ↓par_n, ↓par_c, ↓nw_f, ↓nw_t, ↓len_l, ↓len_t, ↓abs_i, ↓int_i, ↓int_b, ↓repr_h, ↓max_i, ↓min_i, ↓st_0, ↓st_s, ↓supd_supd, ↓ix_ref, ↓set_ref, ↓fd_turn, ↓fd_left, ↓fd_at, ↓fd_cells, ↓fs_turn, ↓fs_left, ↓fs_at, ↓ne_nil, ↓len_is, map_at, ↓ix_q0, ↓ix_q1, ↓g_q, ↓len_q, ↓tr_q, ↓low_eq, ↓q1_eq, ↓q2_eq, ↓sz_0, ↓sz_1, ↓sz_2, ↓sz_3, ↓sz_4, ↓sz_5, ↓sz_6, ↓sz_7, ↓sz_8, ↓itp_t, ↓itp_l, ↓itl_l, ↓pl_2, ↓pl_3, iteE_q, joinS_q, ↓eq_q, ↓ne_q, ↓ixC_l, ↓frz_ref, ↓tup_l, ↓tup_t, ↓lst_l, ↓lst_t, ↓sl_t, ↓slr_t, ↓mul_l, ↓add_l, ↓ifs_0, gsl_nm, gsl_tp, gsl_n, gsl_c, wipe_n, wipe_c, List.replicate, Option.map_some, decide_eq_true_eq, ↓reduceIte, Bool.false_eq_true, Bool.not_eq_eq_eq_not, Bool.not_true, Bool.not_false, true_and, forall_const, Bool.and_eq_true, Bool.or_eq_true, decide_eq_false_iff_not, not_true_eq_false, not_false_eq_true, decide_true, decide_false]
  rw [rat_add]
  exact ⟨hx.n.cmul hy.d (by decide), hy.n.cmul hx.d (by decide), hx.d.cmul hy.d (by decide), ⟨Int.mul_ne_zero den_ne den_ne, (Bt.add (hx.n.mul hy.d) (hy.n.mul hx.d)).le (by decide), (hx.d.mul hy.d).le (by decide)⟩, h⟩
def b__law_times : Sms := .cons (.ret (.call "_law_lowest" sp__law_lowest (.cons (.bin .mul false (.ix (.v 0) (.cI 0)) (.ix (.v 1) (.cI 0))) (.cons (.bin .mul false (.ix (.v 0) (.cI 1)) (.ix (.v 1) (.cI 1))) (.nil))))) (.nil)
theorem t_law_times : Keeps 2 b__law_times sp__law_times 2 := by
  rintro ds S Q U ⟨x, y, rfl, ⟨hx, hy⟩, h⟩
  refine ⟨rfl, ?_⟩
  simp only [b__law_times, ↓gv_z, ↓gv_s, ↓sv_z, ↓sv_s, ↓wv_z, wv_z, ↓wv_s, wv_s, iteE_int, iteE_bl, iteE_str, iteE_lst, iteE_same, iteE_c1, iteE_c2, iteE_1, iteE_0, iteT_1, iteT_0, andT_1, andT_0, orT_1, orT_0, andE_1, andE_0, orE_1, orE_0, iteS_1, iteS_0, andE_bl, andE_c, orE_bl, orE_c, iteT_v, iteT_c1, iteT_c2, andT_v, andT_c, orT_v, orT_c, iteS_v, iteS_c1, iteS_c2, iteS_r1, iteS_r2, joinS_n, joinS_same, joinS_int, joinS_bl, ixS_s, ↓e_v, ↓e_N, ↓e_B, ↓e_I, ↓e_S, ↓e_gl, ↓e_add, ↓e_sub, ↓e_mul, ↓e_fdiv, ↓e_mod, ↓e_pow, ↓e_neg, ↓e_cmp, ↓bP_b, ↓t_cmp, ↓e_cmp2, ↓t_cmp2, ↓e_and1, ↓e_and2, ↓t_and1, ↓t_and2, ↓e_or1, ↓e_or2, ↓t_or1, ↓t_or2, ↓e_not, ↓t_not, ↓e_ite, ↓t_ite, ↓e_tup, ↓e_lst, ↓e_dct, ↓e_ix, ↓e_sl, ↓e_slr, ↓e_call, ↓e_bi, ↓e_mt, ↓e_lc, ↓e_frz, ↓t_frz, ↓t_v, ↓t_B, ↓t_N, ↓t_I, ↓t_ix, ↓t_bin, ↓t_call, ↓t_bi, ↓t_sl, ↓t_lc, ↓a_n, ↓a_c, ↓if_n, ↓if_1, ↓o_n, ↓iP_i, ↓o_s, ↓i_val, ↓i_r1, ↓i_r2, ↓i_r3, ↓i_enum, ↓i_zip, ↓i_rev, ↓add_i, ↓add_s, ↓add_t, ↓sub_i, ↓mul_i, ↓fdiv_i, ↓mod_i, ↓pow_i, ↓neg_i, ↓eq_i, ↓eq_s, ↓eq_b, ↓ne_i, ↓ne_s, ↓ne_b, ↓lt_i, ↓le_i, ↓gt_i, ↓ge_i, ↓is_N, ↓no_N, ↓tr_b, ↓tr_i, ↓tr_n, ↓tr_t, ↓tr_l, ↓ix_t, ↓ix_l, ↓ix_rl, ↓at_0, ↓at_1, ↓at_2, ↓at_3, ↓s_n, ↓s_c, ↓s_asg, ↓s_asgL, ↓s_par, ↓s_set, ↓s_ex, ↓s_ite, ↓s_for, ↓s_wh, ↓s_ret, ↓s_retN, ↓s_pass, ↓s_brk, ↓s_rz, ↓s_cont, ↓g_nm, ↓g_tp, ↓g_n, ↓g_c, ↓par_n, ↓par_c, ↓nw_f, ↓nw_t, ↓len_l, ↓len_t, ↓abs_i, ↓int_i, ↓int_b, ↓repr_h, ↓max_i, ↓min_i, ↓st_0, ↓st_s, ↓supd_supd, ↓ix_ref, ↓set_ref, ↓fd_turn, ↓fd_left, ↓fd_at, ↓fd_cells, ↓fs_turn, ↓fs_left, ↓fs_at, ↓ne_nil, ↓len_is, map_at, ↓ix_q0, ↓ix_q1, ↓g_q, ↓len_q, ↓tr_q, ↓low_eq, ↓q1_eq, ↓q2_eq, ↓sz_0, ↓sz_1, ↓sz_2, ↓sz_3, ↓sz_4, ↓sz_5, ↓sz_6, ↓sz_7, ↓sz_8, ↓itp_t, ↓itp_l, ↓itl_l, ↓pl_2, ↓pl_3, iteE_q, joinS_q, ↓eq_q, ↓ne_q, ↓ixC_l, ↓frz_ref, ↓tup_l, ↓tup_t, ↓lst_l, ↓lst_t, ↓sl_t, ↓slr_t, ↓mul_l, ↓add_l, ↓ifs_0, gsl_nm, gsl_tp, gsl_n, gsl_c, wipe_n, wipe_c, List.replicate, Option.map_some, decide_eq_true_eq, ↓reduceIte, Bool.false_eq_true, Bool.not_eq_eq_eq_not, Bool.not_true, Bool.not_false, true_and, forall_const, Bool.and_eq_true, Bool.or_eq_true, decide_eq_false_iff_not, not_true_eq_false, not_false_eq_true, decide_true, decide_false]
  rw [rat_mul]
  exact ⟨hx.n.cmul hy.n (by decide), hx.d.cmul hy.d (by decide), ⟨Int.mul_ne_zero den_ne den_ne, (hx.n.mul hy.n).le (by decide), (hx.d.mul hy.d).le (by decide)⟩, h⟩
abbrev sp__law_twelve : Spec := spDrQ 5 45
def b__law_twelve : Sms := .cons (.asg (.nm 1) (.call "_law_draw" sp__law_draw (.cons (.v 0) (.cons (.cI 6) (.nil))))) (.cons (.ite (.cmp .eq (.v 1) (.cI 0)) (.cons (.asg (.nm 2) (.bin .add false (.bin .mul false (.call "_law_draw" sp__law_draw (.cons (.v 0) (.cons (.bin .pow false (.cI 10) (.cI 6)) (.nil)))) (.bin .pow false (.cI 10) (.cI 6))) (.call "_law_draw" sp__law_draw (.cons (.v 0) (.cons (.bin .pow false (.cI 10) (.cI 6)) (.nil)))))) (.cons (.asg (.nm 3) (.bin .add false (.cI 1) (.bin .mul false (.call "_law_draw" sp__law_draw (.cons (.v 0) (.cons (.bin .pow false (.cI 10) (.cI 6)) (.nil)))) (.bin .pow false (.cI 10) (.cI 5))))) (.cons (.ret (.call "_law_lowest" sp__law_lowest (.cons (.bin .mul false (.v 2) (.bin .sub false (.cI 1) (.bin .mul false (.cI 2) (.call "_law_draw" sp__law_draw (.cons (.v 0) (.cons (.cI 2) (.nil))))))) (.cons (.v 3) (.nil))))) (.nil)))) (.nil)) (.cons (.ite (.cmp .eq (.v 1) (.cI 1)) (.cons (.ret (.tup (.cons (.cI 0) (.cons (.cI 1) (.nil))))) (.nil)) (.nil)) (.cons (.ret (.call "_law_lowest" sp__law_lowest (.cons (.bin .sub false (.call "_law_draw" sp__law_draw (.cons (.v 0) (.cons (.cI 41) (.nil)))) (.cI 20)) (.cons (.bin .add false (.cI 1) (.call "_law_draw" sp__law_draw (.cons (.v 0) (.cons (.cI 12) (.nil))))) (.nil))))) (.nil))))
theorem t_law_twelve : Keeps 4 b__law_twelve sp__law_twelve 1 := by
  intro ds S Q U h
  match ds, h with
  | [.ref p], h =>
  refine ⟨rfl, ?_⟩
  obtain ⟨n, hF, hn, h⟩ := h
  have m6 : (10 : Int) ^ Int.toNat 6 = 1000000 := by decide
  have m5 : (10 : Int) ^ Int.toNat 5 = 100000 := by decide
  have c6 : CPwD 10 6 := Bt.cpw (b := 4) (Bt.lit (by decide)) (by decide) (by decide)
  have c5 : CPwD 10 5 := Bt.cpw (b := 4) (Bt.lit (by decide)) (by decide) (by decide)
  simp only [b__law_twelve, ↓gv_z, ↓gv_s, ↓sv_z, ↓sv_s, ↓wv_z, wv_z, ↓wv_s, wv_s, iteE_int, iteE_bl, iteE_str, iteE_lst, iteE_same, iteE_c1, iteE_c2, iteE_1, iteE_0, iteT_1, iteT_0, andT_1, andT_0, orT_1, orT_0, andE_1, andE_0, orE_1, orE_0, iteS_1, iteS_0, andE_bl, andE_c, orE_bl, orE_c, iteT_v, iteT_c1, iteT_c2, andT_v, andT_c, orT_v, orT_c, iteS_v, iteS_c1, iteS_c2, iteS_r1, iteS_r2, joinS_n, joinS_same, joinS_int, joinS_bl, ixS_s, ↓e_v, ↓e_N, ↓e_B, ↓e_I, ↓e_S, ↓e_gl, ↓e_add, ↓e_sub, ↓e_mul, ↓e_fdiv, ↓e_mod, ↓e_pow, ↓e_neg, ↓e_cmp, ↓bP_b, ↓t_cmp, ↓e_cmp2, ↓t_cmp2, ↓e_and1, ↓e_and2, ↓t_and1, ↓t_and2, ↓e_or1, ↓e_or2, ↓t_or1, ↓t_or2, ↓e_not, ↓t_not, ↓e_ite, ↓t_ite, ↓e_tup, ↓e_lst, ↓e_dct, ↓e_ix, ↓e_sl, ↓e_slr, ↓e_call, ↓e_bi, ↓e_mt, ↓e_lc, ↓e_frz, ↓t_frz, ↓t_v, ↓t_B, ↓t_N, ↓t_I, ↓t_ix, ↓t_bin, ↓t_call, ↓t_bi, ↓t_sl, ↓t_lc, ↓a_n, ↓a_c, ↓if_n, ↓if_1, ↓o_n, ↓iP_i, ↓o_s, ↓i_val, ↓i_r1, ↓i_r2, ↓i_r3, ↓i_enum, ↓i_zip, ↓i_rev, ↓add_i, ↓add_s, ↓add_t, ↓sub_i, ↓mul_i, ↓fdiv_i, ↓mod_i, ↓pow_i, ↓neg_i, ↓eq_i, ↓eq_s, ↓eq_b, ↓ne_i, ↓ne_s, ↓ne_b, ↓lt_i, ↓le_i, ↓gt_i, ↓ge_i, ↓is_N, ↓no_N, ↓tr_b, ↓tr_i, ↓tr_n, ↓tr_t, ↓tr_l, ↓ix_t, ↓ix_l, ↓ix_rl, ↓at_0, ↓at_1, ↓at_2, ↓at_3, ↓s_n, ↓s_c, ↓s_asg, ↓s_asgL, ↓s_par, ↓s_set, ↓s_ex, ↓s_ite, ↓s_for, ↓s_wh, ↓s_ret, ↓s_retN, ↓s_pass, ↓s_brk, ↓s_rz, ↓s_cont, ↓g_nm, ↓g_tp, ↓g_n, ↓g_c, ↓par_n, ↓par_c, ↓nw_f, ↓nw_t, ↓len_l, ↓len_t, ↓abs_i, ↓int_i, ↓int_b, ↓repr_h, ↓max_i, ↓min_i, ↓st_0, ↓st_s, ↓supd_supd, ↓ix_ref, ↓set_ref, ↓fd_turn, ↓fd_left, ↓fd_at, ↓fd_cells, ↓fs_turn, ↓fs_left, ↓fs_at, ↓ne_nil, ↓len_is, map_at, ↓ix_q0, ↓ix_q1, ↓g_q, ↓len_q, ↓tr_q, ↓low_eq, ↓q1_eq, ↓q2_eq, ↓sz_0, ↓sz_1, ↓sz_2, ↓sz_3, ↓sz_4, ↓sz_5, ↓sz_6, ↓sz_7, ↓sz_8, ↓itp_t, ↓itp_l, ↓itl_l, ↓pl_2, ↓pl_3, iteE_q, joinS_q, ↓eq_q, ↓ne_q, ↓ixC_l, ↓frz_ref, ↓tup_l, ↓tup_t, ↓lst_l, ↓lst_t, ↓sl_t, ↓slr_t, ↓mul_l, ↓add_l, ↓ifs_0, gsl_nm, gsl_tp, gsl_n, gsl_c, wipe_n, wipe_c, List.replicate, Option.map_some, decide_eq_true_eq, ↓reduceIte, Bool.false_eq_true, Bool.not_eq_eq_eq_not, Bool.not_true, Bool.not_false, true_and, forall_const, Bool.and_eq_true, Bool.or_eq_true, decide_eq_false_iff_not, not_true_eq_false, not_false_eq_true, decide_true, decide_false]
  refine use_draw hF (by omega) (by decide) (Bt.lit (by decide)) fun w S1 w0 w1 A1 => ?_
  simp only [m6, m5, ↓gv_z, ↓gv_s, ↓sv_z, ↓sv_s, ↓wv_z, wv_z, ↓wv_s, wv_s, iteE_int, iteE_bl, iteE_str, iteE_lst, iteE_same, iteE_c1, iteE_c2, iteE_1, iteE_0, iteT_1, iteT_0, andT_1, andT_0, orT_1, orT_0, andE_1, andE_0, orE_1, orE_0, iteS_1, iteS_0, andE_bl, andE_c, orE_bl, orE_c, iteT_v, iteT_c1, iteT_c2, andT_v, andT_c, orT_v, orT_c, iteS_v, iteS_c1, iteS_c2, iteS_r1, iteS_r2, joinS_n, joinS_same, joinS_int, joinS_bl, ixS_s, ↓e_v, ↓e_N, ↓e_B, ↓e_I, ↓e_S, ↓e_gl, ↓e_add, ↓e_sub, ↓e_mul, ↓e_fdiv, ↓e_mod, ↓e_pow, ↓e_neg, ↓e_cmp, ↓bP_b, ↓t_cmp, ↓e_cmp2, ↓t_cmp2, ↓e_and1, ↓e_and2, ↓t_and1, ↓t_and2, ↓e_or1, ↓e_or2, ↓t_or1, ↓t_or2, ↓e_not, ↓t_not, ↓e_ite, ↓t_ite, ↓e_tup, ↓e_lst, ↓e_dct, ↓e_ix, ↓e_sl, ↓e_slr, ↓e_call, ↓e_bi, ↓e_mt, ↓e_lc, ↓e_frz, ↓t_frz, ↓t_v, ↓t_B, ↓t_N, ↓t_I, ↓t_ix, ↓t_bin, ↓t_call, ↓t_bi, ↓t_sl, ↓t_lc, ↓a_n, ↓a_c, ↓if_n, ↓if_1, ↓o_n, ↓iP_i, ↓o_s, ↓i_val, ↓i_r1, ↓i_r2, ↓i_r3, ↓i_enum, ↓i_zip, ↓i_rev, ↓add_i, ↓add_s, ↓add_t, ↓sub_i, ↓mul_i, ↓fdiv_i, ↓mod_i, ↓pow_i, ↓neg_i, ↓eq_i, ↓eq_s, ↓eq_b, ↓ne_i, ↓ne_s, ↓ne_b, ↓lt_i, ↓le_i, ↓gt_i, ↓ge_i, ↓is_N, ↓no_N, ↓tr_b, ↓tr_i, ↓tr_n, ↓tr_t, ↓tr_l, ↓ix_t, ↓ix_l, ↓ix_rl, ↓at_0, ↓at_1, ↓at_2, ↓at_3, ↓s_n, ↓s_c, ↓s_asg, ↓s_asgL, ↓s_par, ↓s_set, ↓s_ex, ↓s_ite, ↓s_for, ↓s_wh, ↓s_ret, ↓s_retN, ↓s_pass, ↓s_brk, ↓s_rz, ↓s_cont, ↓g_nm, ↓g_tp, ↓g_n, ↓g_c, ↓par_n, ↓par_c, ↓nw_f, ↓nw_t, ↓len_l, ↓len_t, ↓abs_i, ↓int_i, ↓int_b, ↓repr_h, ↓max_i, ↓min_i, ↓st_0, ↓st_s, ↓supd_supd, ↓ix_ref, ↓set_ref, ↓fd_turn, ↓fd_left, ↓fd_at, ↓fd_cells, ↓fs_turn, ↓fs_left, ↓fs_at, ↓ne_nil, ↓len_is, map_at, ↓ix_q0, ↓ix_q1, ↓g_q, ↓len_q, ↓tr_q, ↓low_eq, ↓q1_eq, ↓q2_eq, ↓sz_0, ↓sz_1, ↓sz_2, ↓sz_3, ↓sz_4, ↓sz_5, ↓sz_6, ↓sz_7, ↓sz_8, ↓itp_t, ↓itp_l, ↓itl_l, ↓pl_2, ↓pl_3, iteE_q, joinS_q, ↓eq_q, ↓ne_q, ↓ixC_l, ↓frz_ref, ↓tup_l, ↓tup_t, ↓lst_l, ↓lst_t, ↓sl_t, ↓slr_t, ↓mul_l, ↓add_l, ↓ifs_0, gsl_nm, gsl_tp, gsl_n, gsl_c, wipe_n, wipe_c, List.replicate, Option.map_some, decide_eq_true_eq, ↓reduceIte, Bool.false_eq_true, Bool.not_eq_eq_eq_not, Bool.not_true, Bool.not_false, true_and, forall_const, Bool.and_eq_true, Bool.or_eq_true, decide_eq_false_iff_not, not_true_eq_false, not_false_eq_true, decide_true, decide_false]
  refine ⟨fun _ => c6, ?_⟩
  rw [iteS_def]
  split
  · refine use_draw A1.fd (by omega) (by decide) (Bt.lit (by decide)) fun a S2 a0 a1 A2 => ?_
    simp only [m6, m5, ↓gv_z, ↓gv_s, ↓sv_z, ↓sv_s, ↓wv_z, wv_z, ↓wv_s, wv_s, iteE_int, iteE_bl, iteE_str, iteE_lst, iteE_same, iteE_c1, iteE_c2, iteE_1, iteE_0, iteT_1, iteT_0, andT_1, andT_0, orT_1, orT_0, andE_1, andE_0, orE_1, orE_0, iteS_1, iteS_0, andE_bl, andE_c, orE_bl, orE_c, iteT_v, iteT_c1, iteT_c2, andT_v, andT_c, orT_v, orT_c, iteS_v, iteS_c1, iteS_c2, iteS_r1, iteS_r2, joinS_n, joinS_same, joinS_int, joinS_bl, ixS_s, ↓e_v, ↓e_N, ↓e_B, ↓e_I, ↓e_S, ↓e_gl, ↓e_add, ↓e_sub, ↓e_mul, ↓e_fdiv, ↓e_mod, ↓e_pow, ↓e_neg, ↓e_cmp, ↓bP_b, ↓t_cmp, ↓e_cmp2, ↓t_cmp2, ↓e_and1, ↓e_and2, ↓t_and1, ↓t_and2, ↓e_or1, ↓e_or2, ↓t_or1, ↓t_or2, ↓e_not, ↓t_not, ↓e_ite, ↓t_ite, ↓e_tup, ↓e_lst, ↓e_dct, ↓e_ix, ↓e_sl, ↓e_slr, ↓e_call, ↓e_bi, ↓e_mt, ↓e_lc, ↓e_frz, ↓t_frz, ↓t_v, ↓t_B, ↓t_N, ↓t_I, ↓t_ix, ↓t_bin, ↓t_call, ↓t_bi, ↓t_sl, ↓t_lc, ↓a_n, ↓a_c, ↓if_n, ↓if_1, ↓o_n, ↓iP_i, ↓o_s, ↓i_val, ↓i_r1, ↓i_r2, ↓i_r3, ↓i_enum, ↓i_zip, ↓i_rev, ↓add_i, ↓add_s, ↓add_t, ↓sub_i, ↓mul_i, ↓fdiv_i, ↓mod_i, ↓pow_i, ↓neg_i, ↓eq_i, ↓eq_s, ↓eq_b, ↓ne_i, ↓ne_s, ↓ne_b, ↓lt_i, ↓le_i, ↓gt_i, ↓ge_i, ↓is_N, ↓no_N, ↓tr_b, ↓tr_i, ↓tr_n, ↓tr_t, ↓tr_l, ↓ix_t, ↓ix_l, ↓ix_rl, ↓at_0, ↓at_1, ↓at_2, ↓at_3, ↓s_n, ↓s_c, ↓s_asg, ↓s_asgL, ↓s_par, ↓s_set, ↓s_ex, ↓s_ite, ↓s_for, ↓s_wh, ↓s_ret, ↓s_retN, ↓s_pass, ↓s_brk, ↓s_rz, ↓s_cont, ↓g_nm, ↓g_tp, ↓g_n, ↓g_c, ↓par_n, ↓par_c, ↓nw_f, ↓nw_t, ↓len_l, ↓len_t, ↓abs_i, ↓int_i, ↓int_b, ↓repr_h, ↓max_i, ↓min_i, ↓st_0, ↓st_s, ↓supd_supd, ↓ix_ref, ↓set_ref, ↓fd_turn, ↓fd_left, ↓fd_at, ↓fd_cells, ↓fs_turn, ↓fs_left, ↓fs_at, ↓ne_nil, ↓len_is, map_at, ↓ix_q0, ↓ix_q1, ↓g_q, ↓len_q, ↓tr_q, ↓low_eq, ↓q1_eq, ↓q2_eq, ↓sz_0, ↓sz_1, ↓sz_2, ↓sz_3, ↓sz_4, ↓sz_5, ↓sz_6, ↓sz_7, ↓sz_8, ↓itp_t, ↓itp_l, ↓itl_l, ↓pl_2, ↓pl_3, iteE_q, joinS_q, ↓eq_q, ↓ne_q, ↓ixC_l, ↓frz_ref, ↓tup_l, ↓tup_t, ↓lst_l, ↓lst_t, ↓sl_t, ↓slr_t, ↓mul_l, ↓add_l, ↓ifs_0, gsl_nm, gsl_tp, gsl_n, gsl_c, wipe_n, wipe_c, List.replicate, Option.map_some, decide_eq_true_eq, ↓reduceIte, Bool.false_eq_true, Bool.not_eq_eq_eq_not, Bool.not_true, Bool.not_false, true_and, forall_const, Bool.and_eq_true, Bool.or_eq_true, decide_eq_false_iff_not, not_true_eq_false, not_false_eq_true, decide_true, decide_false]
    refine ⟨c6, Bt.cmul (a := 20) (b := 20) (Bt.range (m := 1000000) (Bt.lit (by decide)) a0 a1) (Bt.lit (by decide)) (by decide), c6, ?_⟩
    refine use_draw (A1.trans A2).fd (by omega) (by decide) (Bt.lit (by decide)) fun b S3 b0 b1 A3 => ?_
    simp only [m6, m5, ↓gv_z, ↓gv_s, ↓sv_z, ↓sv_s, ↓wv_z, wv_z, ↓wv_s, wv_s, iteE_int, iteE_bl, iteE_str, iteE_lst, iteE_same, iteE_c1, iteE_c2, iteE_1, iteE_0, iteT_1, iteT_0, andT_1, andT_0, orT_1, orT_0, andE_1, andE_0, orE_1, orE_0, iteS_1, iteS_0, andE_bl, andE_c, orE_bl, orE_c, iteT_v, iteT_c1, iteT_c2, andT_v, andT_c, orT_v, orT_c, iteS_v, iteS_c1, iteS_c2, iteS_r1, iteS_r2, joinS_n, joinS_same, joinS_int, joinS_bl, ixS_s, ↓e_v, ↓e_N, ↓e_B, ↓e_I, ↓e_S, ↓e_gl, ↓e_add, ↓e_sub, ↓e_mul, ↓e_fdiv, ↓e_mod, ↓e_pow, ↓e_neg, ↓e_cmp, ↓bP_b, ↓t_cmp, ↓e_cmp2, ↓t_cmp2, ↓e_and1, ↓e_and2, ↓t_and1, ↓t_and2, ↓e_or1, ↓e_or2, ↓t_or1, ↓t_or2, ↓e_not, ↓t_not, ↓e_ite, ↓t_ite, ↓e_tup, ↓e_lst, ↓e_dct, ↓e_ix, ↓e_sl, ↓e_slr, ↓e_call, ↓e_bi, ↓e_mt, ↓e_lc, ↓e_frz, ↓t_frz, ↓t_v, ↓t_B, ↓t_N, ↓t_I, ↓t_ix, ↓t_bin, ↓t_call, ↓t_bi, ↓t_sl, ↓t_lc, ↓a_n, ↓a_c, ↓if_n, ↓if_1, ↓o_n, ↓iP_i, ↓o_s, ↓i_val, ↓i_r1, ↓i_r2, ↓i_r3, ↓i_enum, ↓i_zip, ↓i_rev, ↓add_i, ↓add_s, ↓add_t, ↓sub_i, ↓mul_i, ↓fdiv_i, ↓mod_i, ↓pow_i, ↓neg_i, ↓eq_i, ↓eq_s, ↓eq_b, ↓ne_i, ↓ne_s, ↓ne_b, ↓lt_i, ↓le_i, ↓gt_i, ↓ge_i, ↓is_N, ↓no_N, ↓tr_b, ↓tr_i, ↓tr_n, ↓tr_t, ↓tr_l, ↓ix_t, ↓ix_l, ↓ix_rl, ↓at_0, ↓at_1, ↓at_2, ↓at_3, ↓s_n, ↓s_c, ↓s_asg, ↓s_asgL, ↓s_par, ↓s_set, ↓s_ex, ↓s_ite, ↓s_for, ↓s_wh, ↓s_ret, ↓s_retN, ↓s_pass, ↓s_brk, ↓s_rz, ↓s_cont, ↓g_nm, ↓g_tp, ↓g_n, ↓g_c, ↓par_n, ↓par_c, ↓nw_f, ↓nw_t, ↓len_l, ↓len_t, ↓abs_i, ↓int_i, ↓int_b, ↓repr_h, ↓max_i, ↓min_i, ↓st_0, ↓st_s, ↓supd_supd, ↓ix_ref, ↓set_ref, ↓fd_turn, ↓fd_left, ↓fd_at, ↓fd_cells, ↓fs_turn, ↓fs_left, ↓fs_at, ↓ne_nil, ↓len_is, map_at, ↓ix_q0, ↓ix_q1, ↓g_q, ↓len_q, ↓tr_q, ↓low_eq, ↓q1_eq, ↓q2_eq, ↓sz_0, ↓sz_1, ↓sz_2, ↓sz_3, ↓sz_4, ↓sz_5, ↓sz_6, ↓sz_7, ↓sz_8, ↓itp_t, ↓itp_l, ↓itl_l, ↓pl_2, ↓pl_3, iteE_q, joinS_q, ↓eq_q, ↓ne_q, ↓ixC_l, ↓frz_ref, ↓tup_l, ↓tup_t, ↓lst_l, ↓lst_t, ↓sl_t, ↓slr_t, ↓mul_l, ↓add_l, ↓ifs_0, gsl_nm, gsl_tp, gsl_n, gsl_c, wipe_n, wipe_c, List.replicate, Option.map_some, decide_eq_true_eq, ↓reduceIte, Bool.false_eq_true, Bool.not_eq_eq_eq_not, Bool.not_true, Bool.not_false, true_and, forall_const, Bool.and_eq_true, Bool.or_eq_true, decide_eq_false_iff_not, not_true_eq_false, not_false_eq_true, decide_true, decide_false]
    refine ⟨c6, ?_⟩
    refine use_draw ((A1.trans A2).trans A3).fd (by omega) (by decide) (Bt.lit (by decide)) fun c S4 c0 c1 A4 => ?_
    simp only [m6, m5, ↓gv_z, ↓gv_s, ↓sv_z, ↓sv_s, ↓wv_z, wv_z, ↓wv_s, wv_s, iteE_int, iteE_bl, iteE_str, iteE_lst, iteE_same, iteE_c1, iteE_c2, iteE_1, iteE_0, iteT_1, iteT_0, andT_1, andT_0, orT_1, orT_0, andE_1, andE_0, orE_1, orE_0, iteS_1, iteS_0, andE_bl, andE_c, orE_bl, orE_c, iteT_v, iteT_c1, iteT_c2, andT_v, andT_c, orT_v, orT_c, iteS_v, iteS_c1, iteS_c2, iteS_r1, iteS_r2, joinS_n, joinS_same, joinS_int, joinS_bl, ixS_s, ↓e_v, ↓e_N, ↓e_B, ↓e_I, ↓e_S, ↓e_gl, ↓e_add, ↓e_sub, ↓e_mul, ↓e_fdiv, ↓e_mod, ↓e_pow, ↓e_neg, ↓e_cmp, ↓bP_b, ↓t_cmp, ↓e_cmp2, ↓t_cmp2, ↓e_and1, ↓e_and2, ↓t_and1, ↓t_and2, ↓e_or1, ↓e_or2, ↓t_or1, ↓t_or2, ↓e_not, ↓t_not, ↓e_ite, ↓t_ite, ↓e_tup, ↓e_lst, ↓e_dct, ↓e_ix, ↓e_sl, ↓e_slr, ↓e_call, ↓e_bi, ↓e_mt, ↓e_lc, ↓e_frz, ↓t_frz, ↓t_v, ↓t_B, ↓t_N, ↓t_I, ↓t_ix, ↓t_bin, ↓t_call, ↓t_bi, ↓t_sl, ↓t_lc, ↓a_n, ↓a_c, ↓if_n, ↓if_1, ↓o_n, ↓iP_i, ↓o_s, ↓i_val, ↓i_r1, ↓i_r2, ↓i_r3, ↓i_enum, ↓i_zip, ↓i_rev, ↓add_i, ↓add_s, ↓add_t, ↓sub_i, ↓mul_i, ↓fdiv_i, ↓mod_i, ↓pow_i, ↓neg_i, ↓eq_i, ↓eq_s, ↓eq_b, ↓ne_i, ↓ne_s, ↓ne_b, ↓lt_i, ↓le_i, ↓gt_i, ↓ge_i, ↓is_N, ↓no_N, ↓tr_b, ↓tr_i, ↓tr_n, ↓tr_t, ↓tr_l, ↓ix_t, ↓ix_l, ↓ix_rl, ↓at_0, ↓at_1, ↓at_2, ↓at_3, ↓s_n, ↓s_c, ↓s_asg, ↓s_asgL, ↓s_par, ↓s_set, ↓s_ex, ↓s_ite, ↓s_for, ↓s_wh, ↓s_ret, ↓s_retN, ↓s_pass, ↓s_brk, ↓s_rz, ↓s_cont, ↓g_nm, ↓g_tp, ↓g_n, ↓g_c, ↓par_n, ↓par_c, ↓nw_f, ↓nw_t, ↓len_l, ↓len_t, ↓abs_i, ↓int_i, ↓int_b, ↓repr_h, ↓max_i, ↓min_i, ↓st_0, ↓st_s, ↓supd_supd, ↓ix_ref, ↓set_ref, ↓fd_turn, ↓fd_left, ↓fd_at, ↓fd_cells, ↓fs_turn, ↓fs_left, ↓fs_at, ↓ne_nil, ↓len_is, map_at, ↓ix_q0, ↓ix_q1, ↓g_q, ↓len_q, ↓tr_q, ↓low_eq, ↓q1_eq, ↓q2_eq, ↓sz_0, ↓sz_1, ↓sz_2, ↓sz_3, ↓sz_4, ↓sz_5, ↓sz_6, ↓sz_7, ↓sz_8, ↓itp_t, ↓itp_l, ↓itl_l, ↓pl_2, ↓pl_3, iteE_q, joinS_q, ↓eq_q, ↓ne_q, ↓ixC_l, ↓frz_ref, ↓tup_l, ↓tup_t, ↓lst_l, ↓lst_t, ↓sl_t, ↓slr_t, ↓mul_l, ↓add_l, ↓ifs_0, gsl_nm, gsl_tp, gsl_n, gsl_c, wipe_n, wipe_c, List.replicate, Option.map_some, decide_eq_true_eq, ↓reduceIte, Bool.false_eq_true, Bool.not_eq_eq_eq_not, Bool.not_true, Bool.not_false, true_and, forall_const, Bool.and_eq_true, Bool.or_eq_true, decide_eq_false_iff_not, not_true_eq_false, not_false_eq_true, decide_true, decide_false]
    refine ⟨c5, Bt.cmul (a := 20) (b := 20) (Bt.range (m := 1000000) (Bt.lit (by decide)) c0 c1) (Bt.lit (by decide)) (by decide), ?_⟩
    refine use_draw (((A1.trans A2).trans A3).trans A4).fd (by omega) (by decide) (Bt.lit (by decide)) fun d S5 d0 d1 A5 => ?_
    simp only [m6, m5, ↓gv_z, ↓gv_s, ↓sv_z, ↓sv_s, ↓wv_z, wv_z, ↓wv_s, wv_s, iteE_int, iteE_bl, iteE_str, iteE_lst, iteE_same, iteE_c1, iteE_c2, iteE_1, iteE_0, iteT_1, iteT_0, andT_1, andT_0, orT_1, orT_0, andE_1, andE_0, orE_1, orE_0, iteS_1, iteS_0, andE_bl, andE_c, orE_bl, orE_c, iteT_v, iteT_c1, iteT_c2, andT_v, andT_c, orT_v, orT_c, iteS_v, iteS_c1, iteS_c2, iteS_r1, iteS_r2, joinS_n, joinS_same, joinS_int, joinS_bl, ixS_s, ↓e_v, ↓e_N, ↓e_B, ↓e_I, ↓e_S, ↓e_gl, ↓e_add, ↓e_sub, ↓e_mul, ↓e_fdiv, ↓e_mod, ↓e_pow, ↓e_neg, ↓e_cmp, ↓bP_b, ↓t_cmp, ↓e_cmp2, ↓t_cmp2, ↓e_and1, ↓e_and2, ↓t_and1, ↓t_and2, ↓e_or1, ↓e_or2, ↓t_or1, ↓t_or2, ↓e_not, ↓t_not, ↓e_ite, ↓t_ite, ↓e_tup, ↓e_lst, ↓e_dct, ↓e_ix, ↓e_sl, ↓e_slr, ↓e_call, ↓e_bi, ↓e_mt, ↓e_lc, ↓e_frz, ↓t_frz, ↓t_v, ↓t_B, ↓t_N, ↓t_I, ↓t_ix, ↓t_bin, ↓t_call, ↓t_bi, ↓t_sl, ↓t_lc, ↓a_n, ↓a_c, ↓if_n, ↓if_1, ↓o_n, ↓iP_i, ↓o_s, ↓i_val, ↓i_r1, ↓i_r2, ↓i_r3, ↓i_enum, ↓i_zip, ↓i_rev, ↓add_i, ↓add_s, ↓add_t, ↓sub_i, ↓mul_i, ↓fdiv_i, ↓mod_i, ↓pow_i, ↓neg_i, ↓eq_i, ↓eq_s, ↓eq_b, ↓ne_i, ↓ne_s, ↓ne_b, ↓lt_i, ↓le_i, ↓gt_i, ↓ge_i, ↓is_N, ↓no_N, ↓tr_b, ↓tr_i, ↓tr_n, ↓tr_t, ↓tr_l, ↓ix_t, ↓ix_l, ↓ix_rl, ↓at_0, ↓at_1, ↓at_2, ↓at_3, ↓s_n, ↓s_c, ↓s_asg, ↓s_asgL, ↓s_par, ↓s_set, ↓s_ex, ↓s_ite, ↓s_for, ↓s_wh, ↓s_ret, ↓s_retN, ↓s_pass, ↓s_brk, ↓s_rz, ↓s_cont, ↓g_nm, ↓g_tp, ↓g_n, ↓g_c, ↓par_n, ↓par_c, ↓nw_f, ↓nw_t, ↓len_l, ↓len_t, ↓abs_i, ↓int_i, ↓int_b, ↓repr_h, ↓max_i, ↓min_i, ↓st_0, ↓st_s, ↓supd_supd, ↓ix_ref, ↓set_ref, ↓fd_turn, ↓fd_left, ↓fd_at, ↓fd_cells, ↓fs_turn, ↓fs_left, ↓fs_at, ↓ne_nil, ↓len_is, map_at, ↓ix_q0, ↓ix_q1, ↓g_q, ↓len_q, ↓tr_q, ↓low_eq, ↓q1_eq, ↓q2_eq, ↓sz_0, ↓sz_1, ↓sz_2, ↓sz_3, ↓sz_4, ↓sz_5, ↓sz_6, ↓sz_7, ↓sz_8, ↓itp_t, ↓itp_l, ↓itl_l, ↓pl_2, ↓pl_3, iteE_q, joinS_q, ↓eq_q, ↓ne_q, ↓ixC_l, ↓frz_ref, ↓tup_l, ↓tup_t, ↓lst_l, ↓lst_t, ↓sl_t, ↓slr_t, ↓mul_l, ↓add_l, ↓ifs_0, gsl_nm, gsl_tp, gsl_n, gsl_c, wipe_n, wipe_c, List.replicate, Option.map_some, decide_eq_true_eq, ↓reduceIte, Bool.false_eq_true, Bool.not_eq_eq_eq_not, Bool.not_true, Bool.not_false, true_and, forall_const, Bool.and_eq_true, Bool.or_eq_true, decide_eq_false_iff_not, not_true_eq_false, not_false_eq_true, decide_true, decide_false]
    have hA : Bt 41 (a * 1000000 + b) := by
      show (a * 1000000 + b).natAbs < 2199023255552
      omega
    have hC : Bt 41 (1 + c * 100000) := by
      show (1 + c * 100000).natAbs < 2199023255552
      omega
    have hD : Bt 2 (1 - 2 * d) := by
      show (1 - 2 * d).natAbs < 4
      omega
    have hne : 1 + c * 100000 ≠ 0 := by omega
    refine ⟨Bt.cmul (a := 2) (b := 2) (Bt.lit (by decide)) (by show d.natAbs < 4; omega) (by decide), hA.cmul hD (by decide), ⟨hne, (hA.mul hD).le (by decide), hC.le (by decide)⟩, ?_⟩
    exact h _ _ (.divInt ((hA.mul hD).le (by decide)) (hC.le (by decide)) hne) ((((A1.trans A2).trans A3).trans A4).trans A5)
  · simp only [↓gv_z, ↓gv_s, ↓sv_z, ↓sv_s, ↓wv_z, wv_z, ↓wv_s, wv_s, iteE_int, iteE_bl, iteE_str, iteE_lst, iteE_same, iteE_c1, iteE_c2, iteE_1, iteE_0, iteT_1, iteT_0, andT_1, andT_0, orT_1, orT_0, andE_1, andE_0, orE_1, orE_0, iteS_1, iteS_0, andE_bl, andE_c, orE_bl, orE_c, iteT_v, iteT_c1, iteT_c2, andT_v, andT_c, orT_v, orT_c, iteS_v, iteS_c1, iteS_c2, iteS_r1, iteS_r2, joinS_n, joinS_same, joinS_int, joinS_bl, ixS_s, ↓e_v, ↓e_N, ↓e_B, ↓e_I, ↓e_S, ↓e_gl, ↓e_add, ↓e_sub, ↓e_mul, ↓e_fdiv, ↓e_mod, ↓e_pow, ↓e_neg, ↓e_cmp, ↓bP_b, ↓t_cmp, ↓e_cmp2, ↓t_cmp2, ↓e_and1, ↓e_and2, ↓t_and1, ↓t_and2, ↓e_or1, ↓e_or2, ↓t_or1, ↓t_or2, ↓e_not, ↓t_not, ↓e_ite, ↓t_ite, ↓e_tup, ↓e_lst, ↓e_dct, ↓e_ix, ↓e_sl, ↓e_slr, ↓e_call, ↓e_bi, ↓e_mt, ↓e_lc, ↓e_frz, ↓t_frz, ↓t_v, ↓t_B, ↓t_N, ↓t_I, ↓t_ix, ↓t_bin, ↓t_call, ↓t_bi, ↓t_sl, ↓t_lc, ↓a_n, ↓a_c, ↓if_n, ↓if_1, ↓o_n, ↓iP_i, ↓o_s, ↓i_val, ↓i_r1, ↓i_r2, ↓i_r3, ↓i_enum, ↓i_zip, ↓i_rev, ↓add_i, ↓add_s, ↓add_t, ↓sub_i, ↓mul_i, ↓fdiv_i, ↓mod_i, ↓pow_i, ↓neg_i, ↓eq_i, ↓eq_s, ↓eq_b, ↓ne_i, ↓ne_s, ↓ne_b, ↓lt_i, ↓le_i, ↓gt_i, ↓ge_i, ↓is_N, ↓no_N, ↓tr_b, ↓tr_i, ↓tr_n, ↓tr_t, ↓tr_l, ↓ix_t, ↓ix_l, ↓ix_rl, ↓at_0, ↓at_1, ↓at_2, ↓at_3, ↓s_n, ↓s_c, ↓s_asg, ↓s_asgL, ↓s_par, ↓s_set, ↓s_ex, ↓s_ite, ↓s_for, ↓s_wh, ↓s_ret, ↓s_retN, ↓s_pass, ↓s_brk, ↓s_rz, ↓s_cont, ↓g_nm, ↓g_tp, ↓g_n, ↓g_c, ↓par_n, ↓par_c, ↓nw_f, ↓nw_t, ↓len_l, ↓len_t, ↓abs_i, ↓int_i, ↓int_b, ↓repr_h, ↓max_i, ↓min_i, ↓st_0, ↓st_s, ↓supd_supd, ↓ix_ref, ↓set_ref, ↓fd_turn, ↓fd_left, ↓fd_at, ↓fd_cells, ↓fs_turn, ↓fs_left, ↓fs_at, ↓ne_nil, ↓len_is, map_at, ↓ix_q0, ↓ix_q1, ↓g_q, ↓len_q, ↓tr_q, ↓low_eq, ↓q1_eq, ↓q2_eq, ↓sz_0, ↓sz_1, ↓sz_2, ↓sz_3, ↓sz_4, ↓sz_5, ↓sz_6, ↓sz_7, ↓sz_8, ↓itp_t, ↓itp_l, ↓itl_l, ↓pl_2, ↓pl_3, iteE_q, joinS_q, ↓eq_q, ↓ne_q, ↓ixC_l, ↓frz_ref, ↓tup_l, ↓tup_t, ↓lst_l, ↓lst_t, ↓sl_t, ↓slr_t, ↓mul_l, ↓add_l, ↓ifs_0, gsl_nm, gsl_tp, gsl_n, gsl_c, wipe_n, wipe_c, List.replicate, Option.map_some, decide_eq_true_eq, ↓reduceIte, Bool.false_eq_true, Bool.not_eq_eq_eq_not, Bool.not_true, Bool.not_false, true_and, forall_const, Bool.and_eq_true, Bool.or_eq_true, decide_eq_false_iff_not, not_true_eq_false, not_false_eq_true, decide_true, decide_false]
    split
    · exact h 0 _ (RB.zero (by decide)) (A1.le (by decide))
    · refine use_draw A1.fd (by omega) (by decide) (Bt.lit (by decide)) fun a S2 a0 a1 A2 => ?_
      simp only [↓gv_z, ↓gv_s, ↓sv_z, ↓sv_s, ↓wv_z, wv_z, ↓wv_s, wv_s, iteE_int, iteE_bl, iteE_str, iteE_lst, iteE_same, iteE_c1, iteE_c2, iteE_1, iteE_0, iteT_1, iteT_0, andT_1, andT_0, orT_1, orT_0, andE_1, andE_0, orE_1, orE_0, iteS_1, iteS_0, andE_bl, andE_c, orE_bl, orE_c, iteT_v, iteT_c1, iteT_c2, andT_v, andT_c, orT_v, orT_c, iteS_v, iteS_c1, iteS_c2, iteS_r1, iteS_r2, joinS_n, joinS_same, joinS_int, joinS_bl, ixS_s, ↓e_v, ↓e_N, ↓e_B, ↓e_I, ↓e_S, ↓e_gl, ↓e_add, ↓e_sub, ↓e_mul, ↓e_fdiv, ↓e_mod, ↓e_pow, ↓e_neg, ↓e_cmp, ↓bP_b, ↓t_cmp, ↓e_cmp2, ↓t_cmp2, ↓e_and1, ↓e_and2, ↓t_and1, ↓t_and2, ↓e_or1, ↓e_or2, ↓t_or1, ↓t_or2, ↓e_not, ↓t_not, ↓e_ite, ↓t_ite, ↓e_tup, ↓e_lst, ↓e_dct, ↓e_ix, ↓e_sl, ↓e_slr, ↓e_call, ↓e_bi, ↓e_mt, ↓e_lc, ↓e_frz, ↓t_frz, ↓t_v, ↓t_B, ↓t_N, ↓t_I, ↓t_ix, ↓t_bin, ↓t_call, ↓t_bi, ↓t_sl, ↓t_lc, ↓a_n, ↓a_c, ↓if_n, ↓if_1, ↓o_n, ↓iP_i, ↓o_s, ↓i_val, ↓i_r1, ↓i_r2, ↓i_r3, ↓i_enum, ↓i_zip, ↓i_rev, ↓add_i, ↓add_s, ↓add_t, ↓sub_i, ↓mul_i, ↓fdiv_i, ↓mod_i, ↓pow_i, ↓neg_i, ↓eq_i, ↓eq_s, ↓eq_b, ↓ne_i, ↓ne_s, ↓ne_b, ↓lt_i, ↓le_i, ↓gt_i, ↓ge_i, ↓is_N, ↓no_N, ↓tr_b, ↓tr_i, ↓tr_n, ↓tr_t, ↓tr_l, ↓ix_t, ↓ix_l, ↓ix_rl, ↓at_0, ↓at_1, ↓at_2, ↓at_3, ↓s_n, ↓s_c, ↓s_asg, ↓s_asgL, ↓s_par, ↓s_set, ↓s_ex, ↓s_ite, ↓s_for, ↓s_wh, ↓s_ret, ↓s_retN, ↓s_pass, ↓s_brk, ↓s_rz, ↓s_cont, ↓g_nm, ↓g_tp, ↓g_n, ↓g_c, ↓par_n, ↓par_c, ↓nw_f, ↓nw_t, ↓len_l, ↓len_t, ↓abs_i, ↓int_i, ↓int_b, ↓repr_h, ↓max_i, ↓min_i, ↓st_0, ↓st_s, ↓supd_supd, ↓ix_ref, ↓set_ref, ↓fd_turn, ↓fd_left, ↓fd_at, ↓fd_cells, ↓fs_turn, ↓fs_left, ↓fs_at, ↓ne_nil, ↓len_is, map_at, ↓ix_q0, ↓ix_q1, ↓g_q, ↓len_q, ↓tr_q, ↓low_eq, ↓q1_eq, ↓q2_eq, ↓sz_0, ↓sz_1, ↓sz_2, ↓sz_3, ↓sz_4, ↓sz_5, ↓sz_6, ↓sz_7, ↓sz_8, ↓itp_t, ↓itp_l, ↓itl_l, ↓pl_2, ↓pl_3, iteE_q, joinS_q, ↓eq_q, ↓ne_q, ↓ixC_l, ↓frz_ref, ↓tup_l, ↓tup_t, ↓lst_l, ↓lst_t, ↓sl_t, ↓slr_t, ↓mul_l, ↓add_l, ↓ifs_0, gsl_nm, gsl_tp, gsl_n, gsl_c, wipe_n, wipe_c, List.replicate, Option.map_some, decide_eq_true_eq, ↓reduceIte, Bool.false_eq_true, Bool.not_eq_eq_eq_not, Bool.not_true, Bool.not_false, true_and, forall_const, Bool.and_eq_true, Bool.or_eq_true, decide_eq_false_iff_not, not_true_eq_false, not_false_eq_true, decide_true, decide_false]
      refine use_draw (A1.trans A2).fd (by omega) (by decide) (Bt.lit (by decide)) fun b S3 b0 b1 A3 => ?_
      simp only [↓gv_z, ↓gv_s, ↓sv_z, ↓sv_s, ↓wv_z, wv_z, ↓wv_s, wv_s, iteE_int, iteE_bl, iteE_str, iteE_lst, iteE_same, iteE_c1, iteE_c2, iteE_1, iteE_0, iteT_1, iteT_0, andT_1, andT_0, orT_1, orT_0, andE_1, andE_0, orE_1, orE_0, iteS_1, iteS_0, andE_bl, andE_c, orE_bl, orE_c, iteT_v, iteT_c1, iteT_c2, andT_v, andT_c, orT_v, orT_c, iteS_v, iteS_c1, iteS_c2, iteS_r1, iteS_r2, joinS_n, joinS_same, joinS_int, joinS_bl, ixS_s, ↓e_v, ↓e_N, ↓e_B, ↓e_I, ↓e_S, ↓e_gl, ↓e_add, ↓e_sub, ↓e_mul, ↓e_fdiv, ↓e_mod, ↓e_pow, ↓e_neg, ↓e_cmp, ↓bP_b, ↓t_cmp, ↓e_cmp2, ↓t_cmp2, ↓e_and1, ↓e_and2, ↓t_and1, ↓t_and2, ↓e_or1, ↓e_or2, ↓t_or1, ↓t_or2, ↓e_not, ↓t_not, ↓e_ite, ↓t_ite, ↓e_tup, ↓e_lst, ↓e_dct, ↓e_ix, ↓e_sl, ↓e_slr, ↓e_call, ↓e_bi, ↓e_mt, ↓e_lc, ↓e_frz, ↓t_frz, ↓t_v, ↓t_B, ↓t_N, ↓t_I, ↓t_ix, ↓t_bin, ↓t_call, ↓t_bi, ↓t_sl, ↓t_lc, ↓a_n, ↓a_c, ↓if_n, ↓if_1, ↓o_n, ↓iP_i, ↓o_s, ↓i_val, ↓i_r1, ↓i_r2, ↓i_r3, ↓i_enum, ↓i_zip, ↓i_rev, ↓add_i, ↓add_s, ↓add_t, ↓sub_i, ↓mul_i, ↓fdiv_i, ↓mod_i, ↓pow_i, ↓neg_i, ↓eq_i, ↓eq_s, ↓eq_b, ↓ne_i, ↓ne_s, ↓ne_b, ↓lt_i, ↓le_i, ↓gt_i, ↓ge_i, ↓is_N, ↓no_N, ↓tr_b, ↓tr_i, ↓tr_n, ↓tr_t, ↓tr_l, ↓ix_t, ↓ix_l, ↓ix_rl, ↓at_0, ↓at_1, ↓at_2, ↓at_3, ↓s_n, ↓s_c, ↓s_asg, ↓s_asgL, ↓s_par, ↓s_set, ↓s_ex, ↓s_ite, ↓s_for, ↓s_wh, ↓s_ret, ↓s_retN, ↓s_pass, ↓s_brk, ↓s_rz, ↓s_cont, ↓g_nm, ↓g_tp, ↓g_n, ↓g_c, ↓par_n, ↓par_c, ↓nw_f, ↓nw_t, ↓len_l, ↓len_t, ↓abs_i, ↓int_i, ↓int_b, ↓repr_h, ↓max_i, ↓min_i, ↓st_0, ↓st_s, ↓supd_supd, ↓ix_ref, ↓set_ref, ↓fd_turn, ↓fd_left, ↓fd_at, ↓fd_cells, ↓fs_turn, ↓fs_left, ↓fs_at, ↓ne_nil, ↓len_is, map_at, ↓ix_q0, ↓ix_q1, ↓g_q, ↓len_q, ↓tr_q, ↓low_eq, ↓q1_eq, ↓q2_eq, ↓sz_0, ↓sz_1, ↓sz_2, ↓sz_3, ↓sz_4, ↓sz_5, ↓sz_6, ↓sz_7, ↓sz_8, ↓itp_t, ↓itp_l, ↓itl_l, ↓pl_2, ↓pl_3, iteE_q, joinS_q, ↓eq_q, ↓ne_q, ↓ixC_l, ↓frz_ref, ↓tup_l, ↓tup_t, ↓lst_l, ↓lst_t, ↓sl_t, ↓slr_t, ↓mul_l, ↓add_l, ↓ifs_0, gsl_nm, gsl_tp, gsl_n, gsl_c, wipe_n, wipe_c, List.replicate, Option.map_some, decide_eq_true_eq, ↓reduceIte, Bool.false_eq_true, Bool.not_eq_eq_eq_not, Bool.not_true, Bool.not_false, true_and, forall_const, Bool.and_eq_true, Bool.or_eq_true, decide_eq_false_iff_not, not_true_eq_false, not_false_eq_true, decide_true, decide_false]
      have hA : Bt 8 (a - 20) := by
        show (a - 20).natAbs < 256
        omega
      have hC : Bt 8 (1 + b) := by
        show (1 + b).natAbs < 256
        omega
      have hne : 1 + b ≠ 0 := by omega
      exact ⟨⟨hne, hA.le (by decide), hC.le (by decide)⟩, h _ _ (.divInt (hA.le (by decide)) (hC.le (by decide)) hne) (((A1.trans A2).trans A3).le (by decide))⟩
abbrev sp__law_contrary : Spec := spQ1 3900 fun x => frq (-x)
theorem q1_neg {S : Sto} {x : Rat} {Q : EQ} {U : Ex → Sto → Prop} : @callS sp__law_contrary [frq x] S U ⟨Q⟩ = (RB 3900 x ∧ Q (frq (-x)) S) := q1_eq
theorem sqx_len {S : Sto} {x : D} {ds : List D} {P : EQ} (h : sqx S x = some ds) : biO .len false [x] S P = P (.int ds.length) S := by
  cases x with
  | tup es => cases h; exact len_t
  | lst es => exact lsx_len (x := .lst es) h
  | rls es => exact lsx_len (x := .rls es) h
  | ref p => exact lsx_len (x := .ref p) h
  | _ => cases h
theorem sqx_ix {S : Sto} {x : D} {ds : List D} {P : EQ} (h : sqx S x = some ds) {i : Int} : ixD x (.int i) S P = @ixS (atI ds i) S ⟨P⟩ := by
  cases x with
  | tup es => cases h; exact ix_t
  | lst es => exact lsx_ix (x := .lst es) h
  | rls es => exact lsx_ix (x := .rls es) h
  | ref p => exact lsx_ix (x := .ref p) h
  | _ => cases h
theorem sqx_slt {S : Sto} {x : D} {ds : List D} {lo hi : Option Int} {P : EQ} (h : sqx S x = some ds) (p : P (.tup (cutD ds lo hi)) S) : slD false x lo hi S fun y S1 => biO .tuple false [y] S1 P := by
  cases x with
  | tup es => cases h; exact p
  | lst es =>
    rw [lsx_sl (x := .lst es) h, nw_f, tup_l]
    exact p
  | rls es =>
    rw [lsx_sl (x := .rls es) h, nw_f, tup_l]
    exact p
  | ref q =>
    rw [lsx_sl (x := .ref q) h, nw_f, tup_l]
    exact p
  | _ => cases h
abbrev sp__law_trim : Spec := fun ds S Q _ => ∃ (x : D) (xs : List Rat), ds = [x] ∧ sqx S x = some (xs.map frq) ∧ Q (plD (trim xs)) S
theorem use_law_trim {S : Sto} {x : D} {xs : List Rat} {Q : EQ} {U : Ex → Sto → Prop} (h : sqx S x = some (xs.map frq)) (q : Q (plD (trim xs)) S) : @callS sp__law_trim [x] S U ⟨Q⟩ := ⟨x, xs, rfl, h, q⟩
def b__law_trim : Sms := .cons (.asg (.nm 1) (.bi .len false (.cons (.v 0) (.nil)))) (.cons (.wh (.and_ (.cons (.cmp .gt (.v 1) (.cI 0)) (.cons (.cmp .eq (.ix (.ix (.v 0) (.bin .sub false (.v 1) (.cI 1))) (.cI 0)) (.cI 0)) (.nil)))) (.cons (.asg (.nm 1) (.bin .sub false (.v 1) (.cI 1))) (.nil))) (.cons (.ret (.bi .tuple false (.cons (.sl false (.v 0) (.none) (.some (.v 1))) (.nil)))) (.nil)))
theorem t_law_trim : Keeps 2 b__law_trim sp__law_trim 1 := by
  rintro ds S Q U ⟨x, xs, rfl, hx, h⟩
  refine ⟨rfl, ?_⟩
  simp only [b__law_trim, sqx_len hx, List.length_map, ↓gv_z, ↓gv_s, ↓sv_z, ↓sv_s, ↓wv_z, wv_z, ↓wv_s, wv_s, iteE_int, iteE_bl, iteE_str, iteE_lst, iteE_same, iteE_c1, iteE_c2, iteE_1, iteE_0, iteT_1, iteT_0, andT_1, andT_0, orT_1, orT_0, andE_1, andE_0, orE_1, orE_0, iteS_1, iteS_0, andE_bl, andE_c, orE_bl, orE_c, iteT_v, iteT_c1, iteT_c2, andT_v, andT_c, orT_v, orT_c, iteS_v, iteS_c1, iteS_c2, iteS_r1, iteS_r2, joinS_n, joinS_same, joinS_int, joinS_bl, ixS_s, ↓e_v, ↓e_N, ↓e_B, ↓e_I, ↓e_S, ↓e_gl, ↓e_add, ↓e_sub, ↓e_mul, ↓e_fdiv, ↓e_mod, ↓e_pow, ↓e_neg, ↓e_cmp, ↓bP_b, ↓t_cmp, ↓e_cmp2, ↓t_cmp2, ↓e_and1, ↓e_and2, ↓t_and1, ↓t_and2, ↓e_or1, ↓e_or2, ↓t_or1, ↓t_or2, ↓e_not, ↓t_not, ↓e_ite, ↓t_ite, ↓e_tup, ↓e_lst, ↓e_dct, ↓e_ix, ↓e_sl, ↓e_slr, ↓e_call, ↓e_bi, ↓e_mt, ↓e_lc, ↓e_frz, ↓t_frz, ↓t_v, ↓t_B, ↓t_N, ↓t_I, ↓t_ix, ↓t_bin, ↓t_call, ↓t_bi, ↓t_sl, ↓t_lc, ↓a_n, ↓a_c, ↓if_n, ↓if_1, ↓o_n, ↓iP_i, ↓o_s, ↓i_val, ↓i_r1, ↓i_r2, ↓i_r3, ↓i_enum, ↓i_zip, ↓i_rev, ↓add_i, ↓add_s, ↓add_t, ↓sub_i, ↓mul_i, ↓fdiv_i, ↓mod_i, ↓pow_i, ↓neg_i, ↓eq_i, ↓eq_s, ↓eq_b, ↓ne_i, ↓ne_s, ↓ne_b, ↓lt_i, ↓le_i, ↓gt_i, ↓ge_i, ↓is_N, ↓no_N, ↓tr_b, ↓tr_i, ↓tr_n, ↓tr_t, ↓tr_l, ↓ix_t, ↓ix_l, ↓ix_rl, ↓at_0, ↓at_1, ↓at_2, ↓at_3, ↓s_n, ↓s_c, ↓s_asg, ↓s_asgL, ↓s_par, ↓s_set, ↓s_ex, ↓s_ite, ↓s_for, ↓s_wh, ↓s_ret, ↓s_retN, ↓s_pass, ↓s_brk, ↓s_rz, ↓s_cont, ↓g_nm, ↓g_tp, ↓g_n, ↓g_c, ↓par_n, ↓par_c, ↓nw_f, ↓nw_t, ↓len_l, ↓len_t, ↓abs_i, ↓int_i, ↓int_b, ↓repr_h, ↓max_i, ↓min_i, ↓st_0, ↓st_s, ↓supd_supd, ↓ix_ref, ↓set_ref, ↓fd_turn, ↓fd_left, ↓fd_at, ↓fd_cells, ↓fs_turn, ↓fs_left, ↓fs_at, ↓ne_nil, ↓len_is, map_at, ↓ix_q0, ↓ix_q1, ↓g_q, ↓len_q, ↓tr_q, ↓low_eq, ↓q1_eq, ↓q2_eq, ↓sz_0, ↓sz_1, ↓sz_2, ↓sz_3, ↓sz_4, ↓sz_5, ↓sz_6, ↓sz_7, ↓sz_8, ↓itp_t, ↓itp_l, ↓itl_l, ↓pl_2, ↓pl_3, iteE_q, joinS_q, ↓eq_q, ↓ne_q, ↓ixC_l, ↓frz_ref, ↓tup_l, ↓tup_t, ↓lst_l, ↓lst_t, ↓sl_t, ↓slr_t, ↓mul_l, ↓add_l, ↓ifs_0, gsl_nm, gsl_tp, gsl_n, gsl_c, wipe_n, wipe_c, List.replicate, Option.map_some, decide_eq_true_eq, ↓reduceIte, Bool.false_eq_true, Bool.not_eq_eq_eq_not, Bool.not_true, Bool.not_false, true_and, forall_const, Bool.and_eq_true, Bool.or_eq_true, decide_eq_false_iff_not, not_true_eq_false, not_false_eq_true, decide_true, decide_false]
  have go : ∀ n : Nat, n ≤ xs.length → trim (xs.take n) = trim xs → ∃ k, wWh (w (fun x x_1 S => U x S) (.and_ (.cons (.cmp .gt (.v 1) (.cI 0)) (.cons (.cmp .eq (.ix (.ix (.v 0) (.bin .sub false (.v 1) (.cI 1))) (.cI 0)) (.cI 0)) (.nil))))).t (wSs (fun x x_1 S => U x S) (.cons (.asg (.nm 1) (.bin .sub false (.v 1) (.cI 1))) (.nil)))
      ⟨wSs (fun x x_1 S => U x S) (.cons (.ret (.bi .tuple false (.cons (.sl false (.v 0) (.none) (.some (.v 1))) (.nil)))) (.nil)) ⟨fun _ S => Q .non S, Q, fun _ _ => False, fun _ _ => False⟩, Q, fun _ _ => False, fun _ _ => False⟩ k [some x, some (.int (n : Int))] S := by
    intro n
    induction n with
    | zero =>
      intro hn ht
      refine ⟨1, ?_⟩
      unfold wWh
      have e0 : decide ((0 : Int) < ((0 : Nat) : Int)) = false := by decide
      simp only [e0, ↓gv_z, ↓gv_s, ↓sv_z, ↓sv_s, ↓wv_z, wv_z, ↓wv_s, wv_s, iteE_int, iteE_bl, iteE_str, iteE_lst, iteE_same, iteE_c1, iteE_c2, iteE_1, iteE_0, iteT_1, iteT_0, andT_1, andT_0, orT_1, orT_0, andE_1, andE_0, orE_1, orE_0, iteS_1, iteS_0, andE_bl, andE_c, orE_bl, orE_c, iteT_v, iteT_c1, iteT_c2, andT_v, andT_c, orT_v, orT_c, iteS_v, iteS_c1, iteS_c2, iteS_r1, iteS_r2, joinS_n, joinS_same, joinS_int, joinS_bl, ixS_s, ↓e_v, ↓e_N, ↓e_B, ↓e_I, ↓e_S, ↓e_gl, ↓e_add, ↓e_sub, ↓e_mul, ↓e_fdiv, ↓e_mod, ↓e_pow, ↓e_neg, ↓e_cmp, ↓bP_b, ↓t_cmp, ↓e_cmp2, ↓t_cmp2, ↓e_and1, ↓e_and2, ↓t_and1, ↓t_and2, ↓e_or1, ↓e_or2, ↓t_or1, ↓t_or2, ↓e_not, ↓t_not, ↓e_ite, ↓t_ite, ↓e_tup, ↓e_lst, ↓e_dct, ↓e_ix, ↓e_sl, ↓e_slr, ↓e_call, ↓e_bi, ↓e_mt, ↓e_lc, ↓e_frz, ↓t_frz, ↓t_v, ↓t_B, ↓t_N, ↓t_I, ↓t_ix, ↓t_bin, ↓t_call, ↓t_bi, ↓t_sl, ↓t_lc, ↓a_n, ↓a_c, ↓if_n, ↓if_1, ↓o_n, ↓iP_i, ↓o_s, ↓i_val, ↓i_r1, ↓i_r2, ↓i_r3, ↓i_enum, ↓i_zip, ↓i_rev, ↓add_i, ↓add_s, ↓add_t, ↓sub_i, ↓mul_i, ↓fdiv_i, ↓mod_i, ↓pow_i, ↓neg_i, ↓eq_i, ↓eq_s, ↓eq_b, ↓ne_i, ↓ne_s, ↓ne_b, ↓lt_i, ↓le_i, ↓gt_i, ↓ge_i, ↓is_N, ↓no_N, ↓tr_b, ↓tr_i, ↓tr_n, ↓tr_t, ↓tr_l, ↓ix_t, ↓ix_l, ↓ix_rl, ↓at_0, ↓at_1, ↓at_2, ↓at_3, ↓s_n, ↓s_c, ↓s_asg, ↓s_asgL, ↓s_par, ↓s_set, ↓s_ex, ↓s_ite, ↓s_for, ↓s_wh, ↓s_ret, ↓s_retN, ↓s_pass, ↓s_brk, ↓s_rz, ↓s_cont, ↓g_nm, ↓g_tp, ↓g_n, ↓g_c, ↓par_n, ↓par_c, ↓nw_f, ↓nw_t, ↓len_l, ↓len_t, ↓abs_i, ↓int_i, ↓int_b, ↓repr_h, ↓max_i, ↓min_i, ↓st_0, ↓st_s, ↓supd_supd, ↓ix_ref, ↓set_ref, ↓fd_turn, ↓fd_left, ↓fd_at, ↓fd_cells, ↓fs_turn, ↓fs_left, ↓fs_at, ↓ne_nil, ↓len_is, map_at, ↓ix_q0, ↓ix_q1, ↓g_q, ↓len_q, ↓tr_q, ↓low_eq, ↓q1_eq, ↓q2_eq, ↓sz_0, ↓sz_1, ↓sz_2, ↓sz_3, ↓sz_4, ↓sz_5, ↓sz_6, ↓sz_7, ↓sz_8, ↓itp_t, ↓itp_l, ↓itl_l, ↓pl_2, ↓pl_3, iteE_q, joinS_q, ↓eq_q, ↓ne_q, ↓ixC_l, ↓frz_ref, ↓tup_l, ↓tup_t, ↓lst_l, ↓lst_t, ↓sl_t, ↓slr_t, ↓mul_l, ↓add_l, ↓ifs_0, gsl_nm, gsl_tp, gsl_n, gsl_c, wipe_n, wipe_c, List.replicate, Option.map_some, decide_eq_true_eq, ↓reduceIte, Bool.false_eq_true, Bool.not_eq_eq_eq_not, Bool.not_true, Bool.not_false, true_and, forall_const, Bool.and_eq_true, Bool.or_eq_true, decide_eq_false_iff_not, not_true_eq_false, not_false_eq_true, decide_true, decide_false]
      refine sqx_slt hx ?_
      rw [cut_to, ← List.map_take, List.take_zero]
      rw [← ht] at h
      exact h
    | succ n ih =>
      intro hn ht
      have hat : atI xs (n : Int) = some (pn xs n) := at_pn (by omega)
      have e1 : ((n + 1 : Nat) : Int) - 1 = (n : Int) := by omega
      rw [take_succ_pn (by omega)] at ht
      by_cases c : pn xs n = 0
      · rw [c, trim_app0] at ht
        obtain ⟨k, hk⟩ := ih (by omega) ht
        refine ⟨k + 1, ?_⟩
        unfold wWh
        simp only [sqx_ix hx, e1, hat, ↓gv_z, ↓gv_s, ↓sv_z, ↓sv_s, ↓wv_z, wv_z, ↓wv_s, wv_s, iteE_int, iteE_bl, iteE_str, iteE_lst, iteE_same, iteE_c1, iteE_c2, iteE_1, iteE_0, iteT_1, iteT_0, andT_1, andT_0, orT_1, orT_0, andE_1, andE_0, orE_1, orE_0, iteS_1, iteS_0, andE_bl, andE_c, orE_bl, orE_c, iteT_v, iteT_c1, iteT_c2, andT_v, andT_c, orT_v, orT_c, iteS_v, iteS_c1, iteS_c2, iteS_r1, iteS_r2, joinS_n, joinS_same, joinS_int, joinS_bl, ixS_s, ↓e_v, ↓e_N, ↓e_B, ↓e_I, ↓e_S, ↓e_gl, ↓e_add, ↓e_sub, ↓e_mul, ↓e_fdiv, ↓e_mod, ↓e_pow, ↓e_neg, ↓e_cmp, ↓bP_b, ↓t_cmp, ↓e_cmp2, ↓t_cmp2, ↓e_and1, ↓e_and2, ↓t_and1, ↓t_and2, ↓e_or1, ↓e_or2, ↓t_or1, ↓t_or2, ↓e_not, ↓t_not, ↓e_ite, ↓t_ite, ↓e_tup, ↓e_lst, ↓e_dct, ↓e_ix, ↓e_sl, ↓e_slr, ↓e_call, ↓e_bi, ↓e_mt, ↓e_lc, ↓e_frz, ↓t_frz, ↓t_v, ↓t_B, ↓t_N, ↓t_I, ↓t_ix, ↓t_bin, ↓t_call, ↓t_bi, ↓t_sl, ↓t_lc, ↓a_n, ↓a_c, ↓if_n, ↓if_1, ↓o_n, ↓iP_i, ↓o_s, ↓i_val, ↓i_r1, ↓i_r2, ↓i_r3, ↓i_enum, ↓i_zip, ↓i_rev, ↓add_i, ↓add_s, ↓add_t, ↓sub_i, ↓mul_i, ↓fdiv_i, ↓mod_i, ↓pow_i, ↓neg_i, ↓eq_i, ↓eq_s, ↓eq_b, ↓ne_i, ↓ne_s, ↓ne_b, ↓lt_i, ↓le_i, ↓gt_i, ↓ge_i, ↓is_N, ↓no_N, ↓tr_b, ↓tr_i, ↓tr_n, ↓tr_t, ↓tr_l, ↓ix_t, ↓ix_l, ↓ix_rl, ↓at_0, ↓at_1, ↓at_2, ↓at_3, ↓s_n, ↓s_c, ↓s_asg, ↓s_asgL, ↓s_par, ↓s_set, ↓s_ex, ↓s_ite, ↓s_for, ↓s_wh, ↓s_ret, ↓s_retN, ↓s_pass, ↓s_brk, ↓s_rz, ↓s_cont, ↓g_nm, ↓g_tp, ↓g_n, ↓g_c, ↓par_n, ↓par_c, ↓nw_f, ↓nw_t, ↓len_l, ↓len_t, ↓abs_i, ↓int_i, ↓int_b, ↓repr_h, ↓max_i, ↓min_i, ↓st_0, ↓st_s, ↓supd_supd, ↓ix_ref, ↓set_ref, ↓fd_turn, ↓fd_left, ↓fd_at, ↓fd_cells, ↓fs_turn, ↓fs_left, ↓fs_at, ↓ne_nil, ↓len_is, map_at, ↓ix_q0, ↓ix_q1, ↓g_q, ↓len_q, ↓tr_q, ↓low_eq, ↓q1_eq, ↓q2_eq, ↓sz_0, ↓sz_1, ↓sz_2, ↓sz_3, ↓sz_4, ↓sz_5, ↓sz_6, ↓sz_7, ↓sz_8, ↓itp_t, ↓itp_l, ↓itl_l, ↓pl_2, ↓pl_3, iteE_q, joinS_q, ↓eq_q, ↓ne_q, ↓ixC_l, ↓frz_ref, ↓tup_l, ↓tup_t, ↓lst_l, ↓lst_t, ↓sl_t, ↓slr_t, ↓mul_l, ↓add_l, ↓ifs_0, gsl_nm, gsl_tp, gsl_n, gsl_c, wipe_n, wipe_c, List.replicate, Option.map_some, decide_eq_true_eq, ↓reduceIte, Bool.false_eq_true, Bool.not_eq_eq_eq_not, Bool.not_true, Bool.not_false, true_and, forall_const, Bool.and_eq_true, Bool.or_eq_true, decide_eq_false_iff_not, not_true_eq_false, not_false_eq_true, decide_true, decide_false]
        rw [if_pos ⟨by omega, Rat.num_eq_zero.mpr c⟩]
        exact hk
      · rw [trim_app c, ← take_succ_pn (by omega)] at ht
        refine ⟨1, ?_⟩
        unfold wWh
        simp only [sqx_ix hx, e1, hat, ↓gv_z, ↓gv_s, ↓sv_z, ↓sv_s, ↓wv_z, wv_z, ↓wv_s, wv_s, iteE_int, iteE_bl, iteE_str, iteE_lst, iteE_same, iteE_c1, iteE_c2, iteE_1, iteE_0, iteT_1, iteT_0, andT_1, andT_0, orT_1, orT_0, andE_1, andE_0, orE_1, orE_0, iteS_1, iteS_0, andE_bl, andE_c, orE_bl, orE_c, iteT_v, iteT_c1, iteT_c2, andT_v, andT_c, orT_v, orT_c, iteS_v, iteS_c1, iteS_c2, iteS_r1, iteS_r2, joinS_n, joinS_same, joinS_int, joinS_bl, ixS_s, ↓e_v, ↓e_N, ↓e_B, ↓e_I, ↓e_S, ↓e_gl, ↓e_add, ↓e_sub, ↓e_mul, ↓e_fdiv, ↓e_mod, ↓e_pow, ↓e_neg, ↓e_cmp, ↓bP_b, ↓t_cmp, ↓e_cmp2, ↓t_cmp2, ↓e_and1, ↓e_and2, ↓t_and1, ↓t_and2, ↓e_or1, ↓e_or2, ↓t_or1, ↓t_or2, ↓e_not, ↓t_not, ↓e_ite, ↓t_ite, ↓e_tup, ↓e_lst, ↓e_dct, ↓e_ix, ↓e_sl, ↓e_slr, ↓e_call, ↓e_bi, ↓e_mt, ↓e_lc, ↓e_frz, ↓t_frz, ↓t_v, ↓t_B, ↓t_N, ↓t_I, ↓t_ix, ↓t_bin, ↓t_call, ↓t_bi, ↓t_sl, ↓t_lc, ↓a_n, ↓a_c, ↓if_n, ↓if_1, ↓o_n, ↓iP_i, ↓o_s, ↓i_val, ↓i_r1, ↓i_r2, ↓i_r3, ↓i_enum, ↓i_zip, ↓i_rev, ↓add_i, ↓add_s, ↓add_t, ↓sub_i, ↓mul_i, ↓fdiv_i, ↓mod_i, ↓pow_i, ↓neg_i, ↓eq_i, ↓eq_s, ↓eq_b, ↓ne_i, ↓ne_s, ↓ne_b, ↓lt_i, ↓le_i, ↓gt_i, ↓ge_i, ↓is_N, ↓no_N, ↓tr_b, ↓tr_i, ↓tr_n, ↓tr_t, ↓tr_l, ↓ix_t, ↓ix_l, ↓ix_rl, ↓at_0, ↓at_1, ↓at_2, ↓at_3, ↓s_n, ↓s_c, ↓s_asg, ↓s_asgL, ↓s_par, ↓s_set, ↓s_ex, ↓s_ite, ↓s_for, ↓s_wh, ↓s_ret, ↓s_retN, ↓s_pass, ↓s_brk, ↓s_rz, ↓s_cont, ↓g_nm, ↓g_tp, ↓g_n, ↓g_c, ↓par_n, ↓par_c, ↓nw_f, ↓nw_t, ↓len_l, ↓len_t, ↓abs_i, ↓int_i, ↓int_b, ↓repr_h, ↓max_i, ↓min_i, ↓st_0, ↓st_s, ↓supd_supd, ↓ix_ref, ↓set_ref, ↓fd_turn, ↓fd_left, ↓fd_at, ↓fd_cells, ↓fs_turn, ↓fs_left, ↓fs_at, ↓ne_nil, ↓len_is, map_at, ↓ix_q0, ↓ix_q1, ↓g_q, ↓len_q, ↓tr_q, ↓low_eq, ↓q1_eq, ↓q2_eq, ↓sz_0, ↓sz_1, ↓sz_2, ↓sz_3, ↓sz_4, ↓sz_5, ↓sz_6, ↓sz_7, ↓sz_8, ↓itp_t, ↓itp_l, ↓itl_l, ↓pl_2, ↓pl_3, iteE_q, joinS_q, ↓eq_q, ↓ne_q, ↓ixC_l, ↓frz_ref, ↓tup_l, ↓tup_t, ↓lst_l, ↓lst_t, ↓sl_t, ↓slr_t, ↓mul_l, ↓add_l, ↓ifs_0, gsl_nm, gsl_tp, gsl_n, gsl_c, wipe_n, wipe_c, List.replicate, Option.map_some, decide_eq_true_eq, ↓reduceIte, Bool.false_eq_true, Bool.not_eq_eq_eq_not, Bool.not_true, Bool.not_false, true_and, forall_const, Bool.and_eq_true, Bool.or_eq_true, decide_eq_false_iff_not, not_true_eq_false, not_false_eq_true, decide_true, decide_false]
        rw [if_neg (fun z => c (Rat.num_eq_zero.mp z.2))]
        refine sqx_slt hx ?_
        rw [cut_to, ← List.map_take, ht]
        exact h
  exact go xs.length (Nat.le_refl _) (by rw [List.take_length])
theorem same0 : D.tup [.int 0, .int 1] = frq 0 := rfl
theorem same1 : D.tup [.int 1, .int 1] = frq 1 := rfl
theorem sqx_ItP {S : Sto} {x : D} {ds : List D} (h : sqx S x = some ds) {R : List D → (Sto → Prop) → Sto → Prop} (r : ∀ src : Sto → Prop, src S → R ds src S) : ItP x S R := by
  cases x with
  | tup es => cases h; exact r _ trivial
  | lst es => exact lsx_ItP (x := .lst es) h fun src s _ => r src s
  | rls es => exact lsx_ItP (x := .rls es) h fun src s _ => r src s
  | ref p => exact lsx_ItP (x := .ref p) h fun src s _ => r src s
  | _ => cases h
abbrev sp__law_value : Spec := fun ds S Q _ => ∃ (x : D) (p : List Rat) (t : Rat), ds = [x, frq t] ∧ sqx S x = some (p.map frq) ∧ (RL 500 p ∧ RB 45 t ∧ p.length ≤ 10 ∧ ∀ k, k ≤ p.length → RB 1900 (ev (p.take k) t)) ∧ Q (frq (ev p t)) S
theorem use_law_value {S : Sto} {x : D} {p : List Rat} {t : Rat} {Q : EQ} {U : Ex → Sto → Prop} (hx : sqx S x = some (p.map frq)) (h : RL 500 p ∧ RB 45 t ∧ p.length ≤ 10 ∧ ∀ k, k ≤ p.length → RB 1900 (ev (p.take k) t)) (q : Q (frq (ev p t)) S) : @callS sp__law_value [x, frq t] S U ⟨Q⟩ := ⟨x, p, t, rfl, hx, h, q⟩
def b__law_value : Sms := .cons (.asg (.tp (.cons (.nm 3) (.cons (.nm 4) (.nil)))) (.tup (.cons (.tup (.cons (.cI 0) (.cons (.cI 1) (.nil)))) (.cons (.tup (.cons (.cI 1) (.cons (.cI 1) (.nil)))) (.nil))))) (.cons (.for_ (.nm 2) (.val (.v 0)) (.cons (.asg (.nm 3) (.call "_law_plus" sp__law_plus (.cons (.v 3) (.cons (.call "_law_times" sp__law_times (.cons (.v 2) (.cons (.v 4) (.nil)))) (.nil))))) (.cons (.asg (.nm 4) (.call "_law_times" sp__law_times (.cons (.v 4) (.cons (.v 1) (.nil))))) (.nil)))) (.cons (.ret (.v 3)) (.nil)))
theorem t_law_value : Keeps 5 b__law_value sp__law_value 2 := by
  rintro ds S Q U ⟨x, p, t, rfl, hx, ⟨hp, ht, hl, hB⟩, h⟩
  refine ⟨rfl, ?_⟩
  simp only [b__law_value, same0, same1, ↓gv_z, ↓gv_s, ↓sv_z, ↓sv_s, ↓wv_z, wv_z, ↓wv_s, wv_s, iteE_int, iteE_bl, iteE_str, iteE_lst, iteE_same, iteE_c1, iteE_c2, iteE_1, iteE_0, iteT_1, iteT_0, andT_1, andT_0, orT_1, orT_0, andE_1, andE_0, orE_1, orE_0, iteS_1, iteS_0, andE_bl, andE_c, orE_bl, orE_c, iteT_v, iteT_c1, iteT_c2, andT_v, andT_c, orT_v, orT_c, iteS_v, iteS_c1, iteS_c2, iteS_r1, iteS_r2, joinS_n, joinS_same, joinS_int, joinS_bl, ixS_s, ↓e_v, ↓e_N, ↓e_B, ↓e_I, ↓e_S, ↓e_gl, ↓e_add, ↓e_sub, ↓e_mul, ↓e_fdiv, ↓e_mod, ↓e_pow, ↓e_neg, ↓e_cmp, ↓bP_b, ↓t_cmp, ↓e_cmp2, ↓t_cmp2, ↓e_and1, ↓e_and2, ↓t_and1, ↓t_and2, ↓e_or1, ↓e_or2, ↓t_or1, ↓t_or2, ↓e_not, ↓t_not, ↓e_ite, ↓t_ite, ↓e_tup, ↓e_lst, ↓e_dct, ↓e_ix, ↓e_sl, ↓e_slr, ↓e_call, ↓e_bi, ↓e_mt, ↓e_lc, ↓e_frz, ↓t_frz, ↓t_v, ↓t_B, ↓t_N, ↓t_I, ↓t_ix, ↓t_bin, ↓t_call, ↓t_bi, ↓t_sl, ↓t_lc, ↓a_n, ↓a_c, ↓if_n, ↓if_1, ↓o_n, ↓iP_i, ↓o_s, ↓i_val, ↓i_r1, ↓i_r2, ↓i_r3, ↓i_enum, ↓i_zip, ↓i_rev, ↓add_i, ↓add_s, ↓add_t, ↓sub_i, ↓mul_i, ↓fdiv_i, ↓mod_i, ↓pow_i, ↓neg_i, ↓eq_i, ↓eq_s, ↓eq_b, ↓ne_i, ↓ne_s, ↓ne_b, ↓lt_i, ↓le_i, ↓gt_i, ↓ge_i, ↓is_N, ↓no_N, ↓tr_b, ↓tr_i, ↓tr_n, ↓tr_t, ↓tr_l, ↓ix_t, ↓ix_l, ↓ix_rl, ↓at_0, ↓at_1, ↓at_2, ↓at_3, ↓s_n, ↓s_c, ↓s_asg, ↓s_asgL, ↓s_par, ↓s_set, ↓s_ex, ↓s_ite, ↓s_for, ↓s_wh, ↓s_ret, ↓s_retN, ↓s_pass, ↓s_brk, ↓s_rz, ↓s_cont, ↓g_nm, ↓g_tp, ↓g_n, ↓g_c, ↓par_n, ↓par_c, ↓nw_f, ↓nw_t, ↓len_l, ↓len_t, ↓abs_i, ↓int_i, ↓int_b, ↓repr_h, ↓max_i, ↓min_i, ↓st_0, ↓st_s, ↓supd_supd, ↓ix_ref, ↓set_ref, ↓fd_turn, ↓fd_left, ↓fd_at, ↓fd_cells, ↓fs_turn, ↓fs_left, ↓fs_at, ↓ne_nil, ↓len_is, map_at, ↓ix_q0, ↓ix_q1, ↓g_q, ↓len_q, ↓tr_q, ↓low_eq, ↓q1_eq, ↓q2_eq, ↓sz_0, ↓sz_1, ↓sz_2, ↓sz_3, ↓sz_4, ↓sz_5, ↓sz_6, ↓sz_7, ↓sz_8, ↓itp_t, ↓itp_l, ↓itl_l, ↓pl_2, ↓pl_3, iteE_q, joinS_q, ↓eq_q, ↓ne_q, ↓ixC_l, ↓frz_ref, ↓tup_l, ↓tup_t, ↓lst_l, ↓lst_t, ↓sl_t, ↓slr_t, ↓mul_l, ↓add_l, ↓ifs_0, gsl_nm, gsl_tp, gsl_n, gsl_c, wipe_n, wipe_c, List.replicate, Option.map_some, decide_eq_true_eq, ↓reduceIte, Bool.false_eq_true, Bool.not_eq_eq_eq_not, Bool.not_true, Bool.not_false, true_and, forall_const, Bool.and_eq_true, Bool.or_eq_true, decide_eq_false_iff_not, not_true_eq_false, not_false_eq_true, decide_true, decide_false]
  refine sqx_ItP hx fun src hs => ?_
  refine for_inv (fun ds δ S' => S' = S ∧ ∃ (a b : List Rat) (o : Option D), p = a ++ b ∧ ds = b.map frq ∧ δ = [some x, some (frq t), o, some (frq (ev a t)), some (frq (t ^ a.length))] ∧ RB (1 + a.length * 45) (t ^ a.length)) ?_ ?_ ?_ _ _ _ ?_
  · rintro d ds δ S' nx hnx ⟨rfl, a, b, o, hp', e, rfl, hw⟩
    cases b with
    | nil => cases e
    | cons z b =>
      cases e
      have hal : a.length + 1 ≤ p.length := by
        rw [hp']
        simp
      have hz : RB 500 z := hp z (by rw [hp']; simp)
      have hv : RB 1900 (ev a t) := by
        have := hB a.length (by omega)
        rw [hp', List.take_left] at this
        exact this
      have hzw := hz.mul hw
      simp only [↓q2_lmul, ↓q2_ladd, ↓gv_z, ↓gv_s, ↓sv_z, ↓sv_s, ↓wv_z, wv_z, ↓wv_s, wv_s, iteE_int, iteE_bl, iteE_str, iteE_lst, iteE_same, iteE_c1, iteE_c2, iteE_1, iteE_0, iteT_1, iteT_0, andT_1, andT_0, orT_1, orT_0, andE_1, andE_0, orE_1, orE_0, iteS_1, iteS_0, andE_bl, andE_c, orE_bl, orE_c, iteT_v, iteT_c1, iteT_c2, andT_v, andT_c, orT_v, orT_c, iteS_v, iteS_c1, iteS_c2, iteS_r1, iteS_r2, joinS_n, joinS_same, joinS_int, joinS_bl, ixS_s, ↓e_v, ↓e_N, ↓e_B, ↓e_I, ↓e_S, ↓e_gl, ↓e_add, ↓e_sub, ↓e_mul, ↓e_fdiv, ↓e_mod, ↓e_pow, ↓e_neg, ↓e_cmp, ↓bP_b, ↓t_cmp, ↓e_cmp2, ↓t_cmp2, ↓e_and1, ↓e_and2, ↓t_and1, ↓t_and2, ↓e_or1, ↓e_or2, ↓t_or1, ↓t_or2, ↓e_not, ↓t_not, ↓e_ite, ↓t_ite, ↓e_tup, ↓e_lst, ↓e_dct, ↓e_ix, ↓e_sl, ↓e_slr, ↓e_call, ↓e_bi, ↓e_mt, ↓e_lc, ↓e_frz, ↓t_frz, ↓t_v, ↓t_B, ↓t_N, ↓t_I, ↓t_ix, ↓t_bin, ↓t_call, ↓t_bi, ↓t_sl, ↓t_lc, ↓a_n, ↓a_c, ↓if_n, ↓if_1, ↓o_n, ↓iP_i, ↓o_s, ↓i_val, ↓i_r1, ↓i_r2, ↓i_r3, ↓i_enum, ↓i_zip, ↓i_rev, ↓add_i, ↓add_s, ↓add_t, ↓sub_i, ↓mul_i, ↓fdiv_i, ↓mod_i, ↓pow_i, ↓neg_i, ↓eq_i, ↓eq_s, ↓eq_b, ↓ne_i, ↓ne_s, ↓ne_b, ↓lt_i, ↓le_i, ↓gt_i, ↓ge_i, ↓is_N, ↓no_N, ↓tr_b, ↓tr_i, ↓tr_n, ↓tr_t, ↓tr_l, ↓ix_t, ↓ix_l, ↓ix_rl, ↓at_0, ↓at_1, ↓at_2, ↓at_3, ↓s_n, ↓s_c, ↓s_asg, ↓s_asgL, ↓s_par, ↓s_set, ↓s_ex, ↓s_ite, ↓s_for, ↓s_wh, ↓s_ret, ↓s_retN, ↓s_pass, ↓s_brk, ↓s_rz, ↓s_cont, ↓g_nm, ↓g_tp, ↓g_n, ↓g_c, ↓par_n, ↓par_c, ↓nw_f, ↓nw_t, ↓len_l, ↓len_t, ↓abs_i, ↓int_i, ↓int_b, ↓repr_h, ↓max_i, ↓min_i, ↓st_0, ↓st_s, ↓supd_supd, ↓ix_ref, ↓set_ref, ↓fd_turn, ↓fd_left, ↓fd_at, ↓fd_cells, ↓fs_turn, ↓fs_left, ↓fs_at, ↓ne_nil, ↓len_is, map_at, ↓ix_q0, ↓ix_q1, ↓g_q, ↓len_q, ↓tr_q, ↓low_eq, ↓q1_eq, ↓q2_eq, ↓sz_0, ↓sz_1, ↓sz_2, ↓sz_3, ↓sz_4, ↓sz_5, ↓sz_6, ↓sz_7, ↓sz_8, ↓itp_t, ↓itp_l, ↓itl_l, ↓pl_2, ↓pl_3, iteE_q, joinS_q, ↓eq_q, ↓ne_q, ↓ixC_l, ↓frz_ref, ↓tup_l, ↓tup_t, ↓lst_l, ↓lst_t, ↓sl_t, ↓slr_t, ↓mul_l, ↓add_l, ↓ifs_0, gsl_nm, gsl_tp, gsl_n, gsl_c, wipe_n, wipe_c, List.replicate, Option.map_some, decide_eq_true_eq, ↓reduceIte, Bool.false_eq_true, Bool.not_eq_eq_eq_not, Bool.not_true, Bool.not_false, true_and, forall_const, Bool.and_eq_true, Bool.or_eq_true, decide_eq_false_iff_not, not_true_eq_false, not_false_eq_true, decide_true, decide_false]
      refine ⟨⟨hz.le (by omega), hw.le (by omega)⟩, ⟨hv.le (by omega), hzw.le (by omega)⟩, ⟨hw.le (by omega), ht.le (by omega)⟩, ?_⟩
      have e1 : ev a t + z * t ^ a.length = ev (a ++ [z]) t := ev_snoc.symm
      have e2 : t ^ a.length * t = t ^ (a ++ [z]).length := by
        rw [List.length_append]
        show _ = t ^ (a.length + 1)
        rw [Rat.pow_succ]
      have b2 : RB (1 + (a ++ [z]).length * 45) (t ^ (a ++ [z]).length) := by
        rw [← e2]
        refine (hw.mul ht).le ?_
        rw [List.length_append, Nat.add_mul]
        simp only [List.length_singleton, Nat.one_mul]
        omega
      rw [e1, e2]
      exact hnx _ _ hs ⟨rfl, a ++ [z], b, _, by rw [hp']; simp, rfl, rfl, b2⟩
  · rintro δ S' ⟨rfl, a, b, o, hp', e, rfl, hw⟩
    cases b with
    | cons _ _ => cases e
    | nil =>
      rw [List.append_nil] at hp'
      subst hp'
      simp only [↓gv_z, ↓gv_s, ↓sv_z, ↓sv_s, ↓wv_z, wv_z, ↓wv_s, wv_s, iteE_int, iteE_bl, iteE_str, iteE_lst, iteE_same, iteE_c1, iteE_c2, iteE_1, iteE_0, iteT_1, iteT_0, andT_1, andT_0, orT_1, orT_0, andE_1, andE_0, orE_1, orE_0, iteS_1, iteS_0, andE_bl, andE_c, orE_bl, orE_c, iteT_v, iteT_c1, iteT_c2, andT_v, andT_c, orT_v, orT_c, iteS_v, iteS_c1, iteS_c2, iteS_r1, iteS_r2, joinS_n, joinS_same, joinS_int, joinS_bl, ixS_s, ↓e_v, ↓e_N, ↓e_B, ↓e_I, ↓e_S, ↓e_gl, ↓e_add, ↓e_sub, ↓e_mul, ↓e_fdiv, ↓e_mod, ↓e_pow, ↓e_neg, ↓e_cmp, ↓bP_b, ↓t_cmp, ↓e_cmp2, ↓t_cmp2, ↓e_and1, ↓e_and2, ↓t_and1, ↓t_and2, ↓e_or1, ↓e_or2, ↓t_or1, ↓t_or2, ↓e_not, ↓t_not, ↓e_ite, ↓t_ite, ↓e_tup, ↓e_lst, ↓e_dct, ↓e_ix, ↓e_sl, ↓e_slr, ↓e_call, ↓e_bi, ↓e_mt, ↓e_lc, ↓e_frz, ↓t_frz, ↓t_v, ↓t_B, ↓t_N, ↓t_I, ↓t_ix, ↓t_bin, ↓t_call, ↓t_bi, ↓t_sl, ↓t_lc, ↓a_n, ↓a_c, ↓if_n, ↓if_1, ↓o_n, ↓iP_i, ↓o_s, ↓i_val, ↓i_r1, ↓i_r2, ↓i_r3, ↓i_enum, ↓i_zip, ↓i_rev, ↓add_i, ↓add_s, ↓add_t, ↓sub_i, ↓mul_i, ↓fdiv_i, ↓mod_i, ↓pow_i, ↓neg_i, ↓eq_i, ↓eq_s, ↓eq_b, ↓ne_i, ↓ne_s, ↓ne_b, ↓lt_i, ↓le_i, ↓gt_i, ↓ge_i, ↓is_N, ↓no_N, ↓tr_b, ↓tr_i, ↓tr_n, ↓tr_t, ↓tr_l, ↓ix_t, ↓ix_l, ↓ix_rl, ↓at_0, ↓at_1, ↓at_2, ↓at_3, ↓s_n, ↓s_c, ↓s_asg, ↓s_asgL, ↓s_par, ↓s_set, ↓s_ex, ↓s_ite, ↓s_for, ↓s_wh, ↓s_ret, ↓s_retN, ↓s_pass, ↓s_brk, ↓s_rz, ↓s_cont, ↓g_nm, ↓g_tp, ↓g_n, ↓g_c, ↓par_n, ↓par_c, ↓nw_f, ↓nw_t, ↓len_l, ↓len_t, ↓abs_i, ↓int_i, ↓int_b, ↓repr_h, ↓max_i, ↓min_i, ↓st_0, ↓st_s, ↓supd_supd, ↓ix_ref, ↓set_ref, ↓fd_turn, ↓fd_left, ↓fd_at, ↓fd_cells, ↓fs_turn, ↓fs_left, ↓fs_at, ↓ne_nil, ↓len_is, map_at, ↓ix_q0, ↓ix_q1, ↓g_q, ↓len_q, ↓tr_q, ↓low_eq, ↓q1_eq, ↓q2_eq, ↓sz_0, ↓sz_1, ↓sz_2, ↓sz_3, ↓sz_4, ↓sz_5, ↓sz_6, ↓sz_7, ↓sz_8, ↓itp_t, ↓itp_l, ↓itl_l, ↓pl_2, ↓pl_3, iteE_q, joinS_q, ↓eq_q, ↓ne_q, ↓ixC_l, ↓frz_ref, ↓tup_l, ↓tup_t, ↓lst_l, ↓lst_t, ↓sl_t, ↓slr_t, ↓mul_l, ↓add_l, ↓ifs_0, gsl_nm, gsl_tp, gsl_n, gsl_c, wipe_n, wipe_c, List.replicate, Option.map_some, decide_eq_true_eq, ↓reduceIte, Bool.false_eq_true, Bool.not_eq_eq_eq_not, Bool.not_true, Bool.not_false, true_and, forall_const, Bool.and_eq_true, Bool.or_eq_true, decide_eq_false_iff_not, not_true_eq_false, not_false_eq_true, decide_true, decide_false]
      exact h
  · rintro _ _ _ ⟨rfl, _⟩
    exact hs
  · refine ⟨rfl, [], p, none, rfl, rfl, ?_, ?_⟩
    · show _ = [some x, some (frq t), none, some (frq 0), some (frq (t ^ 0))]
      rw [Rat.pow_zero]
    · show RB _ (t ^ 0)
      rw [Rat.pow_zero]
      exact (RB.lit (b := 1) (by decide)).le (by omega)
abbrev sp__law_product : Spec := fun ds S Q _ => ∃ (a b : List Rat) (x y : Nat), ds = [plD a, plD b] ∧ (RL x a ∧ RL y b ∧ a.length + b.length ≤ 8 ∧ 1 + (a.length + 1) * (x + y + 1) ≤ 3900) ∧
  ∀ f : List Rat, f.length = 8 → (∀ k, pn f k = conv a b k) → RL (1 + a.length * (x + y + 1)) f → Q (.lst (f.map frq)) S
theorem use_law_product {S : Sto} {a b : List Rat} {Q : EQ} {U : Ex → Sto → Prop} (x y : Nat) (h : RL x a ∧ RL y b ∧ a.length + b.length ≤ 8 ∧ 1 + (a.length + 1) * (x + y + 1) ≤ 3900)
    (q : ∀ f : List Rat, f.length = 8 → (∀ k, pn f k = conv a b k) → RL (1 + a.length * (x + y + 1)) f → Q (.lst (f.map frq)) S) : @callS sp__law_product [plD a, plD b] S U ⟨Q⟩ := ⟨a, b, x, y, rfl, h, q⟩
def b__law_product : Sms := .cons (.asg (.nm 2) (.bin .mul true (.lst false (.cons (.tup (.cons (.cI 0) (.cons (.cI 1) (.nil)))) (.nil))) (.cI 8))) (.cons (.for_ (.nm 3) (.r1 (.bi .len false (.cons (.v 0) (.nil)))) (.cons (.for_ (.nm 4) (.r1 (.bi .len false (.cons (.v 1) (.nil)))) (.cons (.setI (.v 2) (.bin .add false (.v 3) (.v 4)) (.call "_law_plus" sp__law_plus (.cons (.ix (.v 2) (.bin .add false (.v 3) (.v 4))) (.cons (.call "_law_times" sp__law_times (.cons (.ix (.v 0) (.v 3)) (.cons (.ix (.v 1) (.v 4)) (.nil)))) (.nil))))) (.nil))) (.nil))) (.cons (.ret (.frz (.v 2))) (.nil)))
theorem t_law_product : Keeps 5 b__law_product sp__law_product 2 := by
  rintro ds S Q U ⟨a, b, x, y, rfl, ⟨ha, hb, hlab, hB⟩, h⟩
  have hla : a.length ≤ 100 := by omega
  have hlb : b.length ≤ 100 := by omega
  refine ⟨rfl, ?_⟩
  have e1 : Int.toNat 8 = 8 := rfl
  simp only [b__law_product, ↓len_p, e1, same0, ↓gv_z, ↓gv_s, ↓sv_z, ↓sv_s, ↓wv_z, wv_z, ↓wv_s, wv_s, iteE_int, iteE_bl, iteE_str, iteE_lst, iteE_same, iteE_c1, iteE_c2, iteE_1, iteE_0, iteT_1, iteT_0, andT_1, andT_0, orT_1, orT_0, andE_1, andE_0, orE_1, orE_0, iteS_1, iteS_0, andE_bl, andE_c, orE_bl, orE_c, iteT_v, iteT_c1, iteT_c2, andT_v, andT_c, orT_v, orT_c, iteS_v, iteS_c1, iteS_c2, iteS_r1, iteS_r2, joinS_n, joinS_same, joinS_int, joinS_bl, ixS_s, ↓e_v, ↓e_N, ↓e_B, ↓e_I, ↓e_S, ↓e_gl, ↓e_add, ↓e_sub, ↓e_mul, ↓e_fdiv, ↓e_mod, ↓e_pow, ↓e_neg, ↓e_cmp, ↓bP_b, ↓t_cmp, ↓e_cmp2, ↓t_cmp2, ↓e_and1, ↓e_and2, ↓t_and1, ↓t_and2, ↓e_or1, ↓e_or2, ↓t_or1, ↓t_or2, ↓e_not, ↓t_not, ↓e_ite, ↓t_ite, ↓e_tup, ↓e_lst, ↓e_dct, ↓e_ix, ↓e_sl, ↓e_slr, ↓e_call, ↓e_bi, ↓e_mt, ↓e_lc, ↓e_frz, ↓t_frz, ↓t_v, ↓t_B, ↓t_N, ↓t_I, ↓t_ix, ↓t_bin, ↓t_call, ↓t_bi, ↓t_sl, ↓t_lc, ↓a_n, ↓a_c, ↓if_n, ↓if_1, ↓o_n, ↓iP_i, ↓o_s, ↓i_val, ↓i_r1, ↓i_r2, ↓i_r3, ↓i_enum, ↓i_zip, ↓i_rev, ↓add_i, ↓add_s, ↓add_t, ↓sub_i, ↓mul_i, ↓fdiv_i, ↓mod_i, ↓pow_i, ↓neg_i, ↓eq_i, ↓eq_s, ↓eq_b, ↓ne_i, ↓ne_s, ↓ne_b, ↓lt_i, ↓le_i, ↓gt_i, ↓ge_i, ↓is_N, ↓no_N, ↓tr_b, ↓tr_i, ↓tr_n, ↓tr_t, ↓tr_l, ↓ix_t, ↓ix_l, ↓ix_rl, ↓at_0, ↓at_1, ↓at_2, ↓at_3, ↓s_n, ↓s_c, ↓s_asg, ↓s_asgL, ↓s_par, ↓s_set, ↓s_ex, ↓s_ite, ↓s_for, ↓s_wh, ↓s_ret, ↓s_retN, ↓s_pass, ↓s_brk, ↓s_rz, ↓s_cont, ↓g_nm, ↓g_tp, ↓g_n, ↓g_c, ↓par_n, ↓par_c, ↓nw_f, ↓nw_t, ↓len_l, ↓len_t, ↓abs_i, ↓int_i, ↓int_b, ↓repr_h, ↓max_i, ↓min_i, ↓st_0, ↓st_s, ↓supd_supd, ↓ix_ref, ↓set_ref, ↓fd_turn, ↓fd_left, ↓fd_at, ↓fd_cells, ↓fs_turn, ↓fs_left, ↓fs_at, ↓ne_nil, ↓len_is, map_at, ↓ix_q0, ↓ix_q1, ↓g_q, ↓len_q, ↓tr_q, ↓low_eq, ↓q1_eq, ↓q2_eq, ↓sz_0, ↓sz_1, ↓sz_2, ↓sz_3, ↓sz_4, ↓sz_5, ↓sz_6, ↓sz_7, ↓sz_8, ↓itp_t, ↓itp_l, ↓itl_l, ↓pl_2, ↓pl_3, iteE_q, joinS_q, ↓eq_q, ↓ne_q, ↓ixC_l, ↓frz_ref, ↓tup_l, ↓tup_t, ↓lst_l, ↓lst_t, ↓sl_t, ↓slr_t, ↓mul_l, ↓add_l, ↓ifs_0, gsl_nm, gsl_tp, gsl_n, gsl_c, wipe_n, wipe_c, List.replicate, Option.map_some, decide_eq_true_eq, ↓reduceIte, Bool.false_eq_true, Bool.not_eq_eq_eq_not, Bool.not_true, Bool.not_false, true_and, forall_const, Bool.and_eq_true, Bool.or_eq_true, decide_eq_false_iff_not, not_true_eq_false, not_false_eq_true, decide_true, decide_false]
  refine ⟨⟨by decide, by decide, (by decide : 1 * 8 ≤ sizeLine)⟩, fun q hq => ?_⟩
  have hfl : ([[frq 0], [frq 0], [frq 0], [frq 0], [frq 0], [frq 0], [frq 0], [frq 0]] : List (List D)).flatten = (List.replicate 8 (0 : Rat)).map frq := rfl
  rw [hfl]
  refine ⟨r62_ok (by omega), ?_⟩
  rw [Int.toNat_natCast]
  -- the outer loop: the first j rows are in
  refine for_inv (fun ds δ S' => ∃ (j : Nat) (f : List Rat) (o3 o4 : Option D), ds = rngD (j : Int) (a.length - j) ∧ j ≤ a.length ∧ δ = [some (plD a), some (plD b), some (.ref q), o3, o4] ∧ S' = supd S q (.lst (f.map frq)) ∧
    f.length = 8 ∧ (∀ k, pn f k = conv (a.take j) b k) ∧ RL (1 + j * (x + y + 1)) f) ?_ ?_ (fun _ _ _ _ => trivial) _ _ _ ?_
  · rintro d ds δ S' nx hnx ⟨j, f, o3, o4, e, hj, rfl, rfl, hf, hc, hr⟩
    have hj2 : j < a.length := by
      by_cases c : j < a.length
      · exact c
      · have : a.length - j = 0 := by omega
        rw [this] at e
        cases e
    obtain ⟨m, hm⟩ : ∃ m, a.length - j = m + 1 := ⟨a.length - j - 1, by omega⟩
    rw [hm, rng_s] at e
    cases e
    simp only [↓len_p, ↓gv_z, ↓gv_s, ↓sv_z, ↓sv_s, ↓wv_z, wv_z, ↓wv_s, wv_s, iteE_int, iteE_bl, iteE_str, iteE_lst, iteE_same, iteE_c1, iteE_c2, iteE_1, iteE_0, iteT_1, iteT_0, andT_1, andT_0, orT_1, orT_0, andE_1, andE_0, orE_1, orE_0, iteS_1, iteS_0, andE_bl, andE_c, orE_bl, orE_c, iteT_v, iteT_c1, iteT_c2, andT_v, andT_c, orT_v, orT_c, iteS_v, iteS_c1, iteS_c2, iteS_r1, iteS_r2, joinS_n, joinS_same, joinS_int, joinS_bl, ixS_s, ↓e_v, ↓e_N, ↓e_B, ↓e_I, ↓e_S, ↓e_gl, ↓e_add, ↓e_sub, ↓e_mul, ↓e_fdiv, ↓e_mod, ↓e_pow, ↓e_neg, ↓e_cmp, ↓bP_b, ↓t_cmp, ↓e_cmp2, ↓t_cmp2, ↓e_and1, ↓e_and2, ↓t_and1, ↓t_and2, ↓e_or1, ↓e_or2, ↓t_or1, ↓t_or2, ↓e_not, ↓t_not, ↓e_ite, ↓t_ite, ↓e_tup, ↓e_lst, ↓e_dct, ↓e_ix, ↓e_sl, ↓e_slr, ↓e_call, ↓e_bi, ↓e_mt, ↓e_lc, ↓e_frz, ↓t_frz, ↓t_v, ↓t_B, ↓t_N, ↓t_I, ↓t_ix, ↓t_bin, ↓t_call, ↓t_bi, ↓t_sl, ↓t_lc, ↓a_n, ↓a_c, ↓if_n, ↓if_1, ↓o_n, ↓iP_i, ↓o_s, ↓i_val, ↓i_r1, ↓i_r2, ↓i_r3, ↓i_enum, ↓i_zip, ↓i_rev, ↓add_i, ↓add_s, ↓add_t, ↓sub_i, ↓mul_i, ↓fdiv_i, ↓mod_i, ↓pow_i, ↓neg_i, ↓eq_i, ↓eq_s, ↓eq_b, ↓ne_i, ↓ne_s, ↓ne_b, ↓lt_i, ↓le_i, ↓gt_i, ↓ge_i, ↓is_N, ↓no_N, ↓tr_b, ↓tr_i, ↓tr_n, ↓tr_t, ↓tr_l, ↓ix_t, ↓ix_l, ↓ix_rl, ↓at_0, ↓at_1, ↓at_2, ↓at_3, ↓s_n, ↓s_c, ↓s_asg, ↓s_asgL, ↓s_par, ↓s_set, ↓s_ex, ↓s_ite, ↓s_for, ↓s_wh, ↓s_ret, ↓s_retN, ↓s_pass, ↓s_brk, ↓s_rz, ↓s_cont, ↓g_nm, ↓g_tp, ↓g_n, ↓g_c, ↓par_n, ↓par_c, ↓nw_f, ↓nw_t, ↓len_l, ↓len_t, ↓abs_i, ↓int_i, ↓int_b, ↓repr_h, ↓max_i, ↓min_i, ↓st_0, ↓st_s, ↓supd_supd, ↓ix_ref, ↓set_ref, ↓fd_turn, ↓fd_left, ↓fd_at, ↓fd_cells, ↓fs_turn, ↓fs_left, ↓fs_at, ↓ne_nil, ↓len_is, map_at, ↓ix_q0, ↓ix_q1, ↓g_q, ↓len_q, ↓tr_q, ↓low_eq, ↓q1_eq, ↓q2_eq, ↓sz_0, ↓sz_1, ↓sz_2, ↓sz_3, ↓sz_4, ↓sz_5, ↓sz_6, ↓sz_7, ↓sz_8, ↓itp_t, ↓itp_l, ↓itl_l, ↓pl_2, ↓pl_3, iteE_q, joinS_q, ↓eq_q, ↓ne_q, ↓ixC_l, ↓frz_ref, ↓tup_l, ↓tup_t, ↓lst_l, ↓lst_t, ↓sl_t, ↓slr_t, ↓mul_l, ↓add_l, ↓ifs_0, gsl_nm, gsl_tp, gsl_n, gsl_c, wipe_n, wipe_c, List.replicate, Option.map_some, decide_eq_true_eq, ↓reduceIte, Bool.false_eq_true, Bool.not_eq_eq_eq_not, Bool.not_true, Bool.not_false, true_and, forall_const, Bool.and_eq_true, Bool.or_eq_true, decide_eq_false_iff_not, not_true_eq_false, not_false_eq_true, decide_true, decide_false]
    refine ⟨r62_ok (by omega), ?_⟩
    rw [Int.toNat_natCast]
    -- the inner loop: of this row the first i numbers are in
    refine for_inv (fun ds δ S' => ∃ (i : Nat) (g : List Rat) (o4 : Option D), ds = rngD (i : Int) (b.length - i) ∧ i ≤ b.length ∧ δ = [some (plD a), some (plD b), some (.ref q), some (.int (j : Int)), o4] ∧ S' = supd S q (.lst (g.map frq)) ∧
      g.length = 8 ∧ (∀ k, pn g k = pn f k + (if j ≤ k ∧ k < j + i then pn a j * pn b (k - j) else 0)) ∧ RL (1 + (j + 1) * (x + y + 1)) g) ?_ ?_ (fun _ _ _ _ => trivial) _ _ _ ?_
    · rintro d ds δ S' nx2 hnx2 ⟨i, g, o4, e, hi, rfl, rfl, hg, hcg, hrg⟩
      have hi2 : i < b.length := by
        by_cases c : i < b.length
        · exact c
        · have : b.length - i = 0 := by omega
          rw [this] at e
          cases e
      obtain ⟨n, hn⟩ : ∃ n, b.length - i = n + 1 := ⟨b.length - i - 1, by omega⟩
      rw [hn, rng_s] at e
      cases e
      have e2 : ((j : Int) + (i : Int)) = ((j + i : Nat) : Int) := by omega
      have hget : atI g ((j + i : Nat) : Int) = some (pn g (j + i)) := at_pn (by omega)
      have hcell : (supd S q (.lst (g.map frq))) q = some (.lst (g.map frq)) := supd_same
      have hle : 1 + (j + 1) * (x + y + 1) ≤ 3900 := Nat.le_trans (Nat.add_le_add_left (Nat.mul_le_mul_right _ (by omega)) 1) hB
      have hxy : x + y + 1 ≤ 3900 := by
        have : 1 * (x + y + 1) ≤ (j + 1) * (x + y + 1) := Nat.mul_le_mul_right _ (by omega)
        omega
      have hx' : RB x (pn a j) := by
        refine ha _ ?_
        unfold pn
        rw [List.getD_eq_getElem?_getD, List.getElem?_eq_getElem hj2]
        exact List.getElem_mem _
      have hy' : RB y (pn b i) := by
        refine hb _ ?_
        unfold pn
        rw [List.getD_eq_getElem?_getD, List.getElem?_eq_getElem hi2]
        exact List.getElem_mem _
      have hold : pn g (j + i) = pn f (j + i) := by
        rw [hcg, if_neg (by omega), Rat.add_zero]
      have hbf : RB (1 + j * (x + y + 1)) (pn g (j + i)) := by
        rw [hold]
        exact hr.pn (by omega) _
      simp only [e2, ↓ix_p, hget, at_pn hj2, at_pn hi2, ↓q2_lmul, ↓q2_ladd, ↓gv_z, ↓gv_s, ↓sv_z, ↓sv_s, ↓wv_z, wv_z, ↓wv_s, wv_s, iteE_int, iteE_bl, iteE_str, iteE_lst, iteE_same, iteE_c1, iteE_c2, iteE_1, iteE_0, iteT_1, iteT_0, andT_1, andT_0, orT_1, orT_0, andE_1, andE_0, orE_1, orE_0, iteS_1, iteS_0, andE_bl, andE_c, orE_bl, orE_c, iteT_v, iteT_c1, iteT_c2, andT_v, andT_c, orT_v, orT_c, iteS_v, iteS_c1, iteS_c2, iteS_r1, iteS_r2, joinS_n, joinS_same, joinS_int, joinS_bl, ixS_s, ↓e_v, ↓e_N, ↓e_B, ↓e_I, ↓e_S, ↓e_gl, ↓e_add, ↓e_sub, ↓e_mul, ↓e_fdiv, ↓e_mod, ↓e_pow, ↓e_neg, ↓e_cmp, ↓bP_b, ↓t_cmp, ↓e_cmp2, ↓t_cmp2, ↓e_and1, ↓e_and2, ↓t_and1, ↓t_and2, ↓e_or1, ↓e_or2, ↓t_or1, ↓t_or2, ↓e_not, ↓t_not, ↓e_ite, ↓t_ite, ↓e_tup, ↓e_lst, ↓e_dct, ↓e_ix, ↓e_sl, ↓e_slr, ↓e_call, ↓e_bi, ↓e_mt, ↓e_lc, ↓e_frz, ↓t_frz, ↓t_v, ↓t_B, ↓t_N, ↓t_I, ↓t_ix, ↓t_bin, ↓t_call, ↓t_bi, ↓t_sl, ↓t_lc, ↓a_n, ↓a_c, ↓if_n, ↓if_1, ↓o_n, ↓iP_i, ↓o_s, ↓i_val, ↓i_r1, ↓i_r2, ↓i_r3, ↓i_enum, ↓i_zip, ↓i_rev, ↓add_i, ↓add_s, ↓add_t, ↓sub_i, ↓mul_i, ↓fdiv_i, ↓mod_i, ↓pow_i, ↓neg_i, ↓eq_i, ↓eq_s, ↓eq_b, ↓ne_i, ↓ne_s, ↓ne_b, ↓lt_i, ↓le_i, ↓gt_i, ↓ge_i, ↓is_N, ↓no_N, ↓tr_b, ↓tr_i, ↓tr_n, ↓tr_t, ↓tr_l, ↓ix_t, ↓ix_l, ↓ix_rl, ↓at_0, ↓at_1, ↓at_2, ↓at_3, ↓s_n, ↓s_c, ↓s_asg, ↓s_asgL, ↓s_par, ↓s_set, ↓s_ex, ↓s_ite, ↓s_for, ↓s_wh, ↓s_ret, ↓s_retN, ↓s_pass, ↓s_brk, ↓s_rz, ↓s_cont, ↓g_nm, ↓g_tp, ↓g_n, ↓g_c, ↓par_n, ↓par_c, ↓nw_f, ↓nw_t, ↓len_l, ↓len_t, ↓abs_i, ↓int_i, ↓int_b, ↓repr_h, ↓max_i, ↓min_i, ↓st_0, ↓st_s, ↓supd_supd, ↓ix_ref, ↓set_ref, ↓fd_turn, ↓fd_left, ↓fd_at, ↓fd_cells, ↓fs_turn, ↓fs_left, ↓fs_at, ↓ne_nil, ↓len_is, map_at, ↓ix_q0, ↓ix_q1, ↓g_q, ↓len_q, ↓tr_q, ↓low_eq, ↓q1_eq, ↓q2_eq, ↓sz_0, ↓sz_1, ↓sz_2, ↓sz_3, ↓sz_4, ↓sz_5, ↓sz_6, ↓sz_7, ↓sz_8, ↓itp_t, ↓itp_l, ↓itl_l, ↓pl_2, ↓pl_3, iteE_q, joinS_q, ↓eq_q, ↓ne_q, ↓ixC_l, ↓frz_ref, ↓tup_l, ↓tup_t, ↓lst_l, ↓lst_t, ↓sl_t, ↓slr_t, ↓mul_l, ↓add_l, ↓ifs_0, gsl_nm, gsl_tp, gsl_n, gsl_c, wipe_n, wipe_c, List.replicate, Option.map_some, decide_eq_true_eq, ↓reduceIte, Bool.false_eq_true, Bool.not_eq_eq_eq_not, Bool.not_true, Bool.not_false, true_and, forall_const, Bool.and_eq_true, Bool.or_eq_true, decide_eq_false_iff_not, not_true_eq_false, not_false_eq_true, decide_true, decide_false]
      refine ⟨⟨hx'.le (by omega), hy'.le (by omega)⟩, ⟨hbf.le (Nat.le_trans (Nat.add_le_add_left (Nat.mul_le_mul_right _ (by omega)) 1) hle), (hx'.mul hy').le (by omega)⟩, ?_⟩
      rw [← set_ref (S := S)]
      refine set_at (j := j + i) hcell rfl (by rw [List.length_map]; omega) ?_
      rw [supd_supd]
      have hset : (g.map frq).set (j + i) (frq (pn g (j + i) + pn a j * pn b i)) = (addAt g (j + i) (pn a j * pn b i)).map frq := by
        unfold addAt
        rw [List.map_set]
      rw [hset]
      refine hnx2 _ _ trivial ⟨i + 1, _, _, ?_, by omega, rfl, rfl, by rw [addAt_len]; exact hg, ?_, ?_⟩
      · have : b.length - (i + 1) = n := by omega
        rw [this]
        rfl
      · intro k
        rw [addAt_pn (by omega), hcg]
        by_cases c : k = j + i
        · subst c
          rw [if_neg (by omega), if_pos rfl, if_pos (by omega), Rat.add_zero]
          congr 3
          omega
        · rw [if_neg c, Rat.add_zero]
          by_cases c2 : j ≤ k ∧ k < j + i
          · rw [if_pos c2, if_pos (by omega)]
          · rw [if_neg c2, if_neg (by omega)]
      · refine addAt_RL hrg ?_
        have := hbf.add (hx'.mul hy')
        refine this.le ?_
        rw [Nat.add_mul]
        omega
    · rintro δ S' ⟨i, g, o4, e, hi, rfl, rfl, hg, hcg, hrg⟩
      have hi2 : i = b.length := by
        have := congrArg List.length e
        rw [rng_len] at this
        simp at this
        omega
      subst hi2
      simp only [↓gv_z, ↓gv_s, ↓sv_z, ↓sv_s, ↓wv_z, wv_z, ↓wv_s, wv_s, iteE_int, iteE_bl, iteE_str, iteE_lst, iteE_same, iteE_c1, iteE_c2, iteE_1, iteE_0, iteT_1, iteT_0, andT_1, andT_0, orT_1, orT_0, andE_1, andE_0, orE_1, orE_0, iteS_1, iteS_0, andE_bl, andE_c, orE_bl, orE_c, iteT_v, iteT_c1, iteT_c2, andT_v, andT_c, orT_v, orT_c, iteS_v, iteS_c1, iteS_c2, iteS_r1, iteS_r2, joinS_n, joinS_same, joinS_int, joinS_bl, ixS_s, ↓e_v, ↓e_N, ↓e_B, ↓e_I, ↓e_S, ↓e_gl, ↓e_add, ↓e_sub, ↓e_mul, ↓e_fdiv, ↓e_mod, ↓e_pow, ↓e_neg, ↓e_cmp, ↓bP_b, ↓t_cmp, ↓e_cmp2, ↓t_cmp2, ↓e_and1, ↓e_and2, ↓t_and1, ↓t_and2, ↓e_or1, ↓e_or2, ↓t_or1, ↓t_or2, ↓e_not, ↓t_not, ↓e_ite, ↓t_ite, ↓e_tup, ↓e_lst, ↓e_dct, ↓e_ix, ↓e_sl, ↓e_slr, ↓e_call, ↓e_bi, ↓e_mt, ↓e_lc, ↓e_frz, ↓t_frz, ↓t_v, ↓t_B, ↓t_N, ↓t_I, ↓t_ix, ↓t_bin, ↓t_call, ↓t_bi, ↓t_sl, ↓t_lc, ↓a_n, ↓a_c, ↓if_n, ↓if_1, ↓o_n, ↓iP_i, ↓o_s, ↓i_val, ↓i_r1, ↓i_r2, ↓i_r3, ↓i_enum, ↓i_zip, ↓i_rev, ↓add_i, ↓add_s, ↓add_t, ↓sub_i, ↓mul_i, ↓fdiv_i, ↓mod_i, ↓pow_i, ↓neg_i, ↓eq_i, ↓eq_s, ↓eq_b, ↓ne_i, ↓ne_s, ↓ne_b, ↓lt_i, ↓le_i, ↓gt_i, ↓ge_i, ↓is_N, ↓no_N, ↓tr_b, ↓tr_i, ↓tr_n, ↓tr_t, ↓tr_l, ↓ix_t, ↓ix_l, ↓ix_rl, ↓at_0, ↓at_1, ↓at_2, ↓at_3, ↓s_n, ↓s_c, ↓s_asg, ↓s_asgL, ↓s_par, ↓s_set, ↓s_ex, ↓s_ite, ↓s_for, ↓s_wh, ↓s_ret, ↓s_retN, ↓s_pass, ↓s_brk, ↓s_rz, ↓s_cont, ↓g_nm, ↓g_tp, ↓g_n, ↓g_c, ↓par_n, ↓par_c, ↓nw_f, ↓nw_t, ↓len_l, ↓len_t, ↓abs_i, ↓int_i, ↓int_b, ↓repr_h, ↓max_i, ↓min_i, ↓st_0, ↓st_s, ↓supd_supd, ↓ix_ref, ↓set_ref, ↓fd_turn, ↓fd_left, ↓fd_at, ↓fd_cells, ↓fs_turn, ↓fs_left, ↓fs_at, ↓ne_nil, ↓len_is, map_at, ↓ix_q0, ↓ix_q1, ↓g_q, ↓len_q, ↓tr_q, ↓low_eq, ↓q1_eq, ↓q2_eq, ↓sz_0, ↓sz_1, ↓sz_2, ↓sz_3, ↓sz_4, ↓sz_5, ↓sz_6, ↓sz_7, ↓sz_8, ↓itp_t, ↓itp_l, ↓itl_l, ↓pl_2, ↓pl_3, iteE_q, joinS_q, ↓eq_q, ↓ne_q, ↓ixC_l, ↓frz_ref, ↓tup_l, ↓tup_t, ↓lst_l, ↓lst_t, ↓sl_t, ↓slr_t, ↓mul_l, ↓add_l, ↓ifs_0, gsl_nm, gsl_tp, gsl_n, gsl_c, wipe_n, wipe_c, List.replicate, Option.map_some, decide_eq_true_eq, ↓reduceIte, Bool.false_eq_true, Bool.not_eq_eq_eq_not, Bool.not_true, Bool.not_false, true_and, forall_const, Bool.and_eq_true, Bool.or_eq_true, decide_eq_false_iff_not, not_true_eq_false, not_false_eq_true, decide_true, decide_false]
      refine hnx _ _ trivial ⟨j + 1, g, _, _, ?_, by omega, rfl, rfl, hg, ?_, hrg⟩
      · have : a.length - (j + 1) = m := by omega
        rw [this]
        rfl
      · intro k
        rw [hcg, hc, take_succ_pn hj2, conv_snoc]
        have hlen : (a.take j).length = j := by
          rw [List.length_take]
          omega
        rw [hlen]
        congr 1
        by_cases c : j ≤ k
        · rw [if_pos c]
          by_cases c2 : k < j + b.length
          · rw [if_pos ⟨c, c2⟩]
          · rw [if_neg (by omega), pn_len (p := b) (by omega), Rat.mul_zero]
        · rw [if_neg c, if_neg (by omega)]
    · refine ⟨0, f, _, rfl, Nat.zero_le _, rfl, rfl, hf, ?_, hr.le (Nat.add_le_add_left (Nat.mul_le_mul_right _ (by omega)) 1)⟩
      intro k
      rw [if_neg (by omega), Rat.add_zero]
  · rintro δ S' ⟨j, f, o3, o4, e, hj, rfl, rfl, hf, hc, hr⟩
    have hj2 : j = a.length := by
      have := congrArg List.length e
      rw [rng_len] at this
      simp at this
      omega
    subst hj2
    simp only [↓gv_z, ↓gv_s, ↓sv_z, ↓sv_s, ↓wv_z, wv_z, ↓wv_s, wv_s, iteE_int, iteE_bl, iteE_str, iteE_lst, iteE_same, iteE_c1, iteE_c2, iteE_1, iteE_0, iteT_1, iteT_0, andT_1, andT_0, orT_1, orT_0, andE_1, andE_0, orE_1, orE_0, iteS_1, iteS_0, andE_bl, andE_c, orE_bl, orE_c, iteT_v, iteT_c1, iteT_c2, andT_v, andT_c, orT_v, orT_c, iteS_v, iteS_c1, iteS_c2, iteS_r1, iteS_r2, joinS_n, joinS_same, joinS_int, joinS_bl, ixS_s, ↓e_v, ↓e_N, ↓e_B, ↓e_I, ↓e_S, ↓e_gl, ↓e_add, ↓e_sub, ↓e_mul, ↓e_fdiv, ↓e_mod, ↓e_pow, ↓e_neg, ↓e_cmp, ↓bP_b, ↓t_cmp, ↓e_cmp2, ↓t_cmp2, ↓e_and1, ↓e_and2, ↓t_and1, ↓t_and2, ↓e_or1, ↓e_or2, ↓t_or1, ↓t_or2, ↓e_not, ↓t_not, ↓e_ite, ↓t_ite, ↓e_tup, ↓e_lst, ↓e_dct, ↓e_ix, ↓e_sl, ↓e_slr, ↓e_call, ↓e_bi, ↓e_mt, ↓e_lc, ↓e_frz, ↓t_frz, ↓t_v, ↓t_B, ↓t_N, ↓t_I, ↓t_ix, ↓t_bin, ↓t_call, ↓t_bi, ↓t_sl, ↓t_lc, ↓a_n, ↓a_c, ↓if_n, ↓if_1, ↓o_n, ↓iP_i, ↓o_s, ↓i_val, ↓i_r1, ↓i_r2, ↓i_r3, ↓i_enum, ↓i_zip, ↓i_rev, ↓add_i, ↓add_s, ↓add_t, ↓sub_i, ↓mul_i, ↓fdiv_i, ↓mod_i, ↓pow_i, ↓neg_i, ↓eq_i, ↓eq_s, ↓eq_b, ↓ne_i, ↓ne_s, ↓ne_b, ↓lt_i, ↓le_i, ↓gt_i, ↓ge_i, ↓is_N, ↓no_N, ↓tr_b, ↓tr_i, ↓tr_n, ↓tr_t, ↓tr_l, ↓ix_t, ↓ix_l, ↓ix_rl, ↓at_0, ↓at_1, ↓at_2, ↓at_3, ↓s_n, ↓s_c, ↓s_asg, ↓s_asgL, ↓s_par, ↓s_set, ↓s_ex, ↓s_ite, ↓s_for, ↓s_wh, ↓s_ret, ↓s_retN, ↓s_pass, ↓s_brk, ↓s_rz, ↓s_cont, ↓g_nm, ↓g_tp, ↓g_n, ↓g_c, ↓par_n, ↓par_c, ↓nw_f, ↓nw_t, ↓len_l, ↓len_t, ↓abs_i, ↓int_i, ↓int_b, ↓repr_h, ↓max_i, ↓min_i, ↓st_0, ↓st_s, ↓supd_supd, ↓ix_ref, ↓set_ref, ↓fd_turn, ↓fd_left, ↓fd_at, ↓fd_cells, ↓fs_turn, ↓fs_left, ↓fs_at, ↓ne_nil, ↓len_is, map_at, ↓ix_q0, ↓ix_q1, ↓g_q, ↓len_q, ↓tr_q, ↓low_eq, ↓q1_eq, ↓q2_eq, ↓sz_0, ↓sz_1, ↓sz_2, ↓sz_3, ↓sz_4, ↓sz_5, ↓sz_6, ↓sz_7, ↓sz_8, ↓itp_t, ↓itp_l, ↓itl_l, ↓pl_2, ↓pl_3, iteE_q, joinS_q, ↓eq_q, ↓ne_q, ↓ixC_l, ↓frz_ref, ↓tup_l, ↓tup_t, ↓lst_l, ↓lst_t, ↓sl_t, ↓slr_t, ↓mul_l, ↓add_l, ↓ifs_0, gsl_nm, gsl_tp, gsl_n, gsl_c, wipe_n, wipe_c, List.replicate, Option.map_some, decide_eq_true_eq, ↓reduceIte, Bool.false_eq_true, Bool.not_eq_eq_eq_not, Bool.not_true, Bool.not_false, true_and, forall_const, Bool.and_eq_true, Bool.or_eq_true, decide_eq_false_iff_not, not_true_eq_false, not_false_eq_true, decide_true, decide_false]
    rw [sdel_supd hq]
    rw [List.take_length] at hc
    exact h f hf hc hr
  · refine ⟨0, _, _, _, rfl, Nat.zero_le _, rfl, rfl, by simp, ?_, ?_⟩
    · intro k
      rw [List.take_zero, conv_nil]
      unfold pn
      rw [List.getD_eq_getElem?_getD, List.getElem?_replicate]
      split <;> rfl
    · intro z m
      rw [List.eq_of_mem_replicate m]
      exact RB.zero (by omega)

structure UnB (ns : List Rat) (l h : Rat) : Prop where
  ex : ∃ Dn, (∀ k, Ig Dn (pn ns k)) ∧ Dn ≠ 0 ∧ Dn ≤ 2 ^ 360 ∧ ∀ k, Ab ((2 ^ 93 : Nat) : Rat) (pn ns k)
  rn : RL 400 ns
  rl : RB 45 l
  rh : RB 45 h
  ln : ns.length ≤ 8
abbrev sp_under_numbers : Spec := fun ds S Q _ => ∃ (x : D) (ns : List Rat) (l h : Rat), ds = [x, frq l, frq h] ∧ sqx S x = some (ns.map frq) ∧ UnB ns l h ∧ Q (frq (unS (pn ns) l h ns.length)) S
theorem use_under_numbers {S : Sto} {x : D} {ns : List Rat} {l h : Rat} {Q : EQ} {U : Ex → Sto → Prop} (hx : sqx S x = some (ns.map frq)) (b : UnB ns l h) (q : Q (frq (unS (pn ns) l h ns.length)) S) : @callS sp_under_numbers [x, frq l, frq h] S U ⟨Q⟩ := ⟨x, ns, l, h, rfl, hx, b, q⟩
def b_under_numbers : Sms := .cons (.asg (.nm 3) (.gl "NOUGHT" c_NOUGHT)) (.cons (.asg (.nm 4) (.v 1)) (.cons (.asg (.nm 5) (.v 2)) (.cons (.for_ (.nm 6) (.r1 (.bi .len false (.cons (.v 0) (.nil)))) (.cons (.asg (.nm 7) (.call "times_by" sp_times_by (.cons (.call "minus_by" sp_minus_by (.cons (.v 5) (.cons (.v 4) (.nil)))) (.cons (.call "fraction_of" sp_fraction_of (.cons (.cI 1) (.cons (.bin .add false (.v 6) (.cI 1)) (.nil)))) (.nil))))) (.cons (.asg (.nm 3) (.call "plus_by" sp_plus_by (.cons (.v 3) (.cons (.call "times_by" sp_times_by (.cons (.ix (.v 0) (.v 6)) (.cons (.v 7) (.nil)))) (.nil))))) (.cons (.asg (.nm 4) (.call "times_by" sp_times_by (.cons (.v 4) (.cons (.v 1) (.nil))))) (.cons (.asg (.nm 5) (.call "times_by" sp_times_by (.cons (.v 5) (.cons (.v 2) (.nil))))) (.nil)))))) (.cons (.ret (.v 3)) (.nil)))))
theorem t_under_numbers : Keeps 8 b_under_numbers sp_under_numbers 3 := by
  rintro ds S Q U ⟨x, ns, l, h, rfl, hx, B, hq⟩
  refine ⟨rfl, ?_⟩
  obtain ⟨Dn, i1, i2, i3, i4⟩ := B.ex
  have ln := B.ln
  simp only [b_under_numbers, sqx_len hx, List.length_map, ↓gv_z, ↓gv_s, ↓sv_z, ↓sv_s, ↓wv_z, wv_z, ↓wv_s, wv_s, iteE_int, iteE_bl, iteE_str, iteE_lst, iteE_same, iteE_c1, iteE_c2, iteE_1, iteE_0, iteT_1, iteT_0, andT_1, andT_0, orT_1, orT_0, andE_1, andE_0, orE_1, orE_0, iteS_1, iteS_0, andE_bl, andE_c, orE_bl, orE_c, iteT_v, iteT_c1, iteT_c2, andT_v, andT_c, orT_v, orT_c, iteS_v, iteS_c1, iteS_c2, iteS_r1, iteS_r2, joinS_n, joinS_same, joinS_int, joinS_bl, ixS_s, ↓e_v, ↓e_N, ↓e_B, ↓e_I, ↓e_S, ↓e_gl, ↓e_add, ↓e_sub, ↓e_mul, ↓e_fdiv, ↓e_mod, ↓e_pow, ↓e_neg, ↓e_cmp, ↓bP_b, ↓t_cmp, ↓e_cmp2, ↓t_cmp2, ↓e_and1, ↓e_and2, ↓t_and1, ↓t_and2, ↓e_or1, ↓e_or2, ↓t_or1, ↓t_or2, ↓e_not, ↓t_not, ↓e_ite, ↓t_ite, ↓e_tup, ↓e_lst, ↓e_dct, ↓e_ix, ↓e_sl, ↓e_slr, ↓e_call, ↓e_bi, ↓e_mt, ↓e_lc, ↓e_frz, ↓t_frz, ↓t_v, ↓t_B, ↓t_N, ↓t_I, ↓t_ix, ↓t_bin, ↓t_call, ↓t_bi, ↓t_sl, ↓t_lc, ↓a_n, ↓a_c, ↓if_n, ↓if_1, ↓o_n, ↓iP_i, ↓o_s, ↓i_val, ↓i_r1, ↓i_r2, ↓i_r3, ↓i_enum, ↓i_zip, ↓i_rev, ↓add_i, ↓add_s, ↓add_t, ↓sub_i, ↓mul_i, ↓fdiv_i, ↓mod_i, ↓pow_i, ↓neg_i, ↓eq_i, ↓eq_s, ↓eq_b, ↓ne_i, ↓ne_s, ↓ne_b, ↓lt_i, ↓le_i, ↓gt_i, ↓ge_i, ↓is_N, ↓no_N, ↓tr_b, ↓tr_i, ↓tr_n, ↓tr_t, ↓tr_l, ↓ix_t, ↓ix_l, ↓ix_rl, ↓at_0, ↓at_1, ↓at_2, ↓at_3, ↓s_n, ↓s_c, ↓s_asg, ↓s_asgL, ↓s_par, ↓s_set, ↓s_ex, ↓s_ite, ↓s_for, ↓s_wh, ↓s_ret, ↓s_retN, ↓s_pass, ↓s_brk, ↓s_rz, ↓s_cont, ↓g_nm, ↓g_tp, ↓g_n, ↓g_c, ↓par_n, ↓par_c, ↓nw_f, ↓nw_t, ↓len_l, ↓len_t, ↓abs_i, ↓int_i, ↓int_b, ↓repr_h, ↓max_i, ↓min_i, ↓st_0, ↓st_s, ↓supd_supd, ↓ix_ref, ↓set_ref, ↓fd_turn, ↓fd_left, ↓fd_at, ↓fd_cells, ↓fs_turn, ↓fs_left, ↓fs_at, ↓ne_nil, ↓len_is, map_at, ↓ix_q0, ↓ix_q1, ↓g_q, ↓len_q, ↓tr_q, ↓low_eq, ↓q1_eq, ↓q2_eq, ↓sz_0, ↓sz_1, ↓sz_2, ↓sz_3, ↓sz_4, ↓sz_5, ↓sz_6, ↓sz_7, ↓sz_8, ↓itp_t, ↓itp_l, ↓itl_l, ↓pl_2, ↓pl_3, iteE_q, joinS_q, ↓eq_q, ↓ne_q, ↓ixC_l, ↓frz_ref, ↓tup_l, ↓tup_t, ↓lst_l, ↓lst_t, ↓sl_t, ↓slr_t, ↓mul_l, ↓add_l, ↓ifs_0, gsl_nm, gsl_tp, gsl_n, gsl_c, wipe_n, wipe_c, List.replicate, Option.map_some, decide_eq_true_eq, ↓reduceIte, Bool.false_eq_true, Bool.not_eq_eq_eq_not, Bool.not_true, Bool.not_false, true_and, forall_const, Bool.and_eq_true, Bool.or_eq_true, decide_eq_false_iff_not, not_true_eq_false, not_false_eq_true, decide_true, decide_false]
  refine ⟨r62_ok (by omega), ?_⟩
  rw [Int.toNat_natCast]
  refine for_inv (fun ds δ S' => S' = S ∧ ∃ (k : Nat) (o6 o7 : Option D), ds = rngD (k : Int) (ns.length - k) ∧ k ≤ ns.length ∧ δ = [some x, some (frq l), some (frq h), some (frq (unS (pn ns) l h k)), some (frq (l ^ (k + 1))), some (frq (h ^ (k + 1))), o6, o7] ∧ RB (45 * (k + 1)) (l ^ (k + 1)) ∧ RB (45 * (k + 1)) (h ^ (k + 1))) ?_ ?_ (fun _ _ _ _ => trivial) _ _ _ ?_
  · rintro d ds δ S' nx hnx ⟨rfl, k, o6, o7, e, hk, rfl, rl, rh⟩
    have hk2 : k < ns.length := by
      by_cases c : k < ns.length
      · exact c
      · have : ns.length - k = 0 := by omega
        rw [this] at e
        cases e
    obtain ⟨m, hm⟩ : ∃ m, ns.length - k = m + 1 := ⟨ns.length - k - 1, by omega⟩
    rw [hm, rng_s] at e
    cases e
    have hat : atI ns (k : Int) = some (pn ns k) := at_pn hk2
    have e1 : Rat.divInt 1 ((k : Int) + 1) = 1 / ((k : Rat) + 1) := by
      rw [Rat.divInt_eq_div, Rat.intCast_add, Rat.intCast_natCast]
      rfl
    have hkn : (k : Int) + 1 ≠ 0 := by omega
    have bk : Bt 10 ((k : Int) + 1) := by
      show ((k : Int) + 1).natAbs < 1024
      omega
    have r1 : RB 10 (1 / ((k : Rat) + 1)) := by
      rw [← e1]
      exact .divInt (Bt.lit (by decide)) bk hkn
    have hs := unS_RB i1 i2 i3 i4 B.rl B.rh (n := k) (by omega)
    have rd := rh.sub rl
    have rp := rd.mul r1
    have rnk := B.rn.pn (by decide) k
    simp only [↓low_eq, ↓q2_sub, ↓q2_mul, ↓q2_add, e1, sqx_ix hx, hat, ↓gv_z, ↓gv_s, ↓sv_z, ↓sv_s, ↓wv_z, wv_z, ↓wv_s, wv_s, iteE_int, iteE_bl, iteE_str, iteE_lst, iteE_same, iteE_c1, iteE_c2, iteE_1, iteE_0, iteT_1, iteT_0, andT_1, andT_0, orT_1, orT_0, andE_1, andE_0, orE_1, orE_0, iteS_1, iteS_0, andE_bl, andE_c, orE_bl, orE_c, iteT_v, iteT_c1, iteT_c2, andT_v, andT_c, orT_v, orT_c, iteS_v, iteS_c1, iteS_c2, iteS_r1, iteS_r2, joinS_n, joinS_same, joinS_int, joinS_bl, ixS_s, ↓e_v, ↓e_N, ↓e_B, ↓e_I, ↓e_S, ↓e_gl, ↓e_add, ↓e_sub, ↓e_mul, ↓e_fdiv, ↓e_mod, ↓e_pow, ↓e_neg, ↓e_cmp, ↓bP_b, ↓t_cmp, ↓e_cmp2, ↓t_cmp2, ↓e_and1, ↓e_and2, ↓t_and1, ↓t_and2, ↓e_or1, ↓e_or2, ↓t_or1, ↓t_or2, ↓e_not, ↓t_not, ↓e_ite, ↓t_ite, ↓e_tup, ↓e_lst, ↓e_dct, ↓e_ix, ↓e_sl, ↓e_slr, ↓e_call, ↓e_bi, ↓e_mt, ↓e_lc, ↓e_frz, ↓t_frz, ↓t_v, ↓t_B, ↓t_N, ↓t_I, ↓t_ix, ↓t_bin, ↓t_call, ↓t_bi, ↓t_sl, ↓t_lc, ↓a_n, ↓a_c, ↓if_n, ↓if_1, ↓o_n, ↓iP_i, ↓o_s, ↓i_val, ↓i_r1, ↓i_r2, ↓i_r3, ↓i_enum, ↓i_zip, ↓i_rev, ↓add_i, ↓add_s, ↓add_t, ↓sub_i, ↓mul_i, ↓fdiv_i, ↓mod_i, ↓pow_i, ↓neg_i, ↓eq_i, ↓eq_s, ↓eq_b, ↓ne_i, ↓ne_s, ↓ne_b, ↓lt_i, ↓le_i, ↓gt_i, ↓ge_i, ↓is_N, ↓no_N, ↓tr_b, ↓tr_i, ↓tr_n, ↓tr_t, ↓tr_l, ↓ix_t, ↓ix_l, ↓ix_rl, ↓at_0, ↓at_1, ↓at_2, ↓at_3, ↓s_n, ↓s_c, ↓s_asg, ↓s_asgL, ↓s_par, ↓s_set, ↓s_ex, ↓s_ite, ↓s_for, ↓s_wh, ↓s_ret, ↓s_retN, ↓s_pass, ↓s_brk, ↓s_rz, ↓s_cont, ↓g_nm, ↓g_tp, ↓g_n, ↓g_c, ↓par_n, ↓par_c, ↓nw_f, ↓nw_t, ↓len_l, ↓len_t, ↓abs_i, ↓int_i, ↓int_b, ↓repr_h, ↓max_i, ↓min_i, ↓st_0, ↓st_s, ↓supd_supd, ↓ix_ref, ↓set_ref, ↓fd_turn, ↓fd_left, ↓fd_at, ↓fd_cells, ↓fs_turn, ↓fs_left, ↓fs_at, ↓ne_nil, ↓len_is, map_at, ↓ix_q0, ↓ix_q1, ↓g_q, ↓len_q, ↓tr_q, ↓low_eq, ↓q1_eq, ↓q2_eq, ↓sz_0, ↓sz_1, ↓sz_2, ↓sz_3, ↓sz_4, ↓sz_5, ↓sz_6, ↓sz_7, ↓sz_8, ↓itp_t, ↓itp_l, ↓itl_l, ↓pl_2, ↓pl_3, iteE_q, joinS_q, ↓eq_q, ↓ne_q, ↓ixC_l, ↓frz_ref, ↓tup_l, ↓tup_t, ↓lst_l, ↓lst_t, ↓sl_t, ↓slr_t, ↓mul_l, ↓add_l, ↓ifs_0, gsl_nm, gsl_tp, gsl_n, gsl_c, wipe_n, wipe_c, List.replicate, Option.map_some, decide_eq_true_eq, ↓reduceIte, Bool.false_eq_true, Bool.not_eq_eq_eq_not, Bool.not_true, Bool.not_false, true_and, forall_const, Bool.and_eq_true, Bool.or_eq_true, decide_eq_false_iff_not, not_true_eq_false, not_false_eq_true, decide_true, decide_false]
    refine ⟨⟨rh.le (by omega), rl.le (by omega)⟩, ⟨hkn, Bt.lit (by decide), bk.le (by decide)⟩, ⟨rd.le (by omega), r1.le (by decide)⟩, ⟨rnk.le (by decide), rp.le (by omega)⟩, ⟨hs.le (by decide), (rnk.mul rp).le (by omega)⟩, ⟨rl.le (by omega), B.rl.le (by decide)⟩, ⟨rh.le (by omega), B.rh.le (by decide)⟩, ?_⟩
    refine hnx _ _ trivial ⟨rfl, k + 1, some (.int (k : Int)), some (frq ((h ^ (k + 1) - l ^ (k + 1)) * (1 / ((k : Rat) + 1)))), ?_, by omega, ?_, ?_, ?_⟩
    · have : ns.length - (k + 1) = m := by omega
      rw [this]
      rfl
    · rw [Rat.pow_succ l (k + 1), Rat.pow_succ h (k + 1)]
      rfl
    · rw [Rat.pow_succ]
      exact (rl.mul B.rl).le (by omega)
    · rw [Rat.pow_succ]
      exact (rh.mul B.rh).le (by omega)
  · rintro δ S' ⟨rfl, k, o6, o7, e, hk, rfl, rl, rh⟩
    have hk2 : k = ns.length := by
      have := congrArg List.length e
      rw [rng_len] at this
      simp at this
      omega
    subst hk2
    simp only [↓gv_z, ↓gv_s, ↓sv_z, ↓sv_s, ↓wv_z, wv_z, ↓wv_s, wv_s, iteE_int, iteE_bl, iteE_str, iteE_lst, iteE_same, iteE_c1, iteE_c2, iteE_1, iteE_0, iteT_1, iteT_0, andT_1, andT_0, orT_1, orT_0, andE_1, andE_0, orE_1, orE_0, iteS_1, iteS_0, andE_bl, andE_c, orE_bl, orE_c, iteT_v, iteT_c1, iteT_c2, andT_v, andT_c, orT_v, orT_c, iteS_v, iteS_c1, iteS_c2, iteS_r1, iteS_r2, joinS_n, joinS_same, joinS_int, joinS_bl, ixS_s, ↓e_v, ↓e_N, ↓e_B, ↓e_I, ↓e_S, ↓e_gl, ↓e_add, ↓e_sub, ↓e_mul, ↓e_fdiv, ↓e_mod, ↓e_pow, ↓e_neg, ↓e_cmp, ↓bP_b, ↓t_cmp, ↓e_cmp2, ↓t_cmp2, ↓e_and1, ↓e_and2, ↓t_and1, ↓t_and2, ↓e_or1, ↓e_or2, ↓t_or1, ↓t_or2, ↓e_not, ↓t_not, ↓e_ite, ↓t_ite, ↓e_tup, ↓e_lst, ↓e_dct, ↓e_ix, ↓e_sl, ↓e_slr, ↓e_call, ↓e_bi, ↓e_mt, ↓e_lc, ↓e_frz, ↓t_frz, ↓t_v, ↓t_B, ↓t_N, ↓t_I, ↓t_ix, ↓t_bin, ↓t_call, ↓t_bi, ↓t_sl, ↓t_lc, ↓a_n, ↓a_c, ↓if_n, ↓if_1, ↓o_n, ↓iP_i, ↓o_s, ↓i_val, ↓i_r1, ↓i_r2, ↓i_r3, ↓i_enum, ↓i_zip, ↓i_rev, ↓add_i, ↓add_s, ↓add_t, ↓sub_i, ↓mul_i, ↓fdiv_i, ↓mod_i, ↓pow_i, ↓neg_i, ↓eq_i, ↓eq_s, ↓eq_b, ↓ne_i, ↓ne_s, ↓ne_b, ↓lt_i, ↓le_i, ↓gt_i, ↓ge_i, ↓is_N, ↓no_N, ↓tr_b, ↓tr_i, ↓tr_n, ↓tr_t, ↓tr_l, ↓ix_t, ↓ix_l, ↓ix_rl, ↓at_0, ↓at_1, ↓at_2, ↓at_3, ↓s_n, ↓s_c, ↓s_asg, ↓s_asgL, ↓s_par, ↓s_set, ↓s_ex, ↓s_ite, ↓s_for, ↓s_wh, ↓s_ret, ↓s_retN, ↓s_pass, ↓s_brk, ↓s_rz, ↓s_cont, ↓g_nm, ↓g_tp, ↓g_n, ↓g_c, ↓par_n, ↓par_c, ↓nw_f, ↓nw_t, ↓len_l, ↓len_t, ↓abs_i, ↓int_i, ↓int_b, ↓repr_h, ↓max_i, ↓min_i, ↓st_0, ↓st_s, ↓supd_supd, ↓ix_ref, ↓set_ref, ↓fd_turn, ↓fd_left, ↓fd_at, ↓fd_cells, ↓fs_turn, ↓fs_left, ↓fs_at, ↓ne_nil, ↓len_is, map_at, ↓ix_q0, ↓ix_q1, ↓g_q, ↓len_q, ↓tr_q, ↓low_eq, ↓q1_eq, ↓q2_eq, ↓sz_0, ↓sz_1, ↓sz_2, ↓sz_3, ↓sz_4, ↓sz_5, ↓sz_6, ↓sz_7, ↓sz_8, ↓itp_t, ↓itp_l, ↓itl_l, ↓pl_2, ↓pl_3, iteE_q, joinS_q, ↓eq_q, ↓ne_q, ↓ixC_l, ↓frz_ref, ↓tup_l, ↓tup_t, ↓lst_l, ↓lst_t, ↓sl_t, ↓slr_t, ↓mul_l, ↓add_l, ↓ifs_0, gsl_nm, gsl_tp, gsl_n, gsl_c, wipe_n, wipe_c, List.replicate, Option.map_some, decide_eq_true_eq, ↓reduceIte, Bool.false_eq_true, Bool.not_eq_eq_eq_not, Bool.not_true, Bool.not_false, true_and, forall_const, Bool.and_eq_true, Bool.or_eq_true, decide_eq_false_iff_not, not_true_eq_false, not_false_eq_true, decide_true, decide_false]
    exact hq
  · refine ⟨rfl, 0, none, none, rfl, Nat.zero_le _, ?_, ?_, ?_⟩
    · rw [Rat.pow_succ l 0, Rat.pow_zero, Rat.one_mul, Rat.pow_succ h 0, Rat.pow_zero, Rat.one_mul]
      rfl
    · rw [Rat.pow_succ, Rat.pow_zero, Rat.one_mul]
      exact B.rl
    · rw [Rat.pow_succ, Rat.pow_zero, Rat.one_mul]
      exact B.rh

theorem UnB_poly {p : List Rat} {l h : Rat} (hp : RL 45 p) (hl : RB 45 l) (hh : RB 45 h) (n : p.length ≤ 4) : UnB p l h := by
  refine ⟨⟨pdn p, Ig_pn p, pdn_ne p, ?_, fun k => (Ab_pn hp k).le (by decide +kernel)⟩, hp.le (by decide), hl, hh, by omega⟩
  refine Nat.le_trans (pdn_le hp) (Nat.le_trans (Nat.pow_le_pow_right (by decide) n) (by decide +kernel))
theorem UnB_conv {a b f : List Rat} {l h : Rat} (ha : RL 45 a) (hb : RL 45 b) (hl : RB 45 l) (hh : RB 45 h) (na : a.length ≤ 4) (nb : b.length ≤ 4) (hf : ∀ k, pn f k = conv a b k) (hr : RL 400 f) (fl : f.length ≤ 8) : UnB f l h := by
  refine ⟨⟨pdn a * pdn b, fun k => by rw [hf]; exact Ig_conv a k, Nat.mul_ne_zero (pdn_ne a) (pdn_ne b), ?_, fun k => ?_⟩, hr, hl, hh, fl⟩
  · have h1 := Nat.le_trans (pdn_le ha) (Nat.pow_le_pow_right (by decide) na)
    have h2 := Nat.le_trans (pdn_le hb) (Nat.pow_le_pow_right (by decide) nb)
    exact Nat.le_trans (Nat.mul_le_mul h1 h2) (by decide +kernel)
  · rw [hf]
    refine (Ab_conv hb ha k).le ?_
    rw [← Rat.natCast_mul, ← Rat.natCast_mul]
    refine Rat.natCast_le_natCast.mpr (Nat.le_trans (Nat.mul_le_mul_right _ na) (by decide +kernel))
abbrev sp_under_poly : Spec := fun ds S Q _ => ∃ (p : List Rat) (l h : Rat), ds = [plD p, frq l, frq h] ∧ (RL 45 p ∧ RB 45 l ∧ RB 45 h ∧ p.length ≤ 4) ∧ Q (frq (unS (pn p) l h p.length)) S
theorem use_under_poly {S : Sto} {p : List Rat} {l h : Rat} {Q : EQ} {U : Ex → Sto → Prop} (b : RL 45 p ∧ RB 45 l ∧ RB 45 h ∧ p.length ≤ 4) (q : Q (frq (unS (pn p) l h p.length)) S) : @callS sp_under_poly [plD p, frq l, frq h] S U ⟨Q⟩ := ⟨p, l, h, rfl, b, q⟩
def b_under_poly : Sms := .cons (.ret (.call "under_numbers" sp_under_numbers (.cons (.v 0) (.cons (.v 1) (.cons (.v 2) (.nil)))))) (.nil)
theorem t_under_poly : Keeps 3 b_under_poly sp_under_poly 3 := by
  rintro ds S Q U ⟨p, l, h, rfl, ⟨hp, hl, hh, n⟩, hq⟩
  refine ⟨rfl, ?_⟩
  simp only [b_under_poly, ↓gv_z, ↓gv_s, ↓sv_z, ↓sv_s, ↓wv_z, wv_z, ↓wv_s, wv_s, iteE_int, iteE_bl, iteE_str, iteE_lst, iteE_same, iteE_c1, iteE_c2, iteE_1, iteE_0, iteT_1, iteT_0, andT_1, andT_0, orT_1, orT_0, andE_1, andE_0, orE_1, orE_0, iteS_1, iteS_0, andE_bl, andE_c, orE_bl, orE_c, iteT_v, iteT_c1, iteT_c2, andT_v, andT_c, orT_v, orT_c, iteS_v, iteS_c1, iteS_c2, iteS_r1, iteS_r2, joinS_n, joinS_same, joinS_int, joinS_bl, ixS_s, ↓e_v, ↓e_N, ↓e_B, ↓e_I, ↓e_S, ↓e_gl, ↓e_add, ↓e_sub, ↓e_mul, ↓e_fdiv, ↓e_mod, ↓e_pow, ↓e_neg, ↓e_cmp, ↓bP_b, ↓t_cmp, ↓e_cmp2, ↓t_cmp2, ↓e_and1, ↓e_and2, ↓t_and1, ↓t_and2, ↓e_or1, ↓e_or2, ↓t_or1, ↓t_or2, ↓e_not, ↓t_not, ↓e_ite, ↓t_ite, ↓e_tup, ↓e_lst, ↓e_dct, ↓e_ix, ↓e_sl, ↓e_slr, ↓e_call, ↓e_bi, ↓e_mt, ↓e_lc, ↓e_frz, ↓t_frz, ↓t_v, ↓t_B, ↓t_N, ↓t_I, ↓t_ix, ↓t_bin, ↓t_call, ↓t_bi, ↓t_sl, ↓t_lc, ↓a_n, ↓a_c, ↓if_n, ↓if_1, ↓o_n, ↓iP_i, ↓o_s, ↓i_val, ↓i_r1, ↓i_r2, ↓i_r3, ↓i_enum, ↓i_zip, ↓i_rev, ↓add_i, ↓add_s, ↓add_t, ↓sub_i, ↓mul_i, ↓fdiv_i, ↓mod_i, ↓pow_i, ↓neg_i, ↓eq_i, ↓eq_s, ↓eq_b, ↓ne_i, ↓ne_s, ↓ne_b, ↓lt_i, ↓le_i, ↓gt_i, ↓ge_i, ↓is_N, ↓no_N, ↓tr_b, ↓tr_i, ↓tr_n, ↓tr_t, ↓tr_l, ↓ix_t, ↓ix_l, ↓ix_rl, ↓at_0, ↓at_1, ↓at_2, ↓at_3, ↓s_n, ↓s_c, ↓s_asg, ↓s_asgL, ↓s_par, ↓s_set, ↓s_ex, ↓s_ite, ↓s_for, ↓s_wh, ↓s_ret, ↓s_retN, ↓s_pass, ↓s_brk, ↓s_rz, ↓s_cont, ↓g_nm, ↓g_tp, ↓g_n, ↓g_c, ↓par_n, ↓par_c, ↓nw_f, ↓nw_t, ↓len_l, ↓len_t, ↓abs_i, ↓int_i, ↓int_b, ↓repr_h, ↓max_i, ↓min_i, ↓st_0, ↓st_s, ↓supd_supd, ↓ix_ref, ↓set_ref, ↓fd_turn, ↓fd_left, ↓fd_at, ↓fd_cells, ↓fs_turn, ↓fs_left, ↓fs_at, ↓ne_nil, ↓len_is, map_at, ↓ix_q0, ↓ix_q1, ↓g_q, ↓len_q, ↓tr_q, ↓low_eq, ↓q1_eq, ↓q2_eq, ↓sz_0, ↓sz_1, ↓sz_2, ↓sz_3, ↓sz_4, ↓sz_5, ↓sz_6, ↓sz_7, ↓sz_8, ↓itp_t, ↓itp_l, ↓itl_l, ↓pl_2, ↓pl_3, iteE_q, joinS_q, ↓eq_q, ↓ne_q, ↓ixC_l, ↓frz_ref, ↓tup_l, ↓tup_t, ↓lst_l, ↓lst_t, ↓sl_t, ↓slr_t, ↓mul_l, ↓add_l, ↓ifs_0, gsl_nm, gsl_tp, gsl_n, gsl_c, wipe_n, wipe_c, List.replicate, Option.map_some, decide_eq_true_eq, ↓reduceIte, Bool.false_eq_true, Bool.not_eq_eq_eq_not, Bool.not_true, Bool.not_false, true_and, forall_const, Bool.and_eq_true, Bool.or_eq_true, decide_eq_false_iff_not, not_true_eq_false, not_false_eq_true, decide_true, decide_false]
  exact use_under_numbers (ns := p) rfl (UnB_poly hp hl hh n) hq
abbrev sp_under_product : Spec := fun ds S Q _ => ∃ (a b : List Rat) (l h : Rat), ds = [plD a, plD b, frq l, frq h] ∧ (RL 45 a ∧ RL 45 b ∧ RB 45 l ∧ RB 45 h ∧ a.length ≤ 4 ∧ b.length ≤ 4) ∧ Q (frq (unS (conv a b) l h (a.length + b.length))) S
theorem use_under_product {S : Sto} {a b : List Rat} {l h : Rat} {Q : EQ} {U : Ex → Sto → Prop} (hb : RL 45 a ∧ RL 45 b ∧ RB 45 l ∧ RB 45 h ∧ a.length ≤ 4 ∧ b.length ≤ 4) (q : Q (frq (unS (conv a b) l h (a.length + b.length))) S) : @callS sp_under_product [plD a, plD b, frq l, frq h] S U ⟨Q⟩ := ⟨a, b, l, h, rfl, hb, q⟩
def b_under_product : Sms := .cons (.ret (.call "under_numbers" sp_under_numbers (.cons (.call "product_numbers" sp_product_numbers (.cons (.v 0) (.cons (.v 1) (.nil)))) (.cons (.v 2) (.cons (.v 3) (.nil)))))) (.nil)
theorem t_under_product : Keeps 4 b_under_product sp_under_product 4 := by
  rintro ds S Q U ⟨a, b, l, h, rfl, ⟨ha, hb, hl, hh, na, nb⟩, hq⟩
  refine ⟨rfl, ?_⟩
  have m1 : (a.length + 1) * (45 + 45 + 1) ≤ 5 * (45 + 45 + 1) := Nat.mul_le_mul_right _ (by omega)
  have m2 : a.length * (45 + 45 + 1) ≤ 4 * (45 + 45 + 1) := Nat.mul_le_mul_right _ na
  simp only [b_under_product, ↓gv_z, ↓gv_s, ↓sv_z, ↓sv_s, ↓wv_z, wv_z, ↓wv_s, wv_s, iteE_int, iteE_bl, iteE_str, iteE_lst, iteE_same, iteE_c1, iteE_c2, iteE_1, iteE_0, iteT_1, iteT_0, andT_1, andT_0, orT_1, orT_0, andE_1, andE_0, orE_1, orE_0, iteS_1, iteS_0, andE_bl, andE_c, orE_bl, orE_c, iteT_v, iteT_c1, iteT_c2, andT_v, andT_c, orT_v, orT_c, iteS_v, iteS_c1, iteS_c2, iteS_r1, iteS_r2, joinS_n, joinS_same, joinS_int, joinS_bl, ixS_s, ↓e_v, ↓e_N, ↓e_B, ↓e_I, ↓e_S, ↓e_gl, ↓e_add, ↓e_sub, ↓e_mul, ↓e_fdiv, ↓e_mod, ↓e_pow, ↓e_neg, ↓e_cmp, ↓bP_b, ↓t_cmp, ↓e_cmp2, ↓t_cmp2, ↓e_and1, ↓e_and2, ↓t_and1, ↓t_and2, ↓e_or1, ↓e_or2, ↓t_or1, ↓t_or2, ↓e_not, ↓t_not, ↓e_ite, ↓t_ite, ↓e_tup, ↓e_lst, ↓e_dct, ↓e_ix, ↓e_sl, ↓e_slr, ↓e_call, ↓e_bi, ↓e_mt, ↓e_lc, ↓e_frz, ↓t_frz, ↓t_v, ↓t_B, ↓t_N, ↓t_I, ↓t_ix, ↓t_bin, ↓t_call, ↓t_bi, ↓t_sl, ↓t_lc, ↓a_n, ↓a_c, ↓if_n, ↓if_1, ↓o_n, ↓iP_i, ↓o_s, ↓i_val, ↓i_r1, ↓i_r2, ↓i_r3, ↓i_enum, ↓i_zip, ↓i_rev, ↓add_i, ↓add_s, ↓add_t, ↓sub_i, ↓mul_i, ↓fdiv_i, ↓mod_i, ↓pow_i, ↓neg_i, ↓eq_i, ↓eq_s, ↓eq_b, ↓ne_i, ↓ne_s, ↓ne_b, ↓lt_i, ↓le_i, ↓gt_i, ↓ge_i, ↓is_N, ↓no_N, ↓tr_b, ↓tr_i, ↓tr_n, ↓tr_t, ↓tr_l, ↓ix_t, ↓ix_l, ↓ix_rl, ↓at_0, ↓at_1, ↓at_2, ↓at_3, ↓s_n, ↓s_c, ↓s_asg, ↓s_asgL, ↓s_par, ↓s_set, ↓s_ex, ↓s_ite, ↓s_for, ↓s_wh, ↓s_ret, ↓s_retN, ↓s_pass, ↓s_brk, ↓s_rz, ↓s_cont, ↓g_nm, ↓g_tp, ↓g_n, ↓g_c, ↓par_n, ↓par_c, ↓nw_f, ↓nw_t, ↓len_l, ↓len_t, ↓abs_i, ↓int_i, ↓int_b, ↓repr_h, ↓max_i, ↓min_i, ↓st_0, ↓st_s, ↓supd_supd, ↓ix_ref, ↓set_ref, ↓fd_turn, ↓fd_left, ↓fd_at, ↓fd_cells, ↓fs_turn, ↓fs_left, ↓fs_at, ↓ne_nil, ↓len_is, map_at, ↓ix_q0, ↓ix_q1, ↓g_q, ↓len_q, ↓tr_q, ↓low_eq, ↓q1_eq, ↓q2_eq, ↓sz_0, ↓sz_1, ↓sz_2, ↓sz_3, ↓sz_4, ↓sz_5, ↓sz_6, ↓sz_7, ↓sz_8, ↓itp_t, ↓itp_l, ↓itl_l, ↓pl_2, ↓pl_3, iteE_q, joinS_q, ↓eq_q, ↓ne_q, ↓ixC_l, ↓frz_ref, ↓tup_l, ↓tup_t, ↓lst_l, ↓lst_t, ↓sl_t, ↓slr_t, ↓mul_l, ↓add_l, ↓ifs_0, gsl_nm, gsl_tp, gsl_n, gsl_c, wipe_n, wipe_c, List.replicate, Option.map_some, decide_eq_true_eq, ↓reduceIte, Bool.false_eq_true, Bool.not_eq_eq_eq_not, Bool.not_true, Bool.not_false, true_and, forall_const, Bool.and_eq_true, Bool.or_eq_true, decide_eq_false_iff_not, not_true_eq_false, not_false_eq_true, decide_true, decide_false]
  refine use_product_numbers 45 45 ⟨ha, hb, by omega, by omega, by omega⟩ fun f f1 f2 f3 => ?_
  simp only [↓gv_z, ↓gv_s, ↓sv_z, ↓sv_s, ↓wv_z, wv_z, ↓wv_s, wv_s, iteE_int, iteE_bl, iteE_str, iteE_lst, iteE_same, iteE_c1, iteE_c2, iteE_1, iteE_0, iteT_1, iteT_0, andT_1, andT_0, orT_1, orT_0, andE_1, andE_0, orE_1, orE_0, iteS_1, iteS_0, andE_bl, andE_c, orE_bl, orE_c, iteT_v, iteT_c1, iteT_c2, andT_v, andT_c, orT_v, orT_c, iteS_v, iteS_c1, iteS_c2, iteS_r1, iteS_r2, joinS_n, joinS_same, joinS_int, joinS_bl, ixS_s, ↓e_v, ↓e_N, ↓e_B, ↓e_I, ↓e_S, ↓e_gl, ↓e_add, ↓e_sub, ↓e_mul, ↓e_fdiv, ↓e_mod, ↓e_pow, ↓e_neg, ↓e_cmp, ↓bP_b, ↓t_cmp, ↓e_cmp2, ↓t_cmp2, ↓e_and1, ↓e_and2, ↓t_and1, ↓t_and2, ↓e_or1, ↓e_or2, ↓t_or1, ↓t_or2, ↓e_not, ↓t_not, ↓e_ite, ↓t_ite, ↓e_tup, ↓e_lst, ↓e_dct, ↓e_ix, ↓e_sl, ↓e_slr, ↓e_call, ↓e_bi, ↓e_mt, ↓e_lc, ↓e_frz, ↓t_frz, ↓t_v, ↓t_B, ↓t_N, ↓t_I, ↓t_ix, ↓t_bin, ↓t_call, ↓t_bi, ↓t_sl, ↓t_lc, ↓a_n, ↓a_c, ↓if_n, ↓if_1, ↓o_n, ↓iP_i, ↓o_s, ↓i_val, ↓i_r1, ↓i_r2, ↓i_r3, ↓i_enum, ↓i_zip, ↓i_rev, ↓add_i, ↓add_s, ↓add_t, ↓sub_i, ↓mul_i, ↓fdiv_i, ↓mod_i, ↓pow_i, ↓neg_i, ↓eq_i, ↓eq_s, ↓eq_b, ↓ne_i, ↓ne_s, ↓ne_b, ↓lt_i, ↓le_i, ↓gt_i, ↓ge_i, ↓is_N, ↓no_N, ↓tr_b, ↓tr_i, ↓tr_n, ↓tr_t, ↓tr_l, ↓ix_t, ↓ix_l, ↓ix_rl, ↓at_0, ↓at_1, ↓at_2, ↓at_3, ↓s_n, ↓s_c, ↓s_asg, ↓s_asgL, ↓s_par, ↓s_set, ↓s_ex, ↓s_ite, ↓s_for, ↓s_wh, ↓s_ret, ↓s_retN, ↓s_pass, ↓s_brk, ↓s_rz, ↓s_cont, ↓g_nm, ↓g_tp, ↓g_n, ↓g_c, ↓par_n, ↓par_c, ↓nw_f, ↓nw_t, ↓len_l, ↓len_t, ↓abs_i, ↓int_i, ↓int_b, ↓repr_h, ↓max_i, ↓min_i, ↓st_0, ↓st_s, ↓supd_supd, ↓ix_ref, ↓set_ref, ↓fd_turn, ↓fd_left, ↓fd_at, ↓fd_cells, ↓fs_turn, ↓fs_left, ↓fs_at, ↓ne_nil, ↓len_is, map_at, ↓ix_q0, ↓ix_q1, ↓g_q, ↓len_q, ↓tr_q, ↓low_eq, ↓q1_eq, ↓q2_eq, ↓sz_0, ↓sz_1, ↓sz_2, ↓sz_3, ↓sz_4, ↓sz_5, ↓sz_6, ↓sz_7, ↓sz_8, ↓itp_t, ↓itp_l, ↓itl_l, ↓pl_2, ↓pl_3, iteE_q, joinS_q, ↓eq_q, ↓ne_q, ↓ixC_l, ↓frz_ref, ↓tup_l, ↓tup_t, ↓lst_l, ↓lst_t, ↓sl_t, ↓slr_t, ↓mul_l, ↓add_l, ↓ifs_0, gsl_nm, gsl_tp, gsl_n, gsl_c, wipe_n, wipe_c, List.replicate, Option.map_some, decide_eq_true_eq, ↓reduceIte, Bool.false_eq_true, Bool.not_eq_eq_eq_not, Bool.not_true, Bool.not_false, true_and, forall_const, Bool.and_eq_true, Bool.or_eq_true, decide_eq_false_iff_not, not_true_eq_false, not_false_eq_true, decide_true, decide_false]
  refine use_under_numbers (ns := f) rfl (UnB_conv ha hb hl hh na nb f2 (f3.le (by omega)) (by omega)) ?_
  have e : pn f = conv a b := funext f2
  rw [e, f1]
  exact hq

/-- this law's own polynomial whose slope it is -/
def whL (ns : List Rat) : List Rat := 0 :: (List.range ns.length).map fun i : Nat => pn ns i * (1 / ((i : Rat) + 1))
theorem ev_app {t : Rat} : ∀ {p q : List Rat}, ev (p ++ q) t = ev p t + t ^ p.length * ev q t
  | [], q => by
    show ev q t = 0 + t ^ 0 * ev q t
    grind
  | a :: p, q => by
    show a + t * ev (p ++ q) t = a + t * ev p t + t ^ (p.length + 1) * ev q t
    rw [ev_app]
    grind
theorem ev_wh {f : Nat → Rat} {l h : Rat} (n : Nat) : ev (0 :: (List.range n).map fun i : Nat => f i * (1 / ((i : Rat) + 1))) h + -(ev (0 :: (List.range n).map fun i : Nat => f i * (1 / ((i : Rat) + 1))) l) = unS f l h n := by
  induction n with
  | zero =>
    show 0 + h * 0 + -(0 + l * 0) = 0
    grind
  | succ n ih =>
    have e : ∀ t : Rat, ev (0 :: (List.range (n + 1)).map fun i : Nat => f i * (1 / ((i : Rat) + 1))) t = ev (0 :: (List.range n).map fun i : Nat => f i * (1 / ((i : Rat) + 1))) t + (f n * (1 / ((n : Rat) + 1))) * t ^ (n + 1) := by
      intro t
      rw [List.range_succ, List.map_append, ← List.cons_append]
      rw [show ([n] : List Nat).map (fun i : Nat => f i * (1 / ((i : Rat) + 1))) = [f n * (1 / ((n : Rat) + 1))] from rfl, ev_snoc]
      simp
    rw [e h, e l]
    show _ = unS f l h n + f n * ((h ^ (n + 1) - l ^ (n + 1)) * (1 / ((n : Rat) + 1)))
    rw [← ih]
    grind

theorem wh_take {ns : List Rat} {m : Nat} (h : m ≤ ns.length) : (whL ns).take (m + 1) = 0 :: (List.range m).map fun i : Nat => pn ns i * (1 / ((i : Rat) + 1)) := by
  unfold whL
  rw [List.take_succ_cons, ← List.map_take, List.take_range, Nat.min_eq_left h]
theorem wh_ev {ns : List Rat} {t : Rat} {m : Nat} : ev (0 :: (List.range m).map fun i : Nat => pn ns i * (1 / ((i : Rat) + 1))) t = unS (pn ns) 0 t m := by
  have h := ev_wh (f := pn ns) (l := 0) (h := t) m
  have e : ∀ q : List Rat, ev (0 :: q) 0 = 0 := by
    intro q
    show 0 + 0 * ev q 0 = 0
    grind
  rw [e] at h
  rw [← h]
  grind
theorem wh_RB {ns : List Rat} {l h t : Rat} (B : UnB ns l h) (ht : RB 45 t) : ∀ k, k ≤ (whL ns).length → RB 1900 (ev ((whL ns).take k) t) := by
  intro k hk
  obtain ⟨Dn, i1, i2, i3, i4⟩ := B.ex
  have ln := B.ln
  have hl : (whL ns).length = ns.length + 1 := by unfold whL; simp
  cases k with
  | zero => exact RB.zero (by decide)
  | succ m =>
    rw [wh_take (by omega), wh_ev]
    exact unS_RB i1 i2 i3 i4 (RB.zero (by decide)) ht (by omega)

theorem frq_unit {k : Nat} : D.tup [.int 1, .int ((k : Int) + 1)] = frq (1 / ((k : Rat) + 1)) := by
  have e1 : Rat.divInt 1 ((k : Int) + 1) = 1 / ((k : Rat) + 1) := by
    rw [Rat.divInt_eq_div, Rat.intCast_add, Rat.intCast_natCast]
    rfl
  rw [← e1, ← low_frq (t := 1) (u := (k : Int) + 1) (by omega)]
  have hg : Nat.gcd (1 : Int).natAbs ((k : Int) + 1).natAbs = 1 := Nat.gcd_one_left _
  rw [hg, if_neg (by omega)]
  show _ = D.tup [.int ((1 : Int).fdiv 1), .int (((k : Int) + 1).fdiv 1)]
  rw [Int.fdiv_one, Int.fdiv_one]
abbrev sp__law_beneath : Spec := fun ds S Q _ => ∃ (x : D) (ns : List Rat) (l h : Rat), ds = [x, frq l, frq h] ∧ sqx S x = some (ns.map frq) ∧ UnB ns l h ∧ Q (frq (unS (pn ns) l h ns.length)) S
theorem use_law_beneath {S : Sto} {x : D} {ns : List Rat} {l h : Rat} {Q : EQ} {U : Ex → Sto → Prop} (hx : sqx S x = some (ns.map frq)) (b : UnB ns l h) (q : Q (frq (unS (pn ns) l h ns.length)) S) : @callS sp__law_beneath [x, frq l, frq h] S U ⟨Q⟩ := ⟨x, ns, l, h, rfl, hx, b, q⟩
def b__law_beneath : Sms := .cons (.asg (.nm 3) (.bin .add false (.lst false (.cons (.tup (.cons (.cI 0) (.cons (.cI 1) (.nil)))) (.nil))) (.lc false (.call "_law_times" sp__law_times (.cons (.ix (.v 0) (.v 6)) (.cons (.tup (.cons (.cI 1) (.cons (.bin .add false (.v 6) (.cI 1)) (.nil)))) (.nil)))) (.nm 6) (.r1 (.bi .len false (.cons (.v 0) (.nil)))) (.nil)))) (.cons (.par [4, 5] (.cons (.call "_law_value" sp__law_value (.cons (.v 3) (.cons (.v 1) (.nil)))) (.cons (.call "_law_value" sp__law_value (.cons (.v 3) (.cons (.v 2) (.nil)))) (.nil)))) (.cons (.ret (.call "_law_plus" sp__law_plus (.cons (.v 5) (.cons (.tup (.cons (.bin .sub false (.cI 0) (.ix (.v 4) (.cI 0))) (.cons (.ix (.v 4) (.cI 1)) (.nil)))) (.nil))))) (.nil)))
theorem t_law_beneath : Keeps 7 b__law_beneath sp__law_beneath 3 := by
  rintro ds S Q U ⟨x, ns, l, h, rfl, hx, B, hq⟩
  refine ⟨rfl, ?_⟩
  have ln := B.ln
  simp only [b__law_beneath, sqx_len hx, List.length_map, same0, ↓gv_z, ↓gv_s, ↓sv_z, ↓sv_s, ↓wv_z, wv_z, ↓wv_s, wv_s, iteE_int, iteE_bl, iteE_str, iteE_lst, iteE_same, iteE_c1, iteE_c2, iteE_1, iteE_0, iteT_1, iteT_0, andT_1, andT_0, orT_1, orT_0, andE_1, andE_0, orE_1, orE_0, iteS_1, iteS_0, andE_bl, andE_c, orE_bl, orE_c, iteT_v, iteT_c1, iteT_c2, andT_v, andT_c, orT_v, orT_c, iteS_v, iteS_c1, iteS_c2, iteS_r1, iteS_r2, joinS_n, joinS_same, joinS_int, joinS_bl, ixS_s, ↓e_v, ↓e_N, ↓e_B, ↓e_I, ↓e_S, ↓e_gl, ↓e_add, ↓e_sub, ↓e_mul, ↓e_fdiv, ↓e_mod, ↓e_pow, ↓e_neg, ↓e_cmp, ↓bP_b, ↓t_cmp, ↓e_cmp2, ↓t_cmp2, ↓e_and1, ↓e_and2, ↓t_and1, ↓t_and2, ↓e_or1, ↓e_or2, ↓t_or1, ↓t_or2, ↓e_not, ↓t_not, ↓e_ite, ↓t_ite, ↓e_tup, ↓e_lst, ↓e_dct, ↓e_ix, ↓e_sl, ↓e_slr, ↓e_call, ↓e_bi, ↓e_mt, ↓e_lc, ↓e_frz, ↓t_frz, ↓t_v, ↓t_B, ↓t_N, ↓t_I, ↓t_ix, ↓t_bin, ↓t_call, ↓t_bi, ↓t_sl, ↓t_lc, ↓a_n, ↓a_c, ↓if_n, ↓if_1, ↓o_n, ↓iP_i, ↓o_s, ↓i_val, ↓i_r1, ↓i_r2, ↓i_r3, ↓i_enum, ↓i_zip, ↓i_rev, ↓add_i, ↓add_s, ↓add_t, ↓sub_i, ↓mul_i, ↓fdiv_i, ↓mod_i, ↓pow_i, ↓neg_i, ↓eq_i, ↓eq_s, ↓eq_b, ↓ne_i, ↓ne_s, ↓ne_b, ↓lt_i, ↓le_i, ↓gt_i, ↓ge_i, ↓is_N, ↓no_N, ↓tr_b, ↓tr_i, ↓tr_n, ↓tr_t, ↓tr_l, ↓ix_t, ↓ix_l, ↓ix_rl, ↓at_0, ↓at_1, ↓at_2, ↓at_3, ↓s_n, ↓s_c, ↓s_asg, ↓s_asgL, ↓s_par, ↓s_set, ↓s_ex, ↓s_ite, ↓s_for, ↓s_wh, ↓s_ret, ↓s_retN, ↓s_pass, ↓s_brk, ↓s_rz, ↓s_cont, ↓g_nm, ↓g_tp, ↓g_n, ↓g_c, ↓par_n, ↓par_c, ↓nw_f, ↓nw_t, ↓len_l, ↓len_t, ↓abs_i, ↓int_i, ↓int_b, ↓repr_h, ↓max_i, ↓min_i, ↓st_0, ↓st_s, ↓supd_supd, ↓ix_ref, ↓set_ref, ↓fd_turn, ↓fd_left, ↓fd_at, ↓fd_cells, ↓fs_turn, ↓fs_left, ↓fs_at, ↓ne_nil, ↓len_is, map_at, ↓ix_q0, ↓ix_q1, ↓g_q, ↓len_q, ↓tr_q, ↓low_eq, ↓q1_eq, ↓q2_eq, ↓sz_0, ↓sz_1, ↓sz_2, ↓sz_3, ↓sz_4, ↓sz_5, ↓sz_6, ↓sz_7, ↓sz_8, ↓itp_t, ↓itp_l, ↓itl_l, ↓pl_2, ↓pl_3, iteE_q, joinS_q, ↓eq_q, ↓ne_q, ↓ixC_l, ↓frz_ref, ↓tup_l, ↓tup_t, ↓lst_l, ↓lst_t, ↓sl_t, ↓slr_t, ↓mul_l, ↓add_l, ↓ifs_0, gsl_nm, gsl_tp, gsl_n, gsl_c, wipe_n, wipe_c, List.replicate, Option.map_some, decide_eq_true_eq, ↓reduceIte, Bool.false_eq_true, Bool.not_eq_eq_eq_not, Bool.not_true, Bool.not_false, true_and, forall_const, Bool.and_eq_true, Bool.or_eq_true, decide_eq_false_iff_not, not_true_eq_false, not_false_eq_true, decide_true, decide_false]
  refine ⟨r62_ok (by omega), ?_⟩
  rw [Int.toNat_natCast, rng_map]
  have ru : ∀ k : Nat, k < 8 → RB 10 (1 / ((k : Rat) + 1)) := by
    intro k hk
    have e1 : Rat.divInt 1 ((k : Int) + 1) = 1 / ((k : Rat) + 1) := by
      rw [Rat.divInt_eq_div, Rat.intCast_add, Rat.intCast_natCast]
      rfl
    rw [← e1]
    exact .divInt (Bt.lit (by decide)) (by show ((k : Int) + 1).natAbs < 1024; omega) (by omega)
  refine lc_pure (g := fun i : Nat => frq (pn ns i * (1 / ((i : Rat) + 1)))) trivial _ (by rw [List.length_range]; exact few_ok (by omega)) ?_ ?_
  · intro i hi R hR
    have hi := List.mem_range.mp hi
    have hat : atI ns (i : Int) = some (pn ns i) := at_pn hi
    simp only [sqx_ix hx, hat, frq_unit, ↓q2_lmul, ↓gv_z, ↓gv_s, ↓sv_z, ↓sv_s, ↓wv_z, wv_z, ↓wv_s, wv_s, iteE_int, iteE_bl, iteE_str, iteE_lst, iteE_same, iteE_c1, iteE_c2, iteE_1, iteE_0, iteT_1, iteT_0, andT_1, andT_0, orT_1, orT_0, andE_1, andE_0, orE_1, orE_0, iteS_1, iteS_0, andE_bl, andE_c, orE_bl, orE_c, iteT_v, iteT_c1, iteT_c2, andT_v, andT_c, orT_v, orT_c, iteS_v, iteS_c1, iteS_c2, iteS_r1, iteS_r2, joinS_n, joinS_same, joinS_int, joinS_bl, ixS_s, ↓e_v, ↓e_N, ↓e_B, ↓e_I, ↓e_S, ↓e_gl, ↓e_add, ↓e_sub, ↓e_mul, ↓e_fdiv, ↓e_mod, ↓e_pow, ↓e_neg, ↓e_cmp, ↓bP_b, ↓t_cmp, ↓e_cmp2, ↓t_cmp2, ↓e_and1, ↓e_and2, ↓t_and1, ↓t_and2, ↓e_or1, ↓e_or2, ↓t_or1, ↓t_or2, ↓e_not, ↓t_not, ↓e_ite, ↓t_ite, ↓e_tup, ↓e_lst, ↓e_dct, ↓e_ix, ↓e_sl, ↓e_slr, ↓e_call, ↓e_bi, ↓e_mt, ↓e_lc, ↓e_frz, ↓t_frz, ↓t_v, ↓t_B, ↓t_N, ↓t_I, ↓t_ix, ↓t_bin, ↓t_call, ↓t_bi, ↓t_sl, ↓t_lc, ↓a_n, ↓a_c, ↓if_n, ↓if_1, ↓o_n, ↓iP_i, ↓o_s, ↓i_val, ↓i_r1, ↓i_r2, ↓i_r3, ↓i_enum, ↓i_zip, ↓i_rev, ↓add_i, ↓add_s, ↓add_t, ↓sub_i, ↓mul_i, ↓fdiv_i, ↓mod_i, ↓pow_i, ↓neg_i, ↓eq_i, ↓eq_s, ↓eq_b, ↓ne_i, ↓ne_s, ↓ne_b, ↓lt_i, ↓le_i, ↓gt_i, ↓ge_i, ↓is_N, ↓no_N, ↓tr_b, ↓tr_i, ↓tr_n, ↓tr_t, ↓tr_l, ↓ix_t, ↓ix_l, ↓ix_rl, ↓at_0, ↓at_1, ↓at_2, ↓at_3, ↓s_n, ↓s_c, ↓s_asg, ↓s_asgL, ↓s_par, ↓s_set, ↓s_ex, ↓s_ite, ↓s_for, ↓s_wh, ↓s_ret, ↓s_retN, ↓s_pass, ↓s_brk, ↓s_rz, ↓s_cont, ↓g_nm, ↓g_tp, ↓g_n, ↓g_c, ↓par_n, ↓par_c, ↓nw_f, ↓nw_t, ↓len_l, ↓len_t, ↓abs_i, ↓int_i, ↓int_b, ↓repr_h, ↓max_i, ↓min_i, ↓st_0, ↓st_s, ↓supd_supd, ↓ix_ref, ↓set_ref, ↓fd_turn, ↓fd_left, ↓fd_at, ↓fd_cells, ↓fs_turn, ↓fs_left, ↓fs_at, ↓ne_nil, ↓len_is, map_at, ↓ix_q0, ↓ix_q1, ↓g_q, ↓len_q, ↓tr_q, ↓low_eq, ↓q1_eq, ↓q2_eq, ↓sz_0, ↓sz_1, ↓sz_2, ↓sz_3, ↓sz_4, ↓sz_5, ↓sz_6, ↓sz_7, ↓sz_8, ↓itp_t, ↓itp_l, ↓itl_l, ↓pl_2, ↓pl_3, iteE_q, joinS_q, ↓eq_q, ↓ne_q, ↓ixC_l, ↓frz_ref, ↓tup_l, ↓tup_t, ↓lst_l, ↓lst_t, ↓sl_t, ↓slr_t, ↓mul_l, ↓add_l, ↓ifs_0, gsl_nm, gsl_tp, gsl_n, gsl_c, wipe_n, wipe_c, List.replicate, Option.map_some, decide_eq_true_eq, ↓reduceIte, Bool.false_eq_true, Bool.not_eq_eq_eq_not, Bool.not_true, Bool.not_false, true_and, forall_const, Bool.and_eq_true, Bool.or_eq_true, decide_eq_false_iff_not, not_true_eq_false, not_false_eq_true, decide_true, decide_false]
    exact ⟨⟨(B.rn.pn (by decide) i).le (by decide), (ru i (by omega)).le (by decide)⟩, hR⟩
  simp only [↓gv_z, ↓gv_s, ↓sv_z, ↓sv_s, ↓wv_z, wv_z, ↓wv_s, wv_s, iteE_int, iteE_bl, iteE_str, iteE_lst, iteE_same, iteE_c1, iteE_c2, iteE_1, iteE_0, iteT_1, iteT_0, andT_1, andT_0, orT_1, orT_0, andE_1, andE_0, orE_1, orE_0, iteS_1, iteS_0, andE_bl, andE_c, orE_bl, orE_c, iteT_v, iteT_c1, iteT_c2, andT_v, andT_c, orT_v, orT_c, iteS_v, iteS_c1, iteS_c2, iteS_r1, iteS_r2, joinS_n, joinS_same, joinS_int, joinS_bl, ixS_s, ↓e_v, ↓e_N, ↓e_B, ↓e_I, ↓e_S, ↓e_gl, ↓e_add, ↓e_sub, ↓e_mul, ↓e_fdiv, ↓e_mod, ↓e_pow, ↓e_neg, ↓e_cmp, ↓bP_b, ↓t_cmp, ↓e_cmp2, ↓t_cmp2, ↓e_and1, ↓e_and2, ↓t_and1, ↓t_and2, ↓e_or1, ↓e_or2, ↓t_or1, ↓t_or2, ↓e_not, ↓t_not, ↓e_ite, ↓t_ite, ↓e_tup, ↓e_lst, ↓e_dct, ↓e_ix, ↓e_sl, ↓e_slr, ↓e_call, ↓e_bi, ↓e_mt, ↓e_lc, ↓e_frz, ↓t_frz, ↓t_v, ↓t_B, ↓t_N, ↓t_I, ↓t_ix, ↓t_bin, ↓t_call, ↓t_bi, ↓t_sl, ↓t_lc, ↓a_n, ↓a_c, ↓if_n, ↓if_1, ↓o_n, ↓iP_i, ↓o_s, ↓i_val, ↓i_r1, ↓i_r2, ↓i_r3, ↓i_enum, ↓i_zip, ↓i_rev, ↓add_i, ↓add_s, ↓add_t, ↓sub_i, ↓mul_i, ↓fdiv_i, ↓mod_i, ↓pow_i, ↓neg_i, ↓eq_i, ↓eq_s, ↓eq_b, ↓ne_i, ↓ne_s, ↓ne_b, ↓lt_i, ↓le_i, ↓gt_i, ↓ge_i, ↓is_N, ↓no_N, ↓tr_b, ↓tr_i, ↓tr_n, ↓tr_t, ↓tr_l, ↓ix_t, ↓ix_l, ↓ix_rl, ↓at_0, ↓at_1, ↓at_2, ↓at_3, ↓s_n, ↓s_c, ↓s_asg, ↓s_asgL, ↓s_par, ↓s_set, ↓s_ex, ↓s_ite, ↓s_for, ↓s_wh, ↓s_ret, ↓s_retN, ↓s_pass, ↓s_brk, ↓s_rz, ↓s_cont, ↓g_nm, ↓g_tp, ↓g_n, ↓g_c, ↓par_n, ↓par_c, ↓nw_f, ↓nw_t, ↓len_l, ↓len_t, ↓abs_i, ↓int_i, ↓int_b, ↓repr_h, ↓max_i, ↓min_i, ↓st_0, ↓st_s, ↓supd_supd, ↓ix_ref, ↓set_ref, ↓fd_turn, ↓fd_left, ↓fd_at, ↓fd_cells, ↓fs_turn, ↓fs_left, ↓fs_at, ↓ne_nil, ↓len_is, map_at, ↓ix_q0, ↓ix_q1, ↓g_q, ↓len_q, ↓tr_q, ↓low_eq, ↓q1_eq, ↓q2_eq, ↓sz_0, ↓sz_1, ↓sz_2, ↓sz_3, ↓sz_4, ↓sz_5, ↓sz_6, ↓sz_7, ↓sz_8, ↓itp_t, ↓itp_l, ↓itl_l, ↓pl_2, ↓pl_3, iteE_q, joinS_q, ↓eq_q, ↓ne_q, ↓ixC_l, ↓frz_ref, ↓tup_l, ↓tup_t, ↓lst_l, ↓lst_t, ↓sl_t, ↓slr_t, ↓mul_l, ↓add_l, ↓ifs_0, gsl_nm, gsl_tp, gsl_n, gsl_c, wipe_n, wipe_c, List.replicate, Option.map_some, decide_eq_true_eq, ↓reduceIte, Bool.false_eq_true, Bool.not_eq_eq_eq_not, Bool.not_true, Bool.not_false, true_and, forall_const, Bool.and_eq_true, Bool.or_eq_true, decide_eq_false_iff_not, not_true_eq_false, not_false_eq_true, decide_true, decide_false]
  have eW : [frq 0] ++ (List.range ns.length).map (fun i : Nat => frq (pn ns i * (1 / ((i : Rat) + 1)))) = (whL ns).map frq := by
    unfold whL
    rw [List.map_cons, List.map_map]
    rfl
  have hw : RL 500 (whL ns) := by
    intro z m
    rcases List.mem_cons.mp m with m | m
    · rw [m]; exact RB.zero (by decide)
    · obtain ⟨i, hi, rfl⟩ := List.mem_map.mp m
      have hi := List.mem_range.mp hi
      exact ((B.rn.pn (by decide) i).mul (ru i (by omega))).le (by decide)
  have hl : (whL ns).length = ns.length + 1 := by unfold whL; simp
  have hW : ns.length + 1 = (whL ns).length := hl.symm
  have whole : (whL ns).take ((whL ns).length) = whL ns := List.take_length
  have rv : ∀ t, RB 45 t → RB 1900 (ev (whL ns) t) := fun t ht => by
    have := wh_RB B ht (whL ns).length (Nat.le_refl _)
    rw [whole] at this
    exact this
  refine ⟨few_ok (by rw [List.length_map, List.length_range, List.length_singleton]; omega), ?_⟩
  refine use_law_value (p := whL ns) (by rw [eW]; rfl) ⟨hw, B.rl, by omega, wh_RB B B.rl⟩ ?_
  simp only [↓gv_z, ↓gv_s, ↓sv_z, ↓sv_s, ↓wv_z, wv_z, ↓wv_s, wv_s, iteE_int, iteE_bl, iteE_str, iteE_lst, iteE_same, iteE_c1, iteE_c2, iteE_1, iteE_0, iteT_1, iteT_0, andT_1, andT_0, orT_1, orT_0, andE_1, andE_0, orE_1, orE_0, iteS_1, iteS_0, andE_bl, andE_c, orE_bl, orE_c, iteT_v, iteT_c1, iteT_c2, andT_v, andT_c, orT_v, orT_c, iteS_v, iteS_c1, iteS_c2, iteS_r1, iteS_r2, joinS_n, joinS_same, joinS_int, joinS_bl, ixS_s, ↓e_v, ↓e_N, ↓e_B, ↓e_I, ↓e_S, ↓e_gl, ↓e_add, ↓e_sub, ↓e_mul, ↓e_fdiv, ↓e_mod, ↓e_pow, ↓e_neg, ↓e_cmp, ↓bP_b, ↓t_cmp, ↓e_cmp2, ↓t_cmp2, ↓e_and1, ↓e_and2, ↓t_and1, ↓t_and2, ↓e_or1, ↓e_or2, ↓t_or1, ↓t_or2, ↓e_not, ↓t_not, ↓e_ite, ↓t_ite, ↓e_tup, ↓e_lst, ↓e_dct, ↓e_ix, ↓e_sl, ↓e_slr, ↓e_call, ↓e_bi, ↓e_mt, ↓e_lc, ↓e_frz, ↓t_frz, ↓t_v, ↓t_B, ↓t_N, ↓t_I, ↓t_ix, ↓t_bin, ↓t_call, ↓t_bi, ↓t_sl, ↓t_lc, ↓a_n, ↓a_c, ↓if_n, ↓if_1, ↓o_n, ↓iP_i, ↓o_s, ↓i_val, ↓i_r1, ↓i_r2, ↓i_r3, ↓i_enum, ↓i_zip, ↓i_rev, ↓add_i, ↓add_s, ↓add_t, ↓sub_i, ↓mul_i, ↓fdiv_i, ↓mod_i, ↓pow_i, ↓neg_i, ↓eq_i, ↓eq_s, ↓eq_b, ↓ne_i, ↓ne_s, ↓ne_b, ↓lt_i, ↓le_i, ↓gt_i, ↓ge_i, ↓is_N, ↓no_N, ↓tr_b, ↓tr_i, ↓tr_n, ↓tr_t, ↓tr_l, ↓ix_t, ↓ix_l, ↓ix_rl, ↓at_0, ↓at_1, ↓at_2, ↓at_3, ↓s_n, ↓s_c, ↓s_asg, ↓s_asgL, ↓s_par, ↓s_set, ↓s_ex, ↓s_ite, ↓s_for, ↓s_wh, ↓s_ret, ↓s_retN, ↓s_pass, ↓s_brk, ↓s_rz, ↓s_cont, ↓g_nm, ↓g_tp, ↓g_n, ↓g_c, ↓par_n, ↓par_c, ↓nw_f, ↓nw_t, ↓len_l, ↓len_t, ↓abs_i, ↓int_i, ↓int_b, ↓repr_h, ↓max_i, ↓min_i, ↓st_0, ↓st_s, ↓supd_supd, ↓ix_ref, ↓set_ref, ↓fd_turn, ↓fd_left, ↓fd_at, ↓fd_cells, ↓fs_turn, ↓fs_left, ↓fs_at, ↓ne_nil, ↓len_is, map_at, ↓ix_q0, ↓ix_q1, ↓g_q, ↓len_q, ↓tr_q, ↓low_eq, ↓q1_eq, ↓q2_eq, ↓sz_0, ↓sz_1, ↓sz_2, ↓sz_3, ↓sz_4, ↓sz_5, ↓sz_6, ↓sz_7, ↓sz_8, ↓itp_t, ↓itp_l, ↓itl_l, ↓pl_2, ↓pl_3, iteE_q, joinS_q, ↓eq_q, ↓ne_q, ↓ixC_l, ↓frz_ref, ↓tup_l, ↓tup_t, ↓lst_l, ↓lst_t, ↓sl_t, ↓slr_t, ↓mul_l, ↓add_l, ↓ifs_0, gsl_nm, gsl_tp, gsl_n, gsl_c, wipe_n, wipe_c, List.replicate, Option.map_some, decide_eq_true_eq, ↓reduceIte, Bool.false_eq_true, Bool.not_eq_eq_eq_not, Bool.not_true, Bool.not_false, true_and, forall_const, Bool.and_eq_true, Bool.or_eq_true, decide_eq_false_iff_not, not_true_eq_false, not_false_eq_true, decide_true, decide_false]
  refine use_law_value (p := whL ns) (by rw [eW]; rfl) ⟨hw, B.rh, by omega, wh_RB B B.rh⟩ ?_
  simp only [neg_frq, ↓q2_ladd, ↓gv_z, ↓gv_s, ↓sv_z, ↓sv_s, ↓wv_z, wv_z, ↓wv_s, wv_s, iteE_int, iteE_bl, iteE_str, iteE_lst, iteE_same, iteE_c1, iteE_c2, iteE_1, iteE_0, iteT_1, iteT_0, andT_1, andT_0, orT_1, orT_0, andE_1, andE_0, orE_1, orE_0, iteS_1, iteS_0, andE_bl, andE_c, orE_bl, orE_c, iteT_v, iteT_c1, iteT_c2, andT_v, andT_c, orT_v, orT_c, iteS_v, iteS_c1, iteS_c2, iteS_r1, iteS_r2, joinS_n, joinS_same, joinS_int, joinS_bl, ixS_s, ↓e_v, ↓e_N, ↓e_B, ↓e_I, ↓e_S, ↓e_gl, ↓e_add, ↓e_sub, ↓e_mul, ↓e_fdiv, ↓e_mod, ↓e_pow, ↓e_neg, ↓e_cmp, ↓bP_b, ↓t_cmp, ↓e_cmp2, ↓t_cmp2, ↓e_and1, ↓e_and2, ↓t_and1, ↓t_and2, ↓e_or1, ↓e_or2, ↓t_or1, ↓t_or2, ↓e_not, ↓t_not, ↓e_ite, ↓t_ite, ↓e_tup, ↓e_lst, ↓e_dct, ↓e_ix, ↓e_sl, ↓e_slr, ↓e_call, ↓e_bi, ↓e_mt, ↓e_lc, ↓e_frz, ↓t_frz, ↓t_v, ↓t_B, ↓t_N, ↓t_I, ↓t_ix, ↓t_bin, ↓t_call, ↓t_bi, ↓t_sl, ↓t_lc, ↓a_n, ↓a_c, ↓if_n, ↓if_1, ↓o_n, ↓iP_i, ↓o_s, ↓i_val, ↓i_r1, ↓i_r2, ↓i_r3, ↓i_enum, ↓i_zip, ↓i_rev, ↓add_i, ↓add_s, ↓add_t, ↓sub_i, ↓mul_i, ↓fdiv_i, ↓mod_i, ↓pow_i, ↓neg_i, ↓eq_i, ↓eq_s, ↓eq_b, ↓ne_i, ↓ne_s, ↓ne_b, ↓lt_i, ↓le_i, ↓gt_i, ↓ge_i, ↓is_N, ↓no_N, ↓tr_b, ↓tr_i, ↓tr_n, ↓tr_t, ↓tr_l, ↓ix_t, ↓ix_l, ↓ix_rl, ↓at_0, ↓at_1, ↓at_2, ↓at_3, ↓s_n, ↓s_c, ↓s_asg, ↓s_asgL, ↓s_par, ↓s_set, ↓s_ex, ↓s_ite, ↓s_for, ↓s_wh, ↓s_ret, ↓s_retN, ↓s_pass, ↓s_brk, ↓s_rz, ↓s_cont, ↓g_nm, ↓g_tp, ↓g_n, ↓g_c, ↓par_n, ↓par_c, ↓nw_f, ↓nw_t, ↓len_l, ↓len_t, ↓abs_i, ↓int_i, ↓int_b, ↓repr_h, ↓max_i, ↓min_i, ↓st_0, ↓st_s, ↓supd_supd, ↓ix_ref, ↓set_ref, ↓fd_turn, ↓fd_left, ↓fd_at, ↓fd_cells, ↓fs_turn, ↓fs_left, ↓fs_at, ↓ne_nil, ↓len_is, map_at, ↓ix_q0, ↓ix_q1, ↓g_q, ↓len_q, ↓tr_q, ↓low_eq, ↓q1_eq, ↓q2_eq, ↓sz_0, ↓sz_1, ↓sz_2, ↓sz_3, ↓sz_4, ↓sz_5, ↓sz_6, ↓sz_7, ↓sz_8, ↓itp_t, ↓itp_l, ↓itl_l, ↓pl_2, ↓pl_3, iteE_q, joinS_q, ↓eq_q, ↓ne_q, ↓ixC_l, ↓frz_ref, ↓tup_l, ↓tup_t, ↓lst_l, ↓lst_t, ↓sl_t, ↓slr_t, ↓mul_l, ↓add_l, ↓ifs_0, gsl_nm, gsl_tp, gsl_n, gsl_c, wipe_n, wipe_c, List.replicate, Option.map_some, decide_eq_true_eq, ↓reduceIte, Bool.false_eq_true, Bool.not_eq_eq_eq_not, Bool.not_true, Bool.not_false, true_and, forall_const, Bool.and_eq_true, Bool.or_eq_true, decide_eq_false_iff_not, not_true_eq_false, not_false_eq_true, decide_true, decide_false]
  refine ⟨⟨(rv _ B.rh).le (by decide), (rv _ B.rl).neg.le (by decide)⟩, ?_⟩
  have e := ev_wh (f := pn ns) (l := l) (h := h) ns.length
  have e2 : ev (whL ns) h + -(ev (whL ns) l) = unS (pn ns) l h ns.length := e
  rw [e2]
  exact hq

theorem unS_split {f : Nat → Rat} {l m h : Rat} : ∀ n : Nat, unS f l m n + unS f m h n = unS f l h n
  | 0 => by
    show (0 : Rat) + 0 = 0
    grind
  | n + 1 => by
    have ih := unS_split (f := f) (l := l) (m := m) (h := h) n
    show unS f l m n + f n * ((m ^ (n + 1) - l ^ (n + 1)) * (1 / ((n : Rat) + 1))) + (unS f m h n + f n * ((h ^ (n + 1) - m ^ (n + 1)) * (1 / ((n : Rat) + 1)))) = unS f l h n + f n * ((h ^ (n + 1) - l ^ (n + 1)) * (1 / ((n : Rat) + 1)))
    grind
theorem conv_cons {x : Rat} {b : List Rat} : ∀ (a : List Rat) (k : Nat), conv a (x :: b) k = pn a k * x + (match k with
    | 0 => 0
    | k + 1 => conv a b k)
  | [], k => by
    rw [conv_nil]
    cases k with
    | zero =>
      show (0 : Rat) = 0 * x + 0
      grind
    | succ k =>
      show (0 : Rat) = 0 * x + conv [] b k
      rw [conv_nil]
      grind
  | y :: a, 0 => by
    show y * x = y * x + 0
    grind
  | y :: a, k + 1 => by
    have ih := conv_cons (x := x) (b := b) a k
    show y * pn b k + conv a (x :: b) k = pn a k * x + conv (y :: a) b k
    rw [ih]
    cases k with
    | zero =>
      show y * pn b 0 + (pn a 0 * x + 0) = pn a 0 * x + y * pn b 0
      grind
    | succ k =>
      show y * pn b (k + 1) + (pn a (k + 1) * x + conv a b k) = pn a (k + 1) * x + (y * pn b (k + 1) + conv a b k)
      grind
theorem conv_comm : ∀ (a b : List Rat) (k : Nat), conv a b k = conv b a k
  | [], b, k => by
    rw [conv_nil]
    induction b generalizing k with
    | nil => rw [conv_nil]
    | cons y b ih =>
      cases k with
      | zero =>
        show (0 : Rat) = y * 0
        grind
      | succ k =>
        show (0 : Rat) = y * 0 + conv b [] k
        rw [← ih]
        grind
  | x :: a, b, k => by
    rw [conv_cons b k]
    cases k with
    | zero =>
      show x * pn b 0 = pn b 0 * x + 0
      grind
    | succ k =>
      show x * pn b (k + 1) + conv a b k = pn b (k + 1) * x + conv b a k
      rw [conv_comm a b k]
      grind

theorem unS_far {f : Nat → Rat} {l h : Rat} {n : Nat} (hf : ∀ k, n ≤ k → f k = 0) : ∀ d : Nat, unS f l h (n + d) = unS f l h n
  | 0 => rfl
  | d + 1 => by
    show unS f l h (n + d) + f (n + d) * _ = _
    rw [unS_far hf d, hf _ (Nat.le_add_right n d)]
    grind

abbrev sp__law_right : Spec := fun ds S Q _ => ∃ (a b : List Rat) (l : D) (p0 p1 p2 : Rat), ds = [plD a, plD b, l] ∧ lsx S l = some ([p0, p1, p2].map frq) ∧ (RL 45 a ∧ RL 45 b ∧ RL 45 [p0, p1, p2] ∧ a.length ≤ 4 ∧ b.length ≤ 4) ∧ Q (.bl true) S
def b__law_right : Sms := .cons (.asg (.nm 3) (.call "_law_product" sp__law_product (.cons (.v 0) (.cons (.v 1) (.nil))))) (.cons (.for_ (.nm 4) (.val (.sl false (.v 2) (.none) (.some (.cI 2)))) (.cons (.for_ (.nm 6) (.val (.v 2)) (.cons (.ite (.cmp .ne (.bi .repr false (.cons (.call "under_poly" sp_under_poly (.cons (.v 0) (.cons (.v 4) (.cons (.v 6) (.nil))))) (.nil))) (.bi .repr false (.cons (.call "_law_beneath" sp__law_beneath (.cons (.v 0) (.cons (.v 4) (.cons (.v 6) (.nil))))) (.nil)))) (.cons (.ret (.cB false)) (.nil)) (.nil)) (.cons (.asg (.nm 7) (.bi .repr false (.cons (.call "_law_beneath" sp__law_beneath (.cons (.v 3) (.cons (.v 4) (.cons (.v 6) (.nil))))) (.nil)))) (.cons (.ite (.or_ (.cons (.cmp .ne (.bi .repr false (.cons (.call "under_product" sp_under_product (.cons (.v 0) (.cons (.v 1) (.cons (.v 4) (.cons (.v 6) (.nil)))))) (.nil))) (.v 7)) (.cons (.cmp .ne (.bi .repr false (.cons (.call "under_product" sp_under_product (.cons (.v 1) (.cons (.v 0) (.cons (.v 4) (.cons (.v 6) (.nil)))))) (.nil))) (.v 7)) (.nil)))) (.cons (.ret (.cB false)) (.nil)) (.nil)) (.nil))))) (.nil))) (.cons (.asg (.nm 5) (.lst false (.cons (.call "under_product" sp_under_product (.cons (.v 0) (.cons (.v 1) (.cons (.ix (.v 2) (.cI 0)) (.cons (.ix (.v 2) (.cI 1)) (.nil)))))) (.cons (.call "under_product" sp_under_product (.cons (.v 0) (.cons (.v 1) (.cons (.ix (.v 2) (.cI 1)) (.cons (.ix (.v 2) (.cI 2)) (.nil)))))) (.nil))))) (.cons (.ret (.cmp .eq (.call "_law_plus" sp__law_plus (.cons (.ix (.v 5) (.cI 0)) (.cons (.ix (.v 5) (.cI 1)) (.nil)))) (.call "under_product" sp_under_product (.cons (.v 0) (.cons (.v 1) (.cons (.ix (.v 2) (.cI 0)) (.cons (.ix (.v 2) (.cI 2)) (.nil)))))))) (.nil))))
theorem t_law_right : Keeps 8 b__law_right sp__law_right 3 := by
  rintro ds S Q U ⟨a, b, l, p0, p1, p2, rfl, hl, ⟨ra, rb, rp, la, lb⟩, h⟩
  refine ⟨rfl, ?_⟩
  have m1 : (a.length + 1) * (45 + 45 + 1) ≤ 5 * (45 + 45 + 1) := Nat.mul_le_mul_right _ (by omega)
  have m2 : a.length * (45 + 45 + 1) ≤ 4 * (45 + 45 + 1) := Nat.mul_le_mul_right _ la
  simp only [b__law_right, ↓gv_z, ↓gv_s, ↓sv_z, ↓sv_s, ↓wv_z, wv_z, ↓wv_s, wv_s, iteE_int, iteE_bl, iteE_str, iteE_lst, iteE_same, iteE_c1, iteE_c2, iteE_1, iteE_0, iteT_1, iteT_0, andT_1, andT_0, orT_1, orT_0, andE_1, andE_0, orE_1, orE_0, iteS_1, iteS_0, andE_bl, andE_c, orE_bl, orE_c, iteT_v, iteT_c1, iteT_c2, andT_v, andT_c, orT_v, orT_c, iteS_v, iteS_c1, iteS_c2, iteS_r1, iteS_r2, joinS_n, joinS_same, joinS_int, joinS_bl, ixS_s, ↓e_v, ↓e_N, ↓e_B, ↓e_I, ↓e_S, ↓e_gl, ↓e_add, ↓e_sub, ↓e_mul, ↓e_fdiv, ↓e_mod, ↓e_pow, ↓e_neg, ↓e_cmp, ↓bP_b, ↓t_cmp, ↓e_cmp2, ↓t_cmp2, ↓e_and1, ↓e_and2, ↓t_and1, ↓t_and2, ↓e_or1, ↓e_or2, ↓t_or1, ↓t_or2, ↓e_not, ↓t_not, ↓e_ite, ↓t_ite, ↓e_tup, ↓e_lst, ↓e_dct, ↓e_ix, ↓e_sl, ↓e_slr, ↓e_call, ↓e_bi, ↓e_mt, ↓e_lc, ↓e_frz, ↓t_frz, ↓t_v, ↓t_B, ↓t_N, ↓t_I, ↓t_ix, ↓t_bin, ↓t_call, ↓t_bi, ↓t_sl, ↓t_lc, ↓a_n, ↓a_c, ↓if_n, ↓if_1, ↓o_n, ↓iP_i, ↓o_s, ↓i_val, ↓i_r1, ↓i_r2, ↓i_r3, ↓i_enum, ↓i_zip, ↓i_rev, ↓add_i, ↓add_s, ↓add_t, ↓sub_i, ↓mul_i, ↓fdiv_i, ↓mod_i, ↓pow_i, ↓neg_i, ↓eq_i, ↓eq_s, ↓eq_b, ↓ne_i, ↓ne_s, ↓ne_b, ↓lt_i, ↓le_i, ↓gt_i, ↓ge_i, ↓is_N, ↓no_N, ↓tr_b, ↓tr_i, ↓tr_n, ↓tr_t, ↓tr_l, ↓ix_t, ↓ix_l, ↓ix_rl, ↓at_0, ↓at_1, ↓at_2, ↓at_3, ↓s_n, ↓s_c, ↓s_asg, ↓s_asgL, ↓s_par, ↓s_set, ↓s_ex, ↓s_ite, ↓s_for, ↓s_wh, ↓s_ret, ↓s_retN, ↓s_pass, ↓s_brk, ↓s_rz, ↓s_cont, ↓g_nm, ↓g_tp, ↓g_n, ↓g_c, ↓par_n, ↓par_c, ↓nw_f, ↓nw_t, ↓len_l, ↓len_t, ↓abs_i, ↓int_i, ↓int_b, ↓repr_h, ↓max_i, ↓min_i, ↓st_0, ↓st_s, ↓supd_supd, ↓ix_ref, ↓set_ref, ↓fd_turn, ↓fd_left, ↓fd_at, ↓fd_cells, ↓fs_turn, ↓fs_left, ↓fs_at, ↓ne_nil, ↓len_is, map_at, ↓ix_q0, ↓ix_q1, ↓g_q, ↓len_q, ↓tr_q, ↓low_eq, ↓q1_eq, ↓q2_eq, ↓sz_0, ↓sz_1, ↓sz_2, ↓sz_3, ↓sz_4, ↓sz_5, ↓sz_6, ↓sz_7, ↓sz_8, ↓itp_t, ↓itp_l, ↓itl_l, ↓pl_2, ↓pl_3, iteE_q, joinS_q, ↓eq_q, ↓ne_q, ↓ixC_l, ↓frz_ref, ↓tup_l, ↓tup_t, ↓lst_l, ↓lst_t, ↓sl_t, ↓slr_t, ↓mul_l, ↓add_l, ↓ifs_0, gsl_nm, gsl_tp, gsl_n, gsl_c, wipe_n, wipe_c, List.replicate, Option.map_some, decide_eq_true_eq, ↓reduceIte, Bool.false_eq_true, Bool.not_eq_eq_eq_not, Bool.not_true, Bool.not_false, true_and, forall_const, Bool.and_eq_true, Bool.or_eq_true, decide_eq_false_iff_not, not_true_eq_false, not_false_eq_true, decide_true, decide_false]
  refine use_law_product 45 45 ⟨ra, rb, by omega, by omega⟩ fun f f1 f2 f3 => ?_
  simp only [lsx_sl hl, ↓gv_z, ↓gv_s, ↓sv_z, ↓sv_s, ↓wv_z, wv_z, ↓wv_s, wv_s, iteE_int, iteE_bl, iteE_str, iteE_lst, iteE_same, iteE_c1, iteE_c2, iteE_1, iteE_0, iteT_1, iteT_0, andT_1, andT_0, orT_1, orT_0, andE_1, andE_0, orE_1, orE_0, iteS_1, iteS_0, andE_bl, andE_c, orE_bl, orE_c, iteT_v, iteT_c1, iteT_c2, andT_v, andT_c, orT_v, orT_c, iteS_v, iteS_c1, iteS_c2, iteS_r1, iteS_r2, joinS_n, joinS_same, joinS_int, joinS_bl, ixS_s, ↓e_v, ↓e_N, ↓e_B, ↓e_I, ↓e_S, ↓e_gl, ↓e_add, ↓e_sub, ↓e_mul, ↓e_fdiv, ↓e_mod, ↓e_pow, ↓e_neg, ↓e_cmp, ↓bP_b, ↓t_cmp, ↓e_cmp2, ↓t_cmp2, ↓e_and1, ↓e_and2, ↓t_and1, ↓t_and2, ↓e_or1, ↓e_or2, ↓t_or1, ↓t_or2, ↓e_not, ↓t_not, ↓e_ite, ↓t_ite, ↓e_tup, ↓e_lst, ↓e_dct, ↓e_ix, ↓e_sl, ↓e_slr, ↓e_call, ↓e_bi, ↓e_mt, ↓e_lc, ↓e_frz, ↓t_frz, ↓t_v, ↓t_B, ↓t_N, ↓t_I, ↓t_ix, ↓t_bin, ↓t_call, ↓t_bi, ↓t_sl, ↓t_lc, ↓a_n, ↓a_c, ↓if_n, ↓if_1, ↓o_n, ↓iP_i, ↓o_s, ↓i_val, ↓i_r1, ↓i_r2, ↓i_r3, ↓i_enum, ↓i_zip, ↓i_rev, ↓add_i, ↓add_s, ↓add_t, ↓sub_i, ↓mul_i, ↓fdiv_i, ↓mod_i, ↓pow_i, ↓neg_i, ↓eq_i, ↓eq_s, ↓eq_b, ↓ne_i, ↓ne_s, ↓ne_b, ↓lt_i, ↓le_i, ↓gt_i, ↓ge_i, ↓is_N, ↓no_N, ↓tr_b, ↓tr_i, ↓tr_n, ↓tr_t, ↓tr_l, ↓ix_t, ↓ix_l, ↓ix_rl, ↓at_0, ↓at_1, ↓at_2, ↓at_3, ↓s_n, ↓s_c, ↓s_asg, ↓s_asgL, ↓s_par, ↓s_set, ↓s_ex, ↓s_ite, ↓s_for, ↓s_wh, ↓s_ret, ↓s_retN, ↓s_pass, ↓s_brk, ↓s_rz, ↓s_cont, ↓g_nm, ↓g_tp, ↓g_n, ↓g_c, ↓par_n, ↓par_c, ↓nw_f, ↓nw_t, ↓len_l, ↓len_t, ↓abs_i, ↓int_i, ↓int_b, ↓repr_h, ↓max_i, ↓min_i, ↓st_0, ↓st_s, ↓supd_supd, ↓ix_ref, ↓set_ref, ↓fd_turn, ↓fd_left, ↓fd_at, ↓fd_cells, ↓fs_turn, ↓fs_left, ↓fs_at, ↓ne_nil, ↓len_is, map_at, ↓ix_q0, ↓ix_q1, ↓g_q, ↓len_q, ↓tr_q, ↓low_eq, ↓q1_eq, ↓q2_eq, ↓sz_0, ↓sz_1, ↓sz_2, ↓sz_3, ↓sz_4, ↓sz_5, ↓sz_6, ↓sz_7, ↓sz_8, ↓itp_t, ↓itp_l, ↓itl_l, ↓pl_2, ↓pl_3, iteE_q, joinS_q, ↓eq_q, ↓ne_q, ↓ixC_l, ↓frz_ref, ↓tup_l, ↓tup_t, ↓lst_l, ↓lst_t, ↓sl_t, ↓slr_t, ↓mul_l, ↓add_l, ↓ifs_0, gsl_nm, gsl_tp, gsl_n, gsl_c, wipe_n, wipe_c, List.replicate, Option.map_some, decide_eq_true_eq, ↓reduceIte, Bool.false_eq_true, Bool.not_eq_eq_eq_not, Bool.not_true, Bool.not_false, true_and, forall_const, Bool.and_eq_true, Bool.or_eq_true, decide_eq_false_iff_not, not_true_eq_false, not_false_eq_true, decide_true, decide_false]
  have hcut : cutD ([p0, p1, p2].map frq) none (some 2) = [p0, p1].map frq := cut_to (k := 2)
  rw [hcut]
  have rb0 : ∀ {l h : Rat}, RB 45 l → RB 45 h → UnB f l h := fun hl hh => UnB_conv ra rb hl hh la lb f2 (f3.le (by omega)) (by omega)
  have rs : ∀ {x y : Rat} (c d : List Rat), RL 45 c → RL 45 d → c.length ≤ 4 → d.length ≤ 4 → RB 45 x → RB 45 y → RB 1900 (unS (conv c d) x y (c.length + d.length)) := by
    intro x y c d rc rd nc nd hx hy
    have h1 := Nat.le_trans (pdn_le rc) (Nat.pow_le_pow_right (by decide) nc)
    have h2 := Nat.le_trans (pdn_le rd) (Nat.pow_le_pow_right (by decide) nd)
    refine unS_RB (Dn := pdn c * pdn d) (Ig_conv c) (Nat.mul_ne_zero (pdn_ne c) (pdn_ne d)) (Nat.le_trans (Nat.mul_le_mul h1 h2) (by decide +kernel)) (fun k => (Ab_conv rd rc k).le ?_) hx hy (by omega)
    rw [← Rat.natCast_mul, ← Rat.natCast_mul]
    exact Rat.natCast_le_natCast.mpr (Nat.le_trans (Nat.mul_le_mul_right _ nc) (by decide +kernel))
  have rpo : ∀ {x y : Rat}, RB 45 x → RB 45 y → RB 1900 (unS (pn a) x y a.length) := by
    intro x y hx hy
    obtain ⟨Dn, i1, i2, i3, i4⟩ := (UnB_poly ra hx hy la).ex
    exact unS_RB i1 i2 i3 i4 hx hy (by omega)
  have e8 : ∀ x y : Rat, unS (pn f) x y f.length = unS (conv a b) x y (a.length + b.length) := by
    intro x y
    have e : pn f = conv a b := funext f2
    rw [e, f1]
    have := unS_far (f := conv a b) (l := x) (h := y) (n := a.length + b.length) (fun k hk => conv_far hk) (8 - (a.length + b.length))
    rw [show a.length + b.length + (8 - (a.length + b.length)) = 8 by omega] at this
    exact this
  have ec : ∀ x y : Rat, unS (conv b a) x y (b.length + a.length) = unS (conv a b) x y (a.length + b.length) := by
    intro x y
    have e : conv b a = conv a b := funext fun k => conv_comm b a k
    rw [e, Nat.add_comm]
  refine for_inv (fun ds δ S' => S' = S ∧ ∃ (ys : List Rat) (o4 o5 o6 o7 : Option D), ds = ys.map frq ∧ RL 45 ys ∧ δ = [some (plD a), some (plD b), some l, some (.lst (f.map frq)), o4, o5, o6, o7]) ?_ ?_ (fun _ _ _ _ => trivial) _ _ _ ?_
  · rintro d ds δ S' nx hnx ⟨rfl, ys, o4, o5, o6, o7, e, hy, rfl⟩
    cases ys with
    | nil => cases e
    | cons lo ys =>
      cases e
      have hlo := hy lo List.mem_cons_self
      simp only [↓gv_z, ↓gv_s, ↓sv_z, ↓sv_s, ↓wv_z, wv_z, ↓wv_s, wv_s, iteE_int, iteE_bl, iteE_str, iteE_lst, iteE_same, iteE_c1, iteE_c2, iteE_1, iteE_0, iteT_1, iteT_0, andT_1, andT_0, orT_1, orT_0, andE_1, andE_0, orE_1, orE_0, iteS_1, iteS_0, andE_bl, andE_c, orE_bl, orE_c, iteT_v, iteT_c1, iteT_c2, andT_v, andT_c, orT_v, orT_c, iteS_v, iteS_c1, iteS_c2, iteS_r1, iteS_r2, joinS_n, joinS_same, joinS_int, joinS_bl, ixS_s, ↓e_v, ↓e_N, ↓e_B, ↓e_I, ↓e_S, ↓e_gl, ↓e_add, ↓e_sub, ↓e_mul, ↓e_fdiv, ↓e_mod, ↓e_pow, ↓e_neg, ↓e_cmp, ↓bP_b, ↓t_cmp, ↓e_cmp2, ↓t_cmp2, ↓e_and1, ↓e_and2, ↓t_and1, ↓t_and2, ↓e_or1, ↓e_or2, ↓t_or1, ↓t_or2, ↓e_not, ↓t_not, ↓e_ite, ↓t_ite, ↓e_tup, ↓e_lst, ↓e_dct, ↓e_ix, ↓e_sl, ↓e_slr, ↓e_call, ↓e_bi, ↓e_mt, ↓e_lc, ↓e_frz, ↓t_frz, ↓t_v, ↓t_B, ↓t_N, ↓t_I, ↓t_ix, ↓t_bin, ↓t_call, ↓t_bi, ↓t_sl, ↓t_lc, ↓a_n, ↓a_c, ↓if_n, ↓if_1, ↓o_n, ↓iP_i, ↓o_s, ↓i_val, ↓i_r1, ↓i_r2, ↓i_r3, ↓i_enum, ↓i_zip, ↓i_rev, ↓add_i, ↓add_s, ↓add_t, ↓sub_i, ↓mul_i, ↓fdiv_i, ↓mod_i, ↓pow_i, ↓neg_i, ↓eq_i, ↓eq_s, ↓eq_b, ↓ne_i, ↓ne_s, ↓ne_b, ↓lt_i, ↓le_i, ↓gt_i, ↓ge_i, ↓is_N, ↓no_N, ↓tr_b, ↓tr_i, ↓tr_n, ↓tr_t, ↓tr_l, ↓ix_t, ↓ix_l, ↓ix_rl, ↓at_0, ↓at_1, ↓at_2, ↓at_3, ↓s_n, ↓s_c, ↓s_asg, ↓s_asgL, ↓s_par, ↓s_set, ↓s_ex, ↓s_ite, ↓s_for, ↓s_wh, ↓s_ret, ↓s_retN, ↓s_pass, ↓s_brk, ↓s_rz, ↓s_cont, ↓g_nm, ↓g_tp, ↓g_n, ↓g_c, ↓par_n, ↓par_c, ↓nw_f, ↓nw_t, ↓len_l, ↓len_t, ↓abs_i, ↓int_i, ↓int_b, ↓repr_h, ↓max_i, ↓min_i, ↓st_0, ↓st_s, ↓supd_supd, ↓ix_ref, ↓set_ref, ↓fd_turn, ↓fd_left, ↓fd_at, ↓fd_cells, ↓fs_turn, ↓fs_left, ↓fs_at, ↓ne_nil, ↓len_is, map_at, ↓ix_q0, ↓ix_q1, ↓g_q, ↓len_q, ↓tr_q, ↓low_eq, ↓q1_eq, ↓q2_eq, ↓sz_0, ↓sz_1, ↓sz_2, ↓sz_3, ↓sz_4, ↓sz_5, ↓sz_6, ↓sz_7, ↓sz_8, ↓itp_t, ↓itp_l, ↓itl_l, ↓pl_2, ↓pl_3, iteE_q, joinS_q, ↓eq_q, ↓ne_q, ↓ixC_l, ↓frz_ref, ↓tup_l, ↓tup_t, ↓lst_l, ↓lst_t, ↓sl_t, ↓slr_t, ↓mul_l, ↓add_l, ↓ifs_0, gsl_nm, gsl_tp, gsl_n, gsl_c, wipe_n, wipe_c, List.replicate, Option.map_some, decide_eq_true_eq, ↓reduceIte, Bool.false_eq_true, Bool.not_eq_eq_eq_not, Bool.not_true, Bool.not_false, true_and, forall_const, Bool.and_eq_true, Bool.or_eq_true, decide_eq_false_iff_not, not_true_eq_false, not_false_eq_true, decide_true, decide_false]
      refine lsx_ItP hl fun src hs _ => ?_
      refine for_inv (fun ds δ S'' => S'' = S' ∧ ∃ (zs : List Rat) (o5 o6 o7 : Option D), ds = zs.map frq ∧ RL 45 zs ∧ δ = [some (plD a), some (plD b), some l, some (.lst (f.map frq)), some (frq lo), o5, o6, o7]) ?_ ?_ ?_ _ _ _ ⟨rfl, [p0, p1, p2], _, _, _, rfl, rp, rfl⟩
      · rintro d ds δ S'' nx2 hnx2 ⟨rfl, zs, o5, o6, o7, e, hz, rfl⟩
        cases zs with
        | nil => cases e
        | cons hi zs =>
          cases e
          have hhi := hz hi List.mem_cons_self
          have s1 : Sh S'' (frq (unS (pn a) lo hi a.length)) (frP (unS (pn a) lo hi a.length)) 1 2 := Sh.frq ((rpo hlo hhi).le (by decide))
          have s2 : Sh S'' (frq (unS (conv a b) lo hi (a.length + b.length))) (frP (unS (conv a b) lo hi (a.length + b.length))) 1 2 := Sh.frq ((rs a b ra rb la lb hlo hhi).le (by decide))
          simp only [↓gv_z, ↓gv_s, ↓sv_z, ↓sv_s, ↓wv_z, wv_z, ↓wv_s, wv_s, iteE_int, iteE_bl, iteE_str, iteE_lst, iteE_same, iteE_c1, iteE_c2, iteE_1, iteE_0, iteT_1, iteT_0, andT_1, andT_0, orT_1, orT_0, andE_1, andE_0, orE_1, orE_0, iteS_1, iteS_0, andE_bl, andE_c, orE_bl, orE_c, iteT_v, iteT_c1, iteT_c2, andT_v, andT_c, orT_v, orT_c, iteS_v, iteS_c1, iteS_c2, iteS_r1, iteS_r2, joinS_n, joinS_same, joinS_int, joinS_bl, ixS_s, ↓e_v, ↓e_N, ↓e_B, ↓e_I, ↓e_S, ↓e_gl, ↓e_add, ↓e_sub, ↓e_mul, ↓e_fdiv, ↓e_mod, ↓e_pow, ↓e_neg, ↓e_cmp, ↓bP_b, ↓t_cmp, ↓e_cmp2, ↓t_cmp2, ↓e_and1, ↓e_and2, ↓t_and1, ↓t_and2, ↓e_or1, ↓e_or2, ↓t_or1, ↓t_or2, ↓e_not, ↓t_not, ↓e_ite, ↓t_ite, ↓e_tup, ↓e_lst, ↓e_dct, ↓e_ix, ↓e_sl, ↓e_slr, ↓e_call, ↓e_bi, ↓e_mt, ↓e_lc, ↓e_frz, ↓t_frz, ↓t_v, ↓t_B, ↓t_N, ↓t_I, ↓t_ix, ↓t_bin, ↓t_call, ↓t_bi, ↓t_sl, ↓t_lc, ↓a_n, ↓a_c, ↓if_n, ↓if_1, ↓o_n, ↓iP_i, ↓o_s, ↓i_val, ↓i_r1, ↓i_r2, ↓i_r3, ↓i_enum, ↓i_zip, ↓i_rev, ↓add_i, ↓add_s, ↓add_t, ↓sub_i, ↓mul_i, ↓fdiv_i, ↓mod_i, ↓pow_i, ↓neg_i, ↓eq_i, ↓eq_s, ↓eq_b, ↓ne_i, ↓ne_s, ↓ne_b, ↓lt_i, ↓le_i, ↓gt_i, ↓ge_i, ↓is_N, ↓no_N, ↓tr_b, ↓tr_i, ↓tr_n, ↓tr_t, ↓tr_l, ↓ix_t, ↓ix_l, ↓ix_rl, ↓at_0, ↓at_1, ↓at_2, ↓at_3, ↓s_n, ↓s_c, ↓s_asg, ↓s_asgL, ↓s_par, ↓s_set, ↓s_ex, ↓s_ite, ↓s_for, ↓s_wh, ↓s_ret, ↓s_retN, ↓s_pass, ↓s_brk, ↓s_rz, ↓s_cont, ↓g_nm, ↓g_tp, ↓g_n, ↓g_c, ↓par_n, ↓par_c, ↓nw_f, ↓nw_t, ↓len_l, ↓len_t, ↓abs_i, ↓int_i, ↓int_b, ↓repr_h, ↓max_i, ↓min_i, ↓st_0, ↓st_s, ↓supd_supd, ↓ix_ref, ↓set_ref, ↓fd_turn, ↓fd_left, ↓fd_at, ↓fd_cells, ↓fs_turn, ↓fs_left, ↓fs_at, ↓ne_nil, ↓len_is, map_at, ↓ix_q0, ↓ix_q1, ↓g_q, ↓len_q, ↓tr_q, ↓low_eq, ↓q1_eq, ↓q2_eq, ↓sz_0, ↓sz_1, ↓sz_2, ↓sz_3, ↓sz_4, ↓sz_5, ↓sz_6, ↓sz_7, ↓sz_8, ↓itp_t, ↓itp_l, ↓itl_l, ↓pl_2, ↓pl_3, iteE_q, joinS_q, ↓eq_q, ↓ne_q, ↓ixC_l, ↓frz_ref, ↓tup_l, ↓tup_t, ↓lst_l, ↓lst_t, ↓sl_t, ↓slr_t, ↓mul_l, ↓add_l, ↓ifs_0, gsl_nm, gsl_tp, gsl_n, gsl_c, wipe_n, wipe_c, List.replicate, Option.map_some, decide_eq_true_eq, ↓reduceIte, Bool.false_eq_true, Bool.not_eq_eq_eq_not, Bool.not_true, Bool.not_false, true_and, forall_const, Bool.and_eq_true, Bool.or_eq_true, decide_eq_false_iff_not, not_true_eq_false, not_false_eq_true, decide_true, decide_false]
          refine use_under_poly ⟨ra, hlo, hhi, la⟩ ?_
          simp only [↓gv_z, ↓gv_s, ↓sv_z, ↓sv_s, ↓wv_z, wv_z, ↓wv_s, wv_s, iteE_int, iteE_bl, iteE_str, iteE_lst, iteE_same, iteE_c1, iteE_c2, iteE_1, iteE_0, iteT_1, iteT_0, andT_1, andT_0, orT_1, orT_0, andE_1, andE_0, orE_1, orE_0, iteS_1, iteS_0, andE_bl, andE_c, orE_bl, orE_c, iteT_v, iteT_c1, iteT_c2, andT_v, andT_c, orT_v, orT_c, iteS_v, iteS_c1, iteS_c2, iteS_r1, iteS_r2, joinS_n, joinS_same, joinS_int, joinS_bl, ixS_s, ↓e_v, ↓e_N, ↓e_B, ↓e_I, ↓e_S, ↓e_gl, ↓e_add, ↓e_sub, ↓e_mul, ↓e_fdiv, ↓e_mod, ↓e_pow, ↓e_neg, ↓e_cmp, ↓bP_b, ↓t_cmp, ↓e_cmp2, ↓t_cmp2, ↓e_and1, ↓e_and2, ↓t_and1, ↓t_and2, ↓e_or1, ↓e_or2, ↓t_or1, ↓t_or2, ↓e_not, ↓t_not, ↓e_ite, ↓t_ite, ↓e_tup, ↓e_lst, ↓e_dct, ↓e_ix, ↓e_sl, ↓e_slr, ↓e_call, ↓e_bi, ↓e_mt, ↓e_lc, ↓e_frz, ↓t_frz, ↓t_v, ↓t_B, ↓t_N, ↓t_I, ↓t_ix, ↓t_bin, ↓t_call, ↓t_bi, ↓t_sl, ↓t_lc, ↓a_n, ↓a_c, ↓if_n, ↓if_1, ↓o_n, ↓iP_i, ↓o_s, ↓i_val, ↓i_r1, ↓i_r2, ↓i_r3, ↓i_enum, ↓i_zip, ↓i_rev, ↓add_i, ↓add_s, ↓add_t, ↓sub_i, ↓mul_i, ↓fdiv_i, ↓mod_i, ↓pow_i, ↓neg_i, ↓eq_i, ↓eq_s, ↓eq_b, ↓ne_i, ↓ne_s, ↓ne_b, ↓lt_i, ↓le_i, ↓gt_i, ↓ge_i, ↓is_N, ↓no_N, ↓tr_b, ↓tr_i, ↓tr_n, ↓tr_t, ↓tr_l, ↓ix_t, ↓ix_l, ↓ix_rl, ↓at_0, ↓at_1, ↓at_2, ↓at_3, ↓s_n, ↓s_c, ↓s_asg, ↓s_asgL, ↓s_par, ↓s_set, ↓s_ex, ↓s_ite, ↓s_for, ↓s_wh, ↓s_ret, ↓s_retN, ↓s_pass, ↓s_brk, ↓s_rz, ↓s_cont, ↓g_nm, ↓g_tp, ↓g_n, ↓g_c, ↓par_n, ↓par_c, ↓nw_f, ↓nw_t, ↓len_l, ↓len_t, ↓abs_i, ↓int_i, ↓int_b, ↓repr_h, ↓max_i, ↓min_i, ↓st_0, ↓st_s, ↓supd_supd, ↓ix_ref, ↓set_ref, ↓fd_turn, ↓fd_left, ↓fd_at, ↓fd_cells, ↓fs_turn, ↓fs_left, ↓fs_at, ↓ne_nil, ↓len_is, map_at, ↓ix_q0, ↓ix_q1, ↓g_q, ↓len_q, ↓tr_q, ↓low_eq, ↓q1_eq, ↓q2_eq, ↓sz_0, ↓sz_1, ↓sz_2, ↓sz_3, ↓sz_4, ↓sz_5, ↓sz_6, ↓sz_7, ↓sz_8, ↓itp_t, ↓itp_l, ↓itl_l, ↓pl_2, ↓pl_3, iteE_q, joinS_q, ↓eq_q, ↓ne_q, ↓ixC_l, ↓frz_ref, ↓tup_l, ↓tup_t, ↓lst_l, ↓lst_t, ↓sl_t, ↓slr_t, ↓mul_l, ↓add_l, ↓ifs_0, gsl_nm, gsl_tp, gsl_n, gsl_c, wipe_n, wipe_c, List.replicate, Option.map_some, decide_eq_true_eq, ↓reduceIte, Bool.false_eq_true, Bool.not_eq_eq_eq_not, Bool.not_true, Bool.not_false, true_and, forall_const, Bool.and_eq_true, Bool.or_eq_true, decide_eq_false_iff_not, not_true_eq_false, not_false_eq_true, decide_true, decide_false]
          refine s1.repr (by decide) (by decide) ?_
          simp only [↓gv_z, ↓gv_s, ↓sv_z, ↓sv_s, ↓wv_z, wv_z, ↓wv_s, wv_s, iteE_int, iteE_bl, iteE_str, iteE_lst, iteE_same, iteE_c1, iteE_c2, iteE_1, iteE_0, iteT_1, iteT_0, andT_1, andT_0, orT_1, orT_0, andE_1, andE_0, orE_1, orE_0, iteS_1, iteS_0, andE_bl, andE_c, orE_bl, orE_c, iteT_v, iteT_c1, iteT_c2, andT_v, andT_c, orT_v, orT_c, iteS_v, iteS_c1, iteS_c2, iteS_r1, iteS_r2, joinS_n, joinS_same, joinS_int, joinS_bl, ixS_s, ↓e_v, ↓e_N, ↓e_B, ↓e_I, ↓e_S, ↓e_gl, ↓e_add, ↓e_sub, ↓e_mul, ↓e_fdiv, ↓e_mod, ↓e_pow, ↓e_neg, ↓e_cmp, ↓bP_b, ↓t_cmp, ↓e_cmp2, ↓t_cmp2, ↓e_and1, ↓e_and2, ↓t_and1, ↓t_and2, ↓e_or1, ↓e_or2, ↓t_or1, ↓t_or2, ↓e_not, ↓t_not, ↓e_ite, ↓t_ite, ↓e_tup, ↓e_lst, ↓e_dct, ↓e_ix, ↓e_sl, ↓e_slr, ↓e_call, ↓e_bi, ↓e_mt, ↓e_lc, ↓e_frz, ↓t_frz, ↓t_v, ↓t_B, ↓t_N, ↓t_I, ↓t_ix, ↓t_bin, ↓t_call, ↓t_bi, ↓t_sl, ↓t_lc, ↓a_n, ↓a_c, ↓if_n, ↓if_1, ↓o_n, ↓iP_i, ↓o_s, ↓i_val, ↓i_r1, ↓i_r2, ↓i_r3, ↓i_enum, ↓i_zip, ↓i_rev, ↓add_i, ↓add_s, ↓add_t, ↓sub_i, ↓mul_i, ↓fdiv_i, ↓mod_i, ↓pow_i, ↓neg_i, ↓eq_i, ↓eq_s, ↓eq_b, ↓ne_i, ↓ne_s, ↓ne_b, ↓lt_i, ↓le_i, ↓gt_i, ↓ge_i, ↓is_N, ↓no_N, ↓tr_b, ↓tr_i, ↓tr_n, ↓tr_t, ↓tr_l, ↓ix_t, ↓ix_l, ↓ix_rl, ↓at_0, ↓at_1, ↓at_2, ↓at_3, ↓s_n, ↓s_c, ↓s_asg, ↓s_asgL, ↓s_par, ↓s_set, ↓s_ex, ↓s_ite, ↓s_for, ↓s_wh, ↓s_ret, ↓s_retN, ↓s_pass, ↓s_brk, ↓s_rz, ↓s_cont, ↓g_nm, ↓g_tp, ↓g_n, ↓g_c, ↓par_n, ↓par_c, ↓nw_f, ↓nw_t, ↓len_l, ↓len_t, ↓abs_i, ↓int_i, ↓int_b, ↓repr_h, ↓max_i, ↓min_i, ↓st_0, ↓st_s, ↓supd_supd, ↓ix_ref, ↓set_ref, ↓fd_turn, ↓fd_left, ↓fd_at, ↓fd_cells, ↓fs_turn, ↓fs_left, ↓fs_at, ↓ne_nil, ↓len_is, map_at, ↓ix_q0, ↓ix_q1, ↓g_q, ↓len_q, ↓tr_q, ↓low_eq, ↓q1_eq, ↓q2_eq, ↓sz_0, ↓sz_1, ↓sz_2, ↓sz_3, ↓sz_4, ↓sz_5, ↓sz_6, ↓sz_7, ↓sz_8, ↓itp_t, ↓itp_l, ↓itl_l, ↓pl_2, ↓pl_3, iteE_q, joinS_q, ↓eq_q, ↓ne_q, ↓ixC_l, ↓frz_ref, ↓tup_l, ↓tup_t, ↓lst_l, ↓lst_t, ↓sl_t, ↓slr_t, ↓mul_l, ↓add_l, ↓ifs_0, gsl_nm, gsl_tp, gsl_n, gsl_c, wipe_n, wipe_c, List.replicate, Option.map_some, decide_eq_true_eq, ↓reduceIte, Bool.false_eq_true, Bool.not_eq_eq_eq_not, Bool.not_true, Bool.not_false, true_and, forall_const, Bool.and_eq_true, Bool.or_eq_true, decide_eq_false_iff_not, not_true_eq_false, not_false_eq_true, decide_true, decide_false]
          refine use_law_beneath (ns := a) rfl (UnB_poly ra hlo hhi la) ?_
          simp only [↓gv_z, ↓gv_s, ↓sv_z, ↓sv_s, ↓wv_z, wv_z, ↓wv_s, wv_s, iteE_int, iteE_bl, iteE_str, iteE_lst, iteE_same, iteE_c1, iteE_c2, iteE_1, iteE_0, iteT_1, iteT_0, andT_1, andT_0, orT_1, orT_0, andE_1, andE_0, orE_1, orE_0, iteS_1, iteS_0, andE_bl, andE_c, orE_bl, orE_c, iteT_v, iteT_c1, iteT_c2, andT_v, andT_c, orT_v, orT_c, iteS_v, iteS_c1, iteS_c2, iteS_r1, iteS_r2, joinS_n, joinS_same, joinS_int, joinS_bl, ixS_s, ↓e_v, ↓e_N, ↓e_B, ↓e_I, ↓e_S, ↓e_gl, ↓e_add, ↓e_sub, ↓e_mul, ↓e_fdiv, ↓e_mod, ↓e_pow, ↓e_neg, ↓e_cmp, ↓bP_b, ↓t_cmp, ↓e_cmp2, ↓t_cmp2, ↓e_and1, ↓e_and2, ↓t_and1, ↓t_and2, ↓e_or1, ↓e_or2, ↓t_or1, ↓t_or2, ↓e_not, ↓t_not, ↓e_ite, ↓t_ite, ↓e_tup, ↓e_lst, ↓e_dct, ↓e_ix, ↓e_sl, ↓e_slr, ↓e_call, ↓e_bi, ↓e_mt, ↓e_lc, ↓e_frz, ↓t_frz, ↓t_v, ↓t_B, ↓t_N, ↓t_I, ↓t_ix, ↓t_bin, ↓t_call, ↓t_bi, ↓t_sl, ↓t_lc, ↓a_n, ↓a_c, ↓if_n, ↓if_1, ↓o_n, ↓iP_i, ↓o_s, ↓i_val, ↓i_r1, ↓i_r2, ↓i_r3, ↓i_enum, ↓i_zip, ↓i_rev, ↓add_i, ↓add_s, ↓add_t, ↓sub_i, ↓mul_i, ↓fdiv_i, ↓mod_i, ↓pow_i, ↓neg_i, ↓eq_i, ↓eq_s, ↓eq_b, ↓ne_i, ↓ne_s, ↓ne_b, ↓lt_i, ↓le_i, ↓gt_i, ↓ge_i, ↓is_N, ↓no_N, ↓tr_b, ↓tr_i, ↓tr_n, ↓tr_t, ↓tr_l, ↓ix_t, ↓ix_l, ↓ix_rl, ↓at_0, ↓at_1, ↓at_2, ↓at_3, ↓s_n, ↓s_c, ↓s_asg, ↓s_asgL, ↓s_par, ↓s_set, ↓s_ex, ↓s_ite, ↓s_for, ↓s_wh, ↓s_ret, ↓s_retN, ↓s_pass, ↓s_brk, ↓s_rz, ↓s_cont, ↓g_nm, ↓g_tp, ↓g_n, ↓g_c, ↓par_n, ↓par_c, ↓nw_f, ↓nw_t, ↓len_l, ↓len_t, ↓abs_i, ↓int_i, ↓int_b, ↓repr_h, ↓max_i, ↓min_i, ↓st_0, ↓st_s, ↓supd_supd, ↓ix_ref, ↓set_ref, ↓fd_turn, ↓fd_left, ↓fd_at, ↓fd_cells, ↓fs_turn, ↓fs_left, ↓fs_at, ↓ne_nil, ↓len_is, map_at, ↓ix_q0, ↓ix_q1, ↓g_q, ↓len_q, ↓tr_q, ↓low_eq, ↓q1_eq, ↓q2_eq, ↓sz_0, ↓sz_1, ↓sz_2, ↓sz_3, ↓sz_4, ↓sz_5, ↓sz_6, ↓sz_7, ↓sz_8, ↓itp_t, ↓itp_l, ↓itl_l, ↓pl_2, ↓pl_3, iteE_q, joinS_q, ↓eq_q, ↓ne_q, ↓ixC_l, ↓frz_ref, ↓tup_l, ↓tup_t, ↓lst_l, ↓lst_t, ↓sl_t, ↓slr_t, ↓mul_l, ↓add_l, ↓ifs_0, gsl_nm, gsl_tp, gsl_n, gsl_c, wipe_n, wipe_c, List.replicate, Option.map_some, decide_eq_true_eq, ↓reduceIte, Bool.false_eq_true, Bool.not_eq_eq_eq_not, Bool.not_true, Bool.not_false, true_and, forall_const, Bool.and_eq_true, Bool.or_eq_true, decide_eq_false_iff_not, not_true_eq_false, not_false_eq_true, decide_true, decide_false]
          refine s1.repr (by decide) (by decide) ?_
          simp only [↓gv_z, ↓gv_s, ↓sv_z, ↓sv_s, ↓wv_z, wv_z, ↓wv_s, wv_s, iteE_int, iteE_bl, iteE_str, iteE_lst, iteE_same, iteE_c1, iteE_c2, iteE_1, iteE_0, iteT_1, iteT_0, andT_1, andT_0, orT_1, orT_0, andE_1, andE_0, orE_1, orE_0, iteS_1, iteS_0, andE_bl, andE_c, orE_bl, orE_c, iteT_v, iteT_c1, iteT_c2, andT_v, andT_c, orT_v, orT_c, iteS_v, iteS_c1, iteS_c2, iteS_r1, iteS_r2, joinS_n, joinS_same, joinS_int, joinS_bl, ixS_s, ↓e_v, ↓e_N, ↓e_B, ↓e_I, ↓e_S, ↓e_gl, ↓e_add, ↓e_sub, ↓e_mul, ↓e_fdiv, ↓e_mod, ↓e_pow, ↓e_neg, ↓e_cmp, ↓bP_b, ↓t_cmp, ↓e_cmp2, ↓t_cmp2, ↓e_and1, ↓e_and2, ↓t_and1, ↓t_and2, ↓e_or1, ↓e_or2, ↓t_or1, ↓t_or2, ↓e_not, ↓t_not, ↓e_ite, ↓t_ite, ↓e_tup, ↓e_lst, ↓e_dct, ↓e_ix, ↓e_sl, ↓e_slr, ↓e_call, ↓e_bi, ↓e_mt, ↓e_lc, ↓e_frz, ↓t_frz, ↓t_v, ↓t_B, ↓t_N, ↓t_I, ↓t_ix, ↓t_bin, ↓t_call, ↓t_bi, ↓t_sl, ↓t_lc, ↓a_n, ↓a_c, ↓if_n, ↓if_1, ↓o_n, ↓iP_i, ↓o_s, ↓i_val, ↓i_r1, ↓i_r2, ↓i_r3, ↓i_enum, ↓i_zip, ↓i_rev, ↓add_i, ↓add_s, ↓add_t, ↓sub_i, ↓mul_i, ↓fdiv_i, ↓mod_i, ↓pow_i, ↓neg_i, ↓eq_i, ↓eq_s, ↓eq_b, ↓ne_i, ↓ne_s, ↓ne_b, ↓lt_i, ↓le_i, ↓gt_i, ↓ge_i, ↓is_N, ↓no_N, ↓tr_b, ↓tr_i, ↓tr_n, ↓tr_t, ↓tr_l, ↓ix_t, ↓ix_l, ↓ix_rl, ↓at_0, ↓at_1, ↓at_2, ↓at_3, ↓s_n, ↓s_c, ↓s_asg, ↓s_asgL, ↓s_par, ↓s_set, ↓s_ex, ↓s_ite, ↓s_for, ↓s_wh, ↓s_ret, ↓s_retN, ↓s_pass, ↓s_brk, ↓s_rz, ↓s_cont, ↓g_nm, ↓g_tp, ↓g_n, ↓g_c, ↓par_n, ↓par_c, ↓nw_f, ↓nw_t, ↓len_l, ↓len_t, ↓abs_i, ↓int_i, ↓int_b, ↓repr_h, ↓max_i, ↓min_i, ↓st_0, ↓st_s, ↓supd_supd, ↓ix_ref, ↓set_ref, ↓fd_turn, ↓fd_left, ↓fd_at, ↓fd_cells, ↓fs_turn, ↓fs_left, ↓fs_at, ↓ne_nil, ↓len_is, map_at, ↓ix_q0, ↓ix_q1, ↓g_q, ↓len_q, ↓tr_q, ↓low_eq, ↓q1_eq, ↓q2_eq, ↓sz_0, ↓sz_1, ↓sz_2, ↓sz_3, ↓sz_4, ↓sz_5, ↓sz_6, ↓sz_7, ↓sz_8, ↓itp_t, ↓itp_l, ↓itl_l, ↓pl_2, ↓pl_3, iteE_q, joinS_q, ↓eq_q, ↓ne_q, ↓ixC_l, ↓frz_ref, ↓tup_l, ↓tup_t, ↓lst_l, ↓lst_t, ↓sl_t, ↓slr_t, ↓mul_l, ↓add_l, ↓ifs_0, gsl_nm, gsl_tp, gsl_n, gsl_c, wipe_n, wipe_c, List.replicate, Option.map_some, decide_eq_true_eq, ↓reduceIte, Bool.false_eq_true, Bool.not_eq_eq_eq_not, Bool.not_true, Bool.not_false, true_and, forall_const, Bool.and_eq_true, Bool.or_eq_true, decide_eq_false_iff_not, not_true_eq_false, not_false_eq_true, decide_true, decide_false]
          refine use_law_beneath (ns := f) rfl (rb0 hlo hhi) ?_
          rw [e8]
          simp only [↓gv_z, ↓gv_s, ↓sv_z, ↓sv_s, ↓wv_z, wv_z, ↓wv_s, wv_s, iteE_int, iteE_bl, iteE_str, iteE_lst, iteE_same, iteE_c1, iteE_c2, iteE_1, iteE_0, iteT_1, iteT_0, andT_1, andT_0, orT_1, orT_0, andE_1, andE_0, orE_1, orE_0, iteS_1, iteS_0, andE_bl, andE_c, orE_bl, orE_c, iteT_v, iteT_c1, iteT_c2, andT_v, andT_c, orT_v, orT_c, iteS_v, iteS_c1, iteS_c2, iteS_r1, iteS_r2, joinS_n, joinS_same, joinS_int, joinS_bl, ixS_s, ↓e_v, ↓e_N, ↓e_B, ↓e_I, ↓e_S, ↓e_gl, ↓e_add, ↓e_sub, ↓e_mul, ↓e_fdiv, ↓e_mod, ↓e_pow, ↓e_neg, ↓e_cmp, ↓bP_b, ↓t_cmp, ↓e_cmp2, ↓t_cmp2, ↓e_and1, ↓e_and2, ↓t_and1, ↓t_and2, ↓e_or1, ↓e_or2, ↓t_or1, ↓t_or2, ↓e_not, ↓t_not, ↓e_ite, ↓t_ite, ↓e_tup, ↓e_lst, ↓e_dct, ↓e_ix, ↓e_sl, ↓e_slr, ↓e_call, ↓e_bi, ↓e_mt, ↓e_lc, ↓e_frz, ↓t_frz, ↓t_v, ↓t_B, ↓t_N, ↓t_I, ↓t_ix, ↓t_bin, ↓t_call, ↓t_bi, ↓t_sl, ↓t_lc, ↓a_n, ↓a_c, ↓if_n, ↓if_1, ↓o_n, ↓iP_i, ↓o_s, ↓i_val, ↓i_r1, ↓i_r2, ↓i_r3, ↓i_enum, ↓i_zip, ↓i_rev, ↓add_i, ↓add_s, ↓add_t, ↓sub_i, ↓mul_i, ↓fdiv_i, ↓mod_i, ↓pow_i, ↓neg_i, ↓eq_i, ↓eq_s, ↓eq_b, ↓ne_i, ↓ne_s, ↓ne_b, ↓lt_i, ↓le_i, ↓gt_i, ↓ge_i, ↓is_N, ↓no_N, ↓tr_b, ↓tr_i, ↓tr_n, ↓tr_t, ↓tr_l, ↓ix_t, ↓ix_l, ↓ix_rl, ↓at_0, ↓at_1, ↓at_2, ↓at_3, ↓s_n, ↓s_c, ↓s_asg, ↓s_asgL, ↓s_par, ↓s_set, ↓s_ex, ↓s_ite, ↓s_for, ↓s_wh, ↓s_ret, ↓s_retN, ↓s_pass, ↓s_brk, ↓s_rz, ↓s_cont, ↓g_nm, ↓g_tp, ↓g_n, ↓g_c, ↓par_n, ↓par_c, ↓nw_f, ↓nw_t, ↓len_l, ↓len_t, ↓abs_i, ↓int_i, ↓int_b, ↓repr_h, ↓max_i, ↓min_i, ↓st_0, ↓st_s, ↓supd_supd, ↓ix_ref, ↓set_ref, ↓fd_turn, ↓fd_left, ↓fd_at, ↓fd_cells, ↓fs_turn, ↓fs_left, ↓fs_at, ↓ne_nil, ↓len_is, map_at, ↓ix_q0, ↓ix_q1, ↓g_q, ↓len_q, ↓tr_q, ↓low_eq, ↓q1_eq, ↓q2_eq, ↓sz_0, ↓sz_1, ↓sz_2, ↓sz_3, ↓sz_4, ↓sz_5, ↓sz_6, ↓sz_7, ↓sz_8, ↓itp_t, ↓itp_l, ↓itl_l, ↓pl_2, ↓pl_3, iteE_q, joinS_q, ↓eq_q, ↓ne_q, ↓ixC_l, ↓frz_ref, ↓tup_l, ↓tup_t, ↓lst_l, ↓lst_t, ↓sl_t, ↓slr_t, ↓mul_l, ↓add_l, ↓ifs_0, gsl_nm, gsl_tp, gsl_n, gsl_c, wipe_n, wipe_c, List.replicate, Option.map_some, decide_eq_true_eq, ↓reduceIte, Bool.false_eq_true, Bool.not_eq_eq_eq_not, Bool.not_true, Bool.not_false, true_and, forall_const, Bool.and_eq_true, Bool.or_eq_true, decide_eq_false_iff_not, not_true_eq_false, not_false_eq_true, decide_true, decide_false]
          refine s2.repr (by decide) (by decide) ?_
          simp only [↓gv_z, ↓gv_s, ↓sv_z, ↓sv_s, ↓wv_z, wv_z, ↓wv_s, wv_s, iteE_int, iteE_bl, iteE_str, iteE_lst, iteE_same, iteE_c1, iteE_c2, iteE_1, iteE_0, iteT_1, iteT_0, andT_1, andT_0, orT_1, orT_0, andE_1, andE_0, orE_1, orE_0, iteS_1, iteS_0, andE_bl, andE_c, orE_bl, orE_c, iteT_v, iteT_c1, iteT_c2, andT_v, andT_c, orT_v, orT_c, iteS_v, iteS_c1, iteS_c2, iteS_r1, iteS_r2, joinS_n, joinS_same, joinS_int, joinS_bl, ixS_s, ↓e_v, ↓e_N, ↓e_B, ↓e_I, ↓e_S, ↓e_gl, ↓e_add, ↓e_sub, ↓e_mul, ↓e_fdiv, ↓e_mod, ↓e_pow, ↓e_neg, ↓e_cmp, ↓bP_b, ↓t_cmp, ↓e_cmp2, ↓t_cmp2, ↓e_and1, ↓e_and2, ↓t_and1, ↓t_and2, ↓e_or1, ↓e_or2, ↓t_or1, ↓t_or2, ↓e_not, ↓t_not, ↓e_ite, ↓t_ite, ↓e_tup, ↓e_lst, ↓e_dct, ↓e_ix, ↓e_sl, ↓e_slr, ↓e_call, ↓e_bi, ↓e_mt, ↓e_lc, ↓e_frz, ↓t_frz, ↓t_v, ↓t_B, ↓t_N, ↓t_I, ↓t_ix, ↓t_bin, ↓t_call, ↓t_bi, ↓t_sl, ↓t_lc, ↓a_n, ↓a_c, ↓if_n, ↓if_1, ↓o_n, ↓iP_i, ↓o_s, ↓i_val, ↓i_r1, ↓i_r2, ↓i_r3, ↓i_enum, ↓i_zip, ↓i_rev, ↓add_i, ↓add_s, ↓add_t, ↓sub_i, ↓mul_i, ↓fdiv_i, ↓mod_i, ↓pow_i, ↓neg_i, ↓eq_i, ↓eq_s, ↓eq_b, ↓ne_i, ↓ne_s, ↓ne_b, ↓lt_i, ↓le_i, ↓gt_i, ↓ge_i, ↓is_N, ↓no_N, ↓tr_b, ↓tr_i, ↓tr_n, ↓tr_t, ↓tr_l, ↓ix_t, ↓ix_l, ↓ix_rl, ↓at_0, ↓at_1, ↓at_2, ↓at_3, ↓s_n, ↓s_c, ↓s_asg, ↓s_asgL, ↓s_par, ↓s_set, ↓s_ex, ↓s_ite, ↓s_for, ↓s_wh, ↓s_ret, ↓s_retN, ↓s_pass, ↓s_brk, ↓s_rz, ↓s_cont, ↓g_nm, ↓g_tp, ↓g_n, ↓g_c, ↓par_n, ↓par_c, ↓nw_f, ↓nw_t, ↓len_l, ↓len_t, ↓abs_i, ↓int_i, ↓int_b, ↓repr_h, ↓max_i, ↓min_i, ↓st_0, ↓st_s, ↓supd_supd, ↓ix_ref, ↓set_ref, ↓fd_turn, ↓fd_left, ↓fd_at, ↓fd_cells, ↓fs_turn, ↓fs_left, ↓fs_at, ↓ne_nil, ↓len_is, map_at, ↓ix_q0, ↓ix_q1, ↓g_q, ↓len_q, ↓tr_q, ↓low_eq, ↓q1_eq, ↓q2_eq, ↓sz_0, ↓sz_1, ↓sz_2, ↓sz_3, ↓sz_4, ↓sz_5, ↓sz_6, ↓sz_7, ↓sz_8, ↓itp_t, ↓itp_l, ↓itl_l, ↓pl_2, ↓pl_3, iteE_q, joinS_q, ↓eq_q, ↓ne_q, ↓ixC_l, ↓frz_ref, ↓tup_l, ↓tup_t, ↓lst_l, ↓lst_t, ↓sl_t, ↓slr_t, ↓mul_l, ↓add_l, ↓ifs_0, gsl_nm, gsl_tp, gsl_n, gsl_c, wipe_n, wipe_c, List.replicate, Option.map_some, decide_eq_true_eq, ↓reduceIte, Bool.false_eq_true, Bool.not_eq_eq_eq_not, Bool.not_true, Bool.not_false, true_and, forall_const, Bool.and_eq_true, Bool.or_eq_true, decide_eq_false_iff_not, not_true_eq_false, not_false_eq_true, decide_true, decide_false]
          refine use_under_product ⟨ra, rb, hlo, hhi, la, lb⟩ ?_
          simp only [↓gv_z, ↓gv_s, ↓sv_z, ↓sv_s, ↓wv_z, wv_z, ↓wv_s, wv_s, iteE_int, iteE_bl, iteE_str, iteE_lst, iteE_same, iteE_c1, iteE_c2, iteE_1, iteE_0, iteT_1, iteT_0, andT_1, andT_0, orT_1, orT_0, andE_1, andE_0, orE_1, orE_0, iteS_1, iteS_0, andE_bl, andE_c, orE_bl, orE_c, iteT_v, iteT_c1, iteT_c2, andT_v, andT_c, orT_v, orT_c, iteS_v, iteS_c1, iteS_c2, iteS_r1, iteS_r2, joinS_n, joinS_same, joinS_int, joinS_bl, ixS_s, ↓e_v, ↓e_N, ↓e_B, ↓e_I, ↓e_S, ↓e_gl, ↓e_add, ↓e_sub, ↓e_mul, ↓e_fdiv, ↓e_mod, ↓e_pow, ↓e_neg, ↓e_cmp, ↓bP_b, ↓t_cmp, ↓e_cmp2, ↓t_cmp2, ↓e_and1, ↓e_and2, ↓t_and1, ↓t_and2, ↓e_or1, ↓e_or2, ↓t_or1, ↓t_or2, ↓e_not, ↓t_not, ↓e_ite, ↓t_ite, ↓e_tup, ↓e_lst, ↓e_dct, ↓e_ix, ↓e_sl, ↓e_slr, ↓e_call, ↓e_bi, ↓e_mt, ↓e_lc, ↓e_frz, ↓t_frz, ↓t_v, ↓t_B, ↓t_N, ↓t_I, ↓t_ix, ↓t_bin, ↓t_call, ↓t_bi, ↓t_sl, ↓t_lc, ↓a_n, ↓a_c, ↓if_n, ↓if_1, ↓o_n, ↓iP_i, ↓o_s, ↓i_val, ↓i_r1, ↓i_r2, ↓i_r3, ↓i_enum, ↓i_zip, ↓i_rev, ↓add_i, ↓add_s, ↓add_t, ↓sub_i, ↓mul_i, ↓fdiv_i, ↓mod_i, ↓pow_i, ↓neg_i, ↓eq_i, ↓eq_s, ↓eq_b, ↓ne_i, ↓ne_s, ↓ne_b, ↓lt_i, ↓le_i, ↓gt_i, ↓ge_i, ↓is_N, ↓no_N, ↓tr_b, ↓tr_i, ↓tr_n, ↓tr_t, ↓tr_l, ↓ix_t, ↓ix_l, ↓ix_rl, ↓at_0, ↓at_1, ↓at_2, ↓at_3, ↓s_n, ↓s_c, ↓s_asg, ↓s_asgL, ↓s_par, ↓s_set, ↓s_ex, ↓s_ite, ↓s_for, ↓s_wh, ↓s_ret, ↓s_retN, ↓s_pass, ↓s_brk, ↓s_rz, ↓s_cont, ↓g_nm, ↓g_tp, ↓g_n, ↓g_c, ↓par_n, ↓par_c, ↓nw_f, ↓nw_t, ↓len_l, ↓len_t, ↓abs_i, ↓int_i, ↓int_b, ↓repr_h, ↓max_i, ↓min_i, ↓st_0, ↓st_s, ↓supd_supd, ↓ix_ref, ↓set_ref, ↓fd_turn, ↓fd_left, ↓fd_at, ↓fd_cells, ↓fs_turn, ↓fs_left, ↓fs_at, ↓ne_nil, ↓len_is, map_at, ↓ix_q0, ↓ix_q1, ↓g_q, ↓len_q, ↓tr_q, ↓low_eq, ↓q1_eq, ↓q2_eq, ↓sz_0, ↓sz_1, ↓sz_2, ↓sz_3, ↓sz_4, ↓sz_5, ↓sz_6, ↓sz_7, ↓sz_8, ↓itp_t, ↓itp_l, ↓itl_l, ↓pl_2, ↓pl_3, iteE_q, joinS_q, ↓eq_q, ↓ne_q, ↓ixC_l, ↓frz_ref, ↓tup_l, ↓tup_t, ↓lst_l, ↓lst_t, ↓sl_t, ↓slr_t, ↓mul_l, ↓add_l, ↓ifs_0, gsl_nm, gsl_tp, gsl_n, gsl_c, wipe_n, wipe_c, List.replicate, Option.map_some, decide_eq_true_eq, ↓reduceIte, Bool.false_eq_true, Bool.not_eq_eq_eq_not, Bool.not_true, Bool.not_false, true_and, forall_const, Bool.and_eq_true, Bool.or_eq_true, decide_eq_false_iff_not, not_true_eq_false, not_false_eq_true, decide_true, decide_false]
          refine s2.repr (by decide) (by decide) ?_
          simp only [↓gv_z, ↓gv_s, ↓sv_z, ↓sv_s, ↓wv_z, wv_z, ↓wv_s, wv_s, iteE_int, iteE_bl, iteE_str, iteE_lst, iteE_same, iteE_c1, iteE_c2, iteE_1, iteE_0, iteT_1, iteT_0, andT_1, andT_0, orT_1, orT_0, andE_1, andE_0, orE_1, orE_0, iteS_1, iteS_0, andE_bl, andE_c, orE_bl, orE_c, iteT_v, iteT_c1, iteT_c2, andT_v, andT_c, orT_v, orT_c, iteS_v, iteS_c1, iteS_c2, iteS_r1, iteS_r2, joinS_n, joinS_same, joinS_int, joinS_bl, ixS_s, ↓e_v, ↓e_N, ↓e_B, ↓e_I, ↓e_S, ↓e_gl, ↓e_add, ↓e_sub, ↓e_mul, ↓e_fdiv, ↓e_mod, ↓e_pow, ↓e_neg, ↓e_cmp, ↓bP_b, ↓t_cmp, ↓e_cmp2, ↓t_cmp2, ↓e_and1, ↓e_and2, ↓t_and1, ↓t_and2, ↓e_or1, ↓e_or2, ↓t_or1, ↓t_or2, ↓e_not, ↓t_not, ↓e_ite, ↓t_ite, ↓e_tup, ↓e_lst, ↓e_dct, ↓e_ix, ↓e_sl, ↓e_slr, ↓e_call, ↓e_bi, ↓e_mt, ↓e_lc, ↓e_frz, ↓t_frz, ↓t_v, ↓t_B, ↓t_N, ↓t_I, ↓t_ix, ↓t_bin, ↓t_call, ↓t_bi, ↓t_sl, ↓t_lc, ↓a_n, ↓a_c, ↓if_n, ↓if_1, ↓o_n, ↓iP_i, ↓o_s, ↓i_val, ↓i_r1, ↓i_r2, ↓i_r3, ↓i_enum, ↓i_zip, ↓i_rev, ↓add_i, ↓add_s, ↓add_t, ↓sub_i, ↓mul_i, ↓fdiv_i, ↓mod_i, ↓pow_i, ↓neg_i, ↓eq_i, ↓eq_s, ↓eq_b, ↓ne_i, ↓ne_s, ↓ne_b, ↓lt_i, ↓le_i, ↓gt_i, ↓ge_i, ↓is_N, ↓no_N, ↓tr_b, ↓tr_i, ↓tr_n, ↓tr_t, ↓tr_l, ↓ix_t, ↓ix_l, ↓ix_rl, ↓at_0, ↓at_1, ↓at_2, ↓at_3, ↓s_n, ↓s_c, ↓s_asg, ↓s_asgL, ↓s_par, ↓s_set, ↓s_ex, ↓s_ite, ↓s_for, ↓s_wh, ↓s_ret, ↓s_retN, ↓s_pass, ↓s_brk, ↓s_rz, ↓s_cont, ↓g_nm, ↓g_tp, ↓g_n, ↓g_c, ↓par_n, ↓par_c, ↓nw_f, ↓nw_t, ↓len_l, ↓len_t, ↓abs_i, ↓int_i, ↓int_b, ↓repr_h, ↓max_i, ↓min_i, ↓st_0, ↓st_s, ↓supd_supd, ↓ix_ref, ↓set_ref, ↓fd_turn, ↓fd_left, ↓fd_at, ↓fd_cells, ↓fs_turn, ↓fs_left, ↓fs_at, ↓ne_nil, ↓len_is, map_at, ↓ix_q0, ↓ix_q1, ↓g_q, ↓len_q, ↓tr_q, ↓low_eq, ↓q1_eq, ↓q2_eq, ↓sz_0, ↓sz_1, ↓sz_2, ↓sz_3, ↓sz_4, ↓sz_5, ↓sz_6, ↓sz_7, ↓sz_8, ↓itp_t, ↓itp_l, ↓itl_l, ↓pl_2, ↓pl_3, iteE_q, joinS_q, ↓eq_q, ↓ne_q, ↓ixC_l, ↓frz_ref, ↓tup_l, ↓tup_t, ↓lst_l, ↓lst_t, ↓sl_t, ↓slr_t, ↓mul_l, ↓add_l, ↓ifs_0, gsl_nm, gsl_tp, gsl_n, gsl_c, wipe_n, wipe_c, List.replicate, Option.map_some, decide_eq_true_eq, ↓reduceIte, Bool.false_eq_true, Bool.not_eq_eq_eq_not, Bool.not_true, Bool.not_false, true_and, forall_const, Bool.and_eq_true, Bool.or_eq_true, decide_eq_false_iff_not, not_true_eq_false, not_false_eq_true, decide_true, decide_false]
          refine use_under_product ⟨rb, ra, hlo, hhi, lb, la⟩ ?_
          rw [ec]
          simp only [↓gv_z, ↓gv_s, ↓sv_z, ↓sv_s, ↓wv_z, wv_z, ↓wv_s, wv_s, iteE_int, iteE_bl, iteE_str, iteE_lst, iteE_same, iteE_c1, iteE_c2, iteE_1, iteE_0, iteT_1, iteT_0, andT_1, andT_0, orT_1, orT_0, andE_1, andE_0, orE_1, orE_0, iteS_1, iteS_0, andE_bl, andE_c, orE_bl, orE_c, iteT_v, iteT_c1, iteT_c2, andT_v, andT_c, orT_v, orT_c, iteS_v, iteS_c1, iteS_c2, iteS_r1, iteS_r2, joinS_n, joinS_same, joinS_int, joinS_bl, ixS_s, ↓e_v, ↓e_N, ↓e_B, ↓e_I, ↓e_S, ↓e_gl, ↓e_add, ↓e_sub, ↓e_mul, ↓e_fdiv, ↓e_mod, ↓e_pow, ↓e_neg, ↓e_cmp, ↓bP_b, ↓t_cmp, ↓e_cmp2, ↓t_cmp2, ↓e_and1, ↓e_and2, ↓t_and1, ↓t_and2, ↓e_or1, ↓e_or2, ↓t_or1, ↓t_or2, ↓e_not, ↓t_not, ↓e_ite, ↓t_ite, ↓e_tup, ↓e_lst, ↓e_dct, ↓e_ix, ↓e_sl, ↓e_slr, ↓e_call, ↓e_bi, ↓e_mt, ↓e_lc, ↓e_frz, ↓t_frz, ↓t_v, ↓t_B, ↓t_N, ↓t_I, ↓t_ix, ↓t_bin, ↓t_call, ↓t_bi, ↓t_sl, ↓t_lc, ↓a_n, ↓a_c, ↓if_n, ↓if_1, ↓o_n, ↓iP_i, ↓o_s, ↓i_val, ↓i_r1, ↓i_r2, ↓i_r3, ↓i_enum, ↓i_zip, ↓i_rev, ↓add_i, ↓add_s, ↓add_t, ↓sub_i, ↓mul_i, ↓fdiv_i, ↓mod_i, ↓pow_i, ↓neg_i, ↓eq_i, ↓eq_s, ↓eq_b, ↓ne_i, ↓ne_s, ↓ne_b, ↓lt_i, ↓le_i, ↓gt_i, ↓ge_i, ↓is_N, ↓no_N, ↓tr_b, ↓tr_i, ↓tr_n, ↓tr_t, ↓tr_l, ↓ix_t, ↓ix_l, ↓ix_rl, ↓at_0, ↓at_1, ↓at_2, ↓at_3, ↓s_n, ↓s_c, ↓s_asg, ↓s_asgL, ↓s_par, ↓s_set, ↓s_ex, ↓s_ite, ↓s_for, ↓s_wh, ↓s_ret, ↓s_retN, ↓s_pass, ↓s_brk, ↓s_rz, ↓s_cont, ↓g_nm, ↓g_tp, ↓g_n, ↓g_c, ↓par_n, ↓par_c, ↓nw_f, ↓nw_t, ↓len_l, ↓len_t, ↓abs_i, ↓int_i, ↓int_b, ↓repr_h, ↓max_i, ↓min_i, ↓st_0, ↓st_s, ↓supd_supd, ↓ix_ref, ↓set_ref, ↓fd_turn, ↓fd_left, ↓fd_at, ↓fd_cells, ↓fs_turn, ↓fs_left, ↓fs_at, ↓ne_nil, ↓len_is, map_at, ↓ix_q0, ↓ix_q1, ↓g_q, ↓len_q, ↓tr_q, ↓low_eq, ↓q1_eq, ↓q2_eq, ↓sz_0, ↓sz_1, ↓sz_2, ↓sz_3, ↓sz_4, ↓sz_5, ↓sz_6, ↓sz_7, ↓sz_8, ↓itp_t, ↓itp_l, ↓itl_l, ↓pl_2, ↓pl_3, iteE_q, joinS_q, ↓eq_q, ↓ne_q, ↓ixC_l, ↓frz_ref, ↓tup_l, ↓tup_t, ↓lst_l, ↓lst_t, ↓sl_t, ↓slr_t, ↓mul_l, ↓add_l, ↓ifs_0, gsl_nm, gsl_tp, gsl_n, gsl_c, wipe_n, wipe_c, List.replicate, Option.map_some, decide_eq_true_eq, ↓reduceIte, Bool.false_eq_true, Bool.not_eq_eq_eq_not, Bool.not_true, Bool.not_false, true_and, forall_const, Bool.and_eq_true, Bool.or_eq_true, decide_eq_false_iff_not, not_true_eq_false, not_false_eq_true, decide_true, decide_false]
          refine s2.repr (by decide) (by decide) ?_
          simp only [↓gv_z, ↓gv_s, ↓sv_z, ↓sv_s, ↓wv_z, wv_z, ↓wv_s, wv_s, iteE_int, iteE_bl, iteE_str, iteE_lst, iteE_same, iteE_c1, iteE_c2, iteE_1, iteE_0, iteT_1, iteT_0, andT_1, andT_0, orT_1, orT_0, andE_1, andE_0, orE_1, orE_0, iteS_1, iteS_0, andE_bl, andE_c, orE_bl, orE_c, iteT_v, iteT_c1, iteT_c2, andT_v, andT_c, orT_v, orT_c, iteS_v, iteS_c1, iteS_c2, iteS_r1, iteS_r2, joinS_n, joinS_same, joinS_int, joinS_bl, ixS_s, ↓e_v, ↓e_N, ↓e_B, ↓e_I, ↓e_S, ↓e_gl, ↓e_add, ↓e_sub, ↓e_mul, ↓e_fdiv, ↓e_mod, ↓e_pow, ↓e_neg, ↓e_cmp, ↓bP_b, ↓t_cmp, ↓e_cmp2, ↓t_cmp2, ↓e_and1, ↓e_and2, ↓t_and1, ↓t_and2, ↓e_or1, ↓e_or2, ↓t_or1, ↓t_or2, ↓e_not, ↓t_not, ↓e_ite, ↓t_ite, ↓e_tup, ↓e_lst, ↓e_dct, ↓e_ix, ↓e_sl, ↓e_slr, ↓e_call, ↓e_bi, ↓e_mt, ↓e_lc, ↓e_frz, ↓t_frz, ↓t_v, ↓t_B, ↓t_N, ↓t_I, ↓t_ix, ↓t_bin, ↓t_call, ↓t_bi, ↓t_sl, ↓t_lc, ↓a_n, ↓a_c, ↓if_n, ↓if_1, ↓o_n, ↓iP_i, ↓o_s, ↓i_val, ↓i_r1, ↓i_r2, ↓i_r3, ↓i_enum, ↓i_zip, ↓i_rev, ↓add_i, ↓add_s, ↓add_t, ↓sub_i, ↓mul_i, ↓fdiv_i, ↓mod_i, ↓pow_i, ↓neg_i, ↓eq_i, ↓eq_s, ↓eq_b, ↓ne_i, ↓ne_s, ↓ne_b, ↓lt_i, ↓le_i, ↓gt_i, ↓ge_i, ↓is_N, ↓no_N, ↓tr_b, ↓tr_i, ↓tr_n, ↓tr_t, ↓tr_l, ↓ix_t, ↓ix_l, ↓ix_rl, ↓at_0, ↓at_1, ↓at_2, ↓at_3, ↓s_n, ↓s_c, ↓s_asg, ↓s_asgL, ↓s_par, ↓s_set, ↓s_ex, ↓s_ite, ↓s_for, ↓s_wh, ↓s_ret, ↓s_retN, ↓s_pass, ↓s_brk, ↓s_rz, ↓s_cont, ↓g_nm, ↓g_tp, ↓g_n, ↓g_c, ↓par_n, ↓par_c, ↓nw_f, ↓nw_t, ↓len_l, ↓len_t, ↓abs_i, ↓int_i, ↓int_b, ↓repr_h, ↓max_i, ↓min_i, ↓st_0, ↓st_s, ↓supd_supd, ↓ix_ref, ↓set_ref, ↓fd_turn, ↓fd_left, ↓fd_at, ↓fd_cells, ↓fs_turn, ↓fs_left, ↓fs_at, ↓ne_nil, ↓len_is, map_at, ↓ix_q0, ↓ix_q1, ↓g_q, ↓len_q, ↓tr_q, ↓low_eq, ↓q1_eq, ↓q2_eq, ↓sz_0, ↓sz_1, ↓sz_2, ↓sz_3, ↓sz_4, ↓sz_5, ↓sz_6, ↓sz_7, ↓sz_8, ↓itp_t, ↓itp_l, ↓itl_l, ↓pl_2, ↓pl_3, iteE_q, joinS_q, ↓eq_q, ↓ne_q, ↓ixC_l, ↓frz_ref, ↓tup_l, ↓tup_t, ↓lst_l, ↓lst_t, ↓sl_t, ↓slr_t, ↓mul_l, ↓add_l, ↓ifs_0, gsl_nm, gsl_tp, gsl_n, gsl_c, wipe_n, wipe_c, List.replicate, Option.map_some, decide_eq_true_eq, ↓reduceIte, Bool.false_eq_true, Bool.not_eq_eq_eq_not, Bool.not_true, Bool.not_false, true_and, forall_const, Bool.and_eq_true, Bool.or_eq_true, decide_eq_false_iff_not, not_true_eq_false, not_false_eq_true, decide_true, decide_false]
          exact hnx2 _ _ hs ⟨rfl, zs, _, _, _, rfl, fun z m => hz z (List.mem_cons_of_mem _ m), rfl⟩
      · rintro δ S'' ⟨rfl, zs, o5, o6, o7, e, hz, rfl⟩
        simp only [↓gv_z, ↓gv_s, ↓sv_z, ↓sv_s, ↓wv_z, wv_z, ↓wv_s, wv_s, iteE_int, iteE_bl, iteE_str, iteE_lst, iteE_same, iteE_c1, iteE_c2, iteE_1, iteE_0, iteT_1, iteT_0, andT_1, andT_0, orT_1, orT_0, andE_1, andE_0, orE_1, orE_0, iteS_1, iteS_0, andE_bl, andE_c, orE_bl, orE_c, iteT_v, iteT_c1, iteT_c2, andT_v, andT_c, orT_v, orT_c, iteS_v, iteS_c1, iteS_c2, iteS_r1, iteS_r2, joinS_n, joinS_same, joinS_int, joinS_bl, ixS_s, ↓e_v, ↓e_N, ↓e_B, ↓e_I, ↓e_S, ↓e_gl, ↓e_add, ↓e_sub, ↓e_mul, ↓e_fdiv, ↓e_mod, ↓e_pow, ↓e_neg, ↓e_cmp, ↓bP_b, ↓t_cmp, ↓e_cmp2, ↓t_cmp2, ↓e_and1, ↓e_and2, ↓t_and1, ↓t_and2, ↓e_or1, ↓e_or2, ↓t_or1, ↓t_or2, ↓e_not, ↓t_not, ↓e_ite, ↓t_ite, ↓e_tup, ↓e_lst, ↓e_dct, ↓e_ix, ↓e_sl, ↓e_slr, ↓e_call, ↓e_bi, ↓e_mt, ↓e_lc, ↓e_frz, ↓t_frz, ↓t_v, ↓t_B, ↓t_N, ↓t_I, ↓t_ix, ↓t_bin, ↓t_call, ↓t_bi, ↓t_sl, ↓t_lc, ↓a_n, ↓a_c, ↓if_n, ↓if_1, ↓o_n, ↓iP_i, ↓o_s, ↓i_val, ↓i_r1, ↓i_r2, ↓i_r3, ↓i_enum, ↓i_zip, ↓i_rev, ↓add_i, ↓add_s, ↓add_t, ↓sub_i, ↓mul_i, ↓fdiv_i, ↓mod_i, ↓pow_i, ↓neg_i, ↓eq_i, ↓eq_s, ↓eq_b, ↓ne_i, ↓ne_s, ↓ne_b, ↓lt_i, ↓le_i, ↓gt_i, ↓ge_i, ↓is_N, ↓no_N, ↓tr_b, ↓tr_i, ↓tr_n, ↓tr_t, ↓tr_l, ↓ix_t, ↓ix_l, ↓ix_rl, ↓at_0, ↓at_1, ↓at_2, ↓at_3, ↓s_n, ↓s_c, ↓s_asg, ↓s_asgL, ↓s_par, ↓s_set, ↓s_ex, ↓s_ite, ↓s_for, ↓s_wh, ↓s_ret, ↓s_retN, ↓s_pass, ↓s_brk, ↓s_rz, ↓s_cont, ↓g_nm, ↓g_tp, ↓g_n, ↓g_c, ↓par_n, ↓par_c, ↓nw_f, ↓nw_t, ↓len_l, ↓len_t, ↓abs_i, ↓int_i, ↓int_b, ↓repr_h, ↓max_i, ↓min_i, ↓st_0, ↓st_s, ↓supd_supd, ↓ix_ref, ↓set_ref, ↓fd_turn, ↓fd_left, ↓fd_at, ↓fd_cells, ↓fs_turn, ↓fs_left, ↓fs_at, ↓ne_nil, ↓len_is, map_at, ↓ix_q0, ↓ix_q1, ↓g_q, ↓len_q, ↓tr_q, ↓low_eq, ↓q1_eq, ↓q2_eq, ↓sz_0, ↓sz_1, ↓sz_2, ↓sz_3, ↓sz_4, ↓sz_5, ↓sz_6, ↓sz_7, ↓sz_8, ↓itp_t, ↓itp_l, ↓itl_l, ↓pl_2, ↓pl_3, iteE_q, joinS_q, ↓eq_q, ↓ne_q, ↓ixC_l, ↓frz_ref, ↓tup_l, ↓tup_t, ↓lst_l, ↓lst_t, ↓sl_t, ↓slr_t, ↓mul_l, ↓add_l, ↓ifs_0, gsl_nm, gsl_tp, gsl_n, gsl_c, wipe_n, wipe_c, List.replicate, Option.map_some, decide_eq_true_eq, ↓reduceIte, Bool.false_eq_true, Bool.not_eq_eq_eq_not, Bool.not_true, Bool.not_false, true_and, forall_const, Bool.and_eq_true, Bool.or_eq_true, decide_eq_false_iff_not, not_true_eq_false, not_false_eq_true, decide_true, decide_false]
        exact hnx _ _ trivial ⟨rfl, ys, _, _, _, _, rfl, fun z m => hy z (List.mem_cons_of_mem _ m), rfl⟩
      · rintro _ _ _ ⟨rfl, _⟩
        exact hs
  · rintro δ S' ⟨rfl, ys, o4, o5, o6, o7, e, hy, rfl⟩
    have h0 : atI [p0, p1, p2] 0 = some p0 := at_0
    have h1 : atI [p0, p1, p2] 1 = some p1 := at_1
    have h2 : atI [p0, p1, p2] 2 = some p2 := at_2
    have q0 : RB 45 p0 := rp _ (by simp)
    have q1 : RB 45 p1 := rp _ (by simp)
    have q2 : RB 45 p2 := rp _ (by simp)
    simp only [lsx_ix hl, h0, h1, h2, ↓gv_z, ↓gv_s, ↓sv_z, ↓sv_s, ↓wv_z, wv_z, ↓wv_s, wv_s, iteE_int, iteE_bl, iteE_str, iteE_lst, iteE_same, iteE_c1, iteE_c2, iteE_1, iteE_0, iteT_1, iteT_0, andT_1, andT_0, orT_1, orT_0, andE_1, andE_0, orE_1, orE_0, iteS_1, iteS_0, andE_bl, andE_c, orE_bl, orE_c, iteT_v, iteT_c1, iteT_c2, andT_v, andT_c, orT_v, orT_c, iteS_v, iteS_c1, iteS_c2, iteS_r1, iteS_r2, joinS_n, joinS_same, joinS_int, joinS_bl, ixS_s, ↓e_v, ↓e_N, ↓e_B, ↓e_I, ↓e_S, ↓e_gl, ↓e_add, ↓e_sub, ↓e_mul, ↓e_fdiv, ↓e_mod, ↓e_pow, ↓e_neg, ↓e_cmp, ↓bP_b, ↓t_cmp, ↓e_cmp2, ↓t_cmp2, ↓e_and1, ↓e_and2, ↓t_and1, ↓t_and2, ↓e_or1, ↓e_or2, ↓t_or1, ↓t_or2, ↓e_not, ↓t_not, ↓e_ite, ↓t_ite, ↓e_tup, ↓e_lst, ↓e_dct, ↓e_ix, ↓e_sl, ↓e_slr, ↓e_call, ↓e_bi, ↓e_mt, ↓e_lc, ↓e_frz, ↓t_frz, ↓t_v, ↓t_B, ↓t_N, ↓t_I, ↓t_ix, ↓t_bin, ↓t_call, ↓t_bi, ↓t_sl, ↓t_lc, ↓a_n, ↓a_c, ↓if_n, ↓if_1, ↓o_n, ↓iP_i, ↓o_s, ↓i_val, ↓i_r1, ↓i_r2, ↓i_r3, ↓i_enum, ↓i_zip, ↓i_rev, ↓add_i, ↓add_s, ↓add_t, ↓sub_i, ↓mul_i, ↓fdiv_i, ↓mod_i, ↓pow_i, ↓neg_i, ↓eq_i, ↓eq_s, ↓eq_b, ↓ne_i, ↓ne_s, ↓ne_b, ↓lt_i, ↓le_i, ↓gt_i, ↓ge_i, ↓is_N, ↓no_N, ↓tr_b, ↓tr_i, ↓tr_n, ↓tr_t, ↓tr_l, ↓ix_t, ↓ix_l, ↓ix_rl, ↓at_0, ↓at_1, ↓at_2, ↓at_3, ↓s_n, ↓s_c, ↓s_asg, ↓s_asgL, ↓s_par, ↓s_set, ↓s_ex, ↓s_ite, ↓s_for, ↓s_wh, ↓s_ret, ↓s_retN, ↓s_pass, ↓s_brk, ↓s_rz, ↓s_cont, ↓g_nm, ↓g_tp, ↓g_n, ↓g_c, ↓par_n, ↓par_c, ↓nw_f, ↓nw_t, ↓len_l, ↓len_t, ↓abs_i, ↓int_i, ↓int_b, ↓repr_h, ↓max_i, ↓min_i, ↓st_0, ↓st_s, ↓supd_supd, ↓ix_ref, ↓set_ref, ↓fd_turn, ↓fd_left, ↓fd_at, ↓fd_cells, ↓fs_turn, ↓fs_left, ↓fs_at, ↓ne_nil, ↓len_is, map_at, ↓ix_q0, ↓ix_q1, ↓g_q, ↓len_q, ↓tr_q, ↓low_eq, ↓q1_eq, ↓q2_eq, ↓sz_0, ↓sz_1, ↓sz_2, ↓sz_3, ↓sz_4, ↓sz_5, ↓sz_6, ↓sz_7, ↓sz_8, ↓itp_t, ↓itp_l, ↓itl_l, ↓pl_2, ↓pl_3, iteE_q, joinS_q, ↓eq_q, ↓ne_q, ↓ixC_l, ↓frz_ref, ↓tup_l, ↓tup_t, ↓lst_l, ↓lst_t, ↓sl_t, ↓slr_t, ↓mul_l, ↓add_l, ↓ifs_0, gsl_nm, gsl_tp, gsl_n, gsl_c, wipe_n, wipe_c, List.replicate, Option.map_some, decide_eq_true_eq, ↓reduceIte, Bool.false_eq_true, Bool.not_eq_eq_eq_not, Bool.not_true, Bool.not_false, true_and, forall_const, Bool.and_eq_true, Bool.or_eq_true, decide_eq_false_iff_not, not_true_eq_false, not_false_eq_true, decide_true, decide_false]
    refine use_under_product ⟨ra, rb, q0, q1, la, lb⟩ ?_
    simp only [lsx_ix hl, h0, h1, h2, ↓gv_z, ↓gv_s, ↓sv_z, ↓sv_s, ↓wv_z, wv_z, ↓wv_s, wv_s, iteE_int, iteE_bl, iteE_str, iteE_lst, iteE_same, iteE_c1, iteE_c2, iteE_1, iteE_0, iteT_1, iteT_0, andT_1, andT_0, orT_1, orT_0, andE_1, andE_0, orE_1, orE_0, iteS_1, iteS_0, andE_bl, andE_c, orE_bl, orE_c, iteT_v, iteT_c1, iteT_c2, andT_v, andT_c, orT_v, orT_c, iteS_v, iteS_c1, iteS_c2, iteS_r1, iteS_r2, joinS_n, joinS_same, joinS_int, joinS_bl, ixS_s, ↓e_v, ↓e_N, ↓e_B, ↓e_I, ↓e_S, ↓e_gl, ↓e_add, ↓e_sub, ↓e_mul, ↓e_fdiv, ↓e_mod, ↓e_pow, ↓e_neg, ↓e_cmp, ↓bP_b, ↓t_cmp, ↓e_cmp2, ↓t_cmp2, ↓e_and1, ↓e_and2, ↓t_and1, ↓t_and2, ↓e_or1, ↓e_or2, ↓t_or1, ↓t_or2, ↓e_not, ↓t_not, ↓e_ite, ↓t_ite, ↓e_tup, ↓e_lst, ↓e_dct, ↓e_ix, ↓e_sl, ↓e_slr, ↓e_call, ↓e_bi, ↓e_mt, ↓e_lc, ↓e_frz, ↓t_frz, ↓t_v, ↓t_B, ↓t_N, ↓t_I, ↓t_ix, ↓t_bin, ↓t_call, ↓t_bi, ↓t_sl, ↓t_lc, ↓a_n, ↓a_c, ↓if_n, ↓if_1, ↓o_n, ↓iP_i, ↓o_s, ↓i_val, ↓i_r1, ↓i_r2, ↓i_r3, ↓i_enum, ↓i_zip, ↓i_rev, ↓add_i, ↓add_s, ↓add_t, ↓sub_i, ↓mul_i, ↓fdiv_i, ↓mod_i, ↓pow_i, ↓neg_i, ↓eq_i, ↓eq_s, ↓eq_b, ↓ne_i, ↓ne_s, ↓ne_b, ↓lt_i, ↓le_i, ↓gt_i, ↓ge_i, ↓is_N, ↓no_N, ↓tr_b, ↓tr_i, ↓tr_n, ↓tr_t, ↓tr_l, ↓ix_t, ↓ix_l, ↓ix_rl, ↓at_0, ↓at_1, ↓at_2, ↓at_3, ↓s_n, ↓s_c, ↓s_asg, ↓s_asgL, ↓s_par, ↓s_set, ↓s_ex, ↓s_ite, ↓s_for, ↓s_wh, ↓s_ret, ↓s_retN, ↓s_pass, ↓s_brk, ↓s_rz, ↓s_cont, ↓g_nm, ↓g_tp, ↓g_n, ↓g_c, ↓par_n, ↓par_c, ↓nw_f, ↓nw_t, ↓len_l, ↓len_t, ↓abs_i, ↓int_i, ↓int_b, ↓repr_h, ↓max_i, ↓min_i, ↓st_0, ↓st_s, ↓supd_supd, ↓ix_ref, ↓set_ref, ↓fd_turn, ↓fd_left, ↓fd_at, ↓fd_cells, ↓fs_turn, ↓fs_left, ↓fs_at, ↓ne_nil, ↓len_is, map_at, ↓ix_q0, ↓ix_q1, ↓g_q, ↓len_q, ↓tr_q, ↓low_eq, ↓q1_eq, ↓q2_eq, ↓sz_0, ↓sz_1, ↓sz_2, ↓sz_3, ↓sz_4, ↓sz_5, ↓sz_6, ↓sz_7, ↓sz_8, ↓itp_t, ↓itp_l, ↓itl_l, ↓pl_2, ↓pl_3, iteE_q, joinS_q, ↓eq_q, ↓ne_q, ↓ixC_l, ↓frz_ref, ↓tup_l, ↓tup_t, ↓lst_l, ↓lst_t, ↓sl_t, ↓slr_t, ↓mul_l, ↓add_l, ↓ifs_0, gsl_nm, gsl_tp, gsl_n, gsl_c, wipe_n, wipe_c, List.replicate, Option.map_some, decide_eq_true_eq, ↓reduceIte, Bool.false_eq_true, Bool.not_eq_eq_eq_not, Bool.not_true, Bool.not_false, true_and, forall_const, Bool.and_eq_true, Bool.or_eq_true, decide_eq_false_iff_not, not_true_eq_false, not_false_eq_true, decide_true, decide_false]
    refine use_under_product ⟨ra, rb, q1, q2, la, lb⟩ ?_
    simp only [lsx_ix hl, h0, h1, h2, ↓q2_ladd, ↓gv_z, ↓gv_s, ↓sv_z, ↓sv_s, ↓wv_z, wv_z, ↓wv_s, wv_s, iteE_int, iteE_bl, iteE_str, iteE_lst, iteE_same, iteE_c1, iteE_c2, iteE_1, iteE_0, iteT_1, iteT_0, andT_1, andT_0, orT_1, orT_0, andE_1, andE_0, orE_1, orE_0, iteS_1, iteS_0, andE_bl, andE_c, orE_bl, orE_c, iteT_v, iteT_c1, iteT_c2, andT_v, andT_c, orT_v, orT_c, iteS_v, iteS_c1, iteS_c2, iteS_r1, iteS_r2, joinS_n, joinS_same, joinS_int, joinS_bl, ixS_s, ↓e_v, ↓e_N, ↓e_B, ↓e_I, ↓e_S, ↓e_gl, ↓e_add, ↓e_sub, ↓e_mul, ↓e_fdiv, ↓e_mod, ↓e_pow, ↓e_neg, ↓e_cmp, ↓bP_b, ↓t_cmp, ↓e_cmp2, ↓t_cmp2, ↓e_and1, ↓e_and2, ↓t_and1, ↓t_and2, ↓e_or1, ↓e_or2, ↓t_or1, ↓t_or2, ↓e_not, ↓t_not, ↓e_ite, ↓t_ite, ↓e_tup, ↓e_lst, ↓e_dct, ↓e_ix, ↓e_sl, ↓e_slr, ↓e_call, ↓e_bi, ↓e_mt, ↓e_lc, ↓e_frz, ↓t_frz, ↓t_v, ↓t_B, ↓t_N, ↓t_I, ↓t_ix, ↓t_bin, ↓t_call, ↓t_bi, ↓t_sl, ↓t_lc, ↓a_n, ↓a_c, ↓if_n, ↓if_1, ↓o_n, ↓iP_i, ↓o_s, ↓i_val, ↓i_r1, ↓i_r2, ↓i_r3, ↓i_enum, ↓i_zip, ↓i_rev, ↓add_i, ↓add_s, ↓add_t, ↓sub_i, ↓mul_i, ↓fdiv_i, ↓mod_i, ↓pow_i, ↓neg_i, ↓eq_i, ↓eq_s, ↓eq_b, ↓ne_i, ↓ne_s, ↓ne_b, ↓lt_i, ↓le_i, ↓gt_i, ↓ge_i, ↓is_N, ↓no_N, ↓tr_b, ↓tr_i, ↓tr_n, ↓tr_t, ↓tr_l, ↓ix_t, ↓ix_l, ↓ix_rl, ↓at_0, ↓at_1, ↓at_2, ↓at_3, ↓s_n, ↓s_c, ↓s_asg, ↓s_asgL, ↓s_par, ↓s_set, ↓s_ex, ↓s_ite, ↓s_for, ↓s_wh, ↓s_ret, ↓s_retN, ↓s_pass, ↓s_brk, ↓s_rz, ↓s_cont, ↓g_nm, ↓g_tp, ↓g_n, ↓g_c, ↓par_n, ↓par_c, ↓nw_f, ↓nw_t, ↓len_l, ↓len_t, ↓abs_i, ↓int_i, ↓int_b, ↓repr_h, ↓max_i, ↓min_i, ↓st_0, ↓st_s, ↓supd_supd, ↓ix_ref, ↓set_ref, ↓fd_turn, ↓fd_left, ↓fd_at, ↓fd_cells, ↓fs_turn, ↓fs_left, ↓fs_at, ↓ne_nil, ↓len_is, map_at, ↓ix_q0, ↓ix_q1, ↓g_q, ↓len_q, ↓tr_q, ↓low_eq, ↓q1_eq, ↓q2_eq, ↓sz_0, ↓sz_1, ↓sz_2, ↓sz_3, ↓sz_4, ↓sz_5, ↓sz_6, ↓sz_7, ↓sz_8, ↓itp_t, ↓itp_l, ↓itl_l, ↓pl_2, ↓pl_3, iteE_q, joinS_q, ↓eq_q, ↓ne_q, ↓ixC_l, ↓frz_ref, ↓tup_l, ↓tup_t, ↓lst_l, ↓lst_t, ↓sl_t, ↓slr_t, ↓mul_l, ↓add_l, ↓ifs_0, gsl_nm, gsl_tp, gsl_n, gsl_c, wipe_n, wipe_c, List.replicate, Option.map_some, decide_eq_true_eq, ↓reduceIte, Bool.false_eq_true, Bool.not_eq_eq_eq_not, Bool.not_true, Bool.not_false, true_and, forall_const, Bool.and_eq_true, Bool.or_eq_true, decide_eq_false_iff_not, not_true_eq_false, not_false_eq_true, decide_true, decide_false]
    refine ⟨⟨(rs a b ra rb la lb q0 q1).le (by decide), (rs a b ra rb la lb q1 q2).le (by decide)⟩, ?_⟩
    refine use_under_product ⟨ra, rb, q0, q2, la, lb⟩ ?_
    simp only [↓gv_z, ↓gv_s, ↓sv_z, ↓sv_s, ↓wv_z, wv_z, ↓wv_s, wv_s, iteE_int, iteE_bl, iteE_str, iteE_lst, iteE_same, iteE_c1, iteE_c2, iteE_1, iteE_0, iteT_1, iteT_0, andT_1, andT_0, orT_1, orT_0, andE_1, andE_0, orE_1, orE_0, iteS_1, iteS_0, andE_bl, andE_c, orE_bl, orE_c, iteT_v, iteT_c1, iteT_c2, andT_v, andT_c, orT_v, orT_c, iteS_v, iteS_c1, iteS_c2, iteS_r1, iteS_r2, joinS_n, joinS_same, joinS_int, joinS_bl, ixS_s, ↓e_v, ↓e_N, ↓e_B, ↓e_I, ↓e_S, ↓e_gl, ↓e_add, ↓e_sub, ↓e_mul, ↓e_fdiv, ↓e_mod, ↓e_pow, ↓e_neg, ↓e_cmp, ↓bP_b, ↓t_cmp, ↓e_cmp2, ↓t_cmp2, ↓e_and1, ↓e_and2, ↓t_and1, ↓t_and2, ↓e_or1, ↓e_or2, ↓t_or1, ↓t_or2, ↓e_not, ↓t_not, ↓e_ite, ↓t_ite, ↓e_tup, ↓e_lst, ↓e_dct, ↓e_ix, ↓e_sl, ↓e_slr, ↓e_call, ↓e_bi, ↓e_mt, ↓e_lc, ↓e_frz, ↓t_frz, ↓t_v, ↓t_B, ↓t_N, ↓t_I, ↓t_ix, ↓t_bin, ↓t_call, ↓t_bi, ↓t_sl, ↓t_lc, ↓a_n, ↓a_c, ↓if_n, ↓if_1, ↓o_n, ↓iP_i, ↓o_s, ↓i_val, ↓i_r1, ↓i_r2, ↓i_r3, ↓i_enum, ↓i_zip, ↓i_rev, ↓add_i, ↓add_s, ↓add_t, ↓sub_i, ↓mul_i, ↓fdiv_i, ↓mod_i, ↓pow_i, ↓neg_i, ↓eq_i, ↓eq_s, ↓eq_b, ↓ne_i, ↓ne_s, ↓ne_b, ↓lt_i, ↓le_i, ↓gt_i, ↓ge_i, ↓is_N, ↓no_N, ↓tr_b, ↓tr_i, ↓tr_n, ↓tr_t, ↓tr_l, ↓ix_t, ↓ix_l, ↓ix_rl, ↓at_0, ↓at_1, ↓at_2, ↓at_3, ↓s_n, ↓s_c, ↓s_asg, ↓s_asgL, ↓s_par, ↓s_set, ↓s_ex, ↓s_ite, ↓s_for, ↓s_wh, ↓s_ret, ↓s_retN, ↓s_pass, ↓s_brk, ↓s_rz, ↓s_cont, ↓g_nm, ↓g_tp, ↓g_n, ↓g_c, ↓par_n, ↓par_c, ↓nw_f, ↓nw_t, ↓len_l, ↓len_t, ↓abs_i, ↓int_i, ↓int_b, ↓repr_h, ↓max_i, ↓min_i, ↓st_0, ↓st_s, ↓supd_supd, ↓ix_ref, ↓set_ref, ↓fd_turn, ↓fd_left, ↓fd_at, ↓fd_cells, ↓fs_turn, ↓fs_left, ↓fs_at, ↓ne_nil, ↓len_is, map_at, ↓ix_q0, ↓ix_q1, ↓g_q, ↓len_q, ↓tr_q, ↓low_eq, ↓q1_eq, ↓q2_eq, ↓sz_0, ↓sz_1, ↓sz_2, ↓sz_3, ↓sz_4, ↓sz_5, ↓sz_6, ↓sz_7, ↓sz_8, ↓itp_t, ↓itp_l, ↓itl_l, ↓pl_2, ↓pl_3, iteE_q, joinS_q, ↓eq_q, ↓ne_q, ↓ixC_l, ↓frz_ref, ↓tup_l, ↓tup_t, ↓lst_l, ↓lst_t, ↓sl_t, ↓slr_t, ↓mul_l, ↓add_l, ↓ifs_0, gsl_nm, gsl_tp, gsl_n, gsl_c, wipe_n, wipe_c, List.replicate, Option.map_some, decide_eq_true_eq, ↓reduceIte, Bool.false_eq_true, Bool.not_eq_eq_eq_not, Bool.not_true, Bool.not_false, true_and, forall_const, Bool.and_eq_true, Bool.or_eq_true, decide_eq_false_iff_not, not_true_eq_false, not_false_eq_true, decide_true, decide_false]
    rw [unS_split]
    simp only [↓gv_z, ↓gv_s, ↓sv_z, ↓sv_s, ↓wv_z, wv_z, ↓wv_s, wv_s, iteE_int, iteE_bl, iteE_str, iteE_lst, iteE_same, iteE_c1, iteE_c2, iteE_1, iteE_0, iteT_1, iteT_0, andT_1, andT_0, orT_1, orT_0, andE_1, andE_0, orE_1, orE_0, iteS_1, iteS_0, andE_bl, andE_c, orE_bl, orE_c, iteT_v, iteT_c1, iteT_c2, andT_v, andT_c, orT_v, orT_c, iteS_v, iteS_c1, iteS_c2, iteS_r1, iteS_r2, joinS_n, joinS_same, joinS_int, joinS_bl, ixS_s, ↓e_v, ↓e_N, ↓e_B, ↓e_I, ↓e_S, ↓e_gl, ↓e_add, ↓e_sub, ↓e_mul, ↓e_fdiv, ↓e_mod, ↓e_pow, ↓e_neg, ↓e_cmp, ↓bP_b, ↓t_cmp, ↓e_cmp2, ↓t_cmp2, ↓e_and1, ↓e_and2, ↓t_and1, ↓t_and2, ↓e_or1, ↓e_or2, ↓t_or1, ↓t_or2, ↓e_not, ↓t_not, ↓e_ite, ↓t_ite, ↓e_tup, ↓e_lst, ↓e_dct, ↓e_ix, ↓e_sl, ↓e_slr, ↓e_call, ↓e_bi, ↓e_mt, ↓e_lc, ↓e_frz, ↓t_frz, ↓t_v, ↓t_B, ↓t_N, ↓t_I, ↓t_ix, ↓t_bin, ↓t_call, ↓t_bi, ↓t_sl, ↓t_lc, ↓a_n, ↓a_c, ↓if_n, ↓if_1, ↓o_n, ↓iP_i, ↓o_s, ↓i_val, ↓i_r1, ↓i_r2, ↓i_r3, ↓i_enum, ↓i_zip, ↓i_rev, ↓add_i, ↓add_s, ↓add_t, ↓sub_i, ↓mul_i, ↓fdiv_i, ↓mod_i, ↓pow_i, ↓neg_i, ↓eq_i, ↓eq_s, ↓eq_b, ↓ne_i, ↓ne_s, ↓ne_b, ↓lt_i, ↓le_i, ↓gt_i, ↓ge_i, ↓is_N, ↓no_N, ↓tr_b, ↓tr_i, ↓tr_n, ↓tr_t, ↓tr_l, ↓ix_t, ↓ix_l, ↓ix_rl, ↓at_0, ↓at_1, ↓at_2, ↓at_3, ↓s_n, ↓s_c, ↓s_asg, ↓s_asgL, ↓s_par, ↓s_set, ↓s_ex, ↓s_ite, ↓s_for, ↓s_wh, ↓s_ret, ↓s_retN, ↓s_pass, ↓s_brk, ↓s_rz, ↓s_cont, ↓g_nm, ↓g_tp, ↓g_n, ↓g_c, ↓par_n, ↓par_c, ↓nw_f, ↓nw_t, ↓len_l, ↓len_t, ↓abs_i, ↓int_i, ↓int_b, ↓repr_h, ↓max_i, ↓min_i, ↓st_0, ↓st_s, ↓supd_supd, ↓ix_ref, ↓set_ref, ↓fd_turn, ↓fd_left, ↓fd_at, ↓fd_cells, ↓fs_turn, ↓fs_left, ↓fs_at, ↓ne_nil, ↓len_is, map_at, ↓ix_q0, ↓ix_q1, ↓g_q, ↓len_q, ↓tr_q, ↓low_eq, ↓q1_eq, ↓q2_eq, ↓sz_0, ↓sz_1, ↓sz_2, ↓sz_3, ↓sz_4, ↓sz_5, ↓sz_6, ↓sz_7, ↓sz_8, ↓itp_t, ↓itp_l, ↓itl_l, ↓pl_2, ↓pl_3, iteE_q, joinS_q, ↓eq_q, ↓ne_q, ↓ixC_l, ↓frz_ref, ↓tup_l, ↓tup_t, ↓lst_l, ↓lst_t, ↓sl_t, ↓slr_t, ↓mul_l, ↓add_l, ↓ifs_0, gsl_nm, gsl_tp, gsl_n, gsl_c, wipe_n, wipe_c, List.replicate, Option.map_some, decide_eq_true_eq, ↓reduceIte, Bool.false_eq_true, Bool.not_eq_eq_eq_not, Bool.not_true, Bool.not_false, true_and, forall_const, Bool.and_eq_true, Bool.or_eq_true, decide_eq_false_iff_not, not_true_eq_false, not_false_eq_true, decide_true, decide_false]
    exact h
  · exact ⟨rfl, [p0, p1], none, none, none, none, rfl, fun z m => rp z (by simp at m ⊢; rcases m with m | m <;> simp [m]), rfl⟩

theorem Sh.pl {S : Sto} {p : List Rat} {n : Nat} (h : RL 1920 p) (hl : p.length ≤ n) : Sh S (plD p) (plP p) 2 (3 * n) := by
  refine ((ShL.map p fun x m => Sh.frq (h x m)).tup).le (by decide) ?_
  have : (2 + 1) * p.length ≤ 3 * n := Nat.mul_le_mul_left 3 hl
  exact this
theorem Sh.ql {S : Sto} {p : List Rat} {n : Nat} (h : RL 1920 p) (hl : p.length ≤ n) : Sh S (.lst (p.map GB.frq)) (.list (p.map frP)) 2 (3 * n) := by
  refine ((ShL.map p fun x m => Sh.frq (h x m)).lst).le (by decide) ?_
  have : (2 + 1) * p.length ≤ 3 * n := Nat.mul_le_mul_left 3 hl
  exact this
def spLaw : Spec := fun ds S Q _ => match ds with
  | [.rls ns] => ∃ cs : List Int, ns = cs.map D.int ∧ cs.length ≤ 63 ∧ ∀ S', Q (.bl true) S'
  | _ => False
/-- a list of drawn numbers, its noughts taken off -/
theorem lc_draws {m : Bool} {j : Nat} {elt : WpE} {δ : Dts} {P : EQ} {p : Addr} {n k b N : Nat} {S0 : Sto} (hN : N ≤ 1000) (hM : n + k * N < nMost)
    (he : ∀ (d : D) (S : Sto) (R : EQ) (i : Nat), Feed (n + k * i) S p → n + k * i + k < nMost → (∀ (r : Rat) (S' : Sto), RB b r → Adv p (n + k * i) k S S' → R (frq r) S') → wG (.nm j) d δ fun δ' => elt δ' S R)
    (hF : Feed n S0 p) (fin : ∀ (ys : List Rat) (S : Sto), ys.length = N → RL b ys → Adv p n (k * N) S0 S → nwL m (ys.map frq) S P) (ds : List D) (hds : ds.length = N) : wLc m (.nm j) noIf elt (fun _ => True) δ P ds [] S0 := by
  refine lc_inv (fun ds acc S => ∃ ys : List Rat, acc = ys.map frq ∧ ys.length + ds.length = N ∧ RL b ys ∧ Adv p n (k * ys.length) S0 S) ?_ ?_ _ _ _ ⟨[], rfl, by simpa using hds, (fun x m => nomatch m), by simpa using Adv.refl hF⟩
  · rintro d ds acc S nx hnx ⟨ys, rfl, hl, hr, A⟩
    rw [List.length_cons] at hl
    have hk : k * ys.length + k ≤ k * N := by
      rw [← Nat.mul_succ]
      exact Nat.mul_le_mul_left k (by omega)
    refine ⟨by rw [List.length_map]; exact Nat.lt_of_le_of_lt (show ys.length ≤ 1000 by omega) (by decide), he d S nx ys.length A.fd (by omega) fun r S' h1 h2 => ?_⟩
    refine hnx _ _ trivial ⟨ys ++ [r], by simp, by simp; omega, ?_, ?_⟩
    · intro x m
      rcases List.mem_append.mp m with m | m
      · exact hr x m
      · rw [List.mem_singleton.mp m]; exact h1
    · have := A.trans h2
      rw [List.length_append, List.length_singleton, Nat.mul_add, Nat.mul_one]
      exact this
  · rintro acc S ⟨ys, rfl, hl, hr, A⟩
    rw [List.length_nil, Nat.add_zero] at hl
    rw [hl] at A
    exact fin ys S hl hr A

def b_law : Sms := .cons (.asg (.nm 1) (.call "_law_feed" sp__law_feed (.cons (.v 0) (.nil)))) (.cons (.asg (.nm 2) (.call "_law_draw" sp__law_draw (.cons (.v 1) (.cons (.cI 3) (.nil))))) (.cons (.asg (.nm 3) (.call "_law_trim" sp__law_trim (.cons (.lc false (.call "_law_twelve" sp__law_twelve (.cons (.v 1) (.nil))) (.nm 8) (.r1 (.call "_law_draw" sp__law_draw (.cons (.v 1) (.cons (.cI 5) (.nil))))) (.nil)) (.nil)))) (.cons (.asg (.nm 4) (.call "_law_trim" sp__law_trim (.cons (.lc false (.call "_law_twelve" sp__law_twelve (.cons (.v 1) (.nil))) (.nm 8) (.r1 (.call "_law_draw" sp__law_draw (.cons (.v 1) (.cons (.cI 5) (.nil))))) (.nil)) (.nil)))) (.cons (.asg (.nm 4) (.ite (.cmp .eq (.v 2) (.cI 0)) (.v 3) (.v 4))) (.cons (.asgL 5 (.lc true (.call "_law_twelve" sp__law_twelve (.cons (.v 1) (.nil))) (.nm 8) (.r1 (.cI 3)) (.nil))) (.cons (.ite (.cmp .eq (.call "_law_draw" sp__law_draw (.cons (.v 1) (.cons (.cI 4) (.nil)))) (.cI 0)) (.cons (.setI (.v 5) (.cI 2) (.ix (.v 5) (.cI 0))) (.nil)) (.nil)) (.cons (.asg (.nm 6) (.bi .repr false (.cons (.tup (.cons (.v 3) (.cons (.v 4) (.cons (.v 5) (.nil))))) (.nil)))) (.cons (.ite (.or_ (.cons (.not_ (.call "_law_right" sp__law_right (.cons (.v 3) (.cons (.v 4) (.cons (.v 5) (.nil)))))) (.cons (.not_ (.call "_law_right" sp__law_right (.cons (.v 4) (.cons (.v 3) (.cons (.v 5) (.nil)))))) (.nil)))) (.cons (.ret (.cB false)) (.nil)) (.nil)) (.cons (.asg (.nm 7) (.call "under_poly" sp_under_poly (.cons (.v 3) (.cons (.ix (.v 5) (.cI 0)) (.cons (.ix (.v 5) (.cI 1)) (.nil)))))) (.cons (.ret (.and_ (.cons (.cmp .eq (.bi .repr false (.cons (.v 7) (.nil))) (.bi .repr false (.cons (.call "_law_beneath" sp__law_beneath (.cons (.v 3) (.cons (.ix (.v 5) (.cI 0)) (.cons (.ix (.v 5) (.cI 1)) (.nil))))) (.nil)))) (.cons (.cmp .eq (.bi .repr false (.cons (.tup (.cons (.v 3) (.cons (.v 4) (.cons (.v 5) (.nil))))) (.nil))) (.v 6)) (.nil))))) (.nil)))))))))))
theorem t_law : Keeps 9 b_law spLaw 1 := by
  intro ds S Q U h
  match ds, h with
  | [.rls ns], h =>
  refine ⟨rfl, ?_⟩
  obtain ⟨cs, rfl, hl, h⟩ := h
  have hM : nMost = 1099511627776 := by decide
  simp only [b_law, ↓gv_z, ↓gv_s, ↓sv_z, ↓sv_s, ↓wv_z, wv_z, ↓wv_s, wv_s, iteE_int, iteE_bl, iteE_str, iteE_lst, iteE_same, iteE_c1, iteE_c2, iteE_1, iteE_0, iteT_1, iteT_0, andT_1, andT_0, orT_1, orT_0, andE_1, andE_0, orE_1, orE_0, iteS_1, iteS_0, andE_bl, andE_c, orE_bl, orE_c, iteT_v, iteT_c1, iteT_c2, andT_v, andT_c, orT_v, orT_c, iteS_v, iteS_c1, iteS_c2, iteS_r1, iteS_r2, joinS_n, joinS_same, joinS_int, joinS_bl, ixS_s, ↓e_v, ↓e_N, ↓e_B, ↓e_I, ↓e_S, ↓e_gl, ↓e_add, ↓e_sub, ↓e_mul, ↓e_fdiv, ↓e_mod, ↓e_pow, ↓e_neg, ↓e_cmp, ↓bP_b, ↓t_cmp, ↓e_cmp2, ↓t_cmp2, ↓e_and1, ↓e_and2, ↓t_and1, ↓t_and2, ↓e_or1, ↓e_or2, ↓t_or1, ↓t_or2, ↓e_not, ↓t_not, ↓e_ite, ↓t_ite, ↓e_tup, ↓e_lst, ↓e_dct, ↓e_ix, ↓e_sl, ↓e_slr, ↓e_call, ↓e_bi, ↓e_mt, ↓e_lc, ↓e_frz, ↓t_frz, ↓t_v, ↓t_B, ↓t_N, ↓t_I, ↓t_ix, ↓t_bin, ↓t_call, ↓t_bi, ↓t_sl, ↓t_lc, ↓a_n, ↓a_c, ↓if_n, ↓if_1, ↓o_n, ↓iP_i, ↓o_s, ↓i_val, ↓i_r1, ↓i_r2, ↓i_r3, ↓i_enum, ↓i_zip, ↓i_rev, ↓add_i, ↓add_s, ↓add_t, ↓sub_i, ↓mul_i, ↓fdiv_i, ↓mod_i, ↓pow_i, ↓neg_i, ↓eq_i, ↓eq_s, ↓eq_b, ↓ne_i, ↓ne_s, ↓ne_b, ↓lt_i, ↓le_i, ↓gt_i, ↓ge_i, ↓is_N, ↓no_N, ↓tr_b, ↓tr_i, ↓tr_n, ↓tr_t, ↓tr_l, ↓ix_t, ↓ix_l, ↓ix_rl, ↓at_0, ↓at_1, ↓at_2, ↓at_3, ↓s_n, ↓s_c, ↓s_asg, ↓s_asgL, ↓s_par, ↓s_set, ↓s_ex, ↓s_ite, ↓s_for, ↓s_wh, ↓s_ret, ↓s_retN, ↓s_pass, ↓s_brk, ↓s_rz, ↓s_cont, ↓g_nm, ↓g_tp, ↓g_n, ↓g_c, ↓par_n, ↓par_c, ↓nw_f, ↓nw_t, ↓len_l, ↓len_t, ↓abs_i, ↓int_i, ↓int_b, ↓repr_h, ↓max_i, ↓min_i, ↓st_0, ↓st_s, ↓supd_supd, ↓ix_ref, ↓set_ref, ↓fd_turn, ↓fd_left, ↓fd_at, ↓fd_cells, ↓fs_turn, ↓fs_left, ↓fs_at, ↓ne_nil, ↓len_is, map_at, ↓ix_q0, ↓ix_q1, ↓g_q, ↓len_q, ↓tr_q, ↓low_eq, ↓q1_eq, ↓q2_eq, ↓sz_0, ↓sz_1, ↓sz_2, ↓sz_3, ↓sz_4, ↓sz_5, ↓sz_6, ↓sz_7, ↓sz_8, ↓itp_t, ↓itp_l, ↓itl_l, ↓pl_2, ↓pl_3, iteE_q, joinS_q, ↓eq_q, ↓ne_q, ↓ixC_l, ↓frz_ref, ↓tup_l, ↓tup_t, ↓lst_l, ↓lst_t, ↓sl_t, ↓slr_t, ↓mul_l, ↓add_l, ↓ifs_0, gsl_nm, gsl_tp, gsl_n, gsl_c, wipe_n, wipe_c, List.replicate, Option.map_some, decide_eq_true_eq, ↓reduceIte, Bool.false_eq_true, Bool.not_eq_eq_eq_not, Bool.not_true, Bool.not_false, true_and, forall_const, Bool.and_eq_true, Bool.or_eq_true, decide_eq_false_iff_not, not_true_eq_false, not_false_eq_true, decide_true, decide_false]
  refine ⟨cs, rfl, hl, fun p S1 hp hF _ => ?_⟩
  simp only [↓gv_z, ↓gv_s, ↓sv_z, ↓sv_s, ↓wv_z, wv_z, ↓wv_s, wv_s, iteE_int, iteE_bl, iteE_str, iteE_lst, iteE_same, iteE_c1, iteE_c2, iteE_1, iteE_0, iteT_1, iteT_0, andT_1, andT_0, orT_1, orT_0, andE_1, andE_0, orE_1, orE_0, iteS_1, iteS_0, andE_bl, andE_c, orE_bl, orE_c, iteT_v, iteT_c1, iteT_c2, andT_v, andT_c, orT_v, orT_c, iteS_v, iteS_c1, iteS_c2, iteS_r1, iteS_r2, joinS_n, joinS_same, joinS_int, joinS_bl, ixS_s, ↓e_v, ↓e_N, ↓e_B, ↓e_I, ↓e_S, ↓e_gl, ↓e_add, ↓e_sub, ↓e_mul, ↓e_fdiv, ↓e_mod, ↓e_pow, ↓e_neg, ↓e_cmp, ↓bP_b, ↓t_cmp, ↓e_cmp2, ↓t_cmp2, ↓e_and1, ↓e_and2, ↓t_and1, ↓t_and2, ↓e_or1, ↓e_or2, ↓t_or1, ↓t_or2, ↓e_not, ↓t_not, ↓e_ite, ↓t_ite, ↓e_tup, ↓e_lst, ↓e_dct, ↓e_ix, ↓e_sl, ↓e_slr, ↓e_call, ↓e_bi, ↓e_mt, ↓e_lc, ↓e_frz, ↓t_frz, ↓t_v, ↓t_B, ↓t_N, ↓t_I, ↓t_ix, ↓t_bin, ↓t_call, ↓t_bi, ↓t_sl, ↓t_lc, ↓a_n, ↓a_c, ↓if_n, ↓if_1, ↓o_n, ↓iP_i, ↓o_s, ↓i_val, ↓i_r1, ↓i_r2, ↓i_r3, ↓i_enum, ↓i_zip, ↓i_rev, ↓add_i, ↓add_s, ↓add_t, ↓sub_i, ↓mul_i, ↓fdiv_i, ↓mod_i, ↓pow_i, ↓neg_i, ↓eq_i, ↓eq_s, ↓eq_b, ↓ne_i, ↓ne_s, ↓ne_b, ↓lt_i, ↓le_i, ↓gt_i, ↓ge_i, ↓is_N, ↓no_N, ↓tr_b, ↓tr_i, ↓tr_n, ↓tr_t, ↓tr_l, ↓ix_t, ↓ix_l, ↓ix_rl, ↓at_0, ↓at_1, ↓at_2, ↓at_3, ↓s_n, ↓s_c, ↓s_asg, ↓s_asgL, ↓s_par, ↓s_set, ↓s_ex, ↓s_ite, ↓s_for, ↓s_wh, ↓s_ret, ↓s_retN, ↓s_pass, ↓s_brk, ↓s_rz, ↓s_cont, ↓g_nm, ↓g_tp, ↓g_n, ↓g_c, ↓par_n, ↓par_c, ↓nw_f, ↓nw_t, ↓len_l, ↓len_t, ↓abs_i, ↓int_i, ↓int_b, ↓repr_h, ↓max_i, ↓min_i, ↓st_0, ↓st_s, ↓supd_supd, ↓ix_ref, ↓set_ref, ↓fd_turn, ↓fd_left, ↓fd_at, ↓fd_cells, ↓fs_turn, ↓fs_left, ↓fs_at, ↓ne_nil, ↓len_is, map_at, ↓ix_q0, ↓ix_q1, ↓g_q, ↓len_q, ↓tr_q, ↓low_eq, ↓q1_eq, ↓q2_eq, ↓sz_0, ↓sz_1, ↓sz_2, ↓sz_3, ↓sz_4, ↓sz_5, ↓sz_6, ↓sz_7, ↓sz_8, ↓itp_t, ↓itp_l, ↓itl_l, ↓pl_2, ↓pl_3, iteE_q, joinS_q, ↓eq_q, ↓ne_q, ↓ixC_l, ↓frz_ref, ↓tup_l, ↓tup_t, ↓lst_l, ↓lst_t, ↓sl_t, ↓slr_t, ↓mul_l, ↓add_l, ↓ifs_0, gsl_nm, gsl_tp, gsl_n, gsl_c, wipe_n, wipe_c, List.replicate, Option.map_some, decide_eq_true_eq, ↓reduceIte, Bool.false_eq_true, Bool.not_eq_eq_eq_not, Bool.not_true, Bool.not_false, true_and, forall_const, Bool.and_eq_true, Bool.or_eq_true, decide_eq_false_iff_not, not_true_eq_false, not_false_eq_true, decide_true, decide_false]
  refine use_draw hF (by omega) (by decide) (Bt.lit (by decide)) fun way S2 way0 way1 A2 => ?_
  simp only [↓gv_z, ↓gv_s, ↓sv_z, ↓sv_s, ↓wv_z, wv_z, ↓wv_s, wv_s, iteE_int, iteE_bl, iteE_str, iteE_lst, iteE_same, iteE_c1, iteE_c2, iteE_1, iteE_0, iteT_1, iteT_0, andT_1, andT_0, orT_1, orT_0, andE_1, andE_0, orE_1, orE_0, iteS_1, iteS_0, andE_bl, andE_c, orE_bl, orE_c, iteT_v, iteT_c1, iteT_c2, andT_v, andT_c, orT_v, orT_c, iteS_v, iteS_c1, iteS_c2, iteS_r1, iteS_r2, joinS_n, joinS_same, joinS_int, joinS_bl, ixS_s, ↓e_v, ↓e_N, ↓e_B, ↓e_I, ↓e_S, ↓e_gl, ↓e_add, ↓e_sub, ↓e_mul, ↓e_fdiv, ↓e_mod, ↓e_pow, ↓e_neg, ↓e_cmp, ↓bP_b, ↓t_cmp, ↓e_cmp2, ↓t_cmp2, ↓e_and1, ↓e_and2, ↓t_and1, ↓t_and2, ↓e_or1, ↓e_or2, ↓t_or1, ↓t_or2, ↓e_not, ↓t_not, ↓e_ite, ↓t_ite, ↓e_tup, ↓e_lst, ↓e_dct, ↓e_ix, ↓e_sl, ↓e_slr, ↓e_call, ↓e_bi, ↓e_mt, ↓e_lc, ↓e_frz, ↓t_frz, ↓t_v, ↓t_B, ↓t_N, ↓t_I, ↓t_ix, ↓t_bin, ↓t_call, ↓t_bi, ↓t_sl, ↓t_lc, ↓a_n, ↓a_c, ↓if_n, ↓if_1, ↓o_n, ↓iP_i, ↓o_s, ↓i_val, ↓i_r1, ↓i_r2, ↓i_r3, ↓i_enum, ↓i_zip, ↓i_rev, ↓add_i, ↓add_s, ↓add_t, ↓sub_i, ↓mul_i, ↓fdiv_i, ↓mod_i, ↓pow_i, ↓neg_i, ↓eq_i, ↓eq_s, ↓eq_b, ↓ne_i, ↓ne_s, ↓ne_b, ↓lt_i, ↓le_i, ↓gt_i, ↓ge_i, ↓is_N, ↓no_N, ↓tr_b, ↓tr_i, ↓tr_n, ↓tr_t, ↓tr_l, ↓ix_t, ↓ix_l, ↓ix_rl, ↓at_0, ↓at_1, ↓at_2, ↓at_3, ↓s_n, ↓s_c, ↓s_asg, ↓s_asgL, ↓s_par, ↓s_set, ↓s_ex, ↓s_ite, ↓s_for, ↓s_wh, ↓s_ret, ↓s_retN, ↓s_pass, ↓s_brk, ↓s_rz, ↓s_cont, ↓g_nm, ↓g_tp, ↓g_n, ↓g_c, ↓par_n, ↓par_c, ↓nw_f, ↓nw_t, ↓len_l, ↓len_t, ↓abs_i, ↓int_i, ↓int_b, ↓repr_h, ↓max_i, ↓min_i, ↓st_0, ↓st_s, ↓supd_supd, ↓ix_ref, ↓set_ref, ↓fd_turn, ↓fd_left, ↓fd_at, ↓fd_cells, ↓fs_turn, ↓fs_left, ↓fs_at, ↓ne_nil, ↓len_is, map_at, ↓ix_q0, ↓ix_q1, ↓g_q, ↓len_q, ↓tr_q, ↓low_eq, ↓q1_eq, ↓q2_eq, ↓sz_0, ↓sz_1, ↓sz_2, ↓sz_3, ↓sz_4, ↓sz_5, ↓sz_6, ↓sz_7, ↓sz_8, ↓itp_t, ↓itp_l, ↓itl_l, ↓pl_2, ↓pl_3, iteE_q, joinS_q, ↓eq_q, ↓ne_q, ↓ixC_l, ↓frz_ref, ↓tup_l, ↓tup_t, ↓lst_l, ↓lst_t, ↓sl_t, ↓slr_t, ↓mul_l, ↓add_l, ↓ifs_0, gsl_nm, gsl_tp, gsl_n, gsl_c, wipe_n, wipe_c, List.replicate, Option.map_some, decide_eq_true_eq, ↓reduceIte, Bool.false_eq_true, Bool.not_eq_eq_eq_not, Bool.not_true, Bool.not_false, true_and, forall_const, Bool.and_eq_true, Bool.or_eq_true, decide_eq_false_iff_not, not_true_eq_false, not_false_eq_true, decide_true, decide_false]
  refine use_draw A2.fd (by omega) (by decide) (Bt.lit (by decide)) fun c1 S3 c10 c11 A3 => ?_
  simp only [↓gv_z, ↓gv_s, ↓sv_z, ↓sv_s, ↓wv_z, wv_z, ↓wv_s, wv_s, iteE_int, iteE_bl, iteE_str, iteE_lst, iteE_same, iteE_c1, iteE_c2, iteE_1, iteE_0, iteT_1, iteT_0, andT_1, andT_0, orT_1, orT_0, andE_1, andE_0, orE_1, orE_0, iteS_1, iteS_0, andE_bl, andE_c, orE_bl, orE_c, iteT_v, iteT_c1, iteT_c2, andT_v, andT_c, orT_v, orT_c, iteS_v, iteS_c1, iteS_c2, iteS_r1, iteS_r2, joinS_n, joinS_same, joinS_int, joinS_bl, ixS_s, ↓e_v, ↓e_N, ↓e_B, ↓e_I, ↓e_S, ↓e_gl, ↓e_add, ↓e_sub, ↓e_mul, ↓e_fdiv, ↓e_mod, ↓e_pow, ↓e_neg, ↓e_cmp, ↓bP_b, ↓t_cmp, ↓e_cmp2, ↓t_cmp2, ↓e_and1, ↓e_and2, ↓t_and1, ↓t_and2, ↓e_or1, ↓e_or2, ↓t_or1, ↓t_or2, ↓e_not, ↓t_not, ↓e_ite, ↓t_ite, ↓e_tup, ↓e_lst, ↓e_dct, ↓e_ix, ↓e_sl, ↓e_slr, ↓e_call, ↓e_bi, ↓e_mt, ↓e_lc, ↓e_frz, ↓t_frz, ↓t_v, ↓t_B, ↓t_N, ↓t_I, ↓t_ix, ↓t_bin, ↓t_call, ↓t_bi, ↓t_sl, ↓t_lc, ↓a_n, ↓a_c, ↓if_n, ↓if_1, ↓o_n, ↓iP_i, ↓o_s, ↓i_val, ↓i_r1, ↓i_r2, ↓i_r3, ↓i_enum, ↓i_zip, ↓i_rev, ↓add_i, ↓add_s, ↓add_t, ↓sub_i, ↓mul_i, ↓fdiv_i, ↓mod_i, ↓pow_i, ↓neg_i, ↓eq_i, ↓eq_s, ↓eq_b, ↓ne_i, ↓ne_s, ↓ne_b, ↓lt_i, ↓le_i, ↓gt_i, ↓ge_i, ↓is_N, ↓no_N, ↓tr_b, ↓tr_i, ↓tr_n, ↓tr_t, ↓tr_l, ↓ix_t, ↓ix_l, ↓ix_rl, ↓at_0, ↓at_1, ↓at_2, ↓at_3, ↓s_n, ↓s_c, ↓s_asg, ↓s_asgL, ↓s_par, ↓s_set, ↓s_ex, ↓s_ite, ↓s_for, ↓s_wh, ↓s_ret, ↓s_retN, ↓s_pass, ↓s_brk, ↓s_rz, ↓s_cont, ↓g_nm, ↓g_tp, ↓g_n, ↓g_c, ↓par_n, ↓par_c, ↓nw_f, ↓nw_t, ↓len_l, ↓len_t, ↓abs_i, ↓int_i, ↓int_b, ↓repr_h, ↓max_i, ↓min_i, ↓st_0, ↓st_s, ↓supd_supd, ↓ix_ref, ↓set_ref, ↓fd_turn, ↓fd_left, ↓fd_at, ↓fd_cells, ↓fs_turn, ↓fs_left, ↓fs_at, ↓ne_nil, ↓len_is, map_at, ↓ix_q0, ↓ix_q1, ↓g_q, ↓len_q, ↓tr_q, ↓low_eq, ↓q1_eq, ↓q2_eq, ↓sz_0, ↓sz_1, ↓sz_2, ↓sz_3, ↓sz_4, ↓sz_5, ↓sz_6, ↓sz_7, ↓sz_8, ↓itp_t, ↓itp_l, ↓itl_l, ↓pl_2, ↓pl_3, iteE_q, joinS_q, ↓eq_q, ↓ne_q, ↓ixC_l, ↓frz_ref, ↓tup_l, ↓tup_t, ↓lst_l, ↓lst_t, ↓sl_t, ↓slr_t, ↓mul_l, ↓add_l, ↓ifs_0, gsl_nm, gsl_tp, gsl_n, gsl_c, wipe_n, wipe_c, List.replicate, Option.map_some, decide_eq_true_eq, ↓reduceIte, Bool.false_eq_true, Bool.not_eq_eq_eq_not, Bool.not_true, Bool.not_false, true_and, forall_const, Bool.and_eq_true, Bool.or_eq_true, decide_eq_false_iff_not, not_true_eq_false, not_false_eq_true, decide_true, decide_false]
  refine ⟨⟨by omega, by omega⟩, ?_⟩
  refine lc_draws (n := 2) (k := 5) (b := 45) (N := c1.toNat) (p := p) (by omega) (by omega) ?_ (A2.trans A3).fd ?_ _ (by rw [rng_len])
  · intro d S' R i hF' hn hR
    simp only [↓gv_z, ↓gv_s, ↓sv_z, ↓sv_s, ↓wv_z, wv_z, ↓wv_s, wv_s, iteE_int, iteE_bl, iteE_str, iteE_lst, iteE_same, iteE_c1, iteE_c2, iteE_1, iteE_0, iteT_1, iteT_0, andT_1, andT_0, orT_1, orT_0, andE_1, andE_0, orE_1, orE_0, iteS_1, iteS_0, andE_bl, andE_c, orE_bl, orE_c, iteT_v, iteT_c1, iteT_c2, andT_v, andT_c, orT_v, orT_c, iteS_v, iteS_c1, iteS_c2, iteS_r1, iteS_r2, joinS_n, joinS_same, joinS_int, joinS_bl, ixS_s, ↓e_v, ↓e_N, ↓e_B, ↓e_I, ↓e_S, ↓e_gl, ↓e_add, ↓e_sub, ↓e_mul, ↓e_fdiv, ↓e_mod, ↓e_pow, ↓e_neg, ↓e_cmp, ↓bP_b, ↓t_cmp, ↓e_cmp2, ↓t_cmp2, ↓e_and1, ↓e_and2, ↓t_and1, ↓t_and2, ↓e_or1, ↓e_or2, ↓t_or1, ↓t_or2, ↓e_not, ↓t_not, ↓e_ite, ↓t_ite, ↓e_tup, ↓e_lst, ↓e_dct, ↓e_ix, ↓e_sl, ↓e_slr, ↓e_call, ↓e_bi, ↓e_mt, ↓e_lc, ↓e_frz, ↓t_frz, ↓t_v, ↓t_B, ↓t_N, ↓t_I, ↓t_ix, ↓t_bin, ↓t_call, ↓t_bi, ↓t_sl, ↓t_lc, ↓a_n, ↓a_c, ↓if_n, ↓if_1, ↓o_n, ↓iP_i, ↓o_s, ↓i_val, ↓i_r1, ↓i_r2, ↓i_r3, ↓i_enum, ↓i_zip, ↓i_rev, ↓add_i, ↓add_s, ↓add_t, ↓sub_i, ↓mul_i, ↓fdiv_i, ↓mod_i, ↓pow_i, ↓neg_i, ↓eq_i, ↓eq_s, ↓eq_b, ↓ne_i, ↓ne_s, ↓ne_b, ↓lt_i, ↓le_i, ↓gt_i, ↓ge_i, ↓is_N, ↓no_N, ↓tr_b, ↓tr_i, ↓tr_n, ↓tr_t, ↓tr_l, ↓ix_t, ↓ix_l, ↓ix_rl, ↓at_0, ↓at_1, ↓at_2, ↓at_3, ↓s_n, ↓s_c, ↓s_asg, ↓s_asgL, ↓s_par, ↓s_set, ↓s_ex, ↓s_ite, ↓s_for, ↓s_wh, ↓s_ret, ↓s_retN, ↓s_pass, ↓s_brk, ↓s_rz, ↓s_cont, ↓g_nm, ↓g_tp, ↓g_n, ↓g_c, ↓par_n, ↓par_c, ↓nw_f, ↓nw_t, ↓len_l, ↓len_t, ↓abs_i, ↓int_i, ↓int_b, ↓repr_h, ↓max_i, ↓min_i, ↓st_0, ↓st_s, ↓supd_supd, ↓ix_ref, ↓set_ref, ↓fd_turn, ↓fd_left, ↓fd_at, ↓fd_cells, ↓fs_turn, ↓fs_left, ↓fs_at, ↓ne_nil, ↓len_is, map_at, ↓ix_q0, ↓ix_q1, ↓g_q, ↓len_q, ↓tr_q, ↓low_eq, ↓q1_eq, ↓q2_eq, ↓sz_0, ↓sz_1, ↓sz_2, ↓sz_3, ↓sz_4, ↓sz_5, ↓sz_6, ↓sz_7, ↓sz_8, ↓itp_t, ↓itp_l, ↓itl_l, ↓pl_2, ↓pl_3, iteE_q, joinS_q, ↓eq_q, ↓ne_q, ↓ixC_l, ↓frz_ref, ↓tup_l, ↓tup_t, ↓lst_l, ↓lst_t, ↓sl_t, ↓slr_t, ↓mul_l, ↓add_l, ↓ifs_0, gsl_nm, gsl_tp, gsl_n, gsl_c, wipe_n, wipe_c, List.replicate, Option.map_some, decide_eq_true_eq, ↓reduceIte, Bool.false_eq_true, Bool.not_eq_eq_eq_not, Bool.not_true, Bool.not_false, true_and, forall_const, Bool.and_eq_true, Bool.or_eq_true, decide_eq_false_iff_not, not_true_eq_false, not_false_eq_true, decide_true, decide_false]
    exact use_drQ hF' hn hR
  intro ys1 S4 l1 r1 A4
  simp only [↓gv_z, ↓gv_s, ↓sv_z, ↓sv_s, ↓wv_z, wv_z, ↓wv_s, wv_s, iteE_int, iteE_bl, iteE_str, iteE_lst, iteE_same, iteE_c1, iteE_c2, iteE_1, iteE_0, iteT_1, iteT_0, andT_1, andT_0, orT_1, orT_0, andE_1, andE_0, orE_1, orE_0, iteS_1, iteS_0, andE_bl, andE_c, orE_bl, orE_c, iteT_v, iteT_c1, iteT_c2, andT_v, andT_c, orT_v, orT_c, iteS_v, iteS_c1, iteS_c2, iteS_r1, iteS_r2, joinS_n, joinS_same, joinS_int, joinS_bl, ixS_s, ↓e_v, ↓e_N, ↓e_B, ↓e_I, ↓e_S, ↓e_gl, ↓e_add, ↓e_sub, ↓e_mul, ↓e_fdiv, ↓e_mod, ↓e_pow, ↓e_neg, ↓e_cmp, ↓bP_b, ↓t_cmp, ↓e_cmp2, ↓t_cmp2, ↓e_and1, ↓e_and2, ↓t_and1, ↓t_and2, ↓e_or1, ↓e_or2, ↓t_or1, ↓t_or2, ↓e_not, ↓t_not, ↓e_ite, ↓t_ite, ↓e_tup, ↓e_lst, ↓e_dct, ↓e_ix, ↓e_sl, ↓e_slr, ↓e_call, ↓e_bi, ↓e_mt, ↓e_lc, ↓e_frz, ↓t_frz, ↓t_v, ↓t_B, ↓t_N, ↓t_I, ↓t_ix, ↓t_bin, ↓t_call, ↓t_bi, ↓t_sl, ↓t_lc, ↓a_n, ↓a_c, ↓if_n, ↓if_1, ↓o_n, ↓iP_i, ↓o_s, ↓i_val, ↓i_r1, ↓i_r2, ↓i_r3, ↓i_enum, ↓i_zip, ↓i_rev, ↓add_i, ↓add_s, ↓add_t, ↓sub_i, ↓mul_i, ↓fdiv_i, ↓mod_i, ↓pow_i, ↓neg_i, ↓eq_i, ↓eq_s, ↓eq_b, ↓ne_i, ↓ne_s, ↓ne_b, ↓lt_i, ↓le_i, ↓gt_i, ↓ge_i, ↓is_N, ↓no_N, ↓tr_b, ↓tr_i, ↓tr_n, ↓tr_t, ↓tr_l, ↓ix_t, ↓ix_l, ↓ix_rl, ↓at_0, ↓at_1, ↓at_2, ↓at_3, ↓s_n, ↓s_c, ↓s_asg, ↓s_asgL, ↓s_par, ↓s_set, ↓s_ex, ↓s_ite, ↓s_for, ↓s_wh, ↓s_ret, ↓s_retN, ↓s_pass, ↓s_brk, ↓s_rz, ↓s_cont, ↓g_nm, ↓g_tp, ↓g_n, ↓g_c, ↓par_n, ↓par_c, ↓nw_f, ↓nw_t, ↓len_l, ↓len_t, ↓abs_i, ↓int_i, ↓int_b, ↓repr_h, ↓max_i, ↓min_i, ↓st_0, ↓st_s, ↓supd_supd, ↓ix_ref, ↓set_ref, ↓fd_turn, ↓fd_left, ↓fd_at, ↓fd_cells, ↓fs_turn, ↓fs_left, ↓fs_at, ↓ne_nil, ↓len_is, map_at, ↓ix_q0, ↓ix_q1, ↓g_q, ↓len_q, ↓tr_q, ↓low_eq, ↓q1_eq, ↓q2_eq, ↓sz_0, ↓sz_1, ↓sz_2, ↓sz_3, ↓sz_4, ↓sz_5, ↓sz_6, ↓sz_7, ↓sz_8, ↓itp_t, ↓itp_l, ↓itl_l, ↓pl_2, ↓pl_3, iteE_q, joinS_q, ↓eq_q, ↓ne_q, ↓ixC_l, ↓frz_ref, ↓tup_l, ↓tup_t, ↓lst_l, ↓lst_t, ↓sl_t, ↓slr_t, ↓mul_l, ↓add_l, ↓ifs_0, gsl_nm, gsl_tp, gsl_n, gsl_c, wipe_n, wipe_c, List.replicate, Option.map_some, decide_eq_true_eq, ↓reduceIte, Bool.false_eq_true, Bool.not_eq_eq_eq_not, Bool.not_true, Bool.not_false, true_and, forall_const, Bool.and_eq_true, Bool.or_eq_true, decide_eq_false_iff_not, not_true_eq_false, not_false_eq_true, decide_true, decide_false]
  refine use_law_trim (xs := ys1) rfl ?_
  have la : (trim ys1).length ≤ 4 := Nat.le_trans (trim_len _) (by omega)
  have ra : RL 45 (trim ys1) := r1.trim
  generalize trim ys1 = a at la ra ⊢
  simp only [↓gv_z, ↓gv_s, ↓sv_z, ↓sv_s, ↓wv_z, wv_z, ↓wv_s, wv_s, iteE_int, iteE_bl, iteE_str, iteE_lst, iteE_same, iteE_c1, iteE_c2, iteE_1, iteE_0, iteT_1, iteT_0, andT_1, andT_0, orT_1, orT_0, andE_1, andE_0, orE_1, orE_0, iteS_1, iteS_0, andE_bl, andE_c, orE_bl, orE_c, iteT_v, iteT_c1, iteT_c2, andT_v, andT_c, orT_v, orT_c, iteS_v, iteS_c1, iteS_c2, iteS_r1, iteS_r2, joinS_n, joinS_same, joinS_int, joinS_bl, ixS_s, ↓e_v, ↓e_N, ↓e_B, ↓e_I, ↓e_S, ↓e_gl, ↓e_add, ↓e_sub, ↓e_mul, ↓e_fdiv, ↓e_mod, ↓e_pow, ↓e_neg, ↓e_cmp, ↓bP_b, ↓t_cmp, ↓e_cmp2, ↓t_cmp2, ↓e_and1, ↓e_and2, ↓t_and1, ↓t_and2, ↓e_or1, ↓e_or2, ↓t_or1, ↓t_or2, ↓e_not, ↓t_not, ↓e_ite, ↓t_ite, ↓e_tup, ↓e_lst, ↓e_dct, ↓e_ix, ↓e_sl, ↓e_slr, ↓e_call, ↓e_bi, ↓e_mt, ↓e_lc, ↓e_frz, ↓t_frz, ↓t_v, ↓t_B, ↓t_N, ↓t_I, ↓t_ix, ↓t_bin, ↓t_call, ↓t_bi, ↓t_sl, ↓t_lc, ↓a_n, ↓a_c, ↓if_n, ↓if_1, ↓o_n, ↓iP_i, ↓o_s, ↓i_val, ↓i_r1, ↓i_r2, ↓i_r3, ↓i_enum, ↓i_zip, ↓i_rev, ↓add_i, ↓add_s, ↓add_t, ↓sub_i, ↓mul_i, ↓fdiv_i, ↓mod_i, ↓pow_i, ↓neg_i, ↓eq_i, ↓eq_s, ↓eq_b, ↓ne_i, ↓ne_s, ↓ne_b, ↓lt_i, ↓le_i, ↓gt_i, ↓ge_i, ↓is_N, ↓no_N, ↓tr_b, ↓tr_i, ↓tr_n, ↓tr_t, ↓tr_l, ↓ix_t, ↓ix_l, ↓ix_rl, ↓at_0, ↓at_1, ↓at_2, ↓at_3, ↓s_n, ↓s_c, ↓s_asg, ↓s_asgL, ↓s_par, ↓s_set, ↓s_ex, ↓s_ite, ↓s_for, ↓s_wh, ↓s_ret, ↓s_retN, ↓s_pass, ↓s_brk, ↓s_rz, ↓s_cont, ↓g_nm, ↓g_tp, ↓g_n, ↓g_c, ↓par_n, ↓par_c, ↓nw_f, ↓nw_t, ↓len_l, ↓len_t, ↓abs_i, ↓int_i, ↓int_b, ↓repr_h, ↓max_i, ↓min_i, ↓st_0, ↓st_s, ↓supd_supd, ↓ix_ref, ↓set_ref, ↓fd_turn, ↓fd_left, ↓fd_at, ↓fd_cells, ↓fs_turn, ↓fs_left, ↓fs_at, ↓ne_nil, ↓len_is, map_at, ↓ix_q0, ↓ix_q1, ↓g_q, ↓len_q, ↓tr_q, ↓low_eq, ↓q1_eq, ↓q2_eq, ↓sz_0, ↓sz_1, ↓sz_2, ↓sz_3, ↓sz_4, ↓sz_5, ↓sz_6, ↓sz_7, ↓sz_8, ↓itp_t, ↓itp_l, ↓itl_l, ↓pl_2, ↓pl_3, iteE_q, joinS_q, ↓eq_q, ↓ne_q, ↓ixC_l, ↓frz_ref, ↓tup_l, ↓tup_t, ↓lst_l, ↓lst_t, ↓sl_t, ↓slr_t, ↓mul_l, ↓add_l, ↓ifs_0, gsl_nm, gsl_tp, gsl_n, gsl_c, wipe_n, wipe_c, List.replicate, Option.map_some, decide_eq_true_eq, ↓reduceIte, Bool.false_eq_true, Bool.not_eq_eq_eq_not, Bool.not_true, Bool.not_false, true_and, forall_const, Bool.and_eq_true, Bool.or_eq_true, decide_eq_false_iff_not, not_true_eq_false, not_false_eq_true, decide_true, decide_false]
  refine use_draw (A4.fd.le (m := 22) (by omega)) (by omega) (by decide) (Bt.lit (by decide)) fun c2 S5 c20 c21 A5 => ?_
  simp only [↓gv_z, ↓gv_s, ↓sv_z, ↓sv_s, ↓wv_z, wv_z, ↓wv_s, wv_s, iteE_int, iteE_bl, iteE_str, iteE_lst, iteE_same, iteE_c1, iteE_c2, iteE_1, iteE_0, iteT_1, iteT_0, andT_1, andT_0, orT_1, orT_0, andE_1, andE_0, orE_1, orE_0, iteS_1, iteS_0, andE_bl, andE_c, orE_bl, orE_c, iteT_v, iteT_c1, iteT_c2, andT_v, andT_c, orT_v, orT_c, iteS_v, iteS_c1, iteS_c2, iteS_r1, iteS_r2, joinS_n, joinS_same, joinS_int, joinS_bl, ixS_s, ↓e_v, ↓e_N, ↓e_B, ↓e_I, ↓e_S, ↓e_gl, ↓e_add, ↓e_sub, ↓e_mul, ↓e_fdiv, ↓e_mod, ↓e_pow, ↓e_neg, ↓e_cmp, ↓bP_b, ↓t_cmp, ↓e_cmp2, ↓t_cmp2, ↓e_and1, ↓e_and2, ↓t_and1, ↓t_and2, ↓e_or1, ↓e_or2, ↓t_or1, ↓t_or2, ↓e_not, ↓t_not, ↓e_ite, ↓t_ite, ↓e_tup, ↓e_lst, ↓e_dct, ↓e_ix, ↓e_sl, ↓e_slr, ↓e_call, ↓e_bi, ↓e_mt, ↓e_lc, ↓e_frz, ↓t_frz, ↓t_v, ↓t_B, ↓t_N, ↓t_I, ↓t_ix, ↓t_bin, ↓t_call, ↓t_bi, ↓t_sl, ↓t_lc, ↓a_n, ↓a_c, ↓if_n, ↓if_1, ↓o_n, ↓iP_i, ↓o_s, ↓i_val, ↓i_r1, ↓i_r2, ↓i_r3, ↓i_enum, ↓i_zip, ↓i_rev, ↓add_i, ↓add_s, ↓add_t, ↓sub_i, ↓mul_i, ↓fdiv_i, ↓mod_i, ↓pow_i, ↓neg_i, ↓eq_i, ↓eq_s, ↓eq_b, ↓ne_i, ↓ne_s, ↓ne_b, ↓lt_i, ↓le_i, ↓gt_i, ↓ge_i, ↓is_N, ↓no_N, ↓tr_b, ↓tr_i, ↓tr_n, ↓tr_t, ↓tr_l, ↓ix_t, ↓ix_l, ↓ix_rl, ↓at_0, ↓at_1, ↓at_2, ↓at_3, ↓s_n, ↓s_c, ↓s_asg, ↓s_asgL, ↓s_par, ↓s_set, ↓s_ex, ↓s_ite, ↓s_for, ↓s_wh, ↓s_ret, ↓s_retN, ↓s_pass, ↓s_brk, ↓s_rz, ↓s_cont, ↓g_nm, ↓g_tp, ↓g_n, ↓g_c, ↓par_n, ↓par_c, ↓nw_f, ↓nw_t, ↓len_l, ↓len_t, ↓abs_i, ↓int_i, ↓int_b, ↓repr_h, ↓max_i, ↓min_i, ↓st_0, ↓st_s, ↓supd_supd, ↓ix_ref, ↓set_ref, ↓fd_turn, ↓fd_left, ↓fd_at, ↓fd_cells, ↓fs_turn, ↓fs_left, ↓fs_at, ↓ne_nil, ↓len_is, map_at, ↓ix_q0, ↓ix_q1, ↓g_q, ↓len_q, ↓tr_q, ↓low_eq, ↓q1_eq, ↓q2_eq, ↓sz_0, ↓sz_1, ↓sz_2, ↓sz_3, ↓sz_4, ↓sz_5, ↓sz_6, ↓sz_7, ↓sz_8, ↓itp_t, ↓itp_l, ↓itl_l, ↓pl_2, ↓pl_3, iteE_q, joinS_q, ↓eq_q, ↓ne_q, ↓ixC_l, ↓frz_ref, ↓tup_l, ↓tup_t, ↓lst_l, ↓lst_t, ↓sl_t, ↓slr_t, ↓mul_l, ↓add_l, ↓ifs_0, gsl_nm, gsl_tp, gsl_n, gsl_c, wipe_n, wipe_c, List.replicate, Option.map_some, decide_eq_true_eq, ↓reduceIte, Bool.false_eq_true, Bool.not_eq_eq_eq_not, Bool.not_true, Bool.not_false, true_and, forall_const, Bool.and_eq_true, Bool.or_eq_true, decide_eq_false_iff_not, not_true_eq_false, not_false_eq_true, decide_true, decide_false]
  refine ⟨⟨by omega, by omega⟩, ?_⟩
  refine lc_draws (n := 23) (k := 5) (b := 45) (N := c2.toNat) (p := p) (by omega) (by omega) ?_ A5.fd ?_ _ (by rw [rng_len])
  · intro d S' R i hF' hn hR
    simp only [↓gv_z, ↓gv_s, ↓sv_z, ↓sv_s, ↓wv_z, wv_z, ↓wv_s, wv_s, iteE_int, iteE_bl, iteE_str, iteE_lst, iteE_same, iteE_c1, iteE_c2, iteE_1, iteE_0, iteT_1, iteT_0, andT_1, andT_0, orT_1, orT_0, andE_1, andE_0, orE_1, orE_0, iteS_1, iteS_0, andE_bl, andE_c, orE_bl, orE_c, iteT_v, iteT_c1, iteT_c2, andT_v, andT_c, orT_v, orT_c, iteS_v, iteS_c1, iteS_c2, iteS_r1, iteS_r2, joinS_n, joinS_same, joinS_int, joinS_bl, ixS_s, ↓e_v, ↓e_N, ↓e_B, ↓e_I, ↓e_S, ↓e_gl, ↓e_add, ↓e_sub, ↓e_mul, ↓e_fdiv, ↓e_mod, ↓e_pow, ↓e_neg, ↓e_cmp, ↓bP_b, ↓t_cmp, ↓e_cmp2, ↓t_cmp2, ↓e_and1, ↓e_and2, ↓t_and1, ↓t_and2, ↓e_or1, ↓e_or2, ↓t_or1, ↓t_or2, ↓e_not, ↓t_not, ↓e_ite, ↓t_ite, ↓e_tup, ↓e_lst, ↓e_dct, ↓e_ix, ↓e_sl, ↓e_slr, ↓e_call, ↓e_bi, ↓e_mt, ↓e_lc, ↓e_frz, ↓t_frz, ↓t_v, ↓t_B, ↓t_N, ↓t_I, ↓t_ix, ↓t_bin, ↓t_call, ↓t_bi, ↓t_sl, ↓t_lc, ↓a_n, ↓a_c, ↓if_n, ↓if_1, ↓o_n, ↓iP_i, ↓o_s, ↓i_val, ↓i_r1, ↓i_r2, ↓i_r3, ↓i_enum, ↓i_zip, ↓i_rev, ↓add_i, ↓add_s, ↓add_t, ↓sub_i, ↓mul_i, ↓fdiv_i, ↓mod_i, ↓pow_i, ↓neg_i, ↓eq_i, ↓eq_s, ↓eq_b, ↓ne_i, ↓ne_s, ↓ne_b, ↓lt_i, ↓le_i, ↓gt_i, ↓ge_i, ↓is_N, ↓no_N, ↓tr_b, ↓tr_i, ↓tr_n, ↓tr_t, ↓tr_l, ↓ix_t, ↓ix_l, ↓ix_rl, ↓at_0, ↓at_1, ↓at_2, ↓at_3, ↓s_n, ↓s_c, ↓s_asg, ↓s_asgL, ↓s_par, ↓s_set, ↓s_ex, ↓s_ite, ↓s_for, ↓s_wh, ↓s_ret, ↓s_retN, ↓s_pass, ↓s_brk, ↓s_rz, ↓s_cont, ↓g_nm, ↓g_tp, ↓g_n, ↓g_c, ↓par_n, ↓par_c, ↓nw_f, ↓nw_t, ↓len_l, ↓len_t, ↓abs_i, ↓int_i, ↓int_b, ↓repr_h, ↓max_i, ↓min_i, ↓st_0, ↓st_s, ↓supd_supd, ↓ix_ref, ↓set_ref, ↓fd_turn, ↓fd_left, ↓fd_at, ↓fd_cells, ↓fs_turn, ↓fs_left, ↓fs_at, ↓ne_nil, ↓len_is, map_at, ↓ix_q0, ↓ix_q1, ↓g_q, ↓len_q, ↓tr_q, ↓low_eq, ↓q1_eq, ↓q2_eq, ↓sz_0, ↓sz_1, ↓sz_2, ↓sz_3, ↓sz_4, ↓sz_5, ↓sz_6, ↓sz_7, ↓sz_8, ↓itp_t, ↓itp_l, ↓itl_l, ↓pl_2, ↓pl_3, iteE_q, joinS_q, ↓eq_q, ↓ne_q, ↓ixC_l, ↓frz_ref, ↓tup_l, ↓tup_t, ↓lst_l, ↓lst_t, ↓sl_t, ↓slr_t, ↓mul_l, ↓add_l, ↓ifs_0, gsl_nm, gsl_tp, gsl_n, gsl_c, wipe_n, wipe_c, List.replicate, Option.map_some, decide_eq_true_eq, ↓reduceIte, Bool.false_eq_true, Bool.not_eq_eq_eq_not, Bool.not_true, Bool.not_false, true_and, forall_const, Bool.and_eq_true, Bool.or_eq_true, decide_eq_false_iff_not, not_true_eq_false, not_false_eq_true, decide_true, decide_false]
    exact use_drQ hF' hn hR
  intro ys2 S6 l2 r2 A6
  simp only [↓gv_z, ↓gv_s, ↓sv_z, ↓sv_s, ↓wv_z, wv_z, ↓wv_s, wv_s, iteE_int, iteE_bl, iteE_str, iteE_lst, iteE_same, iteE_c1, iteE_c2, iteE_1, iteE_0, iteT_1, iteT_0, andT_1, andT_0, orT_1, orT_0, andE_1, andE_0, orE_1, orE_0, iteS_1, iteS_0, andE_bl, andE_c, orE_bl, orE_c, iteT_v, iteT_c1, iteT_c2, andT_v, andT_c, orT_v, orT_c, iteS_v, iteS_c1, iteS_c2, iteS_r1, iteS_r2, joinS_n, joinS_same, joinS_int, joinS_bl, ixS_s, ↓e_v, ↓e_N, ↓e_B, ↓e_I, ↓e_S, ↓e_gl, ↓e_add, ↓e_sub, ↓e_mul, ↓e_fdiv, ↓e_mod, ↓e_pow, ↓e_neg, ↓e_cmp, ↓bP_b, ↓t_cmp, ↓e_cmp2, ↓t_cmp2, ↓e_and1, ↓e_and2, ↓t_and1, ↓t_and2, ↓e_or1, ↓e_or2, ↓t_or1, ↓t_or2, ↓e_not, ↓t_not, ↓e_ite, ↓t_ite, ↓e_tup, ↓e_lst, ↓e_dct, ↓e_ix, ↓e_sl, ↓e_slr, ↓e_call, ↓e_bi, ↓e_mt, ↓e_lc, ↓e_frz, ↓t_frz, ↓t_v, ↓t_B, ↓t_N, ↓t_I, ↓t_ix, ↓t_bin, ↓t_call, ↓t_bi, ↓t_sl, ↓t_lc, ↓a_n, ↓a_c, ↓if_n, ↓if_1, ↓o_n, ↓iP_i, ↓o_s, ↓i_val, ↓i_r1, ↓i_r2, ↓i_r3, ↓i_enum, ↓i_zip, ↓i_rev, ↓add_i, ↓add_s, ↓add_t, ↓sub_i, ↓mul_i, ↓fdiv_i, ↓mod_i, ↓pow_i, ↓neg_i, ↓eq_i, ↓eq_s, ↓eq_b, ↓ne_i, ↓ne_s, ↓ne_b, ↓lt_i, ↓le_i, ↓gt_i, ↓ge_i, ↓is_N, ↓no_N, ↓tr_b, ↓tr_i, ↓tr_n, ↓tr_t, ↓tr_l, ↓ix_t, ↓ix_l, ↓ix_rl, ↓at_0, ↓at_1, ↓at_2, ↓at_3, ↓s_n, ↓s_c, ↓s_asg, ↓s_asgL, ↓s_par, ↓s_set, ↓s_ex, ↓s_ite, ↓s_for, ↓s_wh, ↓s_ret, ↓s_retN, ↓s_pass, ↓s_brk, ↓s_rz, ↓s_cont, ↓g_nm, ↓g_tp, ↓g_n, ↓g_c, ↓par_n, ↓par_c, ↓nw_f, ↓nw_t, ↓len_l, ↓len_t, ↓abs_i, ↓int_i, ↓int_b, ↓repr_h, ↓max_i, ↓min_i, ↓st_0, ↓st_s, ↓supd_supd, ↓ix_ref, ↓set_ref, ↓fd_turn, ↓fd_left, ↓fd_at, ↓fd_cells, ↓fs_turn, ↓fs_left, ↓fs_at, ↓ne_nil, ↓len_is, map_at, ↓ix_q0, ↓ix_q1, ↓g_q, ↓len_q, ↓tr_q, ↓low_eq, ↓q1_eq, ↓q2_eq, ↓sz_0, ↓sz_1, ↓sz_2, ↓sz_3, ↓sz_4, ↓sz_5, ↓sz_6, ↓sz_7, ↓sz_8, ↓itp_t, ↓itp_l, ↓itl_l, ↓pl_2, ↓pl_3, iteE_q, joinS_q, ↓eq_q, ↓ne_q, ↓ixC_l, ↓frz_ref, ↓tup_l, ↓tup_t, ↓lst_l, ↓lst_t, ↓sl_t, ↓slr_t, ↓mul_l, ↓add_l, ↓ifs_0, gsl_nm, gsl_tp, gsl_n, gsl_c, wipe_n, wipe_c, List.replicate, Option.map_some, decide_eq_true_eq, ↓reduceIte, Bool.false_eq_true, Bool.not_eq_eq_eq_not, Bool.not_true, Bool.not_false, true_and, forall_const, Bool.and_eq_true, Bool.or_eq_true, decide_eq_false_iff_not, not_true_eq_false, not_false_eq_true, decide_true, decide_false]
  refine use_law_trim (xs := ys2) rfl ?_
  have lb : (trim ys2).length ≤ 4 := Nat.le_trans (trim_len _) (by omega)
  have rb : RL 45 (trim ys2) := r2.trim
  generalize trim ys2 = b at lb rb ⊢
  simp only [↓gv_z, ↓gv_s, ↓sv_z, ↓sv_s, ↓wv_z, wv_z, ↓wv_s, wv_s, iteE_int, iteE_bl, iteE_str, iteE_lst, iteE_same, iteE_c1, iteE_c2, iteE_1, iteE_0, iteT_1, iteT_0, andT_1, andT_0, orT_1, orT_0, andE_1, andE_0, orE_1, orE_0, iteS_1, iteS_0, andE_bl, andE_c, orE_bl, orE_c, iteT_v, iteT_c1, iteT_c2, andT_v, andT_c, orT_v, orT_c, iteS_v, iteS_c1, iteS_c2, iteS_r1, iteS_r2, joinS_n, joinS_same, joinS_int, joinS_bl, ixS_s, ↓e_v, ↓e_N, ↓e_B, ↓e_I, ↓e_S, ↓e_gl, ↓e_add, ↓e_sub, ↓e_mul, ↓e_fdiv, ↓e_mod, ↓e_pow, ↓e_neg, ↓e_cmp, ↓bP_b, ↓t_cmp, ↓e_cmp2, ↓t_cmp2, ↓e_and1, ↓e_and2, ↓t_and1, ↓t_and2, ↓e_or1, ↓e_or2, ↓t_or1, ↓t_or2, ↓e_not, ↓t_not, ↓e_ite, ↓t_ite, ↓e_tup, ↓e_lst, ↓e_dct, ↓e_ix, ↓e_sl, ↓e_slr, ↓e_call, ↓e_bi, ↓e_mt, ↓e_lc, ↓e_frz, ↓t_frz, ↓t_v, ↓t_B, ↓t_N, ↓t_I, ↓t_ix, ↓t_bin, ↓t_call, ↓t_bi, ↓t_sl, ↓t_lc, ↓a_n, ↓a_c, ↓if_n, ↓if_1, ↓o_n, ↓iP_i, ↓o_s, ↓i_val, ↓i_r1, ↓i_r2, ↓i_r3, ↓i_enum, ↓i_zip, ↓i_rev, ↓add_i, ↓add_s, ↓add_t, ↓sub_i, ↓mul_i, ↓fdiv_i, ↓mod_i, ↓pow_i, ↓neg_i, ↓eq_i, ↓eq_s, ↓eq_b, ↓ne_i, ↓ne_s, ↓ne_b, ↓lt_i, ↓le_i, ↓gt_i, ↓ge_i, ↓is_N, ↓no_N, ↓tr_b, ↓tr_i, ↓tr_n, ↓tr_t, ↓tr_l, ↓ix_t, ↓ix_l, ↓ix_rl, ↓at_0, ↓at_1, ↓at_2, ↓at_3, ↓s_n, ↓s_c, ↓s_asg, ↓s_asgL, ↓s_par, ↓s_set, ↓s_ex, ↓s_ite, ↓s_for, ↓s_wh, ↓s_ret, ↓s_retN, ↓s_pass, ↓s_brk, ↓s_rz, ↓s_cont, ↓g_nm, ↓g_tp, ↓g_n, ↓g_c, ↓par_n, ↓par_c, ↓nw_f, ↓nw_t, ↓len_l, ↓len_t, ↓abs_i, ↓int_i, ↓int_b, ↓repr_h, ↓max_i, ↓min_i, ↓st_0, ↓st_s, ↓supd_supd, ↓ix_ref, ↓set_ref, ↓fd_turn, ↓fd_left, ↓fd_at, ↓fd_cells, ↓fs_turn, ↓fs_left, ↓fs_at, ↓ne_nil, ↓len_is, map_at, ↓ix_q0, ↓ix_q1, ↓g_q, ↓len_q, ↓tr_q, ↓low_eq, ↓q1_eq, ↓q2_eq, ↓sz_0, ↓sz_1, ↓sz_2, ↓sz_3, ↓sz_4, ↓sz_5, ↓sz_6, ↓sz_7, ↓sz_8, ↓itp_t, ↓itp_l, ↓itl_l, ↓pl_2, ↓pl_3, iteE_q, joinS_q, ↓eq_q, ↓ne_q, ↓ixC_l, ↓frz_ref, ↓tup_l, ↓tup_t, ↓lst_l, ↓lst_t, ↓sl_t, ↓slr_t, ↓mul_l, ↓add_l, ↓ifs_0, gsl_nm, gsl_tp, gsl_n, gsl_c, wipe_n, wipe_c, List.replicate, Option.map_some, decide_eq_true_eq, ↓reduceIte, Bool.false_eq_true, Bool.not_eq_eq_eq_not, Bool.not_true, Bool.not_false, true_and, forall_const, Bool.and_eq_true, Bool.or_eq_true, decide_eq_false_iff_not, not_true_eq_false, not_false_eq_true, decide_true, decide_false]
  have pick : ∀ (R : EQ) (S' : Sto), (∀ b' : List Rat, RL 45 b' → b'.length ≤ 4 → R (plD b') S') → @iteE (decide (way = 0)) (fun P => P (plD a) S') (fun P => P (plD b) S') ⟨R⟩ := by
    intro R S' hR
    rw [iteE_def]
    split
    · exact hR _ ra la
    · exact hR _ rb lb
  refine pick _ _ fun b' rb' lb' => ?_
  simp only [↓gv_z, ↓gv_s, ↓sv_z, ↓sv_s, ↓wv_z, wv_z, ↓wv_s, wv_s, iteE_int, iteE_bl, iteE_str, iteE_lst, iteE_same, iteE_c1, iteE_c2, iteE_1, iteE_0, iteT_1, iteT_0, andT_1, andT_0, orT_1, orT_0, andE_1, andE_0, orE_1, orE_0, iteS_1, iteS_0, andE_bl, andE_c, orE_bl, orE_c, iteT_v, iteT_c1, iteT_c2, andT_v, andT_c, orT_v, orT_c, iteS_v, iteS_c1, iteS_c2, iteS_r1, iteS_r2, joinS_n, joinS_same, joinS_int, joinS_bl, ixS_s, ↓e_v, ↓e_N, ↓e_B, ↓e_I, ↓e_S, ↓e_gl, ↓e_add, ↓e_sub, ↓e_mul, ↓e_fdiv, ↓e_mod, ↓e_pow, ↓e_neg, ↓e_cmp, ↓bP_b, ↓t_cmp, ↓e_cmp2, ↓t_cmp2, ↓e_and1, ↓e_and2, ↓t_and1, ↓t_and2, ↓e_or1, ↓e_or2, ↓t_or1, ↓t_or2, ↓e_not, ↓t_not, ↓e_ite, ↓t_ite, ↓e_tup, ↓e_lst, ↓e_dct, ↓e_ix, ↓e_sl, ↓e_slr, ↓e_call, ↓e_bi, ↓e_mt, ↓e_lc, ↓e_frz, ↓t_frz, ↓t_v, ↓t_B, ↓t_N, ↓t_I, ↓t_ix, ↓t_bin, ↓t_call, ↓t_bi, ↓t_sl, ↓t_lc, ↓a_n, ↓a_c, ↓if_n, ↓if_1, ↓o_n, ↓iP_i, ↓o_s, ↓i_val, ↓i_r1, ↓i_r2, ↓i_r3, ↓i_enum, ↓i_zip, ↓i_rev, ↓add_i, ↓add_s, ↓add_t, ↓sub_i, ↓mul_i, ↓fdiv_i, ↓mod_i, ↓pow_i, ↓neg_i, ↓eq_i, ↓eq_s, ↓eq_b, ↓ne_i, ↓ne_s, ↓ne_b, ↓lt_i, ↓le_i, ↓gt_i, ↓ge_i, ↓is_N, ↓no_N, ↓tr_b, ↓tr_i, ↓tr_n, ↓tr_t, ↓tr_l, ↓ix_t, ↓ix_l, ↓ix_rl, ↓at_0, ↓at_1, ↓at_2, ↓at_3, ↓s_n, ↓s_c, ↓s_asg, ↓s_asgL, ↓s_par, ↓s_set, ↓s_ex, ↓s_ite, ↓s_for, ↓s_wh, ↓s_ret, ↓s_retN, ↓s_pass, ↓s_brk, ↓s_rz, ↓s_cont, ↓g_nm, ↓g_tp, ↓g_n, ↓g_c, ↓par_n, ↓par_c, ↓nw_f, ↓nw_t, ↓len_l, ↓len_t, ↓abs_i, ↓int_i, ↓int_b, ↓repr_h, ↓max_i, ↓min_i, ↓st_0, ↓st_s, ↓supd_supd, ↓ix_ref, ↓set_ref, ↓fd_turn, ↓fd_left, ↓fd_at, ↓fd_cells, ↓fs_turn, ↓fs_left, ↓fs_at, ↓ne_nil, ↓len_is, map_at, ↓ix_q0, ↓ix_q1, ↓g_q, ↓len_q, ↓tr_q, ↓low_eq, ↓q1_eq, ↓q2_eq, ↓sz_0, ↓sz_1, ↓sz_2, ↓sz_3, ↓sz_4, ↓sz_5, ↓sz_6, ↓sz_7, ↓sz_8, ↓itp_t, ↓itp_l, ↓itl_l, ↓pl_2, ↓pl_3, iteE_q, joinS_q, ↓eq_q, ↓ne_q, ↓ixC_l, ↓frz_ref, ↓tup_l, ↓tup_t, ↓lst_l, ↓lst_t, ↓sl_t, ↓slr_t, ↓mul_l, ↓add_l, ↓ifs_0, gsl_nm, gsl_tp, gsl_n, gsl_c, wipe_n, wipe_c, List.replicate, Option.map_some, decide_eq_true_eq, ↓reduceIte, Bool.false_eq_true, Bool.not_eq_eq_eq_not, Bool.not_true, Bool.not_false, true_and, forall_const, Bool.and_eq_true, Bool.or_eq_true, decide_eq_false_iff_not, not_true_eq_false, not_false_eq_true, decide_true, decide_false]
  refine ⟨⟨by decide, by decide⟩, ?_⟩
  refine lc_draws (n := 43) (k := 5) (b := 45) (N := 3) (p := p) (by omega) (by omega) ?_ (A6.fd.le (m := 43) (by omega)) ?_ _ (by rw [rng_len]; rfl)
  · intro d S' R i hF' hn hR
    simp only [↓gv_z, ↓gv_s, ↓sv_z, ↓sv_s, ↓wv_z, wv_z, ↓wv_s, wv_s, iteE_int, iteE_bl, iteE_str, iteE_lst, iteE_same, iteE_c1, iteE_c2, iteE_1, iteE_0, iteT_1, iteT_0, andT_1, andT_0, orT_1, orT_0, andE_1, andE_0, orE_1, orE_0, iteS_1, iteS_0, andE_bl, andE_c, orE_bl, orE_c, iteT_v, iteT_c1, iteT_c2, andT_v, andT_c, orT_v, orT_c, iteS_v, iteS_c1, iteS_c2, iteS_r1, iteS_r2, joinS_n, joinS_same, joinS_int, joinS_bl, ixS_s, ↓e_v, ↓e_N, ↓e_B, ↓e_I, ↓e_S, ↓e_gl, ↓e_add, ↓e_sub, ↓e_mul, ↓e_fdiv, ↓e_mod, ↓e_pow, ↓e_neg, ↓e_cmp, ↓bP_b, ↓t_cmp, ↓e_cmp2, ↓t_cmp2, ↓e_and1, ↓e_and2, ↓t_and1, ↓t_and2, ↓e_or1, ↓e_or2, ↓t_or1, ↓t_or2, ↓e_not, ↓t_not, ↓e_ite, ↓t_ite, ↓e_tup, ↓e_lst, ↓e_dct, ↓e_ix, ↓e_sl, ↓e_slr, ↓e_call, ↓e_bi, ↓e_mt, ↓e_lc, ↓e_frz, ↓t_frz, ↓t_v, ↓t_B, ↓t_N, ↓t_I, ↓t_ix, ↓t_bin, ↓t_call, ↓t_bi, ↓t_sl, ↓t_lc, ↓a_n, ↓a_c, ↓if_n, ↓if_1, ↓o_n, ↓iP_i, ↓o_s, ↓i_val, ↓i_r1, ↓i_r2, ↓i_r3, ↓i_enum, ↓i_zip, ↓i_rev, ↓add_i, ↓add_s, ↓add_t, ↓sub_i, ↓mul_i, ↓fdiv_i, ↓mod_i, ↓pow_i, ↓neg_i, ↓eq_i, ↓eq_s, ↓eq_b, ↓ne_i, ↓ne_s, ↓ne_b, ↓lt_i, ↓le_i, ↓gt_i, ↓ge_i, ↓is_N, ↓no_N, ↓tr_b, ↓tr_i, ↓tr_n, ↓tr_t, ↓tr_l, ↓ix_t, ↓ix_l, ↓ix_rl, ↓at_0, ↓at_1, ↓at_2, ↓at_3, ↓s_n, ↓s_c, ↓s_asg, ↓s_asgL, ↓s_par, ↓s_set, ↓s_ex, ↓s_ite, ↓s_for, ↓s_wh, ↓s_ret, ↓s_retN, ↓s_pass, ↓s_brk, ↓s_rz, ↓s_cont, ↓g_nm, ↓g_tp, ↓g_n, ↓g_c, ↓par_n, ↓par_c, ↓nw_f, ↓nw_t, ↓len_l, ↓len_t, ↓abs_i, ↓int_i, ↓int_b, ↓repr_h, ↓max_i, ↓min_i, ↓st_0, ↓st_s, ↓supd_supd, ↓ix_ref, ↓set_ref, ↓fd_turn, ↓fd_left, ↓fd_at, ↓fd_cells, ↓fs_turn, ↓fs_left, ↓fs_at, ↓ne_nil, ↓len_is, map_at, ↓ix_q0, ↓ix_q1, ↓g_q, ↓len_q, ↓tr_q, ↓low_eq, ↓q1_eq, ↓q2_eq, ↓sz_0, ↓sz_1, ↓sz_2, ↓sz_3, ↓sz_4, ↓sz_5, ↓sz_6, ↓sz_7, ↓sz_8, ↓itp_t, ↓itp_l, ↓itl_l, ↓pl_2, ↓pl_3, iteE_q, joinS_q, ↓eq_q, ↓ne_q, ↓ixC_l, ↓frz_ref, ↓tup_l, ↓tup_t, ↓lst_l, ↓lst_t, ↓sl_t, ↓slr_t, ↓mul_l, ↓add_l, ↓ifs_0, gsl_nm, gsl_tp, gsl_n, gsl_c, wipe_n, wipe_c, List.replicate, Option.map_some, decide_eq_true_eq, ↓reduceIte, Bool.false_eq_true, Bool.not_eq_eq_eq_not, Bool.not_true, Bool.not_false, true_and, forall_const, Bool.and_eq_true, Bool.or_eq_true, decide_eq_false_iff_not, not_true_eq_false, not_false_eq_true, decide_true, decide_false]
    exact use_drQ hF' hn hR
  intro ys3 S7 l3 r3 A7
  simp only [↓gv_z, ↓gv_s, ↓sv_z, ↓sv_s, ↓wv_z, wv_z, ↓wv_s, wv_s, iteE_int, iteE_bl, iteE_str, iteE_lst, iteE_same, iteE_c1, iteE_c2, iteE_1, iteE_0, iteT_1, iteT_0, andT_1, andT_0, orT_1, orT_0, andE_1, andE_0, orE_1, orE_0, iteS_1, iteS_0, andE_bl, andE_c, orE_bl, orE_c, iteT_v, iteT_c1, iteT_c2, andT_v, andT_c, orT_v, orT_c, iteS_v, iteS_c1, iteS_c2, iteS_r1, iteS_r2, joinS_n, joinS_same, joinS_int, joinS_bl, ixS_s, ↓e_v, ↓e_N, ↓e_B, ↓e_I, ↓e_S, ↓e_gl, ↓e_add, ↓e_sub, ↓e_mul, ↓e_fdiv, ↓e_mod, ↓e_pow, ↓e_neg, ↓e_cmp, ↓bP_b, ↓t_cmp, ↓e_cmp2, ↓t_cmp2, ↓e_and1, ↓e_and2, ↓t_and1, ↓t_and2, ↓e_or1, ↓e_or2, ↓t_or1, ↓t_or2, ↓e_not, ↓t_not, ↓e_ite, ↓t_ite, ↓e_tup, ↓e_lst, ↓e_dct, ↓e_ix, ↓e_sl, ↓e_slr, ↓e_call, ↓e_bi, ↓e_mt, ↓e_lc, ↓e_frz, ↓t_frz, ↓t_v, ↓t_B, ↓t_N, ↓t_I, ↓t_ix, ↓t_bin, ↓t_call, ↓t_bi, ↓t_sl, ↓t_lc, ↓a_n, ↓a_c, ↓if_n, ↓if_1, ↓o_n, ↓iP_i, ↓o_s, ↓i_val, ↓i_r1, ↓i_r2, ↓i_r3, ↓i_enum, ↓i_zip, ↓i_rev, ↓add_i, ↓add_s, ↓add_t, ↓sub_i, ↓mul_i, ↓fdiv_i, ↓mod_i, ↓pow_i, ↓neg_i, ↓eq_i, ↓eq_s, ↓eq_b, ↓ne_i, ↓ne_s, ↓ne_b, ↓lt_i, ↓le_i, ↓gt_i, ↓ge_i, ↓is_N, ↓no_N, ↓tr_b, ↓tr_i, ↓tr_n, ↓tr_t, ↓tr_l, ↓ix_t, ↓ix_l, ↓ix_rl, ↓at_0, ↓at_1, ↓at_2, ↓at_3, ↓s_n, ↓s_c, ↓s_asg, ↓s_asgL, ↓s_par, ↓s_set, ↓s_ex, ↓s_ite, ↓s_for, ↓s_wh, ↓s_ret, ↓s_retN, ↓s_pass, ↓s_brk, ↓s_rz, ↓s_cont, ↓g_nm, ↓g_tp, ↓g_n, ↓g_c, ↓par_n, ↓par_c, ↓nw_f, ↓nw_t, ↓len_l, ↓len_t, ↓abs_i, ↓int_i, ↓int_b, ↓repr_h, ↓max_i, ↓min_i, ↓st_0, ↓st_s, ↓supd_supd, ↓ix_ref, ↓set_ref, ↓fd_turn, ↓fd_left, ↓fd_at, ↓fd_cells, ↓fs_turn, ↓fs_left, ↓fs_at, ↓ne_nil, ↓len_is, map_at, ↓ix_q0, ↓ix_q1, ↓g_q, ↓len_q, ↓tr_q, ↓low_eq, ↓q1_eq, ↓q2_eq, ↓sz_0, ↓sz_1, ↓sz_2, ↓sz_3, ↓sz_4, ↓sz_5, ↓sz_6, ↓sz_7, ↓sz_8, ↓itp_t, ↓itp_l, ↓itl_l, ↓pl_2, ↓pl_3, iteE_q, joinS_q, ↓eq_q, ↓ne_q, ↓ixC_l, ↓frz_ref, ↓tup_l, ↓tup_t, ↓lst_l, ↓lst_t, ↓sl_t, ↓slr_t, ↓mul_l, ↓add_l, ↓ifs_0, gsl_nm, gsl_tp, gsl_n, gsl_c, wipe_n, wipe_c, List.replicate, Option.map_some, decide_eq_true_eq, ↓reduceIte, Bool.false_eq_true, Bool.not_eq_eq_eq_not, Bool.not_true, Bool.not_false, true_and, forall_const, Bool.and_eq_true, Bool.or_eq_true, decide_eq_false_iff_not, not_true_eq_false, not_false_eq_true, decide_true, decide_false]
  intro q hq
  have hqp : q ≠ p := A7.fd.ne hq
  match ys3, l3, r3 with
  | [p0, p1, p2], l3, r3 =>
  have q0 : RB 45 p0 := r3 _ (by simp)
  have q1 : RB 45 p1 := r3 _ (by simp)
  have q2 : RB 45 p2 := r3 _ (by simp)
  refine use_draw (n := 58) (A7.fd.of (supd_ne hqp.symm)) (by omega) (by decide) (Bt.lit (by decide)) fun c3 S8 c30 c31 A8 => ?_
  have hc8 : S8 q = some (.lst ([p0, p1, p2].map frq)) := (A8.eq q hqp).trans supd_same
  rw [← supd_self hc8]
  have fin : ∀ (t : Rat) (S9 : Sto), RB 45 t → S9 q = some (.lst ([p0, p1, t].map frq)) →
      wSs (fun x x_1 S => U x S) (.cons (.asg (.nm 6) (.bi .repr false (.cons (.tup (.cons (.v 3) (.cons (.v 4) (.cons (.v 5) (.nil))))) (.nil)))) (.cons (.ite (.or_ (.cons (.not_ (.call "_law_right" sp__law_right (.cons (.v 3) (.cons (.v 4) (.cons (.v 5) (.nil)))))) (.cons (.not_ (.call "_law_right" sp__law_right (.cons (.v 4) (.cons (.v 3) (.cons (.v 5) (.nil)))))) (.nil)))) (.cons (.ret (.cB false)) (.nil)) (.nil)) (.cons (.asg (.nm 7) (.call "under_poly" sp_under_poly (.cons (.v 3) (.cons (.ix (.v 5) (.cI 0)) (.cons (.ix (.v 5) (.cI 1)) (.nil)))))) (.cons (.ret (.and_ (.cons (.cmp .eq (.bi .repr false (.cons (.v 7) (.nil))) (.bi .repr false (.cons (.call "_law_beneath" sp__law_beneath (.cons (.v 3) (.cons (.ix (.v 5) (.cI 0)) (.cons (.ix (.v 5) (.cI 1)) (.nil))))) (.nil)))) (.cons (.cmp .eq (.bi .repr false (.cons (.tup (.cons (.v 3) (.cons (.v 4) (.cons (.v 5) (.nil))))) (.nil))) (.v 6)) (.nil))))) (.nil)))))
        ⟨fun _ S => Q .non S, Q, fun _ _ => False, fun _ _ => False⟩ [some (.rls (cs.map D.int)), some (.ref p), some (.int way), some (plD a), some (plD b'), some (.ref q), none, none, none] S9 := by
    intro t S9 rt hS
    have hlq : lsx S9 (.ref q) = some ([p0, p1, t].map frq) := by
      show cL (S9 q) = _
      rw [hS]; rfl
    have rp : RL 45 [p0, p1, t] := by
      intro z m
      simp only [List.mem_cons, List.not_mem_nil, or_false] at m
      rcases m with rfl | rfl | rfl <;> assumption
    have h0 : atI [p0, p1, t] 0 = some p0 := at_0
    have h1 : atI [p0, p1, t] 1 = some p1 := at_1
    have shP := ((ShL.map [p0, p1, t] fun x m => Sh.frq (S := S9) ((rp x m).le (by decide))).lsx hlq)
    have shK := (ShL.cons (Sh.pl (S := S9) (n := 8) (ra.le (by decide)) (by omega)) (ShL.cons (Sh.pl (n := 8) (rb'.le (by decide)) (by omega)) (ShL.cons (shP.le (k' := 2) (b' := 24) (by decide) (show (2 + 1) * 3 ≤ 24 by decide)) (ShL.nil.le (Nat.zero_le _) (Nat.le_refl _))))).tup
    simp only [↓gv_z, ↓gv_s, ↓sv_z, ↓sv_s, ↓wv_z, wv_z, ↓wv_s, wv_s, iteE_int, iteE_bl, iteE_str, iteE_lst, iteE_same, iteE_c1, iteE_c2, iteE_1, iteE_0, iteT_1, iteT_0, andT_1, andT_0, orT_1, orT_0, andE_1, andE_0, orE_1, orE_0, iteS_1, iteS_0, andE_bl, andE_c, orE_bl, orE_c, iteT_v, iteT_c1, iteT_c2, andT_v, andT_c, orT_v, orT_c, iteS_v, iteS_c1, iteS_c2, iteS_r1, iteS_r2, joinS_n, joinS_same, joinS_int, joinS_bl, ixS_s, ↓e_v, ↓e_N, ↓e_B, ↓e_I, ↓e_S, ↓e_gl, ↓e_add, ↓e_sub, ↓e_mul, ↓e_fdiv, ↓e_mod, ↓e_pow, ↓e_neg, ↓e_cmp, ↓bP_b, ↓t_cmp, ↓e_cmp2, ↓t_cmp2, ↓e_and1, ↓e_and2, ↓t_and1, ↓t_and2, ↓e_or1, ↓e_or2, ↓t_or1, ↓t_or2, ↓e_not, ↓t_not, ↓e_ite, ↓t_ite, ↓e_tup, ↓e_lst, ↓e_dct, ↓e_ix, ↓e_sl, ↓e_slr, ↓e_call, ↓e_bi, ↓e_mt, ↓e_lc, ↓e_frz, ↓t_frz, ↓t_v, ↓t_B, ↓t_N, ↓t_I, ↓t_ix, ↓t_bin, ↓t_call, ↓t_bi, ↓t_sl, ↓t_lc, ↓a_n, ↓a_c, ↓if_n, ↓if_1, ↓o_n, ↓iP_i, ↓o_s, ↓i_val, ↓i_r1, ↓i_r2, ↓i_r3, ↓i_enum, ↓i_zip, ↓i_rev, ↓add_i, ↓add_s, ↓add_t, ↓sub_i, ↓mul_i, ↓fdiv_i, ↓mod_i, ↓pow_i, ↓neg_i, ↓eq_i, ↓eq_s, ↓eq_b, ↓ne_i, ↓ne_s, ↓ne_b, ↓lt_i, ↓le_i, ↓gt_i, ↓ge_i, ↓is_N, ↓no_N, ↓tr_b, ↓tr_i, ↓tr_n, ↓tr_t, ↓tr_l, ↓ix_t, ↓ix_l, ↓ix_rl, ↓at_0, ↓at_1, ↓at_2, ↓at_3, ↓s_n, ↓s_c, ↓s_asg, ↓s_asgL, ↓s_par, ↓s_set, ↓s_ex, ↓s_ite, ↓s_for, ↓s_wh, ↓s_ret, ↓s_retN, ↓s_pass, ↓s_brk, ↓s_rz, ↓s_cont, ↓g_nm, ↓g_tp, ↓g_n, ↓g_c, ↓par_n, ↓par_c, ↓nw_f, ↓nw_t, ↓len_l, ↓len_t, ↓abs_i, ↓int_i, ↓int_b, ↓repr_h, ↓max_i, ↓min_i, ↓st_0, ↓st_s, ↓supd_supd, ↓ix_ref, ↓set_ref, ↓fd_turn, ↓fd_left, ↓fd_at, ↓fd_cells, ↓fs_turn, ↓fs_left, ↓fs_at, ↓ne_nil, ↓len_is, map_at, ↓ix_q0, ↓ix_q1, ↓g_q, ↓len_q, ↓tr_q, ↓low_eq, ↓q1_eq, ↓q2_eq, ↓sz_0, ↓sz_1, ↓sz_2, ↓sz_3, ↓sz_4, ↓sz_5, ↓sz_6, ↓sz_7, ↓sz_8, ↓itp_t, ↓itp_l, ↓itl_l, ↓pl_2, ↓pl_3, iteE_q, joinS_q, ↓eq_q, ↓ne_q, ↓ixC_l, ↓frz_ref, ↓tup_l, ↓tup_t, ↓lst_l, ↓lst_t, ↓sl_t, ↓slr_t, ↓mul_l, ↓add_l, ↓ifs_0, gsl_nm, gsl_tp, gsl_n, gsl_c, wipe_n, wipe_c, List.replicate, Option.map_some, decide_eq_true_eq, ↓reduceIte, Bool.false_eq_true, Bool.not_eq_eq_eq_not, Bool.not_true, Bool.not_false, true_and, forall_const, Bool.and_eq_true, Bool.or_eq_true, decide_eq_false_iff_not, not_true_eq_false, not_false_eq_true, decide_true, decide_false]
    refine shK.repr (by decide) (by decide) ?_
    simp only [↓gv_z, ↓gv_s, ↓sv_z, ↓sv_s, ↓wv_z, wv_z, ↓wv_s, wv_s, iteE_int, iteE_bl, iteE_str, iteE_lst, iteE_same, iteE_c1, iteE_c2, iteE_1, iteE_0, iteT_1, iteT_0, andT_1, andT_0, orT_1, orT_0, andE_1, andE_0, orE_1, orE_0, iteS_1, iteS_0, andE_bl, andE_c, orE_bl, orE_c, iteT_v, iteT_c1, iteT_c2, andT_v, andT_c, orT_v, orT_c, iteS_v, iteS_c1, iteS_c2, iteS_r1, iteS_r2, joinS_n, joinS_same, joinS_int, joinS_bl, ixS_s, ↓e_v, ↓e_N, ↓e_B, ↓e_I, ↓e_S, ↓e_gl, ↓e_add, ↓e_sub, ↓e_mul, ↓e_fdiv, ↓e_mod, ↓e_pow, ↓e_neg, ↓e_cmp, ↓bP_b, ↓t_cmp, ↓e_cmp2, ↓t_cmp2, ↓e_and1, ↓e_and2, ↓t_and1, ↓t_and2, ↓e_or1, ↓e_or2, ↓t_or1, ↓t_or2, ↓e_not, ↓t_not, ↓e_ite, ↓t_ite, ↓e_tup, ↓e_lst, ↓e_dct, ↓e_ix, ↓e_sl, ↓e_slr, ↓e_call, ↓e_bi, ↓e_mt, ↓e_lc, ↓e_frz, ↓t_frz, ↓t_v, ↓t_B, ↓t_N, ↓t_I, ↓t_ix, ↓t_bin, ↓t_call, ↓t_bi, ↓t_sl, ↓t_lc, ↓a_n, ↓a_c, ↓if_n, ↓if_1, ↓o_n, ↓iP_i, ↓o_s, ↓i_val, ↓i_r1, ↓i_r2, ↓i_r3, ↓i_enum, ↓i_zip, ↓i_rev, ↓add_i, ↓add_s, ↓add_t, ↓sub_i, ↓mul_i, ↓fdiv_i, ↓mod_i, ↓pow_i, ↓neg_i, ↓eq_i, ↓eq_s, ↓eq_b, ↓ne_i, ↓ne_s, ↓ne_b, ↓lt_i, ↓le_i, ↓gt_i, ↓ge_i, ↓is_N, ↓no_N, ↓tr_b, ↓tr_i, ↓tr_n, ↓tr_t, ↓tr_l, ↓ix_t, ↓ix_l, ↓ix_rl, ↓at_0, ↓at_1, ↓at_2, ↓at_3, ↓s_n, ↓s_c, ↓s_asg, ↓s_asgL, ↓s_par, ↓s_set, ↓s_ex, ↓s_ite, ↓s_for, ↓s_wh, ↓s_ret, ↓s_retN, ↓s_pass, ↓s_brk, ↓s_rz, ↓s_cont, ↓g_nm, ↓g_tp, ↓g_n, ↓g_c, ↓par_n, ↓par_c, ↓nw_f, ↓nw_t, ↓len_l, ↓len_t, ↓abs_i, ↓int_i, ↓int_b, ↓repr_h, ↓max_i, ↓min_i, ↓st_0, ↓st_s, ↓supd_supd, ↓ix_ref, ↓set_ref, ↓fd_turn, ↓fd_left, ↓fd_at, ↓fd_cells, ↓fs_turn, ↓fs_left, ↓fs_at, ↓ne_nil, ↓len_is, map_at, ↓ix_q0, ↓ix_q1, ↓g_q, ↓len_q, ↓tr_q, ↓low_eq, ↓q1_eq, ↓q2_eq, ↓sz_0, ↓sz_1, ↓sz_2, ↓sz_3, ↓sz_4, ↓sz_5, ↓sz_6, ↓sz_7, ↓sz_8, ↓itp_t, ↓itp_l, ↓itl_l, ↓pl_2, ↓pl_3, iteE_q, joinS_q, ↓eq_q, ↓ne_q, ↓ixC_l, ↓frz_ref, ↓tup_l, ↓tup_t, ↓lst_l, ↓lst_t, ↓sl_t, ↓slr_t, ↓mul_l, ↓add_l, ↓ifs_0, gsl_nm, gsl_tp, gsl_n, gsl_c, wipe_n, wipe_c, List.replicate, Option.map_some, decide_eq_true_eq, ↓reduceIte, Bool.false_eq_true, Bool.not_eq_eq_eq_not, Bool.not_true, Bool.not_false, true_and, forall_const, Bool.and_eq_true, Bool.or_eq_true, decide_eq_false_iff_not, not_true_eq_false, not_false_eq_true, decide_true, decide_false]
    refine ⟨a, b', .ref q, p0, p1, t, rfl, hlq, ⟨ra, rb', rp, la, lb'⟩, ?_⟩
    simp only [↓gv_z, ↓gv_s, ↓sv_z, ↓sv_s, ↓wv_z, wv_z, ↓wv_s, wv_s, iteE_int, iteE_bl, iteE_str, iteE_lst, iteE_same, iteE_c1, iteE_c2, iteE_1, iteE_0, iteT_1, iteT_0, andT_1, andT_0, orT_1, orT_0, andE_1, andE_0, orE_1, orE_0, iteS_1, iteS_0, andE_bl, andE_c, orE_bl, orE_c, iteT_v, iteT_c1, iteT_c2, andT_v, andT_c, orT_v, orT_c, iteS_v, iteS_c1, iteS_c2, iteS_r1, iteS_r2, joinS_n, joinS_same, joinS_int, joinS_bl, ixS_s, ↓e_v, ↓e_N, ↓e_B, ↓e_I, ↓e_S, ↓e_gl, ↓e_add, ↓e_sub, ↓e_mul, ↓e_fdiv, ↓e_mod, ↓e_pow, ↓e_neg, ↓e_cmp, ↓bP_b, ↓t_cmp, ↓e_cmp2, ↓t_cmp2, ↓e_and1, ↓e_and2, ↓t_and1, ↓t_and2, ↓e_or1, ↓e_or2, ↓t_or1, ↓t_or2, ↓e_not, ↓t_not, ↓e_ite, ↓t_ite, ↓e_tup, ↓e_lst, ↓e_dct, ↓e_ix, ↓e_sl, ↓e_slr, ↓e_call, ↓e_bi, ↓e_mt, ↓e_lc, ↓e_frz, ↓t_frz, ↓t_v, ↓t_B, ↓t_N, ↓t_I, ↓t_ix, ↓t_bin, ↓t_call, ↓t_bi, ↓t_sl, ↓t_lc, ↓a_n, ↓a_c, ↓if_n, ↓if_1, ↓o_n, ↓iP_i, ↓o_s, ↓i_val, ↓i_r1, ↓i_r2, ↓i_r3, ↓i_enum, ↓i_zip, ↓i_rev, ↓add_i, ↓add_s, ↓add_t, ↓sub_i, ↓mul_i, ↓fdiv_i, ↓mod_i, ↓pow_i, ↓neg_i, ↓eq_i, ↓eq_s, ↓eq_b, ↓ne_i, ↓ne_s, ↓ne_b, ↓lt_i, ↓le_i, ↓gt_i, ↓ge_i, ↓is_N, ↓no_N, ↓tr_b, ↓tr_i, ↓tr_n, ↓tr_t, ↓tr_l, ↓ix_t, ↓ix_l, ↓ix_rl, ↓at_0, ↓at_1, ↓at_2, ↓at_3, ↓s_n, ↓s_c, ↓s_asg, ↓s_asgL, ↓s_par, ↓s_set, ↓s_ex, ↓s_ite, ↓s_for, ↓s_wh, ↓s_ret, ↓s_retN, ↓s_pass, ↓s_brk, ↓s_rz, ↓s_cont, ↓g_nm, ↓g_tp, ↓g_n, ↓g_c, ↓par_n, ↓par_c, ↓nw_f, ↓nw_t, ↓len_l, ↓len_t, ↓abs_i, ↓int_i, ↓int_b, ↓repr_h, ↓max_i, ↓min_i, ↓st_0, ↓st_s, ↓supd_supd, ↓ix_ref, ↓set_ref, ↓fd_turn, ↓fd_left, ↓fd_at, ↓fd_cells, ↓fs_turn, ↓fs_left, ↓fs_at, ↓ne_nil, ↓len_is, map_at, ↓ix_q0, ↓ix_q1, ↓g_q, ↓len_q, ↓tr_q, ↓low_eq, ↓q1_eq, ↓q2_eq, ↓sz_0, ↓sz_1, ↓sz_2, ↓sz_3, ↓sz_4, ↓sz_5, ↓sz_6, ↓sz_7, ↓sz_8, ↓itp_t, ↓itp_l, ↓itl_l, ↓pl_2, ↓pl_3, iteE_q, joinS_q, ↓eq_q, ↓ne_q, ↓ixC_l, ↓frz_ref, ↓tup_l, ↓tup_t, ↓lst_l, ↓lst_t, ↓sl_t, ↓slr_t, ↓mul_l, ↓add_l, ↓ifs_0, gsl_nm, gsl_tp, gsl_n, gsl_c, wipe_n, wipe_c, List.replicate, Option.map_some, decide_eq_true_eq, ↓reduceIte, Bool.false_eq_true, Bool.not_eq_eq_eq_not, Bool.not_true, Bool.not_false, true_and, forall_const, Bool.and_eq_true, Bool.or_eq_true, decide_eq_false_iff_not, not_true_eq_false, not_false_eq_true, decide_true, decide_false]
    refine ⟨b', a, .ref q, p0, p1, t, rfl, hlq, ⟨rb', ra, rp, lb', la⟩, ?_⟩
    simp only [at_ref hS, map_at, h0, h1, ↓gv_z, ↓gv_s, ↓sv_z, ↓sv_s, ↓wv_z, wv_z, ↓wv_s, wv_s, iteE_int, iteE_bl, iteE_str, iteE_lst, iteE_same, iteE_c1, iteE_c2, iteE_1, iteE_0, iteT_1, iteT_0, andT_1, andT_0, orT_1, orT_0, andE_1, andE_0, orE_1, orE_0, iteS_1, iteS_0, andE_bl, andE_c, orE_bl, orE_c, iteT_v, iteT_c1, iteT_c2, andT_v, andT_c, orT_v, orT_c, iteS_v, iteS_c1, iteS_c2, iteS_r1, iteS_r2, joinS_n, joinS_same, joinS_int, joinS_bl, ixS_s, ↓e_v, ↓e_N, ↓e_B, ↓e_I, ↓e_S, ↓e_gl, ↓e_add, ↓e_sub, ↓e_mul, ↓e_fdiv, ↓e_mod, ↓e_pow, ↓e_neg, ↓e_cmp, ↓bP_b, ↓t_cmp, ↓e_cmp2, ↓t_cmp2, ↓e_and1, ↓e_and2, ↓t_and1, ↓t_and2, ↓e_or1, ↓e_or2, ↓t_or1, ↓t_or2, ↓e_not, ↓t_not, ↓e_ite, ↓t_ite, ↓e_tup, ↓e_lst, ↓e_dct, ↓e_ix, ↓e_sl, ↓e_slr, ↓e_call, ↓e_bi, ↓e_mt, ↓e_lc, ↓e_frz, ↓t_frz, ↓t_v, ↓t_B, ↓t_N, ↓t_I, ↓t_ix, ↓t_bin, ↓t_call, ↓t_bi, ↓t_sl, ↓t_lc, ↓a_n, ↓a_c, ↓if_n, ↓if_1, ↓o_n, ↓iP_i, ↓o_s, ↓i_val, ↓i_r1, ↓i_r2, ↓i_r3, ↓i_enum, ↓i_zip, ↓i_rev, ↓add_i, ↓add_s, ↓add_t, ↓sub_i, ↓mul_i, ↓fdiv_i, ↓mod_i, ↓pow_i, ↓neg_i, ↓eq_i, ↓eq_s, ↓eq_b, ↓ne_i, ↓ne_s, ↓ne_b, ↓lt_i, ↓le_i, ↓gt_i, ↓ge_i, ↓is_N, ↓no_N, ↓tr_b, ↓tr_i, ↓tr_n, ↓tr_t, ↓tr_l, ↓ix_t, ↓ix_l, ↓ix_rl, ↓at_0, ↓at_1, ↓at_2, ↓at_3, ↓s_n, ↓s_c, ↓s_asg, ↓s_asgL, ↓s_par, ↓s_set, ↓s_ex, ↓s_ite, ↓s_for, ↓s_wh, ↓s_ret, ↓s_retN, ↓s_pass, ↓s_brk, ↓s_rz, ↓s_cont, ↓g_nm, ↓g_tp, ↓g_n, ↓g_c, ↓par_n, ↓par_c, ↓nw_f, ↓nw_t, ↓len_l, ↓len_t, ↓abs_i, ↓int_i, ↓int_b, ↓repr_h, ↓max_i, ↓min_i, ↓st_0, ↓st_s, ↓supd_supd, ↓ix_ref, ↓set_ref, ↓fd_turn, ↓fd_left, ↓fd_at, ↓fd_cells, ↓fs_turn, ↓fs_left, ↓fs_at, ↓ne_nil, ↓len_is, map_at, ↓ix_q0, ↓ix_q1, ↓g_q, ↓len_q, ↓tr_q, ↓low_eq, ↓q1_eq, ↓q2_eq, ↓sz_0, ↓sz_1, ↓sz_2, ↓sz_3, ↓sz_4, ↓sz_5, ↓sz_6, ↓sz_7, ↓sz_8, ↓itp_t, ↓itp_l, ↓itl_l, ↓pl_2, ↓pl_3, iteE_q, joinS_q, ↓eq_q, ↓ne_q, ↓ixC_l, ↓frz_ref, ↓tup_l, ↓tup_t, ↓lst_l, ↓lst_t, ↓sl_t, ↓slr_t, ↓mul_l, ↓add_l, ↓ifs_0, gsl_nm, gsl_tp, gsl_n, gsl_c, wipe_n, wipe_c, List.replicate, Option.map_some, decide_eq_true_eq, ↓reduceIte, Bool.false_eq_true, Bool.not_eq_eq_eq_not, Bool.not_true, Bool.not_false, true_and, forall_const, Bool.and_eq_true, Bool.or_eq_true, decide_eq_false_iff_not, not_true_eq_false, not_false_eq_true, decide_true, decide_false]
    refine use_under_poly ⟨ra, q0, q1, la⟩ ?_
    obtain ⟨Dn, i1, i2, i3, i4⟩ := (UnB_poly ra q0 q1 la).ex
    have s1 : Sh S9 (frq (unS (pn a) p0 p1 a.length)) (frP (unS (pn a) p0 p1 a.length)) 1 2 := Sh.frq ((unS_RB i1 i2 i3 i4 q0 q1 (by omega)).le (by decide))
    simp only [↓gv_z, ↓gv_s, ↓sv_z, ↓sv_s, ↓wv_z, wv_z, ↓wv_s, wv_s, iteE_int, iteE_bl, iteE_str, iteE_lst, iteE_same, iteE_c1, iteE_c2, iteE_1, iteE_0, iteT_1, iteT_0, andT_1, andT_0, orT_1, orT_0, andE_1, andE_0, orE_1, orE_0, iteS_1, iteS_0, andE_bl, andE_c, orE_bl, orE_c, iteT_v, iteT_c1, iteT_c2, andT_v, andT_c, orT_v, orT_c, iteS_v, iteS_c1, iteS_c2, iteS_r1, iteS_r2, joinS_n, joinS_same, joinS_int, joinS_bl, ixS_s, ↓e_v, ↓e_N, ↓e_B, ↓e_I, ↓e_S, ↓e_gl, ↓e_add, ↓e_sub, ↓e_mul, ↓e_fdiv, ↓e_mod, ↓e_pow, ↓e_neg, ↓e_cmp, ↓bP_b, ↓t_cmp, ↓e_cmp2, ↓t_cmp2, ↓e_and1, ↓e_and2, ↓t_and1, ↓t_and2, ↓e_or1, ↓e_or2, ↓t_or1, ↓t_or2, ↓e_not, ↓t_not, ↓e_ite, ↓t_ite, ↓e_tup, ↓e_lst, ↓e_dct, ↓e_ix, ↓e_sl, ↓e_slr, ↓e_call, ↓e_bi, ↓e_mt, ↓e_lc, ↓e_frz, ↓t_frz, ↓t_v, ↓t_B, ↓t_N, ↓t_I, ↓t_ix, ↓t_bin, ↓t_call, ↓t_bi, ↓t_sl, ↓t_lc, ↓a_n, ↓a_c, ↓if_n, ↓if_1, ↓o_n, ↓iP_i, ↓o_s, ↓i_val, ↓i_r1, ↓i_r2, ↓i_r3, ↓i_enum, ↓i_zip, ↓i_rev, ↓add_i, ↓add_s, ↓add_t, ↓sub_i, ↓mul_i, ↓fdiv_i, ↓mod_i, ↓pow_i, ↓neg_i, ↓eq_i, ↓eq_s, ↓eq_b, ↓ne_i, ↓ne_s, ↓ne_b, ↓lt_i, ↓le_i, ↓gt_i, ↓ge_i, ↓is_N, ↓no_N, ↓tr_b, ↓tr_i, ↓tr_n, ↓tr_t, ↓tr_l, ↓ix_t, ↓ix_l, ↓ix_rl, ↓at_0, ↓at_1, ↓at_2, ↓at_3, ↓s_n, ↓s_c, ↓s_asg, ↓s_asgL, ↓s_par, ↓s_set, ↓s_ex, ↓s_ite, ↓s_for, ↓s_wh, ↓s_ret, ↓s_retN, ↓s_pass, ↓s_brk, ↓s_rz, ↓s_cont, ↓g_nm, ↓g_tp, ↓g_n, ↓g_c, ↓par_n, ↓par_c, ↓nw_f, ↓nw_t, ↓len_l, ↓len_t, ↓abs_i, ↓int_i, ↓int_b, ↓repr_h, ↓max_i, ↓min_i, ↓st_0, ↓st_s, ↓supd_supd, ↓ix_ref, ↓set_ref, ↓fd_turn, ↓fd_left, ↓fd_at, ↓fd_cells, ↓fs_turn, ↓fs_left, ↓fs_at, ↓ne_nil, ↓len_is, map_at, ↓ix_q0, ↓ix_q1, ↓g_q, ↓len_q, ↓tr_q, ↓low_eq, ↓q1_eq, ↓q2_eq, ↓sz_0, ↓sz_1, ↓sz_2, ↓sz_3, ↓sz_4, ↓sz_5, ↓sz_6, ↓sz_7, ↓sz_8, ↓itp_t, ↓itp_l, ↓itl_l, ↓pl_2, ↓pl_3, iteE_q, joinS_q, ↓eq_q, ↓ne_q, ↓ixC_l, ↓frz_ref, ↓tup_l, ↓tup_t, ↓lst_l, ↓lst_t, ↓sl_t, ↓slr_t, ↓mul_l, ↓add_l, ↓ifs_0, gsl_nm, gsl_tp, gsl_n, gsl_c, wipe_n, wipe_c, List.replicate, Option.map_some, decide_eq_true_eq, ↓reduceIte, Bool.false_eq_true, Bool.not_eq_eq_eq_not, Bool.not_true, Bool.not_false, true_and, forall_const, Bool.and_eq_true, Bool.or_eq_true, decide_eq_false_iff_not, not_true_eq_false, not_false_eq_true, decide_true, decide_false]
    refine s1.repr (by decide) (by decide) ?_
    simp only [at_ref hS, map_at, h0, h1, ↓gv_z, ↓gv_s, ↓sv_z, ↓sv_s, ↓wv_z, wv_z, ↓wv_s, wv_s, iteE_int, iteE_bl, iteE_str, iteE_lst, iteE_same, iteE_c1, iteE_c2, iteE_1, iteE_0, iteT_1, iteT_0, andT_1, andT_0, orT_1, orT_0, andE_1, andE_0, orE_1, orE_0, iteS_1, iteS_0, andE_bl, andE_c, orE_bl, orE_c, iteT_v, iteT_c1, iteT_c2, andT_v, andT_c, orT_v, orT_c, iteS_v, iteS_c1, iteS_c2, iteS_r1, iteS_r2, joinS_n, joinS_same, joinS_int, joinS_bl, ixS_s, ↓e_v, ↓e_N, ↓e_B, ↓e_I, ↓e_S, ↓e_gl, ↓e_add, ↓e_sub, ↓e_mul, ↓e_fdiv, ↓e_mod, ↓e_pow, ↓e_neg, ↓e_cmp, ↓bP_b, ↓t_cmp, ↓e_cmp2, ↓t_cmp2, ↓e_and1, ↓e_and2, ↓t_and1, ↓t_and2, ↓e_or1, ↓e_or2, ↓t_or1, ↓t_or2, ↓e_not, ↓t_not, ↓e_ite, ↓t_ite, ↓e_tup, ↓e_lst, ↓e_dct, ↓e_ix, ↓e_sl, ↓e_slr, ↓e_call, ↓e_bi, ↓e_mt, ↓e_lc, ↓e_frz, ↓t_frz, ↓t_v, ↓t_B, ↓t_N, ↓t_I, ↓t_ix, ↓t_bin, ↓t_call, ↓t_bi, ↓t_sl, ↓t_lc, ↓a_n, ↓a_c, ↓if_n, ↓if_1, ↓o_n, ↓iP_i, ↓o_s, ↓i_val, ↓i_r1, ↓i_r2, ↓i_r3, ↓i_enum, ↓i_zip, ↓i_rev, ↓add_i, ↓add_s, ↓add_t, ↓sub_i, ↓mul_i, ↓fdiv_i, ↓mod_i, ↓pow_i, ↓neg_i, ↓eq_i, ↓eq_s, ↓eq_b, ↓ne_i, ↓ne_s, ↓ne_b, ↓lt_i, ↓le_i, ↓gt_i, ↓ge_i, ↓is_N, ↓no_N, ↓tr_b, ↓tr_i, ↓tr_n, ↓tr_t, ↓tr_l, ↓ix_t, ↓ix_l, ↓ix_rl, ↓at_0, ↓at_1, ↓at_2, ↓at_3, ↓s_n, ↓s_c, ↓s_asg, ↓s_asgL, ↓s_par, ↓s_set, ↓s_ex, ↓s_ite, ↓s_for, ↓s_wh, ↓s_ret, ↓s_retN, ↓s_pass, ↓s_brk, ↓s_rz, ↓s_cont, ↓g_nm, ↓g_tp, ↓g_n, ↓g_c, ↓par_n, ↓par_c, ↓nw_f, ↓nw_t, ↓len_l, ↓len_t, ↓abs_i, ↓int_i, ↓int_b, ↓repr_h, ↓max_i, ↓min_i, ↓st_0, ↓st_s, ↓supd_supd, ↓ix_ref, ↓set_ref, ↓fd_turn, ↓fd_left, ↓fd_at, ↓fd_cells, ↓fs_turn, ↓fs_left, ↓fs_at, ↓ne_nil, ↓len_is, map_at, ↓ix_q0, ↓ix_q1, ↓g_q, ↓len_q, ↓tr_q, ↓low_eq, ↓q1_eq, ↓q2_eq, ↓sz_0, ↓sz_1, ↓sz_2, ↓sz_3, ↓sz_4, ↓sz_5, ↓sz_6, ↓sz_7, ↓sz_8, ↓itp_t, ↓itp_l, ↓itl_l, ↓pl_2, ↓pl_3, iteE_q, joinS_q, ↓eq_q, ↓ne_q, ↓ixC_l, ↓frz_ref, ↓tup_l, ↓tup_t, ↓lst_l, ↓lst_t, ↓sl_t, ↓slr_t, ↓mul_l, ↓add_l, ↓ifs_0, gsl_nm, gsl_tp, gsl_n, gsl_c, wipe_n, wipe_c, List.replicate, Option.map_some, decide_eq_true_eq, ↓reduceIte, Bool.false_eq_true, Bool.not_eq_eq_eq_not, Bool.not_true, Bool.not_false, true_and, forall_const, Bool.and_eq_true, Bool.or_eq_true, decide_eq_false_iff_not, not_true_eq_false, not_false_eq_true, decide_true, decide_false]
    refine use_law_beneath (ns := a) rfl (UnB_poly ra q0 q1 la) ?_
    simp only [↓gv_z, ↓gv_s, ↓sv_z, ↓sv_s, ↓wv_z, wv_z, ↓wv_s, wv_s, iteE_int, iteE_bl, iteE_str, iteE_lst, iteE_same, iteE_c1, iteE_c2, iteE_1, iteE_0, iteT_1, iteT_0, andT_1, andT_0, orT_1, orT_0, andE_1, andE_0, orE_1, orE_0, iteS_1, iteS_0, andE_bl, andE_c, orE_bl, orE_c, iteT_v, iteT_c1, iteT_c2, andT_v, andT_c, orT_v, orT_c, iteS_v, iteS_c1, iteS_c2, iteS_r1, iteS_r2, joinS_n, joinS_same, joinS_int, joinS_bl, ixS_s, ↓e_v, ↓e_N, ↓e_B, ↓e_I, ↓e_S, ↓e_gl, ↓e_add, ↓e_sub, ↓e_mul, ↓e_fdiv, ↓e_mod, ↓e_pow, ↓e_neg, ↓e_cmp, ↓bP_b, ↓t_cmp, ↓e_cmp2, ↓t_cmp2, ↓e_and1, ↓e_and2, ↓t_and1, ↓t_and2, ↓e_or1, ↓e_or2, ↓t_or1, ↓t_or2, ↓e_not, ↓t_not, ↓e_ite, ↓t_ite, ↓e_tup, ↓e_lst, ↓e_dct, ↓e_ix, ↓e_sl, ↓e_slr, ↓e_call, ↓e_bi, ↓e_mt, ↓e_lc, ↓e_frz, ↓t_frz, ↓t_v, ↓t_B, ↓t_N, ↓t_I, ↓t_ix, ↓t_bin, ↓t_call, ↓t_bi, ↓t_sl, ↓t_lc, ↓a_n, ↓a_c, ↓if_n, ↓if_1, ↓o_n, ↓iP_i, ↓o_s, ↓i_val, ↓i_r1, ↓i_r2, ↓i_r3, ↓i_enum, ↓i_zip, ↓i_rev, ↓add_i, ↓add_s, ↓add_t, ↓sub_i, ↓mul_i, ↓fdiv_i, ↓mod_i, ↓pow_i, ↓neg_i, ↓eq_i, ↓eq_s, ↓eq_b, ↓ne_i, ↓ne_s, ↓ne_b, ↓lt_i, ↓le_i, ↓gt_i, ↓ge_i, ↓is_N, ↓no_N, ↓tr_b, ↓tr_i, ↓tr_n, ↓tr_t, ↓tr_l, ↓ix_t, ↓ix_l, ↓ix_rl, ↓at_0, ↓at_1, ↓at_2, ↓at_3, ↓s_n, ↓s_c, ↓s_asg, ↓s_asgL, ↓s_par, ↓s_set, ↓s_ex, ↓s_ite, ↓s_for, ↓s_wh, ↓s_ret, ↓s_retN, ↓s_pass, ↓s_brk, ↓s_rz, ↓s_cont, ↓g_nm, ↓g_tp, ↓g_n, ↓g_c, ↓par_n, ↓par_c, ↓nw_f, ↓nw_t, ↓len_l, ↓len_t, ↓abs_i, ↓int_i, ↓int_b, ↓repr_h, ↓max_i, ↓min_i, ↓st_0, ↓st_s, ↓supd_supd, ↓ix_ref, ↓set_ref, ↓fd_turn, ↓fd_left, ↓fd_at, ↓fd_cells, ↓fs_turn, ↓fs_left, ↓fs_at, ↓ne_nil, ↓len_is, map_at, ↓ix_q0, ↓ix_q1, ↓g_q, ↓len_q, ↓tr_q, ↓low_eq, ↓q1_eq, ↓q2_eq, ↓sz_0, ↓sz_1, ↓sz_2, ↓sz_3, ↓sz_4, ↓sz_5, ↓sz_6, ↓sz_7, ↓sz_8, ↓itp_t, ↓itp_l, ↓itl_l, ↓pl_2, ↓pl_3, iteE_q, joinS_q, ↓eq_q, ↓ne_q, ↓ixC_l, ↓frz_ref, ↓tup_l, ↓tup_t, ↓lst_l, ↓lst_t, ↓sl_t, ↓slr_t, ↓mul_l, ↓add_l, ↓ifs_0, gsl_nm, gsl_tp, gsl_n, gsl_c, wipe_n, wipe_c, List.replicate, Option.map_some, decide_eq_true_eq, ↓reduceIte, Bool.false_eq_true, Bool.not_eq_eq_eq_not, Bool.not_true, Bool.not_false, true_and, forall_const, Bool.and_eq_true, Bool.or_eq_true, decide_eq_false_iff_not, not_true_eq_false, not_false_eq_true, decide_true, decide_false]
    refine s1.repr (by decide) (by decide) ?_
    simp only [↓gv_z, ↓gv_s, ↓sv_z, ↓sv_s, ↓wv_z, wv_z, ↓wv_s, wv_s, iteE_int, iteE_bl, iteE_str, iteE_lst, iteE_same, iteE_c1, iteE_c2, iteE_1, iteE_0, iteT_1, iteT_0, andT_1, andT_0, orT_1, orT_0, andE_1, andE_0, orE_1, orE_0, iteS_1, iteS_0, andE_bl, andE_c, orE_bl, orE_c, iteT_v, iteT_c1, iteT_c2, andT_v, andT_c, orT_v, orT_c, iteS_v, iteS_c1, iteS_c2, iteS_r1, iteS_r2, joinS_n, joinS_same, joinS_int, joinS_bl, ixS_s, ↓e_v, ↓e_N, ↓e_B, ↓e_I, ↓e_S, ↓e_gl, ↓e_add, ↓e_sub, ↓e_mul, ↓e_fdiv, ↓e_mod, ↓e_pow, ↓e_neg, ↓e_cmp, ↓bP_b, ↓t_cmp, ↓e_cmp2, ↓t_cmp2, ↓e_and1, ↓e_and2, ↓t_and1, ↓t_and2, ↓e_or1, ↓e_or2, ↓t_or1, ↓t_or2, ↓e_not, ↓t_not, ↓e_ite, ↓t_ite, ↓e_tup, ↓e_lst, ↓e_dct, ↓e_ix, ↓e_sl, ↓e_slr, ↓e_call, ↓e_bi, ↓e_mt, ↓e_lc, ↓e_frz, ↓t_frz, ↓t_v, ↓t_B, ↓t_N, ↓t_I, ↓t_ix, ↓t_bin, ↓t_call, ↓t_bi, ↓t_sl, ↓t_lc, ↓a_n, ↓a_c, ↓if_n, ↓if_1, ↓o_n, ↓iP_i, ↓o_s, ↓i_val, ↓i_r1, ↓i_r2, ↓i_r3, ↓i_enum, ↓i_zip, ↓i_rev, ↓add_i, ↓add_s, ↓add_t, ↓sub_i, ↓mul_i, ↓fdiv_i, ↓mod_i, ↓pow_i, ↓neg_i, ↓eq_i, ↓eq_s, ↓eq_b, ↓ne_i, ↓ne_s, ↓ne_b, ↓lt_i, ↓le_i, ↓gt_i, ↓ge_i, ↓is_N, ↓no_N, ↓tr_b, ↓tr_i, ↓tr_n, ↓tr_t, ↓tr_l, ↓ix_t, ↓ix_l, ↓ix_rl, ↓at_0, ↓at_1, ↓at_2, ↓at_3, ↓s_n, ↓s_c, ↓s_asg, ↓s_asgL, ↓s_par, ↓s_set, ↓s_ex, ↓s_ite, ↓s_for, ↓s_wh, ↓s_ret, ↓s_retN, ↓s_pass, ↓s_brk, ↓s_rz, ↓s_cont, ↓g_nm, ↓g_tp, ↓g_n, ↓g_c, ↓par_n, ↓par_c, ↓nw_f, ↓nw_t, ↓len_l, ↓len_t, ↓abs_i, ↓int_i, ↓int_b, ↓repr_h, ↓max_i, ↓min_i, ↓st_0, ↓st_s, ↓supd_supd, ↓ix_ref, ↓set_ref, ↓fd_turn, ↓fd_left, ↓fd_at, ↓fd_cells, ↓fs_turn, ↓fs_left, ↓fs_at, ↓ne_nil, ↓len_is, map_at, ↓ix_q0, ↓ix_q1, ↓g_q, ↓len_q, ↓tr_q, ↓low_eq, ↓q1_eq, ↓q2_eq, ↓sz_0, ↓sz_1, ↓sz_2, ↓sz_3, ↓sz_4, ↓sz_5, ↓sz_6, ↓sz_7, ↓sz_8, ↓itp_t, ↓itp_l, ↓itl_l, ↓pl_2, ↓pl_3, iteE_q, joinS_q, ↓eq_q, ↓ne_q, ↓ixC_l, ↓frz_ref, ↓tup_l, ↓tup_t, ↓lst_l, ↓lst_t, ↓sl_t, ↓slr_t, ↓mul_l, ↓add_l, ↓ifs_0, gsl_nm, gsl_tp, gsl_n, gsl_c, wipe_n, wipe_c, List.replicate, Option.map_some, decide_eq_true_eq, ↓reduceIte, Bool.false_eq_true, Bool.not_eq_eq_eq_not, Bool.not_true, Bool.not_false, true_and, forall_const, Bool.and_eq_true, Bool.or_eq_true, decide_eq_false_iff_not, not_true_eq_false, not_false_eq_true, decide_true, decide_false]
    refine shK.repr (by decide) (by decide) ?_
    simp only [↓gv_z, ↓gv_s, ↓sv_z, ↓sv_s, ↓wv_z, wv_z, ↓wv_s, wv_s, iteE_int, iteE_bl, iteE_str, iteE_lst, iteE_same, iteE_c1, iteE_c2, iteE_1, iteE_0, iteT_1, iteT_0, andT_1, andT_0, orT_1, orT_0, andE_1, andE_0, orE_1, orE_0, iteS_1, iteS_0, andE_bl, andE_c, orE_bl, orE_c, iteT_v, iteT_c1, iteT_c2, andT_v, andT_c, orT_v, orT_c, iteS_v, iteS_c1, iteS_c2, iteS_r1, iteS_r2, joinS_n, joinS_same, joinS_int, joinS_bl, ixS_s, ↓e_v, ↓e_N, ↓e_B, ↓e_I, ↓e_S, ↓e_gl, ↓e_add, ↓e_sub, ↓e_mul, ↓e_fdiv, ↓e_mod, ↓e_pow, ↓e_neg, ↓e_cmp, ↓bP_b, ↓t_cmp, ↓e_cmp2, ↓t_cmp2, ↓e_and1, ↓e_and2, ↓t_and1, ↓t_and2, ↓e_or1, ↓e_or2, ↓t_or1, ↓t_or2, ↓e_not, ↓t_not, ↓e_ite, ↓t_ite, ↓e_tup, ↓e_lst, ↓e_dct, ↓e_ix, ↓e_sl, ↓e_slr, ↓e_call, ↓e_bi, ↓e_mt, ↓e_lc, ↓e_frz, ↓t_frz, ↓t_v, ↓t_B, ↓t_N, ↓t_I, ↓t_ix, ↓t_bin, ↓t_call, ↓t_bi, ↓t_sl, ↓t_lc, ↓a_n, ↓a_c, ↓if_n, ↓if_1, ↓o_n, ↓iP_i, ↓o_s, ↓i_val, ↓i_r1, ↓i_r2, ↓i_r3, ↓i_enum, ↓i_zip, ↓i_rev, ↓add_i, ↓add_s, ↓add_t, ↓sub_i, ↓mul_i, ↓fdiv_i, ↓mod_i, ↓pow_i, ↓neg_i, ↓eq_i, ↓eq_s, ↓eq_b, ↓ne_i, ↓ne_s, ↓ne_b, ↓lt_i, ↓le_i, ↓gt_i, ↓ge_i, ↓is_N, ↓no_N, ↓tr_b, ↓tr_i, ↓tr_n, ↓tr_t, ↓tr_l, ↓ix_t, ↓ix_l, ↓ix_rl, ↓at_0, ↓at_1, ↓at_2, ↓at_3, ↓s_n, ↓s_c, ↓s_asg, ↓s_asgL, ↓s_par, ↓s_set, ↓s_ex, ↓s_ite, ↓s_for, ↓s_wh, ↓s_ret, ↓s_retN, ↓s_pass, ↓s_brk, ↓s_rz, ↓s_cont, ↓g_nm, ↓g_tp, ↓g_n, ↓g_c, ↓par_n, ↓par_c, ↓nw_f, ↓nw_t, ↓len_l, ↓len_t, ↓abs_i, ↓int_i, ↓int_b, ↓repr_h, ↓max_i, ↓min_i, ↓st_0, ↓st_s, ↓supd_supd, ↓ix_ref, ↓set_ref, ↓fd_turn, ↓fd_left, ↓fd_at, ↓fd_cells, ↓fs_turn, ↓fs_left, ↓fs_at, ↓ne_nil, ↓len_is, map_at, ↓ix_q0, ↓ix_q1, ↓g_q, ↓len_q, ↓tr_q, ↓low_eq, ↓q1_eq, ↓q2_eq, ↓sz_0, ↓sz_1, ↓sz_2, ↓sz_3, ↓sz_4, ↓sz_5, ↓sz_6, ↓sz_7, ↓sz_8, ↓itp_t, ↓itp_l, ↓itl_l, ↓pl_2, ↓pl_3, iteE_q, joinS_q, ↓eq_q, ↓ne_q, ↓ixC_l, ↓frz_ref, ↓tup_l, ↓tup_t, ↓lst_l, ↓lst_t, ↓sl_t, ↓slr_t, ↓mul_l, ↓add_l, ↓ifs_0, gsl_nm, gsl_tp, gsl_n, gsl_c, wipe_n, wipe_c, List.replicate, Option.map_some, decide_eq_true_eq, ↓reduceIte, Bool.false_eq_true, Bool.not_eq_eq_eq_not, Bool.not_true, Bool.not_false, true_and, forall_const, Bool.and_eq_true, Bool.or_eq_true, decide_eq_false_iff_not, not_true_eq_false, not_false_eq_true, decide_true, decide_false]
    exact h _
  have g0 : atI [p0, p1, p2] 0 = some p0 := at_0
  simp only [map_at, g0, ↓gv_z, ↓gv_s, ↓sv_z, ↓sv_s, ↓wv_z, wv_z, ↓wv_s, wv_s, iteE_int, iteE_bl, iteE_str, iteE_lst, iteE_same, iteE_c1, iteE_c2, iteE_1, iteE_0, iteT_1, iteT_0, andT_1, andT_0, orT_1, orT_0, andE_1, andE_0, orE_1, orE_0, iteS_1, iteS_0, andE_bl, andE_c, orE_bl, orE_c, iteT_v, iteT_c1, iteT_c2, andT_v, andT_c, orT_v, orT_c, iteS_v, iteS_c1, iteS_c2, iteS_r1, iteS_r2, joinS_n, joinS_same, joinS_int, joinS_bl, ixS_s, ↓e_v, ↓e_N, ↓e_B, ↓e_I, ↓e_S, ↓e_gl, ↓e_add, ↓e_sub, ↓e_mul, ↓e_fdiv, ↓e_mod, ↓e_pow, ↓e_neg, ↓e_cmp, ↓bP_b, ↓t_cmp, ↓e_cmp2, ↓t_cmp2, ↓e_and1, ↓e_and2, ↓t_and1, ↓t_and2, ↓e_or1, ↓e_or2, ↓t_or1, ↓t_or2, ↓e_not, ↓t_not, ↓e_ite, ↓t_ite, ↓e_tup, ↓e_lst, ↓e_dct, ↓e_ix, ↓e_sl, ↓e_slr, ↓e_call, ↓e_bi, ↓e_mt, ↓e_lc, ↓e_frz, ↓t_frz, ↓t_v, ↓t_B, ↓t_N, ↓t_I, ↓t_ix, ↓t_bin, ↓t_call, ↓t_bi, ↓t_sl, ↓t_lc, ↓a_n, ↓a_c, ↓if_n, ↓if_1, ↓o_n, ↓iP_i, ↓o_s, ↓i_val, ↓i_r1, ↓i_r2, ↓i_r3, ↓i_enum, ↓i_zip, ↓i_rev, ↓add_i, ↓add_s, ↓add_t, ↓sub_i, ↓mul_i, ↓fdiv_i, ↓mod_i, ↓pow_i, ↓neg_i, ↓eq_i, ↓eq_s, ↓eq_b, ↓ne_i, ↓ne_s, ↓ne_b, ↓lt_i, ↓le_i, ↓gt_i, ↓ge_i, ↓is_N, ↓no_N, ↓tr_b, ↓tr_i, ↓tr_n, ↓tr_t, ↓tr_l, ↓ix_t, ↓ix_l, ↓ix_rl, ↓at_0, ↓at_1, ↓at_2, ↓at_3, ↓s_n, ↓s_c, ↓s_asg, ↓s_asgL, ↓s_par, ↓s_set, ↓s_ex, ↓s_ite, ↓s_for, ↓s_wh, ↓s_ret, ↓s_retN, ↓s_pass, ↓s_brk, ↓s_rz, ↓s_cont, ↓g_nm, ↓g_tp, ↓g_n, ↓g_c, ↓par_n, ↓par_c, ↓nw_f, ↓nw_t, ↓len_l, ↓len_t, ↓abs_i, ↓int_i, ↓int_b, ↓repr_h, ↓max_i, ↓min_i, ↓st_0, ↓st_s, ↓supd_supd, ↓ix_ref, ↓set_ref, ↓fd_turn, ↓fd_left, ↓fd_at, ↓fd_cells, ↓fs_turn, ↓fs_left, ↓fs_at, ↓ne_nil, ↓len_is, map_at, ↓ix_q0, ↓ix_q1, ↓g_q, ↓len_q, ↓tr_q, ↓low_eq, ↓q1_eq, ↓q2_eq, ↓sz_0, ↓sz_1, ↓sz_2, ↓sz_3, ↓sz_4, ↓sz_5, ↓sz_6, ↓sz_7, ↓sz_8, ↓itp_t, ↓itp_l, ↓itl_l, ↓pl_2, ↓pl_3, iteE_q, joinS_q, ↓eq_q, ↓ne_q, ↓ixC_l, ↓frz_ref, ↓tup_l, ↓tup_t, ↓lst_l, ↓lst_t, ↓sl_t, ↓slr_t, ↓mul_l, ↓add_l, ↓ifs_0, gsl_nm, gsl_tp, gsl_n, gsl_c, wipe_n, wipe_c, List.replicate, Option.map_some, decide_eq_true_eq, ↓reduceIte, Bool.false_eq_true, Bool.not_eq_eq_eq_not, Bool.not_true, Bool.not_false, true_and, forall_const, Bool.and_eq_true, Bool.or_eq_true, decide_eq_false_iff_not, not_true_eq_false, not_false_eq_true, decide_true, decide_false]
  rw [iteS_def]
  split
  · rw [← set_ref (S := S8)]
    refine set_at (j := 2) supd_same rfl (by show 2 < 3; decide) ?_
    rw [supd_supd]
    exact fin p0 _ q0 supd_same
  · exact fin p2 _ q2 supd_same
end GB
namespace GB
open PySem PySem.Spec PyProof.Rows L2
def top (i : Nat) : Stmt := PySem.Challenge.pw_gentlebends_k08_sums_beneath_polynomials.main.body.getD i (.Pass ⟨0, 0, 0, 0⟩)
def dd (x : Str) (i : Nat) : He.DefD := ⟨(x, none), x, x, defArgs (top i), defBody (top i), defScope (top i), [], []⟩
def fn : List He.DefD := ([dd "common_of" 5, dd "fraction_of" 6, dd "plus_by" 7, dd "minus_by" 8, dd "times_by" 9, dd "product_numbers" 11, dd "under_numbers" 12, dd "under_poly" 13, dd "under_product" 14, dd "_law_feed" 16, dd "_law_draw" 17, dd "_law_lowest" 18, dd "_law_twelve" 19, dd "_law_plus" 20, dd "_law_times" 21, dd "_law_trim" 22, dd "_law_value" 23, dd "_law_product" 24, dd "_law_beneath" 25, dd "_law_right" 26] : List He.DefD) ++ ([dd "law" 27] : List He.DefD)
def fa : List He.Fa := ([.glo "law", .glo "common_of", .glo "fraction_of", .glo "plus_by", .glo "minus_by", .glo "times_by", .glo "product_numbers", .glo "under_numbers", .glo "under_poly", .glo "under_product", .glo "_law_feed", .glo "_law_draw", .glo "_law_lowest", .glo "_law_twelve", .glo "_law_plus", .glo "_law_times", .glo "_law_trim", .glo "_law_value", .glo "_law_product", .glo "_law_beneath"] : List He.Fa) ++ ([.glo "_law_right", .free "abs", .free "len", .free "range", .free "list", .free "tuple", .free "repr"] : List He.Fa)
abbrev R : PySem.W.OpenRow := PySem.W.OpenLaw.row PySem.Challenge.rw_gentlebends_k08_sums_beneath_polynomials
def cs : List (Str × D) := [("NOUGHT", c_NOUGHT)]
abbrev hk : PySem.W.Hook := hookX 4 fa fn cs
def ob (s : PySem.W.SharedT) : AlX := obsX 4 fa fn cs (HandSHeadRun.getT s)
theorem ob_eq (s : PySem.W.SharedT) : ob s = hk.obs s.abs := obsX_eq (HandSHeadRun.getT_eq s)
theorem run (w : World) : HandSHeadRun.RunEq R (PySem.W.view R.prog [27]) hk ob 20000 ((["__name__", "BendError", "NoOver", "NOUGHT", "common_of", "fraction_of", "plus_by", "minus_by", "times_by", "product_numbers", "under_numbers", "under_poly", "under_product", "_law_feed", "_law_draw", "_law_lowest", "_law_twelve", "_law_plus", "_law_times", "_law_trim"] : List PySem.Str) ++ (["_law_value", "_law_product", "_law_beneath", "_law_right"] : List PySem.Str)) w := by
  intro os
  kernel_rfl
theorem sc__law_feed : FnScope ["_law_script"] ["_law_script"] (defScope (top 16)) := ⟨rfl, rfl, rfl, by decide +kernel, rfl, by decide +kernel, by decide +kernel⟩
theorem ck__law_feed : chkSs ["_law_script"] (defScope (top 16)) b__law_feed (defBody (top 16)) = true := by decide +kernel
theorem sc__law_draw : FnScope ["_law_feed_here", "_law_many", "_law_turn", "_law_at", "_law_cell", "_law_mixed", "_law_found"] ["_law_feed_here", "_law_many"] (defScope (top 17)) := ⟨rfl, rfl, rfl, by decide +kernel, rfl, by decide +kernel, by decide +kernel⟩
theorem ck__law_draw : chkSs ["_law_feed_here", "_law_many", "_law_turn", "_law_at", "_law_cell", "_law_mixed", "_law_found"] (defScope (top 17)) b__law_draw (defBody (top 17)) = true := by decide +kernel
theorem sc__law_trim : FnScope ["_law_numbers", "_law_many"] ["_law_numbers"] (defScope (top 22)) := ⟨rfl, rfl, rfl, by decide +kernel, rfl, by decide +kernel, by decide +kernel⟩
theorem ck__law_trim : chkSs ["_law_numbers", "_law_many"] (defScope (top 22)) b__law_trim (defBody (top 22)) = true := by decide +kernel
theorem sc__law_lowest : FnScope ["_law_top", "_law_bottom", "_law_one", "_law_other"] ["_law_top", "_law_bottom"] (defScope (top 18)) := ⟨rfl, rfl, rfl, by decide +kernel, rfl, by decide +kernel, by decide +kernel⟩
theorem ck__law_lowest : chkSs ["_law_top", "_law_bottom", "_law_one", "_law_other"] (defScope (top 18)) b__law_lowest (defBody (top 18)) = true := by decide +kernel
theorem sc__law_twelve : FnScope ["_law_feed_here", "_law_way", "_law_top", "_law_bottom"] ["_law_feed_here"] (defScope (top 19)) := ⟨rfl, rfl, rfl, by decide +kernel, rfl, by decide +kernel, by decide +kernel⟩
theorem ck__law_twelve : chkSs ["_law_feed_here", "_law_way", "_law_top", "_law_bottom"] (defScope (top 19)) b__law_twelve (defBody (top 19)) = true := by decide +kernel
theorem sc__law_plus : FnScope ["_law_one", "_law_other"] ["_law_one", "_law_other"] (defScope (top 20)) := ⟨rfl, rfl, rfl, by decide +kernel, rfl, by decide +kernel, by decide +kernel⟩
theorem ck__law_plus : chkSs ["_law_one", "_law_other"] (defScope (top 20)) b__law_plus (defBody (top 20)) = true := by decide +kernel
theorem sc__law_times : FnScope ["_law_one", "_law_other"] ["_law_one", "_law_other"] (defScope (top 21)) := ⟨rfl, rfl, rfl, by decide +kernel, rfl, by decide +kernel, by decide +kernel⟩
theorem ck__law_times : chkSs ["_law_one", "_law_other"] (defScope (top 21)) b__law_times (defBody (top 21)) = true := by decide +kernel
theorem sc__law_product : FnScope ["_law_one", "_law_other", "_law_found", "_law_j", "_law_k"] ["_law_one", "_law_other"] (defScope (top 24)) := ⟨rfl, rfl, rfl, by decide +kernel, rfl, by decide +kernel, by decide +kernel⟩
theorem ck__law_product : chkSs ["_law_one", "_law_other", "_law_found", "_law_j", "_law_k"] (defScope (top 24)) b__law_product (defBody (top 24)) = true := by decide +kernel
theorem sc_common_of : FnScope ["one", "other"] ["one", "other"] (defScope (top 5)) := ⟨rfl, rfl, rfl, by decide +kernel, rfl, by decide +kernel, by decide +kernel⟩
theorem ck_common_of : chkSs ["one", "other"] (defScope (top 5)) b_common_of (defBody (top 5)) = true := by decide +kernel
theorem sc_fraction_of : FnScope ["n", "d", "by"] ["n", "d"] (defScope (top 6)) := ⟨rfl, rfl, rfl, by decide +kernel, rfl, by decide +kernel, by decide +kernel⟩
theorem ck_fraction_of : chkSs ["n", "d", "by"] (defScope (top 6)) b_fraction_of (defBody (top 6)) = true := by decide +kernel
theorem sc_times_by : FnScope ["one", "other"] ["one", "other"] (defScope (top 9)) := ⟨rfl, rfl, rfl, by decide +kernel, rfl, by decide +kernel, by decide +kernel⟩
theorem ck_times_by : chkSs ["one", "other"] (defScope (top 9)) b_times_by (defBody (top 9)) = true := by decide +kernel
theorem sc_minus_by : FnScope ["one", "other"] ["one", "other"] (defScope (top 8)) := ⟨rfl, rfl, rfl, by decide +kernel, rfl, by decide +kernel, by decide +kernel⟩
theorem ck_minus_by : chkSs ["one", "other"] (defScope (top 8)) b_minus_by (defBody (top 8)) = true := by decide +kernel
theorem sc_plus_by : FnScope ["one", "other"] ["one", "other"] (defScope (top 7)) := ⟨rfl, rfl, rfl, by decide +kernel, rfl, by decide +kernel, by decide +kernel⟩
theorem ck_plus_by : chkSs ["one", "other"] (defScope (top 7)) b_plus_by (defBody (top 7)) = true := by decide +kernel
theorem sc_under_numbers : FnScope ["numbers", "low", "high", "found", "lower", "higher", "k", "part"] ["numbers", "low", "high"] (defScope (top 12)) := ⟨rfl, rfl, rfl, by decide +kernel, rfl, by decide +kernel, by decide +kernel⟩
theorem ck_under_numbers : chkSs ["numbers", "low", "high", "found", "lower", "higher", "k", "part"] (defScope (top 12)) b_under_numbers (defBody (top 12)) = true := by decide +kernel
theorem sc_under_poly : FnScope ["poly", "low", "high"] ["poly", "low", "high"] (defScope (top 13)) := ⟨rfl, rfl, rfl, by decide +kernel, rfl, by decide +kernel, by decide +kernel⟩
theorem ck_under_poly : chkSs ["poly", "low", "high"] (defScope (top 13)) b_under_poly (defBody (top 13)) = true := by decide +kernel
theorem sc__law_value : FnScope ["_law_poly", "_law_t", "_law_one", "_law_found", "_law_power"] ["_law_poly", "_law_t"] (defScope (top 23)) := ⟨rfl, rfl, rfl, by decide +kernel, rfl, by decide +kernel, by decide +kernel⟩
theorem ck__law_value : chkSs ["_law_poly", "_law_t", "_law_one", "_law_found", "_law_power"] (defScope (top 23)) b__law_value (defBody (top 23)) = true := by decide +kernel
theorem sc__law_beneath : FnScope ["_law_numbers", "_law_low", "_law_high", "_law_whole", "_law_first", "_law_last", "_law_k"] ["_law_numbers", "_law_low", "_law_high"] (defScope (top 25)) := ⟨rfl, rfl, rfl, by decide +kernel, rfl, by decide +kernel, by decide +kernel⟩
theorem ck__law_beneath : chkSs ["_law_numbers", "_law_low", "_law_high", "_law_whole", "_law_first", "_law_last", "_law_k"] (defScope (top 25)) b__law_beneath (defBody (top 25)) = true := by decide +kernel
theorem sc_product_numbers : FnScope ["one", "other", "found", "j", "k"] ["one", "other"] (defScope (top 11)) := ⟨rfl, rfl, rfl, by decide +kernel, rfl, by decide +kernel, by decide +kernel⟩
theorem ck_product_numbers : chkSs ["one", "other", "found", "j", "k"] (defScope (top 11)) b_product_numbers (defBody (top 11)) = true := by decide +kernel
theorem sc_under_product : FnScope ["one", "other", "low", "high"] ["one", "other", "low", "high"] (defScope (top 14)) := ⟨rfl, rfl, rfl, by decide +kernel, rfl, by decide +kernel, by decide +kernel⟩
theorem ck_under_product : chkSs ["one", "other", "low", "high"] (defScope (top 14)) b_under_product (defBody (top 14)) = true := by decide +kernel
theorem sc__law_right : FnScope ["_law_one", "_law_other", "_law_places", "_law_product_here", "_law_low", "_law_parts", "_law_high", "_law_due"] ["_law_one", "_law_other", "_law_places"] (defScope (top 26)) := ⟨rfl, rfl, rfl, by decide +kernel, rfl, by decide +kernel, by decide +kernel⟩
theorem ck__law_right : chkSs ["_law_one", "_law_other", "_law_places", "_law_product_here", "_law_low", "_law_parts", "_law_high", "_law_due"] (defScope (top 26)) b__law_right (defBody (top 26)) = true := by decide +kernel
theorem sc_law : FnScope ["_law_script", "_law_feed_here", "_law_way", "_law_one", "_law_other", "_law_places", "_law_kept", "_law_again", "_law_j"] ["_law_script"] (defScope (top 27)) := ⟨rfl, rfl, rfl, by decide +kernel, rfl, by decide +kernel, by decide +kernel⟩
theorem ck_law : chkSs ["_law_script", "_law_feed_here", "_law_way", "_law_one", "_law_other", "_law_places", "_law_kept", "_law_again", "_law_j"] (defScope (top 27)) b_law (defBody (top 27)) = true := by decide +kernel
set_option maxHeartbeats 4000000
theorem facts {P : Program} {w : World} {K : FK} {h : Heap} {mg : MG} {f : Addr} (X : K.In h) (G : h.Ns mainGlobals mg) (hfa : mg ("law" : Str) = some (.ref f)) (c1 : SaysX fa fn cs K) :
    ∃ fd : FuncData, (∀ (s : Shared) (v : Value), BindsTo s fd ⟨[v], []⟩ [("_law_script", v)]) ∧ ∀ base : Heap, K.In base → base.Ns mainGlobals mg → FOk P w K mg base 7 f fd ["_law_script"] (LSp K mg spLaw) := by
  have c := c1.1
  obtain ⟨fd__law_feed, F__law_feed⟩ := c.def_ 9 rfl
  obtain ⟨fd__law_draw, F__law_draw⟩ := c.def_ 10 rfl
  obtain ⟨fd__law_trim, F__law_trim⟩ := c.def_ 15 rfl
  obtain ⟨fd__law_lowest, F__law_lowest⟩ := c.def_ 11 rfl
  obtain ⟨fd__law_twelve, F__law_twelve⟩ := c.def_ 12 rfl
  obtain ⟨fd__law_plus, F__law_plus⟩ := c.def_ 13 rfl
  obtain ⟨fd__law_times, F__law_times⟩ := c.def_ 14 rfl
  obtain ⟨fd__law_product, F__law_product⟩ := c.def_ 17 rfl
  obtain ⟨fd_common_of, F_common_of⟩ := c.def_ 0 rfl
  obtain ⟨fd_fraction_of, F_fraction_of⟩ := c.def_ 1 rfl
  obtain ⟨fd_times_by, F_times_by⟩ := c.def_ 4 rfl
  obtain ⟨fd_minus_by, F_minus_by⟩ := c.def_ 3 rfl
  obtain ⟨fd_plus_by, F_plus_by⟩ := c.def_ 2 rfl
  obtain ⟨fd_under_numbers, F_under_numbers⟩ := c.def_ 6 rfl
  obtain ⟨fd_under_poly, F_under_poly⟩ := c.def_ 7 rfl
  obtain ⟨fd__law_value, F__law_value⟩ := c.def_ 16 rfl
  obtain ⟨fd__law_beneath, F__law_beneath⟩ := c.def_ 18 rfl
  obtain ⟨fd_product_numbers, F_product_numbers⟩ := c.def_ 5 rfl
  obtain ⟨fd_under_product, F_under_product⟩ := c.def_ 8 rfl
  obtain ⟨fd__law_right, F__law_right⟩ := c.def_ 19 rfl
  obtain ⟨fd_law, F_law⟩ := c.def_ 20 rfl
  have e := hfa.symm.trans (He.glo_ok X G (c.fact 0 (f := .glo "law") rfl))
  cases e
  have b := FunD.bindsA (ps := ["_law_script"]) F_law fun _ _ _ _ _ _ us hl => match us, hl with | [_], _ => rfl
  refine ⟨fd_law, fun s v => b s [v] rfl, fun base _ _ => ?_⟩
  have fr_abs : mg ("abs" : Str) = none := He.free_ok X G (c.fact 21 (f := .free "abs") rfl)
  have fr_len : mg ("len" : Str) = none := He.free_ok X G (c.fact 22 (f := .free "len") rfl)
  have fr_range : mg ("range" : Str) = none := He.free_ok X G (c.fact 23 (f := .free "range") rfl)
  have fr_list : mg ("list" : Str) = none := He.free_ok X G (c.fact 24 (f := .free "list") rfl)
  have fr_tuple : mg ("tuple" : Str) = none := He.free_ok X G (c.fact 25 (f := .free "tuple") rfl)
  have fr_repr : mg ("repr" : Str) = none := He.free_ok X G (c.fact 26 (f := .free "repr") rfl)
  have g_NOUGHT : Global ⟨P, w, K, mg, base⟩ "NOUGHT" c_NOUGHT := mgB_ok (T := ⟨P, w, K, mg, base⟩) X G (c1.const 0 rfl)
  have c__law_feed : Callee ⟨P, w, K, mg, base⟩ 1 "_law_feed" sp__law_feed := callee (k := 0) (He.glo_ok X G (c.fact 10 (f := .glo "_law_feed") rfl)) F__law_feed sc__law_feed ck__law_feed ⟨fr_list, trivial⟩ t_feed (F__law_feed.bindsN fun _ _ _ _ _ _ us hl => match us, hl with | [_], _ => rfl)
  have c__law_draw : Callee ⟨P, w, K, mg, base⟩ 1 "_law_draw" sp__law_draw := callee (k := 0) (He.glo_ok X G (c.fact 11 (f := .glo "_law_draw") rfl)) F__law_draw sc__law_draw ck__law_draw ⟨fr_len, fr_len, trivial⟩ t_draw (F__law_draw.bindsN fun _ _ _ _ _ _ us hl => match us, hl with | [_, _], _ => rfl)
  have c__law_trim : Callee ⟨P, w, K, mg, base⟩ 1 "_law_trim" sp__law_trim := callee (k := 0) (He.glo_ok X G (c.fact 16 (f := .glo "_law_trim") rfl)) F__law_trim sc__law_trim ck__law_trim ⟨fr_len, fr_tuple, trivial⟩ t_law_trim (F__law_trim.bindsN fun _ _ _ _ _ _ us hl => match us, hl with | [_], _ => rfl)
  have c__law_lowest : Callee ⟨P, w, K, mg, base⟩ 1 "_law_lowest" sp__law_lowest := callee (k := 0) (He.glo_ok X G (c.fact 12 (f := .glo "_law_lowest") rfl)) F__law_lowest sc__law_lowest ck__law_lowest ⟨fr_abs, fr_abs, trivial⟩ t_lowest (F__law_lowest.bindsN fun _ _ _ _ _ _ us hl => match us, hl with | [_, _], _ => rfl)
  have c__law_twelve : Callee ⟨P, w, K, mg, base⟩ 2 "_law_twelve" sp__law_twelve := callee (k := 1) (He.glo_ok X G (c.fact 13 (f := .glo "_law_twelve") rfl)) F__law_twelve sc__law_twelve ck__law_twelve ⟨(c__law_draw.up (by decide)), (c__law_draw.up (by decide)), (c__law_draw.up (by decide)), (c__law_draw.up (by decide)), (c__law_lowest.up (by decide)), (c__law_draw.up (by decide)), (c__law_lowest.up (by decide)), (c__law_draw.up (by decide)), (c__law_draw.up (by decide)), trivial⟩ t_law_twelve (F__law_twelve.bindsN fun _ _ _ _ _ _ us hl => match us, hl with | [_], _ => rfl)
  have c__law_plus : Callee ⟨P, w, K, mg, base⟩ 2 "_law_plus" sp__law_plus := callee (k := 1) (He.glo_ok X G (c.fact 14 (f := .glo "_law_plus") rfl)) F__law_plus sc__law_plus ck__law_plus ⟨(c__law_lowest.up (by decide)), trivial⟩ t_law_plus (F__law_plus.bindsN fun _ _ _ _ _ _ us hl => match us, hl with | [_, _], _ => rfl)
  have c__law_times : Callee ⟨P, w, K, mg, base⟩ 2 "_law_times" sp__law_times := callee (k := 1) (He.glo_ok X G (c.fact 15 (f := .glo "_law_times") rfl)) F__law_times sc__law_times ck__law_times ⟨(c__law_lowest.up (by decide)), trivial⟩ t_law_times (F__law_times.bindsN fun _ _ _ _ _ _ us hl => match us, hl with | [_, _], _ => rfl)
  have c__law_product : Callee ⟨P, w, K, mg, base⟩ 3 "_law_product" sp__law_product := callee (k := 2) (He.glo_ok X G (c.fact 18 (f := .glo "_law_product") rfl)) F__law_product sc__law_product ck__law_product ⟨fr_range, fr_len, fr_range, fr_len, (c__law_plus.up (by decide)), (c__law_times.up (by decide)), trivial⟩ t_law_product (F__law_product.bindsN fun _ _ _ _ _ _ us hl => match us, hl with | [_, _], _ => rfl)
  have c_common_of : Callee ⟨P, w, K, mg, base⟩ 1 "common_of" sp_common_of := callee (k := 0) (He.glo_ok X G (c.fact 1 (f := .glo "common_of") rfl)) F_common_of sc_common_of ck_common_of ⟨fr_abs, fr_abs, trivial⟩ t_common_of (F_common_of.bindsN fun _ _ _ _ _ _ us hl => match us, hl with | [_, _], _ => rfl)
  have c_fraction_of : Callee ⟨P, w, K, mg, base⟩ 2 "fraction_of" sp_fraction_of := callee (k := 1) (He.glo_ok X G (c.fact 2 (f := .glo "fraction_of") rfl)) F_fraction_of sc_fraction_of ck_fraction_of ⟨(c_common_of.up (by decide)), trivial⟩ t_fraction_of (F_fraction_of.bindsN fun _ _ _ _ _ _ us hl => match us, hl with | [_, _], _ => rfl)
  have c_times_by : Callee ⟨P, w, K, mg, base⟩ 3 "times_by" sp_times_by := callee (k := 2) (He.glo_ok X G (c.fact 5 (f := .glo "times_by") rfl)) F_times_by sc_times_by ck_times_by ⟨(c_fraction_of.up (by decide)), trivial⟩ t_times_by (F_times_by.bindsN fun _ _ _ _ _ _ us hl => match us, hl with | [_, _], _ => rfl)
  have c_minus_by : Callee ⟨P, w, K, mg, base⟩ 3 "minus_by" sp_minus_by := callee (k := 2) (He.glo_ok X G (c.fact 4 (f := .glo "minus_by") rfl)) F_minus_by sc_minus_by ck_minus_by ⟨(c_fraction_of.up (by decide)), trivial⟩ t_minus_by (F_minus_by.bindsN fun _ _ _ _ _ _ us hl => match us, hl with | [_, _], _ => rfl)
  have c_plus_by : Callee ⟨P, w, K, mg, base⟩ 3 "plus_by" sp_plus_by := callee (k := 2) (He.glo_ok X G (c.fact 3 (f := .glo "plus_by") rfl)) F_plus_by sc_plus_by ck_plus_by ⟨(c_fraction_of.up (by decide)), trivial⟩ t_plus_by (F_plus_by.bindsN fun _ _ _ _ _ _ us hl => match us, hl with | [_, _], _ => rfl)
  have c_under_numbers : Callee ⟨P, w, K, mg, base⟩ 4 "under_numbers" sp_under_numbers := callee (k := 3) (He.glo_ok X G (c.fact 7 (f := .glo "under_numbers") rfl)) F_under_numbers sc_under_numbers ck_under_numbers ⟨g_NOUGHT, fr_range, fr_len, (c_times_by.up (by decide)), (c_minus_by.up (by decide)), (c_fraction_of.up (by decide)), (c_plus_by.up (by decide)), (c_times_by.up (by decide)), (c_times_by.up (by decide)), (c_times_by.up (by decide)), trivial⟩ t_under_numbers (F_under_numbers.bindsN fun _ _ _ _ _ _ us hl => match us, hl with | [_, _, _], _ => rfl)
  have c_under_poly : Callee ⟨P, w, K, mg, base⟩ 5 "under_poly" sp_under_poly := callee (k := 4) (He.glo_ok X G (c.fact 8 (f := .glo "under_poly") rfl)) F_under_poly sc_under_poly ck_under_poly ⟨(c_under_numbers.up (by decide)), trivial⟩ t_under_poly (F_under_poly.bindsN fun _ _ _ _ _ _ us hl => match us, hl with | [_, _, _], _ => rfl)
  have c__law_value : Callee ⟨P, w, K, mg, base⟩ 3 "_law_value" sp__law_value := callee (k := 2) (He.glo_ok X G (c.fact 17 (f := .glo "_law_value") rfl)) F__law_value sc__law_value ck__law_value ⟨(c__law_plus.up (by decide)), (c__law_times.up (by decide)), (c__law_times.up (by decide)), trivial⟩ t_law_value (F__law_value.bindsN fun _ _ _ _ _ _ us hl => match us, hl with | [_, _], _ => rfl)
  have c__law_beneath : Callee ⟨P, w, K, mg, base⟩ 4 "_law_beneath" sp__law_beneath := callee (k := 3) (He.glo_ok X G (c.fact 19 (f := .glo "_law_beneath") rfl)) F__law_beneath sc__law_beneath ck__law_beneath ⟨(c__law_times.up (by decide)), fr_range, fr_len, (c__law_value.up (by decide)), (c__law_value.up (by decide)), (c__law_plus.up (by decide)), trivial⟩ t_law_beneath (F__law_beneath.bindsN fun _ _ _ _ _ _ us hl => match us, hl with | [_, _, _], _ => rfl)
  have c_product_numbers : Callee ⟨P, w, K, mg, base⟩ 4 "product_numbers" sp_product_numbers := callee (k := 3) (He.glo_ok X G (c.fact 6 (f := .glo "product_numbers") rfl)) F_product_numbers sc_product_numbers ck_product_numbers ⟨g_NOUGHT, fr_len, fr_len, fr_range, fr_len, fr_range, fr_len, (c_plus_by.up (by decide)), (c_times_by.up (by decide)), trivial⟩ t_product_numbers (F_product_numbers.bindsN fun _ _ _ _ _ _ us hl => match us, hl with | [_, _], _ => rfl)
  have c_under_product : Callee ⟨P, w, K, mg, base⟩ 5 "under_product" sp_under_product := callee (k := 4) (He.glo_ok X G (c.fact 9 (f := .glo "under_product") rfl)) F_under_product sc_under_product ck_under_product ⟨(c_under_numbers.up (by decide)), (c_product_numbers.up (by decide)), trivial⟩ t_under_product (F_under_product.bindsN fun _ _ _ _ _ _ us hl => match us, hl with | [_, _, _, _], _ => rfl)
  have c__law_right : Callee ⟨P, w, K, mg, base⟩ 6 "_law_right" sp__law_right := callee (k := 5) (He.glo_ok X G (c.fact 20 (f := .glo "_law_right") rfl)) F__law_right sc__law_right ck__law_right ⟨(c__law_product.up (by decide)), fr_repr, (c_under_poly.up (by decide)), fr_repr, (c__law_beneath.up (by decide)), fr_repr, (c__law_beneath.up (by decide)), fr_repr, (c_under_product.up (by decide)), fr_repr, (c_under_product.up (by decide)), (c_under_product.up (by decide)), (c_under_product.up (by decide)), (c__law_plus.up (by decide)), (c_under_product.up (by decide)), trivial⟩ t_law_right (F__law_right.bindsN fun _ _ _ _ _ _ us hl => match us, hl with | [_, _, _], _ => rfl)
  exact callee_F (k := 6) F_law sc_law ck_law ⟨(c__law_feed.up (by decide)), (c__law_draw.up (by decide)), (c__law_trim.up (by decide)), (c__law_twelve.up (by decide)), fr_range, (c__law_draw.up (by decide)), (c__law_trim.up (by decide)), (c__law_twelve.up (by decide)), fr_range, (c__law_draw.up (by decide)), (c__law_twelve.up (by decide)), fr_range, (c__law_draw.up (by decide)), fr_repr, (c__law_right.up (by decide)), (c__law_right.up (by decide)), (c_under_poly.up (by decide)), fr_repr, fr_repr, (c__law_beneath.up (by decide)), fr_repr, trivial⟩ t_law
end GB
open PySem PySem.W PySem.Calls PyProof.Rows
theorem PySem.Challenge.cw_gentlebends_k08_sums_beneath_polynomials_holds : PySem.Challenge.rw_gentlebends_k08_sums_beneath_polynomials.Holds := by
  w_on; o_law
  refine HandSHeadRun.head_any (r := OpenLaw.row PySem.Challenge.rw_gentlebends_k08_sums_beneath_polynomials) (q := view (OpenLaw.row PySem.Challenge.rw_gentlebends_k08_sums_beneath_polynomials).prog [27]) (H := GB.hk) (ob := GB.ob) (M := 20000) (loose := ((["__name__", "BendError", "NoOver", "NOUGHT", "common_of", "fraction_of", "plus_by", "minus_by", "times_by", "product_numbers", "under_numbers", "under_poly", "under_product", "_law_feed", "_law_draw", "_law_lowest", "_law_twelve", "_law_plus", "_law_times", "_law_trim"] : List PySem.Str) ++ (["_law_value", "_law_product", "_law_beneath", "_law_right"] : List PySem.Str))) (d := HandSHeadRun.topDef (OpenLaw.row PySem.Challenge.rw_gentlebends_k08_sums_beneath_polynomials).prog 27) (kwd := []) GB.ob_eq
    (by kernel_rfl) (fun s => by kernel_rfl) GB.run (by kernel_rfl) (by kernel_rfl) (by kernel_rfl) (by rfl) (by first | assumption | decide +kernel) (by decide +kernel) ⟨rfl, rfl, rfl, rfl, rfl, by decide +kernel⟩ ?hw ?hc
  case hw => w_witness2
  case hc =>
    refine GB.walk_G (l := PySem.Challenge.rw_gentlebends_k08_sums_beneath_polynomials) (n := 63) (k := 7) (x := "_law_script") rfl (by decide) (by kernel_rfl) ⟨rfl, by decide, by decide⟩ ?F
    intro w mg fa h Y G hmg0
    obtain ⟨K, KX, c⟩ := Y
    have hmg : mg ("law" : PySem.Str) = some (.ref fa) := by
      have e : (HandSHeadRun.topDef (OpenLaw.row PySem.Challenge.rw_gentlebends_k08_sums_beneath_polynomials).prog 27).name = ("law" : PySem.Str) := by kernel_rfl
      rw [← e]
      exact hmg0
    obtain ⟨fd, hb, hF⟩ := GB.facts (P := (PySem.Challenge.rw_gentlebends_k08_sums_beneath_polynomials).prog) (w := w) KX G hmg c
    exact ⟨K, fd, GB.spLaw, KX, hb, fun ns hl => ⟨ns, rfl, hl, fun _ => rfl⟩, hF⟩
