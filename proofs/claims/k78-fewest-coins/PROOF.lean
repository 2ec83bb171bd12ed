import PyProof.Rows.All
import Wide.All
import OpenK.AllK
import Wide.FinOn
import HandS.ForMost
import HandS.Exc
import HandS.ExcOwn
import HandS.TryOnly
import HandS.WordsExc
import HandS.TupAny
import HandS.Style
import HandS.Zip
import KE.DataEq
import KE.KeyNested
import KE.KDictKeyed
import HandS.IsInst
import HandS.TupMul
import KE.DataCmp
import KE.DataMinMax
import KE.SortData
import KE.KTupSum
import KE.GoesEnum
import HandS.More
import HandS.Codes
import HandS.Defaults
import HandS.Head0
import HandS.Head1
import HandS.Head2
import HandS.HeadEnd
import HandS.HeadHook1
import HandS.HeadHook2
import KE.DatumOrd
import KE.DatumMore
import KE.DatumMoreOrd
import PyProof.Rows.ReprShort
import KE.KStateDown
import PySem.Challenge.RW_fairground_k78_whole_fewest_coins
set_option Elab.async false
set_option linter.all false
set_option maxRecDepth 100000
set_option maxHeartbeats 4000000
section
/-! L3: trees over the hand layer. Part A: trees in the abstract heap, slots, the state of a frame, the lifts. -/
namespace L3
open PySem PySem.Spec PyProof.Rows L2

abbrev D := PyData
abbrev St := L2.St

/-- the end of a piece of code: a value, an exception (by its number), or nothing is said -/
inductive R (α : Type) where
  | ok (a : α) | exc (x : Nat) | bad
@[simp] def R.bind {α β : Type} (r : R α) (f : α → R β) : R β :=
  match r with
  | .ok a => f a
  | .exc x => .exc x
  | .bad => .bad
@[simp] theorem R.bind_ok {α β : Type} (a : α) (f : α → R β) : (R.ok a).bind f = f a := rfl
@[simp] theorem R.bind_exc {α β : Type} (x : Nat) (f : α → R β) : (R.exc x : R α).bind f = .exc x := rfl
@[simp] theorem R.bind_bad {α β : Type} (f : α → R β) : (R.bad : R α).bind f = .bad := rfl
@[simp] def R.ofO {α : Type} : Option α → R α
  | some a => .ok a
  | none => .bad
@[simp] theorem R.ofO_some {α : Type} (a : α) : R.ofO (some a) = .ok a := rfl
@[simp] theorem R.ofO_none {α : Type} : R.ofO (none : Option α) = .bad := rfl

/-- a slot: nothing is known; a frozen tree; a list or dict of the frame's own; one lent by the caller; the law's script -/
inductive Sl where
  | no | val (d : D) | own (d : D) | bor (d : D) | scr (ns : List Int)
abbrev En := List Sl
/-- a result: a frozen tree, or a new list or dict that nobody else holds -/
inductive Rs where
  | val (d : D) | own (d : D)
@[simp] def Rs.d : Rs → D
  | .val d => d
  | .own d => d

/-- the object at a is o -/
def At (a : Addr) (o : Obj) : Heap → Prop := fun h => h.get? a = some o
abbrev rawd (a : Addr) (o : Obj) : HO := .ext (At a o)

section
variable (P : Program) (w : World)
/-- a dict whose keys are (nested) tuples -/
def DicH (o : Obj) (xs : List (NestedKey × Addr × Value)) : Prop :=
  o.ExactDict ∧ ∃ es ep, o.data = .dict es ep ∧ es.toList = xs.map (entryOfKey (nestedKind P w)) ∧ (xs.map (·.1)).Nodup ∧ ∀ x ∈ xs, x.1.depth ≤ 8
/-- a key (int, text) as a tree -/
def keyD : Key → D
  | .inl i => .int i
  | .inr x => .str x
variable (H : Hp) (F : Addr → Prop)
mutual
inductive Rp : V → D → Prop
  | non : Rp .non .none
  | bl (b : Bool) : Rp (.bl b) (.bool b)
  | int (i : Int) : Rp (.int i) (.int i)
  | str (x : Str) : Rp (.str x) (.str x)
  | lst {a : Addr} {xs : List V} {ds : List D} : F a → H a = some (.lst xs) → RpA xs ds → Rp (.ref a) (.list ds)
  | tup {a : Addr} {xs : List V} {ds : List D} : F a → H a = some (.tup xs) → RpA xs ds → Rp (.ref a) (.tuple ds)
  | dicK {a : Addr} {o : Obj} {kvs : List (Key × V)} {vs : List (Key × Value)} {kds : List (D × D)} : F a → (a == sysModules) = false → H a = some (rawd a o) → o.IsDictOf (mixKind P w) vs → KV kvs vs → RpK kvs kds → Rp (.ref a) (.dict kds)
  | dicT {a : Addr} {o : Obj} {xs : List (NestedKey × Addr × Value)} {kds : List (D × D)} : F a → (a == sysModules) = false → H a = some (rawd a o) → DicH P w o xs → RpT xs kds → Rp (.ref a) (.dict kds)
inductive RpA : List V → List D → Prop
  | nil : RpA [] []
  | cons {v : V} {vs : List V} {d : D} {ds : List D} : Rp v d → RpA vs ds → RpA (v :: vs) (d :: ds)
inductive RpK : List (Key × V) → List (D × D) → Prop
  | nil : RpK [] []
  | cons {k : Key} {v : V} {kvs : List (Key × V)} {d : D} {kds : List (D × D)} : Rp v d → RpK kvs kds → RpK ((k, v) :: kvs) ((keyD k, d) :: kds)
inductive RpT : List (NestedKey × Addr × Value) → List (D × D) → Prop
  | nil : RpT [] []
  | cons {k : NestedKey} {b : Addr} {u : Value} {v : V} {xs : List (NestedKey × Addr × Value)} {d : D} {kds : List (D × D)} : Rp (.ref b) k.data → RelV v u → Rp v d → RpT xs kds → RpT ((k, b, u) :: xs) ((k.data, d) :: kds)
end
/-- .. or it is the thing at hand, frozen or not -/
inductive Tp : V → D → Prop
  | rp {v : V} {d : D} : Rp P w H F v d → Tp v d
  | lst {a : Addr} {xs : List V} {ds : List D} : H a = some (.lst xs) → RpA P w H F xs ds → Tp (.ref a) (.list ds)
  | dicK {a : Addr} {o : Obj} {kvs : List (Key × V)} {vs : List (Key × Value)} {kds : List (D × D)} : (a == sysModules) = false → H a = some (rawd a o) → o.IsDictOf (mixKind P w) vs → KV kvs vs → RpK P w H F kvs kds → Tp (.ref a) (.dict kds)
  | dicT {a : Addr} {o : Obj} {xs : List (NestedKey × Addr × Value)} {kds : List (D × D)} : (a == sysModules) = false → H a = some (rawd a o) → DicH P w o xs → RpT P w H F xs kds → Tp (.ref a) (.dict kds)
end

section
variable {P : Program} {w : World} {H H' : Hp} {F F' : Addr → Prop}
mutual
theorem Rp.mono (hF : ∀ a, F a → F' a) (hH : ∀ a, F a → H' a = H a) : ∀ {v : V} {d : D}, Rp P w H F v d → Rp P w H' F' v d
  | _, _, .non => .non
  | _, _, .bl b => .bl b
  | _, _, .int i => .int i
  | _, _, .str x => .str x
  | _, _, .lst f h t => .lst (hF _ f) (by rw [hH _ f]; exact h) (RpA.mono hF hH t)
  | _, _, .tup f h t => .tup (hF _ f) (by rw [hH _ f]; exact h) (RpA.mono hF hH t)
  | _, _, .dicK f s h o k t => .dicK (hF _ f) s (by rw [hH _ f]; exact h) o k (RpK.mono hF hH t)
  | _, _, .dicT f s h o t => .dicT (hF _ f) s (by rw [hH _ f]; exact h) o (RpT.mono hF hH t)
theorem RpA.mono (hF : ∀ a, F a → F' a) (hH : ∀ a, F a → H' a = H a) : ∀ {vs : List V} {ds : List D}, RpA P w H F vs ds → RpA P w H' F' vs ds
  | _, _, .nil => .nil
  | _, _, .cons r t => .cons (Rp.mono hF hH r) (RpA.mono hF hH t)
theorem RpK.mono (hF : ∀ a, F a → F' a) (hH : ∀ a, F a → H' a = H a) : ∀ {vs : List (Key × V)} {ds : List (D × D)}, RpK P w H F vs ds → RpK P w H' F' vs ds
  | _, _, .nil => .nil
  | _, _, .cons r t => .cons (Rp.mono hF hH r) (RpK.mono hF hH t)
theorem RpT.mono (hF : ∀ a, F a → F' a) (hH : ∀ a, F a → H' a = H a) : ∀ {vs : List (NestedKey × Addr × Value)} {ds : List (D × D)}, RpT P w H F vs ds → RpT P w H' F' vs ds
  | _, _, .nil => .nil
  | _, _, .cons q u r t => .cons (Rp.mono hF hH q) u (Rp.mono hF hH r) (RpT.mono hF hH t)
end
theorem RpA.length : ∀ {vs : List V} {ds : List D}, RpA P w H F vs ds → vs.length = ds.length
  | _, _, .nil => rfl
  | _, _, .cons _ t => by rw [List.length_cons, List.length_cons, RpA.length t]
theorem RpA.get : ∀ {vs : List V} {ds : List D} {i : Nat} {v : V}, RpA P w H F vs ds → vs[i]? = some v → ∃ d, ds[i]? = some d ∧ Rp P w H F v d
  | _, _, _, _, .nil, e => by simp at e
  | _, _, 0, _, .cons r _, e => by simp at e; subst e; exact ⟨_, rfl, r⟩
  | _, _, i + 1, _, .cons _ t, e => by
    obtain ⟨d, h1, h2⟩ := RpA.get (i := i) t (by simpa using e)
    exact ⟨d, by simpa using h1, h2⟩
theorem RpA.at : ∀ {vs : List V} {ds : List D} {i : Nat} {d : D}, RpA P w H F vs ds → ds[i]? = some d → ∃ v, vs[i]? = some v ∧ Rp P w H F v d
  | _, _, _, _, .nil, e => by simp at e
  | _, _, 0, _, .cons r _, e => by simp at e; subst e; exact ⟨_, rfl, r⟩
  | _, _, i + 1, _, .cons _ t, e => by
    obtain ⟨d, h1, h2⟩ := RpA.at (i := i) t (by simpa using e)
    exact ⟨d, by simpa using h1, h2⟩
theorem RpA.append : ∀ {vs ws : List V} {ds es : List D}, RpA P w H F vs ds → RpA P w H F ws es → RpA P w H F (vs ++ ws) (ds ++ es)
  | _, _, _, _, .nil, s => s
  | _, _, _, _, .cons r t, s => .cons r (RpA.append t s)
theorem RpA.take : ∀ {vs : List V} {ds : List D} (n : Nat), RpA P w H F vs ds → RpA P w H F (vs.take n) (ds.take n)
  | _, _, 0, _ => .nil
  | _, _, _ + 1, .nil => .nil
  | _, _, n + 1, .cons r t => .cons r (RpA.take n t)
theorem RpA.drop : ∀ {vs : List V} {ds : List D} (n : Nat), RpA P w H F vs ds → RpA P w H F (vs.drop n) (ds.drop n)
  | _, _, 0, r => r
  | _, _, _ + 1, .nil => .nil
  | _, _, n + 1, .cons _ t => RpA.drop n t
theorem RpA.set {v : V} {d : D} (r : Rp P w H F v d) : ∀ {vs : List V} {ds : List D} (i : Nat), RpA P w H F vs ds → RpA P w H F (vs.set i v) (ds.set i d)
  | _, _, _, .nil => .nil
  | _, _, 0, .cons _ t => .cons r t
  | _, _, i + 1, .cons q t => .cons q (RpA.set r i t)
theorem RpA.reverse {vs : List V} {ds : List D} (h : RpA P w H F vs ds) : RpA P w H F vs.reverse ds.reverse := by
  have go : ∀ {vs ws : List V} {ds es : List D}, RpA P w H F vs ds → RpA P w H F ws es → RpA P w H F (vs.reverseAux ws) (ds.reverseAux es) := by
    intro vs
    induction vs with
    | nil => intro ws ds es h1 h2; cases h1; exact h2
    | cons v vs ih => intro ws ds es h1 h2; cases h1 with | cons r t => have := ih t (RpA.cons r h2); exact this
  exact go h .nil
theorem RpA.eraseIdx : ∀ {vs : List V} {ds : List D} (i : Nat), RpA P w H F vs ds → RpA P w H F (vs.eraseIdx i) (ds.eraseIdx i)
  | _, _, _, .nil => .nil
  | _, _, 0, .cons _ t => t
  | _, _, i + 1, .cons q t => .cons q (RpA.eraseIdx i t)
theorem RpA.dropLast {vs : List V} {ds : List D} (h : RpA P w H F vs ds) : RpA P w H F vs.dropLast ds.dropLast := by
  rw [List.dropLast_eq_take, List.dropLast_eq_take, h.length]
  exact h.take _
theorem Tp.mono (hF : ∀ a, F a → F' a) (hH : ∀ a, F a → H' a = H a) {v : V} {d : D} (h : Tp P w H F v d) (hv : ∀ a, v = .ref a → H' a = H a) : Tp P w H' F' v d := by
  cases h with
  | rp r => exact .rp (r.mono hF hH)
  | lst h t => exact .lst (by rw [hv _ rfl]; exact h) (t.mono hF hH)
  | dicK s h o k t => exact .dicK s (by rw [hv _ rfl]; exact h) o k (t.mono hF hH)
  | dicT s h o t => exact .dicT s (by rw [hv _ rfl]; exact h) o (t.mono hF hH)
/-- freezing -/
theorem Tp.freeze {a : Addr} {d : D} (h : Tp P w H F (.ref a) d) : Rp P w H (fun b => F b ∨ b = a) (.ref a) d := by
  have up : ∀ b, F b → (F b ∨ b = a) := fun _ h => .inl h
  have re : ∀ b, F b → H b = H b := fun _ _ => rfl
  cases h with
  | rp r => exact r.mono up re
  | lst h t => exact .lst (.inr rfl) h (t.mono up re)
  | dicK s h o k t => exact .dicK (.inr rfl) s h o k (t.mono up re)
  | dicT s h o t => exact .dicT (.inr rfl) s h o (t.mono up re)
end

/-- what a def's frame stands on: the written part, the entry's heap, what was frozen there, the one thing lent (in slot 0), what is wanted of exceptions -/
structure C3 where
  P : Program
  w : World
  K : PySem.W.Frag
  H0 : Hp
  F0 : Addr → Prop
  bo : Option Addr
  W : Nat → Prop

/-- slot i holds a thing that may change -/
def isOB (ρ : En) (i : Nat) : Prop := ∃ d, ρ[i]? = some (.own d) ∨ ρ[i]? = some (.bor d)
/-- the addresses of such slots -/
def OA (σ : St) (ρ : En) (a : Addr) : Prop := ∃ i, isOB ρ i ∧ σ[i]? = some (some (.ref a))

/-- the script stands at a -/
def Scr (c : C3) (a : Addr) (ns : List Int) : Prop :=
  (∃ o, c.H0 a = some (.frz o (.lst (ns.map V.int))) ∧ c.bo ≠ some a) ∨
    ∃ (o : Obj) (its : Array Value) (n : Nat), c.K.lookup a = some o ∧ o.cls = .type "list" ∧ o.dict = none ∧ o.data = .seq its n ∧ its.size ≤ sizeLine ∧ Vals (ns.map V.int) its.toList

structure SR (c : C3) (σ : St) (ρ : En) (H : Hp) (F : Addr → Prop) : Prop where
  len : ρ.length = σ.length
  val : ∀ (i : Nat) (d : D), ρ[i]? = some (.val d) → ∃ v, σ[i]? = some (some v) ∧ Rp c.P c.w H F v d
  own : ∀ (i : Nat) (d : D), ρ[i]? = some (.own d) → ∃ a, σ[i]? = some (some (.ref a)) ∧ ¬ F a ∧ c.H0 a = none ∧ H a ≠ none ∧ Tp c.P c.w H F (.ref a) d
  bor : ∀ (i : Nat) (d : D), ρ[i]? = some (.bor d) → i = 0 ∧ ∃ a, σ[i]? = some (some (.ref a)) ∧ ¬ F a ∧ c.bo = some a ∧ H a ≠ none ∧ Tp c.P c.w H F (.ref a) d
  scr : ∀ (i : Nat) (ns : List Int), ρ[i]? = some (.scr ns) → ∃ a, σ[i]? = some (some (.ref a)) ∧ Scr c a ns
  dis : ∀ (i j : Nat) (a : Addr), isOB ρ i → isOB ρ j → σ[i]? = some (some (.ref a)) → σ[j]? = some (some (.ref a)) → i = j
  dom : ∀ a, F a → H a ≠ none
  keep : ∀ a o, c.H0 a = some o → c.bo ≠ some a → H a = some o
  grow : ∀ a, F a → c.F0 a ∨ c.H0 a = none
  incl : ∀ a, c.F0 a → F a
  bof : ∀ a, c.bo = some a → ¬ F a ∧ c.H0 a ≠ none ∧ H a ≠ none

/-- what an expression may do -/
structure EX (σ : St) (ρ : En) (H : Hp) (F : Addr → Prop) (ρ' : En) (H' : Hp) (F' : Addr → Prop) : Prop where
  fr : ∀ a, F a → F' a
  kp : ∀ a o, H a = some o → ¬ OA σ ρ a → H' a = some o
  dm : ∀ a, H a ≠ none → H' a ≠ none
  gr : ∀ a, F' a → F a ∨ H a = none ∨ OA σ ρ a
  ob : ∀ i, isOB ρ' i → isOB ρ i

section
variable {c : C3} {σ : St} {ρ ρ1 ρ2 : En} {H H1 H2 : Hp} {F F1 F2 : Addr → Prop}
theorem EX.refl : EX σ ρ H F ρ H F := ⟨fun _ h => h, fun _ _ h _ => h, fun _ h => h, fun _ h => .inl h, fun _ h => h⟩
theorem EX.oa (e : EX σ ρ H F ρ1 H1 F1) {a : Addr} (h : OA σ ρ1 a) : OA σ ρ a := let ⟨i, h1, h2⟩ := h; ⟨i, e.ob i h1, h2⟩
theorem EX.trans (a : EX σ ρ H F ρ1 H1 F1) (b : EX σ ρ1 H1 F1 ρ2 H2 F2) : EX σ ρ H F ρ2 H2 F2 where
  fr := fun x h => b.fr x (a.fr x h)
  kp := fun x o h n => b.kp x o (a.kp x o h n) fun z => n (a.oa z)
  dm := fun x h => b.dm x (a.dm x h)
  gr := fun x h => by
    rcases b.gr x h with h | h | h
    · exact a.gr x h
    · refine .inr (.inl ?_)
      cases q : H x with
      | none => rfl
      | some o => exact absurd h (a.dm x (by rw [q]; simp))
    · exact .inr (.inr (a.oa h))
  ob := fun i h => a.ob i (b.ob i h)
theorem SR.notF (s : SR c σ ρ H F) {a : Addr} (h : OA σ ρ a) : ¬ F a := by
  obtain ⟨i, ⟨d, h1 | h1⟩, h2⟩ := h
  · obtain ⟨b, e, n, _⟩ := s.own i d h1
    rw [h2] at e; cases e; exact n
  · obtain ⟨_, b, e, n, _⟩ := s.bor i d h1
    rw [h2] at e; cases e; exact n
/-- what is frozen stays as it is -/
theorem EX.same (s : SR c σ ρ H F) (e : EX σ ρ H F ρ1 H1 F1) : ∀ a, F a → H1 a = H a := fun a f => by
  cases q : H a with
  | none => exact absurd q (s.dom a f)
  | some o => exact e.kp a o q fun z => s.notF z f
theorem EX.rp (s : SR c σ ρ H F) (e : EX σ ρ H F ρ1 H1 F1) {P : Program} {w : World} {v : V} {d : D} (r : Rp P w H F v d) : Rp P w H1 F1 v d := r.mono e.fr (e.same s)
theorem EX.rpA (s : SR c σ ρ H F) (e : EX σ ρ H F ρ1 H1 F1) {P : Program} {w : World} {vs : List V} {ds : List D} (r : RpA P w H F vs ds) : RpA P w H1 F1 vs ds := r.mono e.fr (e.same s)
end

/-- a result's value; G the heap ahead -/
def RR (c : C3) (σ : St) (ρ : En) (G H : Hp) (F : Addr → Prop) (v : V) : Rs → Prop
  | .val d => Rp c.P c.w H F v d
  | .own d => ∃ p, v = .ref p ∧ ¬ F p ∧ G p = none ∧ c.H0 p = none ∧ H p ≠ none ∧ Tp c.P c.w H F (.ref p) d ∧ ¬ OA σ ρ p

/-! ### slots -/
theorem isOB_val {ρ : En} {i j : Nat} {d : D} (h : isOB (ρ.set i (.val d)) j) : isOB ρ j ∧ j ≠ i := by
  obtain ⟨e, h⟩ := h
  by_cases hi : i = j
  · subst hi
    by_cases hl : i < ρ.length
    · rw [List.getElem?_set_self hl] at h
      rcases h with h | h <;> cases h
    · rw [List.getElem?_eq_none (by simpa using hl)] at h
      rcases h with h | h <;> cases h
  · rw [List.getElem?_set_ne hi] at h
    exact ⟨⟨e, h⟩, Ne.symm hi⟩
theorem isOB_no {ρ : En} {i j : Nat} (h : isOB (ρ.set i .no) j) : isOB ρ j ∧ j ≠ i := by
  obtain ⟨e, h⟩ := h
  by_cases hi : i = j
  · subst hi
    by_cases hl : i < ρ.length
    · rw [List.getElem?_set_self hl] at h
      rcases h with h | h <;> cases h
    · rw [List.getElem?_eq_none (by simpa using hl)] at h
      rcases h with h | h <;> cases h
  · rw [List.getElem?_set_ne hi] at h
    exact ⟨⟨e, h⟩, Ne.symm hi⟩

section
variable {c : C3} {σ : St} {ρ : En} {H : Hp} {F : Addr → Prop}
/-- more is frozen: addresses that are no slot's -/
theorem SR.more {G : Addr → Prop} (s : SR c σ ρ H F) (hG : ∀ a, G a → ¬ OA σ ρ a ∧ c.H0 a = none ∧ H a ≠ none) : SR c σ ρ H (fun a => F a ∨ G a) := by
  have up : ∀ b, F b → (F b ∨ G b) := fun _ h => .inl h
  have re : ∀ b, F b → H b = H b := fun _ _ => rfl
  refine ⟨s.len, fun i d h => ?_, fun i d h => ?_, fun i d h => ?_, s.scr, s.dis, fun a h => ?_, s.keep, fun a h => ?_, fun a h => .inl (s.incl a h), fun a h => ?_⟩
  · obtain ⟨v, e, r⟩ := s.val i d h
    exact ⟨v, e, r.mono up re⟩
  · obtain ⟨a, e, n, z, y, t⟩ := s.own i d h
    exact ⟨a, e, fun q => q.elim n fun g => (hG a g).1 ⟨i, ⟨d, .inl h⟩, e⟩, z, y, t.mono up re fun _ _ => rfl⟩
  · obtain ⟨i0, a, e, n, z, y, t⟩ := s.bor i d h
    exact ⟨i0, a, e, fun q => q.elim n fun g => (hG a g).1 ⟨i, ⟨d, .inr h⟩, e⟩, z, y, t.mono up re fun _ _ => rfl⟩
  · rcases h with h | h
    · exact s.dom a h
    · exact (hG a h).2.2
  · rcases h with h | h
    · exact s.grow a h
    · exact .inr (hG a h).2.1
  · obtain ⟨n, z, y⟩ := s.bof a h
    exact ⟨fun q => q.elim n fun g => z (hG a g).2.1, z, y⟩
/-- a result is frozen -/
theorem SR.frz {ρ0 : En} {G : Hp} {F0 : Addr → Prop} (s : SR c σ ρ H F) (e : EX σ ρ0 G F0 ρ H F) {v : V} {r : Rs} (h : RR c σ ρ G H F v r) : ∃ F', SR c σ ρ H F' ∧ EX σ ρ0 G F0 ρ H F' ∧ Rp c.P c.w H F' v r.d := by
  cases r with
  | val d => exact ⟨F, s, e, h⟩
  | own d =>
    obtain ⟨p, rfl, n, g, z, y, t, na⟩ := h
    refine ⟨fun b => F b ∨ b = p, s.more (G := fun b => b = p) (fun a e => by subst e; exact ⟨na, z, y⟩), ⟨fun a h => .inl (e.fr a h), e.kp, e.dm, fun a h => ?_, e.ob⟩, t.freeze⟩
    rcases h with h | h
    · exact e.gr a h
    · subst h; exact .inr (.inl g)
/-- a slot's thing is read for good: it is frozen -/
theorem SR.read (s : SR c σ ρ H F) {i : Nat} {d : D} (h : ρ[i]? = some (.own d)) : ∃ a F', σ[i]? = some (some (.ref a)) ∧ SR c σ (ρ.set i (.val d)) H F' ∧ EX σ ρ H F (ρ.set i (.val d)) H F' ∧ Rp c.P c.w H F' (.ref a) d := by
  obtain ⟨a, e, n, z, y, t⟩ := s.own i d h
  have hi : i < ρ.length := (List.getElem?_eq_some_iff.mp h).1
  have up : ∀ b, F b → (F b ∨ b = a) := fun _ h => .inl h
  have re : ∀ b, F b → H b = H b := fun _ _ => rfl
  have oai : isOB ρ i := ⟨d, .inl h⟩
  refine ⟨a, fun b => F b ∨ b = a, e, ⟨by rw [List.length_set]; exact s.len, fun j e' hj => ?_, fun j e' hj => ?_, fun j e' hj => ?_, fun j ns hj => ?_, fun j k b hj hk => s.dis j k b (isOB_val hj).1 (isOB_val hk).1, fun b hb => ?_, s.keep, fun b hb => ?_, fun b hb => .inl (s.incl b hb), fun b hb => ?_⟩,
    ⟨fun _ h => .inl h, fun _ _ h _ => h, fun _ h => h, fun b hb => ?_, fun j hj => (isOB_val hj).1⟩, t.freeze⟩
  · by_cases hij : i = j
    · subst hij
      rw [List.getElem?_set_self hi] at hj
      cases hj
      exact ⟨_, e, t.freeze⟩
    · rw [List.getElem?_set_ne hij] at hj
      obtain ⟨v, e1, r⟩ := s.val j e' hj
      exact ⟨v, e1, r.mono up re⟩
  · have q := isOB_val (i := i) (d := d) ⟨e', .inl hj⟩
    rw [List.getElem?_set_ne (Ne.symm q.2)] at hj
    obtain ⟨b, e1, n1, z1, y1, t1⟩ := s.own j e' hj
    exact ⟨b, e1, fun z => z.elim n1 fun z => q.2 (s.dis j i b ⟨e', .inl hj⟩ oai e1 (z ▸ e)), z1, y1, t1.mono up re fun _ _ => rfl⟩
  · have q := isOB_val (i := i) (d := d) ⟨e', .inr hj⟩
    rw [List.getElem?_set_ne (Ne.symm q.2)] at hj
    obtain ⟨j0, b, e1, n1, z1, y1, t1⟩ := s.bor j e' hj
    exact ⟨j0, b, e1, fun z => z.elim n1 fun z => q.2 (s.dis j i b ⟨e', .inr hj⟩ oai e1 (z ▸ e)), z1, y1, t1.mono up re fun _ _ => rfl⟩
  · by_cases hij : i = j
    · subst hij
      rw [List.getElem?_set_self hi] at hj
      cases hj
    · rw [List.getElem?_set_ne hij] at hj
      exact s.scr j ns hj
  · rcases hb with hb | hb
    · exact s.dom b hb
    · subst hb; exact y
  · rcases hb with hb | hb
    · exact s.grow b hb
    · subst hb; exact .inr z
  · obtain ⟨n1, z1, y1⟩ := s.bof b hb
    exact ⟨fun q => q.elim n1 fun q => z1 (q ▸ z), z1, y1⟩
  · rcases hb with hb | hb
    · exact .inl hb
    · subst hb; exact .inr (.inr ⟨i, oai, e⟩)
/-- a new object, frozen at once -/
theorem SR.new (s : SR c σ ρ H F) {p : Addr} {o : HO} (hp : H p = none) (f : Bool) :
    SR c σ ρ (upd H p o) (fun a => F a ∨ (f = true ∧ a = p)) ∧ EX σ ρ H F ρ (upd H p o) (fun a => F a ∨ (f = true ∧ a = p)) := by
  have ne : ∀ a, H a ≠ none → a ≠ p := fun a h z => h (z ▸ hp)
  have nf : ∀ a, F a → a ≠ p := fun a h => ne a (s.dom a h)
  have up : ∀ b, F b → (F b ∨ (f = true ∧ b = p)) := fun _ h => .inl h
  have re : ∀ b, F b → upd H p o b = H b := fun b h => upd_ne (nf b h)
  have z0 : c.H0 p = none := by
    cases q : c.H0 p with
    | none => rfl
    | some u =>
      by_cases hb : c.bo = some p
      · exact absurd hp (s.bof p hb).2.2
      · have := s.keep p u q hb
        rw [hp] at this; cases this
  have dm : ∀ a, H a ≠ none → upd H p o a ≠ none := fun a h => by rw [upd_ne (ne a h)]; exact h
  have nb : ∀ a, c.bo = some a → a ≠ p := fun a h => ne a (s.bof a h).2.2
  refine ⟨⟨s.len, fun i d h => ?_, fun i d h => ?_, fun i d h => ?_, s.scr, s.dis, fun a h => ?_, fun a u h hb => ?_, fun a h => ?_, fun a h => .inl (s.incl a h), fun a h => ?_⟩, ⟨fun _ h => .inl h, fun a u h _ => ?_, dm, fun a h => ?_, fun _ h => h⟩⟩
  · obtain ⟨v, e, r⟩ := s.val i d h
    exact ⟨v, e, r.mono up re⟩
  · obtain ⟨a, e, n, z, y, t⟩ := s.own i d h
    exact ⟨a, e, fun q => q.elim n fun q => ne a y q.2, z, dm a y, t.mono up re fun b hb => by cases hb; exact upd_ne (ne a y)⟩
  · obtain ⟨i0, a, e, n, z, y, t⟩ := s.bor i d h
    exact ⟨i0, a, e, fun q => q.elim n fun q => ne a y q.2, z, dm a y, t.mono up re fun b hb => by cases hb; exact upd_ne (ne a y)⟩
  · rcases h with h | ⟨_, h⟩
    · exact dm a (s.dom a h)
    · subst h; rw [upd_same]; simp
  · have q := s.keep a u h hb
    rw [upd_ne (ne a (by rw [q]; simp))]
    exact q
  · rcases h with h | ⟨_, h⟩
    · exact s.grow a h
    · subst h; exact .inr z0
  · obtain ⟨n, z, y⟩ := s.bof a h
    exact ⟨fun q => q.elim n fun q => nb a h q.2, z, dm a y⟩
  · rw [upd_ne (ne a (by rw [h]; simp))]
    exact h
  · rcases h with h | ⟨_, h⟩
    · exact .inl h
    · subst h; exact .inr (.inl hp)
theorem SR.H0_none (s : SR c σ ρ H F) {p : Addr} (hp : H p = none) : c.H0 p = none := by
  cases q : c.H0 p with
  | none => rfl
  | some u =>
    by_cases hb : c.bo = some p
    · exact absurd hp (s.bof p hb).2.2
    · have := s.keep p u q hb
      rw [hp] at this; cases this
theorem SR.oa_there (s : SR c σ ρ H F) {a : Addr} (h : OA σ ρ a) : H a ≠ none := by
  obtain ⟨i, ⟨d, h1 | h1⟩, h2⟩ := h
  · obtain ⟨b, e, _, _, y, _⟩ := s.own i d h1
    rw [h2] at e; cases e; exact y
  · obtain ⟨_, b, e, _, _, y, _⟩ := s.bor i d h1
    rw [h2] at e; cases e; exact y
end

/-! ### the lifts -/
abbrev EV := En → R (Rs × En)
abbrev TV := En → R (Bool × En)
abbrev DV := En → R (D × En)

/-- an expression -/
def LE (c : C3) (f : EV) : TE := fun σ H Q => ∃ ρ F, SR c σ ρ H F ∧ match f ρ with
  | .ok (r, ρ') => ∀ v H' F', SR c σ ρ' H' F' → EX σ ρ H F ρ' H' F' → RR c σ ρ' H H' F' v r → Q v H'
  | .exc x => c.W x
  | .bad => False
/-- .. whose value is frozen at once -/
def LF (c : C3) (f : DV) : TE := fun σ H Q => ∃ ρ F, SR c σ ρ H F ∧ match f ρ with
  | .ok (d, ρ') => ∀ v H' F', SR c σ ρ' H' F' → EX σ ρ H F ρ' H' F' → Rp c.P c.w H' F' v d → Q v H'
  | .exc x => c.W x
  | .bad => False
/-- a test -/
def LT (c : C3) (t : TV) : TT := fun σ H Q => ∃ ρ F, SR c σ ρ H F ∧ match t ρ with
  | .ok (b, ρ') => ∀ H' F', SR c σ ρ' H' F' → EX σ ρ H F ρ' H' F' → Q b H'
  | .exc x => c.W x
  | .bad => False

/-- an operand: a slot (read when it is used), or a frozen tree -/
inductive Op where
  | sl (i : Nat) | dd (d : D)
@[simp] def Sl.got : Sl → Option D
  | .no => none
  | .val d => some d
  | .own d => some d
  | .bor d => some d
  | .scr _ => none
@[simp] def rdO (ρ : En) : Op → Option D
  | .sl i => (ρ[i]?).bind Sl.got
  | .dd d => some d
abbrev OV := En → R (Op × En)
def OR (c : C3) (σ : St) (H : Hp) (F : Addr → Prop) (v : V) : Op → Prop
  | .sl i => σ[i]? = some (some v)
  | .dd d => Rp c.P c.w H F v d
def LO (c : C3) (f : OV) : TE := fun σ H Q => ∃ ρ F, SR c σ ρ H F ∧ match f ρ with
  | .ok (o, ρ') => ∀ v H' F', SR c σ ρ' H' F' → EX σ ρ H F ρ' H' F' → OR c σ H' F' v o → Q v H'
  | .exc x => c.W x
  | .bad => False

section
variable {c : C3} {σ : St} {ρ ρ1 : En} {H H1 : Hp} {F F1 : Addr → Prop}
theorem SR.got (s : SR c σ ρ H F) {v : V} {o : Op} {d : D} (h : OR c σ H F v o) (e : rdO ρ o = some d) : Tp c.P c.w H F v d := by
  cases o with
  | dd d' => cases e; exact .rp h
  | sl i =>
    have h : σ[i]? = some (some v) := h
    have e : (ρ[i]?).bind Sl.got = some d := e
    cases q : ρ[i]? with
    | none => rw [q] at e; cases e
    | some x =>
      rw [q] at e
      cases x with
      | no => cases e
      | val d' =>
        cases e
        obtain ⟨v', e1, r⟩ := s.val i d q
        rw [h] at e1; cases e1
        exact .rp r
      | own d' =>
        cases e
        obtain ⟨a, e1, _, _, _, t⟩ := s.own i d q
        rw [h] at e1; cases e1
        exact t
      | bor d' =>
        cases e
        obtain ⟨_, a, e1, _, _, _, t⟩ := s.bor i d q
        rw [h] at e1; cases e1
        exact t
      | scr ns => cases e
theorem OR.ext (s : SR c σ ρ H F) (e : EX σ ρ H F ρ1 H1 F1) {v : V} {o : Op} (h : OR c σ H F v o) : OR c σ H1 F1 v o := by
  cases o with
  | sl i => exact h
  | dd d => exact e.rp s h
end

/-- i is below 2^k, either sign (by log2: a big literal on an open term would let the kernel count) -/
def bitsZ (k : Nat) (i : Int) : Bool := decide (i.natAbs.log2 < k)
theorem bitsZ.lt {k : Nat} {i : Int} (hk : 0 < k) (h : bitsZ k i = true) : i.natAbs < 2 ^ k := by
  have h : i.natAbs.log2 < k := of_decide_eq_true h
  by_cases h0 : i.natAbs = 0
  · rw [h0]; exact Nat.two_pow_pos k
  · exact (Nat.log2_lt h0).mp h
theorem bitsZ.mk {k : Nat} {i : Int} (hk : 0 < k) (h : i.natAbs < 2 ^ k) : bitsZ k i = true := by
  by_cases h0 : i.natAbs = 0
  · unfold bitsZ; rw [h0]; exact decide_eq_true (by rw [Nat.log2_zero]; exact hk)
  · exact decide_eq_true ((Nat.log2_lt h0).mpr h)
/-- the built-in names that are used -/
def bnames : List Str := ["isinstance", "int", "bool", "tuple", "list", "str", "dict", "set", "len", "range", "zip", "enumerate", "min", "max", "sum", "sorted", "all", "any", "abs", "repr", "ValueError"]
/-- what a code's context gives: the lift's frame is the code's own -/
structure Cc (X : Cx) (c : C3) : Prop where
  P : X.prog = c.P
  w : X.w = c.w
  K : X.K = c.K
  calm : X.calm = true
  nd : X.N.Nodup
  un : X.A.units + 100 < cLine
  gd : X.A.guards = some []
  fr : ∀ x : Str, bnames.contains x = true → X.mg x = none
end L3

end
section
/-! L3, part B: names, constants, operators, tests. -/
namespace L3
open PySem PySem.Spec PyProof.Rows L2

section
variable {X : Cx} {e : Expr} {t t' : TE}
theorem PE.imp (h : PE X e t) (hi : ∀ σ H Q, t' σ H Q → t σ H Q) : PE X e t' := ⟨fun pins s σ H Q I q => h.run pins s σ H Q I (hi σ H Q q)⟩
theorem PT.imp {t t' : TT} (h : PT X e t) (hi : ∀ σ H Q, t' σ H Q → t σ H Q) : PT X e t' := ⟨fun pins s σ H Q I q => h.run pins s σ H Q I (hi σ H Q q)⟩
theorem PW.imp {t t' : TT} (h : PW X e t) (hi : ∀ σ H Q, t' σ H Q → t σ H Q) : PW X e t' := ⟨fun wh pins s σ H Q I q => h.run wh pins s σ H Q I (hi σ H Q q)⟩
theorem PS.imp {st : Stmt} {t t' : TS} (h : PS X st t) (hi : ∀ D σ H, t' D σ H → t D σ H) : PS X st t' := ⟨fun pins s σ H D I q => h.run pins s σ H D I (hi D σ H q)⟩
theorem PSs.imp {st : List Stmt} {t t' : TS} (h : PSs X st t) (hi : ∀ D σ H, t' D σ H → t D σ H) : PSs X st t' := ⟨fun pins s σ H D I q => h.run pins s σ H D I (hi D σ H q)⟩
theorem PA.imp {es : List Expr} {t t' : TA} (h : PA X es t) (hi : ∀ σ H Q, t' σ H Q → t σ H Q) : PA X es t' := ⟨fun pos pins s σ H Q I q => h.run pos pins s σ H Q I (hi σ H Q q)⟩
end

/-! ### names and constants -/
@[simp] def eVar (i : Nat) : EV := fun ρ => match ρ[i]? with
  | some (.val d) => .ok (.val d, ρ)
  | some (.own d) => .ok (.val d, ρ.set i (.val d))
  | _ => .bad
@[simp] def eC (d : D) : EV := fun ρ => .ok (.val d, ρ)
@[simp] def oVar (i : Nat) : OV := fun ρ => match (ρ[i]?).bind Sl.got with
  | some _ => .ok (.sl i, ρ)
  | none => .bad
@[simp] def oE (f : EV) : OV := fun ρ => (f ρ).bind fun x => .ok (.dd x.1.d, x.2)

section
variable {X : Cx} {c : C3}
theorem r_var (cc : Cc X c) (i : Nat) {x : Str} {pos : Pos} (hN : X.N[i]? = some x := by rfl) (hv : Vis X.env.scope x := by first | exact Or.inl rfl | exact Or.inr (Or.inl rfl) | exact Or.inr (Or.inr rfl)) (hd : (x == ("__debug__" : Str)) = false := by decide)
    (hcd : (x == ("__classdict__" : Str)) = false := by decide) : PE X (.Name x pos) (LE c (eVar i)) :=
  PE.imp (pe_var hN hv hd hcd) fun σ H Q h => by
    obtain ⟨ρ, F, s, h⟩ := h
    unfold eVar at h
    cases q : ρ[i]? with
    | none => rw [q] at h; exact h.elim
    | some z =>
      rw [q] at h
      cases z with
      | val d =>
        obtain ⟨v, e, r⟩ := s.val i d q
        exact ⟨v, e, h v H F s EX.refl r⟩
      | own d =>
        obtain ⟨a, F', e, s', ex, r⟩ := s.read q
        exact ⟨_, e, h _ H F' s' ex r⟩
      | _ => exact h.elim
theorem r_cst {e : Expr} {v : V} {d : D} (h : PE X e (tC v)) (hr : ∀ H F, Rp c.P c.w H F v d) : PE X e (LE c (eC d)) :=
  PE.imp h fun σ H Q h => by
    obtain ⟨ρ, F, s, h⟩ := h
    exact h v H F s EX.refl (hr H F)
theorem r_int {i : Int} {j pos} : PE X (.Constant (.int i) j pos) (LE c (eC (.int i))) := r_cst pe_int fun _ _ => .int i
theorem r_bl {b : Bool} {j pos} : PE X (.Constant (.bool b) j pos) (LE c (eC (.bool b))) := r_cst pe_bl fun _ _ => .bl b
theorem r_non {j pos} : PE X (.Constant .none j pos) (LE c (eC .none)) := r_cst pe_non fun _ _ => .non
theorem r_str {x : Str} {j pos} : PE X (.Constant (.str x) j pos) (LE c (eC (.str x))) := r_cst pe_str fun _ _ => .str x
/-- a module's number -/
theorem r_gint {x : Str} {n : Int} {t : Tok} {pos : Pos} (hm : X.mg x = some (.int n t)) (hg : Gl X x := by rfl) (hd : (x == ("__debug__" : Str)) = false := by decide) : PE X (.Name x pos) (LE c (eC (.int n))) :=
  r_cst (v := .int n) (pe_glob hg hm ⟨t, rfl⟩ hd) fun _ _ => .int n

theorem o_var (cc : Cc X c) (i : Nat) {x : Str} {pos : Pos} (hN : X.N[i]? = some x := by rfl) (hv : Vis X.env.scope x := by first | exact Or.inl rfl | exact Or.inr (Or.inl rfl) | exact Or.inr (Or.inr rfl)) (hd : (x == ("__debug__" : Str)) = false := by decide)
    (hcd : (x == ("__classdict__" : Str)) = false := by decide) : PE X (.Name x pos) (LO c (oVar i)) :=
  PE.imp (pe_var hN hv hd hcd) fun σ H Q h => by
    obtain ⟨ρ, F, s, h⟩ := h
    unfold oVar at h
    cases q : ρ[i]? with
    | none => rw [q] at h; exact h.elim
    | some z =>
      rw [q] at h
      cases z with
      | val d =>
        obtain ⟨v, e, r⟩ := s.val i d q
        exact ⟨v, e, h v H F s EX.refl e⟩
      | own d =>
        obtain ⟨a, e, _⟩ := s.own i d q
        exact ⟨_, e, h _ H F s EX.refl e⟩
      | bor d =>
        obtain ⟨_, a, e, _⟩ := s.bor i d q
        exact ⟨_, e, h _ H F s EX.refl e⟩
      | _ => exact h.elim
theorem o_e {e : Expr} {f : EV} (h : PE X e (LE c f)) : PE X e (LO c (oE f)) :=
  PE.imp h fun σ H Q h => by
    obtain ⟨ρ, F, s, h⟩ := h
    refine ⟨ρ, F, s, ?_⟩
    unfold oE at h
    cases q : f ρ with
    | bad => rw [q] at h; exact h
    | exc x => rw [q] at h; exact h
    | ok z =>
      obtain ⟨r, ρ'⟩ := z
      rw [q] at h
      intro v H' F' s' ex rr
      obtain ⟨F2, s2, e2, r2⟩ := s'.frz ex rr
      exact h v H' F2 s2 e2 r2
end

/-! ### what an operation on values gives -/
/-- what is wanted behind an operation whose answer is r -/
def Got (c : C3) (σ : St) (ρ : En) (H : Hp) (F : Addr → Prop) (Q : VK) : Option Rs → Prop
  | some r => ∀ v H' F', SR c σ ρ H' F' → EX σ ρ H F ρ H' F' → RR c σ ρ H H' F' v r → Q v H'
  | none => False
def rG2 (c : C3) (g : D → D → Option Rs) : R2 := fun x y H Q => ∃ σ ρ F dx dy, SR c σ ρ H F ∧ Tp c.P c.w H F x dx ∧ Tp c.P c.w H F y dy ∧ Got c σ ρ H F Q (g dx dy)
def rG1 (c : C3) (g : D → Option Rs) : V → Hp → VK → Prop := fun x H Q => ∃ σ ρ F dx, SR c σ ρ H F ∧ Tp c.P c.w H F x dx ∧ Got c σ ρ H F Q (g dx)

@[simp] def eOp1 (g : D → Option Rs) (a : OV) : EV := fun ρ => (a ρ).bind fun x => match rdO x.2 x.1 with
  | some dx => (R.ofO (g dx)).bind fun r => .ok (r, x.2)
  | none => .bad
@[simp] def eOp2 (g : D → D → Option Rs) (a b : OV) : EV := fun ρ => (a ρ).bind fun x => (b x.2).bind fun y => match rdO y.2 x.1, rdO y.2 y.1 with
  | some dx, some dy => (R.ofO (g dx dy)).bind fun r => .ok (r, y.2)
  | _, _ => .bad
section
variable {c : C3} {σ : St} {H : Hp} {Q : VK}
theorem Got.lift {ρ0 ρ : En} {H0 : Hp} {F0 F : Addr → Prop} (s0 : SR c σ ρ0 H0 F0) (ex : EX σ ρ0 H0 F0 ρ H F) {r : Option Rs} {r' : Rs} (e : r = some r')
    (h : ∀ v H' F', SR c σ ρ H' F' → EX σ ρ0 H0 F0 ρ H' F' → RR c σ ρ H0 H' F' v r' → Q v H') : Got c σ ρ H F Q r := by
  subst e
  intro v H' F' s' e' rr
  refine h v H' F' s' (ex.trans e') ?_
  cases r' with
  | val d => exact rr
  | own d =>
    obtain ⟨p, e1, n, g, z⟩ := rr
    refine ⟨p, e1, n, ?_, z⟩
    cases q : H0 p with
    | none => rfl
    | some o => exact absurd g (ex.dm p (by rw [q]; simp))
theorem le_op1 {g : D → Option Rs} {a : OV} (h : LE c (eOp1 g a) σ H Q) : LO c a σ H fun x H1 => rG1 c g x H1 Q := by
  obtain ⟨ρ, F, s, h⟩ := h
  refine ⟨ρ, F, s, ?_⟩
  unfold eOp1 at h
  cases qa : a ρ with
  | bad => rw [qa] at h; exact h
  | exc x => rw [qa] at h; exact h
  | ok z =>
    obtain ⟨o, ρ1⟩ := z
    rw [qa] at h
    intro x H1 F1 s1 e1 r1
    dsimp only [R.bind] at h
    cases qx : rdO ρ1 o with
    | none => rw [qx] at h; exact h.elim
    | some dx =>
      rw [qx] at h
      dsimp only at h
      refine ⟨σ, ρ1, F1, dx, s1, s1.got r1 qx, ?_⟩
      cases qg : g dx with
      | none => rw [qg] at h; exact h.elim
      | some r =>
        rw [qg] at h
        exact Got.lift s e1 rfl h
theorem le_op2 {g : D → D → Option Rs} {a b : OV} (h : LE c (eOp2 g a b) σ H Q) : LO c a σ H fun x H1 => LO c b σ H1 fun y H2 => rG2 c g x y H2 Q := by
  obtain ⟨ρ, F, s, h⟩ := h
  refine ⟨ρ, F, s, ?_⟩
  unfold eOp2 at h
  cases qa : a ρ with
  | bad => rw [qa] at h; exact h
  | exc x => rw [qa] at h; exact h
  | ok z =>
    obtain ⟨o, ρ1⟩ := z
    rw [qa] at h
    intro x H1 F1 s1 e1 r1
    refine ⟨ρ1, F1, s1, ?_⟩
    dsimp only [R.bind] at h
    cases qb : b ρ1 with
    | bad => rw [qb] at h; exact h
    | exc x => rw [qb] at h; exact h
    | ok z =>
      obtain ⟨o2, ρ2⟩ := z
      rw [qb] at h
      intro y H2 F2 s2 e2 r2
      dsimp only at h
      have r1' := r1.ext s1 e2
      cases qx : rdO ρ2 o with
      | none => rw [qx] at h; exact h.elim
      | some dx =>
        cases qy : rdO ρ2 o2 with
        | none => rw [qx, qy] at h; exact h.elim
        | some dy =>
          rw [qx, qy] at h
          dsimp only at h
          refine ⟨σ, ρ2, F2, dx, dy, s2, s2.got r1' qx, s2.got r2 qy, ?_⟩
          cases qg : g dx dy with
          | none => rw [qg] at h; exact h.elim
          | some r =>
            rw [qg] at h
            exact Got.lift s (e1.trans e2) rfl h
end

/-! ### tests -/
@[simp] def tE (f : EV) : TV := fun ρ => (f ρ).bind fun x => match x.1 with
  | .val (.bool b) => .ok (b, x.2)
  | _ => .bad
@[simp] def eT (t : TV) : EV := fun ρ => (t ρ).bind fun x => .ok (.val (.bool x.1), x.2)
@[simp] def tAnd (t u : TV) : TV := fun ρ => (t ρ).bind fun x => if x.1 = true then u x.2 else .ok (false, x.2)
@[simp] def tOr (t u : TV) : TV := fun ρ => (t ρ).bind fun x => if x.1 = true then .ok (true, x.2) else u x.2
@[simp] def tNot (t : TV) : TV := fun ρ => (t ρ).bind fun x => .ok (!x.1, x.2)
@[simp] def eIf (t : TV) (a b : EV) : EV := fun ρ => (t ρ).bind fun x => if x.1 = true then a x.2 else b x.2

section
variable {c : C3} {σ : St} {H : Hp}
theorem Rp.bool {P : Program} {w : World} {F : Addr → Prop} {v : V} {b : Bool} (h : Rp P w H F v (.bool b)) : v = .bl b := by cases h; rfl
theorem lt_e {f : EV} {Q : Bool → Hp → Prop} (h : LT c (tE f) σ H Q) : LE c f σ H fun x H' => ∃ k, x = .bl k ∧ Q k H' := by
  obtain ⟨ρ, F, s, h⟩ := h
  refine ⟨ρ, F, s, ?_⟩
  unfold tE at h
  cases q : f ρ with
  | bad => rw [q] at h; exact h
  | exc x => rw [q] at h; exact h
  | ok z =>
    obtain ⟨r, ρ'⟩ := z
    rw [q] at h
    intro v H' F' s' ex rr
    dsimp only [R.bind] at h
    cases r with
    | own d => exact h.elim
    | val d =>
      cases d with
      | bool b => exact ⟨b, Rp.bool rr, h H' F' s' ex⟩
      | _ => exact h.elim
/-- a lift from the entry on is a lift from a later state -/
theorem LT.at {t : TV} {ρ0 ρ1 : En} {H1 : Hp} {F0 F1 : Addr → Prop} {Q : Bool → Hp → Prop} (ex : EX σ ρ0 H F0 ρ1 H1 F1) (s1 : SR c σ ρ1 H1 F1)
    (h : match t ρ1 with
      | .ok (b, ρ') => ∀ H' F', SR c σ ρ' H' F' → EX σ ρ0 H F0 ρ' H' F' → Q b H'
      | .exc x => c.W x
      | .bad => False) : LT c t σ H1 Q := by
  refine ⟨ρ1, F1, s1, ?_⟩
  cases q : t ρ1 with
  | bad => rw [q] at h; exact h
  | exc x => rw [q] at h; exact h
  | ok z =>
    rw [q] at h
    exact fun H' F' s' e' => h H' F' s' (ex.trans e')
theorem RR.back {ρ0 ρ1 ρ2 : En} {H1 H2 : Hp} {F0 F1 F2 : Addr → Prop} (ex : EX σ ρ0 H F0 ρ1 H1 F1) {v : V} {r : Rs} (h : RR c σ ρ2 H1 H2 F2 v r) : RR c σ ρ2 H H2 F2 v r := by
  cases r with
  | val d => exact h
  | own d =>
    obtain ⟨p, e1, n, g, z⟩ := h
    refine ⟨p, e1, n, ?_, z⟩
    cases q : H p with
    | none => rfl
    | some o => exact absurd g (ex.dm p (by rw [q]; simp))
theorem LE.at {f : EV} {ρ0 ρ1 : En} {H1 : Hp} {F0 F1 : Addr → Prop} {Q : VK} (ex : EX σ ρ0 H F0 ρ1 H1 F1) (s1 : SR c σ ρ1 H1 F1)
    (h : match f ρ1 with
      | .ok (r, ρ') => ∀ v H' F', SR c σ ρ' H' F' → EX σ ρ0 H F0 ρ' H' F' → RR c σ ρ' H H' F' v r → Q v H'
      | .exc x => c.W x
      | .bad => False) : LE c f σ H1 Q := by
  refine ⟨ρ1, F1, s1, ?_⟩
  cases q : f ρ1 with
  | bad => rw [q] at h; exact h
  | exc x => rw [q] at h; exact h
  | ok z =>
    rw [q] at h
    exact fun v H' F' s' e' r' => h v H' F' s' (ex.trans e') (r'.back ex)
end

section
variable {X : Cx} {c : C3} {e a b : Expr} {rest : List Expr} {pos : Pos}
/-- a test that is its value's -/
theorem t_val {f : EV} (h : PE X e (LE c f)) (he : ∀ whole, isTrue e X.env whole = (do let v ← whole; standAt e.pos; holding [v] (truthy v)) := by intro _; rfl) : PT X e (LT c (tE f)) :=
  PT.imp (pt_val h he) fun σ H Q h => lt_e h
theorem t_not {t : TV} (h : PT X a (LT c t)) : PT X (.UnaryOp .Not a pos) (LT c (tNot t)) :=
  PT.imp (pt_not h) fun σ H Q h => by
    obtain ⟨ρ, F, s, h⟩ := h
    refine ⟨ρ, F, s, ?_⟩
    unfold tNot at h
    cases q : t ρ with
    | bad => rw [q] at h; exact h
    | exc x => rw [q] at h; exact h
    | ok z => rw [q] at h; exact h
theorem t_and1 {t : TV} (h : PT X a (LT c t)) : PW X (.BoolOp .And [a] pos) (LT c t) := pw_and1 h
theorem t_or1 {t : TV} (h : PT X a (LT c t)) : PW X (.BoolOp .Or [a] pos) (LT c t) := pw_or1 h
theorem t_and {t u : TV} (h : PT X a (LT c t)) (hr : PW X (.BoolOp .And (b :: rest) pos) (LT c u)) : PW X (.BoolOp .And (a :: b :: rest) pos) (LT c (tAnd t u)) :=
  PW.imp (pw_and h hr) fun σ H Q h => by
    obtain ⟨ρ, F, s, h⟩ := h
    refine ⟨ρ, F, s, ?_⟩
    unfold tAnd at h
    cases q : t ρ with
    | bad => rw [q] at h; exact h
    | exc x => rw [q] at h; exact h
    | ok z =>
      obtain ⟨k, ρ1⟩ := z
      rw [q] at h
      intro H1 F1 s1 e1
      dsimp only [R.bind] at h
      cases k with
      | true =>
        rw [if_pos rfl] at h ⊢
        exact LT.at e1 s1 h
      | false =>
        rw [if_neg Bool.false_ne_true] at h ⊢
        exact h H1 F1 s1 e1
theorem t_or {t u : TV} (h : PT X a (LT c t)) (hr : PW X (.BoolOp .Or (b :: rest) pos) (LT c u)) : PW X (.BoolOp .Or (a :: b :: rest) pos) (LT c (tOr t u)) :=
  PW.imp (pw_or h hr) fun σ H Q h => by
    obtain ⟨ρ, F, s, h⟩ := h
    refine ⟨ρ, F, s, ?_⟩
    unfold tOr at h
    cases q : t ρ with
    | bad => rw [q] at h; exact h
    | exc x => rw [q] at h; exact h
    | ok z =>
      obtain ⟨k, ρ1⟩ := z
      rw [q] at h
      intro H1 F1 s1 e1
      dsimp only [R.bind] at h
      cases k with
      | true =>
        rw [if_pos rfl] at h ⊢
        exact h H1 F1 s1 e1
      | false =>
        rw [if_neg Bool.false_ne_true] at h ⊢
        exact LT.at e1 s1 h
/-- .. as values -/
theorem le_T {t : TV} {σ : St} {H : Hp} {Q : VK} (h : LE c (eT t) σ H Q) : LT c t σ H fun b H' => Q (.bl b) H' := by
  obtain ⟨ρ, F, s, h⟩ := h
  refine ⟨ρ, F, s, ?_⟩
  unfold eT at h
  cases q : t ρ with
  | bad => rw [q] at h; exact h
  | exc x => rw [q] at h; exact h
  | ok z =>
    obtain ⟨k, ρ1⟩ := z
    rw [q] at h
    exact fun H' F' s' e' => h _ H' F' s' e' (.bl k)
theorem T_le {t : TV} {σ : St} {H : Hp} {Q : VK} (h : LT c t σ H fun b H' => Q (.bl b) H') : LE c (eT t) σ H Q := by
  obtain ⟨ρ, F, s, h⟩ := h
  refine ⟨ρ, F, s, ?_⟩
  unfold eT
  cases q : t ρ with
  | bad => rw [q] at h; exact h
  | exc x => rw [q] at h; exact h
  | ok z =>
    obtain ⟨k, ρ1⟩ := z
    rw [q] at h
    intro v H' F' s' e' rr
    obtain rfl := Rp.bool rr
    exact h H' F' s' e'
theorem r_T {f : EV} (h : PE X e (LE c f)) : PE X e (LE c (eT (tE f))) :=
  PE.imp h fun σ H Q h => by
    have h1 := lt_e (le_T h)
    obtain ⟨ρ, F, s, h1⟩ := h1
    refine ⟨ρ, F, s, ?_⟩
    cases q : f ρ with
    | bad => rw [q] at h1; exact h1
    | exc x => rw [q] at h1; exact h1
    | ok z =>
      rw [q] at h1
      intro v H' F' s' e' rr
      obtain ⟨k, rfl, q⟩ := h1 v H' F' s' e' rr
      exact q
/-- a value that is a truth, seen as such -/
theorem LE.imp {f : EV} {σ : St} {H : Hp} {Q Q' : VK} (h : LE c f σ H Q) (hi : ∀ v H', Q v H' → Q' v H') : LE c f σ H Q' := by
  obtain ⟨ρ, F, s, h⟩ := h
  refine ⟨ρ, F, s, ?_⟩
  cases q : f ρ with
  | bad => rw [q] at h; exact h
  | exc x => rw [q] at h; exact h
  | ok z => rw [q] at h; exact fun v H' F' s' e' rr => hi _ _ (h v H' F' s' e' rr)
theorem LT.imp {t : TV} {σ : St} {H : Hp} {Q Q' : Bool → Hp → Prop} (h : LT c t σ H Q) (hi : ∀ v H', Q v H' → Q' v H') : LT c t σ H Q' := by
  obtain ⟨ρ, F, s, h⟩ := h
  refine ⟨ρ, F, s, ?_⟩
  cases q : t ρ with
  | bad => rw [q] at h; exact h
  | exc x => rw [q] at h; exact h
  | ok z => rw [q] at h; exact fun H' F' s' e' => hi _ _ (h H' F' s' e')
theorem r_one {op : BoolOp} {t : TV} (h : PE X a (LE c (eT t))) : PE X (.BoolOp op [a] pos) (LE c (eT t)) := pe_one h
theorem r_and {t u : TV} (h : PE X a (LE c (eT t))) (hr : PE X (.BoolOp .And (b :: rest) pos) (LE c (eT u))) : PE X (.BoolOp .And (a :: b :: rest) pos) (LE c (eT (tAnd t u))) :=
  PE.imp (pe_and h hr) fun σ H Q h => by
    refine T_le ?_
    obtain ⟨ρ, F, s, h⟩ := le_T h
    refine ⟨ρ, F, s, ?_⟩
    unfold tAnd at h
    cases q : t ρ with
    | bad => rw [q] at h; exact h
    | exc x => rw [q] at h; exact h
    | ok z =>
      obtain ⟨k, ρ1⟩ := z
      rw [q] at h
      intro H1 F1 s1 e1
      dsimp only [R.bind] at h
      refine ⟨k, rfl, ?_⟩
      cases k with
      | true =>
        rw [if_pos rfl] at h ⊢
        exact T_le (LT.at e1 s1 h)
      | false =>
        rw [if_neg Bool.false_ne_true] at h ⊢
        exact h H1 F1 s1 e1
theorem r_or {t u : TV} (h : PE X a (LE c (eT t))) (hr : PE X (.BoolOp .Or (b :: rest) pos) (LE c (eT u))) : PE X (.BoolOp .Or (a :: b :: rest) pos) (LE c (eT (tOr t u))) :=
  PE.imp (pe_or h hr) fun σ H Q h => by
    refine T_le ?_
    obtain ⟨ρ, F, s, h⟩ := le_T h
    refine ⟨ρ, F, s, ?_⟩
    unfold tOr at h
    cases q : t ρ with
    | bad => rw [q] at h; exact h
    | exc x => rw [q] at h; exact h
    | ok z =>
      obtain ⟨k, ρ1⟩ := z
      rw [q] at h
      intro H1 F1 s1 e1
      dsimp only [R.bind] at h
      refine ⟨k, rfl, ?_⟩
      cases k with
      | true =>
        rw [if_pos rfl] at h ⊢
        exact h H1 F1 s1 e1
      | false =>
        rw [if_neg Bool.false_ne_true] at h ⊢
        exact T_le (LT.at e1 s1 h)
theorem r_not {t : TV} (h : PE X a (LE c (eT t))) : PE X (.UnaryOp .Not a pos) (LE c (eT (tNot t))) :=
  PE.imp (pe_not h) fun σ H Q h => by
    refine T_le ?_
    obtain ⟨ρ, F, s, h⟩ := le_T h
    refine ⟨ρ, F, s, ?_⟩
    unfold tNot at h
    cases q : t ρ with
    | bad => rw [q] at h; exact h
    | exc x => rw [q] at h; exact h
    | ok z =>
      obtain ⟨k, ρ1⟩ := z
      rw [q] at h
      exact fun H1 F1 s1 e1 => ⟨k, rfl, h H1 F1 s1 e1⟩
theorem r_if {t : Expr} {tt : TV} {fa fb : EV} (ht : PT X t (LT c tt)) (ha : PE X a (LE c fa)) (hb : PE X b (LE c fb)) : PE X (.IfExp t a b pos) (LE c (eIf tt fa fb)) :=
  PE.imp (pe_ifExp ht ha hb) fun σ H Q h => by
    obtain ⟨ρ, F, s, h⟩ := h
    refine ⟨ρ, F, s, ?_⟩
    unfold eIf at h
    cases q : tt ρ with
    | bad => rw [q] at h; exact h
    | exc x => rw [q] at h; exact h
    | ok z =>
      obtain ⟨k, ρ1⟩ := z
      rw [q] at h
      intro H1 F1 s1 e1
      dsimp only [R.bind] at h
      cases k with
      | true =>
        rw [if_pos rfl] at h ⊢
        exact LE.at e1 s1 h
      | false =>
        rw [if_neg Bool.false_ne_true] at h ⊢
        exact LE.at e1 s1 h
end

/-! ### operators and comparisons -/
section
variable {X : Cx} {c : C3} {a b d : Expr} {pos : Pos} {fa fb fd : OV}
theorem r_bin {op : Operator} {g : D → D → Option Rs} (ho : OpR X (binaryOp op) (rG2 c g)) (ha : PE X a (LO c fa)) (hb : PE X b (LO c fb)) : PE X (.BinOp a op b pos) (LE c (eOp2 g fa fb)) :=
  PE.imp (pe_op ho ha hb) fun σ H Q h => le_op2 h
theorem r_un {op : UnaryOp} {g : D → Option Rs} (ho : UnR X (unaryOp op) (rG1 c g)) (ha : PE X a (LO c fa)) : PE X (.UnaryOp op a pos) (LE c (eOp1 g fa)) :=
  PE.imp (pe_un ho ha) fun σ H Q h => le_op1 h
theorem r_cmp {op : CmpOp} {g : D → D → Option Rs} (ho : OpR X (compareOp op) (rG2 c g)) (ha : PE X a (LO c fa)) (hb : PE X b (LO c fb)) (hm : behindInMarks op b = false := by first | exact nomark _ | rfl) : PE X (.Compare a [op] [b] pos) (LE c (eOp2 g fa fb)) :=
  PE.imp (pe_cmpR ho ha hb hm) fun σ H Q h => le_op2 h
theorem t_cmp {op : CmpOp} {g : D → D → Option Rs} (ho : OpR X (compareOp op) (rG2 c g)) (ha : PE X a (LO c fa)) (hb : PE X b (LO c fb)) (hm : behindInMarks op b = false := by first | exact nomark _ | rfl) : PT X (.Compare a [op] [b] pos) (LT c (tE (eOp2 g fa fb))) :=
  PT.imp (pt_cmpR ho ha hb hm) fun σ H Q h => le_op2 (lt_e h)
end
end L3

end
section
/-! L3, part C: what operations do on trees: arithmetic, comparisons, subscripts, slices, isinstance. -/
namespace L3
open PySem PySem.Spec PyProof.Rows L2

section
variable {P : Program} {w : World} {H : Hp} {F : Addr → Prop} {v : V}
theorem Tp.int {i : Int} (h : Tp P w H F v (.int i)) : v = .int i := by cases h with | rp r => cases r; rfl
theorem Tp.str {x : Str} (h : Tp P w H F v (.str x)) : v = .str x := by cases h with | rp r => cases r; rfl
theorem Tp.bool {b : Bool} (h : Tp P w H F v (.bool b)) : v = .bl b := by cases h with | rp r => cases r; rfl
theorem Tp.nonV (h : Tp P w H F v .none) : v = .non := by cases h with | rp r => cases r; rfl
theorem Tp.list {ds : List D} (h : Tp P w H F v (.list ds)) : ∃ a xs, v = .ref a ∧ H a = some (.lst xs) ∧ RpA P w H F xs ds := by
  cases h with
  | rp r => cases r with | lst f h t => exact ⟨_, _, rfl, h, t⟩
  | lst h t => exact ⟨_, _, rfl, h, t⟩
theorem Tp.tuple {ds : List D} (h : Tp P w H F v (.tuple ds)) : ∃ a xs, v = .ref a ∧ F a ∧ H a = some (.tup xs) ∧ RpA P w H F xs ds := by
  cases h with
  | rp r => cases r with | tup f h t => exact ⟨_, _, rfl, f, h, t⟩
theorem Tp.isnone {d : D} (h : Tp P w H F v d) : decide (v = .non) = (match d with | .none => true | _ => false) := by
  cases h with
  | rp r => cases r <;> simp
  | lst _ _ => simp
  | dicK _ _ _ _ _ => simp
  | dicT _ _ _ _ => simp
mutual
theorem Rp.dp {K : PySem.W.Frag} : ∀ {v : V} {d : D}, Rp P w H F v d → d.plain = true → Dp K H v d
  | _, _, .non, _ => .non
  | _, _, .bl b, _ => .bl b
  | _, _, .int i, _ => .int i
  | _, _, .str x, _ => .str x
  | _, _, .lst f h t, p => .lst (.of h) (RpA.dp t (by simpa only [PyData.plain] using p))
  | _, _, .tup f h t, p => .tup (.of h) (RpA.dp t (by simpa only [PyData.plain] using p))
  | _, _, .dicK _ _ _ _ _ _, p => nomatch p
  | _, _, .dicT _ _ _ _ _, p => nomatch p
theorem RpA.dp {K : PySem.W.Frag} : ∀ {vs : List V} {ds : List D}, RpA P w H F vs ds → PyData.plainAll ds = true → DpAll K H vs ds
  | _, _, .nil, _ => .nil
  | _, _, .cons r t, p => by
    rw [PyData.plainAll, Bool.and_eq_true] at p
    exact .cons (Rp.dp r p.1) (RpA.dp t p.2)
end
theorem Tp.dp {K : PySem.W.Frag} {d : D} (h : Tp P w H F v d) (p : d.plain = true) : Dp K H v d := by
  cases h with
  | rp r => exact r.dp p
  | lst h t => exact .lst (.of h) (t.dp (by simpa only [PyData.plain] using p))
  | dicK _ _ _ _ _ => exact nomatch p
  | dicT _ _ _ _ => exact nomatch p
end

/-- data without dicts, not deep -/
def okD (d : D) : Bool := d.plain && decide (d.depth ≤ 32)
theorem okD.plain {d : D} (h : okD d = true) : d.plain = true := (Bool.and_eq_true_iff.mp h).1
theorem okD.deep {d : D} (h : okD d = true) : d.depth ≤ 32 := of_decide_eq_true (Bool.and_eq_true_iff.mp h).2

section
variable {X : Cx} {c : C3}
theorem OpR.imp {f : Value → Value → Sem Value} {r r' : R2} (h : OpR X f r) (hi : ∀ x y H Q, r' x y H Q → r x y H Q) : OpR X f r' := fun pins s σ H x y v u Q I rx ry q => h pins s σ H x y v u Q I rx ry (hi _ _ _ _ q)

/-! ### ends -/
section
variable {σ : St} {ρ : En} {H : Hp} {F : Addr → Prop} {Q : VK}
theorem Got.val (s : SR c σ ρ H F) {d : D} {v : V} (h : Got c σ ρ H F Q (some (.val d))) (r : Rp c.P c.w H F v d) : Q v H := h v H F s EX.refl r
theorem Got.ownL (s : SR c σ ρ H F) {ds : List D} {xs : List V} (h : Got c σ ρ H F Q (some (.own (.list ds)))) (r : RpA c.P c.w H F xs ds) (p : Addr) (hp : H p = none) : Q (.ref p) (upd H p (.lst xs)) := by
  obtain ⟨s', e'⟩ := s.new (o := .lst xs) hp false
  have nf : ¬ F p := fun f => s.dom p f hp
  refine h _ _ _ s' e' ⟨p, rfl, fun q => q.elim nf fun z => Bool.noConfusion z.1, hp, s.H0_none hp, by rw [upd_same]; simp, .lst upd_same (e'.rpA s r), fun q => s.oa_there q hp⟩
theorem Got.tup (s : SR c σ ρ H F) {ds : List D} {xs : List V} (h : Got c σ ρ H F Q (some (.val (.tuple ds)))) (r : RpA c.P c.w H F xs ds) (p : Addr) (hp : H p = none) : Q (.ref p) (upd H p (.tup xs)) := by
  obtain ⟨s', e'⟩ := s.new (o := .tup xs) hp true
  exact h _ _ _ s' e' (.tup (.inr ⟨rfl, rfl⟩) upd_same (e'.rpA s r))
end

/-! ### arithmetic -/
def addG : D → D → Option Rs
  | .int i, .int j => some (.val (.int (i + j)))
  | .str x, .str y => if x.length + y.length ≤ sizeLine then some (.val (.str (x ++ y))) else none
  | .list xs, .list ys => if xs.length + ys.length ≤ sizeLine then some (.own (.list (xs ++ ys))) else none
  | .tuple xs, .tuple ys => if xs.length + ys.length ≤ sizeLine then some (.val (.tuple (xs ++ ys))) else none
  | _, _ => none
theorem op_addG : OpR X (binaryOp .Add) (rG2 c addG) :=
  OpR.imp (op_add.or (op_add_str.or (op_cat.or op_catA))) fun x y H Q h => by
    obtain ⟨σ, ρ, F, dx, dy, s, tx, ty, h⟩ := h
    unfold addG at h
    split at h
    · obtain rfl := tx.int
      obtain rfl := ty.int
      exact .inl ⟨_, _, rfl, rfl, h.val s (.int _)⟩
    · split at h
      · rename_i hz
        obtain rfl := tx.str
        obtain rfl := ty.str
        exact .inr (.inl ⟨_, _, rfl, rfl, hz, h.val s (.str _)⟩)
      · exact h.elim
    · split at h
      · rename_i hz
        obtain ⟨a, xs, rfl, ha, ra⟩ := tx.list
        obtain ⟨b, ys, rfl, hb, rb⟩ := ty.list
        exact .inr (.inr (.inl ⟨a, b, xs, ys, rfl, rfl, ha, hb, by rw [ra.length, rb.length]; exact hz, fun p hp => h.ownL s (ra.append rb) p hp⟩))
      · exact h.elim
    · split at h
      · rename_i hz
        obtain ⟨a, xs, rfl, fa, ha, ra⟩ := tx.tuple
        obtain ⟨b, ys, rfl, fb, hb, rb⟩ := ty.tuple
        refine .inr (.inr (.inr ⟨a, b, xs, ys, rfl, rfl, .of ha, .of hb, by rw [ra.length, rb.length]; exact hz, fun e => ?_, fun _ e => ?_, fun _ _ p hp => h.tup s (ra.append rb) p hp⟩))
        · subst e; cases ra; exact h.val s (.tup fb hb rb)
        · subst e; cases rb; rw [List.append_nil] at h; exact h.val s (.tup fa ha ra)
      · exact h.elim
    · exact h.elim
def subG : D → D → Option Rs
  | .int i, .int j => some (.val (.int (i - j)))
  | _, _ => none
theorem op_subG : OpR X (binaryOp .Sub) (rG2 c subG) :=
  OpR.imp op_sub fun x y H Q h => by
    obtain ⟨σ, ρ, F, dx, dy, s, tx, ty, h⟩ := h
    unfold subG at h
    split at h
    · obtain rfl := tx.int
      obtain rfl := ty.int
      exact ⟨_, _, rfl, rfl, h.val s (.int _)⟩
    · exact h.elim
/-- one factor below 2^64 -/
def smallZ (i : Int) : Bool := bitsZ 64 i
theorem smallZ.of {i : Int} (h : smallZ i = true) : -(2 ^ 64) < i ∧ i < 2 ^ 64 := by
  have := bitsZ.lt (by decide) h
  omega
def fdivG : D → D → Option Rs
  | .int i, .int j => if 0 < j ∧ bitsZ 30 j = true then some (.val (.int (i / j))) else none
  | _, _ => none
theorem op_fdivG : OpR X (binaryOp .FloorDiv) (rG2 c fdivG) :=
  OpR.imp op_fdiv fun x y H Q h => by
    obtain ⟨σ, ρ, F, dx, dy, s, tx, ty, h⟩ := h
    unfold fdivG at h
    split at h
    · split at h
      · rename_i hz
        obtain rfl := tx.int
        obtain rfl := ty.int
        have := bitsZ.lt (by decide) hz.2
        exact ⟨_, _, rfl, rfl, ⟨hz.1, by omega⟩, h.val s (.int _)⟩
      · exact h.elim
    · exact h.elim
def modG : D → D → Option Rs
  | .int i, .int j => if 0 < j then some (.val (.int (i % j))) else none
  | _, _ => none
theorem op_modG : OpR X (binaryOp .Mod) (rG2 c modG) :=
  OpR.imp op_mod fun x y H Q h => by
    obtain ⟨σ, ρ, F, dx, dy, s, tx, ty, h⟩ := h
    unfold modG at h
    split at h
    · split at h
      · rename_i hz
        obtain rfl := tx.int
        obtain rfl := ty.int
        exact ⟨_, _, rfl, rfl, hz, h.val s (.int _)⟩
      · exact h.elim
    · exact h.elim
def powG : D → D → Option Rs
  | .int i, .int j => if 0 ≤ j ∧ bitsZ 19 j = true ∧ bitsZ 64 i = true then some (.val (.int (i ^ j.toNat))) else none
  | _, _ => none
theorem op_powG : OpR X (binaryOp .Pow) (rG2 c powG) :=
  OpR.imp op_pow fun x y H Q h => by
    obtain ⟨σ, ρ, F, dx, dy, s, tx, ty, h⟩ := h
    unfold powG at h
    split at h
    · split at h
      · rename_i hz
        obtain rfl := tx.int
        obtain rfl := ty.int
        have := bitsZ.lt (by decide) hz.2.1
        have := bitsZ.lt (by decide) hz.2.2
        exact ⟨_, _, rfl, rfl, ⟨hz.1, by omega, by omega⟩, h.val s (.int _)⟩
      · exact h.elim
    · exact h.elim
def negG : D → Option Rs
  | .int i => some (.val (.int (-i)))
  | _ => none
theorem un_negG : UnR X (unaryOp .USub) (rG1 c negG) := fun pins s σ H x v Q I rx h => by
  obtain ⟨σ', ρ, F, dx, sr, tx, h⟩ := h
  unfold negG at h
  split at h
  · obtain rfl := tx.int
    exact un_neg pins s σ H _ v Q I rx ⟨_, rfl, h.val sr (.int _)⟩
  · exact h.elim

/-! ### == and != -/
def eqG (d e : D) : Option Rs := if okD d && okD e then some (.val (.bool (PyData.eqv d e))) else none
def neG (d e : D) : Option Rs := if okD d && okD e then some (.val (.bool (!PyData.eqv d e))) else none
theorem op_eqG (cc : Cc X c) : OpR X (compareOp .Eq) (rG2 c eqG) := fun pins s σ H x y v u Q I rx ry h => by
  obtain ⟨σ', ρ, F, dx, dy, sr, tx, ty, h⟩ := h
  unfold eqG at h
  split at h
  · rename_i hz
    rw [Bool.and_eq_true] at hz
    obtain ⟨as, r1⟩ := Dp.reads I dx x v (tx.dp (okD.plain hz.1)) rx
    obtain ⟨bs, r2⟩ := Dp.reads I dy y u (ty.dp (okD.plain hz.2)) ry
    have := cc.un
    have := okD.deep hz.1
    exact SeqAt.eq_plain r1 r2 (okD.plain hz.1) (okD.plain hz.2) (by have := Nat.min_le_left dx.depth dy.depth; omega) ⟨.bl _, H, I, rfl, h.val sr (.bl _)⟩
  · exact h.elim
theorem op_neG (cc : Cc X c) : OpR X (compareOp .NotEq) (rG2 c neG) := fun pins s σ H x y v u Q I rx ry h => by
  obtain ⟨σ', ρ, F, dx, dy, sr, tx, ty, h⟩ := h
  unfold neG at h
  split at h
  · rename_i hz
    rw [Bool.and_eq_true] at hz
    obtain ⟨as, r1⟩ := Dp.reads I dx x v (tx.dp (okD.plain hz.1)) rx
    obtain ⟨bs, r2⟩ := Dp.reads I dy y u (ty.dp (okD.plain hz.2)) ry
    have := cc.un
    have := okD.deep hz.1
    exact SeqAt.ne_plain r1 r2 (okD.plain hz.1) (okD.plain hz.2) (by have := Nat.min_le_left dx.depth dy.depth; omega) ⟨.bl _, H, I, rfl, h.val sr (.bl _)⟩
  · exact h.elim

/-! ### order -/
@[simp] def isNoneD : D → Bool
  | .none => true
  | _ => false
theorem isNoneD_ne {d : D} (h : isNoneD d = false) : d ≠ .none := fun e => by subst e; cases h
/-- a < b, alike data -/
def cmpOk (d e : D) : Bool := okD d && okD e && PySem.W.alike d e && !isNoneD d
theorem cmpOk.all {d e : D} (h : cmpOk d e = true) : okD d = true ∧ okD e = true ∧ PySem.W.alike d e = true ∧ d ≠ .none := by
  unfold cmpOk at h
  simp only [Bool.and_eq_true, Bool.not_eq_true'] at h
  exact ⟨h.1.1.1, h.1.1.2, h.1.2, isNoneD_ne h.2⟩
def ltG (d e : D) : Option Rs := match d, e with
  | .int i, .int j => some (.val (.bool (decide (i < j))))
  | d, e => if cmpOk d e then some (.val (.bool (PySem.W.dataLt d e))) else none
def gtG (d e : D) : Option Rs := match d, e with
  | .int i, .int j => some (.val (.bool (decide (j < i))))
  | d, e => if cmpOk d e then some (.val (.bool (PySem.W.dataLt e d))) else none
def leG (d e : D) : Option Rs := match d, e with
  | .int i, .int j => some (.val (.bool (decide (i ≤ j))))
  | d, e => if cmpOk d e then some (.val (.bool (!PySem.W.dataLt e d))) else none
def geG (d e : D) : Option Rs := match d, e with
  | .int i, .int j => some (.val (.bool (decide (j ≤ i))))
  | d, e => if cmpOk d e then some (.val (.bool (!PySem.W.dataLt d e))) else none
theorem op_ordG (cc : Cc X c) {op : CmpOp} {g : D → D → Option Rs} {p : Int → Int → Bool} {q : D → D → Bool}
    (hg : ∀ d e, g d e = match d, e with
      | .int i, .int j => some (.val (.bool (p i j)))
      | d, e => if cmpOk d e then some (.val (.bool (q d e))) else none)
    (h1 : OpR X (compareOp op) (rI0 fun i j => .bl (p i j)))
    (h2 : ∀ {prog : Program} {w : World} {A : Around} {E : Value → Shared → Prop} {s : Shared} {a b : Value} {da db : D} {as bs : List Addr} {Q : Value → Shared → Prop}, Reads s.heap a da as → Reads s.heap b db bs → PySem.W.alike da db = true → da ≠ .none → A.units + min da.depth db.depth < cLine → Q (.bool (q da db)) s → wpAny (model prog w) A (compareOp op a b) Q E s) :
    OpR X (compareOp op) (rG2 c g) := fun pins s σ H x y v u Q I rx ry h => by
  obtain ⟨σ', ρ, F, dx, dy, sr, tx, ty, h⟩ := h
  rw [hg] at h
  split at h
  · obtain rfl := tx.int
    obtain rfl := ty.int
    exact h1 pins s σ H _ _ v u Q I rx ry ⟨_, _, rfl, rfl, h.val sr (.bl _)⟩
  · split at h
    · rename_i hz
      obtain ⟨z1, z2, z3, z4⟩ := cmpOk.all hz
      obtain ⟨as, r1⟩ := Dp.reads I _ x v (tx.dp (okD.plain z1)) rx
      obtain ⟨bs, r2⟩ := Dp.reads I _ y u (ty.dp (okD.plain z2)) ry
      have := cc.un
      have := okD.deep z1
      exact h2 r1 r2 z3 z4 (by have := Nat.min_le_left dx.depth dy.depth; omega) ⟨.bl _, H, I, rfl, h.val sr (.bl _)⟩
    · exact h.elim
theorem op_ltG (cc : Cc X c) : OpR X (compareOp .Lt) (rG2 c ltG) := op_ordG (p := fun i j => decide (i < j)) (q := fun d e => PySem.W.dataLt d e) cc (fun _ _ => rfl) op_lt fun r1 r2 a n u q => PySem.W.lt_data r1 r2 a n u q
theorem op_gtG (cc : Cc X c) : OpR X (compareOp .Gt) (rG2 c gtG) := op_ordG (p := fun i j => decide (j < i)) (q := fun d e => PySem.W.dataLt e d) cc (fun _ _ => rfl) op_gt fun r1 r2 a n u q => PySem.W.gt_data r1 r2 a n u q
theorem op_leG (cc : Cc X c) : OpR X (compareOp .LtE) (rG2 c leG) := op_ordG (p := fun i j => decide (i ≤ j)) (q := fun d e => !PySem.W.dataLt e d) cc (fun _ _ => rfl) op_le fun r1 r2 a n u q => PySem.W.le_data r1 r2 a n u q
theorem op_geG (cc : Cc X c) : OpR X (compareOp .GtE) (rG2 c geG) := op_ordG (p := fun i j => decide (j ≤ i)) (q := fun d e => !PySem.W.dataLt d e) cc (fun _ _ => rfl) op_ge fun r1 r2 a n u q => PySem.W.ge_data r1 r2 a n u q

/-! ### is -/
def isG (d e : D) : Option Rs := match d, e with
  | d, .none => some (.val (.bool (isNoneD d)))
  | .bool a, .bool b => some (.val (.bool (a == b)))
  | _, _ => none
def isntG (d e : D) : Option Rs := match d, e with
  | d, .none => some (.val (.bool (!isNoneD d)))
  | .bool a, .bool b => some (.val (.bool (!(a == b))))
  | _, _ => none
theorem Tp.isN {P : Program} {w : World} {H : Hp} {F : Addr → Prop} {v : V} {d : D} (h : Tp P w H F v d) : decide (v = .non) = isNoneD d := by
  rw [h.isnone]; cases d <;> rfl
theorem op_isG : OpR X (compareOp .Is) (rG2 c isG) :=
  OpR.imp (op_isN.or op_isBl) fun x y H Q h => by
    obtain ⟨σ, ρ, F, dx, dy, s, tx, ty, h⟩ := h
    unfold isG at h
    split at h
    · obtain rfl := ty.nonV
      refine .inl ⟨rfl, ?_⟩
      rw [tx.isN]
      exact h.val s (.bl _)
    · obtain rfl := tx.bool
      obtain rfl := ty.bool
      refine .inr ⟨_, _, rfl, rfl, ?_⟩
      rw [← Bool.beq_eq_decide_eq]
      exact h.val s (.bl _)
    · exact h.elim
theorem op_isntG : OpR X (compareOp .IsNot) (rG2 c isntG) :=
  OpR.imp (op_notN.or op_notBl) fun x y H Q h => by
    obtain ⟨σ, ρ, F, dx, dy, s, tx, ty, h⟩ := h
    unfold isntG at h
    split at h
    · obtain rfl := ty.nonV
      refine .inl ⟨rfl, ?_⟩
      rw [tx.isN]
      exact h.val s (.bl _)
    · obtain rfl := tx.bool
      obtain rfl := ty.bool
      refine .inr ⟨_, _, rfl, rfl, ?_⟩
      rw [← Bool.beq_eq_decide_eq]
      exact h.val s (.bl _)
    · exact h.elim

/-! ### in a list or tuple -/
def inG (d e : D) : Option Rs := match e with
  | .list xs => if okD d && okD e then some (.val (.bool (xs.any fun y => PyData.eqv y d))) else none
  | .tuple xs => if okD d && okD e then some (.val (.bool (xs.any fun y => PyData.eqv y d))) else none
  | _ => none
def ninG (d e : D) : Option Rs := match e with
  | .list xs => if okD d && okD e then some (.val (.bool (!xs.any fun y => PyData.eqv y d))) else none
  | .tuple xs => if okD d && okD e then some (.val (.bool (!xs.any fun y => PyData.eqv y d))) else none
  | _ => none
theorem deep_all {xs : List D} {d : D} (h : okD (.list xs) = true ∨ okD (.tuple xs) = true) : PyData.plainAll xs = true ∧ PyData.depthAll xs ≤ 32 := by
  rcases h with h | h
  · have h1 := okD.plain h; have h2 := okD.deep h
    simp only [PyData.plain] at h1; simp only [PyData.depth] at h2
    exact ⟨h1, by omega⟩
  · have h1 := okD.plain h; have h2 := okD.deep h
    simp only [PyData.plain] at h1; simp only [PyData.depth] at h2
    exact ⟨h1, by omega⟩
theorem op_inG (cc : Cc X c) : OpR X (compareOp .In) (rG2 c inG) := fun pins s σ H x y v u Q I rx ry h => by
  obtain ⟨σ', ρ, F, dx, dy, sr, tx, ty, h⟩ := h
  have := cc.un
  unfold inG at h
  split at h
  · split at h
    · rename_i xs hz
      rw [Bool.and_eq_true] at hz
      obtain ⟨as, r1⟩ := Dp.reads I _ x v (tx.dp (okD.plain hz.1)) rx
      obtain ⟨bs, r2⟩ := Dp.reads I _ y u (ty.dp (okD.plain hz.2)) ry
      obtain ⟨p1, p2⟩ := deep_all (d := dx) (.inl hz.2)
      exact SeqAt.in_list_data r2 r1 p1 (okD.plain hz.1) (by have := Nat.min_le_left (PyData.depthAll xs) dx.depth; omega) ⟨.bl _, H, I, rfl, h.val sr (.bl _)⟩
    · exact h.elim
  · split at h
    · rename_i xs hz
      rw [Bool.and_eq_true] at hz
      obtain ⟨as, r1⟩ := Dp.reads I _ x v (tx.dp (okD.plain hz.1)) rx
      obtain ⟨bs, r2⟩ := Dp.reads I _ y u (ty.dp (okD.plain hz.2)) ry
      obtain ⟨p1, p2⟩ := deep_all (d := dx) (.inr hz.2)
      exact SeqAt.in_tuple_data r2 r1 p1 (okD.plain hz.1) (by have := Nat.min_le_left (PyData.depthAll xs) dx.depth; omega) ⟨.bl _, H, I, rfl, h.val sr (.bl _)⟩
    · exact h.elim
  · exact h.elim
theorem op_ninG (cc : Cc X c) : OpR X (compareOp .NotIn) (rG2 c ninG) := fun pins s σ H x y v u Q I rx ry h => by
  obtain ⟨σ', ρ, F, dx, dy, sr, tx, ty, h⟩ := h
  have := cc.un
  unfold ninG at h
  split at h
  · split at h
    · rename_i xs hz
      rw [Bool.and_eq_true] at hz
      obtain ⟨as, r1⟩ := Dp.reads I _ x v (tx.dp (okD.plain hz.1)) rx
      obtain ⟨bs, r2⟩ := Dp.reads I _ y u (ty.dp (okD.plain hz.2)) ry
      obtain ⟨p1, p2⟩ := deep_all (d := dx) (.inl hz.2)
      exact SeqAt.notIn_list_data r2 r1 p1 (okD.plain hz.1) (by have := Nat.min_le_left (PyData.depthAll xs) dx.depth; omega) ⟨.bl _, H, I, rfl, h.val sr (.bl _)⟩
    · exact h.elim
  · split at h
    · rename_i xs hz
      rw [Bool.and_eq_true] at hz
      obtain ⟨as, r1⟩ := Dp.reads I _ x v (tx.dp (okD.plain hz.1)) rx
      obtain ⟨bs, r2⟩ := Dp.reads I _ y u (ty.dp (okD.plain hz.2)) ry
      obtain ⟨p1, p2⟩ := deep_all (d := dx) (.inr hz.2)
      exact SeqAt.notIn_tuple_data r2 r1 p1 (okD.plain hz.1) (by have := Nat.min_le_left (PyData.depthAll xs) dx.depth; omega) ⟨.bl _, H, I, rfl, h.val sr (.bl _)⟩
    · exact h.elim
  · exact h.elim

/-! ### subscripts -/
def idxG (d e : D) : Option Rs := match d, e with
  | .list xs, .int i => (atI xs i).map .val
  | .tuple xs, .int i => (atI xs i).map .val
  | .str z, .int i => if z.length ≤ sizeLine then (atI z.cps.toList i).map fun k => .val (.str ⟨#[k]⟩) else none
  | _, _ => none
theorem atI_len {α : Type} {xs : List α} {i : Int} {x : α} (h : atI xs i = some x) : ∃ j, ixN xs.length i = some j ∧ xs[j]? = some x := by
  unfold atI at h
  cases q : ixN xs.length i with
  | none => rw [q] at h; cases h
  | some j => rw [q] at h; exact ⟨j, rfl, h⟩
theorem RpA.atI {P : Program} {w : World} {H : Hp} {F : Addr → Prop} {vs : List V} {ds : List D} (r : RpA P w H F vs ds) {i : Int} {d : D} (h : atI ds i = some d) : ∃ v, L2.atI vs i = some v ∧ Rp P w H F v d := by
  obtain ⟨j, h1, h2⟩ := atI_len h
  obtain ⟨v, h3, h4⟩ := r.at h2
  refine ⟨v, ?_, h4⟩
  unfold L2.atI
  rw [r.length, h1]
  exact h3
theorem ix_G (cc : Cc X c) : IxR X (rG2 c idxG) := by
  intro value slice pins s σ H x y v u Q I rx ry h hs
  refine ix_seq value slice pins s σ H x y v u Q I rx ry ?_ hs
  obtain ⟨σ', ρ, F, dx, dy, sr, tx, ty, h⟩ := h
  unfold idxG at h
  split at h
  · rename_i xs i
    cases q : atI xs i with
    | none => rw [q] at h; exact h.elim
    | some d =>
      rw [q] at h
      obtain ⟨a, vs, rfl, ha, ra⟩ := tx.list
      obtain rfl := ty.int
      obtain ⟨z, hz, rz⟩ := ra.atI q
      exact .inl ⟨a, vs, i, z, rfl, rfl, .of ha, hz, h.val sr rz⟩
  · rename_i xs i
    cases q : atI xs i with
    | none => rw [q] at h; exact h.elim
    | some d =>
      rw [q] at h
      obtain ⟨a, vs, rfl, fa, ha, ra⟩ := tx.tuple
      obtain rfl := ty.int
      obtain ⟨z, hz, rz⟩ := ra.atI q
      exact .inr (.inl ⟨a, vs, i, z, rfl, rfl, .of ha, hz, h.val sr rz⟩)
  · split at h
    · rename_i x i hl
      cases q : atI x.cps.toList i with
      | none => rw [q] at h; exact h.elim
      | some d =>
        rw [q] at h
        obtain rfl := tx.str
        obtain rfl := ty.int
        exact .inr (.inr ⟨x, i, d, rfl, rfl, hl, q, h.val sr (.str _)⟩)
    · exact h.elim
  · exact h.elim
theorem r_ix {a b : Expr} {pos : Pos} {fa fb : OV} {g : D → D → Option Rs} (hr : IxR X (rG2 c g)) (ha : PE X a (LO c fa)) (hb : PE X b (LO c fb)) (hs : PlainIx b := by exact fun _ _ => rfl) : PE X (.Subscript a b pos) (LE c (eOp2 g fa fb)) :=
  PE.imp (pe_ix hr ha hb hs) fun σ H Q h => le_op2 h
end

/-! ### chains a op b op c -/
@[simp] def eChain (g g' : D → D → Option Rs) (a b d : OV) : EV := fun ρ => (a ρ).bind fun x => (b x.2).bind fun y => match rdO y.2 x.1, rdO y.2 y.1 with
  | some dx, some dy => match g dx dy with
    | some (.val (.bool true)) => (d y.2).bind fun z => match rdO z.2 y.1, rdO z.2 z.1 with
      | some dy', some dz => (R.ofO (g' dy' dz)).bind fun r => .ok (r, z.2)
      | _, _ => .bad
    | some (.val (.bool false)) => .ok (.val (.bool false), y.2)
    | _ => .bad
  | _, _ => .bad
theorem le_chain {c : C3} {σ : St} {H : Hp} {Q : VK} {g g' : D → D → Option Rs} {a b d : OV} (h : LE c (eChain g g' a b d) σ H Q) : tChain (rG2 c g) (rG2 c g') (LO c a) (LO c b) (LO c d) σ H Q := by
  obtain ⟨ρ, F, s, h⟩ := h
  refine ⟨ρ, F, s, ?_⟩
  unfold eChain at h
  cases qa : a ρ with
  | bad => rw [qa] at h; exact h
  | exc x => rw [qa] at h; exact h
  | ok z =>
    obtain ⟨o, ρ1⟩ := z
    rw [qa] at h
    intro x H1 F1 s1 e1 r1
    refine ⟨ρ1, F1, s1, ?_⟩
    dsimp only [R.bind] at h
    cases qb : b ρ1 with
    | bad => rw [qb] at h; exact h
    | exc x => rw [qb] at h; exact h
    | ok z =>
      obtain ⟨o2, ρ2⟩ := z
      rw [qb] at h
      intro y H2 F2 s2 e2 r2
      dsimp only at h
      have r1' := r1.ext s1 e2
      cases qx : rdO ρ2 o with
      | none => rw [qx] at h; exact h.elim
      | some dx =>
        cases qy : rdO ρ2 o2 with
        | none => rw [qx, qy] at h; exact h.elim
        | some dy =>
          rw [qx, qy] at h
          dsimp only at h
          refine ⟨σ, ρ2, F2, dx, dy, s2, s2.got r1' qx, s2.got r2 qy, ?_⟩
          cases qg : g dx dy with
          | none => rw [qg] at h; exact h.elim
          | some r =>
            rw [qg] at h
            cases r with
            | own _ => exact h.elim
            | val k =>
              cases k with
              | bool k =>
                intro v H3 F3 s3 e3 rr
                obtain rfl := Rp.bool rr
                refine ⟨k, rfl, ?_⟩
                cases k with
                | false =>
                  rw [if_neg Bool.false_ne_true]
                  exact h _ H3 F3 s3 ((e1.trans e2).trans e3) (.bl false)
                | true =>
                  rw [if_pos rfl]
                  dsimp only at h
                  refine ⟨ρ2, F3, s3, ?_⟩
                  cases qd : d ρ2 with
                  | bad => rw [qd] at h; exact h
                  | exc x => rw [qd] at h; exact h
                  | ok z =>
                    obtain ⟨o3, ρ3⟩ := z
                    rw [qd] at h
                    dsimp only at h
                    intro w' H4 F4 s4 e4 r4
                    have r2' := (r2.ext s2 e3).ext s3 e4
                    cases qy' : rdO ρ3 o2 with
                    | none => rw [qy'] at h; exact h.elim
                    | some dy' =>
                      cases qz : rdO ρ3 o3 with
                      | none => rw [qy', qz] at h; exact h.elim
                      | some dz =>
                        rw [qy', qz] at h
                        dsimp only at h
                        refine ⟨σ, ρ3, F4, dy', dz, s4, s4.got r2' qy', s4.got r4 qz, ?_⟩
                        cases qg' : g' dy' dz with
                        | none => rw [qg'] at h; exact h.elim
                        | some r' =>
                          rw [qg'] at h
                          exact Got.lift s (((e1.trans e2).trans e3).trans e4) rfl h
              | _ => exact h.elim
section
variable {X : Cx} {c : C3} {a b d : Expr} {pos : Pos} {fa fb fd : OV}
theorem r_chain {op op' : CmpOp} {g g' : D → D → Option Rs} (ho : OpR X (compareOp op) (rG2 c g)) (ho' : OpR X (compareOp op') (rG2 c g')) (ha : PE X a (LO c fa)) (hb : PE X b (LO c fb)) (hd : PE X d (LO c fd))
    (hm : lastMarks [op, op'] [b, d] = false := by with_unfolding_all rfl) : PE X (.Compare a [op, op'] [b, d] pos) (LE c (eChain g g' fa fb fd)) :=
  PE.imp (pe_chain ho ho' ha hb hd hm) fun σ H Q h => le_chain h
theorem t_chain {op op' : CmpOp} {g g' : D → D → Option Rs} (ho : OpR X (compareOp op) (rG2 c g)) (ho' : OpR X (compareOp op') (rG2 c g')) (ha : PE X a (LO c fa)) (hb : PE X b (LO c fb)) (hd : PE X d (LO c fd))
    (hm : lastMarks [op, op'] [b, d] = false := by with_unfolding_all rfl) : PT X (.Compare a [op, op'] [b, d] pos) (LT c (tE (eChain g g' fa fb fd))) :=
  PT.imp (pt_chain ho ho' ha hb hd hm) fun σ H Q h => le_chain (lt_e h)
end
end L3

end
section
/-! L3, part D: displays, calls of built-in functions. -/
namespace L3
open PySem PySem.Spec PyProof.Rows L2

/-! ### lists of expressions -/
abbrev AV := En → R (List D × En)
def LA (c : C3) (f : AV) : TA := fun σ H Q => ∃ ρ F, SR c σ ρ H F ∧ match f ρ with
  | .ok (ds, ρ') => ∀ vs H' F', SR c σ ρ' H' F' → EX σ ρ H F ρ' H' F' → RpA c.P c.w H' F' vs ds → Q vs H'
  | .exc x => c.W x
  | .bad => False
@[simp] def aNil : AV := fun ρ => .ok ([], ρ)
@[simp] def aCons (f : EV) (g : AV) : AV := fun ρ => (f ρ).bind fun x => (g x.2).bind fun y => .ok (x.1.d :: y.1, y.2)
@[simp] def eTup (g : AV) : EV := fun ρ => (g ρ).bind fun x => if x.1.length ≤ sizeLine then .ok (.val (.tuple x.1), x.2) else .bad
@[simp] def eLst (g : AV) : EV := fun ρ => (g ρ).bind fun x => if x.1.length ≤ sizeLine then .ok (.own (.list x.1), x.2) else .bad
section
variable {X : Cx} {c : C3}
theorem PA.imp' {es : List Expr} {t t' : TA} (h : PA X es t) (hi : ∀ σ H Q, t' σ H Q → t σ H Q) : PA X es t' := PA.imp h hi
theorem a_nil : PA X [] (LA c aNil) := PA.imp pa_nil fun σ H Q h => by
  obtain ⟨ρ, F, s, h⟩ := h
  exact h [] H F s EX.refl .nil
theorem a_cons {e : Expr} {es : List Expr} {f : EV} {g : AV} (h : PE X e (LE c f)) (hr : PA X es (LA c g)) (hs : starEach (e :: es) X.env = (false, eval e X.env) :: starEach es X.env := by rfl) : PA X (e :: es) (LA c (aCons f g)) :=
  PA.imp (pa_cons h hr hs) fun σ H Q h => by
    obtain ⟨ρ, F, s, h⟩ := h
    refine ⟨ρ, F, s, ?_⟩
    unfold aCons at h
    cases qf : f ρ with
    | bad => rw [qf] at h; exact h
    | exc x => rw [qf] at h; exact h
    | ok z =>
      obtain ⟨r, ρ1⟩ := z
      rw [qf] at h
      intro v H1 F1 s1 e1 r1
      obtain ⟨F2, s2, e2, r2⟩ := s1.frz e1 r1
      refine ⟨ρ1, F2, s2, ?_⟩
      dsimp only [R.bind] at h
      cases qg : g ρ1 with
      | bad => rw [qg] at h; exact h
      | exc x => rw [qg] at h; exact h
      | ok z =>
        obtain ⟨ds, ρ2⟩ := z
        rw [qg] at h
        intro vs H3 F3 s3 e3 r3
        exact h _ H3 F3 s3 (e2.trans e3) (.cons (e3.rp s2 r2) r3)
/-- behind an argument list: an answer r -/
theorem la_got {σ : St} {H : Hp} {Q : VK} {g : AV} {k : List D → Option Rs} (h : LE c (fun ρ => (g ρ).bind fun x => (R.ofO (k x.1)).bind fun r => .ok (r, x.2)) σ H Q) :
    LA c g σ H fun vs H1 => ∃ σ ρ F ds, SR c σ ρ H1 F ∧ RpA c.P c.w H1 F vs ds ∧ Got c σ ρ H1 F Q (k ds) := by
  obtain ⟨ρ, F, s, h⟩ := h
  dsimp only at h
  refine ⟨ρ, F, s, ?_⟩
  cases qg : g ρ with
  | bad => rw [qg] at h; exact h
  | exc x => rw [qg] at h; exact h
  | ok z =>
    obtain ⟨ds, ρ1⟩ := z
    rw [qg] at h
    intro vs H1 F1 s1 e1 r1
    dsimp only [R.bind] at h
    refine ⟨σ, ρ1, F1, ds, s1, r1, ?_⟩
    cases qk : k ds with
    | none => rw [qk] at h; exact h.elim
    | some r =>
      rw [qk] at h
      exact Got.lift s e1 rfl h
theorem R.if_ofO {α β : Type} {p : Prop} [Decidable p] {a : α} {f : α → β} : (if p then R.ok (f a) else .bad) = (R.ofO (if p then some a else none)).bind fun r => .ok (f r) := by
  split <;> rfl
theorem r_tup {es : List Expr} {k : Nat} {pos : Pos} {g : AV} (h : PA X es (LA c g)) : PE X (.Tuple es k pos) (LE c (eTup g)) :=
  PE.imp (pe_tup h) fun σ H Q h => by
    have e : eTup g = fun ρ => (g ρ).bind fun x => (R.ofO (if x.1.length ≤ sizeLine then some (Rs.val (.tuple x.1)) else none)).bind fun r => .ok (r, x.2) := by
      funext ρ
      unfold eTup
      congr 1
      funext x
      split <;> rfl
    rw [e] at h
    obtain ⟨ρ, F, s, h⟩ := la_got (k := fun ds => if ds.length ≤ sizeLine then some (Rs.val (.tuple ds)) else none) h
    refine ⟨ρ, F, s, ?_⟩
    cases qg : g ρ with
    | bad => rw [qg] at h; exact h
    | exc x => rw [qg] at h; exact h
    | ok z =>
      rw [qg] at h
      intro vs H1 F1 s1 e1 r1
      obtain ⟨σ', ρ', F', ds, s', r', h⟩ := h vs H1 F1 s1 e1 r1
      split at h
      · rename_i hz
        exact ⟨by rw [r'.length]; exact hz, fun p hp => h.tup s' r' p hp⟩
      · exact h.elim
theorem r_lst {es : List Expr} {pos : Pos} {g : AV} (h : PA X es (LA c g)) : PE X (.List es pos) (LE c (eLst g)) :=
  PE.imp (pe_lst h) fun σ H Q h => by
    have e : eLst g = fun ρ => (g ρ).bind fun x => (R.ofO (if x.1.length ≤ sizeLine then some (Rs.own (.list x.1)) else none)).bind fun r => .ok (r, x.2) := by
      funext ρ
      unfold eLst
      congr 1
      funext x
      split <;> rfl
    rw [e] at h
    obtain ⟨ρ, F, s, h⟩ := la_got (k := fun ds => if ds.length ≤ sizeLine then some (Rs.own (.list ds)) else none) h
    refine ⟨ρ, F, s, ?_⟩
    cases qg : g ρ with
    | bad => rw [qg] at h; exact h
    | exc x => rw [qg] at h; exact h
    | ok z =>
      rw [qg] at h
      intro vs H1 F1 s1 e1 r1
      obtain ⟨σ', ρ', F', ds, s', r', h⟩ := h vs H1 F1 s1 e1 r1
      split at h
      · rename_i hz
        exact ⟨by rw [r'.length]; exact hz, fun p hp => h.ownL s' r' p hp⟩
      · exact h.elim
end

/-! ### built-in functions of one, of two operands -/
def rC1 (c : C3) (g : D → Option Rs) : List V → Hp → VK → Prop := fun xs H Q => ∃ x, xs = [x] ∧ rG1 c g x H Q
def rC2 (c : C3) (g : D → D → Option Rs) : List V → Hp → VK → Prop := fun xs H Q => ∃ x y, xs = [x, y] ∧ rG2 c g x y H Q
section
variable {X : Cx} {c : C3} {x : Str} {p pos : Pos} {a b : Expr} {fa fb : OV} {id T : String}
theorem r_b1 (cc : Cc X c) {g : D → Option Rs} (hc : CallR X (.builtin id) (rC1 c g)) (ha : PE X a (LO c fa)) (hv : bootBuiltins x = some (.builtin id)) (hb : bnames.contains x = true := by rfl) (hg : Gl X x := by rfl) (hn : x ≠ "__name__" := by decide) (hdb : (x == ("__debug__" : Str)) = false := by decide)
    (h1 : starEach [a] X.env = (false, eval a X.env) :: starEach [] X.env := by rfl) (hpl : (backTo pos (starEach [] X.env)).any (·.1) = false := by rfl) : PE X (.Call (.Name x p) [a] [] pos) (LE c (eOp1 g fa)) :=
  PE.imp (pe_callB hc hg (cc.fr x hb) hv (pa_cons ha pa_nil h1) hn hdb h1 hpl) fun σ H Q h => by
    obtain ⟨ρ, F, s, h⟩ := le_op1 h
    refine ⟨ρ, F, s, ?_⟩
    cases q : fa ρ with
    | bad => rw [q] at h; exact h
    | exc x => rw [q] at h; exact h
    | ok z => rw [q] at h; exact fun v H' F' s' e' r' => ⟨v, rfl, h v H' F' s' e' r'⟩
theorem r_t1 (cc : Cc X c) {g : D → Option Rs} (hc : CallR X (.type T) (rC1 c g)) (ha : PE X a (LO c fa)) (hv : bootBuiltins x = some (.type T)) (hb : bnames.contains x = true := by rfl) (hg : Gl X x := by rfl) (hn : x ≠ "__name__" := by decide) (hdb : (x == ("__debug__" : Str)) = false := by decide)
    (h1 : starEach [a] X.env = (false, eval a X.env) :: starEach [] X.env := by rfl) (hpl : (backTo pos (starEach [] X.env)).any (·.1) = false := by rfl) : PE X (.Call (.Name x p) [a] [] pos) (LE c (eOp1 g fa)) :=
  PE.imp (pe_callTy hc hg (cc.fr x hb) hv (pa_cons ha pa_nil h1) hn hdb h1 hpl) fun σ H Q h => by
    obtain ⟨ρ, F, s, h⟩ := le_op1 h
    refine ⟨ρ, F, s, ?_⟩
    cases q : fa ρ with
    | bad => rw [q] at h; exact h
    | exc x => rw [q] at h; exact h
    | ok z => rw [q] at h; exact fun v H' F' s' e' r' => ⟨v, rfl, h v H' F' s' e' r'⟩
theorem LO.imp {f : OV} {σ : St} {H : Hp} {Q Q' : VK} (h : LO c f σ H Q) (hi : ∀ v H', Q v H' → Q' v H') : LO c f σ H Q' := by
  obtain ⟨ρ, F, s, h⟩ := h
  refine ⟨ρ, F, s, ?_⟩
  cases q : f ρ with
  | bad => rw [q] at h; exact h
  | exc x => rw [q] at h; exact h
  | ok z => rw [q] at h; exact fun v H' F' s' e' r' => hi _ _ (h v H' F' s' e' r')
theorem r_b2 (cc : Cc X c) {g : D → D → Option Rs} (hc : CallR X (.builtin id) (rC2 c g)) (ha : PE X a (LO c fa)) (hb' : PE X b (LO c fb)) (hv : bootBuiltins x = some (.builtin id)) (hb : bnames.contains x = true := by rfl) (hg : Gl X x := by rfl) (hn : x ≠ "__name__" := by decide) (hdb : (x == ("__debug__" : Str)) = false := by decide)
    (h1 : starEach [a, b] X.env = (false, eval a X.env) :: starEach [b] X.env := by rfl) (h2 : starEach [b] X.env = (false, eval b X.env) :: starEach [] X.env := by rfl) (hpl : (backTo pos (starEach [b] X.env)).any (·.1) = false := by rfl) : PE X (.Call (.Name x p) [a, b] [] pos) (LE c (eOp2 g fa fb)) :=
  PE.imp (pe_callB hc hg (cc.fr x hb) hv (pa_cons ha (pa_cons hb' pa_nil h2) h1) hn hdb h1 hpl) fun σ H Q h =>
    LO.imp (le_op2 h) fun v H1 h1 => LO.imp h1 fun u H2 h2 => ⟨v, u, rfl, h2⟩
theorem CallR.imp {f : Value} {r r' : List V → Hp → VK → Prop} (h : CallR X f r) (hi : ∀ xs H Q, r' xs H Q → r xs H Q) : CallR X f r' := fun pins s σ H xs us Q I rx q => h pins s σ H xs us Q I rx (hi _ _ _ q)
end

/-! ### what they do -/
/-- a list of whole numbers -/
def intsD : List D → Option (List Int)
  | [] => some []
  | .int i :: r => (intsD r).map (i :: ·)
  | _ :: _ => none
def boolsD : List D → Option (List Bool)
  | [] => some []
  | .bool i :: r => (boolsD r).map (i :: ·)
  | _ :: _ => none
theorem intsD_map : ∀ ns : List Int, intsD (ns.map PyData.int) = some ns
  | [] => rfl
  | n :: ns => by rw [List.map_cons, intsD, intsD_map ns]; rfl
theorem boolsD_map : ∀ ns : List Bool, boolsD (ns.map PyData.bool) = some ns
  | [] => rfl
  | n :: ns => by rw [List.map_cons, boolsD, boolsD_map ns]; rfl
theorem intsD_eq : ∀ {ds : List D} {ns : List Int}, intsD ds = some ns → ds = ns.map PyData.int
  | [], ns, h => by cases h; rfl
  | .int i :: r, ns, h => by
    rw [intsD] at h
    cases q : intsD r with
    | none => rw [q] at h; cases h
    | some ms => rw [q] at h; cases h; rw [List.map_cons, intsD_eq q]
  | .none :: r, _, h => nomatch h
  | .bool _ :: r, _, h => nomatch h
  | .str _ :: r, _, h => nomatch h
  | .list _ :: r, _, h => nomatch h
  | .tuple _ :: r, _, h => nomatch h
  | .dict _ :: r, _, h => nomatch h
theorem boolsD_eq : ∀ {ds : List D} {ns : List Bool}, boolsD ds = some ns → ds = ns.map PyData.bool
  | [], ns, h => by cases h; rfl
  | .bool i :: r, ns, h => by
    rw [boolsD] at h
    cases q : boolsD r with
    | none => rw [q] at h; cases h
    | some ms => rw [q] at h; cases h; rw [List.map_cons, boolsD_eq q]
  | .none :: r, _, h => nomatch h
  | .int _ :: r, _, h => nomatch h
  | .str _ :: r, _, h => nomatch h
  | .list _ :: r, _, h => nomatch h
  | .tuple _ :: r, _, h => nomatch h
  | .dict _ :: r, _, h => nomatch h
theorem RpA.ints {P : Program} {w : World} {H : Hp} {F : Addr → Prop} : ∀ {ns : List Int} {vs : List V}, RpA P w H F vs (ns.map PyData.int) → vs = ns.map V.int
  | [], _, h => by cases h; rfl
  | n :: ns, _, h => by
    rw [List.map_cons] at h
    cases h with
    | cons r t => cases r; rw [List.map_cons, RpA.ints t]
theorem RpA.bools {P : Program} {w : World} {H : Hp} {F : Addr → Prop} : ∀ {ns : List Bool} {vs : List V}, RpA P w H F vs (ns.map PyData.bool) → vs = ns.map V.bl
  | [], _, h => by cases h; rfl
  | n :: ns, _, h => by
    rw [List.map_cons] at h
    cases h with
    | cons r t => cases r; rw [List.map_cons, RpA.bools t]

def absG : D → Option Rs
  | .int i => some (.val (.int (if i < 0 then -i else i)))
  | _ => none
def intG : D → Option Rs
  | .int i => some (.val (.int i))
  | .bool b => some (.val (.int (if b then 1 else 0)))
  | _ => none
def lenG : D → Option Rs
  | .list xs => some (.val (.int xs.length))
  | .tuple xs => some (.val (.int xs.length))
  | .str x => if x.length ≤ sizeLine then some (.val (.int x.length)) else none
  | _ => none
def max2G : D → D → Option Rs
  | .int i, .int j => some (.val (.int (if j > i then j else i)))
  | _, _ => none
def min2G : D → D → Option Rs
  | .int i, .int j => some (.val (.int (if j < i then j else i)))
  | _, _ => none
def sumG : D → Option Rs
  | .list xs => (intsD xs).map fun ns => .val (.int ns.sum)
  | .tuple xs => (intsD xs).map fun ns => .val (.int ns.sum)
  | _ => none
def allG : D → Option Rs
  | .list xs => (boolsD xs).map fun bs => .val (.bool (bs.all id))
  | _ => none
def anyG : D → Option Rs
  | .list xs => (boolsD xs).map fun bs => .val (.bool (bs.any id))
  | _ => none
def listG : D → Option Rs
  | .list xs => some (.own (.list xs))
  | .tuple xs => some (.own (.list xs))
  | _ => none
def tupleG : D → Option Rs
  | .list xs => some (.val (.tuple xs))
  | .tuple xs => some (.val (.tuple xs))
  | _ => none
section
variable {X : Cx} {c : C3}
theorem call_absG : CallR X (.builtin "abs") (rC1 c absG) := CallR.imp call_abs fun xs H Q h => by
  obtain ⟨x, rfl, σ, ρ, F, dx, s, tx, h⟩ := h
  unfold absG at h
  split at h
  · obtain rfl := tx.int
    exact ⟨_, rfl, h.val s (.int _)⟩
  · exact h.elim
theorem call_intG : CallR X (.type "int") (rC1 c intG) := CallR.imp call_int1 fun xs H Q h => by
  obtain ⟨x, rfl, σ, ρ, F, dx, s, tx, h⟩ := h
  unfold intG at h
  split at h
  · obtain rfl := tx.int
    exact .inl ⟨_, rfl, h.val s (.int _)⟩
  · obtain rfl := tx.bool
    exact .inr ⟨_, rfl, h.val s (.int _)⟩
  · exact h.elim
theorem call_lenG : CallR X (.builtin "len") (rC1 c lenG) := CallR.imp call_len fun xs H Q h => by
  obtain ⟨x, rfl, σ, ρ, F, dx, s, tx, h⟩ := h
  unfold lenG at h
  split at h
  · obtain ⟨a, vs, rfl, ha, ra⟩ := tx.list
    exact ⟨_, vs.length, rfl, .inl ⟨vs, .of ha, rfl⟩, by rw [ra.length]; exact h.val s (.int _)⟩
  · obtain ⟨a, vs, rfl, fa, ha, ra⟩ := tx.tuple
    exact ⟨_, vs.length, rfl, .inr ⟨vs, .of ha, rfl⟩, by rw [ra.length]; exact h.val s (.int _)⟩
  · split at h
    · rename_i hz
      obtain rfl := tx.str
      exact ⟨_, _, rfl, ⟨hz, rfl⟩, h.val s (.int _)⟩
    · exact h.elim
  · exact h.elim
theorem call_max2G (cc : Cc X c) : CallR X (.builtin "max") (rC2 c max2G) := CallR.imp (call_max2 cc.calm) fun xs H Q h => by
  obtain ⟨x, y, rfl, σ, ρ, F, dx, dy, s, tx, ty, h⟩ := h
  unfold max2G at h
  split at h
  · obtain rfl := tx.int
    obtain rfl := ty.int
    exact ⟨_, _, rfl, h.val s (.int _)⟩
  · exact h.elim
theorem call_min2G (cc : Cc X c) : CallR X (.builtin "min") (rC2 c min2G) := CallR.imp (call_min2 cc.calm) fun xs H Q h => by
  obtain ⟨x, y, rfl, σ, ρ, F, dx, dy, s, tx, ty, h⟩ := h
  unfold min2G at h
  split at h
  · obtain rfl := tx.int
    obtain rfl := ty.int
    exact ⟨_, _, rfl, h.val s (.int _)⟩
  · exact h.elim
theorem call_sumG (cc : Cc X c) : CallR X (.builtin "sum") (rC1 c sumG) := fun pins s σ H xs us Q I r h => by
  obtain ⟨x, rfl, σ', ρ, F, dx, sr, tx, h⟩ := h
  unfold sumG at h
  split at h
  · rename_i xs
    cases q : intsD xs with
    | none => rw [q] at h; exact h.elim
    | some ns =>
      rw [q] at h
      obtain rfl := intsD_eq q
      obtain ⟨a, vs, rfl, ha, ra⟩ := tx.list
      obtain rfl := ra.ints
      exact cr_sum cc.calm pins s σ H _ us Q I r ⟨a, ns, rfl, .of ha, h.val sr (.int _)⟩
  · rename_i xs
    cases q : intsD xs with
    | none => rw [q] at h; exact h.elim
    | some ns =>
      rw [q] at h
      obtain rfl := intsD_eq q
      obtain ⟨a, vs, rfl, fa, ha, ra⟩ := tx.tuple
      obtain rfl := ra.ints
      obtain ⟨u, rfl, ru⟩ := vals1 r
      cases ru
      obtain ⟨its, rv, ht, _⟩ := I.tuple (SqT.of ha)
      have hi := rv.ints
      obtain ⟨ys, e⟩ := hi.allInts.items
      have hn : numsOf (intItems ys).toList = ns := by rw [← e]; exact hi.numsOf
      rw [nums_intItems] at hn
      rw [e] at ht
      refine PySem.W.ktm_sumG (I.ok.hd cc.calm) ht fun h' tk t' hk => ?_
      rw [preSum_eq, List.take_of_length_le (by simp), hn]
      exact ⟨.int _, H, I.kept hk, ⟨_, rfl⟩, h.val sr (.int _)⟩
  · exact h.elim
theorem call_allG (cc : Cc X c) : CallR X (.builtin "all") (rC1 c allG) := CallR.imp (cr_all cc.calm) fun xs H Q h => by
  obtain ⟨x, rfl, σ', ρ, F, dx, sr, tx, h⟩ := h
  unfold allG at h
  split at h
  · rename_i xs
    cases q : boolsD xs with
    | none => rw [q] at h; exact h.elim
    | some ns =>
      rw [q] at h
      obtain rfl := boolsD_eq q
      obtain ⟨a, vs, rfl, ha, ra⟩ := tx.list
      obtain rfl := ra.bools
      exact ⟨a, ns, rfl, .of ha, h.val sr (.bl _)⟩
  · exact h.elim
theorem call_anyG (cc : Cc X c) : CallR X (.builtin "any") (rC1 c anyG) := CallR.imp (cr_any cc.calm) fun xs H Q h => by
  obtain ⟨x, rfl, σ', ρ, F, dx, sr, tx, h⟩ := h
  unfold anyG at h
  split at h
  · rename_i xs
    cases q : boolsD xs with
    | none => rw [q] at h; exact h.elim
    | some ns =>
      rw [q] at h
      obtain rfl := boolsD_eq q
      obtain ⟨a, vs, rfl, ha, ra⟩ := tx.list
      obtain rfl := ra.bools
      exact ⟨a, ns, rfl, .of ha, h.val sr (.bl _)⟩
  · exact h.elim
theorem call_listG : CallR X (.type "list") (rC1 c listG) := CallR.imp call_list_of fun xs H Q h => by
  obtain ⟨x, rfl, σ', ρ, F, dx, sr, tx, h⟩ := h
  unfold listG at h
  split at h
  · obtain ⟨a, vs, rfl, ha, ra⟩ := tx.list
    exact ⟨a, vs, rfl, .inl (.of ha), fun p hp => h.ownL sr ra p hp⟩
  · obtain ⟨a, vs, rfl, fa, ha, ra⟩ := tx.tuple
    exact ⟨a, vs, rfl, .inr (.of ha), fun p hp => h.ownL sr ra p hp⟩
  · exact h.elim
theorem call_tupleG : CallR X (.type "tuple") (rC1 c tupleG) := CallR.imp call_tuple_of fun xs H Q h => by
  obtain ⟨x, rfl, σ', ρ, F, dx, sr, tx, h⟩ := h
  unfold tupleG at h
  split at h
  · obtain ⟨a, vs, rfl, ha, ra⟩ := tx.list
    exact ⟨a, vs, rfl, .inl ⟨.of ha, fun p hp => h.tup sr ra p hp⟩⟩
  · obtain ⟨a, vs, rfl, fa, ha, ra⟩ := tx.tuple
    exact ⟨a, vs, rfl, .inr ⟨.of ha, h.val sr (.tup fa ha ra)⟩⟩
  · exact h.elim
end

/-! ### min, max of alike data -/
def alikeL (xs : List D) : Bool := xs.all (fun x => xs.all fun y => PySem.W.alike x y) && xs.all fun x => !isNoneD x
theorem alikeL.of {xs : List D} (h : alikeL xs = true) : PySem.W.AlikeAll xs := by
  unfold alikeL at h
  simp only [Bool.and_eq_true, List.all_eq_true, Bool.not_eq_true'] at h
  exact ⟨fun x hx y hy => h.1 x hx y hy, fun x hx => isNoneD_ne (h.2 x hx)⟩
def minG : D → Option Rs
  | .list (x :: xs) => if okD (.list (x :: xs)) && alikeL (x :: xs) then some (.val (PySem.W.minD x xs)) else none
  | .tuple (x :: xs) => if okD (.tuple (x :: xs)) && alikeL (x :: xs) then some (.val (PySem.W.minD x xs)) else none
  | _ => none
def maxG : D → Option Rs
  | .list (x :: xs) => if okD (.list (x :: xs)) && alikeL (x :: xs) then some (.val (PySem.W.maxD x xs)) else none
  | .tuple (x :: xs) => if okD (.tuple (x :: xs)) && alikeL (x :: xs) then some (.val (PySem.W.maxD x xs)) else none
  | _ => none
theorem plain_mem {d : D} : ∀ {xs : List D}, PyData.plainAll xs = true → d ∈ xs → d.plain = true
  | x :: xs, h, hm => by
    rw [PyData.plainAll, Bool.and_eq_true] at h
    rcases List.mem_cons.mp hm with rfl | hm
    · exact h.1
    · exact plain_mem h.2 hm
section
variable {X : Cx} {c : C3}
/-- an item of the list, by what it reads as -/
theorem item_is {P : Program} {w : World} {σ : St} {H : Hp} {F : Addr → Prop} {s : Shared} {pins : List (Addr × Obj)} {vs : List V} {its : List Value} {ds : List D} {i : Nat} {v : Value} {m : D} {h' : Heap} {bs : List Addr} (I : Inv X pins σ H s) (ra : RpA P w H F vs ds) (rv : Vals vs its)
    (hv : its[i]? = some v) (hp : PyData.plainAll ds = true) (hr : Reads h' v m bs) (hk : ∀ b o, s.heap.get? b = some o → h'.get? b = some o) : ∃ x, RelV x v ∧ Rp P w H F x m := by
  have hi : i < vs.length := by rw [rv.length]; exact (List.getElem?_eq_some_iff.mp hv).1
  obtain ⟨d, hd, rd⟩ := ra.get (List.getElem?_eq_getElem hi)
  obtain ⟨u, hu, ru⟩ := rv.get (List.getElem?_eq_getElem hi)
  rw [hv] at hu; cases hu
  have pd : d.plain = true := plain_mem hp (List.mem_of_getElem? hd)
  obtain ⟨as, r1⟩ := Dp.reads I d _ _ (rd.dp (K := X.K) pd) ru
  have e := SeqAt.plain_unique d m v as bs pd (Reads.keeps hk r1) hr
  subst e
  exact ⟨_, ru, rd⟩
theorem minmax_core (cc : Cc X c) {id : String} {best : D → List D → D}
    (h1 : ∀ {prog : Program} {w : World} {A : Around} {E : Value → Shared → Prop} {s : Shared} {l : Addr} {vs : Array Value} {x : D} {xs : List D} {as : List Addr} {Q : Value → Shared → Prop}, A.handled = none → s.heap.IsList l vs → ReadsAll s.heap vs.toList (x :: xs) as → PySem.W.AlikeAll (x :: xs) → A.units + 1 + PyData.depthAll (x :: xs) < cLine →
      (∀ (i : Nat) v h' tk bs, vs[i]? = some v → Reads h' v (best x xs) bs → (∀ b o, s.heap.get? b = some o → h'.get? b = some o) → Q v { s with heap := h', toks := tk }) → wpAny (model prog w) A (call (.builtin id) [.ref l]) Q E s)
    (h2 : ∀ {prog : Program} {w : World} {A : Around} {E : Value → Shared → Prop} {s : Shared} {l : Addr} {vs : Array Value} {x : D} {xs : List D} {as : List Addr} {Q : Value → Shared → Prop}, A.handled = none → s.heap.IsTuple l vs → ReadsAll s.heap vs.toList (x :: xs) as → PySem.W.AlikeAll (x :: xs) → A.units + 1 + PyData.depthAll (x :: xs) < cLine →
      (∀ (i : Nat) v h' tk bs, vs[i]? = some v → Reads h' v (best x xs) bs → (∀ b o, s.heap.get? b = some o → h'.get? b = some o) → Q v { s with heap := h', toks := tk }) → wpAny (model prog w) A (call (.builtin id) [.ref l]) Q E s)
    {g : D → Option Rs} (hg : ∀ d, g d = match d with
      | .list (x :: xs) => if okD (.list (x :: xs)) && alikeL (x :: xs) then some (.val (best x xs)) else none
      | .tuple (x :: xs) => if okD (.tuple (x :: xs)) && alikeL (x :: xs) then some (.val (best x xs)) else none
      | _ => none) : CallR X (.builtin id) (rC1 c g) := fun pins s σ H xs us Q I r h => by
  obtain ⟨x, rfl, σ', ρ, F, dx, sr, tx, h⟩ := h
  obtain ⟨u, rfl, ru⟩ := vals1 r
  have hun := cc.un
  rw [hg] at h
  split at h
  · rename_i y ys
    split at h
    · rename_i hz
      rw [Bool.and_eq_true] at hz
      obtain ⟨p1, p2⟩ := deep_all (d := .none) (.inl hz.1)
      obtain ⟨a, vs, rfl, ha, ra⟩ := tx.list
      cases ru
      obtain ⟨its, rv, hl, _⟩ := I.list (SqL.of ha)
      obtain ⟨as, hr⟩ := Dp.readsAll I _ vs its (ra.dp (K := X.K) p1) rv
      refine h1 (I.ok.hd cc.calm) hl.isList hr (alikeL.of hz.2) (by omega) fun i v h' tk bs hv rr hk => ?_
      obtain ⟨z, rz, rz'⟩ := item_is I ra rv (i := i) (by simpa using hv) p1 rr hk
      exact ⟨z, H, I.kept hk, rz, h.val sr rz'⟩
    · exact h.elim
  · rename_i y ys
    split at h
    · rename_i hz
      rw [Bool.and_eq_true] at hz
      obtain ⟨p1, p2⟩ := deep_all (d := .none) (.inr hz.1)
      obtain ⟨a, vs, rfl, fa, ha, ra⟩ := tx.tuple
      cases ru
      obtain ⟨its, rv, hl, _⟩ := I.tuple (SqT.of ha)
      obtain ⟨as, hr⟩ := Dp.readsAll I _ vs its (ra.dp (K := X.K) p1) rv
      refine h2 (I.ok.hd cc.calm) hl hr (alikeL.of hz.2) (by omega) fun i v h' tk bs hv rr hk => ?_
      obtain ⟨z, rz, rz'⟩ := item_is I ra rv (i := i) (by simpa using hv) p1 rr hk
      exact ⟨z, H, I.kept hk, rz, h.val sr rz'⟩
    · exact h.elim
  · exact h.elim
theorem call_minG (cc : Cc X c) : CallR X (.builtin "min") (rC1 c minG) := minmax_core cc (best := PySem.W.minD) (fun a b c d e f => PySem.W.min_list_data a b c d e f) (fun a b c d e f => PySem.W.min_tuple_data a b c d e f) fun d => by
  unfold minG; rfl
theorem call_maxG (cc : Cc X c) : CallR X (.builtin "max") (rC1 c maxG) := minmax_core cc (best := PySem.W.maxD) (fun a b c d e f => PySem.W.max_list_data a b c d e f) (fun a b c d e f => PySem.W.max_tuple_data a b c d e f) fun d => by
  unfold maxG; rfl
end

/-! ### repr -/
def reprG (d : D) : Option Rs := if d.plain && d.showable && decide (d.depth ≤ 32) && decide (d.shown.length ≤ sizeLine) then some (.val (.str d.shown)) else none
mutual
theorem noDict_plain : ∀ d : D, d.plain = true → d.hasDict = false
  | .none, _ => rfl
  | .bool _, _ => rfl
  | .int _, _ => rfl
  | .str _, _ => rfl
  | .list xs, h => by simp only [PyData.hasDict]; exact noDict_plainAll xs (by simpa only [PyData.plain] using h)
  | .tuple xs, h => by simp only [PyData.hasDict]; exact noDict_plainAll xs (by simpa only [PyData.plain] using h)
  | .dict _, h => nomatch h
theorem noDict_plainAll : ∀ xs : List D, PyData.plainAll xs = true → PyData.hasDictAll xs = false
  | [], _ => rfl
  | x :: xs, h => by
    rw [PyData.plainAll, Bool.and_eq_true] at h
    rw [PyData.hasDictAll, noDict_plain x h.1, noDict_plainAll xs h.2]; rfl
end
theorem call_reprG {X : Cx} {c : C3} (cc : Cc X c) : CallR X (.builtin "repr") (rC1 c reprG) := fun pins s σ H xs us Q I r h => by
  obtain ⟨x, rfl, σ', ρ, F, dx, sr, tx, h⟩ := h
  obtain ⟨u, rfl, ru⟩ := vals1 r
  have hun := cc.un
  unfold reprG at h
  split at h
  · rename_i hz
    simp only [Bool.and_eq_true, decide_eq_true_eq] at hz
    obtain ⟨⟨⟨z1, z2⟩, z3⟩, z4⟩ := hz
    have q : Q (.str dx.shown) H := h.val sr (.str _)
    have fin : ∀ t tk, EP X pins σ Q (.str dx.shown t) { s with toks := tk } := fun t tk => ⟨.str _, H, I.tok tk, ⟨t, rfl⟩, q⟩
    obtain ⟨as, rd⟩ := Dp.reads I dx x u (tx.dp (K := X.K) z1) ru
    have big : ∀ a, u = .ref a → wpAny (model X.prog X.w) X.A (call (.builtin "repr") [u]) (EP X pins σ Q) X.xe s := fun a e => by
      subst e
      exact repr_of_reads' rd z2 (PyData.noDict_hsm (noDict_plain dx z1)) cc.gd (by omega) (fun _ _ k => k) (fun h' t tk hk => ⟨.str _, H, I.kept hk, ⟨t, rfl⟩, q⟩) z4
    cases rd with
    | none => simp only [PyData.shown] at fin; exact PySem.P.repr_of_none (fin _ _)
    | bool b => simp only [PyData.shown] at fin; exact PySem.P.repr_of_bool (fin _ _)
    | int i t => simp only [PyData.shown] at fin; exact PySem.P.repr_of_int (by simpa [PyData.showable] using z2) (fin _ _)
    | str y t => simp only [PyData.shown] at fin z4; exact PySem.P.repr_of_str (fin _ _) z4
    | list _ _ _ _ => exact big _ rfl
    | tuple _ _ _ _ => exact big _ rfl
    | dict _ _ _ _ _ => exact big _ rfl
  · exact h.elim
end L3

end
section
/-! L3, part E: statements. -/
namespace L3
open PySem PySem.Spec PyProof.Rows L2

inductive Fl where
  | nx | rt (r : Rs)
abbrev SV := En → R (Fl × En)

/-- what is frozen stays -/
structure FK (H : Hp) (F : Addr → Prop) (H' : Hp) (F' : Addr → Prop) : Prop where
  fr : ∀ a, F a → F' a
  sm : ∀ a, F a → H' a = H a
theorem FK.refl {H : Hp} {F : Addr → Prop} : FK H F H F := ⟨fun _ h => h, fun _ _ => rfl⟩
theorem FK.trans {H H1 H2 : Hp} {F F1 F2 : Addr → Prop} (a : FK H F H1 F1) (b : FK H1 F1 H2 F2) : FK H F H2 F2 :=
  ⟨fun x h => b.fr x (a.fr x h), fun x h => (b.sm x (a.fr x h)).trans (a.sm x h)⟩
theorem EX.fk {c : C3} {σ : St} {ρ ρ1 : En} {H H1 : Hp} {F F1 : Addr → Prop} (e : EX σ ρ H F ρ1 H1 F1) (s : SR c σ ρ H F) : FK H F H1 F1 := ⟨e.fr, e.same s⟩
/-- a result that may have been the frame's own -/
abbrev RO (c : C3) (σ : St) (ρ : En) (H : Hp) (F : Addr → Prop) (v : V) (r : Rs) : Prop := RR c σ ρ (fun _ => none) H F v r
theorem RR.ro {c : C3} {σ : St} {ρ : En} {G H : Hp} {F : Addr → Prop} {v : V} {r : Rs} (h : RR c σ ρ G H F v r) : RO c σ ρ H F v r := by
  cases r with
  | val d => exact h
  | own d => obtain ⟨p, e, n, _, z⟩ := h; exact ⟨p, e, n, rfl, z⟩
theorem RR.frz {c : C3} {σ : St} {ρ : En} {G H : Hp} {F : Addr → Prop} {v : V} {r : Rs} (s : SR c σ ρ H F) (h : RR c σ ρ G H F v r) : ∃ F', SR c σ ρ H F' ∧ FK H F H F' ∧ Rp c.P c.w H F' v r.d := by
  cases r with
  | val d => exact ⟨F, s, FK.refl, h⟩
  | own d =>
    obtain ⟨p, rfl, n, g, z, y, t, na⟩ := h
    exact ⟨fun b => F b ∨ b = p, s.more (G := fun b => b = p) (fun a e => by subst e; exact ⟨na, z, y⟩), ⟨fun a h => .inl h, fun _ _ => rfl⟩, t.freeze⟩

/-- an expression whose value may be moved out of a slot -/
def LX (c : C3) (f : EV) : TE := fun σ H Q => ∃ ρ F, SR c σ ρ H F ∧ match f ρ with
  | .ok (r, ρ') => ∀ v H' F', SR c σ ρ' H' F' → FK H F H' F' → RO c σ ρ' H' F' v r → Q v H'
  | .exc x => c.W x
  | .bad => False
/-- statements -/
def LS (c : C3) (f : SV) : TS := fun D σ H => ∃ ρ F, SR c σ ρ H F ∧ match f ρ with
  | .ok (.nx, ρ') => ∀ σ' H' F', SR c σ' ρ' H' F' → FK H F H' F' → D.nx σ' H'
  | .ok (.rt r, ρ') => ∀ v σ' H' F', SR c σ' ρ' H' F' → FK H F H' F' → RO c σ' ρ' H' F' v r → D.rt v H'
  | .exc x => c.W x
  | .bad => False
/-- the wish behind f, from a later state on -/
def PL (c : C3) (D : Ends) (H : Hp) (F : Addr → Prop) : R (Fl × En) → Prop
  | .ok (.nx, ρ') => ∀ σ' H' F', SR c σ' ρ' H' F' → FK H F H' F' → D.nx σ' H'
  | .ok (.rt r, ρ') => ∀ v σ' H' F', SR c σ' ρ' H' F' → FK H F H' F' → RO c σ' ρ' H' F' v r → D.rt v H'
  | .exc x => c.W x
  | .bad => False
theorem PL.later {c : C3} {D : Ends} {H H1 : Hp} {F F1 : Addr → Prop} {r : R (Fl × En)} (k : FK H F H1 F1) (h : PL c D H F r) : PL c D H1 F1 r := by
  match r, h with
  | .ok (.nx, ρ'), h => exact fun σ' H' F' s f => h σ' H' F' s (k.trans f)
  | .ok (.rt r, ρ'), h => exact fun v σ' H' F' s f z => h v σ' H' F' s (k.trans f) z
  | .exc x, h => exact h
  | .bad, h => exact h
theorem LS.of {c : C3} {f : SV} {D : Ends} {σ : St} {H : Hp} {F : Addr → Prop} {ρ : En} (s : SR c σ ρ H F) (h : PL c D H F (f ρ)) : LS c f D σ H := by
  refine ⟨ρ, F, s, ?_⟩
  generalize f ρ = r at h
  match r, h with
  | .ok (.nx, ρ'), h => exact h
  | .ok (.rt r, ρ'), h => exact h
  | .exc x, h => exact h
  | .bad, h => exact h
theorem LS.pl {c : C3} {f : SV} {D : Ends} {σ : St} {H : Hp} (h : LS c f D σ H) : ∃ ρ F, SR c σ ρ H F ∧ PL c D H F (f ρ) := by
  obtain ⟨ρ, F, s, h⟩ := h
  refine ⟨ρ, F, s, ?_⟩
  generalize f ρ = r at h
  match r, h with
  | .ok (.nx, ρ'), h => exact h
  | .ok (.rt r, ρ'), h => exact h
  | .exc x, h => exact h
  | .bad, h => exact h

@[simp] def sNil : SV := fun ρ => .ok (.nx, ρ)
@[simp] def sSeq (f g : SV) : SV := fun ρ => (f ρ).bind fun x => match x.1 with
  | .nx => g x.2
  | .rt r => .ok (.rt r, x.2)
@[simp] def sRet (f : EV) : SV := fun ρ => (f ρ).bind fun x => .ok (.rt x.1, x.2)
@[simp] def sRetN : SV := fun ρ => .ok (.rt (.val .none), ρ)
@[simp] def sExpr (f : EV) : SV := fun ρ => (f ρ).bind fun x => .ok (.nx, x.2)
@[simp] def sIf (t : TV) (f g : SV) : SV := fun ρ => (t ρ).bind fun x => if x.1 = true then f x.2 else g x.2
def sBad : SV := fun _ => .bad
/-- a name that is moved -/
@[simp] def eMv (i : Nat) : EV := fun ρ => match ρ[i]? with
  | some (.val d) => .ok (.val d, ρ)
  | some (.own d) => .ok (.own d, ρ.set i .no)
  | _ => .bad
@[simp] def Sl.of : Rs → Sl
  | .val d => .val d
  | .own d => .own d
@[simp] def sSet (i : Nat) (f : EV) : SV := fun ρ => (f ρ).bind fun x => .ok (.nx, x.2.set i (Sl.of x.1))

section
variable {c : C3} {σ : St} {ρ : En} {H : Hp} {F : Addr → Prop}
/-- a slot is emptied -/
theorem SR.drop (s : SR c σ ρ H F) (i : Nat) : SR c σ (ρ.set i .no) H F := by
  have ne : ∀ {j : Nat} {x : Sl}, (ρ.set i .no)[j]? = some x → x ≠ .no → ρ[j]? = some x := fun {j x} h n => by
    by_cases hij : i = j
    · subst hij
      by_cases hl : i < ρ.length
      · rw [List.getElem?_set_self hl] at h; cases h; exact absurd rfl n
      · rw [List.getElem?_eq_none (by simpa using hl)] at h; cases h
    · rw [List.getElem?_set_ne hij] at h; exact h
  exact ⟨by rw [List.length_set]; exact s.len, fun j d h => s.val j d (ne h (by simp)), fun j d h => s.own j d (ne h (by simp)), fun j d h => s.bor j d (ne h (by simp)), fun j d h => s.scr j d (ne h (by simp)),
    fun j k a hj hk => s.dis j k a (isOB_no hj).1 (isOB_no hk).1, s.dom, s.keep, s.grow, s.incl, s.bof⟩
/-- a slot is filled -/
theorem SR.put (s : SR c σ ρ H F) {v : V} {r : Rs} (i : Nat) (h : RO c σ ρ H F v r) : SR c (σ.set i (some v)) (ρ.set i (Sl.of r)) H F := by
  by_cases hi : i < ρ.length
  rotate_left
  · have e1 : ρ.set i (Sl.of r) = ρ := List.set_eq_of_length_le (by omega)
    have e2 : σ.set i (some v) = σ := List.set_eq_of_length_le (by have := s.len; omega)
    rw [e1, e2]; exact s
  have hs : i < σ.length := by have := s.len; omega
  have other : ∀ {j : Nat}, j ≠ i → (σ.set i (some v))[j]? = σ[j]? := fun {j} h => List.getElem?_set_ne (Ne.symm h)
  have otherR : ∀ {j : Nat}, j ≠ i → (ρ.set i (Sl.of r))[j]? = ρ[j]? := fun {j} h => List.getElem?_set_ne (Ne.symm h)
  have ob : ∀ {j : Nat}, j ≠ i → isOB (ρ.set i (Sl.of r)) j → isOB ρ j := fun {j} n ⟨d, h⟩ => ⟨d, by rw [otherR n] at h; exact h⟩
  have self : ∀ {x : Sl}, (ρ.set i (Sl.of r))[i]? = some x → x = Sl.of r := fun {x} h => by rw [List.getElem?_set_self hi] at h; exact (Option.some.inj h).symm
  have selfV : ∀ {x : Option V}, (σ.set i (some v))[i]? = some x → x = some v := fun {x} h => by rw [List.getElem?_set_self hs] at h; exact (Option.some.inj h).symm
  have clash : ∀ {j : Nat} {a : Addr}, j ≠ i → isOB ρ j → σ[j]? = some (some (.ref a)) → isOB (ρ.set i (Sl.of r)) i → v = .ref a → False := fun {j a} n hj ej ⟨d, hi'⟩ ev => by
    cases r with
    | val d' => rcases hi' with q | q <;> cases self q
    | own d' =>
      obtain ⟨p, e, _, _, _, _, _, na⟩ := h
      rw [ev] at e; cases e
      exact na ⟨j, hj, ej⟩
  refine ⟨by rw [List.length_set, List.length_set]; exact s.len, fun j d hj => ?_, fun j d hj => ?_, fun j d hj => ?_, fun j ns hj => ?_, fun j k a hj hk ej ek => ?_, s.dom, s.keep, s.grow, s.incl, s.bof⟩
  · by_cases hij : j = i
    · subst hij
      have e := self hj
      cases r with
      | val d' => cases e; exact ⟨v, List.getElem?_set_self hs, h⟩
      | own d' => cases e
    · rw [otherR hij] at hj; rw [other hij]; exact s.val j d hj
  · by_cases hij : j = i
    · subst hij
      have e := self hj
      cases r with
      | val d' => cases e
      | own d' =>
        cases e
        obtain ⟨p, rfl, n, _, z, y, t, _⟩ := h
        exact ⟨p, List.getElem?_set_self hs, n, z, y, t⟩
    · rw [otherR hij] at hj; rw [other hij]; exact s.own j d hj
  · by_cases hij : j = i
    · subst hij
      have e := self hj
      cases r <;> cases e
    · rw [otherR hij] at hj; rw [other hij]; exact s.bor j d hj
  · by_cases hij : j = i
    · subst hij
      have e := self hj
      cases r <;> cases e
    · rw [otherR hij] at hj; rw [other hij]; exact s.scr j ns hj
  · by_cases hji : j = i <;> by_cases hki : k = i
    · rw [hji, hki]
    · subst hji
      rw [other hki] at ek
      exact (clash hki (ob hki hk) ek hj (Option.some.inj (selfV ej)).symm).elim
    · subst hki
      rw [other hji] at ej
      exact (clash hji (ob hji hj) ej hk (Option.some.inj (selfV ek)).symm).elim
    · rw [other hji] at ej
      rw [other hki] at ek
      exact s.dis j k a (ob hji hj) (ob hki hk) ej ek
/-- a slot's thing is moved out -/
theorem SR.move (s : SR c σ ρ H F) {i : Nat} {d : D} (h : ρ[i]? = some (.own d)) : ∃ v, σ[i]? = some (some v) ∧ SR c σ (ρ.set i .no) H F ∧ RO c σ (ρ.set i .no) H F v (.own d) := by
  obtain ⟨a, e, n, z, y, t⟩ := s.own i d h
  refine ⟨_, e, s.drop i, a, rfl, n, rfl, z, y, t, fun ⟨j, hj, ej⟩ => ?_⟩
  obtain ⟨h1, h2⟩ := isOB_no hj
  exact h2 (s.dis j i a h1 ⟨d, .inl h⟩ ej e)
end

section
variable {X : Cx} {c : C3} {e : Expr} {pos : Pos}
theorem LX.le {f : EV} {σ : St} {H : Hp} {Q : VK} (h : LX c f σ H Q) : LE c f σ H Q := by
  obtain ⟨ρ, F, s, h⟩ := h
  refine ⟨ρ, F, s, ?_⟩
  cases q : f ρ with
  | bad => rw [q] at h; exact h
  | exc x => rw [q] at h; exact h
  | ok z => rw [q] at h; exact fun v H' F' s' e' r' => h v H' F' s' (e'.fk s) r'.ro
theorem x_e {f : EV} (h : PE X e (LE c f)) : PE X e (LX c f) := PE.imp h fun σ H Q q => q.le
theorem x_mv (cc : Cc X c) (i : Nat) {x : Str} {pos : Pos} (hN : X.N[i]? = some x := by rfl) (hv : Vis X.env.scope x := by first | exact Or.inl rfl | exact Or.inr (Or.inl rfl) | exact Or.inr (Or.inr rfl)) (hd : (x == ("__debug__" : Str)) = false := by decide)
    (hcd : (x == ("__classdict__" : Str)) = false := by decide) : PE X (.Name x pos) (LX c (eMv i)) :=
  PE.imp (pe_var hN hv hd hcd) fun σ H Q h => by
    obtain ⟨ρ, F, s, h⟩ := h
    unfold eMv at h
    cases q : ρ[i]? with
    | none => rw [q] at h; exact h.elim
    | some z =>
      rw [q] at h
      cases z with
      | val d =>
        obtain ⟨v, e, r⟩ := s.val i d q
        exact ⟨v, e, h v H F s FK.refl r⟩
      | own d =>
        obtain ⟨v, e, s', r⟩ := s.move q
        exact ⟨v, e, h v H F s' FK.refl r⟩
      | _ => exact h.elim
theorem s_nil : PSs X [] (LS c sNil) := PSs.imp pss_nil fun D σ H h => by
  obtain ⟨ρ, F, s, h⟩ := h
  exact h σ H F s FK.refl
theorem s_cons {st : Stmt} {rest : List Stmt} {f g : SV} (h1 : PS X st (LS c f)) (h2 : PSs X rest (LS c g)) : PSs X (st :: rest) (LS c (sSeq f g)) :=
  PSs.imp (pss_cons h1 h2) fun D σ H h => by
    obtain ⟨ρ, F, s, h⟩ := h.pl
    refine LS.of s ?_
    unfold sSeq at h
    generalize f ρ = r at h
    match r, h with
    | .ok (.nx, ρ'), h => exact fun σ' H' F' s' k => LS.of s' (h.later k)
    | .ok (.rt r, ρ'), h => exact h
    | .exc x, h => exact h
    | .bad, h => exact h
theorem s_never {st : Stmt} : PS X st (LS c sBad) := PS.imp ps_never fun D σ H h => by
  obtain ⟨ρ, F, s, h⟩ := h
  exact h
theorem s_pass : PS X (.Pass pos) (LS c sNil) := PS.imp ps_pass fun D σ H h => by
  obtain ⟨ρ, F, s, h⟩ := h
  exact h σ H F s FK.refl
theorem s_ret {f : EV} (h : PE X e (LX c f)) : PS X (.Return (some e) pos) (LS c (sRet f)) :=
  PS.imp (ps_ret h) fun D σ H h => by
    obtain ⟨ρ, F, s, h⟩ := h.pl
    refine ⟨ρ, F, s, ?_⟩
    unfold sRet at h
    generalize f ρ = r at h
    match r, h with
    | .ok (r, ρ'), h => exact fun v H' F' s' k r' => h v σ H' F' s' k r'
    | .exc x, h => exact h
    | .bad, h => exact h
theorem s_retN : PS X (.Return none pos) (LS c sRetN) := PS.imp ps_retN fun D σ H h => by
  obtain ⟨ρ, F, s, h⟩ := h
  exact h .non σ H F s FK.refl .non
theorem s_expr {f : EV} (h : PE X e (LE c f)) (hs : swapsWith e none pos.line X.env = pure false := by rfl) : PS X (.Expr e pos) (LS c (sExpr f)) :=
  PS.imp (ps_expr h hs) fun D σ H h => by
    obtain ⟨ρ, F, s, h⟩ := h.pl
    refine ⟨ρ, F, s, ?_⟩
    unfold sExpr at h
    generalize f ρ = r at h
    match r, h with
    | .ok (r, ρ'), h => exact fun v H' F' s' k r' => h σ H' F' s' (k.fk s)
    | .exc x, h => exact h
    | .bad, h => exact h
theorem s_if {t : Expr} {a b : List Stmt} {tt : TV} {f g : SV} (ht : PT X t (LT c tt)) (ha : PSs X a (LS c f)) (hb : PSs X b (LS c g)) : PS X (.If t a b pos) (LS c (sIf tt f g)) :=
  PS.imp (ps_if ht ha hb) fun D σ H h => by
    obtain ⟨ρ, F, s, h⟩ := h.pl
    refine ⟨ρ, F, s, ?_⟩
    unfold sIf at h
    generalize tt ρ = r at h
    match r, h with
    | .ok (true, ρ'), h => exact fun H' F' s' k => LS.of s' (PL.later (k.fk s) h)
    | .ok (false, ρ'), h => exact fun H' F' s' k => LS.of s' (PL.later (k.fk s) h)
    | .exc x, h => exact h
    | .bad, h => exact h
theorem set_of {te : TE} {f : EV} {i : Nat} {D : Ends} {σ : St} {H : Hp} (ht : ∀ Q, LX c f σ H Q → te σ H Q) (h : LS c (sSet i f) D σ H) : tAsg te (gName i) D σ H := by
  refine ht _ ?_
  obtain ⟨ρ, F, s, h⟩ := h.pl
  refine ⟨ρ, F, s, ?_⟩
  unfold sSet at h
  generalize f ρ = r at h
  match r, h with
  | .ok (r, ρ'), h => exact fun v H' F' s' k r' => h _ H' F' (s'.put i r') k
  | .exc x, h => exact h
  | .bad, h => exact h
theorem s_set (cc : Cc X c) (i : Nat) {x : Str} {f : EV} {pos' : Pos} (he : PE X e (LX c f)) (hi : X.N[i]? = some x := by rfl) (hx : Loc X.env.scope x := by first | exact Or.inl rfl | exact Or.inr rfl) (hs : swapsWith e (some (.Name x pos')) pos.line X.env = pure false := by rfl)
    (hf : X.fn x = true ∨ X.env.scope.names.lookup x = some .local := by first | exact .inl rfl | exact .inr rfl) : PS X (.Assign [.Name x pos'] e pos) (LS c (sSet i f)) :=
  PS.imp (ps_set cc.nd hi hx he hs hf) fun D σ H h => set_of (fun Q q => q) h
end

/-! ### two at once -/
@[simp] def sPar (i j : Nat) (f g : EV) : SV := fun ρ => (f ρ).bind fun x => (g x.2).bind fun y => .ok (.nx, (y.2.set i (Sl.of x.1)).set j (Sl.of y.1))
section
variable {X : Cx} {c : C3} {a b : Expr} {pos : Pos} {f g : EV}
theorem par_of {i j : Nat} {T : Ends} {σ : St} {H : Hp} (h : LS c (sPar i j f g) T σ H) : LE c f σ H fun v H1 => LE c g σ H1 fun w H2 => ∀ H3, (∀ a, H2 a ≠ none → H3 a = H2 a) → T.nx ((σ.set i (some v)).set j (some w)) H3 := by
  obtain ⟨ρ, F, s, h⟩ := h.pl
  refine ⟨ρ, F, s, ?_⟩
  unfold sPar at h
  cases qf : f ρ with
  | bad => rw [qf] at h; exact h
  | exc x => rw [qf] at h; exact h
  | ok z =>
    obtain ⟨r1, ρ1⟩ := z
    rw [qf] at h
    intro v H1 F1 s1 e1 t1
    refine ⟨ρ1, F1, s1, ?_⟩
    dsimp only [R.bind] at h
    cases qg : g ρ1 with
    | bad => rw [qg] at h; exact h
    | exc x => rw [qg] at h; exact h
    | ok z =>
      obtain ⟨r2, ρ2⟩ := z
      rw [qg] at h
      intro w H2 F2 s2 e2 t2 H3 hk
      -- the first result behind the second evaluation
      have there : ∀ a, F2 a → H3 a = H2 a := fun a fa => hk a (s2.dom a fa)
      have s3 : SR c σ ρ2 H3 F2 := by
        have tm : ∀ {v : V} {d : D}, Rp c.P c.w H2 F2 v d → Rp c.P c.w H3 F2 v d := fun r => r.mono (fun _ h => h) there
        refine ⟨s2.len, fun i d hi => ?_, fun i d hi => ?_, fun i d hi => ?_, s2.scr, s2.dis, fun a fa => ?_, fun a o q hb => ?_, s2.grow, s2.incl, fun a ha => ?_⟩
        · obtain ⟨v, e, r⟩ := s2.val i d hi
          exact ⟨v, e, tm r⟩
        · obtain ⟨a, e, n, z, y, t⟩ := s2.own i d hi
          exact ⟨a, e, n, z, by rw [hk a y]; exact y, t.mono (fun _ h => h) there fun b hb => by cases hb; exact hk a y⟩
        · obtain ⟨i0, a, e, n, z, y, t⟩ := s2.bor i d hi
          exact ⟨i0, a, e, n, z, by rw [hk a y]; exact y, t.mono (fun _ h => h) there fun b hb => by cases hb; exact hk a y⟩
        · rw [there a fa]; exact s2.dom a fa
        · have q' := s2.keep a o q hb
          rw [hk a (by rw [q']; simp)]; exact q'
        · obtain ⟨n, z, y⟩ := s2.bof a ha
          exact ⟨n, z, by rw [hk a y]; exact y⟩
      have k3 : FK H F H3 F2 := ((e1.trans e2).fk s).trans ⟨fun _ h => h, there⟩
      have o2 : RO c σ ρ2 H3 F2 w r2 := by
        cases r2 with
        | val d => exact t2.mono (fun _ h => h) there
        | own d =>
          obtain ⟨p, e, n, _, z, y, t, na⟩ := t2
          exact ⟨p, e, n, rfl, z, by rw [hk p y]; exact y, t.mono (fun _ h => h) there fun b hb => by cases hb; exact hk p y, na⟩
      have o1 : RO c σ ρ2 H3 F2 v r1 := by
        cases r1 with
        | val d => exact (e2.rp s1 t1).mono (fun _ h => h) there
        | own d =>
          obtain ⟨p, e, n, g1, z, y, t, na⟩ := t1
          have keep : H2 p = H1 p := by
            cases q : H1 p with
            | none => exact absurd q y
            | some o => exact e2.kp p o q na
          have y2 : H2 p ≠ none := by rw [keep]; exact y
          have n2 : ¬ F2 p := fun q => by
            rcases e2.gr p q with q | q | q
            · exact n q
            · exact y q
            · exact na q
          refine ⟨p, e, n2, rfl, z, by rw [hk p y2]; exact y2, ?_, fun q => na (e2.oa q)⟩
          have t' : Tp c.P c.w H2 F2 (.ref p) d := t.mono e2.fr (e2.same s1) fun b hb => by cases hb; exact keep
          exact t'.mono (fun _ h => h) there fun b hb => by cases hb; exact hk p y2
      have s4 := s3.put i o1
      refine h _ H3 F2 (s4.put j ?_) k3
      cases r2 with
      | val d => exact o2
      | own d =>
        obtain ⟨p, e, n, _, z, y, t, na⟩ := o2
        refine ⟨p, e, n, rfl, z, y, t, fun ⟨k, hk', ek⟩ => ?_⟩
        by_cases hki : k = i
        · subst hki
          obtain ⟨d', hd'⟩ := hk'
          by_cases hl : k < ρ2.length
          · rw [List.getElem?_set_self hl] at hd'
            cases r1 with
            | val _ => rcases hd' with q | q <;> cases q
            | own d1 =>
              rw [List.getElem?_set_self (by have := s2.len; omega)] at ek
              obtain ⟨p1, e1', _, _, _, y1, _⟩ := t1
              cases ek
              cases e1'
              obtain ⟨p2, e2', _, g2, _⟩ := t2
              rw [e] at e2'; cases e2'
              exact y1 g2
          · rw [List.getElem?_eq_none (by simpa using hl)] at hd'
            rcases hd' with q | q <;> cases q
        · refine na ⟨k, ?_, ?_⟩
          · obtain ⟨d', hd'⟩ := hk'
            rw [List.getElem?_set_ne (Ne.symm hki)] at hd'
            exact ⟨d', hd'⟩
          · rw [List.getElem?_set_ne (Ne.symm hki)] at ek
            exact ek
end
end L3

end
section
/-! L3, part F: stores, methods, loops. -/
namespace L3
open PySem PySem.Spec PyProof.Rows L2

/-! ### two names at once -/
section
variable {X : Cx} {c : C3} {a b : Expr} {f g : EV} {x y : Str} {i j : Nat} {px py pt pos : Pos} {kt k2 : Nat} {pt2 : Pos}
/-- both names are local: no pair is made -/
theorem s_par (cc : Cc X c) (i j : Nat) (ha : PE X a (LE c f)) (hb : PE X b (LE c g)) (hi : X.N[i]? = some x := by rfl) (hj : X.N[j]? = some y := by rfl) (hij : i ≠ j := by decide)
    (hx : X.env.scope.names.lookup x = some .local := by rfl) (hy : X.env.scope.names.lookup y = some .local := by rfl)
    (hw : swappedStores [.Tuple [.Name x px, .Name y py] kt pt] (.Tuple [a, b] k2 pt2) X.env = pure (some [x, y]) := by rfl)
    (hs : swapsWithSole [.Tuple [.Name x px, .Name y py] kt pt] (.Tuple [a, b] k2 pt2) pos.line X.env = pure false := by rfl)
    (h1 : starEach [a, b] X.env = (false, eval a X.env) :: starEach [b] X.env := by rfl) (h2 : starEach [b] X.env = (false, eval b X.env) :: starEach [] X.env := by rfl) :
    PS X (.Assign [.Tuple [.Name x px, .Name y py] kt pt] (.Tuple [a, b] k2 pt2) pos) (LS c (sPar i j f g)) :=
  PS.imp (ps_par cc.calm cc.nd hi hj hij hx hy (pa_cons ha (pa_cons hb pa_nil h2) h1) hw hs) fun T σ H h =>
    LE.imp (par_of h) fun v H1 q => LE.imp q fun u H2 q => ⟨v, u, rfl, q H2 fun _ _ => rfl⟩
/-- a pair is made -/
theorem s_parT (cc : Cc X c) (i j : Nat) (ha : PE X a (LE c f)) (hb : PE X b (LE c g)) (hi : X.N[i]? = some x := by rfl) (hj : X.N[j]? = some y := by rfl)
    (hx : Loc X.env.scope x := by first | exact Or.inl rfl | exact Or.inr rfl) (hy : Loc X.env.scope y := by first | exact Or.inl rfl | exact Or.inr rfl)
    (hfx : X.fn x = true ∨ X.env.scope.names.lookup x = some .local := by first | exact .inl rfl | exact .inr rfl) (hfy : X.fn y = true ∨ X.env.scope.names.lookup y = some .local := by first | exact .inl rfl | exact .inr rfl)
    (hw : swappedStores [.Tuple [.Name x px, .Name y py] kt pt] (.Tuple [a, b] k2 pt2) X.env = pure none := by rfl)
    (hs : swapsWithSole [.Tuple [.Name x px, .Name y py] kt pt] (.Tuple [a, b] k2 pt2) pos.line X.env = pure false := by rfl)
    (h1 : starEach [a, b] X.env = (false, eval a X.env) :: starEach [b] X.env := by rfl) (h2 : starEach [b] X.env = (false, eval b X.env) :: starEach [] X.env := by rfl) :
    PS X (.Assign [.Tuple [.Name x px, .Name y py] kt pt] (.Tuple [a, b] k2 pt2) pos) (LS c (sPar i j f g)) :=
  PS.imp (ps_asg (pe_tup (pa_cons ha (pa_cons hb pa_nil h2) h1)) (pg_tup cc.calm (pgs_cons (pg_name cc.nd hi hx hfx) (pgs_cons (pg_name cc.nd hj hy hfy) pgs_nil))) hs hw) fun T σ H h =>
    LE.imp (par_of h) fun v H1 q => LE.imp q fun u H2 q => ⟨Nat.le_trans (show 2 ≤ 16777216 by decide) (Nat.le_refl _), fun p hp => ⟨p, [v, u], rfl, .of upd_same, rfl, v, [u], rfl, u, [], rfl, rfl, q _ fun b hb => upd_ne fun e => hb (e ▸ hp)⟩⟩
end

/-! ### targets that take a frozen tree -/
abbrev GV := D → En → Option En
abbrev GVs := List D → En → Option En
def LG (c : C3) (vs : List Nat) (f : GV) : TG := fun v σ H Q => ∃ ρ F d, SR c σ ρ H F ∧ Rp c.P c.w H F v d ∧ match f d ρ with
  | some ρ' => ∀ σ', wipe σ' vs = wipe σ vs → SR c σ' ρ' H F → Q σ' H
  | none => False
def LGs (c : C3) (ws : List Nat) (f : GVs) : TGs := fun vs σ H Q => ∃ ρ F ds, SR c σ ρ H F ∧ RpA c.P c.w H F vs ds ∧ match f ds ρ with
  | some ρ' => ∀ σ', wipe σ' ws = wipe σ ws → SR c σ' ρ' H F → Q σ' H
  | none => False
@[simp] def gN (i : Nat) : GV := fun d ρ => some (ρ.set i (.val d))
@[simp] def gT (f : GVs) : GV := fun d ρ => match d with
  | .tuple ds => f ds ρ
  | _ => none
@[simp] def gsNil : GVs := fun ds ρ => match ds with
  | [] => some ρ
  | _ => none
@[simp] def gsCons (f : GV) (g : GVs) : GVs := fun ds ρ => match ds with
  | d :: r => (f d ρ).bind (g r)
  | _ => none
@[simp] def sUnp (f : EV) (g : GV) : SV := fun ρ => (f ρ).bind fun x => match g x.1.d x.2 with
  | some ρ' => .ok (.nx, ρ')
  | none => .bad
section
variable {X : Cx} {c : C3} {pos : Pos}
theorem PG.imp {tg : Expr} {t t' : TG} (h : PG X tg t) (hi : ∀ v σ H Q, t' v σ H Q → t v σ H Q) : PG X tg t' := ⟨fun pins s σ H v u Q I r q => h.run pins s σ H v u Q I r (hi v σ H Q q)⟩
theorem PGs.imp {tg : List Expr} {t t' : TGs} (h : PGs X tg t) (hi : ∀ v σ H Q, t' v σ H Q → t v σ H Q) : PGs X tg t' := ⟨fun pins s σ H v u Q I r q => h.run pins s σ H v u Q I r (hi v σ H Q q)⟩
theorem wipe_set {σ : St} {i : Nat} {x : Option V} : ∀ {vs : List Nat}, i ∈ vs → wipe (σ.set i x) vs = wipe σ vs
  | [], h => nomatch h
  | v :: vs, h => by
    unfold wipe
    by_cases hm : i ∈ vs
    · rw [wipe_set hm]
    · have e : i = v := (List.mem_cons.mp h).resolve_right hm
      subst e
      have go : ∀ {vs : List Nat}, i ∉ vs → wipe (σ.set i x) vs = (wipe σ vs).set i x := by
        intro vs
        induction vs with
        | nil => intro _; rfl
        | cons w ws ih =>
          intro hn
          unfold wipe
          rw [ih fun z => hn (List.mem_cons_of_mem _ z), List.set_comm _ _ fun (e : i = w) => hn (by rw [e]; exact List.mem_cons_self)]
      rw [go hm, List.set_set]
variable {ws : List Nat}
theorem g_n (cc : Cc X c) (i : Nat) {x : Str} (hi : X.N[i]? = some x := by rfl) (hx : Loc X.env.scope x := by first | exact Or.inl rfl | exact Or.inr rfl) (hf : X.fn x = true ∨ X.env.scope.names.lookup x = some .local := by first | exact .inl rfl | exact .inr rfl) (hw : i ∈ ws := by decide) : PG X (.Name x pos) (LG c ws (gN i)) :=
  PG.imp (pg_name cc.nd hi hx hf) fun v σ H Q h => by
    obtain ⟨ρ, F, d, s, r, h⟩ := h
    exact h _ (wipe_set hw) (s.put (r := .val d) i r)
theorem gs_nil : PGs X [] (LGs c ws gsNil) := PGs.imp pgs_nil fun v σ H Q h => by
  obtain ⟨ρ, F, ds, s, r, h⟩ := h
  unfold gsNil at h
  cases r with
  | nil => exact ⟨rfl, h σ rfl s⟩
  | cons _ _ => exact h.elim
theorem gs_cons {e : Expr} {es : List Expr} {f : GV} {g : GVs} (h1 : PG X e (LG c ws f)) (h2 : PGs X es (LGs c ws g)) (hs : (assignEach (e :: es) X.env).map (·.2) = assign e X.env :: (assignEach es X.env).map (·.2) := by rfl) : PGs X (e :: es) (LGs c ws (gsCons f g)) :=
  PGs.imp (pgs_cons h1 h2 hs) fun vs σ H Q h => by
    obtain ⟨ρ, F, ds, s, r, h⟩ := h
    unfold gsCons at h
    cases r with
    | nil => exact h.elim
    | @cons v vs d ds r t =>
      dsimp only at h
      refine ⟨v, vs, rfl, ρ, F, d, s, r, ?_⟩
      cases q : f d ρ with
      | none => rw [q] at h; exact h
      | some ρ1 =>
        rw [q] at h
        refine fun σ' e' s' => ⟨ρ1, F, ds, s', t, ?_⟩
        cases q2 : g ds ρ1 with
        | none => rw [Option.bind_some, q2] at h; exact h
        | some ρ2 => rw [Option.bind_some, q2] at h; exact fun σ2 e2 s2 => h σ2 (e2.trans e') s2
theorem g_t (cc : Cc X c) {es : List Expr} {k : Nat} {f : GVs} (n : Nat) (h : PGs X es (LGs c ws f)) (hl : ∀ ds ρ ρ', f ds ρ = some ρ' → ds.length = n) (hn : (assignEach es X.env).length = n := by rfl) (hst : (assignEach es X.env).findIdx? (·.1) = none := by rfl) : PG X (.Tuple es k pos) (LG c ws (gT f)) :=
  PG.imp (pg_tup cc.calm h hn hst) fun v σ H Q h => by
    obtain ⟨ρ, F, d, s, r, h⟩ := h
    unfold gT at h
    cases r with
    | @tup a xs ds fa ha ra =>
      dsimp only at h
      cases q : f ds ρ with
      | none => rw [q] at h; exact h.elim
      | some ρ1 =>
        rw [q] at h
        exact ⟨a, xs, rfl, .of ha, by rw [ra.length]; exact hl _ _ _ q, ρ, F, ds, s, ra, by rw [q]; exact h⟩
    | _ => exact h.elim
theorem gs_len0 : ∀ (ds : List D) (ρ ρ' : En), gsNil ds ρ = some ρ' → ds.length = 0
  | [], _, _, _ => rfl
  | _ :: _, _, _, h => nomatch h
theorem gs_lenS {f : GV} {g : GVs} {n : Nat} (h : ∀ (ds : List D) (ρ ρ' : En), g ds ρ = some ρ' → ds.length = n) : ∀ (ds : List D) (ρ ρ' : En), gsCons f g ds ρ = some ρ' → ds.length = n + 1
  | [], _, _, q => nomatch q
  | d :: ds, ρ, ρ', q => by
    unfold gsCons at q
    dsimp only at q
    cases e : f d ρ with
    | none => rw [e] at q; cases q
    | some ρ1 => rw [e] at q; rw [List.length_cons, h ds ρ1 ρ' q]
/-- (a, b) = a tuple that an expression gives -/
theorem s_unp (ws : List Nat) {tg e : Expr} {f : EV} {g : GV} (he : PE X e (LE c f)) (hg : PG X tg (LG c ws g)) (hs : swapsWithSole [tg] e pos.line X.env = pure false := by rfl) (hw : swappedStores [tg] e X.env = pure none := by rfl)
    (h1 : (assignEach [tg] X.env).map (·.2) = [assign tg X.env] := by rfl) : PS X (.Assign [tg] e pos) (LS c (sUnp f g)) :=
  PS.imp (ps_asg he hg hs hw h1) fun T σ H h => by
    obtain ⟨ρ, F, s, h⟩ := h.pl
    refine ⟨ρ, F, s, ?_⟩
    unfold sUnp at h
    generalize f ρ = r at h
    match r, h with
    | .ok (r, ρ'), h =>
      dsimp only [R.bind] at h
      intro v H' F' s' ex r'
      obtain ⟨F2, s2, k2, r2⟩ := r'.frz s'
      refine ⟨ρ', F2, r.d, s2, r2, ?_⟩
      cases q : g r.d ρ' with
      | none => rw [q] at h; exact h
      | some ρ2 => rw [q] at h; exact fun σ' _ s3 => h σ' H' F2 s3 ((ex.fk s).trans k2)
    | .exc x, h => exact h
    | .bad, h => exact h
end

/-! ### what is written in place -/
@[simp] def ownD : Sl → Option D
  | .own d => some d
  | .bor d => some d
  | _ => none
@[simp] def setD : Sl → D → Sl
  | .own _, d => .own d
  | .bor _, d => .bor d
  | x, _ => x
/-- the thing in slot i becomes d -/
def mutS (ρ : En) (i : Nat) (d : D) : En := match ρ[i]? with
  | some x => ρ.set i (setD x d)
  | none => ρ
section
variable {c : C3} {σ : St} {ρ : En} {H : Hp} {F : Addr → Prop}
theorem ownD_some {x : Sl} {d : D} (h : ownD x = some d) : x = .own d ∨ x = .bor d := by
  cases x with
  | own e => cases h; exact .inl rfl
  | bor e => cases h; exact .inr rfl
  | _ => cases h
theorem SR.at_ob (s : SR c σ ρ H F) {i : Nat} {d : D} (h : (ρ[i]?).bind ownD = some d) : ∃ a, σ[i]? = some (some (.ref a)) ∧ ¬ F a ∧ H a ≠ none ∧ Tp c.P c.w H F (.ref a) d ∧ OA σ ρ a := by
  cases q : ρ[i]? with
  | none => rw [q] at h; cases h
  | some x =>
    rw [q] at h
    rcases ownD_some h with e | e
    · subst e
      obtain ⟨a, e, n, _, y, t⟩ := s.own i d q
      exact ⟨a, e, n, y, t, i, ⟨d, .inl q⟩, e⟩
    · subst e
      obtain ⟨_, a, e, n, _, y, t⟩ := s.bor i d q
      exact ⟨a, e, n, y, t, i, ⟨d, .inr q⟩, e⟩
theorem SR.write (s : SR c σ ρ H F) {i : Nat} {d d' : D} {a : Addr} {o : HO} (h : (ρ[i]?).bind ownD = some d) (ha : σ[i]? = some (some (.ref a))) (ht : Tp c.P c.w (upd H a o) F (.ref a) d') :
    SR c σ (mutS ρ i d') (upd H a o) F ∧ EX σ ρ H F (mutS ρ i d') (upd H a o) F := by
  obtain ⟨a', ea, nf, y, _, oa⟩ := s.at_ob h
  rw [ha] at ea; cases ea
  cases q : ρ[i]? with
  | none => rw [q] at h; cases h
  | some x =>
    rw [q] at h
    have hi : i < ρ.length := (List.getElem?_eq_some_iff.mp q).1
    have em : mutS ρ i d' = ρ.set i (setD x d') := by unfold mutS; rw [q]
    rw [em]
    have ne : ∀ b, F b → b ≠ a := fun b fb e => nf (e ▸ fb)
    have up : ∀ b, F b → F b := fun _ h => h
    have re : ∀ b, F b → upd H a o b = H b := fun b fb => upd_ne (ne b fb)
    have dm : ∀ b, H b ≠ none → upd H a o b ≠ none := fun b hb => by
      by_cases e : b = a
      · subst e; rw [upd_same]; simp
      · rw [upd_ne e]; exact hb
    have oi : isOB ρ i := ⟨d, (ownD_some h).elim (fun e => .inl (e ▸ q)) fun e => .inr (e ▸ q)⟩
    have ob : ∀ j, isOB (ρ.set i (setD x d')) j → isOB ρ j := fun j ⟨e, he⟩ => by
      by_cases hij : i = j
      · subst hij; exact oi
      · rw [List.getElem?_set_ne hij] at he; exact ⟨e, he⟩
    have self : ∀ {z : Sl}, (ρ.set i (setD x d'))[i]? = some z → z = setD x d' := fun {z} hz => by rw [List.getElem?_set_self hi] at hz; exact (Option.some.inj hz).symm
    refine ⟨⟨by rw [List.length_set]; exact s.len, fun j e hj => ?_, fun j e hj => ?_, fun j e hj => ?_, fun j ns hj => ?_, fun j k b hj hk => s.dis j k b (ob j hj) (ob k hk), fun b fb => dm b (s.dom b fb), fun b u hb nb => ?_, s.grow, s.incl, fun b hb => ?_⟩,
      ⟨up, fun b u hb n => ?_, dm, fun b fb => .inl fb, ob⟩⟩
    · by_cases hij : i = j
      · subst hij
        have ez := self hj
        rcases ownD_some h with e' | e' <;> subst e' <;> cases ez
      · rw [List.getElem?_set_ne hij] at hj
        obtain ⟨v, e1, r⟩ := s.val j e hj
        exact ⟨v, e1, r.mono up re⟩
    · by_cases hij : i = j
      · subst hij
        have ez := self hj
        rcases ownD_some h with e' | e'
        · subst e'; cases ez
          obtain ⟨a2, e2, _, z, _, _⟩ := s.own i d q
          rw [ha] at e2; cases e2
          exact ⟨a, ha, nf, z, dm a y, ht⟩
        · subst e'; cases ez
      · rw [List.getElem?_set_ne hij] at hj
        obtain ⟨b, e1, n, z, y1, t⟩ := s.own j e hj
        have nb : b ≠ a := fun eb => hij (s.dis i j a oi ⟨e, .inl hj⟩ ha (eb ▸ e1))
        exact ⟨b, e1, n, z, dm b y1, t.mono up re fun b' hb' => by cases hb'; exact upd_ne nb⟩
    · by_cases hij : i = j
      · subst hij
        have ez := self hj
        rcases ownD_some h with e' | e'
        · subst e'; cases ez
        · subst e'; cases ez
          obtain ⟨i0, a2, e2, _, z, _, _⟩ := s.bor i d q
          rw [ha] at e2; cases e2
          exact ⟨i0, a, ha, nf, z, dm a y, ht⟩
      · rw [List.getElem?_set_ne hij] at hj
        obtain ⟨j0, b, e1, n, z, y1, t⟩ := s.bor j e hj
        have nb : b ≠ a := fun eb => hij (s.dis i j a oi ⟨e, .inr hj⟩ ha (eb ▸ e1))
        exact ⟨j0, b, e1, n, z, dm b y1, t.mono up re fun b' hb' => by cases hb'; exact upd_ne nb⟩
    · by_cases hij : i = j
      · subst hij
        have ez := self hj
        rcases ownD_some h with e' | e' <;> subst e' <;> cases ez
      · rw [List.getElem?_set_ne hij] at hj
        exact s.scr j ns hj
    · by_cases eb : b = a
      · subst eb
        rcases ownD_some h with e' | e'
        · subst e'
          obtain ⟨a2, e2, _, z, _⟩ := s.own i d q
          rw [ha] at e2; cases e2
          rw [z] at hb; cases hb
        · subst e'
          obtain ⟨_, a2, e2, _, z, _⟩ := s.bor i d q
          rw [ha] at e2; cases e2
          exact absurd z nb
      · rw [upd_ne eb]; exact s.keep b u hb nb
    · obtain ⟨n, z, y1⟩ := s.bof b hb
      exact ⟨n, z, dm b y1⟩
    · rw [upd_ne fun (eb : b = a) => n (eb.symm ▸ oa)]; exact hb
end

/-! ### methods that write their receiver -/
/-- the content, the arguments: the result, the new content -/
abbrev MU := D → List D → Option (Rs × D)
def rMu (c : C3) (m : MU) : V → List V → Hp → VK → Prop := fun x vs H Q => ∃ σ ρ F i d ds, SR c σ ρ H F ∧ σ[i]? = some (some x) ∧ (ρ[i]?).bind ownD = some d ∧ RpA c.P c.w H F vs ds ∧ match m d ds with
  | some (r, d') => ∀ v H' F', SR c σ (mutS ρ i d') H' F' → EX σ ρ H F (mutS ρ i d') H' F' → RR c σ (mutS ρ i d') H H' F' v r → Q v H'
  | none => False
/-- the type of data -/
def tyD : D → String
  | .list _ => "list"
  | .dict _ => "dict"
  | .str _ => "str"
  | _ => ""
@[simp] def eMu (i : Nat) (T : String) (m : MU) (as : AV) : EV := fun ρ => match (ρ[i]?).bind ownD with
  | some d0 => if tyD d0 = T then (as ρ).bind fun x => match (x.2[i]?).bind ownD with
    | some d => match m d x.1 with
      | some (r, d') => .ok (r, mutS x.2 i d')
      | none => .bad
    | none => .bad
    else .bad
  | none => .bad
theorem Tp.isT {X : Cx} {c : C3} (cc : Cc X c) {pins : List (Addr × Obj)} {σ : St} {H : Hp} {s : Shared} {F : Addr → Prop} {v : V} {u : Value} {d : D} (I : Inv X pins σ H s) (t : Tp c.P c.w H F v d) (r : RelV v u) (hd : tyD d ≠ "") :
    s.TypeIs u (tyD d) ∧ ∀ a, u = .ref a → ∃ ob, s.heap.get? a = some ob ∧ ob.dict = none := by
  have lst : ∀ {a : Addr} {xs : List V}, H a = some (.lst xs) → RelV (.ref a) u → s.TypeIs u "list" ∧ ∀ a, u = .ref a → ∃ ob, s.heap.get? a = some ob ∧ ob.dict = none := fun {a xs} h r => by
    cases r
    obtain ⟨_, its, n, _, e⟩ := I.hok a _ h
    exact ⟨⟨_, e, rfl⟩, fun b eb => by cases eb; exact ⟨_, e, rfl⟩⟩
  have raw : ∀ {a : Addr} {o : Obj}, H a = some (rawd a o) → o.ExactDict → RelV (.ref a) u → s.TypeIs u "dict" ∧ ∀ a, u = .ref a → ∃ ob, s.heap.get? a = some ob ∧ ob.dict = none := fun {a o} h ex r => by
    cases r
    obtain ⟨e, _⟩ := I.hok a _ h
    have e : s.heap.get? a = some o := e
    exact ⟨⟨_, e, ex.1⟩, fun b eb => by cases eb; exact ⟨_, e, ex.2.1⟩⟩
  have dk : ∀ {o : Obj} {vs : List (Key × Value)}, o.IsDictOf (mixKind c.P c.w) vs → o.ExactDict := fun {o vs} h => by
    obtain ⟨es, ep, h1, _⟩ := h; exact h1
  cases t with
  | lst h _ => exact lst h r
  | dicK _ h o _ _ => exact raw h (dk o) r
  | dicT _ h o _ => exact raw h o.1 r
  | rp q =>
    cases q with
    | lst _ h _ => exact lst h r
    | dicK _ _ h o _ _ => exact raw h (dk o) r
    | dicT _ _ h o _ => exact raw h o.1 r
    | str x =>
      obtain ⟨t, rfl⟩ := r
      exact ⟨typeIs_str s x t, fun _ e => nomatch e⟩
    | _ => exact absurd rfl hd
end L3

end
section
/-! L3, part G: methods, item stores, op=, loops. -/
namespace L3
open PySem PySem.Spec PyProof.Rows L2

/-! ### methods that write -/
theorem mu_run {c : C3} {σ : St} {H : Hp} {Q : VK} {i : Nat} {T : String} {m : MU} {g : AV} (h : LE c (eMu i T m g) σ H Q) :
    ∃ a ρ F d, σ[i]? = some (some (.ref a)) ∧ SR c σ ρ H F ∧ Tp c.P c.w H F (.ref a) d ∧ tyD d = T ∧ LA c g σ H fun vs H1 => rMu c m (.ref a) vs H1 Q := by
  obtain ⟨ρ, F, s, h⟩ := h
  unfold eMu at h
  cases q : (ρ[i]?).bind ownD with
  | none => rw [q] at h; exact h.elim
  | some d =>
    rw [q] at h
    dsimp only at h
    obtain ⟨a, ea, _, _, t, _⟩ := s.at_ob q
    by_cases hT : tyD d = T
    rotate_left
    · rw [if_neg hT] at h; exact h.elim
    rw [if_pos hT] at h
    refine ⟨a, ρ, F, d, ea, s, t, hT, ρ, F, s, ?_⟩
    cases qg : g ρ with
    | bad => rw [qg] at h; exact h
    | exc z => rw [qg] at h; exact h
    | ok z =>
      obtain ⟨ds, ρ1⟩ := z
      rw [qg] at h
      dsimp only [R.bind] at h
      intro vs H1 F1 s1 e1 r1
      cases q1 : (ρ1[i]?).bind ownD with
      | none => rw [q1] at h; exact h.elim
      | some d1 =>
        rw [q1] at h
        dsimp only at h
        refine ⟨σ, ρ1, F1, i, d1, ds, s1, ea, q1, r1, ?_⟩
        cases qm : m d1 ds with
        | none => rw [qm] at h; exact h.elim
        | some z =>
          obtain ⟨r, d2⟩ := z
          rw [qm] at h
          dsimp only at h
          intro v H' F' s' e' rr
          refine h v H' F' s' (e1.trans e') ?_
          exact RR.back e1 rr
section
variable {X : Cx} {c : C3} {x : Str} {es : List Expr} {e : Expr} {name : Str} {px apos cpos : Pos} {T id : String}
theorem r_mu (cc : Cc X c) (i : Nat) {m : MU} {g : AV} (pa : PlainAttrs T) (slot : Slot T name id) (hty : typeOf (.builtin id) = pure (.type "method_descriptor")) (hm : MtR X id (rMu c m)) (ha : PA X (e :: es) (LA c g)) (hT0 : T ≠ "" := by decide)
    (hN : X.N[i]? = some x := by rfl) (hv : Vis X.env.scope x := by first | exact Or.inl rfl | exact Or.inr (Or.inl rfl) | exact Or.inr (Or.inr rfl)) (hd : (x == ("__debug__" : Str)) = false := by decide) (hcd : (x == ("__classdict__" : Str)) = false := by decide)
    (hbase : attributeBase (.Name x px) name X.env (eval (.Name x px) X.env) = eval (.Name x px) X.env := by rfl)
    (hfew : ((backTo cpos (starEach (e :: es) X.env)).all (fun z => !z.1) && (backToKw cpos (keywordEach [] X.env)).all (fun z => z.1.isSome)
      && decide ((e :: es).length + ([] : List Keyword).length + (if ([] : List Keyword).isEmpty then 0 else 1) < 30)) = true := by rfl)
    (hline : (apos.endLine == cpos.line) = true := by rfl) (hs : starEach (e :: es) X.env = (false, eval e X.env) :: starEach es X.env := by rfl) (hplain : (backTo cpos (starEach es X.env)).any (·.1) = false := by rfl) :
    PE X (.Call (.Attribute (.Name x px) name apos) (e :: es) [] cpos) (LE c (eMu i T m g)) := ⟨fun pins s σ H Q I h => by
  obtain ⟨a, ρ, F, d, ea, sr, t, hT, hq⟩ := mu_run h
  refine wpAny_Call_method_late hbase hfew hline rfl (thn ((pe_var hN hv hd hcd).run pins s σ H (fun y H1 => y = .ref a ∧ H1 = H) I ⟨_, ea, rfl, rfl⟩) fun v s1 ⟨y, H1, I1, r1, e1, e2⟩ => ?_)
  subst e1; subst e2
  subst hT
  obtain ⟨h1, h2⟩ := t.isT cc I1 r1 hT0
  refine ⟨_, id, pa, slot, hty, h1, h2, ?_⟩
  have hA := ha.run cpos pins s1 σ H1 _ I1 hq
  rw [hs] at hA ⊢
  refine Calls.callWith_builtin ?_ (Calls.evalArgs_plain ?_)
  · show (false || (backTo cpos (starEach es X.env)).any (·.1)) = false
    rw [hplain]; rfl
  · exact thn hA fun us s2 ⟨vs, H2, I2, r2, q2⟩ => hm pins s2 σ H2 _ vs v us Q I2 r1 r2 q2⟩
theorem r_mu0 (cc : Cc X c) (i : Nat) {m : MU} (pa : PlainAttrs T) (slot : Slot T name id) (hty : typeOf (.builtin id) = pure (.type "method_descriptor")) (hm : MtR X id (rMu c m)) (hT0 : T ≠ "" := by decide)
    (hN : X.N[i]? = some x := by rfl) (hv : Vis X.env.scope x := by first | exact Or.inl rfl | exact Or.inr (Or.inl rfl) | exact Or.inr (Or.inr rfl)) (hd : (x == ("__debug__" : Str)) = false := by decide) (hcd : (x == ("__classdict__" : Str)) = false := by decide)
    (hbase : attributeBase (.Name x px) name X.env (eval (.Name x px) X.env) = eval (.Name x px) X.env := by rfl) (hline : (apos.endLine == cpos.line) = true := by rfl) :
    PE X (.Call (.Attribute (.Name x px) name apos) [] [] cpos) (LE c (eMu i T m aNil)) := ⟨fun pins s σ H Q I h => by
  obtain ⟨a, ρ, F, d, ea, sr, t, hT, hq⟩ := mu_run h
  refine wpAny_Call_method0_late hbase hline (thn ((pe_var hN hv hd hcd).run pins s σ H (fun y H1 => y = .ref a ∧ H1 = H) I ⟨_, ea, rfl, rfl⟩) fun v s1 ⟨y, H1, I1, r1, e1, e2⟩ => ?_)
  subst e1; subst e2
  subst hT
  obtain ⟨h1, h2⟩ := t.isT cc I1 r1 hT0
  refine ⟨_, id, pa, slot, hty, h1, h2, Calls.callWith_builtin rfl (PySem.evalArgs_none ?_)⟩
  obtain ⟨ρ2, F2, s2, hq⟩ := hq
  exact hm pins s1 σ H1 _ [] v [] Q I1 r1 .nil (hq [] H1 F2 s2 EX.refl .nil)⟩
end

/-! #### of lists -/
theorem Tp.own_list {P : Program} {w : World} {H : Hp} {F : Addr → Prop} {a : Addr} {ds : List D} (h : Tp P w H F (.ref a) (.list ds)) : ∃ xs, H a = some (.lst xs) ∧ RpA P w H F xs ds := by
  obtain ⟨b, xs, e, h1, h2⟩ := h.list
  cases e; exact ⟨xs, h1, h2⟩
theorem RpA.updO {P : Program} {w : World} {H : Hp} {F : Addr → Prop} {a : Addr} {o : HO} {xs : List V} {ds : List D} (n : ¬ F a) (h : RpA P w H F xs ds) : RpA P w (upd H a o) F xs ds :=
  h.mono (fun _ h => h) fun b fb => upd_ne fun (e : b = a) => n (e ▸ fb)
def mAppend : MU := fun d ds => match d, ds with
  | .list xs, [y] => if xs.length < sizeLine then some (.val .none, .list (xs ++ [y])) else none
  | _, _ => none
def mPop : MU := fun d ds => match d, ds with
  | .list xs, [] => (xs[xs.length - 1]?).map fun y => (.val y, .list xs.dropLast)
  | _, _ => none
def mPopAt : MU := fun d ds => match d, ds with
  | .list xs, [.int i] => if bitsZ 62 i = true then (ixN xs.length i).bind fun k => (xs[k]?).map fun y => (.val y, .list (xs.eraseIdx k)) else none
  | _, _ => none
section
variable {X : Cx} {c : C3}
theorem mt_appendG : MtR X "list.append" (rMu c mAppend) := fun pins s σ H x vs v us Q I rx rv h => by
  obtain ⟨σ', ρ, F, i, d, ds, sr, ex, ho, ra, h⟩ := h
  unfold mAppend at h
  split at h
  rotate_left
  · exact h.elim
  rename_i z q
  split at q
  rotate_left
  · cases q
  rename_i xs y
  split at q
  rotate_left
  · cases q
  rename_i hz
  cases q
  obtain ⟨a, ea, nf, y0, t, _⟩ := sr.at_ob ho
  rw [ex] at ea; cases ea
  obtain ⟨ys, hy, rl⟩ := t.own_list
  cases ra with
  | cons r1 r2 =>
    cases r2
    refine mt_append pins s σ H _ _ v us Q I rx rv ⟨a, ys, _, rfl, rfl, hy, by rw [rl.length]; exact hz, ?_⟩
    obtain ⟨s2, e2⟩ := sr.write (o := .lst (ys ++ [_])) ho ex (.lst upd_same ((rl.append (.cons r1 .nil)).updO nf))
    exact h _ _ F s2 e2 .non
theorem mt_popG : MtR X "list.pop" (rMu c mPop) := fun pins s σ H x vs v us Q I rx rv h => by
  obtain ⟨σ', ρ, F, i, d, ds, sr, ex, ho, ra, h⟩ := h
  unfold mPop at h
  split at h
  rotate_left
  · exact h.elim
  rename_i z q
  split at q
  rotate_left
  · cases q
  rename_i xs
  cases q1 : xs[xs.length - 1]? with
  | none => rw [q1] at q; cases q
  | some y =>
    rw [q1] at q
    cases q
    obtain ⟨a, ea, nf, y0, t, _⟩ := sr.at_ob ho
    rw [ex] at ea; cases ea
    obtain ⟨ys, hy, rl⟩ := t.own_list
    cases ra
    rw [← rl.length] at q1
    obtain ⟨u, hu, ru⟩ := rl.at q1
    refine mt_pop pins s σ H _ _ v us Q I rx rv ⟨a, ys, u, rfl, rfl, hy, hu, ?_⟩
    obtain ⟨s2, e2⟩ := sr.write (o := .lst ys.dropLast) ho ex (.lst upd_same (rl.dropLast.updO nf))
    exact h _ _ F s2 e2 (e2.rp sr ru)
theorem mt_popAtG : MtR X "list.pop" (rMu c mPopAt) := fun pins s σ H x vs v us Q I rx rv h => by
  obtain ⟨σ', ρ, F, i, d, ds, sr, ex, ho, ra, h⟩ := h
  unfold mPopAt at h
  split at h
  rotate_left
  · exact h.elim
  rename_i z q
  split at q
  rotate_left
  · cases q
  rename_i xs j
  split at q
  rotate_left
  · cases q
  rename_i hz
  have hb := bitsZ.lt (by decide) hz
  cases q0 : ixN xs.length j with
  | none => rw [q0] at q; cases q
  | some k =>
    rw [q0] at q
    dsimp only [Option.bind] at q
    cases q1 : xs[k]? with
    | none => rw [q1] at q; cases q
    | some y =>
      rw [q1] at q
      cases q
      obtain ⟨a, ea, nf, y0, t, _⟩ := sr.at_ob ho
      rw [ex] at ea; cases ea
      obtain ⟨ys, hy, rl⟩ := t.own_list
      cases ra with
      | cons r1 r2 =>
        cases r2
        cases r1
        obtain ⟨u, hu, ru⟩ := rl.at q1
        rw [← rl.length] at q0
        refine mt_popAt pins s σ H _ _ v us Q I rx rv ⟨a, ys, j, k, u, rfl, rfl, hy, by omega, by omega, (ixN_seq q0).1, hu, ?_⟩
        obtain ⟨s2, e2⟩ := sr.write (o := .lst (ys.eraseIdx k)) ho ex (.lst upd_same ((rl.eraseIdx k).updO nf))
        exact h _ _ F s2 e2 (e2.rp sr ru)
end

/-! ### item stores -/
abbrev SD := D → D → D → Option D
def rSt (c : C3) (m : SD) : TSet := fun o k v H Q => ∃ σ ρ F i d dk dv, SR c σ ρ H F ∧ σ[i]? = some (some o) ∧ (ρ[i]?).bind ownD = some d ∧ Rp c.P c.w H F k dk ∧ Rp c.P c.w H F v dv ∧ match m d dk dv with
  | some d' => ∀ H' F', SR c σ (mutS ρ i d') H' F' → EX σ ρ H F (mutS ρ i d') H' F' → Q H'
  | none => False
@[simp] def sSetI (i : Nat) (m : SD) (f g : EV) : SV := fun ρ => (f ρ).bind fun x => match (x.2[i]?).bind ownD with
  | some _ => (g x.2).bind fun y => match (y.2[i]?).bind ownD with
    | some d => match m d y.1.d x.1.d with
      | some d' => .ok (.nx, mutS y.2 i d')
      | none => .bad
    | none => .bad
  | none => .bad
def setLD : SD := fun d k v => match d, k with
  | .list xs, .int k => (ixN xs.length k).map fun j => .list (xs.set j v)
  | _, _ => none
section
variable {X : Cx} {c : C3} {e ix : Expr} {x : Str} {pos px ps : Pos}
theorem set_listG : PSet X (rSt c setLD) := fun pins s σ H o i v ov iv u Q I ro ri rv h => by
  obtain ⟨σ', ρ, F, n, d, dk, dv, sr, ex, ho, rk, rdv, h⟩ := h
  unfold setLD at h
  split at h
  rotate_left
  · exact h.elim
  rename_i z q
  split at q
  rotate_left
  · cases q
  rename_i xs k
  cases q0 : ixN xs.length k with
  | none => rw [q0] at q; cases q
  | some j =>
    rw [q0] at q
    cases q
    obtain ⟨a, ea, nf, y0, t, _⟩ := sr.at_ob ho
    rw [ex] at ea; cases ea
    obtain ⟨ys, hy, rl⟩ := t.own_list
    cases rk
    rw [← rl.length] at q0
    refine set_list pins s σ H _ _ v ov iv u Q I ro ri rv ⟨a, ys, k, j, rfl, rfl, hy, q0, ?_⟩
    obtain ⟨s2, e2⟩ := sr.write (o := .lst (ys.set j v)) ho ex (.lst upd_same ((RpA.set rdv j rl).updO nf))
    exact h _ F s2 e2
theorem s_setI (cc : Cc X c) (i : Nat) {m : SD} {f g : EV} (hst : PSet X (rSt c m)) (he : PE X e (LE c f)) (hi : PE X ix (LE c g))
    (hN : X.N[i]? = some x := by rfl) (hv : Vis X.env.scope x := by first | exact Or.inl rfl | exact Or.inr (Or.inl rfl) | exact Or.inr (Or.inr rfl)) (hd : (x == ("__debug__" : Str)) = false := by decide) (hcd : (x == ("__classdict__" : Str)) = false := by decide)
    (hta : ∀ v, assign (.Subscript (.Name x px) ix ps) X.env v = (do
      let ov ← holding [v] (eval (.Name x px) X.env)
      let iv ← holding [v, ov] (eval ix X.env)
      standAt ps
      holding [v, ov, iv] (setItem ov iv v)
      release [v, ov, iv] []) := by intro _; rfl)
    (hs : swapsWithSole [.Subscript (.Name x px) ix ps] e pos.line X.env = pure false := by rfl) (hw : swappedStores [.Subscript (.Name x px) ix ps] e X.env = pure none := by rfl)
    (h1 : (assignEach [.Subscript (.Name x px) ix ps] X.env).map (·.2) = [assign (.Subscript (.Name x px) ix ps) X.env] := by rfl) : PS X (.Assign [.Subscript (.Name x px) ix ps] e pos) (LS c (sSetI i m f g)) :=
  PS.imp (ps_asg he (pg_sub (pe_var hN hv hd hcd) hi hst hta) hs hw h1) fun T σ H h => by
    obtain ⟨ρ, F, s, h⟩ := h.pl
    refine ⟨ρ, F, s, ?_⟩
    unfold sSetI at h
    cases qf : f ρ with
    | bad => rw [qf] at h; exact h
    | exc z => rw [qf] at h; exact h
    | ok z =>
      obtain ⟨r1, ρ1⟩ := z
      rw [qf] at h
      dsimp only [R.bind] at h
      intro v H1 F1 s1 e1 t1
      obtain ⟨F2, s2, e2, t2⟩ := s1.frz e1 t1
      cases q0 : (ρ1[i]?).bind ownD with
      | none => rw [q0] at h; exact h.elim
      | some d0 =>
        rw [q0] at h
        dsimp only at h
        obtain ⟨a, ea, _⟩ := s2.at_ob q0
        refine ⟨_, ea, ρ1, F2, s2, ?_⟩
        cases qg : g ρ1 with
        | bad => rw [qg] at h; exact h
        | exc z => rw [qg] at h; exact h
        | ok z =>
          obtain ⟨r3, ρ3⟩ := z
          rw [qg] at h
          dsimp only at h
          intro k H3 F3 s3 e3 t3
          obtain ⟨F4, s4, e4, t4⟩ := s3.frz e3 t3
          have k4 := (e2.trans e4).fk s
          cases q4 : (ρ3[i]?).bind ownD with
          | none => rw [q4] at h; exact h.elim
          | some d4 =>
            rw [q4] at h
            dsimp only at h
            refine ⟨σ, ρ3, F4, i, d4, r3.d, r1.d, s4, ea, q4, t4, e4.rp s2 t2, ?_⟩
            cases qm : m d4 r3.d r1.d with
            | none => rw [qm] at h; exact h
            | some d5 =>
              rw [qm] at h
              exact fun H5 F5 s5 e5 => h σ H5 F5 s5 (k4.trans (e5.fk s4))
end

/-! ### op= -/
/-- ints: a op= b -/
def sAugI (i : Nat) (k : Int → Int → Int) (f : EV) : SV := fun ρ => match ρ[i]? with
  | some (.val (.int a)) => (f ρ).bind fun x => match x.1.d with
    | .int b => .ok (.nx, x.2.set i (.val (.int (k a b))))
    | _ => .bad
  | _ => .bad
/-- a list that is ours grows -/
def sAugL (i : Nat) (f : EV) : SV := fun ρ => match (ρ[i]?).bind ownD with
  | some _ => (f ρ).bind fun x => match (x.2[i]?).bind ownD, x.1.d with
    | some (.list xs), .list ys => if xs.length + ys.length ≤ sizeLine then .ok (.nx, mutS x.2 i (.list (xs ++ ys))) else .bad
    | _, _ => .bad
  | _ => .bad
section
variable {X : Cx} {c : C3} {e : Expr} {x : Str} {pos px : Pos}
theorem s_augI (cc : Cc X c) (i : Nat) {op : Operator} {k : Int → Int → Int} {f : EV} (ho : PIp X op (ipI k)) (he : PE X e (LE c f)) (hi : X.N[i]? = some x := by rfl) (hx : Loc X.env.scope x := by first | exact Or.inl rfl | exact Or.inr rfl) (hf : X.fn x = true ∨ X.env.scope.names.lookup x = some .local := by first | exact .inl rfl | exact .inr rfl) :
    PS X (.AugAssign (.Name x px) op e pos) (LS c (sAugI i k f)) :=
  PS.imp (ps_aug cc.nd hi hx he ho hf) fun T σ H h => by
    obtain ⟨ρ, F, s, h⟩ := h.pl
    unfold sAugI at h
    split at h
    · rename_i a q
      obtain ⟨v, ev, rv⟩ := s.val i _ q
      cases rv
      refine ⟨_, ev, ρ, F, s, ?_⟩
      cases qf : f ρ with
      | bad => rw [qf] at h; exact h
      | exc z => rw [qf] at h; exact h
      | ok z =>
        obtain ⟨r, ρ1⟩ := z
        rw [qf] at h
        dsimp only [R.bind] at h
        intro u H1 F1 s1 e1 t1
        obtain ⟨F2, s2, e2, t2⟩ := s1.frz e1 t1
        split at h
        · rename_i b qb
          rw [qb] at t2
          cases t2
          exact ⟨a, b, rfl, rfl, h _ H1 F2 (s2.put (r := .val _) i (.int _)) (e2.fk s)⟩
        · exact h.elim
    · exact h.elim
theorem s_augL (cc : Cc X c) (i : Nat) {f : EV} (he : PE X e (LE c f)) (hi : X.N[i]? = some x := by rfl) (hx : Loc X.env.scope x := by first | exact Or.inl rfl | exact Or.inr rfl) (hf : X.fn x = true ∨ X.env.scope.names.lookup x = some .local := by first | exact .inl rfl | exact .inr rfl) :
    PS X (.AugAssign (.Name x px) .Add e pos) (LS c (sAugL i f)) :=
  PS.imp (ps_aug cc.nd hi hx he (iop_ext : PIp X .Add rExt2) hf) fun T σ H h => by
    obtain ⟨ρ, F, s, h⟩ := h.pl
    unfold sAugL at h
    split at h
    · rename_i d0 q
      obtain ⟨a, ea, _⟩ := s.at_ob q
      refine ⟨_, ea, ρ, F, s, ?_⟩
      cases qf : f ρ with
      | bad => rw [qf] at h; exact h
      | exc z => rw [qf] at h; exact h
      | ok z =>
        obtain ⟨r, ρ1⟩ := z
        rw [qf] at h
        dsimp only [R.bind] at h
        intro u H1 F1 s1 e1 t1
        obtain ⟨F2, s2, e2, t2⟩ := s1.frz e1 t1
        split at h
        · rename_i xs ys q1 q2
          split at h
          · rename_i hz
            obtain ⟨a', ea', nf, y0, t, _⟩ := s2.at_ob q1
            rw [ea] at ea'; cases ea'
            obtain ⟨vs, hy, rl⟩ := t.own_list
            rw [q2] at t2
            cases t2 with
            | lst fb hb rb =>
              refine ⟨_, _, vs, _, rfl, rfl, hy, hb, by rw [rl.length, rb.length]; exact hz, ?_⟩
              obtain ⟨s3, e3⟩ := s2.write (o := .lst (vs ++ _)) q1 ea (.lst upd_same ((rl.append rb).updO nf))
              have es : σ.set i (some (.ref a)) = σ := by
                obtain ⟨hl, e⟩ := List.getElem?_eq_some_iff.mp ea
                rw [← e]; exact List.set_getElem_self hl
              rw [es]
              exact h σ _ F2 s3 ((e2.fk s).trans (e3.fk s2))
          · exact h.elim
        · exact h.elim
    · exact h.elim
end
end L3

end
section
/-! L3, part H: what is walked; for, while. -/
namespace L3
open PySem PySem.Spec PyProof.Rows L2

abbrev IV := En → R (List D × En)
/-- the turns yield ds -/
structure Yl (c : C3) (J : It) (ds : List D) (H1 : Hp) (F1 : Addr → Prop) : Prop where
  go : ∀ (i : Nat) (H : Hp) (F : Addr → Prop), FK H1 F1 H F → ∀ d, ds[i]? = some d → J.go i H ∧ ∀ x H', J.yld i H x H' →
    (H' = H ∧ Rp c.P c.w H F x d) ∨ ∃ p xs es, H p = none ∧ H' = upd H p (.tup xs) ∧ x = .ref p ∧ d = .tuple es ∧ RpA c.P c.w H F xs es
  stop : ∀ (H : Hp) (F : Addr → Prop), FK H1 F1 H F → J.stop ds.length H
def LI (c : C3) (f : IV) : TI := fun σ H R => ∃ ρ F, SR c σ ρ H F ∧ match f ρ with
  | .ok (ds, ρ') => ∀ J H' F', SR c σ ρ' H' F' → EX σ ρ H F ρ' H' F' → Yl c J ds H' F' → R J H'
  | .exc x => c.W x
  | .bad => False
/-- an item has come -/
theorem Yl.item {c : C3} {σ : St} {ρ : En} {J : It} {ds : List D} {H1 H H' : Hp} {F1 F : Addr → Prop} {i : Nat} {d : D} {x : V} (y : Yl c J ds H1 F1) (k : FK H1 F1 H F) (s : SR c σ ρ H F) (hd : ds[i]? = some d) (h : J.yld i H x H') :
    ∃ F', SR c σ ρ H' F' ∧ EX σ ρ H F ρ H' F' ∧ Rp c.P c.w H' F' x d := by
  rcases (y.go i H F k d hd).2 x H' h with ⟨e, r⟩ | ⟨p, xs, es, hp, e, ex, ed, ra⟩
  · subst e; exact ⟨F, s, EX.refl, r⟩
  · subst e; subst ex; subst ed
    obtain ⟨s', e'⟩ := s.new (o := .tup xs) hp true
    exact ⟨_, s', e', .tup (.inr ⟨rfl, rfl⟩) upd_same (e'.rpA s ra)⟩

/-! ### sources -/
@[simp] def seqD : D → Option (List D)
  | .list ds => some ds
  | .tuple ds => some ds
  | _ => none
@[simp] def iSeq (f : EV) : IV := fun ρ => (f ρ).bind fun x => match seqD x.1.d with
  | some ds => .ok (ds, x.2)
  | none => .bad
theorem seqD_some {d : D} {ds : List D} (h : seqD d = some ds) : d = .list ds ∨ d = .tuple ds := by
  cases d with
  | list xs => cases h; exact .inl rfl
  | tuple xs => cases h; exact .inr rfl
  | _ => cases h
/-- where a frozen thing's items stand -/
theorem Rp.seq {P : Program} {w : World} {H : Hp} {F : Addr → Prop} {v : V} {d : D} {ds : List D} (r : Rp P w H F v d) (h : seqD d = some ds) :
    ∃ a xs, v = .ref a ∧ F a ∧ (H a = some (.lst xs) ∨ H a = some (.tup xs)) ∧ RpA P w H F xs ds := by
  rcases seqD_some h with e | e
  · subst e
    cases r with
    | lst f h t => exact ⟨_, _, rfl, f, .inl h, t⟩
  · subst e
    cases r with
    | tup f h t => exact ⟨_, _, rfl, f, .inr h, t⟩
theorem SqL.uniq {K : PySem.W.Frag} {H : Hp} {a : Addr} {xs ys : List V} (h : H a = some (.lst xs)) (q : ∀ o its n, K.lookup a = some o → o.cls = .type "list" → o.data = .seq its n → False) (h' : SqL K H a ys) : ys = xs := by
  rcases h' with (e | ⟨o, e⟩) | ⟨o, its, n, hk, hc, _, hd, _⟩
  · rw [h] at e; cases e; rfl
  · rw [h] at e; cases e
  · exact (q o its n hk hc hd).elim
section
variable {X : Cx} {c : C3} {tg l : Expr}
/-- a list's turns -/
theorem yl_list {K : PySem.W.Frag} {H1 : Hp} {F1 : Addr → Prop} {a : Addr} {xs : List V} {ds : List D} (hF : F1 a) (h : H1 a = some (.lst xs)) (r : RpA c.P c.w H1 F1 xs ds) : Yl c (Itl K a) ds H1 F1 where
  go := fun i H F k d hd => by
    have h' : H a = some (.lst xs) := by rw [k.sm a hF]; exact h
    obtain ⟨v, ev, rv⟩ := r.at hd
    refine ⟨⟨xs, v, .of h', ev⟩, fun x H' y => .inl ⟨y.1, ?_⟩⟩
    have e := y.2 xs (.of h')
    rw [ev] at e; cases e
    exact rv.mono k.fr k.sm
  stop := fun H F k => ⟨xs, .of (by rw [k.sm a hF]; exact h), by rw [r.length]; exact Nat.le_refl _⟩
theorem yl_tup {K : PySem.W.Frag} {H1 : Hp} {F1 : Addr → Prop} {a : Addr} {xs : List V} {ds : List D} (hF : F1 a) (h : H1 a = some (.tup xs)) (r : RpA c.P c.w H1 F1 xs ds) : Yl c (Itt K a) ds H1 F1 where
  go := fun i H F k d hd => by
    have h' : H a = some (.tup xs) := by rw [k.sm a hF]; exact h
    obtain ⟨v, ev, rv⟩ := r.at hd
    refine ⟨⟨xs, v, .of h', ev⟩, fun x H' y => .inl ⟨y.1, ?_⟩⟩
    have e := y.2 xs (.of h')
    rw [ev] at e; cases e
    exact rv.mono k.fr k.sm
  stop := fun H F k => ⟨xs, .of (by rw [k.sm a hF]; exact h), by rw [r.length]; exact Nat.le_refl _⟩
theorem i_seq {f : EV} (hl : PE X l (LE c f)) : PI X tg l (LI c (iSeq f)) := ⟨fun pins s σ H Wq I h => by
  obtain ⟨ρ, F, sr, h⟩ := h
  refine thn (hl.run pins s σ H (fun v H1 => ∃ (a : Addr) (xs : List V), v = .ref a ∧ ((H1 a = some (.lst xs) ∧ Wq (Itl X.K a) H1) ∨ (H1 a = some (.tup xs) ∧ Wq (Itt X.K a) H1))) I ⟨ρ, F, sr, ?_⟩) fun v s1 ⟨x, H1, I1, r1, a, xs, e, q⟩ => ?_
  · unfold iSeq at h
    cases qf : f ρ with
    | bad => rw [qf] at h; exact h
    | exc z => rw [qf] at h; exact h
    | ok z =>
      obtain ⟨r, ρ1⟩ := z
      rw [qf] at h
      dsimp only [R.bind] at h
      intro v H1 F1 s1 e1 t1
      obtain ⟨F2, s2, e2, t2⟩ := s1.frz e1 t1
      cases qs : seqD r.d with
      | none => rw [qs] at h; exact h.elim
      | some ds =>
        rw [qs] at h
        obtain ⟨a, xs, ev, fa, hh, ra⟩ := t2.seq qs
        rcases hh with hh | hh
        · exact ⟨a, xs, ev, .inl ⟨hh, h _ H1 F2 s2 e2 (yl_list fa hh ra)⟩⟩
        · exact ⟨a, xs, ev, .inr ⟨hh, h _ H1 F2 s2 e2 (yl_tup fa hh ra)⟩⟩
  · subst e
    cases r1
    have fp : ∀ b ∈ [s1.heap.objs.size], FpOk X pins H1 b := fun b hb => by
      obtain rfl := List.mem_singleton.mp hb
      exact I1.fpOk (Nat.le_refl _) (I1.hok.fresh (Nat.le_refl _))
    rcases q with ⟨hh, q⟩ | ⟨hh, q⟩
    · obtain ⟨its, rv, p, _⟩ := I1.list (.of hh)
      exact wpAny_pyIter_list p.isList ⟨_, [_], _, _, H1, rfl, I1.kept (t' := s1.toks) fun b o e => Heap.get?_push_of_some _ e, turn_list a _, ⟨_, Heap.get?_push_size _ rfl, rfl, rfl⟩, fp, q⟩
    · obtain ⟨its, rv, p, _⟩ := I1.tuple (.of hh)
      exact wpAny_pyIter_tuple (show s1.heap.IsTuple a its.toArray from p) ⟨_, [_], _, _, H1, rfl, I1.kept (t' := s1.toks) fun b o e => Heap.get?_push_of_some _ e, turn_tuple a _, ⟨_, Heap.get?_push_size _ rfl, rfl, rfl⟩, fp, q⟩⟩
end

/-! #### ranges -/
/-- lo, lo + st, .. (n of them) -/
def rangeL (lo st : Int) (n : Nat) : List D := (List.range n).map fun (i : Nat) => PyData.int (lo + (i : Int) * st)
theorem rangeL_get (lo st : Int) (n i : Nat) : (rangeL lo st n)[i]? = if i < n then some (.int (lo + (i : Int) * st)) else none := by
  unfold rangeL
  rw [List.getElem?_map]
  by_cases h : i < n
  · rw [List.getElem?_range h, if_pos h]; rfl
  · rw [List.getElem?_eq_none (by rw [List.length_range]; omega), if_neg h]; rfl
theorem rangeL_length (lo st : Int) (n : Nat) : (rangeL lo st n).length = n := by unfold rangeL; simp
def fit62 (i : Int) : Bool := bitsZ 61 i
theorem fit62.of {i : Int} (h : fit62 i = true) : -(2 ^ 62) ≤ i ∧ i < 2 ^ 62 := by
  have := bitsZ.lt (by decide) h
  omega
theorem yl_range {c : C3} {lo : Int} {n : Nat} {H1 : Hp} {F1 : Addr → Prop} : Yl c (Itr lo n) (rangeL lo 1 n) H1 F1 where
  go := fun i H F k d hd => by
    rw [rangeL_get] at hd
    split at hd
    · rename_i hi
      cases hd
      refine ⟨hi, fun x H' y => .inl ⟨y.1, ?_⟩⟩
      rw [y.2, Int.mul_one]
      exact .int _
    · cases hd
  stop := fun H F k => by rw [rangeL_length]; exact Nat.le_refl _
theorem yl_rangeC {c : C3} {lo st : Int} {n : Nat} {H1 : Hp} {F1 : Addr → Prop} : Yl c (Itc lo st n) (rangeL lo st n) H1 F1 where
  go := fun i H F k d hd => by
    rw [rangeL_get] at hd
    split at hd
    · rename_i hi
      cases hd
      refine ⟨hi, fun x H' y => .inl ⟨y.1, ?_⟩⟩
      rw [y.2]
      exact .int _
    · cases hd
  stop := fun H F k => by rw [rangeL_length]; exact Nat.le_refl _
/-- turns by what an argument list gives -/
@[simp] def iK (k : List D → R (List D)) (g : AV) : IV := fun ρ => (g ρ).bind fun x => (k x.1).bind fun r => .ok (r, x.2)
def rng1 : List D → R (List D)
  | [.int j] => if fit62 j = true then .ok (rangeL 0 1 j.toNat) else .bad
  | _ => .bad
def rng2 : List D → R (List D)
  | [.int i, .int j] => if (fit62 i && fit62 j) = true then .ok (rangeL i 1 (j - i).toNat) else .bad
  | _ => .bad
def rng3 : List D → R (List D)
  | [.int i, .int j, .int k] => if (decide (k ≠ 0 ∧ k.natAbs < 1073741824 ∧ 0 ≤ Builtin.Range.rangeSize i j k) && Builtin.Range.small i j k) = true then .ok (rangeL i k (Builtin.Range.rangeSize i j k).toNat) else .bad
  | _ => .bad
theorem PI.imp {X : Cx} {tg l : Expr} {t t' : TI} (h : PI X tg l t) (hi : ∀ σ H Q, t' σ H Q → t σ H Q) : PI X tg l t' := ⟨fun pins s σ H Q I q => h.run pins s σ H Q I (hi σ H Q q)⟩
/-- behind an argument list: turns -/
theorem la_it {c : C3} {σ : St} {H : Hp} {Q : It → Hp → Prop} {g : AV} {k : List D → R (List D)} (h : LI c (iK k g) σ H Q) :
    LA c g σ H fun vs H1 => ∃ σ ρ F ds, SR c σ ρ H1 F ∧ RpA c.P c.w H1 F vs ds ∧ match k ds with
      | .ok es => ∀ J H' F', SR c σ ρ H' F' → EX σ ρ H1 F ρ H' F' → Yl c J es H' F' → Q J H'
      | .exc x => c.W x
      | .bad => False := by
  obtain ⟨ρ, F, s, h⟩ := h
  unfold iK at h
  refine ⟨ρ, F, s, ?_⟩
  cases qg : g ρ with
  | bad => rw [qg] at h; exact h
  | exc x => rw [qg] at h; exact h
  | ok z =>
    obtain ⟨ds, ρ1⟩ := z
    rw [qg] at h
    intro vs H1 F1 s1 e1 r1
    dsimp only [R.bind] at h
    refine ⟨σ, ρ1, F1, ds, s1, r1, ?_⟩
    cases qk : k ds with
    | bad => rw [qk] at h; exact h
    | exc x => rw [qk] at h; exact h
    | ok r =>
      rw [qk] at h
      exact fun J H' F' s' e' y => h J H' F' s' (e1.trans e') y
theorem RpA.one {P : Program} {w : World} {H : Hp} {F : Addr → Prop} {vs : List V} {d : D} (h : RpA P w H F vs [d]) : ∃ v, vs = [v] ∧ Rp P w H F v d := by
  cases h with | cons r t => cases t; exact ⟨_, rfl, r⟩
theorem RpA.two {P : Program} {w : World} {H : Hp} {F : Addr → Prop} {vs : List V} {d e : D} (h : RpA P w H F vs [d, e]) : ∃ v u, vs = [v, u] ∧ Rp P w H F v d ∧ Rp P w H F u e := by
  cases h with | cons r t => obtain ⟨u, e, q⟩ := t.one; exact ⟨_, u, by rw [e], r, q⟩
theorem RpA.three {P : Program} {w : World} {H : Hp} {F : Addr → Prop} {vs : List V} {d e f : D} (h : RpA P w H F vs [d, e, f]) : ∃ v u x, vs = [v, u, x] ∧ Rp P w H F v d ∧ Rp P w H F u e ∧ Rp P w H F x f := by
  cases h with | cons r t => obtain ⟨u, x, e, q, q2⟩ := t.two; exact ⟨_, u, x, by rw [e], r, q, q2⟩
section
variable {X : Cx} {c : C3} {tg a b d : Expr} {p pos : Pos} {g : AV}
theorem i_r1 (cc : Cc X c) (ha : PA X [a] (LA c g)) (hg : Gl X "range" := by rfl) (hs : starEach [a] X.env = [(false, eval a X.env)] := by rfl) : PI X tg (.Call (.Name "range" p) [a] [] pos) (LI c (iK rng1 g)) :=
  PI.imp (pi_range1 hg (cc.fr _ (by rfl)) ha hs) fun σ H Q h => by
    obtain ⟨ρ, F, s, h⟩ := la_it h
    refine ⟨ρ, F, s, ?_⟩
    cases qg : g ρ with
    | bad => rw [qg] at h; exact h
    | exc x => rw [qg] at h; exact h
    | ok z =>
      rw [qg] at h
      intro vs H1 F1 s1 e1 r1
      obtain ⟨σ', ρ', F', ds, s', r', h⟩ := h vs H1 F1 s1 e1 r1
      split at h
      · rename_i es q
        unfold rng1 at q
        split at q
        · split at q
          · rename_i j hz
            cases q
            obtain ⟨v, rfl, r⟩ := r'.one
            cases r
            exact ⟨j, rfl, (fit62.of hz).1, (fit62.of hz).2, h _ _ _ s' EX.refl yl_range⟩
          · cases q
        · cases q
      · rename_i q
        unfold rng1 at q
        split at q
        · split at q <;> cases q
        · cases q
      · exact h.elim
theorem i_r2 (cc : Cc X c) (ha : PA X [a, b] (LA c g)) (hg : Gl X "range" := by rfl) (hs : starEach [a, b] X.env = [(false, eval a X.env), (false, eval b X.env)] := by rfl) (hs2 : starEach [b] X.env = [(false, eval b X.env)] := by rfl) : PI X tg (.Call (.Name "range" p) [a, b] [] pos) (LI c (iK rng2 g)) :=
  PI.imp (pi_range2 hg (cc.fr _ (by rfl)) ha hs hs2) fun σ H Q h => by
    obtain ⟨ρ, F, s, h⟩ := la_it h
    refine ⟨ρ, F, s, ?_⟩
    cases qg : g ρ with
    | bad => rw [qg] at h; exact h
    | exc x => rw [qg] at h; exact h
    | ok z =>
      rw [qg] at h
      intro vs H1 F1 s1 e1 r1
      obtain ⟨σ', ρ', F', ds, s', r', h⟩ := h vs H1 F1 s1 e1 r1
      split at h
      · rename_i es q
        unfold rng2 at q
        split at q
        · split at q
          · rename_i i j hz
            cases q
            rw [Bool.and_eq_true] at hz
            obtain ⟨v, u, rfl, r, r2⟩ := r'.two
            cases r; cases r2
            exact ⟨i, j, rfl, ⟨(fit62.of hz.1).1, (fit62.of hz.1).2, (fit62.of hz.2).1, (fit62.of hz.2).2⟩, h _ _ _ s' EX.refl yl_range⟩
          · cases q
        · cases q
      · rename_i q
        unfold rng2 at q
        split at q
        · split at q <;> cases q
        · cases q
      · exact h.elim
theorem i_r3 (cc : Cc X c) (ha : PA X [a, b, d] (LA c g)) (hg : Gl X "range" := by rfl) (hs : starEach [a, b, d] X.env = (false, eval a X.env) :: starEach [b, d] X.env := by rfl) (hp : (backTo pos (starEach [b, d] X.env)).any (·.1) = false := by rfl) : PI X tg (.Call (.Name "range" p) [a, b, d] [] pos) (LI c (iK rng3 g)) :=
  PI.imp (pi_range3 hg (cc.fr _ (by rfl)) ha hs hp) fun σ H Q h => by
    obtain ⟨ρ, F, s, h⟩ := la_it h
    refine ⟨ρ, F, s, ?_⟩
    cases qg : g ρ with
    | bad => rw [qg] at h; exact h
    | exc x => rw [qg] at h; exact h
    | ok z =>
      rw [qg] at h
      intro vs H1 F1 s1 e1 r1
      obtain ⟨σ', ρ', F', ds, s', r', h⟩ := h vs H1 F1 s1 e1 r1
      split at h
      · rename_i es q
        unfold rng3 at q
        split at q
        · split at q
          · rename_i i j k hz
            cases q
            rw [Bool.and_eq_true, decide_eq_true_eq] at hz
            obtain ⟨⟨z1, z2, z3⟩, z4⟩ := hz
            obtain ⟨v, u, x, rfl, r, r2, r3⟩ := r'.three
            cases r; cases r2; cases r3
            exact ⟨i, j, k, _, rfl, ⟨z1, z2, z4, by omega⟩, h _ _ _ s' EX.refl yl_rangeC⟩
          · cases q
        · cases q
      · rename_i q
        unfold rng3 at q
        split at q
        · split at q <;> cases q
        · cases q
      · exact h.elim
end

/-! ### for -/
def sLoop (g : GV) (b : SV) : List D → SV
  | [], ρ => .ok (.nx, ρ)
  | d :: ds, ρ => match g d ρ with
    | some ρ1 => (b ρ1).bind fun y => match y.1 with
      | .nx => sLoop g b ds y.2
      | .rt r => .ok (.rt r, y.2)
    | none => .bad
def sFor (it : IV) (g : GV) (b : SV) : SV := fun ρ => (it ρ).bind fun x => sLoop g b x.1 x.2
section
variable {X : Cx} {c : C3} {tg iter : Expr} {body : List Stmt} {pos : Pos}
theorem s_for (cc : Cc X c) (hp : PassesOwn (model X.prog X.w) X.A X.env X.xe) {it : IV} {g : GV} {b : SV} (hi : PI X tg iter (LI c it)) (ws : List Nat) (hg : PG X tg (LG c ws g)) (hb : PSs X body (LS c b)) (hs : ∀ x, foldedSetIterable iter X.env x = pure x := by intro _; rfl) :
    PS X (.For tg iter body [] pos) (LS c (sFor it g b)) :=
  PS.imp (ps_for hp cc.calm hi hg hb hs) fun T σ H h => by
    obtain ⟨ρ, F, s, h⟩ := h.pl
    refine ⟨ρ, F, s, ?_⟩
    unfold sFor at h
    cases qi : it ρ with
    | bad => rw [qi] at h; exact h
    | exc x => rw [qi] at h; exact h
    | ok z =>
      obtain ⟨ds, ρ1⟩ := z
      rw [qi] at h
      dsimp only [R.bind] at h
      intro J H1 F1 s1 e1 y
      refine ⟨fun i m σ' H' => ∃ ρ' F', SR c σ' ρ' H' F' ∧ FK H1 F1 H' F' ∧ m = ds.length - i ∧ i ≤ ds.length ∧ PL c T H' F' (sLoop g b (ds.drop i) ρ'), ⟨_, ρ1, F1, s1, FK.refl, rfl, Nat.zero_le _, h.later (e1.fk s)⟩, ?_⟩
      rintro i m σ2 H2 ⟨ρ2, F2, s2, k2, rfl, hi2, h2⟩
      by_cases hlt : i < ds.length
      · have ed : ds.drop i = ds[i] :: ds.drop (i + 1) := List.drop_eq_getElem_cons hlt
        rw [ed] at h2
        have hd : ds[i]? = some ds[i] := List.getElem?_eq_getElem hlt
        refine .inr ⟨(y.go i H2 F2 k2 _ hd).1, fun σ' H' => ∃ ρ' F', SR c σ' ρ' H' F' ∧ FK H1 F1 H' F' ∧ PL c T H' F' (sLoop g b (ds.drop (i + 1)) ρ'), ?_, fun x H' hy => ?_⟩
        · rintro σ' H' ⟨ρ', F', s', k', h'⟩
          exact ⟨_, by omega, ρ', F', s', k', rfl, hlt, h'⟩
        · obtain ⟨F3, s3, e3, r3⟩ := y.item k2 s2 hd hy
          refine ⟨ρ2, F3, ds[i], s3, r3, ?_⟩
          have k3 : FK H1 F1 H' F3 := k2.trans (e3.fk s2)
          have h3 := h2.later (e3.fk s2)
          unfold sLoop at h3
          cases qg : g ds[i] ρ2 with
          | none => rw [qg] at h3; exact h3
          | some ρ3 =>
            rw [qg] at h3
            dsimp only at h3
            intro σ4 _ s4
            refine LS.of s4 ?_
            generalize b ρ3 = r at h3
            match r, h3 with
            | .ok (.nx, ρ'), h3 => exact fun σ' H' F' s' k' => ⟨ρ', F', s', k3.trans k', h3.later k'⟩
            | .ok (.rt r, ρ'), h3 => exact h3
            | .exc x, h3 => exact h3
            | .bad, h3 => exact h3
      · have e : i = ds.length := by omega
        subst e
        rw [List.drop_length] at h2
        exact .inl ⟨y.stop H2 F2 k2, h2 σ2 H2 F2 s2 FK.refl⟩
end

/-! ### while -/
def sWhile (t : TV) (b : SV) : Nat → SV
  | 0, _ => .bad
  | n + 1, ρ => (t ρ).bind fun x => if x.1 = true then (b x.2).bind fun y => match y.1 with
      | .nx => sWhile t b n y.2
      | .rt r => .ok (.rt r, y.2)
    else .ok (.nx, x.2)
section
variable {X : Cx} {c : C3} {t : Expr} {body : List Stmt} {pos : Pos}
theorem s_while (hp : PassesOwn (model X.prog X.w) X.A X.env X.xe) {tt : TV} {b : SV} (ht : PT X t (LT c tt)) (hb : PSs X body (LS c b)) (n : Nat) : PS X (.While t body [] pos) (LS c (sWhile tt b n)) :=
  PS.imp (ps_while hp ht hb) fun T σ H h => by
    obtain ⟨ρ, F, s, h⟩ := h.pl
    refine ⟨fun m σ' H' => ∃ ρ' F', SR c σ' ρ' H' F' ∧ PL c T H' F' (sWhile tt b m ρ'), ⟨n, ρ, F, s, h⟩, ?_⟩
    rintro m σ2 H2 ⟨ρ2, F2, s2, h2⟩
    cases m with
    | zero => exact h2.elim
    | succ m =>
      unfold sWhile at h2
      refine ⟨ρ2, F2, s2, ?_⟩
      cases qt : tt ρ2 with
      | bad => rw [qt] at h2; exact h2
      | exc x => rw [qt] at h2; exact h2
      | ok z =>
        obtain ⟨k, ρ3⟩ := z
        rw [qt] at h2
        dsimp only [R.bind] at h2
        intro H3 F3 s3 e3
        cases k with
        | false =>
          rw [if_neg Bool.false_ne_true] at h2 ⊢
          exact h2 σ2 H3 F3 s3 (e3.fk s2)
        | true =>
          rw [if_pos rfl] at h2 ⊢
          refine ⟨fun σ' H' => ∃ ρ' F', SR c σ' ρ' H' F' ∧ PL c T H' F' (sWhile tt b m ρ'), fun σ' H' q => ⟨m, Nat.lt_succ_self _, q⟩, LS.of s3 ?_⟩
          have h3 := h2.later (e3.fk s2)
          generalize b ρ3 = r at h3
          match r, h3 with
          | .ok (.nx, ρ'), h3 => exact fun σ' H' F' s' k' => ⟨ρ', F', s', h3.later k'⟩
          | .ok (.rt r, ρ'), h3 => exact h3
          | .exc x, h3 => exact h3
          | .bad, h3 => exact h3
end
end L3

end
section
/-! L3, part I: comprehensions. -/
namespace L3
open PySem PySem.Spec PyProof.Rows L2

/-- no exception may leave -/
abbrev C3.nox (c : C3) : C3 := { c with W := fun _ => False }
theorem SR.nox {c : C3} {σ : St} {ρ : En} {H : Hp} {F : Addr → Prop} (s : SR c σ ρ H F) : SR c.nox σ ρ H F :=
  ⟨s.len, s.val, s.own, s.bor, s.scr, s.dis, s.dom, s.keep, s.grow, s.incl, s.bof⟩
theorem SR.unnox {c : C3} {σ : St} {ρ : En} {H : Hp} {F : Addr → Prop} (s : SR c.nox σ ρ H F) : SR c σ ρ H F :=
  ⟨s.len, s.val, s.own, s.bor, s.scr, s.dis, s.dom, s.keep, s.grow, s.incl, s.bof⟩
/-- the block's own slots emptied -/
def wipeE (ρ : En) : List Nat → En
  | [] => ρ
  | v :: vs => (wipeE ρ vs).set v .no
def keepS : Option Sl → Sl
  | some (.val d) => .val d
  | some (.scr ns) => .scr ns
  | _ => .no
/-- .. and what frozen things stood there, put back -/
def restE (ρ0 ρ : En) : List Nat → En
  | [] => ρ
  | v :: vs => (restE ρ0 ρ vs).set v (keepS ρ0[v]?)
theorem wipeE_length (ρ : En) : ∀ vs : List Nat, (wipeE ρ vs).length = ρ.length
  | [] => rfl
  | v :: vs => by unfold wipeE; rw [List.length_set, wipeE_length ρ vs]
theorem restE_length (ρ0 ρ : En) : ∀ vs : List Nat, (restE ρ0 ρ vs).length = ρ.length
  | [] => rfl
  | v :: vs => by unfold restE; rw [List.length_set, restE_length ρ0 ρ vs]
theorem wipeE_some {ρ : En} {i : Nat} {x : Sl} (hx : x ≠ .no) : ∀ {vs : List Nat}, (wipeE ρ vs)[i]? = some x → ρ[i]? = some x ∧ i ∉ vs
  | [], h => ⟨h, by simp⟩
  | v :: vs, h => by
    unfold wipeE at h
    by_cases hi : v = i
    · subst hi
      by_cases hv : v < (wipeE ρ vs).length
      · rw [List.getElem?_set_self hv] at h; cases h; exact absurd rfl hx
      · rw [List.getElem?_eq_none (by simpa using hv)] at h; cases h
    · rw [List.getElem?_set_ne hi] at h
      obtain ⟨h1, h2⟩ := wipeE_some hx h
      exact ⟨h1, by simp only [List.mem_cons, not_or]; exact ⟨fun e => hi e.symm, h2⟩⟩
theorem restE_some {ρ0 ρ : En} {i : Nat} {x : Sl} (hx : x ≠ .no) : ∀ {vs : List Nat}, (restE ρ0 ρ vs)[i]? = some x → (i ∉ vs ∧ ρ[i]? = some x) ∨ (i ∈ vs ∧ keepS ρ0[i]? = x)
  | [], h => .inl ⟨by simp, h⟩
  | v :: vs, h => by
    unfold restE at h
    by_cases hi : v = i
    · subst hi
      by_cases hv : v < (restE ρ0 ρ vs).length
      · rw [List.getElem?_set_self hv] at h; exact .inr ⟨List.mem_cons_self, Option.some.inj h⟩
      · rw [List.getElem?_eq_none (by simpa using hv)] at h; cases h
    · rw [List.getElem?_set_ne hi] at h
      rcases restE_some hx h with ⟨h1, h2⟩ | ⟨h1, h2⟩
      · exact .inl ⟨by simp only [List.mem_cons, not_or]; exact ⟨fun e => hi e.symm, h1⟩, h2⟩
      · exact .inr ⟨List.mem_cons_of_mem _ h1, h2⟩
theorem keepS_ob {x : Option Sl} {d : D} (h : keepS x = .own d ∨ keepS x = .bor d) : False := by
  cases x with
  | none => rcases h with h | h <;> cases h
  | some x => cases x <;> rcases h with h | h <;> cases h
theorem isOB_wipe {ρ : En} {vs : List Nat} {i : Nat} (h : isOB (wipeE ρ vs) i) : isOB ρ i ∧ i ∉ vs := by
  obtain ⟨d, h | h⟩ := h
  · have q := wipeE_some (by simp) h; exact ⟨⟨d, .inl q.1⟩, q.2⟩
  · have q := wipeE_some (by simp) h; exact ⟨⟨d, .inr q.1⟩, q.2⟩
section
variable {c : C3} {σ : St} {ρ ρ0 ρ1 : En} {H H0 H1 : Hp} {F F0 F1 : Addr → Prop} {vs : List Nat}
theorem SR.wiped (s : SR c σ ρ H F) (vs : List Nat) : SR c (wipe σ vs) (wipeE ρ vs) H F := by
  refine ⟨by rw [wipeE_length, wipe_length]; exact s.len, fun i d h => ?_, fun i d h => ?_, fun i d h => ?_, fun i ns h => ?_, fun i j a hi hj ei ej => ?_, s.dom, s.keep, s.grow, s.incl, s.bof⟩
  · have q := wipeE_some (by simp) h
    rw [wipe_out q.2]; exact s.val i d q.1
  · have q := wipeE_some (by simp) h
    rw [wipe_out q.2]; exact s.own i d q.1
  · have q := wipeE_some (by simp) h
    rw [wipe_out q.2]; exact s.bor i d q.1
  · have q := wipeE_some (by simp) h
    rw [wipe_out q.2]; exact s.scr i ns q.1
  · have q1 := isOB_wipe hi
    have q2 := isOB_wipe hj
    rw [wipe_out q1.2] at ei
    rw [wipe_out q2.2] at ej
    exact s.dis i j a q1.1 q2.1 ei ej
theorem OA.unwipe {a : Addr} (h : OA (wipe σ vs) (wipeE ρ vs) a) : OA σ ρ a := by
  obtain ⟨i, h1, h2⟩ := h
  obtain ⟨q1, q2⟩ := isOB_wipe h1
  rw [wipe_out q2] at h2
  exact ⟨i, q1, h2⟩
/-- another object is written -/
theorem SR.aside (s : SR c σ ρ H F) {p : Addr} {o : HO} (nf : ¬ F p) (no : ¬ OA σ ρ p) (n0 : c.H0 p = none) : SR c σ ρ (upd H p o) F := by
  have ne : ∀ b, F b → b ≠ p := fun b fb e => nf (e ▸ fb)
  have up : ∀ b, F b → F b := fun _ h => h
  have re : ∀ b, F b → upd H p o b = H b := fun b fb => upd_ne (ne b fb)
  have dm : ∀ b, H b ≠ none → upd H p o b ≠ none := fun b hb => by
    by_cases e : b = p
    · subst e; rw [upd_same]; simp
    · rw [upd_ne e]; exact hb
  refine ⟨s.len, fun i d h => ?_, fun i d h => ?_, fun i d h => ?_, s.scr, s.dis, fun b fb => dm b (s.dom b fb), fun b u hb nb => ?_, s.grow, s.incl, fun b hb => ?_⟩
  · obtain ⟨v, e, r⟩ := s.val i d h
    exact ⟨v, e, r.mono up re⟩
  · obtain ⟨a, e, n, z, y, t⟩ := s.own i d h
    exact ⟨a, e, n, z, dm a y, t.mono up re fun b hb => by cases hb; exact upd_ne fun (q : a = p) => no ⟨i, ⟨d, .inl h⟩, q ▸ e⟩⟩
  · obtain ⟨i0, a, e, n, z, y, t⟩ := s.bor i d h
    exact ⟨i0, a, e, n, z, dm a y, t.mono up re fun b hb => by cases hb; exact upd_ne fun (q : a = p) => no ⟨i, ⟨d, .inr h⟩, q ▸ e⟩⟩
  · have q := s.keep b u hb nb
    rw [upd_ne fun (e : b = p) => by rw [e, n0] at hb; cases hb]; exact q
  · obtain ⟨n, z, y⟩ := s.bof b hb
    exact ⟨n, z, dm b y⟩
/-- back from a block -/
theorem SR.rest (s0 : SR c σ ρ0 H0 F0) (s1 : SR c (wipe σ vs) ρ1 H1 F1) (e : EX (wipe σ vs) (wipeE ρ0 vs) H0 F0 ρ1 H1 F1) :
    SR c σ (restE ρ0 ρ1 vs) H1 F1 ∧ EX σ ρ0 H0 F0 (restE ρ0 ρ1 vs) H1 F1 := by
  have out : ∀ {i : Nat}, i ∉ vs → (L2.wipe σ vs)[i]? = σ[i]? := fun h => wipe_out h
  have same : ∀ a, F0 a → H1 a = H0 a := e.same (s0.wiped vs)
  have ob : ∀ {i : Nat}, isOB (restE ρ0 ρ1 vs) i → isOB ρ1 i ∧ i ∉ vs := fun {i} ⟨d, h⟩ => by
    rcases h with h | h <;> rcases restE_some (by simp) h with ⟨h1, h2⟩ | ⟨_, h2⟩
    · exact ⟨⟨d, .inl h2⟩, h1⟩
    · exact (keepS_ob (.inl h2)).elim
    · exact ⟨⟨d, .inr h2⟩, h1⟩
    · exact (keepS_ob (.inr h2)).elim
  refine ⟨⟨?_, fun i d h => ?_, fun i d h => ?_, fun i d h => ?_, fun i ns h => ?_, fun i j a hi hj ei ej => ?_, s1.dom, s1.keep, s1.grow, s1.incl, s1.bof⟩, ⟨e.fr, fun a o h n => e.kp a o h fun q => n q.unwipe, e.dm, fun a h => ?_, fun i h => ?_⟩⟩
  · have := s1.len
    rw [restE_length, this, wipe_length]
  · rcases restE_some (by simp) h with ⟨h1, h2⟩ | ⟨_, h2⟩
    · obtain ⟨v, ev, r⟩ := s1.val i d h2
      rw [out h1] at ev; exact ⟨v, ev, r⟩
    · have h3 : ρ0[i]? = some (.val d) := by
        cases q : ρ0[i]? with
        | none => rw [q] at h2; cases h2
        | some x => rw [q] at h2; cases x <;> cases h2; rfl
      obtain ⟨v, ev, r⟩ := s0.val i d h3
      exact ⟨v, ev, r.mono e.fr same⟩
  · rcases restE_some (by simp) h with ⟨h1, h2⟩ | ⟨_, h2⟩
    · have q := s1.own i d h2
      rw [out h1] at q; exact q
    · exact (keepS_ob (.inl h2)).elim
  · rcases restE_some (by simp) h with ⟨h1, h2⟩ | ⟨_, h2⟩
    · have q := s1.bor i d h2
      rw [out h1] at q; exact q
    · exact (keepS_ob (.inr h2)).elim
  · rcases restE_some (by simp) h with ⟨h1, h2⟩ | ⟨_, h2⟩
    · have q := s1.scr i ns h2
      rw [out h1] at q; exact q
    · have h3 : ρ0[i]? = some (.scr ns) := by
        cases q : ρ0[i]? with
        | none => rw [q] at h2; cases h2
        | some x => rw [q] at h2; cases x <;> cases h2; rfl
      exact s0.scr i ns h3
  · obtain ⟨p1, p2⟩ := ob hi
    obtain ⟨q1, q2⟩ := ob hj
    exact s1.dis i j a p1 q1 (by rw [out p2]; exact ei) (by rw [out q2]; exact ej)
  · rcases e.gr a h with h | h | h
    · exact .inl h
    · exact .inr (.inl h)
    · exact .inr (.inr h.unwipe)
  · exact (isOB_wipe (e.ob i (ob h).1)).1
end

theorem wipe_wipe (σ : St) (vs : List Nat) : wipe (wipe σ vs) vs = wipe σ vs := by
  refine List.ext_getElem? fun i => ?_
  by_cases h : i ∈ vs
  · have go : ∀ (τ : St), τ.length = σ.length → (wipe τ vs)[i]? = if i < σ.length then some none else none := by
      intro τ ht
      have : ∀ {ws : List Nat}, i ∈ ws → (wipe τ ws)[i]? = if i < σ.length then some none else none := by
        intro ws
        induction ws with
        | nil => intro h; cases h
        | cons w ws ih =>
          intro h
          unfold wipe
          by_cases e : w = i
          · subst e
            by_cases hl : w < σ.length
            · rw [List.getElem?_set_self (by rw [wipe_length, ht]; exact hl), if_pos hl]
            · rw [List.getElem?_eq_none (by rw [List.length_set, wipe_length, ht]; omega), if_neg hl]
          · rw [List.getElem?_set_ne e]
            exact ih ((List.mem_cons.mp h).resolve_left fun q => e q.symm)
      exact this h
    rw [go _ (wipe_length σ vs), go σ rfl]
  · rw [wipe_out h]
/-! ### one clause -/
@[simp] def tT : TV := fun ρ => .ok (true, ρ)
def cLoop (g : GV) (t : TV) (f : EV) (vs : List Nat) : List D → En → R (List D × En)
  | [], ρ => .ok ([], ρ)
  | d :: ds, ρ => match g d ρ with
    | some ρ1 => (t ρ1).bind fun x => if x.1 = true then (f x.2).bind fun y => (cLoop g t f vs ds (wipeE y.2 vs)).bind fun z => .ok (y.1.d :: z.1, z.2)
      else cLoop g t f vs ds (wipeE x.2 vs)
    | none => .bad
def eComp (it : IV) (g : GV) (t : TV) (f : EV) (vs : List Nat) : EV := fun ρ => (it ρ).bind fun x => match cLoop g t f vs x.1 (wipeE x.2 vs) with
  | .ok (ys, ρ') => if ys.length ≤ sizeLine then .ok (.own (.list ys), restE x.2 ρ' vs) else .bad
  | _ => .bad
theorem EX.out {σ : St} {ρ ρ1 : En} {H H1 : Hp} {F F1 : Addr → Prop} {p : Addr} (e : EX σ ρ H F ρ1 H1 F1) (nf : ¬ F p) (h : H p ≠ none) (no : ¬ OA σ ρ p) : ¬ F1 p := fun q => by
  rcases e.gr p q with q | q | q
  · exact nf q
  · exact h q
  · exact no q
theorem EX.wiped {σ σ2 : St} {ρ ρ2 ρ' : En} {H H' : Hp} {F F' : Addr → Prop} {vs : List Nat} (hw : wipe σ2 vs = wipe σ vs) (ho : ∀ i, isOB ρ2 i → isOB ρ i ∧ i ∉ vs) (e : EX σ2 ρ2 H F ρ' H' F') : EX (wipe σ vs) ρ H F (wipeE ρ' vs) H' F' := by
  have oa : ∀ a, OA σ2 ρ2 a → OA (wipe σ vs) ρ a := fun a ⟨i, h1, h2⟩ => by
    obtain ⟨q1, q2⟩ := ho i h1
    refine ⟨i, q1, ?_⟩
    rw [← hw, wipe_out q2]
    exact h2
  exact ⟨e.fr, fun a o h n => e.kp a o h fun q => n (oa a q), e.dm, fun a h => (e.gr a h).imp_right fun q => q.imp_right (oa a), fun i h => (ho i (e.ob i (isOB_wipe h).1)).1⟩
/-- the state of the block between two turns: the new list at L -/
structure Bk (c : C3) (vs : List Nat) (σb : St) (ρb : En) (H1 : Hp) (F1 : Addr → Prop) (L : Addr) (H : Hp) (ρ : En) (F : Addr → Prop) (ys : List D) : Prop where
  sr : SR c σb ρ H F
  ex : EX σb ρb H1 F1 ρ H F
  nf : ¬ F L
  ac : ∃ acc, H L = some (.lst acc) ∧ RpA c.P c.w H F acc ys
  iv : ∀ i, isOB ρ i → i ∉ vs
section
variable {c : C3} {vs : List Nat} {σ σ2 : St} {ρb ρ ρ2 ρ' : En} {H1 H H2 H' : Hp} {F1 F F2 F' : Addr → Prop} {L : Addr} {ys : List D}
theorem Bk.noa {σb : St} (b : Bk c vs σb ρb H1 F1 L H ρ F ys) (s1 : SR c σb ρb H1 F1) (hL : H1 L = none) : ¬ OA σb ρ L := fun q => s1.oa_there (b.ex.oa q) hL
/-- behind a turn's expressions, run from ρ2 on -/
theorem Bk.step (b : Bk c vs (wipe σ vs) ρb H1 F1 L H ρ F ys) (s1 : SR c (wipe σ vs) ρb H1 F1) (hL : H1 L = none) (hw : wipe σ2 vs = wipe σ vs) (ho : ∀ i, isOB ρ2 i → isOB ρ i) (s' : SR c σ2 ρ' H' F') (e : EX σ2 ρ2 H F ρ' H' F') :
    Bk c vs (wipe σ vs) ρb H1 F1 L H' (wipeE ρ' vs) F' ys := by
  obtain ⟨acc, h, r⟩ := b.ac
  have no := b.noa s1 hL
  have e' : EX (wipe σ vs) ρ H F (wipeE ρ' vs) H' F' := e.wiped hw fun i h => ⟨ho i h, b.iv i (ho i h)⟩
  refine ⟨?_, b.ex.trans e', e'.out b.nf (by rw [h]; simp) no, ⟨acc, e'.kp L _ h no, e'.rpA b.sr r⟩, fun i h => (isOB_wipe h).2⟩
  rw [← hw]; exact s'.wiped vs
/-- .. and an item is appended -/
theorem Bk.app (b : Bk c vs (wipe σ vs) ρb H1 F1 L H ρ F ys) (s1 : SR c (wipe σ vs) ρb H1 F1) (hL : H1 L = none) {v : V} {d : D} (r : Rp c.P c.w H F v d) : ∃ acc, H L = some (.lst acc) ∧ acc.length = ys.length ∧ Bk c vs (wipe σ vs) ρb H1 F1 L (upd H L (.lst (acc ++ [v]))) ρ F (ys ++ [d]) := by
  obtain ⟨acc, h, ra⟩ := b.ac
  have n0 : c.H0 L = none := s1.H0_none hL
  have no := b.noa s1 hL
  have re : ∀ a, F a → upd H L (.lst (acc ++ [v])) a = H a := fun a fa => upd_ne fun (q : a = L) => b.nf (q ▸ fa)
  refine ⟨acc, h, ra.length, b.sr.aside b.nf no n0, ⟨b.ex.fr, fun a o q n => ?_, fun a q => ?_, b.ex.gr, b.ex.ob⟩, b.nf, ⟨acc ++ [v], upd_same, (ra.append (.cons r .nil)).mono (fun _ h => h) re⟩, b.iv⟩
  · rw [upd_ne fun (z : a = L) => by rw [z, hL] at q; cases q]; exact b.ex.kp a o q n
  · by_cases z : a = L
    · subst z; rw [upd_same]; simp
    · rw [upd_ne z]; exact b.ex.dm a q
theorem Bk.item (b : Bk c vs (wipe σ vs) ρb H1 F1 L H ρ F ys) (s1 : SR c (wipe σ vs) ρb H1 F1) (hL : H1 L = none) (s' : SR c (wipe σ vs) ρ H' F') (e : EX (wipe σ vs) ρ H F ρ H' F') : Bk c vs (wipe σ vs) ρb H1 F1 L H' ρ F' ys := by
  obtain ⟨acc, h, r⟩ := b.ac
  have no := b.noa s1 hL
  exact ⟨s', b.ex.trans e, e.out b.nf (by rw [h]; simp) no, ⟨acc, e.kp L _ h no, e.rpA b.sr r⟩, b.iv⟩
end
/-- a target sets values alone -/
def GOb (g : GV) : Prop := ∀ d ρ ρ', g d ρ = some ρ' → ∀ i, isOB ρ' i → isOB ρ i
def GObs (g : GVs) : Prop := ∀ d ρ ρ', g d ρ = some ρ' → ∀ i, isOB ρ' i → isOB ρ i
theorem ob_n (i : Nat) : GOb (gN i) := fun d ρ ρ' h j hj => by cases h; exact (isOB_val hj).1
theorem ob_t {g : GVs} (h : GObs g) : GOb (gT g) := fun d ρ ρ' q => by
  unfold gT at q
  split at q
  · exact h _ _ _ q
  · cases q
theorem obs_nil : GObs gsNil := fun d ρ ρ' h => by
  cases d with
  | nil => cases h; exact fun _ h => h
  | cons _ _ => cases h
theorem obs_cons {f : GV} {g : GVs} (hf : GOb f) (hg : GObs g) : GObs (gsCons f g) := fun d ρ ρ' h i hi => by
  cases d with
  | nil => cases h
  | cons d ds =>
    unfold gsCons at h
    dsimp only at h
    cases q : f d ρ with
    | none => rw [q] at h; cases h
    | some ρ1 => rw [q] at h; exact hf _ _ _ q i (hg _ _ _ h i hi)

theorem lc_of {c : C3} {it : IV} {g : GV} {t : TV} {f : EV} {vs : List Nat} (hgo : GOb g) {σ : St} {H : Hp} {Q : VK} (h : LE c (eComp it g t f vs) σ H Q) :
    tLc (LI c it) (LG c.nox vs g) (LT c.nox t) (LE c.nox f) vs σ H Q := by
  obtain ⟨ρ, F, s, h⟩ := h
  refine ⟨ρ, F, s, ?_⟩
  unfold eComp at h
  cases qi : it ρ with
  | bad => rw [qi] at h; exact h
  | exc x => rw [qi] at h; exact h
  | ok z =>
    obtain ⟨ds, ρ1⟩ := z
    rw [qi] at h
    dsimp only [R.bind] at h
    intro J H1 F1 s1 e1 y L hL
    cases qc : cLoop g t f vs ds (wipeE ρ1 vs) with
    | bad => rw [qc] at h; exact h.elim
    | exc x => rw [qc] at h; exact h.elim
    | ok z =>
      obtain ⟨total, ρe⟩ := z
      rw [qc] at h
      dsimp only at h
      by_cases hz : total.length ≤ sizeLine
      rotate_left
      · rw [if_neg hz] at h; exact h.elim
      rw [if_pos hz] at h
      have s1x := s1.nox
      have sb := s1x.wiped vs
      have nF1 : ¬ F1 L := fun q => s1.dom L q hL
      have n0 := s1.H0_none hL
      refine ⟨fun i m H => m = ds.length - i ∧ i ≤ ds.length ∧ ∃ ρi Fi ys zs, Bk c.nox vs (wipe σ vs) (wipeE ρ1 vs) H1 F1 L H ρi Fi ys ∧ cLoop g t f vs (ds.drop i) ρi = .ok (zs, ρe) ∧ ys ++ zs = total,
        ⟨_, rfl, Nat.zero_le _, wipeE ρ1 vs, F1, [], total, ⟨sb.aside nF1 (fun q => sb.oa_there q hL) n0, ⟨fun _ h => h, fun a o q n => ?_, fun a q => ?_, fun a h => .inl h, fun _ h => h⟩, nF1, ⟨[], upd_same, .nil⟩, fun i h => (isOB_wipe h).2⟩, qc, rfl⟩, ?_⟩
      · rw [upd_ne fun (z : a = L) => by rw [z, hL] at q; cases q]; exact q
      · rw [upd_ne fun (z : a = L) => q (z ▸ hL)]; exact q
      rintro i m H2 ⟨rfl, hi, ρi, Fi, ys, zs, b, hc, ht⟩
      have k2 : FK H1 F1 H2 Fi := b.ex.fk sb
      by_cases hlt : i < ds.length
      · have ed : ds.drop i = ds[i] :: ds.drop (i + 1) := List.drop_eq_getElem_cons hlt
        have hd : ds[i]? = some ds[i] := List.getElem?_eq_getElem hlt
        rw [ed] at hc
        unfold cLoop at hc
        refine .inr ⟨(y.go i H2 Fi k2 _ hd).1, fun H' => ∃ ρ' F' ys' zs', Bk c.nox vs (wipe σ vs) (wipeE ρ1 vs) H1 F1 L H' ρ' F' ys' ∧ cLoop g t f vs (ds.drop (i + 1)) ρ' = .ok (zs', ρe) ∧ ys' ++ zs' = total, fun H' q => ⟨_, by omega, rfl, hlt, q⟩, fun x H' hy => ?_⟩
        have y' : Yl c.nox J ds H1 F1 := ⟨y.go, y.stop⟩
        obtain ⟨F3, s3, e3, r3⟩ := y'.item k2 b.sr hd hy
        have b3 := b.item sb hL s3 e3
        refine ⟨ρi, F3, ds[i], s3, r3, ?_⟩
        cases qg : g ds[i] ρi with
        | none => rw [qg] at hc; cases hc
        | some ρ4 =>
          rw [qg] at hc
          dsimp only at hc
          intro σ4 hw4 s4
          refine ⟨hw4.trans (wipe_wipe σ vs), ρ4, F3, s4, ?_⟩
          have ho := hgo _ _ _ qg
          have hw : wipe σ4 vs = wipe σ vs := hw4.trans (wipe_wipe σ vs)
          cases qt : t ρ4 with
          | bad => rw [qt] at hc; cases hc
          | exc x => rw [qt] at hc; cases hc
          | ok z =>
            obtain ⟨k, ρ5⟩ := z
            rw [qt] at hc
            dsimp only [R.bind] at hc
            intro H5 F5 s5 e5
            cases k with
            | false =>
              rw [if_neg Bool.false_ne_true] at hc ⊢
              exact ⟨_, F5, ys, zs, b3.step sb hL hw ho s5 e5, hc, ht⟩
            | true =>
              rw [if_pos rfl] at hc ⊢
              refine ⟨ρ5, F5, s5, ?_⟩
              cases qf : f ρ5 with
              | bad => rw [qf] at hc; cases hc
              | exc x => rw [qf] at hc; cases hc
              | ok z =>
                obtain ⟨r, ρ6⟩ := z
                rw [qf] at hc
                dsimp only at hc
                intro v H6 F6 s6 e6 r6
                obtain ⟨F7, s7, e7, r7⟩ := s6.frz e6 r6
                have b7 := b3.step sb hL hw ho s7 (e5.trans e7)
                obtain ⟨acc, ha, hl, b8⟩ := b7.app sb hL r7
                cases qr : cLoop g t f vs (ds.drop (i + 1)) (wipeE ρ6 vs) with
                | bad => rw [qr] at hc; cases hc
                | exc x => rw [qr] at hc; cases hc
                | ok z =>
                  obtain ⟨zs', ρe'⟩ := z
                  rw [qr] at hc
                  cases hc
                  have ht' : (ys ++ [r.d]) ++ zs' = total := by rw [List.append_assoc]; exact ht
                  refine ⟨acc, ha, ?_, _, F7, _, zs', b8, qr, ht'⟩
                  rw [hl]
                  have := congrArg List.length ht'
                  simp only [List.length_append, List.length_singleton] at this
                  omega
      · have e : i = ds.length := by omega
        subst e
        rw [List.drop_length] at hc
        cases hc
        rw [List.append_nil] at ht
        subst ht
        refine .inl ⟨y.stop H2 Fi k2, ?_⟩
        obtain ⟨s9, e9⟩ := s1.rest b.sr.unnox b.ex
        obtain ⟨acc, ha, ra⟩ := b.ac
        have nH : H L = none := by
          cases q : H L with
          | none => rfl
          | some o => exact absurd hL (e1.dm L (by rw [q]; simp))
        refine h _ H2 Fi s9 (e1.trans e9) ⟨L, rfl, b.nf, nH, n0, by rw [ha]; simp, .lst ha ra, fun q => s1.oa_there (e9.oa q) hL⟩
section
variable {X : Cx} {c : C3} {elt tg iter : Expr} {ifs : List Expr} {scope : Scope} {own : List (Str × Nat)} {pos : Pos} {it : IV} {g : GV} {t : TV} {f : EV}
theorem Cc.blk (cc : Cc X c) (s : Shared) (H : Hp) (C : Addr) (cl : List (Str × Addr)) (fp : List Addr) : Cc (X.blk s H scope (compEnvC scope cl C X.env) fp) c.nox :=
  ⟨cc.P, cc.w, cc.K, cc.calm, cc.nd, cc.un, cc.gd, cc.fr⟩
theorem ts_nil : PTs X [] (LT c tT) := ⟨fun pins s σ H Q I h => by
  obtain ⟨ρ, F, sr, h⟩ := h
  exact pts_nil.run pins s σ H Q I (h H F sr EX.refl)⟩
theorem ts_one {e : Expr} (h : PT X e (LT c t)) : PTs X [e] (LT c t) := pts_one h
/-- a block of a comprehension -/
abbrev Blk (X : Cx) (scope : Scope) (s : Shared) (H : Hp) (C : Addr) (cl : List (Str × Addr)) (fp : List Addr) : Cx := X.blk s H scope (compEnvC scope cl C X.env) fp
theorem r_comp (cc : Cc X c) (own : List (Str × Nat)) (ok : blkC X.N X.env.scope scope own = true) (hgo : GOb g) (hi : PI X tg iter (LI c it))
    (hg : ∀ s H C cl fp, PG (Blk X scope s H C cl fp) tg (LG c.nox (own.map (·.2)) g)) (ht : ∀ s H C cl fp, PTs (Blk X scope s H C cl fp) ifs (LT c.nox t)) (he : ∀ s H C cl fp, PE (Blk X scope s H C cl fp) elt (LE c.nox f))
    (hs : ∀ x, foldedSetIterable iter X.env x = pure x := by intro _; rfl) : PE X (.ListComp elt [⟨tg, iter, ifs, 0⟩] scope pos) (LE c (eComp it g t f (own.map (·.2)))) :=
  PE.imp (pe_lc cc.calm cc.nd hi (blkOk_by ok) hg ht he hs) fun σ H Q h => lc_of hgo h
/-- name = [..] on one line -/
theorem s_setC (cc : Cc X c) (i : Nat) {y : Str} {py spos : Pos} (own : List (Str × Nat)) (ok : blkC X.N X.env.scope scope own = true) (hgo : GOb g) (hi : PI X tg iter (LI c it))
    (hg : ∀ s H C cl fp, PG (Blk X scope s H C cl fp) tg (LG c.nox (own.map (·.2)) g)) (ht : ∀ s H C cl fp, PTs (Blk X scope s H C cl fp) ifs (LT c.nox t)) (he : ∀ s H C cl fp, PE (Blk X scope s H C cl fp) elt (LE c.nox f))
    (hsw : swapsWith (.ListComp elt [⟨tg, iter, ifs, 0⟩] scope pos) (some (.Name y py)) spos.line X.env = pure true) (hy : X.N[i]? = some y := by rfl) (hyl : X.env.scope.names.lookup y = some .local := by rfl)
    (hs : ∀ x, foldedSetIterable iter X.env x = pure x := by intro _; rfl) : PS X (.Assign [.Name y py] (.ListComp elt [⟨tg, iter, ifs, 0⟩] scope pos) spos) (LS c (sSet i (eComp it g t f (own.map (·.2))))) :=
  PS.imp (ps_setLc cc.calm cc.nd hy hyl hsw hi (blkOk_by ok) hg ht he hs) fun T σ H h => set_of (fun Q q => lc_of hgo q.le) h
end
end L3

end
section
/-! L3, part J: calls. -/
namespace L3
open PySem PySem.Spec PyProof.Rows L2

/-! ### what a def does on trees -/
/-- the arguments' slots (slot 0 may be lent): the result, what then stands in the thing lent -/
abbrev FM := List Sl → R (Rs × Option D)
@[simp] def lentD : En → Option D
  | .bor d :: _ => some d
  | _ => none
@[simp] def runF (n : Nat) (b : SV) : FM := fun args => (b (args ++ List.replicate (n - args.length) .no)).bind fun x => match x.1 with
  | .nx => .ok (.val .none, lentD x.2)
  | .rt r => .ok (r, lentD x.2)

/-- the heap behind a call -/
structure OUT (P : Program) (w : World) (bo : Option Addr) (H : Hp) (F : Addr → Prop) (H' : Hp) (F' : Addr → Prop) (v : V) (r : Rs) (l : Option D) : Prop where
  fr : ∀ a, F a → F' a
  keep : ∀ a o, H a = some o → bo ≠ some a → H' a = some o
  gr : ∀ a, F' a → F a ∨ H a = none
  dom : ∀ a, F' a → H' a ≠ none
  lent : ∀ a, bo = some a → ¬ F' a ∧ H' a ≠ none ∧ ∀ d, l = some d → Tp P w H' F' (.ref a) d
  res : match r with
    | .val d => Rp P w H' F' v d
    | .own d => ∃ p, v = .ref p ∧ ¬ F' p ∧ H p = none ∧ H' p ≠ none ∧ Tp P w H' F' (.ref p) d
abbrev c0 (P : Program) (w : World) (K : PySem.W.Frag) (H : Hp) (F : Addr → Prop) (bo : Option Addr) : C3 := ⟨P, w, K, H, F, bo, fun _ => False⟩
/-- a def's promise -/
def sp3 (P : Program) (w : World) (K : PySem.W.Frag) (n : Nat) (m : FM) : Sp := fun vs H Q _ => vs.length = n ∧ ∃ args F bo, SR (c0 P w K H F bo) (vs.map some) args H F ∧ match m args with
  | .ok (r, l) => ∀ v H' F', OUT P w bo H F H' F' v r l → Q v H'
  | _ => False

section
variable {P : Program} {w : World} {K : PySem.W.Frag} {bo : Option Addr} {H H' : Hp} {F F' : Addr → Prop}
theorem SR.out {σ : St} {ρ : En} {v : V} {r : Rs} (s : SR (c0 P w K H F bo) σ ρ H' F') (h : RO (c0 P w K H F bo) σ ρ H' F' v r) : OUT P w bo H F H' F' v r (lentD ρ) := by
  refine ⟨s.incl, fun a o q n => s.keep a o q n, s.grow, s.dom, fun a e => ?_, ?_⟩
  · obtain ⟨n, _, y⟩ := s.bof a e
    refine ⟨n, y, fun d hd => ?_⟩
    have h0 : ρ[0]? = some (.bor d) := by
      unfold lentD at hd
      split at hd
      · cases hd; rfl
      · cases hd
    obtain ⟨_, a', _, _, e', _, t⟩ := s.bor 0 d h0
    have e' : bo = some a' := e'
    rw [e] at e'; cases e'
    exact t
  · cases r with
    | val d => exact h
    | own d =>
      obtain ⟨p, e, n, _, z, y, t, _⟩ := h
      exact ⟨p, e, n, z, y, t⟩
/-- the entry of a body -/
theorem SR.enter {n : Nat} {vs : List V} {args : List Sl} (N : List Str) (s : SR (c0 P w K H F bo) (vs.map some) args H F) (hn : vs.length ≤ N.length) : SR (c0 P w K H F bo) (L2.start N vs) (args ++ List.replicate (N.length - args.length) .no) H F := by
  have hl : args.length = vs.length := by have := s.len; rw [List.length_map] at this; exact this
  have up : ∀ {i : Nat} {x : Sl}, x ≠ .no → (args ++ List.replicate (N.length - args.length) .no)[i]? = some x → args[i]? = some x ∧ i < vs.length := fun {i x} hx h => by
    by_cases hi : i < args.length
    · rw [List.getElem?_append_left hi] at h; exact ⟨h, hl ▸ hi⟩
    · rw [List.getElem?_append_right (by omega), List.getElem?_replicate] at h
      split at h
      · cases h; exact absurd rfl hx
      · cases h
  have st : ∀ {i : Nat}, i < vs.length → (L2.start N vs)[i]? = (vs.map some)[i]? := fun {i} hi => by
    unfold L2.start
    rw [List.getElem?_append_left (by simpa using hi)]
  have ob : ∀ {i : Nat}, isOB (args ++ List.replicate (N.length - args.length) .no) i → isOB args i ∧ i < vs.length := fun {i} ⟨d, h⟩ => by
    rcases h with h | h
    · obtain ⟨h1, h2⟩ := up (by simp) h; exact ⟨⟨d, .inl h1⟩, h2⟩
    · obtain ⟨h1, h2⟩ := up (by simp) h; exact ⟨⟨d, .inr h1⟩, h2⟩
  refine ⟨?_, fun i d h => ?_, fun i d h => ?_, fun i d h => ?_, fun i ns h => ?_, fun i j a hi hj ei ej => ?_, s.dom, s.keep, s.grow, s.incl, s.bof⟩
  · unfold L2.start
    simp only [List.length_append, List.length_replicate, List.length_map]
    omega
  · obtain ⟨h1, h2⟩ := up (by simp) h; rw [st h2]; exact s.val i d h1
  · obtain ⟨h1, h2⟩ := up (by simp) h; rw [st h2]; exact s.own i d h1
  · obtain ⟨h1, h2⟩ := up (by simp) h; rw [st h2]; exact s.bor i d h1
  · obtain ⟨h1, h2⟩ := up (by simp) h; rw [st h2]; exact s.scr i ns h1
  · obtain ⟨p1, p2⟩ := ob hi
    obtain ⟨q1, q2⟩ := ob hj
    rw [st p2] at ei
    rw [st q2] at ej
    exact s.dis i j a p1 q1 ei ej
end

/-! ### a def -/
structure FnG (P : Program) (w : World) (K : PySem.W.Frag) (mg : Str → Option Value) (base : Heap) (CX : CXT) (k : Nat) (f : Addr) (fd : FuncData) (ps : List Str) (sp : Sp) : Prop where
  len : ∀ vs H Q E, sp vs H Q E → vs.length = ps.length
  run : ∀ (A : Around) (outer : List Env) (s : Shared) (H : Hp) (args : Args) (us : List Value) (vs : List V) (Q : VK) (E : XK), Room k A → A.guards = some [] → Env0 P w K mg base A outer s H →
    BindsTo s fd args (ps.zip us) → Vals vs us → sp vs H Q E → codeAny (model P w) A (.call (.ref f) args) (CR CX outer P w H s Q E) s
theorem FnG.mono {P : Program} {w : World} {K : PySem.W.Frag} {mg : Str → Option Value} {base : Heap} {CX : CXT} {j k : Nat} {f : Addr} {fd : FuncData} {ps : List Str} {sp : Sp} (F : FnG P w K mg base CX j f fd ps sp) (h : j ≤ k) : FnG P w K mg base CX k f fd ps sp :=
  ⟨F.len, fun A outer s H args us vs Q E hr hg => F.run A outer s H args us vs Q E (hr.mono h) hg⟩
section
variable {CX : CXT} {P : Program} {w : World} {K : PySem.W.Frag} {mg : Str → Option Value} {base : Heap} {k : Nat} {f : Addr} {name qual : Str} {params : Arguments} {body : List Stmt} {scope : Scope} {dV kV doc pm cdv ct oc : Value} {an od : Option Addr}
  {osl : Array (Option Value)} {N ps : List Str}
theorem fn_ofG {sp : Sp} (lk : K.lookup f = some ⟨oc, od, .func (PySem.W.fnOf name qual params body scope dV kV doc pm an cdv ct), osl⟩) (hcd : PySem.W.codeIn K cdv qual = true) (S : FnScope N ps scope)
    (len : ∀ vs H Q E, sp vs H Q E → vs.length = ps.length)
    (hb : ∀ (A : Around) (outer : List Env) (s : Shared) (H : Hp) (vs : List V) (Q : VK) (E : XK), Room k (A.deeper (envOfC qual scope s.heap.objs.size f cdv)) → A.guards = some [] → sp vs H Q E →
      ∃ t, PSs (cxOf CX P w K mg base N qual scope f cdv A outer s H E) body t ∧ t { nx := fun _ H' => Q .non H', rt := Q } (start N vs) H) :
    FnG P w K mg base CX (k + 1) f (PySem.W.fnOf name qual params body scope dV kV doc pm an cdv ct) ps sp := ⟨len, fun A outer s H args us vs Q E hr gd e0 bd rv hsp => by
  have hl := len _ _ _ _ hsp
  have inS : K.In s.heap := e0.mod.kin.keeps fun b o q => (e0.bs b o q).1
  have nl : s.heap.NoLimit := e0.mod.nolimit.keeps fun b o q => (e0.bs b o q).1
  have kinds : ∀ y ∈ ps.zip us, scope.names.lookup y.1 = some .local ∨ (scope.names.lookup y.1 = some .cell ∧ ((cellsFrom (s.heap.objs.size + 1) scope.names []).lookup y.1).isSome = true) := by
    rintro ⟨n, v⟩ hy
    exact (S.par n (List.of_mem_zip hy).1).imp_right fun q => ⟨q, PySem.W.cellsFrom_some _ _ _ (.inl q)⟩
  refine codeAny_call_function hr.depth (inS _ _ lk) rfl S.co S.gen rfl (PySem.W.codeRec_of inS hcd) (bd _ _ _ _ (wpAny_newFunctionEnv_cells S.kind kinds fun env he s1 x => ?_))
  subst he
  refine ⟨nl.keeps x.toInCall.keep, codeAny_func ?_⟩
  obtain ⟨t, ht, hq⟩ := hb A outer s H vs Q E (hr.deeper _) gd hsp
  have st : Inv (cxOf CX P w K mg base N qual scope f cdv A outer s H E) [] (start N vs) H s1 := inv_start S hr.hd e0 hl rv x
  refine wpAny_mono (ht.run [] s1 _ H _ st hq) (fun fl s' hs => ?_) fun _ _ q => q
  have done : ∀ {σ' : St} {H' : Hp} {v : V} {u : Value}, Inv (cxOf CX P w K mg base N qual scope f cdv A outer s H E) [] σ' H' s' → RelV v u → Q v H' → CE outer P w H s Q u s' :=
    fun {σ' H' v u} J r q => ⟨v, H', J.os, J.bare, J.base, J.hok, r, q⟩
  cases fl with
  | ret u => obtain ⟨v, σ', H', J, r, q⟩ := hs; exact done J r q
  | next => obtain ⟨σ', H', J, q⟩ := hs; exact done (v := V.non) (u := Value.none) J rfl q
  | brk => exact hs.elim fun _ h => h.elim fun _ h => h.2.elim
  | cont => exact hs.elim fun _ h => h.elim fun _ h => h.2.elim⟩
/-- the context of a body -/
theorem cc_of {A : Around} {outer : List Env} {s : Shared} {H : Hp} {E : XK} {F : Addr → Prop} {bo : Option Addr} (S : FnScope N ps scope) (hr : Room k (A.deeper (envOfC qual scope s.heap.objs.size f cdv))) (gd : A.guards = some []) (fr : ∀ x : Str, bnames.contains x = true → mg x = none) :
    Cc (cxOf CX P w K mg base N qual scope f cdv A outer s H E) (c0 P w K H F bo) :=
  ⟨rfl, rfl, rfl, rfl, S.nd, by have := hr.un; show (A.deeper (envOfC qual scope s.heap.objs.size f cdv)).units + 100 < cLine; omega, gd, fr⟩
/-- a def, by what its body does on trees -/
theorem fn3 {b : SV} (lk : K.lookup f = some ⟨oc, od, .func (PySem.W.fnOf name qual params body scope dV kV doc pm an cdv ct), osl⟩) (hcd : PySem.W.codeIn K cdv qual = true) (S : FnScope N ps scope) (fr : ∀ x : Str, bnames.contains x = true → mg x = none)
    (hb : ∀ (A : Around) (outer : List Env) (s : Shared) (H : Hp) (E : XK) (F : Addr → Prop) (bo : Option Addr), Room k (A.deeper (envOfC qual scope s.heap.objs.size f cdv)) →
      Cc (cxOf CX P w K mg base N qual scope f cdv A outer s H E) (c0 P w K H F bo) → PSs (cxOf CX P w K mg base N qual scope f cdv A outer s H E) body (LS (c0 P w K H F bo) b)) :
    FnG P w K mg base CX (k + 1) f (PySem.W.fnOf name qual params body scope dV kV doc pm an cdv ct) ps (sp3 P w K ps.length (runF N.length b)) := by
  refine fn_ofG lk hcd S (fun vs H Q E h => h.1) fun A outer s H vs Q E hr gd hsp => ?_
  obtain ⟨hl, args, F, bo, sr, h⟩ := hsp
  have hpl : ps.length ≤ N.length := by have := congrArg List.length S.pre; rw [List.length_take] at this; omega
  refine ⟨_, hb A outer s H E F bo hr (cc_of S hr gd fr), LS.of (sr.enter (n := 0) N (by omega)) ?_⟩
  unfold runF at h
  generalize b (args ++ List.replicate (N.length - args.length) .no) = r at h
  match r, h with
  | .ok (.nx, ρ'), h => exact fun σ' H' F' s' _ => h _ H' F' (s'.out (r := .val .none) .non)
  | .ok (.rt r, ρ'), h => exact fun v σ' H' F' s' _ r' => h v H' F' (s'.out r')
  | .exc x, h => exact h.elim
  | .bad, h => exact h.elim
end

/-! ### calls -/
/-- no exception leaves -/
@[simp] def R.noX {α : Type} : R α → R α
  | .ok a => .ok a
  | _ => .bad
@[simp] theorem R.noX_ok {α : Type} (a : α) : (R.ok a).noX = .ok a := rfl
/-- what a call gives, the arguments frozen -/
@[simp] def eCall (m : FM) (g : AV) : EV := fun ρ => (g ρ).bind fun x => (m (x.1.map .val)).noX.bind fun y => .ok (y.1, x.2)
/-- the first argument a slot's own thing, lent -/
@[simp] def eLend (m : FM) (i : Nat) (g : AV) : EV := fun ρ => match (ρ[i]?).bind ownD with
  | some _ => (g ρ).bind fun x => match (x.2[i]?).bind ownD with
    | some d => (m (.bor d :: x.1.map .val)).noX.bind fun y => match y.2 with
      | some d' => .ok (y.1, mutS x.2 i d')
      | none => .bad
    | none => .bad
  | none => .bad
/-- the script is handed on -/
@[simp] def eScr (m : FM) (i : Nat) : EV := fun ρ => match ρ[i]? with
  | some (.scr ns) => (m [.scr ns]).noX.bind fun y => .ok (y.1, ρ)
  | _ => .bad
section
variable {c : C3} {σ : St} {ρ : En} {H H' : Hp} {F F' : Addr → Prop} {v : V} {r : Rs} {l : Option D}
/-- behind a call, nothing lent -/
theorem SR.after (s : SR c σ ρ H F) (o : OUT c.P c.w none H F H' F' v r l) : SR c σ ρ H' F' ∧ EX σ ρ H F ρ H' F' ∧ RR c σ ρ H H' F' v r := by
  have kp : ∀ a u, H a = some u → H' a = some u := fun a u q => o.keep a u q (by simp)
  have dm : ∀ a, H a ≠ none → H' a ≠ none := fun a h => by
    cases q : H a with
    | none => exact absurd q h
    | some u => rw [kp a u q]; simp
  have sm : ∀ a, H a ≠ none → H' a = H a := fun a h => by
    cases q : H a with
    | none => exact absurd q h
    | some u => exact kp a u q
  have re : ∀ a, F a → H' a = H a := fun a fa => sm a (s.dom a fa)
  have out : ∀ a, ¬ F a → H a ≠ none → ¬ F' a := fun a n h q => (o.gr a q).elim n h
  have ex : EX σ ρ H F ρ H' F' := ⟨o.fr, fun a u q _ => kp a u q, dm, fun a h => (o.gr a h).imp_right .inl, fun _ h => h⟩
  refine ⟨⟨s.len, fun i d h => ?_, fun i d h => ?_, fun i d h => ?_, s.scr, s.dis, o.dom, fun a u h n => kp a u (s.keep a u h n), fun a h => ?_, fun a h => o.fr a (s.incl a h), fun a h => ?_⟩, ex, ?_⟩
  · obtain ⟨u, e, q⟩ := s.val i d h
    exact ⟨u, e, q.mono o.fr re⟩
  · obtain ⟨a, e, n, z, y, t⟩ := s.own i d h
    exact ⟨a, e, out a n y, z, dm a y, t.mono o.fr re fun b hb => by cases hb; exact sm a y⟩
  · obtain ⟨i0, a, e, n, z, y, t⟩ := s.bor i d h
    exact ⟨i0, a, e, out a n y, z, dm a y, t.mono o.fr re fun b hb => by cases hb; exact sm a y⟩
  · exact (o.gr a h).elim (s.grow a) fun q => .inr (s.H0_none q)
  · obtain ⟨n, z, y⟩ := s.bof a h
    exact ⟨out a n y, z, dm a y⟩
  · have q := o.res
    cases r with
    | val d => exact q
    | own d =>
      obtain ⟨p, e, n, g, y, t⟩ := q
      exact ⟨p, e, n, g, s.H0_none g, y, t, fun z => s.oa_there z g⟩
/-- behind a call, slot i's thing lent -/
theorem SR.afterL (s : SR c σ ρ H F) {i : Nat} {d d' : D} {a : Addr} (hi : (ρ[i]?).bind ownD = some d) (ha : σ[i]? = some (some (.ref a))) (o : OUT c.P c.w (some a) H F H' F' v r (some d')) :
    SR c σ (mutS ρ i d') H' F' ∧ EX σ ρ H F (mutS ρ i d') H' F' ∧ RR c σ (mutS ρ i d') H H' F' v r := by
  obtain ⟨a', ea, nf, ya, _, oa⟩ := s.at_ob hi
  rw [ha] at ea; cases ea
  obtain ⟨nf', ya', ta⟩ := o.lent a rfl
  have ta := ta d' rfl
  have kp : ∀ b u, b ≠ a → H b = some u → H' b = some u := fun b u n q => o.keep b u q fun e => n (Option.some.inj e).symm
  have dm : ∀ b, H b ≠ none → H' b ≠ none := fun b h => by
    by_cases e : b = a
    · subst e; exact ya'
    · cases q : H b with
      | none => exact absurd q h
      | some u => rw [kp b u e q]; simp
  have sm : ∀ b, b ≠ a → H b ≠ none → H' b = H b := fun b e h => by
    cases q : H b with
    | none => exact absurd q h
    | some u => exact kp b u e q
  have ne : ∀ b, F b → b ≠ a := fun b fb e => nf (e ▸ fb)
  have re : ∀ b, F b → H' b = H b := fun b fb => sm b (ne b fb) (s.dom b fb)
  have out : ∀ b, ¬ F b → H b ≠ none → ¬ F' b := fun b n h q => (o.gr b q).elim n h
  cases q : ρ[i]? with
  | none => rw [q] at hi; cases hi
  | some x =>
    rw [q] at hi
    have hl : i < ρ.length := (List.getElem?_eq_some_iff.mp q).1
    have em : mutS ρ i d' = ρ.set i (setD x d') := by unfold mutS; rw [q]
    rw [em]
    have oi : isOB ρ i := ⟨d, (ownD_some hi).elim (fun e => .inl (e ▸ q)) fun e => .inr (e ▸ q)⟩
    have ob : ∀ j, isOB (ρ.set i (setD x d')) j → isOB ρ j := fun j ⟨e, he⟩ => by
      by_cases hij : i = j
      · subst hij; exact oi
      · rw [List.getElem?_set_ne hij] at he; exact ⟨e, he⟩
    have self : ∀ {z : Sl}, (ρ.set i (setD x d'))[i]? = some z → z = setD x d' := fun {z} hz => by rw [List.getElem?_set_self hl] at hz; exact (Option.some.inj hz).symm
    have ex : EX σ ρ H F (ρ.set i (setD x d')) H' F' := ⟨o.fr, fun b u h n => kp b u (fun e => n (e.symm ▸ oa)) h, dm, fun b h => (o.gr b h).imp_right .inl, ob⟩
    refine ⟨⟨by rw [List.length_set]; exact s.len, fun j e hj => ?_, fun j e hj => ?_, fun j e hj => ?_, fun j ns hj => ?_, fun j k b hj hk => s.dis j k b (ob j hj) (ob k hk), o.dom, fun b u hb nb => ?_, fun b h => ?_, fun b h => o.fr b (s.incl b h), fun b hb => ?_⟩, ex, ?_⟩
    · by_cases hij : i = j
      · subst hij
        have ez := self hj
        rcases ownD_some hi with e' | e' <;> subst e' <;> cases ez
      · rw [List.getElem?_set_ne hij] at hj
        obtain ⟨u, e1, t⟩ := s.val j e hj
        exact ⟨u, e1, t.mono o.fr re⟩
    · by_cases hij : i = j
      · subst hij
        have ez := self hj
        rcases ownD_some hi with e' | e'
        · subst e'; cases ez
          obtain ⟨a2, e2, _, z, _, _⟩ := s.own i d q
          rw [ha] at e2; cases e2
          exact ⟨a, ha, nf', z, ya', ta⟩
        · subst e'; cases ez
      · rw [List.getElem?_set_ne hij] at hj
        obtain ⟨b, e1, n, z, y1, t⟩ := s.own j e hj
        have nb : b ≠ a := fun eb => hij (s.dis i j a oi ⟨e, .inl hj⟩ ha (eb ▸ e1))
        exact ⟨b, e1, out b n y1, z, dm b y1, t.mono o.fr re fun b' hb' => by cases hb'; exact sm b nb y1⟩
    · by_cases hij : i = j
      · subst hij
        have ez := self hj
        rcases ownD_some hi with e' | e'
        · subst e'; cases ez
        · subst e'; cases ez
          obtain ⟨i0, a2, e2, _, z, _, _⟩ := s.bor i d q
          rw [ha] at e2; cases e2
          exact ⟨i0, a, ha, nf', z, ya', ta⟩
      · rw [List.getElem?_set_ne hij] at hj
        obtain ⟨j0, b, e1, n, z, y1, t⟩ := s.bor j e hj
        have nb : b ≠ a := fun eb => hij (s.dis i j a oi ⟨e, .inr hj⟩ ha (eb ▸ e1))
        exact ⟨j0, b, e1, out b n y1, z, dm b y1, t.mono o.fr re fun b' hb' => by cases hb'; exact sm b nb y1⟩
    · by_cases hij : i = j
      · subst hij
        have ez := self hj
        rcases ownD_some hi with e' | e' <;> subst e' <;> cases ez
      · rw [List.getElem?_set_ne hij] at hj
        exact s.scr j ns hj
    · by_cases eb : b = a
      · subst eb
        rcases ownD_some hi with e' | e'
        · subst e'
          obtain ⟨a2, e2, _, z, _⟩ := s.own i d q
          rw [ha] at e2; cases e2
          rw [z] at hb; cases hb
        · subst e'
          obtain ⟨_, a2, e2, _, z, _⟩ := s.bor i d q
          rw [ha] at e2; cases e2
          exact absurd z nb
      · exact kp b u eb (s.keep b u hb nb)
    · exact (o.gr b h).elim (s.grow b) fun q => .inr (s.H0_none q)
    · obtain ⟨n, z, y1⟩ := s.bof b hb
      exact ⟨out b n y1, z, dm b y1⟩
    · have rs := o.res
      cases r with
      | val d => exact rs
      | own d =>
        obtain ⟨p, e, n, g, y, t⟩ := rs
        exact ⟨p, e, n, g, s.H0_none g, y, t, fun z => s.oa_there (ex.oa z) g⟩
/-- frozen arguments -/
theorem SR.args (s : SR c σ ρ H F) {vs : List V} {ds : List D} (h : RpA c.P c.w H F vs ds) : SR (c0 c.P c.w c.K H F none) (vs.map some) (ds.map .val) H F := by
  have isv : ∀ {i : Nat} {x : Sl}, (ds.map Sl.val)[i]? = some x → ∃ d, x = .val d ∧ ds[i]? = some d := fun {i x} h => by
    rw [List.getElem?_map] at h
    cases q : ds[i]? with
    | none => rw [q] at h; cases h
    | some d => rw [q] at h; cases h; exact ⟨d, rfl, rfl⟩
  refine ⟨by simp [h.length], fun i d hi => ?_, fun i d hi => ?_, fun i d hi => ?_, fun i d hi => ?_, fun i j a hi => ?_, s.dom, fun _ _ h _ => h, fun _ h => .inl h, fun _ h => h, fun a h => nomatch h⟩
  · obtain ⟨e, he, hd⟩ := isv hi
    cases he
    obtain ⟨v, hv, rv⟩ := h.at hd
    exact ⟨v, by rw [List.getElem?_map, hv]; rfl, rv⟩
  · obtain ⟨e, he, _⟩ := isv hi; cases he
  · obtain ⟨e, he, _⟩ := isv hi; cases he
  · obtain ⟨e, he, _⟩ := isv hi; cases he
  · obtain ⟨d, hi | hi⟩ := hi <;> (obtain ⟨e, he, _⟩ := isv hi; cases he)
theorem SR.argsL (s : SR c σ ρ H F) {i : Nat} {d : D} {a : Addr} (hi : (ρ[i]?).bind ownD = some d) (ha : σ[i]? = some (some (.ref a))) {vs : List V} {ds : List D} (h : RpA c.P c.w H F vs ds) :
    SR (c0 c.P c.w c.K H F (some a)) ((V.ref a :: vs).map some) (.bor d :: ds.map .val) H F := by
  obtain ⟨a', ea, nf, ya, t, _⟩ := s.at_ob hi
  rw [ha] at ea; cases ea
  have s' := s.args h
  refine ⟨by simp [h.length], fun j e hj => ?_, fun j e hj => ?_, fun j e hj => ?_, fun j e hj => ?_, fun j k b hj hk ej ek => ?_, s.dom, fun _ _ h _ => h, fun _ h => .inl h, fun _ h => h, fun b hb => ?_⟩
  · cases j with
    | zero => cases hj
    | succ j => exact s'.val j e hj
  · cases j with
    | zero => cases hj
    | succ j =>
      obtain ⟨b, e1, n, z, y, _⟩ := s'.own j e hj
      exact absurd z y
  · cases j with
    | zero => cases hj; exact ⟨rfl, a, rfl, nf, rfl, ya, t⟩
    | succ j =>
      obtain ⟨_, b, _, _, z, _⟩ := s'.bor j e hj
      exact nomatch z
  · cases j with
    | zero => cases hj
    | succ j =>
      have hj : (ds.map Sl.val)[j]? = some (.scr e) := hj
      rw [List.getElem?_map] at hj
      cases q : ds[j]? with
      | none => rw [q] at hj; cases hj
      | some _ => rw [q] at hj; cases hj
  · have z : ∀ {j : Nat}, isOB (.bor d :: ds.map Sl.val) j → j = 0 := fun {j} hj => by
      cases j with
      | zero => rfl
      | succ j =>
        obtain ⟨e, hj⟩ := hj
        have hj : (ds.map Sl.val)[j]? = some (.own e) ∨ (ds.map Sl.val)[j]? = some (.bor e) := hj
        rw [List.getElem?_map] at hj
        cases q : ds[j]? with
        | none => rw [q] at hj; rcases hj with h | h <;> cases h
        | some _ => rw [q] at hj; rcases hj with h | h <;> cases h
    rw [z hj, z hk]
  · cases hb
    exact ⟨nf, ya, ya⟩
end
section
variable {X : Cx} {c : C3} {CX : CXT} {k : Nat} {f : Addr} {fd : FuncData} {ps : List Str} {x : Str} {p pos : Pos} {e : Expr} {es : List Expr} {m : FM} {n : Nat} {sp : Sp}
/-- a call's wish about exceptions: none -/
abbrev noX : XK := fun _ _ _ => False
theorem run_G {pins : List (Addr × Obj)} {σ : St} {H : Hp} {s : Shared} {Q : VK} {us : List Value} {vs : List V} (cc : Cc X c) (F : FnG X.prog X.w X.K X.mg X.base CX k f fd ps sp) (hr : Room k X.A) (hb : ∀ (s : Shared) (us : List Value), us.length = ps.length → BindsTo s fd ⟨us, []⟩ (ps.zip us)) (hx : Passes CX X noX)
    (I : Inv X pins σ H s) (rv : Vals vs us) (h : sp vs H Q noX) : wpAny (model X.prog X.w) X.A (call (.ref f) us) (EP X pins σ Q) X.xe s := by
  have hl : us.length = ps.length := by rw [← rv.length]; exact F.len _ _ _ _ h
  refine wpAny_call (codeAny_mono (F.run X.A X.stack s H ⟨us, []⟩ us vs Q noX hr cc.gd I.env0 (hb s us hl) rv h) fun r s' hq => ?_)
  match r, hq with
  | .error e, hq => exact hx pins σ H s e s' I hq
  | .ok (.ret u), hq => exact I.after hq
  | .ok .next, hq => exact hq.elim
  | .ok .brk, hq => exact hq.elim
  | .ok .cont, hq => exact hq.elim
theorem pe_callG (cc : Cc X c) {t : TA} (F : FnG X.prog X.w X.K X.mg X.base CX k f fd ps sp) (hr : Room k X.A) (hb : ∀ (s : Shared) (us : List Value), us.length = ps.length → BindsTo s fd ⟨us, []⟩ (ps.zip us)) (hx : Passes CX X noX) (hm : X.mg x = some (.ref f)) (hk : PySem.W.keepIn X.K (.ref f) = true)
    (ha : PA X (e :: es) t) (hg : Gl X x) (hd : (x == ("__debug__" : Str)) = false) (he : starEach (e :: es) X.env = (false, eval e X.env) :: starEach es X.env) (hp : (backTo pos (starEach es X.env)).any (·.1) = false) :
    PE X (.Call (.Name x p) (e :: es) [] pos) (fun σ H Q => t σ H fun vs H1 => sp vs H1 Q noX) := ⟨fun pins s σ H Q I h => by
  refine wpAny_Call_Name_kw (ld_glob I hg hm ?_ hd)
  exact PySem.W.callWith_K (h₀ := X.base) I.ok.mod.kin hk (thn (ha.run pos pins s σ H _ I h) fun us s1 ⟨vs, H1, I1, rv, q⟩ => ⟨I1.kIn, run_G cc F hr hb hx I1 rv q⟩) he hp⟩
theorem pe_callG0 (cc : Cc X c) (F : FnG X.prog X.w X.K X.mg X.base CX k f fd ps sp) (hr : Room k X.A) (hb : ∀ (s : Shared) (us : List Value), us.length = ps.length → BindsTo s fd ⟨us, []⟩ (ps.zip us)) (hx : Passes CX X noX) (hm : X.mg x = some (.ref f)) (hk : PySem.W.keepIn X.K (.ref f) = true)
    (hg : Gl X x) (hd : (x == ("__debug__" : Str)) = false) : PE X (.Call (.Name x p) [] [] pos) (fun σ H Q => sp [] H Q noX) := ⟨fun pins s σ H Q I h => by
  refine wpAny_Call_Name_kw (ld_glob I hg hm ?_ hd)
  exact PySem.W.callWith_K0 I.kIn hk (run_G (us := []) cc F hr hb hx I .nil h)⟩
end

/-- a def as a caller knows it -/
structure Fn3 (X : Cx) (CX : CXT) (k : Nat) (x : Str) (n : Nat) (m : FM) : Prop where
  go : ∃ f fd ps, FnG X.prog X.w X.K X.mg X.base CX k f fd ps (sp3 X.prog X.w X.K n m) ∧ Room k X.A ∧ (∀ (s : Shared) (us : List Value), us.length = ps.length → BindsTo s fd ⟨us, []⟩ (ps.zip us)) ∧ Passes CX X noX ∧ X.mg x = some (.ref f) ∧ PySem.W.keepIn X.K (.ref f) = true
section
variable {X : Cx} {c : C3} {CX : CXT} {k : Nat} {x y : Str} {p px pos : Pos} {e : Expr} {es : List Expr} {m : FM} {n : Nat} {g : AV}
theorem call_end {H : Hp} {F : Addr → Prop} {Q : VK} {args : List Sl} {vs : List V} {bo : Option Addr} (hn : vs.length = n) (s' : SR (c0 c.P c.w c.K H F bo) (vs.map some) args H F) {r : Rs} {l : Option D} (hm : m args = .ok (r, l))
    (h : ∀ v H' F', OUT c.P c.w bo H F H' F' v r l → Q v H') : sp3 c.P c.w c.K n m vs H Q noX := ⟨hn, args, F, bo, s', by rw [hm]; exact h⟩
/-- what is evaluated ahead of a call -/
theorem r_call (cc : Cc X c) (F : Fn3 X CX k x n m) (ha : PA X (e :: es) (LA c g)) (hlen : ∀ ρ ds ρ', g ρ = .ok (ds, ρ') → ds.length = n) (hg : Gl X x := by rfl) (hd : (x == ("__debug__" : Str)) = false := by decide) (he : starEach (e :: es) X.env = (false, eval e X.env) :: starEach es X.env := by rfl) (hp : (backTo pos (starEach es X.env)).any (·.1) = false := by rfl) :
    PE X (.Call (.Name x p) (e :: es) [] pos) (LE c (eCall m g)) := by
  obtain ⟨f, fd, ps, F, hr, hb, hx, hm, hk⟩ := F.go
  refine PE.imp (pe_callG cc F hr hb hx hm hk ha hg hd he hp) fun σ H Q h => ?_
  obtain ⟨ρ, F0, s, h⟩ := h
  refine ⟨ρ, F0, s, ?_⟩
  unfold eCall at h
  cases qg : g ρ with
  | bad => rw [qg] at h; exact h
  | exc z => rw [qg] at h; exact h
  | ok z =>
    obtain ⟨ds, ρ1⟩ := z
    rw [qg] at h
    dsimp only [R.bind] at h
    intro vs H1 F1 s1 e1 r1
    have hl : vs.length = n := by rw [r1.length]; exact hlen _ _ _ qg
    cases qm : m (ds.map .val) with
    | bad => rw [qm] at h; exact h.elim
    | exc z => rw [qm] at h; exact h.elim
    | ok z =>
      obtain ⟨r, l⟩ := z
      rw [qm] at h
      rw [cc.P, cc.w, cc.K]
      refine call_end hl (s1.args r1) qm fun v H' F' o => ?_
      obtain ⟨s2, e2, r2⟩ := s1.after o
      exact h v H' F' s2 (e1.trans e2) (RR.back e1 r2)
theorem r_call0 (cc : Cc X c) (F : Fn3 X CX k x 0 m) (hg : Gl X x := by rfl) (hd : (x == ("__debug__" : Str)) = false := by decide) : PE X (.Call (.Name x p) [] [] pos) (LE c (eCall m aNil)) := by
  obtain ⟨f, fd, ps, F, hr, hb, hx, hm, hk⟩ := F.go
  refine PE.imp (pe_callG0 cc F hr hb hx hm hk hg hd) fun σ H Q h => ?_
  obtain ⟨ρ, F0, s, h⟩ := h
  unfold eCall aNil at h
  dsimp only [R.bind] at h
  rw [show List.map Sl.val [] = [] from rfl] at h
  cases qm : m [] with
  | bad => rw [qm] at h; exact h.elim
  | exc z => rw [qm] at h; exact h.elim
  | ok z =>
    obtain ⟨r, l⟩ := z
    rw [qm] at h
    rw [cc.P, cc.w, cc.K]
    refine call_end rfl (s.args .nil) qm fun v H' F' o => ?_
    obtain ⟨s2, e2, r2⟩ := s.after o
    exact h v H' F' s2 e2 r2
/-- f(x, ..), x a slot whose thing is lent -/
theorem r_lend (cc : Cc X c) (i : Nat) (F : Fn3 X CX k x n m) (ha : PA X es (LA c g)) (hlen : ∀ ρ ds ρ', g ρ = .ok (ds, ρ') → ds.length + 1 = n) (hN : X.N[i]? = some y := by rfl) (hv : Vis X.env.scope y := by first | exact Or.inl rfl | exact Or.inr (Or.inl rfl) | exact Or.inr (Or.inr rfl)) (hdy : (y == ("__debug__" : Str)) = false := by decide) (hcd : (y == ("__classdict__" : Str)) = false := by decide)
    (hg : Gl X x := by rfl) (hd : (x == ("__debug__" : Str)) = false := by decide) (he : starEach (.Name y px :: es) X.env = (false, eval (.Name y px) X.env) :: starEach es X.env := by rfl) (hp : (backTo pos (starEach es X.env)).any (·.1) = false := by rfl) :
    PE X (.Call (.Name x p) (.Name y px :: es) [] pos) (LE c (eLend m i g)) := by
  obtain ⟨f, fd, ps, F, hr, hb, hx, hm, hk⟩ := F.go
  refine PE.imp (pe_callG cc F hr hb hx hm hk (pa_cons (pe_var hN hv hdy hcd) ha he) hg hd he hp) fun σ H Q h => ?_
  obtain ⟨ρ, F0, s, h⟩ := h
  unfold eLend at h
  cases q0 : (ρ[i]?).bind ownD with
  | none => rw [q0] at h; exact h.elim
  | some d0 =>
    rw [q0] at h
    dsimp only at h
    obtain ⟨a, ea, _⟩ := s.at_ob q0
    refine ⟨_, ea, ρ, F0, s, ?_⟩
    cases qg : g ρ with
    | bad => rw [qg] at h; exact h
    | exc z => rw [qg] at h; exact h
    | ok z =>
      obtain ⟨ds, ρ1⟩ := z
      rw [qg] at h
      dsimp only [R.bind] at h
      intro vs H1 F1 s1 e1 r1
      have hl : (V.ref a :: vs).length = n := by rw [List.length_cons, r1.length]; exact hlen _ _ _ qg
      cases q1 : (ρ1[i]?).bind ownD with
      | none => rw [q1] at h; exact h.elim
      | some d =>
        rw [q1] at h
        dsimp only at h
        cases qm : m (.bor d :: ds.map .val) with
        | bad => rw [qm] at h; exact h.elim
        | exc z => rw [qm] at h; exact h.elim
        | ok z =>
          obtain ⟨r, l⟩ := z
          rw [qm] at h
          dsimp only [R.noX] at h
          cases l with
          | none => exact h.elim
          | some d' =>
            rw [cc.P, cc.w, cc.K]
            refine call_end hl (s1.argsL q1 ea r1) qm fun v H' F' o => ?_
            obtain ⟨s2, e2, r2⟩ := s1.afterL q1 ea o
            exact h v H' F' s2 (e1.trans e2) (RR.back e1 r2)
/-- f(script) -/
theorem r_scr (cc : Cc X c) (i : Nat) (F : Fn3 X CX k x 1 m) (hN : X.N[i]? = some y := by rfl) (hv : Vis X.env.scope y := by first | exact Or.inl rfl | exact Or.inr (Or.inl rfl) | exact Or.inr (Or.inr rfl)) (hdy : (y == ("__debug__" : Str)) = false := by decide) (hcd : (y == ("__classdict__" : Str)) = false := by decide)
    (hg : Gl X x := by rfl) (hd : (x == ("__debug__" : Str)) = false := by decide) (he : starEach [.Name y px] X.env = (false, eval (.Name y px) X.env) :: starEach [] X.env := by rfl) (hp : (backTo pos (starEach [] X.env)).any (·.1) = false := by rfl) :
    PE X (.Call (.Name x p) [.Name y px] [] pos) (LE c (eScr m i)) := by
  obtain ⟨f, fd, ps, F, hr, hb, hx, hm, hk⟩ := F.go
  refine PE.imp (pe_callG cc F hr hb hx hm hk (pa_cons (pe_var hN hv hdy hcd) pa_nil he) hg hd he hp) fun σ H Q h => ?_
  obtain ⟨ρ, F0, s, h⟩ := h
  unfold eScr at h
  cases q : ρ[i]? with
  | none => rw [q] at h; exact h.elim
  | some z =>
  rw [q] at h
  cases z with
  | scr ns =>
    dsimp only at h
    obtain ⟨a, ea, sc⟩ := s.scr i ns q
    refine ⟨_, ea, ?_⟩
    cases qm : m [.scr ns] with
    | bad => rw [qm] at h; exact h.elim
    | exc z => rw [qm] at h; exact h.elim
    | ok z =>
      obtain ⟨r, l⟩ := z
      rw [qm] at h
      dsimp only [R.noX, R.bind] at h
      have s0 := s.args .nil
      have s1 : SR (c0 c.P c.w c.K H F0 none) ([V.ref a].map some) [.scr ns] H F0 := by
        refine ⟨rfl, fun j e hj => ?_, fun j e hj => ?_, fun j e hj => ?_, fun j ms hj => ?_, fun j k b hj => ?_, s0.dom, s0.keep, s0.grow, s0.incl, s0.bof⟩
        · cases j with
          | zero => cases hj
          | succ j => cases hj
        · cases j with
          | zero => cases hj
          | succ j => cases hj
        · cases j with
          | zero => cases hj
          | succ j => cases hj
        · cases j with
          | zero =>
            cases hj
            refine ⟨a, rfl, ?_⟩
            rcases sc with ⟨o, h1, h2⟩ | sc
            · exact .inl ⟨o, s.keep a _ h1 h2, by simp⟩
            · exact .inr sc
          | succ j => cases hj
        · obtain ⟨d, hj | hj⟩ := hj <;> cases j <;> cases hj
      rw [cc.P, cc.w, cc.K]
      refine call_end rfl s1 qm fun v H' F' o => ?_
      obtain ⟨s2, e2, r2⟩ := s.after o
      exact h v H' F' s2 e2 r2
  | _ => exact h.elim
end
end L3

end
section
/-! L3, part K: more operations on trees. -/
namespace L3
open PySem PySem.Spec PyProof.Rows L2

/-! ### the table's built-in names -/
theorem bt_len : bootBuiltins ("len" : Str) = some (.builtin "len") := by decide +kernel
theorem bt_abs : bootBuiltins ("abs" : Str) = some (.builtin "abs") := by decide +kernel
theorem bt_min : bootBuiltins ("min" : Str) = some (.builtin "min") := by decide +kernel
theorem bt_max : bootBuiltins ("max" : Str) = some (.builtin "max") := by decide +kernel
theorem bt_sum : bootBuiltins ("sum" : Str) = some (.builtin "sum") := by decide +kernel
theorem bt_all : bootBuiltins ("all" : Str) = some (.builtin "all") := by decide +kernel
theorem bt_any : bootBuiltins ("any" : Str) = some (.builtin "any") := by decide +kernel
theorem bt_repr : bootBuiltins ("repr" : Str) = some (.builtin "repr") := by decide +kernel
theorem bt_sorted : bootBuiltins ("sorted" : Str) = some (.builtin "sorted") := by decide +kernel
theorem bt_isi : bootBuiltins ("isinstance" : Str) = some (.builtin "isinstance") := by decide +kernel
theorem bt_int : bootBuiltins ("int" : Str) = some (.type "int") := by decide +kernel
theorem bt_bool : bootBuiltins ("bool" : Str) = some (.type "bool") := by decide +kernel
theorem bt_str : bootBuiltins ("str" : Str) = some (.type "str") := by decide +kernel
theorem bt_tuple : bootBuiltins ("tuple" : Str) = some (.type "tuple") := by decide +kernel
theorem bt_list : bootBuiltins ("list" : Str) = some (.type "list") := by decide +kernel
theorem bt_dict : bootBuiltins ("dict" : Str) = some (.type "dict") := by decide +kernel
theorem bt_set : bootBuiltins ("set" : Str) = some (.type "set") := by decide +kernel

/-! ### isinstance(x, T) -/
inductive BT where
  | int | bool | str | tuple
def BT.nm : BT → String
  | .int => "int"
  | .bool => "bool"
  | .str => "str"
  | .tuple => "tuple"
def BT.x : BT → Str
  | .int => "int"
  | .bool => "bool"
  | .str => "str"
  | .tuple => "tuple"
@[simp] def isiB (T : BT) (d : D) : Bool := match T, d with
  | .int, .int _ => true
  | .int, .bool _ => true
  | .bool, .bool _ => true
  | .str, .str _ => true
  | .tuple, .tuple _ => true
  | _, _ => false
@[simp] def isiG (T : BT) : D → Option Rs := fun d => some (.val (.bool (isiB T d)))
def tyN : D → String
  | .none => "NoneType"
  | .bool _ => "bool"
  | .int _ => "int"
  | .str _ => "str"
  | .list _ => "list"
  | .tuple _ => "tuple"
  | .dict _ => "dict"
theorem kb_NoneType (T : BT) : kitB "NoneType" T.nm = some (match T with
    | .int => false
    | .bool => false
    | .str => false
    | .tuple => false) := by cases T <;> decide +kernel
theorem kb_bool (T : BT) : kitB "bool" T.nm = some (match T with
    | .int => true
    | .bool => true
    | .str => false
    | .tuple => false) := by cases T <;> decide +kernel
theorem kb_int (T : BT) : kitB "int" T.nm = some (match T with
    | .int => true
    | .bool => false
    | .str => false
    | .tuple => false) := by cases T <;> decide +kernel
theorem kb_str (T : BT) : kitB "str" T.nm = some (match T with
    | .int => false
    | .bool => false
    | .str => true
    | .tuple => false) := by cases T <;> decide +kernel
theorem kb_list (T : BT) : kitB "list" T.nm = some (match T with
    | .int => false
    | .bool => false
    | .str => false
    | .tuple => false) := by cases T <;> decide +kernel
theorem kb_tuple (T : BT) : kitB "tuple" T.nm = some (match T with
    | .int => false
    | .bool => false
    | .str => false
    | .tuple => true) := by cases T <;> decide +kernel
theorem kb_dict (T : BT) : kitB "dict" T.nm = some (match T with
    | .int => false
    | .bool => false
    | .str => false
    | .tuple => false) := by cases T <;> decide +kernel
theorem kit_tab {K : PySem.W.Frag} (T : BT) (d : D) : PySem.W.kitOne K (.type (tyN d)) (.type T.nm) = some (isiB T d) := by
  cases d with
  | none => exact (kit_ty (kb_NoneType T)).trans (by cases T <;> rfl)
  | bool _ => exact (kit_ty (kb_bool T)).trans (by cases T <;> rfl)
  | int _ => exact (kit_ty (kb_int T)).trans (by cases T <;> rfl)
  | str _ => exact (kit_ty (kb_str T)).trans (by cases T <;> rfl)
  | list _ => exact (kit_ty (kb_list T)).trans (by cases T <;> rfl)
  | tuple _ => exact (kit_ty (kb_tuple T)).trans (by cases T <;> rfl)
  | dict _ => exact (kit_ty (kb_dict T)).trans (by cases T <;> rfl)
theorem Tp.kit {X : Cx} {c : C3} (cc : Cc X c) {pins : List (Addr × Obj)} {σ : St} {H : Hp} {s : Shared} {F : Addr → Prop} {v : V} {u : Value} {d : D} (I : Inv X pins σ H s) (t : Tp c.P c.w H F v d) (r : RelV v u) :
    ∃ P : Heap → Prop, PySem.W.KitX X.K u (.type (tyN d)) P ∧ P s.heap ∧ u ≠ .builtin "__main__.__loader__#opaque" := by
  have raw : ∀ {a : Addr} {o : Obj}, H a = some (rawd a o) → o.ExactDict → RelV (.ref a) u → ∃ P : Heap → Prop, PySem.W.KitX X.K u (.type "dict") P ∧ P s.heap ∧ u ≠ .builtin "__main__.__loader__#opaque" := fun {a o} h ex r => by
    cases r
    obtain ⟨e, _⟩ := I.hok a _ h
    exact ⟨_, PySem.W.kitx_dict, ⟨o, e, ex.1⟩, fun z => nomatch z⟩
  have dk : ∀ {o : Obj} {vs : List (Key × Value)}, o.IsDictOf (mixKind c.P c.w) vs → o.ExactDict := fun {o vs} h => by
    obtain ⟨es, ep, h1, _⟩ := h; exact h1
  cases t with
  | lst h _ => exact kit_of I r (.base (.lst h))
  | dicK _ h o _ _ => exact raw h (dk o) r
  | dicT _ h o _ => exact raw h o.1 r
  | rp q =>
    cases q with
    | non => exact kit_of I r (.base .non)
    | bl b => exact kit_of I r (.base (.bl b))
    | int i => exact kit_of I r (.base (.int i))
    | str x => exact kit_of I r (.base (.str x))
    | lst _ h _ => exact kit_of I r (.base (.lst h))
    | tup _ h _ => exact kit_of I r (.base (.tup h))
    | dicK _ _ h o _ _ => exact raw h (dk o) r
    | dicT _ _ h o _ => exact raw h o.1 r
section
variable {X : Cx} {c : C3} {a : Expr} {fa : OV} {p q pos : Pos}
theorem call_isiG (cc : Cc X c) (T : BT) : CallR X (.builtin "isinstance") (fun xs H Q => ∃ x, xs = [x, .ty T.nm] ∧ rG1 c (isiG T) x H Q) := fun pins s σ H xs us Q I r h => by
  obtain ⟨x, rfl, σ', ρ, F, d, sr, t, h⟩ := h
  obtain ⟨u1, u2, rfl, r1, r2⟩ := vals2 r
  cases r2
  obtain ⟨P, Z, hp, hx⟩ := t.kit cc I r1
  exact PySem.W.kia_one Z I.kIn hp (kit_tab T d) hx fun tk => ⟨.bl (isiB T d), H, I.tok tk, rfl, h.val sr (.bl _)⟩
theorem r_isi (cc : Cc X c) (T : BT) (ha : PE X a (LO c fa)) (hv : bootBuiltins T.x = some (.type T.nm)) (hg : Gl X "isinstance" := by rfl) (hg2 : Gl X T.x := by rfl) (hb : bnames.contains T.x = true := by rfl) (hn : T.x ≠ "__name__" := by decide) (hdb : (T.x == ("__debug__" : Str)) = false := by decide)
    (h1 : starEach [a, .Name T.x q] X.env = (false, eval a X.env) :: starEach [.Name T.x q] X.env := by rfl) (h2 : starEach [.Name T.x q] X.env = (false, eval (.Name T.x q) X.env) :: starEach [] X.env := by rfl) (hpl : (backTo pos (starEach [.Name T.x q] X.env)).any (·.1) = false := by rfl) :
    PE X (.Call (.Name "isinstance" p) [a, .Name T.x q] [] pos) (LE c (eOp1 (isiG T) fa)) :=
  PE.imp (pe_callB (call_isiG cc T) hg (cc.fr _ (by rfl)) bt_isi (pa_cons ha (pa_cons (pe_bltn (v := .ty T.nm) hg2 (cc.fr _ hb) hv rfl hn hdb) pa_nil h2) h1) (by decide) (by decide) h1 hpl) fun σ H Q h =>
    LO.imp (le_op1 h) fun v H1 h1 => ⟨v, rfl, h1⟩
end

/-! ### products -/
def mulG : D → D → Option Rs
  | .int i, .int j => if smallZ i || smallZ j then some (.val (.int (i * j))) else none
  | .list xs, .int k => if bitsZ 62 k = true ∧ xs.length * k.toNat ≤ sizeLine then some (.own (.list (List.replicate k.toNat xs).flatten)) else none
  | .tuple xs, .int k => if xs ≠ [] ∧ 1 ≤ k ∧ k ≤ 1000 ∧ xs.length ≤ 1000 then some (.val (.tuple (List.replicate k.toNat xs).flatten)) else none
  | _, _ => none
theorem tuple_mul1 (l : Addr) (items : Array Value) (n : Nat) (sl : Array (Option Value)) (dd : Option Addr) (x : Int) (u : Tok) (c0 : (decide (x < -(2 ^ 63)) || decide (x ≥ 2 ^ 63)) = false) (c1 : (items.isEmpty || x == 1) = true) :
    Meets (Builtin.«tuple.__mul__» ⟨[.ref l, .int x u], []⟩) (fun _ R s => s.heap.get? l = some { cls := .type "tuple", dict := dd, data := .seq items n, slots := sl } ∧ R (.ok (.ret (Value.ref l))) s) :=
  .of_wp fun prog w A R s h => by
    obtain ⟨hp, g, d, tk, os⟩ := s
    obtain ⟨hl, h⟩ := h
    have f1 := AutoSeq1.idx_int
    wp_walk using wpAny_loadPart' hl
    repeat (first
      | (refine wpAny_ite_false (decide_eq_false (by rw [c0]; exact Bool.false_ne_true)) ?_; wp_walk using wpAny_loadPart' hl)
      | (refine wpAny_ite_true (decide_eq_true c1) ?_; wp_walk using wpAny_loadPart' hl))
    exact ⟨_, rfl, h⟩
theorem RpA.rep {P : Program} {w : World} {H : Hp} {F : Addr → Prop} {vs : List V} {ds : List D} (h : RpA P w H F vs ds) : ∀ k : Nat, RpA P w H F (List.replicate k vs).flatten (List.replicate k ds).flatten
  | 0 => .nil
  | k + 1 => by
    rw [List.replicate_succ, List.replicate_succ, List.flatten_cons, List.flatten_cons]
    exact h.append (RpA.rep h k)
section
variable {X : Cx} {c : C3}
theorem op_rep1 : OpR X (binaryOp .Mult) (fun x y H Q => ∃ l xs, x = .ref l ∧ y = .int 1 ∧ SqT X.K H l xs ∧ Q (.ref l) H) := fun pins s σ H x y v u Q I rx ry h => by
  obtain ⟨l, xs, rfl, rfl, hT, q⟩ := h
  cases rx
  obtain ⟨t, rfl⟩ := ry
  obtain ⟨its, r, ⟨⟨cls, dd, data, sl⟩, ho, hc, n, hd⟩, hs⟩ := I.tuple hT
  simp only at hc hd
  subst hc hd
  have ti : ∀ s' : Shared, s'.TypeIs (.int 1 t) "int" := fun s' => typeIs_int s' 1 t
  exact wpAny_binaryOp_repeat_ref (T := "tuple") (U := "int") (by decide) ⟨_, ho, rfl⟩ ti noFill_tuple_mul F.fills_int_mul F.slot_int_rmul repeat_tuple F.slot_int_index.lookup
    (call_meets F.slot_int_rmul (ti s) F.entry_int_rmul (F.args_int_rmul_2 _ _) (int_rmul_tuple 1 t l its.toArray n dd sl)
      ⟨ho, rfl, ⟨_, ho, rfl⟩, call_meets F.slot_tuple_mul ⟨_, ho, rfl⟩ F.entry_tuple_mul (F.args_tuple_mul_2 _ _) (tuple_mul1 l its.toArray n sl dd 1 t (by decide) (by simp)) ⟨ho, .ref l, H, I, rfl, q⟩⟩)
theorem op_mulG : OpR X (binaryOp .Mult) (rG2 c mulG) :=
  OpR.imp (op_mul.or (op_rep.or (op_repT.or op_rep1))) fun x y H Q h => by
    obtain ⟨σ, ρ, F, dx, dy, s, tx, ty, h⟩ := h
    unfold mulG at h
    split at h
    · split at h
      · rename_i hz
        obtain rfl := tx.int
        obtain rfl := ty.int
        rw [Bool.or_eq_true] at hz
        exact .inl ⟨_, _, rfl, rfl, hz.imp smallZ.of smallZ.of, h.val s (.int _)⟩
      · exact h.elim
    · split at h
      · rename_i hz
        obtain ⟨a, xs, rfl, ha, ra⟩ := tx.list
        obtain rfl := ty.int
        have hb := bitsZ.lt (by decide) hz.1
        exact .inr (.inl ⟨a, _, xs, rfl, rfl, ha, by omega, by omega, by rw [ra.length]; exact hz.2, fun p hp => h.ownL s (ra.rep _) p hp⟩)
      · exact h.elim
    · rename_i ds k
      split at h
      · rename_i hz
        obtain ⟨a, xs, rfl, fa, ha, ra⟩ := tx.tuple
        obtain rfl := ty.int
        by_cases h1 : k = 1
        · subst h1
          refine .inr (.inr (.inr ⟨a, xs, rfl, rfl, .of ha, ?_⟩))
          have e : (List.replicate (1 : Int).toNat ds).flatten = ds := by simp
          rw [e] at h
          exact h.val s (.tup fa ha ra)
        · refine .inr (.inr (.inl ⟨a, k, xs, rfl, rfl, .of ha, fun e => ?_, by omega, hz.2.2.1, by rw [ra.length]; exact hz.2.2.2, fun p hp => h.tup s (ra.rep _) p hp⟩))
          subst e
          cases ra
          exact hz.1 rfl
      · exact h.elim
    · exact h.elim
end

/-! ### slices -/
abbrev PV := En → R (Option Int × En)
def LP (c : C3) (f : PV) : TO := fun σ H Q => ∃ ρ F, SR c σ ρ H F ∧ match f ρ with
  | .ok (o, ρ') => ∀ H' F', SR c σ ρ' H' F' → EX σ ρ H F ρ' H' F' → Q o H'
  | .exc x => c.W x
  | .bad => False
@[simp] def pNo : PV := fun ρ => .ok (none, ρ)
@[simp] def pE (f : EV) : PV := fun ρ => (f ρ).bind fun x => match x.1.d with
  | .int i => .ok (some i, x.2)
  | _ => .bad
/-- the places of a cut -/
def cutD {α : Type} (xs : List α) (lo hi : Option Int) : List α := (xs.drop (HT.sIx xs.length 0 lo)).take (HT.sIx xs.length xs.length hi - HT.sIx xs.length 0 lo)
def cutG (d : D) (lo hi : Option Int) : Option Rs := match d with
  | .list xs => some (.own (.list (cutD xs lo hi)))
  | .tuple xs => some (.val (.tuple (cutD xs lo hi)))
  | _ => none
@[simp] def eSl (a : OV) (lo hi : PV) : EV := fun ρ => (a ρ).bind fun x => (lo x.2).bind fun l => (hi l.2).bind fun u => match rdO u.2 x.1 with
  | some d => (R.ofO (cutG d l.1 u.1)).bind fun r => .ok (r, u.2)
  | none => .bad
theorem RpA.cut {P : Program} {w : World} {H : Hp} {F : Addr → Prop} {vs : List V} {ds : List D} (lo hi : Option Int) (h : RpA P w H F vs ds) : RpA P w H F (cutV vs lo hi) (cutD ds lo hi) := by
  unfold cutV cutD
  rw [h.length]
  exact (h.drop _).take _
section
variable {X : Cx} {c : C3} {e a b : Expr} {pos p2 : Pos} {fa : OV}
theorem p_no : PO X none (LP c pNo) := ⟨fun pins s σ H Q I h => by
  obtain ⟨ρ, F, sr, h⟩ := h
  exact po_none.run pins s σ H Q I (h H F sr EX.refl)⟩
theorem p_e {f : EV} (h : PE X e (LE c f)) : PO X (some e) (LP c (pE f)) := ⟨fun pins s σ H Q I q => by
  refine (po_some h).run pins s σ H Q I ?_
  obtain ⟨ρ, F, sr, q⟩ := q
  refine ⟨ρ, F, sr, ?_⟩
  unfold pE at q
  cases qf : f ρ with
  | bad => rw [qf] at q; exact q
  | exc z => rw [qf] at q; exact q
  | ok z =>
    obtain ⟨r, ρ1⟩ := z
    rw [qf] at q
    dsimp only [R.bind] at q
    intro v H1 F1 s1 e1 t1
    obtain ⟨F2, s2, e2, t2⟩ := s1.frz e1 t1
    cases qd : r.d with
    | int i =>
      rw [qd] at q t2
      cases t2
      exact ⟨i, rfl, q H1 F2 s2 e2⟩
    | _ => rw [qd] at q; exact q.elim⟩
def rCut (c : C3) : V → Option Int → Option Int → Hp → VK → Prop := fun x lo hi H Q => ∃ σ ρ F d, SR c σ ρ H F ∧ Tp c.P c.w H F x d ∧ Got c σ ρ H F Q (cutG d lo hi)
theorem sl_cut : SlR X (rCut c) := fun pins s σ H x v vl vu lo hi sl Q I rx hs pl pu h => by
  obtain ⟨σ', ρ, F, d, sr, t, h⟩ := h
  unfold cutG at h
  split at h
  · obtain ⟨a, xs, rfl, ha, ra⟩ := t.list
    exact sl_list pins s σ H _ v vl vu lo hi sl Q I rx hs pl pu ⟨a, xs, rfl, .of ha, fun p hp => h.ownL sr (ra.cut lo hi) p hp⟩
  · rename_i ds
    obtain ⟨a, xs, rfl, fa, ha, ra⟩ := t.tuple
    refine sl_tupA pins s σ H _ v vl vu lo hi sl Q I rx hs pl pu ⟨a, xs, rfl, .of ha, fun hw => ?_, fun hw p hp => h.tup sr (ra.cut lo hi) p hp⟩
    have e : cutD ds lo hi = ds := by
      unfold cutD
      rw [← ra.length, hw.1, hw.2, ra.length, List.drop_zero, Nat.sub_zero, List.take_length]
    rw [e] at h
    exact h.val sr (.tup fa ha ra)
  · exact h.elim
theorem r_sl {tl th : Option Expr} {fl fh : PV} (ha : PE X a (LO c fa)) (hl : PO X tl (LP c fl)) (hh : PO X th (LP c fh)) : PE X (.Subscript a (.Slice tl th none p2) pos) (LE c (eSl fa fl fh)) :=
  PE.imp (pe_slice sl_cut ha hl hh) fun σ H Q h => by
    obtain ⟨ρ, F, s, h⟩ := h
    refine ⟨ρ, F, s, ?_⟩
    unfold eSl at h
    cases qa : fa ρ with
    | bad => rw [qa] at h; exact h
    | exc x => rw [qa] at h; exact h
    | ok z =>
      obtain ⟨o, ρ1⟩ := z
      rw [qa] at h
      dsimp only [R.bind] at h
      intro x H1 F1 s1 e1 r1
      refine ⟨ρ1, F1, s1, ?_⟩
      cases ql : fl ρ1 with
      | bad => rw [ql] at h; exact h
      | exc x => rw [ql] at h; exact h
      | ok z =>
        obtain ⟨l, ρ2⟩ := z
        rw [ql] at h
        dsimp only at h
        intro H2 F2 s2 e2
        refine ⟨ρ2, F2, s2, ?_⟩
        cases qh : fh ρ2 with
        | bad => rw [qh] at h; exact h
        | exc x => rw [qh] at h; exact h
        | ok z =>
          obtain ⟨u, ρ3⟩ := z
          rw [qh] at h
          dsimp only at h
          intro H3 F3 s3 e3
          have r3 := (r1.ext s1 e2).ext s2 e3
          cases qx : rdO ρ3 o with
          | none => rw [qx] at h; exact h.elim
          | some d =>
            rw [qx] at h
            dsimp only at h
            refine ⟨σ, ρ3, F3, d, s3, s3.got r3 qx, ?_⟩
            cases qg : cutG d l u with
            | none => rw [qg] at h; exact h.elim
            | some r =>
              rw [qg] at h
              exact Got.lift s ((e1.trans e2).trans e3) rfl h
end

/-! #### [::-1] -/
def revG : D → Option Rs
  | .list xs => some (.own (.list xs.reverse))
  | .tuple xs => some (.val (.tuple xs.reverse))
  | _ => none
theorem filterMap_same {α β : Type} {f g : α → Option β} : ∀ {l : List α}, (∀ x ∈ l, f x = g x) → l.filterMap f = l.filterMap g
  | [], _ => rfl
  | x :: l, h => by
    rw [List.filterMap_cons, List.filterMap_cons, h x List.mem_cons_self, filterMap_same fun y hy => h y (List.mem_cons_of_mem _ hy)]
theorem rev_pick (xs : Array Value) : ((List.range xs.size).filterMap fun (m : Nat) => xs[(((xs.size : Nat) : Int) - 1 + (m : Int) * -1).toNat]?).toArray = xs.toList.reverse.toArray := by
  congr 1
  have e1 : (List.range xs.size).filterMap (fun (m : Nat) => xs[(((xs.size : Nat) : Int) - 1 + (m : Int) * -1).toNat]?) = (List.range xs.size).filterMap (fun (m : Nat) => xs[xs.size - 1 - m]?) := by
    refine filterMap_same fun m hm => ?_
    have := List.mem_range.mp hm
    have e : (((xs.size : Nat) : Int) - 1 + (m : Int) * -1).toNat = xs.size - 1 - m := by omega
    rw [e]
  rw [e1]
  have e2 : (fun (m : Nat) => xs[xs.size - 1 - m]?) = (fun (m : Nat) => xs[m]?) ∘ fun m => xs.size - 1 - m := rfl
  rw [e2, ← List.filterMap_map, PySem.W.krv_range, List.filterMap_reverse, PySem.W.krv_all]
theorem sliceApplied_rev {prog : Program} {w : World} {A : Around} {E : Value → Shared → Prop} {s : Shared} {sl : Addr} {vl vu vs : Value} {n : Nat} {Q : Int × Int × Nat → Shared → Prop} (hs : s.heap.IsSliceOf sl vl vu vs) (pl : IsPart vl none) (pu : IsPart vu none) (ps : IsPart vs (some (-1)))
    (h : Q (((n : Int) - 1), -1, n) s) : wpAny (model prog w) A (Builtin.Slice.sliceApplied (.ref sl) (pure (n : Int))) Q E s := by
  obtain ⟨os, ho, _, hd⟩ := id hs
  unfold Builtin.Slice.sliceApplied Builtin.Slice.sliceFields
  refine wpAny_bind (wpAny_bind (wpAny_field ho hd (x := vl) rfl (wpAny_bind (wpAny_field ho hd (x := vu) rfl (wpAny_bind (wpAny_field ho hd (x := vs) rfl (wpAny_pure ?_)))))))
  refine wpAny_bind (HT.slicePart_ ps ?_)
  show wpAny _ _ (if ((-1 : Int) == 0) = true then _ else _) _ _ s
  rw [if_neg (by decide)]
  refine wpAny_bind (HT.slicePart_ pl (wpAny_bind (HT.slicePart_ pu (wpAny_bind (wpAny_pure ?_)))))
  have e1 : Builtin.Slice.sliceAdjust none none (-1) (n : Int) = ((n : Int) - 1, -1) := by
    unfold Builtin.Slice.sliceAdjust
    simp
  have e2 : Builtin.Slice.slicePlaces ((n : Int) - 1) (-1) (-1) = n := by
    unfold Builtin.Slice.slicePlaces
    have h1 : ¬ ((-1 : Int) > 0) := by omega
    simp only [h1, if_false]
    split <;> simp <;> omega
  show wpAny _ _ (match Builtin.Slice.sliceAdjust none none (-1) (n : Int) with | (lo, hi) => pure (lo, (-1 : Int), Builtin.Slice.slicePlaces lo hi (-1))) _ _ s
  rw [e1]
  show wpAny _ _ (pure ((n : Int) - 1, (-1 : Int), Builtin.Slice.slicePlaces ((n : Int) - 1) (-1) (-1))) _ _ s
  rw [e2]
  exact wpAny_pure h
theorem getItem_tuple_rev {prog : Program} {w : World} {A : Around} {E : Value → Shared → Prop} {s : Shared} {t sl : Addr} {items : Array Value} {vl vu vs : Value} {Q : Value → Shared → Prop} (ht : IsTup s.heap t items) (hs : s.heap.IsSliceOf sl vl vu vs) (pl : IsPart vl none) (pu : IsPart vu none) (ps : IsPart vs (some (-1)))
    (h : Q (.ref s.heap.objs.size) { s with heap := s.heap.push { cls := .type "tuple", data := .seq items.toList.reverse.toArray } }) (hz : items.size ≤ sizeLine) : wpAny (model prog w) A (getItem (.ref t) (.ref sl)) Q E s := by
  have sok : sizeOk (.seq items.toList.reverse.toArray) := by
    show items.toList.reverse.toArray.size ≤ sizeLine
    rw [List.size_toArray, List.length_reverse, Array.length_toList]; exact hz
  obtain ⟨os, ho, hc, hd⟩ := id hs
  have isS : s.TypeIs (.ref sl) "slice" := ⟨os, ho, hc⟩
  unfold getItem
  try with_reducible refine wpAny_holding ?_
  first | refine wpAny_bind (wpAny_pure ?_) | skip
  refine wpAny_bind (wpAny_sequenceKey ht.typeIs (by decide) ?_)
  refine wpAny_bind (wpAny_callSpecial?_slot (name := Str.ofString "__getitem__") ht.typeIs PyProof.Rows.slot_tuple_getitem (wpAny_call_entry PyProof.Rows.slot_tuple_getitem ht.typeIs PyProof.Rows.entry_tuple_getitem ?_ (PyProof.Rows.args_tuple_getitem _ _)))
  show wpAny _ _ (Builtin.Tuple.tupleItemsOf (.ref t) >>= _) _ _ s
  refine wpAny_bind (tupleItemsOf_ ht ?_)
  refine wpAny_bind (wpAny_typeOf isS ?_)
  rw [if_pos (by decide)]
  refine wpAny_bind (sliceApplied_rev hs pl pu ps ?_)
  show wpAny _ _ (if (((items.size : Nat) : Int) - 1 == 0 && (-1 : Int) == 1 && items.size == items.size) = true then _ else _) _ _ s
  rw [if_neg (by simp), rev_pick]
  first
    | exact wpAny_bind (m := Builtin.Tuple.tupleExact _) (wpAny_newObj_type (wpAny_pure ⟨_, rfl, wpAny_pure h⟩) sok)
    | exact wpAny_bind (m := Builtin.Tuple.tupleExact _) (wpAny_newObj_type (wpAny_bind (wpAny_pure (wpAny_pure ⟨_, rfl, wpAny_pure h⟩))) sok)
    | exact wpAny_bind (wpAny_bind (m := Builtin.Tuple.tupleExact _) (wpAny_newObj_type (wpAny_pure (wpAny_pure ⟨_, rfl, wpAny_pure h⟩)) sok))
    | exact wpAny_bind (wpAny_bind (m := Builtin.Tuple.tupleExact _) (wpAny_newObj_type (wpAny_pure ⟨_, rfl, wpAny_pure h⟩) sok))
section
variable {X : Cx} {c : C3} {a : Expr} {fa : OV} {k : Nat} {p1 p2 p3 pos : Pos}
theorem r_rev (ha : PE X a (LO c fa)) : PE X (.Subscript a (.Slice none none (some (.UnaryOp .USub (.Constant (.int 1) k p1) p2)) p3) pos) (LE c (eOp1 revG fa)) := ⟨fun pins s σ H Q I h => by
  refine Subscript_ (thn (ha.run pins s σ H _ I (le_op1 h)) fun v s1 ⟨x, H1, I1, r1, q1⟩ => ?_)
  obtain ⟨σ', ρ, F, d, sr, t, q⟩ := q1
  have step : PO X (some (.UnaryOp .USub (.Constant (.int 1) k p1) p2)) (tPart (tUn (rU fun i => .int (-i)) (tC (.int 1)))) := po_some (pe_un un_neg pe_int)
  refine wpAny_Slice (thn (po_none.run pins s1 σ H1 (fun o H2 => o = none ∧ H2 = H1) I1 ⟨rfl, rfl⟩) fun vl s2 ⟨l, H2, I2, pl, el, e2⟩ => ?_)
  subst el; subst e2
  refine thn (po_none.run pins s2 σ H2 (fun o H3 => o = none ∧ H3 = H2) I2 ⟨rfl, rfl⟩) fun vu s3 ⟨u, H3, I3, pu, eu, e3⟩ => ?_
  subst eu; subst e3
  refine thn (step.run pins s3 σ H3 (fun o H4 => o = some (-1) ∧ H4 = H3) I3 ⟨1, rfl, -1, rfl, rfl, rfl⟩) fun vs s4 ⟨o, H4, I4, ps, eo, e4⟩ => ?_
  subst eo; subst e4
  have I5 : Inv X pins σ H4 { s4 with heap := s4.heap.push { cls := .type "slice", data := .fields #[vl, vu, vs] } } := I4.kept (t' := s4.toks) fun b ob q => Heap.get?_push_of_some _ q
  show wpAny (model X.prog X.w) X.A (subscriptTail a (.Slice none none (some (.UnaryOp .USub (.Constant (.int 1) k p1) p2)) p3) v (.ref s4.heap.objs.size)) (EP X pins σ Q) X.xe { s4 with heap := s4.heap.push { cls := .type "slice", data := .fields #[vl, vu, vs] } }
  unfold revG at q
  split at q
  · obtain ⟨p, xs, rfl, hp, rp⟩ := t.list
    cases r1
    obtain ⟨its, r, ht, hz⟩ := I5.list (.of hp)
    have hl := r.length
    refine tail_any (ops := [.ref p, .ref s4.heap.objs.size]) ht.isList.typeIs (PySem.slot_list_getitem.lookup) ?_ (by with_unfolding_all rfl)
    refine wpAny_getItem_list_slice ht.isList (Heap.IsSliceOf.new _ vl vu vs) pl pu ps (by decide) ?_ (by rw [List.size_toArray]; omega)
    rw [PySem.W.krv_pick]
    exact ⟨.ref _, _, I5.laid (t' := s4.toks) (o := .lst xs.reverse) (fun b ob q => Heap.get?_push_of_some _ q) (Nat.le_refl _) ⟨by rw [List.length_reverse]; exact hz, _, 0, r.reverse, Heap.get?_push_size _ rfl⟩, rfl, q.ownL sr rp.reverse _ (I5.hok.fresh (Nat.le_refl _))⟩
  · obtain ⟨p, xs, rfl, fp, hp, rp⟩ := t.tuple
    cases r1
    obtain ⟨its, r, ht, hz⟩ := I5.tuple (.of hp)
    have hl := r.length
    refine tail_any (ops := [.ref p, .ref s4.heap.objs.size]) ht.typeIs (PyProof.Rows.slot_tuple_getitem.lookup) ?_ (by with_unfolding_all rfl)
    refine getItem_tuple_rev ht (Heap.IsSliceOf.new _ vl vu vs) pl pu ps ?_ (by rw [List.size_toArray]; omega)
    exact ⟨.ref _, _, I5.laid (t' := s4.toks) (o := .tup xs.reverse) (fun b ob q => Heap.get?_push_of_some _ q) (Nat.le_refl _) ⟨by rw [List.length_reverse]; exact hz, _, r.reverse, IsTup.new _ _⟩, rfl, q.tup sr rp.reverse _ (I5.hok.fresh (Nat.le_refl _))⟩
  · exact q.elim⟩
end

/-! ### sorted of a list -/
def sortOk (ds : List D) : Bool := okD (.list ds) && decide (ds.length ≤ sizeLine) && (ds.all fun x => ds.all fun y => PySem.W.alike x y) && ((ds.all fun x => match x with | .tuple (_ :: _) => true | _ => false) || ds.all fun x => match x with | .tuple _ => false | .none => false | _ => true)
/-- the order of sorted -/
def sortD (ds : List D) : List D := ds.mergeSort (PySem.W.dataLe false id)
def sortedG (d : D) : Option Rs := match seqD d with
  | some ds => if sortOk ds then some (.own (.list (sortD ds))) else none
  | none => none
theorem sortOk.of {ds : List D} (h : sortOk ds = true) : okD (.list ds) = true ∧ ds.length ≤ sizeLine ∧ PySem.W.AllAlike ds ∧ PySem.W.Sortable ds := by
  unfold sortOk at h
  simp only [Bool.and_eq_true, Bool.or_eq_true, decide_eq_true_eq, List.all_eq_true] at h
  obtain ⟨⟨⟨h1, h2⟩, h3⟩, h4⟩ := h
  refine ⟨h1, h2, fun x hx y hy => h3 x hx y hy, ?_⟩
  rcases h4 with h4 | h4
  · refine .inl fun x hx => ?_
    have := h4 x hx
    cases x with
    | tuple xs =>
      cases xs with
      | nil => cases this
      | cons a b => exact ⟨a, b, rfl⟩
    | _ => cases this
  · refine .inr fun x hx => ?_
    have := h4 x hx
    cases x with
    | none => cases this
    | tuple xs => cases this
    | _ => exact ⟨by simp, by simp⟩
/-- the items with where they stand -/
theorem sort_pairs {P : Program} {w : World} {H : Hp} {F : Addr → Prop} : ∀ {vs : List V} {ds : List D}, RpA P w H F vs ds → ∃ bs : List (D × V), bs.map (·.1) = ds ∧ bs.map (·.2) = vs ∧ ∀ b ∈ bs, Rp P w H F b.2 b.1
  | _, _, .nil => ⟨[], rfl, rfl, fun _ h => nomatch h⟩
  | _, _, .cons (v := v) (d := d) r t => by
    obtain ⟨bs, h1, h2, h3⟩ := sort_pairs t
    exact ⟨(d, v) :: bs, by rw [List.map_cons, h1], by rw [List.map_cons, h2], fun b hb => by
      rcases List.mem_cons.mp hb with e | hb
      · rw [e]; exact r
      · exact h3 b hb⟩
theorem sort_back {P : Program} {w : World} {H : Hp} {F : Addr → Prop} : ∀ {bs : List (D × V)}, (∀ b ∈ bs, Rp P w H F b.2 b.1) → RpA P w H F (bs.map (·.2)) (bs.map (·.1))
  | [], _ => .nil
  | b :: bs, h => .cons (h b List.mem_cons_self) (sort_back fun x hx => h x (List.mem_cons_of_mem _ hx))
theorem each_vals : ∀ {bs : List (D × V)} {us : List Value}, Vals (bs.map (·.2)) us → PySem.W.EachIs (fun (u : Value) (b : D × V) => RelV b.2 u) us bs
  | [], us, h => by cases h; exact .nil
  | b :: bs, us, h => by
    rw [List.map_cons] at h
    cases h with
    | cons r t => exact .cons r (each_vals t)
theorem vals_each : ∀ {bs : List (D × V)} {us : List Value}, PySem.W.EachIs (fun (u : Value) (b : D × V) => RelV b.2 u) us bs → Vals (bs.map (·.2)) us
  | _, _, .nil => .nil
  | _, _, .cons r t => .cons r (vals_each t)
theorem each_reads {X : Cx} {pins : List (Addr × Obj)} {σ : St} {H : Hp} {s : Shared} {F : Addr → Prop} {P : Program} {w : World} (I : Inv X pins σ H s) : ∀ {bs : List (D × V)} {us : List Value}, Vals (bs.map (·.2)) us → (∀ b ∈ bs, Rp P w H F b.2 b.1) → (∀ b ∈ bs, b.1.plain = true) → PySem.W.EachIs (fun (u : Value) (b : D × V) => ∃ as, Reads s.heap u b.1 as) us bs
  | [], us, h, _, _ => by cases h; exact .nil
  | b :: bs, us, h, hr, hp => by
    rw [List.map_cons] at h
    cases h with
    | cons r t => exact .cons (Dp.reads I b.1 b.2 _ ((hr b List.mem_cons_self).dp (K := X.K) (hp b List.mem_cons_self)) r) (each_reads I t (fun x hx => hr x (List.mem_cons_of_mem _ hx)) fun x hx => hp x (List.mem_cons_of_mem _ hx))
theorem sort_map (bs : List (D × V)) : (bs.mergeSort (PySem.W.dataLe false (·.1))).map (·.1) = sortD (bs.map (·.1)) := by
  unfold sortD
  rw [List.map_mergeSort]
  intro a _ b _
  rfl
theorem depth_mem {d : D} : ∀ {xs : List D}, d ∈ xs → d.depth ≤ PyData.depthAll xs
  | x :: xs, hm => by
    rw [PyData.depthAll]
    rcases List.mem_cons.mp hm with rfl | hm
    · omega
    · have := depth_mem hm; omega
section
variable {X : Cx} {c : C3}
theorem sorted_core (cc : Cc X c) {pins : List (Addr × Obj)} {σ σ' : St} {H : Hp} {s : Shared} {ρ : En} {F : Addr → Prop} {Q : VK} {l : Addr} {its : List Value} {vs : List V} {ds : List D} (I : Inv X pins σ H s) (sr : SR c σ' ρ H F) (rv : Vals vs its) (ra : RpA c.P c.w H F vs ds) (hl : s.heap.IsList l its.toArray) (ok : sortOk ds = true)
    (h : Got c σ' ρ H F Q (some (.own (.list (sortD ds))))) : wpAny (model X.prog X.w) X.A (call (.builtin "sorted") [.ref l]) (EP X pins σ Q) X.xe s := by
  obtain ⟨h1, h2, h3, h4⟩ := sortOk.of ok
  obtain ⟨bs, rfl, rfl, hb⟩ := sort_pairs ra
  obtain ⟨p1, p2⟩ := deep_all (d := .none) (.inl h1)
  have hun := cc.un
  have pl : ∀ b ∈ bs, b.1.plain = true := fun b hm => plain_mem p1 (List.mem_map.mpr ⟨b, hm, rfl⟩)
  refine PySem.W.sorted_data (R := fun (u : Value) (b : D × V) => RelV b.2 u) (enc := fun b : D × V => b.1) hl (each_vals rv) (each_reads I rv hb pl) h3 h4 (by rw [List.length_map] at h2; exact h2) (fun b hm => ?_) fun out ho he => ?_
  · have q : b.1.depth ≤ PyData.depthAll (bs.map (·.1)) := depth_mem (List.mem_map.mpr ⟨b, hm, rfl⟩)
    show X.A.units + 2 + b.1.depth < cLine
    omega
  · obtain ⟨ep, hat⟩ := PyProof.Rows.sortedAll_at s.heap its out.toArray
    have hv := vals_each he
    have hlen : ((bs.mergeSort (PySem.W.dataLe false (·.1))).map (·.2)).length ≤ sizeLine := by
      rw [List.length_map, List.length_mergeSort]; rw [List.length_map] at h2; exact h2
    have rb : RpA c.P c.w H F ((bs.mergeSort (PySem.W.dataLe false (·.1))).map (·.2)) (sortD (bs.map (·.1))) := by
      rw [← sort_map]
      exact sort_back fun b hm => hb b ((List.mergeSort_perm _ _).mem_iff.mp hm)
    have fr : H (s.heap.objs.size + 1) = none := I.hok.fresh (Nat.le_succ _)
    exact ⟨.ref _, _, I.laid (t' := s.toks) (o := .lst ((bs.mergeSort (PySem.W.dataLe false (·.1))).map (·.2))) (fun _ _ => PyProof.Rows.sortedAll_old) (Nat.le_succ _) ⟨hlen, out, ep, hv, hat⟩, rfl, h.ownL sr rb _ fr⟩
end
end L3

end
section
/-! L3, part L: dicts whose keys are ints and texts. -/
namespace L3
open PySem PySem.Spec PyProof.Rows L2

/-! ### on trees -/
mutual
def eqK : D → D → Bool
  | .int i, .int j => decide (i = j)
  | .str x, .str y => decide (x = y)
  | .tuple xs, .tuple ys => eqKs xs ys
  | .none, .none => true
  | _, _ => false
def eqKs : List D → List D → Bool
  | [], [] => true
  | x :: xs, y :: ys => eqK x y && eqKs xs ys
  | _, _ => false
end
def leafK : D → Option Key
  | .int i => some (.inl i)
  | .str x => some (.inr x)
  | _ => none
abbrev DL := List (D × D)
def getD (kds : DL) (k : D) : Option D := (kds.find? fun kv => eqK kv.1 k).map (·.2)
def putD (kds : DL) (k v : D) : DL := if (kds.any fun kv => eqK kv.1 k) = true then kds.map (fun kv => if eqK kv.1 k = true then (kv.1, v) else kv) else kds ++ [(k, v)]
def dropD (kds : DL) (k : D) : DL := kds.filter fun kv => !eqK kv.1 k
/-- leaf keys (by the first one) -/
def leafD (kds : DL) : Bool := match kds with
  | [] => true
  | (k, _) :: _ => (leafK k).isSome
theorem leafK_some {k : D} {q : Key} (h : leafK k = some q) : k = keyD q := by
  cases k with
  | int i => cases h; rfl
  | str x => cases h; rfl
  | _ => cases h
theorem leafK_key (q : Key) : leafK (keyD q) = some q := by cases q <;> rfl
theorem eqK_key (a b : Key) : eqK (keyD a) (keyD b) = decide (a = b) := by
  cases a with
  | inl i => cases b with
    | inl j => show decide (i = j) = _; by_cases h : i = j <;> simp [h]
    | inr y => rfl
  | inr x => cases b with
    | inl j => rfl
    | inr y => show decide (x = y) = _; by_cases h : x = y <;> simp [h]

section
variable {P : Program} {w : World} {H H' : Hp} {F F' : Addr → Prop}
/-- what a leaf-key dict is -/
structure DK (P : Program) (w : World) (H : Hp) (F : Addr → Prop) (a : Addr) (kds : DL) (o : Obj) (kvs : List (Key × V)) (vs : List (Key × Value)) : Prop where
  sys : (a == sysModules) = false
  at_ : H a = some (rawd a o)
  isd : o.IsDictOf (mixKind P w) vs
  kv : KV kvs vs
  rp : RpK P w H F kvs kds
theorem RpK.head {kvs : List (Key × V)} {kds : DL} (h : RpK P w H F kvs kds) : leafD kds = true := by
  cases h with
  | nil => rfl
  | @cons k v kvs d kds r t => show (leafK (keyD k)).isSome = true; rw [leafK_key]; rfl
theorem RpT.head {xs : List (NestedKey × Addr × Value)} {kds : DL} (h : RpT P w H F xs kds) (hl : leafD kds = true) : xs = [] ∧ kds = [] := by
  cases h with
  | nil => exact ⟨rfl, rfl⟩
  | @cons k b u v xs d kds q r1 r2 t =>
    exfalso
    have z : (leafK k.data).isSome = true := hl
    generalize e : k.data = d' at q z
    cases q with
    | _ => cases z
theorem Tp.dk {v : V} {kds : DL} (t : Tp P w H F v (.dict kds)) (hl : leafD kds = true) : ∃ a o kvs vs, v = .ref a ∧ DK P w H F a kds o kvs vs := by
  have go : ∀ {a : Addr} {o : Obj} {xs : List (NestedKey × Addr × Value)}, (a == sysModules) = false → H a = some (rawd a o) → DicH P w o xs → RpT P w H F xs kds → ∃ a' o kvs vs, V.ref a = .ref a' ∧ DK P w H F a' kds o kvs vs := fun {a o xs} s h dh r => by
    obtain ⟨rfl, rfl⟩ := r.head hl
    obtain ⟨ex, es, ep, hd, he, _, _⟩ := dh
    have e0 : es = #[] := by
      rw [List.map_nil] at he
      exact Array.toList_eq_nil_iff.mp he
    subst e0
    refine ⟨a, o, [], [], rfl, s, h, ⟨#[], ep, ex, hd, fun en hen => by simp at hen, ?_, List.nodup_nil⟩, .nil, .nil⟩
    exact .nil
  cases t with
  | dicK s h o k r => exact ⟨_, _, _, _, rfl, s, h, o, k, r⟩
  | dicT s h o r => exact go s h o r
  | rp q =>
    cases q with
    | dicK _ s h o k r => exact ⟨_, _, _, _, rfl, s, h, o, k, r⟩
    | dicT _ s h o r => exact go s h o r
theorem RpK.get {kvs : List (Key × V)} {kds : DL} (h : RpK P w H F kvs kds) (q : Key) : match valV kvs q, getD kds (keyD q) with
    | some v, some d => Rp P w H F v d
    | none, none => True
    | _, _ => False := by
  induction kvs generalizing kds with
  | nil => cases h; trivial
  | cons p kvs ih =>
    cases h with
    | @cons k v kvs d kds r t =>
      unfold getD
      rw [List.find?_cons, eqK_key]
      by_cases e : k = q
      · rw [decide_eq_true e, valV_pos (p := (k, v)) e]; exact r
      · rw [decide_eq_false e, valV_neg (p := (k, v)) e]; exact ih t
theorem RpK.any {kvs : List (Key × V)} {kds : DL} (h : RpK P w H F kvs kds) (q : Key) : (kds.any fun kv => eqK kv.1 (keyD q)) = kvs.any fun kv => decide (kv.1 = q) := by
  induction kvs generalizing kds with
  | nil => cases h; rfl
  | cons p kvs ih =>
    cases h with
    | cons r t => rw [List.any_cons, List.any_cons, ih t, eqK_key]
theorem RpK.put {kvs : List (Key × V)} {kds : DL} (h : RpK P w H F kvs kds) (q : Key) {v : V} {d : D} (r : Rp P w H F v d) : RpK P w H F (putK kvs q v) (putD kds (keyD q) d) := by
  unfold putK putD
  rw [h.any q]
  split
  · rename_i hc
    clear hc
    induction kvs generalizing kds with
    | nil => cases h; exact .nil
    | cons p kvs ih =>
      cases h with
      | @cons k v' kvs d' kds r' t =>
        rw [List.map_cons, List.map_cons]
        dsimp only
        rw [eqK_key]
        by_cases e : k = q
        · rw [if_pos e, if_pos (decide_eq_true e)]; exact .cons r (ih t)
        · rw [if_neg e, if_neg (by simp [e])]; exact .cons r' (ih t)
  · rename_i hc
    clear hc
    induction kvs generalizing kds with
    | nil => cases h; exact .cons r .nil
    | cons p kvs ih =>
      cases h with
      | cons r' t => rw [List.cons_append, List.cons_append]; exact .cons r' (ih t)
theorem RpK.length : ∀ {kvs : List (Key × V)} {kds : DL}, RpK P w H F kvs kds → kvs.length = kds.length
  | _, _, .nil => rfl
  | _, _, .cons _ t => by rw [List.length_cons, List.length_cons, t.length]
theorem DK.dict {X : Cx} {c : C3} (cc : Cc X c) {pins : List (Addr × Obj)} {σ : St} {s : Shared} {a : Addr} {kds : DL} {o : Obj} {kvs : List (Key × V)} {vs : List (Key × Value)} (h : DK c.P c.w H F a kds o kvs vs) (I : Inv X pins σ H s) : s.heap.DictOf (mixKind X.prog X.w) a vs := by
  obtain ⟨e, _⟩ := I.hok a _ h.at_
  have e : s.heap.get? a = some o := e
  rw [cc.P, cc.w]
  exact Heap.dictOf_iff.mpr ⟨o, e, h.isd⟩
end

/-! ### a dict's object -/
theorem ext_at {P : Program} {w : World} {H : Hp} {h : Heap} {a : Addr} {o : Obj} (e : h.get? a = some o) : ObjOk P w H h a (rawd a o) :=
  ⟨e, ⟨o, e⟩, fun h1 h2 p q => q o p⟩
section
variable {X : Cx} {c : C3} {pos : Pos}
/-- {} -/
@[simp] def eDict0 : EV := fun ρ => .ok (.own (.dict []), ρ)
theorem Got.ownD {σ : St} {ρ : En} {H : Hp} {F : Addr → Prop} {Q : VK} (s : SR c σ ρ H F) {kds : DL} {o : Obj} {kvs : List (Key × V)} {vs : List (Key × Value)} (h : Got c σ ρ H F Q (some (.own (.dict kds)))) (p : Addr) (hp : H p = none) (hs : (p == sysModules) = false) (hi : o.IsDictOf (mixKind c.P c.w) vs) (kv : KV kvs vs) (r : RpK c.P c.w H F kvs kds) :
    Q (.ref p) (upd H p (rawd p o)) := by
  obtain ⟨s', e'⟩ := s.new (o := rawd p o) hp false
  have nf : ¬ F p := fun f => s.dom p f hp
  exact h _ _ _ s' e' ⟨p, rfl, fun q => q.elim nf fun z => Bool.noConfusion z.1, hp, s.H0_none hp, by rw [upd_same]; simp, .dicK hs upd_same hi kv (r.mono e'.fr (e'.same s)), fun q => s.oa_there q hp⟩
theorem empty_dict (prog : Program) (w : World) : ({ cls := .type "dict", data := .dict #[] } : Obj).IsDictOf (mixKind prog w) [] :=
  ⟨#[], 0, ⟨rfl, rfl, rfl⟩, rfl, fun en hen => by simp at hen, .nil, List.nodup_nil⟩
theorem r_dict0 (cc : Cc X c) : PE X (.Dict [] [] pos) (LE c eDict0) := ⟨fun pins s σ H Q I h => by
  obtain ⟨ρ, F, sr, h⟩ := h
  have hp := I.hok.fresh (Nat.le_refl s.heap.objs.size)
  refine wpAny_Dict_empty ⟨.ref s.heap.objs.size, _, I.laid (o := rawd s.heap.objs.size { cls := .type "dict", data := .dict #[] }) (t' := s.toks) (fun _ _ q => Heap.get?_push_of_some _ q) (Nat.le_refl _) (ext_at (Heap.get?_push_size _ rfl)), rfl, ?_⟩
  exact Got.ownD (kds := []) sr (fun v H' F' s' e' r' => h v H' F' s' e' r') _ hp (beq_eq_false_iff_ne.mpr (Nat.ne_of_gt I.big)) (empty_dict c.P c.w) .nil .nil⟩
/-- d[k] = v -/
def setDK : SD := fun d k v => match d with
  | .dict kds => match leafK k with
    | some _ => if leafD kds && decide (kds.length < sizeLine) then some (.dict (putD kds k v)) else none
    | none => none
  | _ => none
theorem set_dictK (cc : Cc X c) : PSet X (rSt c setDK) := fun pins s σ H o i v ov iv u Q I ro ri rv h => by
  obtain ⟨σ', ρ, F, n, d, dk, dv, sr, ex, ho, rk, rdv, h⟩ := h
  unfold setDK at h
  split at h
  rotate_left
  · exact h.elim
  rename_i z q
  split at q
  rotate_left
  · cases q
  rename_i kds
  cases ql : leafK dk with
  | none => rw [ql] at q; cases q
  | some key =>
    rw [ql] at q
    dsimp only at q
    split at q
    rotate_left
    · cases q
    rename_i hz
    rw [Bool.and_eq_true, decide_eq_true_eq] at hz
    cases q
    obtain rfl := leafK_some ql
    obtain ⟨a, ea, nf, y0, t, _⟩ := sr.at_ob ho
    rw [ex] at ea; cases ea
    obtain ⟨a', ob, kvs, vs, e', dk⟩ := t.dk hz.1
    cases e'
    cases ro
    have ri' : RelV (kV key) iv := by
      cases key with
      | inl i => cases rk; exact ri
      | inr x => cases rk; exact ri
    have dd := dk.dict cc I
    have hl : vs.length ≤ sizeLine := by rw [← dk.kv.length, dk.rp.length]; omega
    refine wpAny_setItem_pairs (hsz := hl) (kV_is ri') dd fun h' dd' hs => ?_
    obtain ⟨o2, g2, i2⟩ := Heap.dictOf_iff.mp dd'
    rw [cc.P, cc.w] at i2
    refine ⟨upd H a (rawd a o2), d_write I (by rw [dk.at_]; exact True.intro) hs ⟨o2, g2⟩ (ext_at g2), ?_⟩
    have re : ∀ b, F b → upd H a (rawd a o2) b = H b := fun b fb => upd_ne fun (e : b = a) => nf (e ▸ fb)
    obtain ⟨s2, e2⟩ := sr.write (o := rawd a o2) ho ex (.dicK dk.sys upd_same i2 (dk.kv.put key rv) ((dk.rp.put key rdv).mono (fun _ h => h) re))
    exact h _ F s2 e2
end
end L3

end
section
/-! L3, part M: enumerate, zip. -/
namespace L3
open PySem PySem.Spec PyProof.Rows L2

/-! ### a list or a tuple, k: a list -/
def sqO (k : Bool) (xs : List V) : HO := if k = true then .lst xs else .tup xs
def sqAt (k : Bool) (h : Heap) (a : Addr) (items : Array Value) : Prop := if k = true then h.IsList a items else h.IsTuple a items
def itAt (k : Bool) (h : Heap) (it a : Addr) (i : Nat) : Prop := if k = true then h.IsListIter it a i else h.IsTupleIter it a i
def itOb (k : Bool) (a : Addr) : Obj := if k = true then { cls := .type "list_iterator", data := .fields #[.ref a, .int 0 0] } else { cls := .type "tuple_iterator", data := .fields #[.ref a, .int 0 0] }
theorem sq_begins (k : Bool) (a : Addr) (items : Array Value) : Begins (.ref a) (itOb k a) fun h => sqAt k h a items := by
  cases k with
  | true => exact begins_list a items
  | false => exact begins_tuple a items
theorem sq_draws {prog : Program} {w : World} {A : Around} (hh : A.handled = none) (k : Bool) (it a : Addr) (hne : a ≠ it) (items : Array Value) :
    Draws prog w A it [it, a] items.size (fun i v => items[i]? = some v) (fun i h => itAt k h it a i ∧ sqAt k h a items) := by
  cases k with
  | true => exact Draws.list hh it a hne items
  | false => exact Draws.tuple hh it a hne items
theorem itAt.at {k : Bool} {h h' : Heap} {it a : Addr} {i : Nat} (x : itAt k h it a i) (e : ∀ o, h.get? it = some o → h'.get? it = some o) : itAt k h' it a i := by
  cases k with
  | true => exact Heap.IsListIter.at (show h.IsListIter it a i from x) e
  | false => exact Heap.IsTupleIter.at (show h.IsTupleIter it a i from x) e
theorem itAt.there {k : Bool} {h : Heap} {it a : Addr} {i : Nat} (x : itAt k h it a i) : ∃ o, h.get? it = some o ∧ ∀ v, o.data ≠ .cell v := by
  cases k with
  | true =>
    obtain ⟨o, e, _, d⟩ := (show h.IsListIter it a i from x)
    exact ⟨o, e, fun v z => by rw [d] at z; cases z⟩
  | false =>
    obtain ⟨o, e, _, d⟩ := (show h.IsTupleIter it a i from x)
    exact ⟨o, e, fun v z => by rw [d] at z; cases z⟩
theorem itAt.new {k : Bool} {h : Heap} {it a : Addr} (e : h.get? it = some (itOb k a)) : itAt k h it a 0 := by
  cases k with
  | true => exact ⟨_, e, rfl, rfl⟩
  | false => exact ⟨_, e, rfl, rfl⟩
theorem sqAt.at {k : Bool} {h h' : Heap} {a : Addr} {items : Array Value} (x : sqAt k h a items) (e : ∀ o, h.get? a = some o → h'.get? a = some o) : sqAt k h' a items := by
  cases k with
  | true => exact Heap.IsList.at (show h.IsList a items from x) e
  | false => exact Heap.IsTuple.at (show h.IsTuple a items from x) e
theorem Inv.sq {X : Cx} {pins : List (Addr × Obj)} {σ : St} {H : Hp} {s : Shared} {k : Bool} {a : Addr} {xs : List V} (I : L2.Inv X pins σ H s) (h : H a = some (sqO k xs)) : ∃ its : List Value, Vals xs its ∧ sqAt k s.heap a its.toArray ∧ a < s.heap.objs.size := by
  cases k with
  | true =>
    obtain ⟨its, rv, p, _⟩ := I.list (.of h)
    exact ⟨its, rv, p.isList, I.hok.lt h⟩
  | false =>
    obtain ⟨its, rv, p, _⟩ := I.tuple (.of h)
    exact ⟨its, rv, p, I.hok.lt h⟩
theorem sqO_inj {k : Bool} {xs ys : List V} (h : sqO k xs = sqO k ys) : xs = ys := by
  cases k with
  | true => injection h
  | false => injection h
/-- a frozen list or tuple -/
theorem Rp.sq {P : Program} {w : World} {H : Hp} {F : Addr → Prop} {v : V} {d : D} {ds : List D} (r : Rp P w H F v d) (h : seqD d = some ds) : ∃ k a xs, v = .ref a ∧ F a ∧ H a = some (sqO k xs) ∧ RpA P w H F xs ds := by
  obtain ⟨a, xs, e, f, q, t⟩ := r.seq h
  rcases q with q | q
  · exact ⟨true, a, xs, e, f, q, t⟩
  · exact ⟨false, a, xs, e, f, q, t⟩

/-! ### enumerate -/
def ItEn (k : Bool) (a : Addr) : It :=
  ⟨fun i H => ∃ xs x, H a = some (sqO k xs) ∧ xs[i]? = some x, fun i H v H' => ∃ T x, v = .ref T ∧ H T = none ∧ H' = upd H T (.tup [.int (i : Nat), x]) ∧ ∀ xs, H a = some (sqO k xs) → xs[i]? = some x, fun i H => ∃ xs, H a = some (sqO k xs) ∧ i = xs.length⟩
theorem turn_en {P : Program} {w : World} {K : PySem.W.Frag} {elts : List Expr} {kk : Nat} {tpos : Pos} (k : Bool) (a e it : Addr) (hei : e ≠ it) (hae : a ≠ e) (hai : a ≠ it) :
    Turn P w K (.Tuple elts kk tpos) (ItEn k a) [e, it] e (fun i h => (∃ old, IsEnum h e it (0 + (i : Int)) old) ∧ itAt k h it a i) := by
  have hef : e ∉ [it, a] := by simp [hei, Ne.symm hae]
  refine ⟨by simp, fun i h st b hb => ?_, fun i h h' st q => ⟨st.1.imp fun _ z => q e (by simp) _ z, st.2.at fun o z => q it (by simp) o z⟩, ?_, ?_, fun A i s Q E st h => ?_⟩
  · have hb : b = e ∨ b = it := by simpa using hb
    rcases hb with rfl | rfl
    · obtain ⟨⟨_, z⟩, _⟩ := st; exact ⟨_, z, fun v q => nomatch q⟩
    · exact st.2.there
  · intro X hP hw hK hc i pins s σ H E I hf st hg
    subst hP hw hK
    obtain ⟨xs, x, hq, hx⟩ := hg
    obtain ⟨its, rv, p, hlt⟩ := Inv.sq I hq
    obtain ⟨u, hu, ru⟩ := rv.get hx
    have hi : i < its.toArray.size := by
      rw [List.size_toArray]
      exact (List.getElem?_eq_some_iff.mp hu).1
    have W := WalksT.enumFrom (prog := X.prog) (w := X.w) (A := X.A) 0 (sq_draws (A := X.A.in1) (I.ok.hd hc) k it a hai its.toArray) e hei hef (by simp)
    refine W.item i s _ E hi ⟨st.1, st.2, p⟩ fun T vals h1 tk hP hT hI mid hk => ⟨_, rfl, W.go elts kk tpos i T _ _ E mid fun h2 st2 hk2 => ?_⟩
    obtain ⟨t, y, hy, hv⟩ := hP
    have ey : y = u := by
      have hy : its.toArray[i]? = some y := hy
      rw [← Array.getElem?_toList] at hy
      rw [hu] at hy; exact (Option.some.inj hy).symm
    subst ey; subst hv
    have hTn : T ∉ [e, it] := W.apart i T h1 mid
    have kp : ∀ b o, b ∉ [e, it] → s.heap.get? b = some o → h2.get? b = some o := fun b o hb z => hk2 b o hb (hk b o hb z)
    obtain ⟨ot, g1, g2, n, g3⟩ := hI
    have new : ObjOk X.prog X.w (upd H T (.tup [.int (i : Nat), x])) h2 T (.tup [.int (i : Nat), x]) :=
      ⟨Nat.le_trans (show 2 ≤ 16777216 by decide) (Nat.le_refl _), [.int (0 + (i : Int)) t, y], .cons ⟨t, by rw [Int.zero_add]⟩ (.cons ru .nil), ot, hk2 T ot hTn g1, g2, n, g3⟩
    refine ⟨.ref T, _, Inv.turnedNew (s := s) (h' := h2) (t' := tk) I kp hf hT new, rfl, ⟨T, x, rfl, I.hok.fresh hT, rfl, fun ys hy' => by rw [hq] at hy'; cases sqO_inj (Option.some.inj hy'); exact hx⟩, ⟨st2.1, st2.2.1⟩, fun b hb => ?_⟩
    have nb : b ≠ T := fun z => hTn (z ▸ hb)
    rw [upd_ne nb]; exact (hf b hb).1
  · intro X hP hw hK hc i pins s σ H E I hf st hg
    subst hP hw hK
    obtain ⟨xs, hq, rfl⟩ := hg
    obtain ⟨its, rv, p, hlt⟩ := Inv.sq I hq
    have W := WalksT.enumFrom (prog := X.prog) (w := X.w) (A := X.A) 0 (sq_draws (A := X.A.in1) (I.ok.hd hc) k it a hai its.toArray) e hei hef (by simp)
    have hl : xs.length = its.toArray.size := by rw [List.size_toArray]; exact rv.length
    rw [hl] at st
    exact W.done s _ E ⟨st.1, st.2, p⟩ fun h1 tk hk => ⟨rfl, Inv.turnedL (s := s) (h' := h1) (t' := tk) I hk hf⟩
  · obtain ⟨⟨_, z⟩, _⟩ := st
    exact wpAny_pyIter_enum z h
theorem meets_enum1 {v : Value} {o : Obj} {H : Heap → Prop} (B : Begins v o H) :
    Meets (Builtin.«enumerate.__new__» ⟨[.type "enumerate", v], []⟩) (fun _ R s => H s.heap ∧
      R (.ok (.ret (.ref (s.heap.push o).objs.size))) { s with heap := (s.heap.push o).push { cls := .type "enumerate", data := .fields #[.none, .bool false, .ref s.heap.objs.size, rawInt 0, .none, .none] } }) :=
  .of_wp fun prog w A R s h => by
    obtain ⟨hp, g, d, tk, os⟩ := s
    obtain ⟨h1, h⟩ := h
    have isub := sub_enumerate
    have it1 : ∀ {A' : Around} {E : Value → Shared → Prop} {Q : Value → Shared → Prop}, Q (.ref hp.objs.size) ⟨hp.push o, g, d, tk, os⟩ → wpAny (model prog w) A' (pyIter v) Q E ⟨hp, g, d, tk, os⟩ :=
      fun q => B.iter prog w _ _ ⟨hp, g, d, tk, os⟩ _ h1 q
    wp_walk using it1
    refine wpAny_stack_any fun st => wpAny_pure ?_
    split
    · rename_i c _ _ _ _ _
      cases (c == Value.type "enumerate") <;> (wp_walk using it1; exact ⟨_, rfl, h⟩)
    · wp_walk using it1
      exact ⟨_, rfl, h⟩
theorem enum1 {prog : Program} {w : World} {A : Around} {E : Value → Shared → Prop} {s : Shared} {v : Value} {o : Obj} {H : Heap → Prop} {Q : Value → Shared → Prop} (B : Begins v o H) (h1 : H s.heap)
    (h : ∀ h', IsEnum h' (s.heap.objs.size + 1) s.heap.objs.size 0 .none → h'.get? s.heap.objs.size = some o → (∀ b o, s.heap.get? b = some o → h'.get? b = some o) → Q (.ref (s.heap.objs.size + 1)) { s with heap := h' }) :
    wpAny (model prog w) A (call (.type "enumerate") [v]) Q E s := by
  refine callType_new F.called_enumerate (by decide) (F.typeCall_enumerate_1 _) (F.newCall_enumerate_1 _) (fun obj => F.args_object_init_2 obj _) F.entry_enumerate_new (meets_enum1 B) ⟨h1, ?_⟩
  have hz : (s.heap.push o).objs.size = s.heap.objs.size + 1 := Heap.size_push ..
  show _ ∧ _
  rw [hz]
  have he : IsEnum ((s.heap.push o).push { cls := .type "enumerate", data := .fields #[.none, .bool false, .ref s.heap.objs.size, rawInt 0, .none, .none] }) (s.heap.objs.size + 1) s.heap.objs.size 0 .none := by
    have q := Heap.get?_push_size (s.heap.push o) (o := { cls := .type "enumerate", data := .fields #[.none, .bool false, .ref s.heap.objs.size, rawInt 0, .none, .none] }) rfl
    rw [hz] at q; exact q
  exact ⟨⟨_, he, rfl⟩, h _ he (Heap.get?_push_of_some _ (Heap.get?_push_size _ B.free)) fun b o x => Heap.get?_push_of_some _ (Heap.get?_push_of_some _ x)⟩
/-- the pairs -/
def enumFr : Nat → List D → List D
  | _, [] => []
  | n, d :: ds => .tuple [.int (n : Int), d] :: enumFr (n + 1) ds
theorem enumFr_get : ∀ (n : Nat) (ds : List D) (i : Nat), (enumFr n ds)[i]? = (ds[i]?).map fun d => .tuple [.int ((n + i : Nat) : Int), d]
  | n, [], i => by simp [enumFr]
  | n, d :: ds, 0 => by simp [enumFr]
  | n, d :: ds, i + 1 => by
    rw [enumFr, List.getElem?_cons_succ, List.getElem?_cons_succ, enumFr_get (n + 1) ds i]
    congr 1
    funext d
    have : n + 1 + i = n + (i + 1) := by omega
    rw [this]
theorem enumFr_length : ∀ (n : Nat) (ds : List D), (enumFr n ds).length = ds.length
  | _, [] => rfl
  | n, d :: ds => by rw [enumFr, List.length_cons, List.length_cons, enumFr_length]
theorem yl_en {c : C3} {k : Bool} {H1 : Hp} {F1 : Addr → Prop} {a : Addr} {xs : List V} {ds : List D} (hF : F1 a) (h : H1 a = some (sqO k xs)) (r : RpA c.P c.w H1 F1 xs ds) : Yl c (ItEn k a) (enumFr 0 ds) H1 F1 where
  go := fun i H F q d hd => by
    have h' : H a = some (sqO k xs) := by rw [q.sm a hF]; exact h
    rw [enumFr_get] at hd
    cases e : ds[i]? with
    | none => rw [e] at hd; cases hd
    | some d0 =>
      rw [e] at hd
      cases hd
      obtain ⟨v, ev, rv⟩ := r.at e
      refine ⟨⟨xs, v, h', ev⟩, fun x H' y => .inr ?_⟩
      obtain ⟨T, z, ex, hT, eH, hz⟩ := y
      have ez := hz xs h'
      rw [ev] at ez; cases ez
      exact ⟨T, [.int (i : Nat), v], [.int ((0 + i : Nat) : Int), d0], hT, eH, ex, rfl, .cons (by rw [Nat.zero_add]; exact .int _) (.cons (rv.mono q.fr q.sm) .nil)⟩
  stop := fun H F q => ⟨xs, by rw [q.sm a hF]; exact h, by rw [enumFr_length]; exact r.length.symm⟩
@[simp] def enumK : List D → R (List D)
  | [d] => match seqD d with
    | some ds => .ok (enumFr 0 ds)
    | none => .bad
  | _ => .bad
section
variable {X : Cx} {c : C3} {a b : Expr} {p pos tpos : Pos} {g : AV} {elts : List Expr} {kk : Nat}
theorem i_enum (cc : Cc X c) (ha : PA X [a] (LA c g)) (hg : Gl X "enumerate" := by rfl) (hs : starEach [a] X.env = [(false, eval a X.env)] := by rfl) : PI X (.Tuple elts kk tpos) (.Call (.Name "enumerate" p) [a] [] pos) (LI c (iK enumK g)) := ⟨fun pins s σ H R I h => by
  refine Call_ (ld_blt I hg (cc.fr _ (by rfl)) boot_enumerate (PyProof.Rows.callWith_type1 (thn (ha.run pos pins s σ H _ I (la_it h)) fun us s1 ⟨vs, H1, I1, r1, q1⟩ => ?_) hs rfl))
  obtain ⟨σ', ρ, F, ds, sr, ra, h⟩ := q1
  split at h
  · rename_i es q
    unfold enumK at q
    split at q
    · rename_i d
      cases qs : seqD d with
      | none => rw [qs] at q; cases q
      | some es' =>
        rw [qs] at q
        cases q
        obtain ⟨v, rfl, rd⟩ := ra.one
        obtain ⟨k, a', xs, rfl, fa, hh, rx⟩ := rd.sq qs
        obtain ⟨u, rfl, ru⟩ := vals1 r1
        cases ru
        obtain ⟨its, rv, p', hlt⟩ := Inv.sq I1 hh
        refine enum1 (sq_begins k a' its.toArray) p' fun h' he hit hk => wpAny_pyIter_enum he ?_
        have hla : a' ≠ s1.heap.objs.size + 1 := Nat.ne_of_lt (Nat.lt_succ_of_lt hlt)
        refine ⟨s1.heap.objs.size + 1, [s1.heap.objs.size + 1, s1.heap.objs.size], _, _, H1, rfl, I1.kept (t' := s1.toks) hk, turn_en k a' (s1.heap.objs.size + 1) s1.heap.objs.size (Nat.succ_ne_self _) hla (Nat.ne_of_lt hlt), ⟨⟨.none, he⟩, .new hit⟩, fun b hb => ?_, h _ H1 F sr EX.refl (yl_en fa hh rx)⟩
        have hle : s1.heap.objs.size ≤ b := by
          have : b = s1.heap.objs.size + 1 ∨ b = s1.heap.objs.size := by simpa using hb
          rcases this with z | z
          · rw [z]; exact Nat.le_succ _
          · rw [z]; exact Nat.le_refl _
        exact I1.fpOk hle (I1.hok.fresh hle)
    · cases q
  · rename_i q
    unfold enumK at q
    split at q
    · split at q <;> cases q
    · cases q
  · exact h.elim⟩
end

/-! ### zip of two -/
def ItZ2 (k1 : Bool) (a1 : Addr) (k2 : Bool) (a2 : Addr) : It :=
  ⟨fun i H => ∃ xs ys x y, H a1 = some (sqO k1 xs) ∧ H a2 = some (sqO k2 ys) ∧ xs[i]? = some x ∧ ys[i]? = some y,
    fun i H v H' => ∃ T x y, v = .ref T ∧ H T = none ∧ H' = upd H T (.tup [x, y]) ∧ (∀ xs, H a1 = some (sqO k1 xs) → xs[i]? = some x) ∧ ∀ ys, H a2 = some (sqO k2 ys) → ys[i]? = some y,
    fun i H => ∃ xs ys, H a1 = some (sqO k1 xs) ∧ H a2 = some (sqO k2 ys) ∧ i = min xs.length ys.length⟩
theorem same_item {its : List Value} {i : Nat} {u y : Value} (hu : its[i]? = some u) (hy : its.toArray[i]? = some y) : y = u := by
  rw [← Array.getElem?_toList] at hy
  rw [hu] at hy; exact (Option.some.inj hy).symm
theorem turn_z2 {P : Program} {w : World} {K : PySem.W.Frag} {elts : List Expr} {kk : Nat} {tpos : Pos} (k1 k2 : Bool) (a1 a2 z TI TO i1 i2 : Addr) (S : ZipSep2 z TI TO i1 i2 [i1, a1] [i2, a2]) (n1 : a1 ≠ i1) (n2 : a2 ≠ i2) :
    Turn P w K (.Tuple elts kk tpos) (ItZ2 k1 a1 k2 a2) [z, TI, TO, i1, i2] z (fun i h => IsZip h z TI TO .none ∧ IsTupOf2 h TI (.ref i1) (.ref i2) ∧ (∃ x y, IsTupOf2 h TO x y) ∧ itAt k1 h i1 a1 i ∧ itAt k2 h i2 a2 i) := by
  have sub : ∀ b ∈ [z, TO, i1, i2], b ∈ [z, TI, TO, i1, i2] := fun b hb => by
    have hb : b = z ∨ b = TO ∨ b = i1 ∨ b = i2 := by simpa using hb
    rcases hb with rfl | rfl | rfl | rfl <;> simp
  refine ⟨by simp, fun i h st b hb => ?_, fun i h h' st q => ?_, ?_, ?_, fun A i s Q E st h => wpAny_pyIter_zip st.1 h⟩
  · obtain ⟨hz, hI, ⟨x, y, hO⟩, h1, h2⟩ := st
    have hb : b = z ∨ b = TI ∨ b = TO ∨ b = i1 ∨ b = i2 := by simpa using hb
    rcases hb with rfl | rfl | rfl | rfl | rfl
    · exact ⟨_, hz, fun v q => nomatch q⟩
    · exact ⟨_, hI, fun v q => nomatch q⟩
    · exact ⟨_, hO, fun v q => nomatch q⟩
    · exact h1.there
    · exact h2.there
  · obtain ⟨hz, hI, ⟨x, y, hO⟩, h1, h2⟩ := st
    exact ⟨q z (by simp) _ hz, q TI (by simp) _ hI, ⟨x, y, q TO (by simp) _ hO⟩, h1.at fun o e => q i1 (by simp) o e, h2.at fun o e => q i2 (by simp) o e⟩
  · intro X hP hw hK hc i pins s σ H E I hf st hg
    subst hP hw hK
    obtain ⟨xs, ys, x, y, hq1, hq2, hx, hy⟩ := hg
    obtain ⟨its, rv, p, _⟩ := Inv.sq I hq1
    obtain ⟨its2, rv2, p2, _⟩ := Inv.sq I hq2
    obtain ⟨u, hu, ru⟩ := rv.get hx
    obtain ⟨u2, hu2, ru2⟩ := rv2.get hy
    have hi : i < min its.toArray.size its2.toArray.size := by
      rw [List.size_toArray, List.size_toArray]
      have e1 := (List.getElem?_eq_some_iff.mp hu).1
      have e2 := (List.getElem?_eq_some_iff.mp hu2).1
      omega
    obtain ⟨hz, hI, hO, h1, h2⟩ := st
    have W := WalksT.zipD2 (prog := X.prog) (w := X.w) (A := X.A) S (sq_draws (A := X.A.in1) (I.ok.hd hc) k1 i1 a1 n1 its.toArray) (sq_draws (A := X.A.in1) (I.ok.hd hc) k2 i2 a2 n2 its2.toArray)
    refine W.item i s _ E hi ⟨hz, hI, hO, ⟨h1, p⟩, ⟨h2, p2⟩⟩ fun T vals g1 tk hP hT hIs mid hk => ⟨_, rfl, W.go elts kk tpos i T _ _ E mid fun g2 st2 hk2 => ?_⟩
    obtain ⟨y1, y2, e1, e2, hv⟩ := hP
    obtain rfl := same_item hu e1
    obtain rfl := same_item hu2 e2
    subst hv
    have hTn : T ∉ [z, TO, i1, i2] := W.apart i T g1 mid
    have kp : ∀ b o, b ∉ [z, TI, TO, i1, i2] → s.heap.get? b = some o → g2.get? b = some o := fun b o hb q => hk2 b o (fun m => hb (sub b m)) (hk b o (fun m => hb (sub b m)) q)
    obtain ⟨ot, t1, t2, n, t3⟩ := hIs
    have new : ObjOk X.prog X.w (upd H T (.tup [x, y])) g2 T (.tup [x, y]) :=
      ⟨Nat.le_trans (show 2 ≤ 16777216 by decide) (Nat.le_refl _), [y1, y2], .cons ru (.cons ru2 .nil), ot, hk2 T ot hTn t1, t2, n, t3⟩
    refine ⟨.ref T, _, Inv.turnedNew (s := s) (h' := g2) (t' := tk) I kp hf hT new, rfl, ⟨T, x, y, rfl, I.hok.fresh hT, rfl, fun l hl => by rw [hq1] at hl; cases sqO_inj (Option.some.inj hl); exact hx, fun l hl => by rw [hq2] at hl; cases sqO_inj (Option.some.inj hl); exact hy⟩,
      ⟨st2.1, st2.2.1, st2.2.2.1, st2.2.2.2.1.1, st2.2.2.2.2.1⟩, fun b hb => ?_⟩
    have lt : b < s.heap.objs.size := by
      have hb : b = z ∨ b = TI ∨ b = TO ∨ b = i1 ∨ b = i2 := by simpa using hb
      obtain ⟨x0, y0, hO⟩ := hO
      rcases hb with rfl | rfl | rfl | rfl | rfl
      · exact Heap.lt_size hz
      · exact Heap.lt_size hI
      · exact Heap.lt_size hO
      · obtain ⟨_, e, _⟩ := h1.there; exact Heap.lt_size e
      · obtain ⟨_, e, _⟩ := h2.there; exact Heap.lt_size e
    rw [upd_ne (Nat.ne_of_lt (Nat.lt_of_lt_of_le lt hT))]; exact (hf b hb).1
  · intro X hP hw hK hc i pins s σ H E I hf st hg
    subst hP hw hK
    obtain ⟨xs, ys, hq1, hq2, rfl⟩ := hg
    obtain ⟨its, rv, p, _⟩ := Inv.sq I hq1
    obtain ⟨its2, rv2, p2, _⟩ := Inv.sq I hq2
    obtain ⟨hz, hI, hO, h1, h2⟩ := st
    have W := WalksT.zipD2 (prog := X.prog) (w := X.w) (A := X.A) S (sq_draws (A := X.A.in1) (I.ok.hd hc) k1 i1 a1 n1 its.toArray) (sq_draws (A := X.A.in1) (I.ok.hd hc) k2 i2 a2 n2 its2.toArray)
    have e1 : xs.length = its.toArray.size := by rw [List.size_toArray]; exact rv.length
    have e2 : ys.length = its2.toArray.size := by rw [List.size_toArray]; exact rv2.length
    rw [e1, e2] at h1 h2
    exact W.done s _ E ⟨hz, hI, hO, ⟨h1, p⟩, ⟨h2, p2⟩⟩ fun g tk hk => ⟨rfl, Inv.turnedL (s := s) (h' := g) (t' := tk) I (fun b o hb q => hk b o (fun m => hb (sub b m)) q) hf⟩
def zip2D : List D → List D → List D
  | x :: xs, y :: ys => .tuple [x, y] :: zip2D xs ys
  | _, _ => []
theorem zip2D_get : ∀ (xs ys : List D) (i : Nat), (zip2D xs ys)[i]? = match xs[i]?, ys[i]? with
    | some x, some y => some (.tuple [x, y])
    | _, _ => none
  | [], ys, i => by simp [zip2D]
  | x :: xs, [], i => by cases h : (x :: xs)[i]? <;> simp [zip2D]
  | x :: xs, y :: ys, 0 => by simp [zip2D]
  | x :: xs, y :: ys, i + 1 => by
    rw [zip2D, List.getElem?_cons_succ, List.getElem?_cons_succ, List.getElem?_cons_succ, zip2D_get xs ys i]
theorem zip2D_length : ∀ (xs ys : List D), (zip2D xs ys).length = min xs.length ys.length
  | [], ys => by simp [zip2D]
  | x :: xs, [] => by simp [zip2D]
  | x :: xs, y :: ys => by rw [zip2D, List.length_cons, List.length_cons, List.length_cons, zip2D_length]; omega
theorem yl_z2 {c : C3} {k1 k2 : Bool} {H1 : Hp} {F1 : Addr → Prop} {a1 a2 : Addr} {xs ys : List V} {ds es : List D} (hF1 : F1 a1) (h1 : H1 a1 = some (sqO k1 xs)) (r1 : RpA c.P c.w H1 F1 xs ds) (hF2 : F1 a2) (h2 : H1 a2 = some (sqO k2 ys)) (r2 : RpA c.P c.w H1 F1 ys es) :
    Yl c (ItZ2 k1 a1 k2 a2) (zip2D ds es) H1 F1 where
  go := fun i H F q d hd => by
    have g1 : H a1 = some (sqO k1 xs) := by rw [q.sm a1 hF1]; exact h1
    have g2 : H a2 = some (sqO k2 ys) := by rw [q.sm a2 hF2]; exact h2
    rw [zip2D_get] at hd
    cases e1 : ds[i]? with
    | none => rw [e1] at hd; cases hd
    | some d1 =>
      cases e2 : es[i]? with
      | none => rw [e1, e2] at hd; cases hd
      | some d2 =>
        rw [e1, e2] at hd
        cases hd
        obtain ⟨v1, ev1, rv1⟩ := r1.at e1
        obtain ⟨v2, ev2, rv2⟩ := r2.at e2
        refine ⟨⟨xs, ys, v1, v2, g1, g2, ev1, ev2⟩, fun x H' y => .inr ?_⟩
        obtain ⟨T, z1, z2, ex, hT, eH, hz1, hz2⟩ := y
        have f1 := hz1 xs g1
        have f2 := hz2 ys g2
        rw [ev1] at f1; cases f1
        rw [ev2] at f2; cases f2
        exact ⟨T, [v1, v2], [d1, d2], hT, eH, ex, rfl, .cons (rv1.mono q.fr q.sm) (.cons (rv2.mono q.fr q.sm) .nil)⟩
  stop := fun H F q => ⟨xs, ys, by rw [q.sm a1 hF1]; exact h1, by rw [q.sm a2 hF2]; exact h2, by rw [zip2D_length, r1.length, r2.length]⟩
@[simp] def zipK : List D → R (List D)
  | [d, e] => match seqD d, seqD e with
    | some ds, some es => .ok (zip2D ds es)
    | _, _ => .bad
  | _ => .bad
section
variable {X : Cx} {c : C3} {a b : Expr} {p pos tpos : Pos} {g : AV} {elts : List Expr} {kk : Nat}
theorem i_zip (cc : Cc X c) (ha : PA X [a, b] (LA c g)) (hg : Gl X "zip" := by rfl) (hs : starEach [a, b] X.env = (false, eval a X.env) :: starEach [b] X.env := by rfl) (hp : (backTo pos (starEach [b] X.env)).any (·.1) = false := by rfl) :
    PI X (.Tuple elts kk tpos) (.Call (.Name "zip" p) [a, b] [] pos) (LI c (iK zipK g)) := ⟨fun pins s σ H R I h => by
  refine Call_ (ld_blt I hg (cc.fr _ (by rfl)) PyProof.Rows.boot_zip (PyProof.Rows.callWith_type1 (thn (ha.run pos pins s σ H _ I (la_it h)) fun us s1 ⟨vs, H1, I1, r1, q1⟩ => ?_) hs hp))
  obtain ⟨σ', ρ, F, ds, sr, ra, h⟩ := q1
  split at h
  · rename_i es q
    unfold zipK at q
    split at q
    · rename_i d e
      cases qs : seqD d with
      | none => rw [qs] at q; cases q
      | some ds1 =>
        cases qt : seqD e with
        | none => rw [qs, qt] at q; cases q
        | some ds2 =>
          rw [qs, qt] at q
          cases q
          obtain ⟨v1, v2, rfl, rd1, rd2⟩ := ra.two
          obtain ⟨k1, a1, xs, rfl, fa1, hh1, rx1⟩ := rd1.sq qs
          obtain ⟨k2, a2, ys, rfl, fa2, hh2, rx2⟩ := rd2.sq qt
          obtain ⟨u1, u2, rfl, ru1, ru2⟩ := vals2 r1
          cases ru1; cases ru2
          obtain ⟨its, rv, p1, l1⟩ := Inv.sq I1 hh1
          obtain ⟨its2, rv2, p2, l2⟩ := Inv.sq I1 hh2
          refine zip_begins2 (sq_begins k1 a1 its.toArray) (sq_begins k2 a2 its2.toArray) p1 p2 fun h' hz hI hO g1 g2 hsz hk => wpAny_pyIter_zip hz ?_
          have S : ZipSep2 (s1.heap.objs.size + 4) (s1.heap.objs.size + 2) (s1.heap.objs.size + 3) s1.heap.objs.size (s1.heap.objs.size + 1) [s1.heap.objs.size, a1] [s1.heap.objs.size + 1, a2] :=
            zip_sep2 (fun b hb => by rw [List.mem_singleton.mp hb]; exact l1) (fun b hb => by rw [List.mem_singleton.mp hb]; exact l2)
          refine ⟨s1.heap.objs.size + 4, [s1.heap.objs.size + 4, s1.heap.objs.size + 2, s1.heap.objs.size + 3, s1.heap.objs.size, s1.heap.objs.size + 1], _, _, H1, rfl, I1.kept (t' := s1.toks) hk, turn_z2 k1 k2 a1 a2 _ _ _ _ _ S (Nat.ne_of_lt l1) (Nat.ne_of_lt (Nat.lt_succ_of_lt l2)), ⟨hz, hI, ⟨_, _, hO⟩, .new g1, .new g2⟩, fun b hb => ?_, h _ H1 F sr EX.refl (yl_z2 fa1 hh1 rx1 fa2 hh2 rx2)⟩
          have hle : s1.heap.objs.size ≤ b := by
            have hb : b = s1.heap.objs.size + 4 ∨ b = s1.heap.objs.size + 2 ∨ b = s1.heap.objs.size + 3 ∨ b = s1.heap.objs.size ∨ b = s1.heap.objs.size + 1 := by simpa using hb
            rcases hb with q | q | q | q | q <;> rw [q] <;> first | exact Nat.le_refl _ | exact Nat.le_add_right _ _
          exact I1.fpOk hle (I1.hok.fresh hle)
    · cases q
  · rename_i q
    unfold zipK at q
    split at q
    · split at q <;> cases q
    · cases q
  · exact h.elim⟩
end
end L3

end
section
/-! L3, part N: sorted, the script's list. -/
namespace L3
open PySem PySem.Spec PyProof.Rows L2

/-- sorted of a list, or of a dict's keys -/
def sortG (d : D) : Option Rs := match d with
  | .list ds => if sortOk ds then some (.own (.list (sortD ds))) else none
  | .dict kds => if leafD kds && sortOk (kds.map (·.1)) then some (.own (.list (sortD (kds.map (·.1))))) else none
  | _ => none
theorem RpK.keys {P : Program} {w : World} {H : Hp} {F : Addr → Prop} : ∀ {kvs : List (Key × V)} {kds : DL}, RpK P w H F kvs kds → RpA P w H F (kvs.map fun p => kV p.1) (kds.map (·.1))
  | _, _, .nil => .nil
  | _, _, .cons (k := k) r t => by
    rw [List.map_cons, List.map_cons]
    refine .cons ?_ t.keys
    cases k with
    | inl i => exact .int i
    | inr x => exact .str x
theorem KV.keyVals {kvs : List (Key × V)} {vs : List (Key × Value)} (h : KV kvs vs) : kvs.map (fun p => kV p.1) = vs.map fun p => kV p.1 := by
  have e := h.keys
  have : (kvs.map (·.1)).map kV = (vs.map (·.1)).map kV := by rw [e]
  rw [List.map_map, List.map_map] at this
  exact this
theorem leaf_each {h : Heap} {L : Addr} : ∀ {bs : List (D × V)} {us : List Value}, Vals (bs.map (·.2)) us → (∀ b ∈ bs, ∃ q : Key, b.1 = keyD q ∧ b.2 = kV q) → PySem.W.EachIs (fun (u : Value) (b : D × V) => ∃ as, Reads h u b.1 as ∧ L ∉ as) us bs
  | [], us, hv, _ => by cases hv; exact .nil
  | b :: bs, us, hv, hq => by
    rw [List.map_cons] at hv
    cases hv with
    | cons r t =>
      obtain ⟨q, e1, e2⟩ := hq b List.mem_cons_self
      refine .cons ?_ (leaf_each t fun x hx => hq x (List.mem_cons_of_mem _ hx))
      rw [e2] at r
      rw [e1]
      cases q with
      | inl i => obtain ⟨t, rfl⟩ := r; exact ⟨[], .int i t, by simp⟩
      | inr x => obtain ⟨t, rfl⟩ := r; exact ⟨[], .str x t, by simp⟩
theorem key_pairs {P : Program} {w : World} {H : Hp} {F : Addr → Prop} : ∀ {kvs : List (Key × V)} {kds : DL}, RpK P w H F kvs kds → ∃ bs : List (D × V), bs.map (·.1) = kds.map (·.1) ∧ bs.map (·.2) = kvs.map (fun p => kV p.1) ∧ (∀ b ∈ bs, ∃ q : Key, b.1 = keyD q ∧ b.2 = kV q) ∧ ∀ b ∈ bs, Rp P w H F b.2 b.1
  | _, _, .nil => ⟨[], rfl, rfl, fun _ h => (nomatch h), fun _ h => nomatch h⟩
  | _, _, .cons (k := k) r t => by
    obtain ⟨bs, h1, h2, h3, h4⟩ := key_pairs t
    refine ⟨(keyD k, kV k) :: bs, by rw [List.map_cons, List.map_cons, h1], by rw [List.map_cons, List.map_cons, h2], fun b hb => ?_, fun b hb => ?_⟩
    · rcases List.mem_cons.mp hb with e | hb
      · rw [e]; exact ⟨k, rfl, rfl⟩
      · exact h3 b hb
    · rcases List.mem_cons.mp hb with e | hb
      · rw [e]
        cases k with
        | inl i => exact .int i
        | inr x => exact .str x
      · exact h4 b hb
section
variable {X : Cx} {c : C3}
theorem call_sortG (cc : Cc X c) : CallR X (.builtin "sorted") (rC1 c sortG) := fun pins s σ H xs us Q I r h => by
  obtain ⟨x, rfl, σ', ρ, F, d, sr, t, h⟩ := h
  obtain ⟨u, rfl, ru⟩ := vals1 r
  unfold sortG at h
  split at h
  · split at h
    · rename_i ds hz
      obtain ⟨a, vs, rfl, ha, ra⟩ := t.list
      cases ru
      obtain ⟨its, rv, hl, _⟩ := I.list (.of ha)
      exact sorted_core cc I sr rv ra hl.isList hz h
    · exact h.elim
  · split at h
    · rename_i kds hz
      rw [Bool.and_eq_true] at hz
      obtain ⟨a, o, kvs, vs, rfl, dk⟩ := t.dk hz.1
      cases ru
      obtain ⟨h1, h2, h3, h4⟩ := sortOk.of hz.2
      obtain ⟨p1, p2⟩ := deep_all (d := .none) (.inl h1)
      have hun := cc.un
      have dd := dk.dict cc I
      obtain ⟨ep, hat⟩ := dd.dictAt
      have hlen : vs.length = kds.length := by rw [← dk.kv.length, dk.rp.length]
      have hz16 : vs.length ≤ sizeLine := by rw [hlen]; rw [List.length_map] at h2; exact h2
      refine Calls.call_function_entry PyProof.Rows.kind_sorted PyProof.Rows.plain_sorted PyProof.Rows.entry_sorted (PyProof.Rows.args_sorted1 _) ?_
      unfold Builtin.«sorted»
      refine wpAny_bind (m := checkCount "sorted" 1 1 _) (wpAny_pure ?_)
      refine wpAny_bind (PySem.W.kdu_collect (A := X.A.in1) (PySem.W.kdl_dict (knd := mixKind X.prog X.w) (kvs := vs) (ep := ep) dk.sys) (I.ok.hd cc.calm) hat hz16 fun h' tk acc hk hacc => ?_)
      have hal : acc.toList.length = vs.length := by rw [Array.length_toList, hacc.1]
      have hv : Vals (vs.map fun p => kV p.1) acc.toList := keys_at hal fun j v e => by
        obtain ⟨k, x, e1, e2⟩ := hacc.2 j v (by rw [← Array.getElem?_toList]; exact e)
        exact ⟨k, x, e1, e2⟩
      obtain ⟨bs, hb1, hb2, hb3, hb4⟩ := key_pairs dk.rp
      rw [← L3.KV.keyVals dk.kv, ← hb2] at hv
      have I1 : Inv X pins σ H { s with heap := h', toks := tk } := I.kept hk
      refine wpAny_bind (wpAny_newList ?_ (by rw [hal]; exact hz16))
      have hoL : (h'.push (seqObj "list" acc.toList.toArray 0)).get? h'.objs.size = some (seqObj "list" acc.toList.toArray 0) := Heap.get?_push_size _ rfl
      show wpAny _ _ _ _ _ { s with heap := h'.push (seqObj "list" acc.toList.toArray 0), toks := tk }
      rw [← hb1] at h3 h4 p2 p1 h2
      refine wpAny_bind (wpAny_holding (PySem.W.list_sort_data (s := { s with heap := h'.push (seqObj "list" acc.toList.toArray 0), toks := tk }) (R := fun (u : Value) (b : D × V) => RelV b.2 u) (enc := fun b : D × V => b.1) hoL (each_vals hv) (leaf_each hv hb3) h3 h4 (by rw [List.length_map] at h2; exact h2) (fun b hm => ?_) fun out ho he => ?_))
      · have q : b.1.depth ≤ PyData.depthAll (bs.map (·.1)) := depth_mem (List.mem_map.mpr ⟨b, hm, rfl⟩)
        have hu1 : X.A.in1.units = X.A.units + 1 := rfl
        show X.A.in1.units + 1 + b.1.depth < cLine
        omega
      · obtain ⟨e', he'⟩ := PyProof.Rows.sortedHeap_at (vs := acc.toList) (out := out.toArray) hoL
        have hlen2 : ((bs.mergeSort (PySem.W.dataLe false (·.1))).map (·.2)).length ≤ sizeLine := by
          rw [List.length_map, List.length_mergeSort]; rw [List.length_map] at h2; exact h2
        have rb : RpA c.P c.w H F ((bs.mergeSort (PySem.W.dataLe false (·.1))).map (·.2)) (sortD (kds.map (·.1))) := by
          rw [← hb1, ← sort_map]
          exact sort_back fun b hm => hb4 b ((List.mergeSort_perm _ _).mem_iff.mp hm)
        refine wpAny_pure ⟨_, rfl, .ref h'.objs.size, upd H h'.objs.size (.lst ((bs.mergeSort (PySem.W.dataLe false (·.1))).map (·.2))), I1.laid (t' := tk) (fun b u e => ?_) (Nat.le_refl _) ⟨hlen2, out, e', vals_each he, he'⟩, rfl, h.ownL sr rb _ (I1.hok.fresh (Nat.le_refl _))⟩
        have hb : b < h'.objs.size := Heap.lt_size e
        rw [PyProof.Rows.sortedHeap_old (Nat.ne_of_lt hb) (by rw [size_push']; exact Nat.lt_succ_of_lt hb)]
        exact Heap.get?_push_of_some _ e
    · exact h.elim
  · exact h.elim
end

/-! ### list(script) -/
def eListS (i : Nat) : EV := fun ρ => match ρ[i]? with
  | some (.scr ns) => if ns.length ≤ sizeLine then .ok (.own (.list (ns.map PyData.int)), ρ) else .bad
  | _ => .bad
theorem ints_rp {P : Program} {w : World} {H : Hp} {F : Addr → Prop} : ∀ ns : List Int, RpA P w H F (ns.map V.int) (ns.map PyData.int)
  | [] => .nil
  | n :: ns => .cons (.int n) (ints_rp ns)
section
variable {X : Cx} {c : C3} {y : Str} {p px pos : Pos}
theorem r_listS (cc : Cc X c) (i : Nat) (hN : X.N[i]? = some y := by rfl) (hv : Vis X.env.scope y := by first | exact Or.inl rfl | exact Or.inr (Or.inl rfl) | exact Or.inr (Or.inr rfl)) (hdy : (y == ("__debug__" : Str)) = false := by decide) (hcd : (y == ("__classdict__" : Str)) = false := by decide)
    (hg : Gl X "list" := by rfl) (h1 : starEach [.Name y px] X.env = (false, eval (.Name y px) X.env) :: starEach [] X.env := by rfl) (hpl : (backTo pos (starEach [] X.env)).any (·.1) = false := by rfl) :
    PE X (.Call (.Name "list" p) [.Name y px] [] pos) (LE c (eListS i)) :=
  PE.imp (pe_callTy call_list_of hg (cc.fr _ (by rfl)) bt_list (pa_cons (pe_var hN hv hdy hcd) pa_nil h1) (by decide) (by decide) h1 hpl) fun σ H Q h => by
    obtain ⟨ρ, F, s, h⟩ := h
    unfold eListS at h
    cases q : ρ[i]? with
    | none => rw [q] at h; exact h.elim
    | some z =>
      rw [q] at h
      cases z with
      | scr ns =>
        dsimp only at h
        by_cases hz : ns.length ≤ sizeLine
        · rw [if_pos hz] at h
          obtain ⟨a, ea, sc⟩ := s.scr i ns q
          refine ⟨_, ea, a, ns.map V.int, rfl, .inl ?_, fun p hp => ?_⟩
          · rw [cc.K]
            rcases sc with ⟨o, h1, h2⟩ | sc
            · exact .inl (.inr ⟨o, s.keep a _ h1 h2⟩)
            · exact .inr sc
          · exact Got.ownL s (fun v H' F' s' e' r' => h v H' F' s' e' r') (ints_rp ns) p hp
        · rw [if_neg hz] at h; exact h.elim
      | _ => exact h.elim
end
end L3

end
section
/-! L3, part O: defs by names, the law's end. -/
namespace L3
open PySem PySem.Spec PyProof.Rows L2

/-! ### what the generator names -/
theorem al_nil : ∀ (ρ : En) (ds : List D) (ρ' : En), aNil ρ = .ok (ds, ρ') → ds.length = 0 := fun ρ ds ρ' h => by
  unfold aNil at h
  cases h; rfl
theorem al_cons {f : EV} {g : AV} {n : Nat} (h : ∀ (ρ : En) (ds : List D) (ρ' : En), g ρ = .ok (ds, ρ') → ds.length = n) : ∀ (ρ : En) (ds : List D) (ρ' : En), aCons f g ρ = .ok (ds, ρ') → ds.length = n + 1 := fun ρ ds ρ' q => by
  unfold aCons at q
  cases qf : f ρ with
  | bad => rw [qf] at q; cases q
  | exc x => rw [qf] at q; cases q
  | ok z =>
    rw [qf] at q
    dsimp only [R.bind] at q
    cases qg : g z.2 with
    | bad => rw [qg] at q; cases q
    | exc x => rw [qg] at q; cases q
    | ok y =>
      rw [qg] at q
      cases q
      rw [List.length_cons, h _ _ _ qg]
theorem al_lend {g : AV} {n : Nat} (h : ∀ (ρ : En) (ds : List D) (ρ' : En), g ρ = .ok (ds, ρ') → ds.length = n) : ∀ (ρ : En) (ds : List D) (ρ' : En), g ρ = .ok (ds, ρ') → ds.length + 1 = n + 1 := fun ρ ds ρ' q => by rw [h ρ ds ρ' q]
/-- d[k] = v, a list or a dict -/
def setG : SD := fun d k v => match d with
  | .list xs => setLD (.list xs) k v
  | .dict kds => setDK (.dict kds) k v
  | _ => none
theorem set_G {X : Cx} {c : C3} (cc : Cc X c) : PSet X (rSt c setG) := fun pins s σ H o i v ov iv u Q I ro ri rv h => by
  obtain ⟨σ', ρ, F, n, d, dk, dv, sr, ex, ho, rk, rdv, h⟩ := h
  unfold setG at h
  cases d with
  | list xs => exact set_listG pins s σ H o i v ov iv u Q I ro ri rv ⟨σ', ρ, F, n, _, dk, dv, sr, ex, ho, rk, rdv, h⟩
  | dict xs => exact set_dictK cc pins s σ H o i v ov iv u Q I ro ri rv ⟨σ', ρ, F, n, _, dk, dv, sr, ex, ho, rk, rdv, h⟩
  | _ => exact h.elim

/-! ### defs by names -/
structure Has (P : Program) (w : World) (K : PySem.W.Frag) (mg : Str → Option Value) (base : Heap) (CX : CXT) (k : Nat) (x : Str) (n : Nat) (m : FM) : Prop where
  ex : ∃ f fd ps, FnG P w K mg base CX k f fd ps (sp3 P w K n m) ∧ (∀ (s : Shared) (us : List Value), us.length = ps.length → BindsTo s fd ⟨us, []⟩ (ps.zip us)) ∧ mg x = some (.ref f) ∧ PySem.W.keepIn K (.ref f) = true
theorem Has.to {X : Cx} {k j : Nat} {x : Str} {n : Nat} {m : FM} (h : Has X.prog X.w X.K X.mg X.base CX0 k x n m) (hr : Room j X.A) (hk : k ≤ j) : Fn3 X CX0 k x n m := by
  obtain ⟨f, fd, ps, F, hb, hm, kp⟩ := h.ex
  exact ⟨f, fd, ps, F, hr.mono hk, hb, fun _ _ _ _ _ _ _ z => z.elim, hm, kp⟩
theorem Room.blk {X : Cx} {scope : Scope} {j : Nat} (hr : Room j X.A) (s : Shared) (H : Hp) (C : Addr) (cl : List (Str × Addr)) (fp : List Addr) : Room j (Blk X scope s H C cl fp).A := hr
/-- a def of the text -/
theorem def3G {P : Program} {w : World} {K : PySem.W.Frag} {mg : Str → Option Value} {base : Heap} {k : Nat} {x : Str} {f : Addr} {fd : FuncData} {N ps : List Str} {b : SV} {params : Arguments} {body : List Stmt} {scope : Scope}
    (F : FunD K x x params body scope [] [] f fd) (fr : ∀ x : Str, bnames.contains x = true → mg x = none) (S : FnScope N ps scope)
    (hb : ∀ (cdv : Value) (A : Around) (outer : List Env) (s : Shared) (H : Hp) (E : XK) (F : Addr → Prop) (bo : Option Addr), Room k (A.deeper (envOfC x scope s.heap.objs.size f cdv)) →
      Cc (cxOf CX0 P w K mg base N x scope f cdv A outer s H E) (c0 P w K H F bo) → PSs (cxOf CX0 P w K mg base N x scope f cdv A outer s H E) body (LS (c0 P w K H F bo) b)) :
    FnG P w K mg base CX0 (k + 1) f fd ps (sp3 P w K ps.length (runF N.length b)) := by
  obtain ⟨oc, od, dV, kV, doc, pm, an, cdv, ct, osl, rfl, lk, hcd, _, _⟩ := F.ex
  exact fn3 lk hcd S fr fun A outer s H E F bo hr cc => hb cdv A outer s H E F bo hr cc
theorem def3 {P : Program} {w : World} {K : PySem.W.Frag} {mg : Str → Option Value} {base : Heap} {k : Nat} {x : Str} {f : Addr} {fd : FuncData} {N ps : List Str} {b : SV} {params : Arguments} {body : List Stmt} {scope : Scope}
    (F : FunD K x x params body scope [] [] f fd) (hm : mg x = some (.ref f)) (fr : ∀ x : Str, bnames.contains x = true → mg x = none) (S : FnScope N ps scope)
    (hbd : ∀ (kV doc pm : Value) (an : Option Addr) (cdv ct : Value) (us : List Value), us.length = ps.length → bindArgs (PySem.W.fnOf x x params body scope .none kV doc pm an cdv ct) ⟨us, []⟩ = pure (ps.zip us))
    (hb : ∀ (cdv : Value) (A : Around) (outer : List Env) (s : Shared) (H : Hp) (E : XK) (F : Addr → Prop) (bo : Option Addr), Room k (A.deeper (envOfC x scope s.heap.objs.size f cdv)) →
      Cc (cxOf CX0 P w K mg base N x scope f cdv A outer s H E) (c0 P w K H F bo) → PSs (cxOf CX0 P w K mg base N x scope f cdv A outer s H E) body (LS (c0 P w K H F bo) b)) :
    Has P w K mg base CX0 (k + 1) x ps.length (runF N.length b) := ⟨f, fd, ps, def3G F fr S hb, FunD.bindsA F hbd, hm, F.kp⟩

/-! ### facts of the module -/
theorem fact_mem {fa : List He.Fa} {fn : List He.DefD} {K : PySem.W.Frag} (c : He.SaysD fa fn K) {f : He.Fa} (h : f ∈ fa) : f.ok K = true := by
  obtain ⟨i, hi⟩ := List.mem_iff_getElem?.mp h
  exact c.fact i hi
theorem frees {fa : List He.Fa} {fn : List He.DefD} {K : PySem.W.Frag} {h : Heap} {mg : Str → Option Value} (X : K.In h) (G : h.Ns mainGlobals mg) (c : He.SaysD fa fn K) (hf : ∀ x ∈ bnames, He.Fa.free x ∈ fa) : ∀ x : Str, bnames.contains x = true → mg x = none := fun x hx =>
  He.free_ok X G (fact_mem c (hf x (List.contains_iff_mem.mp hx)))

/-! ### the law's end -/
/-- the law's def answers True on every script -/
def LawOk (m : FM) : Prop := ∀ ns : List Int, ns.length ≤ 63 → ∃ l, m [.scr ns] = .ok (.val (.bool true), l)
theorem law_sp {P : Program} {w : World} {K : PySem.W.Frag} {m : FM} (hm : LawOk m) {H : Hp} (hO : Only H) {a : Addr} {ns : List Int} (hl : ns.length ≤ 63) (hS : SqL K H a (ns.map V.int)) : sp3 P w K 1 m [.ref a] H (fun v _ => v = .bl true) fun _ _ _ => False := by
  obtain ⟨l, e⟩ := hm ns hl
  refine ⟨rfl, [.scr ns], fun _ => False, none, ?_, by rw [e]; exact fun v H' F' o => Rp.bool o.res⟩
  refine ⟨rfl, fun j e hj => ?_, fun j e hj => ?_, fun j e hj => ?_, fun j ms hj => ?_, fun j k b hj => ?_, fun _ h => h.elim, fun _ _ h _ => h, fun _ h => h.elim, fun _ h => h.elim, fun _ h => nomatch h⟩
  · cases j <;> cases hj
  · cases j <;> cases hj
  · cases j <;> cases hj
  · cases j with
    | zero =>
      cases hj
      refine ⟨a, rfl, ?_⟩
      rcases hS with (e | ⟨o, e⟩) | hS
      · rcases hO a with z | ⟨o, xs, z⟩
        · rw [e] at z; cases z
        · rw [e] at z; cases z
      · exact .inl ⟨o, e, by simp⟩
      · exact .inr hS
    | succ j => cases hj
  · obtain ⟨d, hj | hj⟩ := hj <;> cases j <;> cases hj
theorem fn_call {P : Program} {w : World} {K : PySem.W.Frag} {mg mb : Str → Option Value} {k : Nat} {fa a : Addr} {fd : FuncData} {x : Str} {sp : Sp} {s₁ : Shared} {vs : List Value} {ns : List Int}
    (KX : K.In s₁.heap) (hns : s₁.heap.Ns mainGlobals mg) (hb : s₁.heap.Ns builtinsNs mb) (hbb : ∀ x : Str, x ≠ "__name__" → mb x = bootBuiltins x) (nl : s₁.heap.NoLimit) (hg : s₁.gens = #[])
    (ha : s₁.heap.get? a = some { cls := .type "list", data := .seq vs.toArray }) (hi : IntsAre vs ns) (hl : ns.length ≤ sizeLine) (hr : Room k callerA)
    (F : ∀ base : Heap, K.In base → base.Ns mainGlobals mg → FnG P w K mg base CX0 k fa fd [x] sp) (hbd : ∀ (s : Shared) (u : Value), BindsTo s fd ⟨[u], []⟩ [(x, u)])
    (hsp : ∀ H : Hp, Only H → SqL K H a (ns.map V.int) → sp [.ref a] H (fun v _ => v = .bl true) fun _ _ _ => False) :
    codeAny (model P w) callerA (.call (.ref fa) ⟨[.ref a], []⟩) (fun r s' => r = .ok (.ret (.bool true)) ∧ OldK s₁.heap s'.heap ∧ s'.os = s₁.os ∧ AllBare s'.gens) s₁ := by
  have rv := vals_ints hi
  -- H: nothing but the script may be tracked
  have main : ∀ H : Hp, Only H → SqL K H a (ns.map V.int) → HOk P w H s₁.heap → (∀ b, H b ≠ none → b = a) → (H a ≠ none → K.lookup a = none) →
      codeAny (model P w) callerA (.call (.ref fa) ⟨[.ref a], []⟩) (fun r s' => r = .ok (.ret (.bool true)) ∧ OldK s₁.heap s'.heap ∧ s'.os = s₁.os ∧ AllBare s'.gens) s₁ := by
    intro H hO hS ok only nk
    have notA : ∀ {b : Addr} {o : Obj} {es : Array DictEntry} {ep : Nat}, s₁.heap.get? b = some o → o.data = .dict es ep → H b = none := fun {b o es ep} e d => by
      cases q : H b with
      | none => rfl
      | some u =>
        obtain rfl : b = a := only b (by rw [q]; simp)
        rw [ha] at e; cases e
        exact nomatch (show Data.seq vs.toArray _ = Data.dict es ep from d)
    have nsOf : ∀ {b : Addr} {m : Str → Option Value}, s₁.heap.Ns b m → (hidT s₁.heap H).Ns b m := fun {b m} ⟨o, es, ep, e, d, r⟩ => ⟨o, es, ep, hidT_get e (notA e d), d, r⟩
    have KH : K.In (hidT s₁.heap H) := fun b o e => hidT_get (KX b o e) (by
      cases q : H b with
      | none => rfl
      | some u =>
        obtain rfl : b = a := only b (by rw [q]; simp)
        rw [nk (by rw [q]; simp)] at e; cases e)
    have md : Mod K mg (hidT s₁.heap H) := ⟨KH, nsOf hns, ⟨mb, nsOf hb, hbb⟩, let ⟨mc, h1, h2⟩ := nl; ⟨mc, nsOf h1, h2⟩⟩
    have en : Env0 P w K mg (hidT s₁.heap H) callerA [] s₁ H := ⟨rfl, md, fun b o e => of_hidT e, Nat.le_of_eq (hidT_size _ _), trivial, fun b hb => absurd (show b ∈ ([] : List Addr) from hb) (by simp), ok, .of_eq hg⟩
    refine codeAny_mono ((F _ KH (nsOf hns)).run callerA [] s₁ H ⟨[.ref a], []⟩ [.ref a] [.ref a] _ _ hr rfl en (hbd s₁ (.ref a)) (.cons rfl .nil) (hsp H hO hS)) fun r s' h => ?_
    match r, h with
    | .error e, h => exact (show False from h).elim
    | .ok .next, h => exact h.elim
    | .ok .brk, h => exact h.elim
    | .ok .cont, h => exact h.elim
    | .ok (.ret u), h =>
      obtain ⟨v, H', os, bare, un, ok', r', q⟩ := h
      obtain rfl : v = .bl true := q
      obtain rfl : u = Value.bool true := r'
      refine ⟨rfl, OldK.of_keep fun b o e => ?_, os, bare⟩
      cases q : H b with
      | none => exact un.keep b o e q (fun z => absurd (show b ∈ ([] : List Addr) from z) (by simp)) (by simp)
      | some u =>
        rcases hO b with z | ⟨ob, xs, z⟩
        · rw [q] at z; cases z
        · obtain ⟨e1, _⟩ := ok b _ z
          obtain ⟨e2, _⟩ := ok' b _ (un.frzs b ob _ z)
          rw [e] at e1; cases e1
          exact e2
  cases hk : K.lookup a with
  | some o =>
    have e := KX a o hk
    rw [ha] at e
    cases e
    refine main (fun _ => none) (fun _ => .inl rfl) (.inr ⟨_, vs.toArray, _, hk, rfl, rfl, rfl, ?_, by simpa using rv⟩) (fun b u z => nomatch (show (none : Option HO) = some u from z)) (fun b z => absurd rfl z) fun z => absurd rfl z
    rw [List.size_toArray, hi.length]; exact hl
  | none =>
    have at1 : ∀ {b : Addr}, b = a → (fun b => if b = a then some (HO.frz { cls := .type "list", data := .seq vs.toArray } (.lst (ns.map V.int))) else none : Hp) b = some (HO.frz { cls := .type "list", data := .seq vs.toArray } (.lst (ns.map V.int))) := fun e => if_pos e
    refine main (fun b => if b = a then some (HO.frz { cls := .type "list", data := .seq vs.toArray } (.lst (ns.map V.int))) else none) (fun b => ?_) (.inl (.inr ⟨{ cls := .type "list", data := .seq vs.toArray }, if_pos rfl⟩)) (fun b u z => ?_) (fun b z => ?_) fun _ => hk
    · by_cases hb : b = a
      · exact .inr ⟨_, _, at1 hb⟩
      · exact .inl (if_neg hb)
    · by_cases hb : b = a
      · cases (at1 hb).symm.trans z
        subst hb
        exact ⟨ha, by rw [List.length_map]; exact hl, vs, _, rv, ha⟩
      · exact nomatch (if_neg hb).symm.trans z
    · by_cases hb : b = a
      · exact hb
      · exact absurd (if_neg hb) z
theorem walk3 {l : PySem.W.OpenLaw} {n k : Nat} {q : Program} {loose : List Str} {XP : (Str → Option Value) → Heap → Prop} {YP : World → Heap → Prop} {d : DefRec} {x : Str} {m : FM}
    (hn : l.most = some n) (hn2 : n ≤ 63) (hdf : d.params.defaults = []) (hr : Room k callerA) (hm : LawOk m)
    (F : ∀ (w : World) (mg : Str → Option Value) (h : Heap), YP w h → h.Ns mainGlobals mg → ∃ (K : PySem.W.Frag), K.In h ∧ ∃ (fa : Addr) (fd : FuncData), mg d.name = some (.ref fa) ∧ (∀ (s : Shared) (u : Value), BindsTo s fd ⟨[u], []⟩ [(x, u)]) ∧
      ∀ base : Heap, K.In base → base.Ns mainGlobals mg → FnG l.prog w K mg base CX0 k fa fd [x] (sp3 l.prog w K 1 m)) :
    PySem.W.WalkO q loose XP YP l.row.toRowW d [] (fun f vs => PySem.call f vs) := by
  refine Att.attach_call hn hdf fun w s₀ s₁ mg mb fa o pm cd doc a vs ns G Y ho hd hcd hmg hobj hints hlen hg => ?_
  obtain ⟨K, KX, fa', fd, hfa, hb, hF⟩ := F w mg _ Y G.T.g
  have e := hmg.symm.trans hfa
  cases e
  exact fn_call KX G.T.g G.T.b G.T.builtins G.T.nolimit hg hobj hints (Nat.le_trans hlen (Nat.le_trans hn2 (by decide))) hr hF hb fun H hO hS => law_sp hm hO (Nat.le_trans hlen hn2) hS
end L3

end
section
/-! L3, part S: running the readings symbolically. -/
namespace L3
open PySem L2

theorem sizeLine_eq' : sizeLine = 16777216 := rfl

/-! ### loops -/
theorem loop_go {g : GV} {b : SV} {Inv : List D → En → Prop} {Post : R (Fl × En) → Prop} (step : ∀ d ds ρ, Inv (d :: ds) ρ → ∃ ρ1, g d ρ = some ρ1 ∧ ((∃ ρ2, b ρ1 = .ok (.nx, ρ2) ∧ Inv ds ρ2) ∨ ∃ r ρ2, b ρ1 = .ok (.rt r, ρ2) ∧ Post (.ok (.rt r, ρ2))))
    (done : ∀ ρ, Inv [] ρ → Post (.ok (.nx, ρ))) : ∀ (ds : List D) (ρ : En), Inv ds ρ → Post (sLoop g b ds ρ)
  | [], ρ, h => done ρ h
  | d :: ds, ρ, h => by
    obtain ⟨ρ1, h1, h2⟩ := step d ds ρ h
    unfold sLoop
    rw [h1]
    dsimp only
    rcases h2 with ⟨ρ2, h2, h3⟩ | ⟨r, ρ2, h2, h3⟩
    · rw [h2]; exact loop_go step done ds ρ2 h3
    · rw [h2]; exact h3
/-- a loop that runs to its end: the state by a fold -/
theorem loop_fold {α β : Type} {g : GV} {b : SV} (E : β → D) (St : α → En → Prop) (f : α → β → α) : ∀ (xs : List β) (a : α) (ρ : En), St a ρ →
    (∀ a x ρ, x ∈ xs → St a ρ → ∃ ρ1 ρ2, g (E x) ρ = some ρ1 ∧ b ρ1 = .ok (.nx, ρ2) ∧ St (f a x) ρ2) → ∃ ρ', sLoop g b (xs.map E) ρ = .ok (.nx, ρ') ∧ St (xs.foldl f a) ρ'
  | [], a, ρ, h, _ => ⟨ρ, rfl, h⟩
  | x :: xs, a, ρ, h, step => by
    obtain ⟨ρ1, ρ2, h1, h2, h3⟩ := step a x ρ List.mem_cons_self h
    obtain ⟨ρ', h4, h5⟩ := loop_fold E St f xs (f a x) ρ2 h3 fun a y ρ hy => step a y ρ (List.mem_cons_of_mem _ hy)
    refine ⟨ρ', ?_, h5⟩
    rw [List.map_cons]
    unfold sLoop
    rw [h1]
    dsimp only
    rw [h2]
    exact h4
/-- the same, with what was walked -/
theorem loop_pre {α β : Type} {g : GV} {b : SV} (E : β → D) (St : α → En → Prop) (f : α → β → α) (xs : List β) (a : α) (ρ : En) (h : St a ρ)
    (step : ∀ pre x post ρ, xs = pre ++ x :: post → St (pre.foldl f a) ρ → ∃ ρ1 ρ2, g (E x) ρ = some ρ1 ∧ b ρ1 = .ok (.nx, ρ2) ∧ St (f (pre.foldl f a) x) ρ2) : ∃ ρ', sLoop g b (xs.map E) ρ = .ok (.nx, ρ') ∧ St (xs.foldl f a) ρ' := by
  have go : ∀ (post pre : List β) (ρ : En), xs = pre ++ post → St (pre.foldl f a) ρ → ∃ ρ', sLoop g b (post.map E) ρ = .ok (.nx, ρ') ∧ St (xs.foldl f a) ρ' := by
    intro post
    induction post with
    | nil => intro pre ρ e h; rw [List.append_nil] at e; subst e; exact ⟨ρ, rfl, h⟩
    | cons x post ih =>
      intro pre ρ e h
      obtain ⟨ρ1, ρ2, h1, h2, h3⟩ := step pre x post ρ e h
      obtain ⟨ρ', h4, h5⟩ := ih (pre ++ [x]) ρ2 (by rw [e, List.append_assoc]; rfl) (by rw [List.foldl_append]; exact h3)
      refine ⟨ρ', ?_, h5⟩
      rw [List.map_cons]
      unfold sLoop
      rw [h1]
      dsimp only
      rw [h2]
      exact h4
  exact go xs [] ρ rfl h
def pushO {α : Type} (rs : List α) (o : Option α) : List α := match o with
  | some x => rs ++ [x]
  | none => rs
@[simp] theorem pushO_some {α : Type} (rs : List α) (x : α) : pushO rs (some x) = rs ++ [x] := rfl
@[simp] theorem pushO_none {α : Type} (rs : List α) : pushO rs none = rs := rfl
theorem pushO_map {α β : Type} (f : α → β) (rs : List α) (o : Option α) : (pushO rs o).map f = pushO (rs.map f) (o.map f) := by cases o <;> simp
theorem foldl_opt {α β : Type} (g : β → Option α) : ∀ (l : List β) (r : List α), l.foldl (fun rs i => pushO rs (g i)) r = r ++ l.filterMap g
  | [], r => by simp
  | x :: l, r => by
    rw [List.foldl_cons, foldl_opt g l, List.filterMap_cons]
    cases g x with
    | none => rfl
    | some y => simp
/-- the same, an invariant by the place -/
theorem loop_ix {α : Type} {g : GV} {b : SV} (St : Nat → α → En → Prop) (ds : List D) : ∀ (n i : Nat) (a : α) (ρ : En), i + n = ds.length → St i a ρ →
    (∀ i a ρ d, ds[i]? = some d → St i a ρ → ∃ ρ1 ρ2 a', g d ρ = some ρ1 ∧ b ρ1 = .ok (.nx, ρ2) ∧ St (i + 1) a' ρ2) → ∃ ρ' a', sLoop g b (ds.drop i) ρ = .ok (.nx, ρ') ∧ St ds.length a' ρ'
  | 0, i, a, ρ, hi, h, _ => by
    have e : i = ds.length := by omega
    subst e
    rw [List.drop_length]
    exact ⟨ρ, a, rfl, h⟩
  | n + 1, i, a, ρ, hi, h, step => by
    have hlt : i < ds.length := by omega
    obtain ⟨ρ1, ρ2, a', h1, h2, h3⟩ := step i a ρ ds[i] (List.getElem?_eq_getElem hlt) h
    obtain ⟨ρ', a2, h4, h5⟩ := loop_ix St ds n (i + 1) a' ρ2 (by omega) h3 step
    refine ⟨ρ', a2, ?_, h5⟩
    rw [List.drop_eq_getElem_cons hlt]
    unfold sLoop
    rw [h1]
    dsimp only
    rw [h2]
    exact h4
theorem sSeq_nx {s b : SV} {ρ ρ' : En} (h : s ρ = .ok (.nx, ρ')) : sSeq s b ρ = b ρ' := by
  unfold sSeq; rw [h]; rfl
theorem sSeq_rt {s b : SV} {ρ ρ' : En} {r : Rs} (h : s ρ = .ok (.rt r, ρ')) : sSeq s b ρ = .ok (.rt r, ρ') := by
  unfold sSeq; rw [h]; rfl
theorem runF_rt {n : Nat} {b : SV} {as : En} {r : Rs} {ρ' : En} (h : b (as ++ List.replicate (n - as.length) .no) = .ok (.rt r, ρ')) : runF n b as = .ok (r, lentD ρ') := by
  unfold runF; rw [h]; rfl
theorem sFor_run {it : IV} {g : GV} {b : SV} {ρ ρ1 : En} {ds : List D} (h : it ρ = .ok (ds, ρ1)) : sFor it g b ρ = sLoop g b ds ρ1 := by
  unfold sFor; rw [h]; rfl
/-! ### comprehensions -/
theorem comp_const {β : Type} {g : GV} {t : TV} {f : EV} {vs : List Nat} {ρ : En} (E : β → D) (p : β → Bool) (h : β → D) : ∀ xs : List β,
    (∀ x ∈ xs, ∃ ρ1 ρ2, g (E x) ρ = some ρ1 ∧ t ρ1 = .ok (p x, ρ2) ∧ (p x = true → ∃ r ρ3, f ρ2 = .ok (r, ρ3) ∧ r.d = h x ∧ wipeE ρ3 vs = ρ) ∧ (p x = false → wipeE ρ2 vs = ρ)) →
    cLoop g t f vs (xs.map E) ρ = .ok ((xs.filter p).map h, ρ)
  | [], _ => rfl
  | x :: xs, step => by
    obtain ⟨ρ1, ρ2, h1, h2, h3, h4⟩ := step x List.mem_cons_self
    have ih := comp_const E p h xs fun y hy => step y (List.mem_cons_of_mem _ hy)
    rw [List.map_cons]
    unfold cLoop
    rw [h1]
    dsimp only
    rw [h2]
    dsimp only [R.bind]
    cases e : p x with
    | true =>
      obtain ⟨r, ρ3, h5, h6, h7⟩ := h3 e
      rw [if_pos rfl, h5]
      dsimp only
      rw [h7, ih, List.filter_cons_of_pos (by exact e), List.map_cons, h6]
    | false =>
      rw [if_neg Bool.false_ne_true, h4 e, ih, List.filter_cons_of_neg (by rw [e]; exact Bool.false_ne_true)]
/-- no test, f throughout -/
theorem comp_all {β : Type} {g : GV} {f : EV} {vs : List Nat} {ρ : En} (E : β → D) (h : β → D) (xs : List β)
    (step : ∀ x ∈ xs, ∃ ρ1 r ρ3, g (E x) ρ = some ρ1 ∧ f ρ1 = .ok (r, ρ3) ∧ r.d = h x ∧ wipeE ρ3 vs = ρ) : cLoop g tT f vs (xs.map E) ρ = .ok (xs.map h, ρ) := by
  have q := comp_const (g := g) (t := tT) (f := f) (vs := vs) (ρ := ρ) E (fun _ => true) h xs fun x hx => by
    obtain ⟨ρ1, r, ρ3, h1, h2, h3, h4⟩ := step x hx
    exact ⟨ρ1, ρ1, h1, rfl, fun _ => ⟨r, ρ3, h2, h3, h4⟩, fun e => nomatch e⟩
  rw [show xs.filter (fun _ => true) = xs from List.filter_eq_self.mpr fun _ _ => rfl] at q
  exact q
theorem eComp_run {it : IV} {g : GV} {t : TV} {f : EV} {vs : List Nat} {ρ ρ1 ρ2 : En} {ds ys : List D} (h1 : it ρ = .ok (ds, ρ1)) (h2 : cLoop g t f vs ds (wipeE ρ1 vs) = .ok (ys, ρ2)) (hz : ys.length ≤ sizeLine) :
    eComp it g t f vs ρ = .ok (.own (.list ys), restE ρ1 ρ2 vs) := by
  unfold eComp
  rw [h1]
  dsimp only [R.bind]
  rw [h2]
  dsimp only
  rw [if_pos hz]
/-! ### while -/
/-- a measure that sinks -/
theorem while_run {α : Type} {t : TV} {b : SV} (St : α → En → Prop) (go : α → Bool) (nxt : α → α) (μ : α → Nat) (hμ : ∀ a, go a = true → μ (nxt a) < μ a)
    (step : ∀ a ρ, St a ρ → ∃ ρ1, t ρ = .ok (go a, ρ1) ∧ (go a = true → ∃ ρ2, b ρ1 = .ok (.nx, ρ2) ∧ St (nxt a) ρ2) ∧ (go a = false → St a ρ1)) :
    ∀ (n : Nat) (a : α) (ρ : En), St a ρ → μ a < n → ∃ a' ρ', sWhile t b n ρ = .ok (.nx, ρ') ∧ St a' ρ' ∧ go a' = false ∧ ∃ k, a' = Nat.repeat nxt k a ∧ ∀ j, j < k → go (Nat.repeat nxt j a) = true
  | 0, a, ρ, _, h => absurd h (Nat.not_lt_zero _)
  | n + 1, a, ρ, h, hn => by
    obtain ⟨ρ1, h1, h2, h3⟩ := step a ρ h
    unfold sWhile
    rw [h1]
    dsimp only [R.bind]
    cases e : go a with
    | false =>
      rw [if_neg Bool.false_ne_true]
      exact ⟨a, ρ1, rfl, h3 e, e, 0, rfl, fun j hj => absurd hj (Nat.not_lt_zero _)⟩
    | true =>
      obtain ⟨ρ2, h4, h5⟩ := h2 e
      rw [if_pos rfl, h4]
      dsimp only
      have := hμ a e
      obtain ⟨a', ρ', q1, q2, q3, k, q4, q5⟩ := while_run St go nxt μ hμ step n (nxt a) ρ2 h5 (by omega)
      have rep : ∀ k, Nat.repeat nxt k (nxt a) = Nat.repeat nxt (k + 1) a := by
        intro k
        induction k with
        | zero => rfl
        | succ k ih => show nxt _ = nxt _; rw [ih]
      refine ⟨a', ρ', q1, q2, q3, k + 1, by rw [q4, rep], fun j hj => ?_⟩
      cases j with
      | zero => exact e
      | succ j => rw [← rep]; exact q5 j (by omega)
/-! ### places -/
theorem atI_nat' {α : Type} (xs : List α) (i : Nat) : atI xs (i : Int) = xs[i]? := by
  unfold atI ixN
  rw [if_pos (Int.natCast_nonneg i)]
  by_cases h : i < xs.length
  · rw [if_pos (by exact_mod_cast h)]; simp
  · rw [if_neg (by omega), List.getElem?_eq_none (by omega)]; rfl
theorem atI_last' {α : Type} (xs : List α) (h : xs ≠ []) : atI xs (-1) = some (xs.getLast h) := by
  unfold atI ixN
  have hl : 0 < xs.length := List.length_pos_iff.mpr h
  rw [if_neg (by decide), if_pos (by omega)]
  show xs[(-1 + (xs.length : Int)).toNat]? = _
  have e : (-1 + (xs.length : Int)).toNat = xs.length - 1 := by omega
  rw [e, ← List.getLast?_eq_getElem?, List.getLast?_eq_getLast h]
@[simp] theorem atI_zero {α : Type} (xs : List α) : atI xs 0 = xs[0]? := atI_nat' xs 0
@[simp] theorem atI_one {α : Type} (xs : List α) : atI xs 1 = xs[1]? := atI_nat' xs 1
@[simp] theorem atI_two {α : Type} (xs : List α) : atI xs 2 = xs[2]? := atI_nat' xs 2
@[simp] theorem atI_three {α : Type} (xs : List α) : atI xs 3 = xs[3]? := atI_nat' xs 3
@[simp] theorem atI_snoc {α : Type} (xs : List α) (x : α) : atI (xs ++ [x]) (-1) = some x := by rw [atI_last' _ (by simp)]; simp
end L3

end
section
/-! L3, part T: operations on data with a Lean type. -/
namespace L3
open PySem PySem.W L2

instance : Datum Nat where
  toD n := .int n
  plain _ := rfl
  eqv a b := by
    simp only [PyData.eqv]
    rw [Bool.eq_iff_iff, beq_iff_eq, decide_eq_true_eq]
    exact Int.ofNat_inj
  depth := 0
  depth_le _ := Nat.le_refl _
instance : DatumOrd Nat where
  lt a b := decide (a < b)
  alike a b := by show PySem.W.alike (.int _) (.int _) = true; simp only [PySem.W.alike]
  notNone a := fun e => by cases e
  lt_eq a b := (dataLt_int _ _).trans (decide_eq_decide.mpr Int.ofNat_lt)
instance : SomeDatum Nat := ⟨fun _ => by show PyData.eqv .none (.int _) = false; simp only [PyData.eqv], fun _ => by show PyData.eqv (.int _) .none = false; simp only [PyData.eqv]⟩
/-- x as data -/
abbrev tD {α : Type} [DecidableEq α] [Datum α] (x : α) : D := Datum.toD x
theorem tD_nat (n : Nat) : (tD n : D) = .int (n : Int) := rfl
theorem tD_list {α : Type} [DecidableEq α] [Datum α] (xs : List α) : (tD xs : D) = .list (xs.map tD) := rfl
theorem tD_tup {α : Type} [DecidableEq α] [Datum α] (xs : List α) : (tD (Tup.mk xs) : D) = .tuple (xs.map tD) := rfl
theorem tD_pair {α β : Type} [DecidableEq α] [Datum α] [DecidableEq β] [Datum β] (x : α) (y : β) : (tD (x, y) : D) = .tuple [tD x, tD y] := rfl
theorem tD_none {α : Type} [DecidableEq α] [Datum α] [SomeDatum α] : (tD (none : Option α) : D) = .none := rfl
theorem tD_some {α : Type} [DecidableEq α] [Datum α] [SomeDatum α] (x : α) : (tD (some x) : D) = tD x := rfl

section
variable {α : Type} [DecidableEq α] [Datum α]
theorem okD_t (x : α) (h : Datum.depth α ≤ 32 := by decide) : okD (tD x) = true := by
  unfold okD
  rw [Datum.plain x, decide_eq_true (Nat.le_trans (Datum.depth_le x) h)]; rfl
theorem eqG_t (x y : α) (h : Datum.depth α ≤ 32 := by decide) : eqG (tD x) (tD y) = some (.val (.bool (decide (x = y)))) := by
  unfold eqG
  rw [okD_t x h, okD_t y h, Datum.eqv x y]; rfl
theorem neG_t (x y : α) (h : Datum.depth α ≤ 32 := by decide) : neG (tD x) (tD y) = some (.val (.bool (decide (x ≠ y)))) := by
  unfold neG
  rw [okD_t x h, okD_t y h, Datum.eqv x y, ← decide_not]; rfl
theorem any_t (xs : List α) (x : α) : ((xs.map tD).any fun d => PyData.eqv d (tD x)) = decide (x ∈ xs) := any_datum xs x
theorem inG_list (x : α) (xs : List α) (h : Datum.depth α ≤ 31 := by decide) : inG (tD x) (.list (xs.map tD)) = some (.val (.bool (decide (x ∈ xs)))) := by
  unfold inG
  have h2 : okD (.list (xs.map tD)) = true := okD_t (α := List α) xs (Nat.succ_le_succ h)
  dsimp only
  rw [okD_t x (Nat.le_succ_of_le h), h2, any_t]; rfl
theorem inG_tup (x : α) (xs : List α) (h : Datum.depth α ≤ 31 := by decide) : inG (tD x) (.tuple (xs.map tD)) = some (.val (.bool (decide (x ∈ xs)))) := by
  unfold inG
  have h2 : okD (.tuple (xs.map tD)) = true := okD_t (α := Tup α) ⟨xs⟩ (Nat.succ_le_succ h)
  dsimp only
  rw [okD_t x (Nat.le_succ_of_le h), h2, any_t]; rfl
theorem ninG_list (x : α) (xs : List α) (h : Datum.depth α ≤ 31 := by decide) : ninG (tD x) (.list (xs.map tD)) = some (.val (.bool (decide (x ∉ xs)))) := by
  unfold ninG
  have h2 : okD (.list (xs.map tD)) = true := okD_t (α := List α) xs (Nat.succ_le_succ h)
  dsimp only
  rw [okD_t x (Nat.le_succ_of_le h), h2, any_t, ← decide_not]; rfl
theorem ninG_tup (x : α) (xs : List α) (h : Datum.depth α ≤ 31 := by decide) : ninG (tD x) (.tuple (xs.map tD)) = some (.val (.bool (decide (x ∉ xs)))) := by
  unfold ninG
  have h2 : okD (.tuple (xs.map tD)) = true := okD_t (α := Tup α) ⟨xs⟩ (Nat.succ_le_succ h)
  dsimp only
  rw [okD_t x (Nat.le_succ_of_le h), h2, any_t, ← decide_not]; rfl
end
section
variable {α : Type} [DecidableEq α] [DatumOrd α]
theorem isNoneD_of {d : D} (h : d ≠ .none) : isNoneD d = false := by
  cases d with
  | none => exact absurd rfl h
  | _ => rfl
theorem alikeL_t (xs : List α) : alikeL (xs.map tD) = true := by
  unfold alikeL
  simp only [Bool.and_eq_true, List.all_eq_true, Bool.not_eq_true']
  refine ⟨fun x hx y hy => ?_, fun x hx => ?_⟩
  · obtain ⟨a, _, rfl⟩ := List.mem_map.mp hx
    obtain ⟨b, _, rfl⟩ := List.mem_map.mp hy
    exact DatumOrd.alike a b
  · obtain ⟨a, _, rfl⟩ := List.mem_map.mp hx
    exact isNoneD_of (DatumOrd.notNone a)
theorem minG_list (x : α) (xs : List α) (h : Datum.depth α ≤ 31 := by decide) : minG (.list (tD x :: xs.map tD)) = some (.val (tD (minOf x xs))) := by
  unfold minG
  have h1 : okD (.list (tD x :: xs.map tD)) = true := okD_t (α := List α) (x :: xs) (Nat.succ_le_succ h)
  have h2 : alikeL (tD x :: xs.map tD) = true := alikeL_t (x :: xs)
  dsimp only
  rw [h1, h2, minD_map]; rfl
theorem maxG_list (x : α) (xs : List α) (h : Datum.depth α ≤ 31 := by decide) : maxG (.list (tD x :: xs.map tD)) = some (.val (tD (maxOf x xs))) := by
  unfold maxG
  have h1 : okD (.list (tD x :: xs.map tD)) = true := okD_t (α := List α) (x :: xs) (Nat.succ_le_succ h)
  have h2 : alikeL (tD x :: xs.map tD) = true := alikeL_t (x :: xs)
  dsimp only
  rw [h1, h2, maxD_map]; rfl
theorem minG_tup (x : α) (xs : List α) (h : Datum.depth α ≤ 31 := by decide) : minG (.tuple (tD x :: xs.map tD)) = some (.val (tD (minOf x xs))) := by
  unfold minG
  have h1 : okD (.tuple (tD x :: xs.map tD)) = true := okD_t (α := Tup α) ⟨x :: xs⟩ (Nat.succ_le_succ h)
  have h2 : alikeL (tD x :: xs.map tD) = true := alikeL_t (x :: xs)
  dsimp only
  rw [h1, h2, minD_map]; rfl
theorem maxG_tup (x : α) (xs : List α) (h : Datum.depth α ≤ 31 := by decide) : maxG (.tuple (tD x :: xs.map tD)) = some (.val (tD (maxOf x xs))) := by
  unfold maxG
  have h1 : okD (.tuple (tD x :: xs.map tD)) = true := okD_t (α := Tup α) ⟨x :: xs⟩ (Nat.succ_le_succ h)
  have h2 : alikeL (tD x :: xs.map tD) = true := alikeL_t (x :: xs)
  dsimp only
  rw [h1, h2, maxD_map]; rfl
/-- the least is one of them, and not above any -/
def tLe (a b : α) : Bool := !DatumOrd.lt b a
theorem sortD_t (xs : List α) : sortD (xs.map tD) = (xs.mergeSort tLe).map tD := by
  unfold sortD
  rw [← List.map_mergeSort (r := tLe)]
  intro a _ b _
  show (!DatumOrd.lt b a) = !(dataLt (Datum.toD b) (Datum.toD a))
  rw [DatumOrd.lt_eq]
end
theorem sortOk_nat (xs : List Nat) (h : xs.length ≤ 16777216) : sortOk (xs.map tD) = true := by
  unfold sortOk
  have h1 : okD (.list (xs.map tD)) = true := okD_t (α := List Nat) xs
  rw [h1, decide_eq_true (show (xs.map tD).length ≤ sizeLine by rw [List.length_map]; exact h)]
  have h2 : ((xs.map tD).all fun x => (xs.map tD).all fun y => PySem.W.alike x y) = true := by
    simp only [List.all_eq_true]
    intro x hx y hy
    obtain ⟨a, _, rfl⟩ := List.mem_map.mp hx
    obtain ⟨b, _, rfl⟩ := List.mem_map.mp hy
    exact DatumOrd.alike a b
  rw [h2]
  simp only [Bool.true_and, Bool.or_eq_true, List.all_eq_true]
  refine .inr fun x hx => ?_
  obtain ⟨a, _, rfl⟩ := List.mem_map.mp hx
  rfl
theorem intsD_nat (xs : List Nat) : intsD (xs.map tD) = some (xs.map Int.ofNat) := by
  have e : xs.map (tD : Nat → D) = (xs.map Int.ofNat).map PyData.int := by rw [List.map_map]; rfl
  rw [e, intsD_map]
theorem boolsD_bool (xs : List Bool) : boolsD (xs.map tD) = some xs := boolsD_map xs
theorem sum_ofNat : ∀ xs : List Nat, (xs.map Int.ofNat).sum = ((xs.sum : Nat) : Int)
  | [] => rfl
  | x :: xs => by rw [List.map_cons, List.sum_cons, List.sum_cons, sum_ofNat xs]; exact (Int.natCast_add x xs.sum).symm
theorem atI_map {α : Type} [DecidableEq α] [Datum α] (xs : List α) (i : Nat) : atI (xs.map tD) (i : Int) = (xs[i]?).map tD := by rw [atI_nat', List.getElem?_map]
theorem rangeL_nat (lo n : Nat) : rangeL (lo : Int) 1 n = (List.range' lo n).map (fun i : Nat => (tD i : D)) := by
  unfold rangeL
  refine List.ext_getElem? fun i => ?_
  rw [List.getElem?_map, List.getElem?_map]
  by_cases h : i < n
  · rw [List.getElem?_range h, List.getElem?_range' h]
    simp [tD_nat]
  · rw [List.getElem?_eq_none (by simpa using h), List.getElem?_eq_none (by simpa using h)]; rfl
theorem rangeL_zero (n : Nat) : rangeL 0 1 n = (List.range n).map (fun i : Nat => (tD i : D)) := by
  rw [List.range_eq_range']; exact rangeL_nat 0 n
theorem rangeL_one (n : Nat) : rangeL 1 1 n = (List.range' 1 n).map (fun i : Nat => (tD i : D)) := rangeL_nat 1 n
theorem fit62_nat {n : Nat} (h : n < 1000000000) : fit62 (n : Int) = true := bitsZ.mk (by decide) (by rw [Int.natAbs_natCast]; omega)
theorem small_nat {n : Nat} (h : n < 1000000000) : smallZ (n : Int) = true := bitsZ.mk (by decide) (by rw [Int.natAbs_natCast]; omega)
theorem small_lit {n : Nat} (h : n < 1000000000) : smallZ (OfNat.ofNat n) = true := small_nat h
theorem bits30_nat {n : Nat} (h : n < 1000000000) : bitsZ 30 (n : Int) = true := bitsZ.mk (by decide) (by rw [Int.natAbs_natCast]; omega)
theorem rng1_nat {n : Nat} (h : n < 1000000000) : rng1 [.int (n : Int)] = .ok ((List.range n).map (fun i : Nat => (tD i : D))) := by
  unfold rng1
  dsimp only
  rw [if_pos (fit62_nat h), Int.toNat_natCast, rangeL_zero]
theorem rng2_one {n : Nat} (h : n < 999999999) : rng2 [.int 1, .int ((n : Int) + 1)] = .ok ((List.range' 1 n).map (fun i : Nat => (tD i : D))) := by
  unfold rng2
  dsimp only
  have e : fit62 ((n : Int) + 1) = true := fit62_nat (n := n + 1) (by omega)
  have e2 : fit62 1 = true := fit62_nat (n := 1) (by omega)
  have e3 : ((n : Int) + 1 - 1).toNat = n := by omega
  rw [e, e2, if_pos (by rfl), e3, rangeL_one]
theorem rng2_nat {m n : Nat} (hm : m < 1000000000) (h : n < 1000000000) : rng2 [.int (m : Int), .int (n : Int)] = .ok ((List.range' m (n - m)).map (fun i : Nat => (tD i : D))) := by
  unfold rng2
  dsimp only
  have e3 : ((n : Int) - (m : Int)).toNat = n - m := by omega
  rw [fit62_nat hm, fit62_nat h, if_pos (by rfl), e3, rangeL_nat]
theorem fit62_nat1 {n : Nat} (h : n < 999999999) : fit62 ((n : Int) + 1) = true := fit62_nat (n := n + 1) (by omega)
end L3

end
section
/-! L3, part U: texts of data. -/
namespace L3
open PySem PySem.W L2

/-- it can be shown, on at most n signs -/
structure Sh (n : Nat) (d : D) : Prop where
  ok : d.showable = true
  le : d.shown.length ≤ n
theorem Sh.none {n : Nat} (h : 4 ≤ n := by decide) : Sh n .none := ⟨rfl, h⟩
theorem Sh.bool {n : Nat} {b : Bool} (h : 5 ≤ n := by decide) : Sh n (.bool b) := ⟨rfl, by cases b <;> exact Nat.le_trans (by decide) h⟩
theorem Sh.nat {n k : Nat} (hk : k < 1000000000) (h : 13 ≤ n := by decide) : Sh n (.int (k : Int)) := by
  refine ⟨?_, Nat.le_trans (PyData.shown_int_le2 (by omega) (by omega)) h⟩
  unfold PyData.showable
  refine decide_eq_true ?_
  rw [Int.natAbs_natCast]
  by_cases h0 : k = 0
  · subst h0; decide
  · exact (Nat.log2_lt h0).mpr (Nat.lt_of_lt_of_le hk (Nat.le_trans (show 1000000000 ≤ 2 ^ 30 by decide) (Nat.pow_le_pow_right (by decide) (by decide))))
theorem sum_len_le {n : Nat} : ∀ ts : List Str, (∀ t ∈ ts, t.length ≤ n) → (ts.map (·.length)).sum ≤ n * ts.length
  | [], _ => Nat.le_refl _
  | t :: ts, h => by
    have ih := sum_len_le ts fun x hx => h x (List.mem_cons_of_mem _ hx)
    have := h t List.mem_cons_self
    rw [List.map_cons, List.sum_cons, List.length_cons, Nat.mul_succ]; omega
theorem shownAll_map : ∀ xs : List D, PyData.shownAll xs = xs.map PyData.shown
  | [] => rfl
  | x :: xs => by rw [PyData.shownAll, shownAll_map xs]; rfl
theorem showableAll_of : ∀ xs : List D, (∀ x ∈ xs, x.showable = true) → PyData.showableAll xs = true
  | [], _ => rfl
  | x :: xs, h => by rw [PyData.showableAll, h x List.mem_cons_self, showableAll_of xs fun y hy => h y (List.mem_cons_of_mem _ hy)]; rfl
theorem Sh.tuple {n k m : Nat} {xs : List D} (h : ∀ x ∈ xs, Sh n x) (hk : xs.length ≤ k) (hm : (n + 2) * k + 3 ≤ m) : Sh m (.tuple xs) := by
  refine ⟨by rw [PyData.showable]; exact showableAll_of xs fun x hx => (h x hx).ok, Nat.le_trans ?_ hm⟩
  rw [PyData.shown, shownAll_map]
  refine Nat.le_trans (tupleText_len_le _) ?_
  have := sum_len_le (n := n) (xs.map PyData.shown) fun t ht => by
    obtain ⟨x, hx, rfl⟩ := List.mem_map.mp ht
    exact (h x hx).le
  rw [List.length_map] at *
  have h2 : n * xs.length + 2 * xs.length ≤ (n + 2) * k := by rw [← Nat.add_mul]; exact Nat.mul_le_mul_left _ hk
  omega
theorem Sh.list {n k m : Nat} {xs : List D} (h : ∀ x ∈ xs, Sh n x) (hk : xs.length ≤ k) (hm : (n + 2) * k + 3 ≤ m) : Sh m (.list xs) := by
  refine ⟨by rw [PyData.showable]; exact showableAll_of xs fun x hx => (h x hx).ok, Nat.le_trans ?_ hm⟩
  rw [PyData.shown, shownAll_map]
  refine Nat.le_trans (listText_len_le _) ?_
  have := sum_len_le (n := n) (xs.map PyData.shown) fun t ht => by
    obtain ⟨x, hx, rfl⟩ := List.mem_map.mp ht
    exact (h x hx).le
  rw [List.length_map] at *
  have h2 : n * xs.length + 2 * xs.length ≤ (n + 2) * k := by rw [← Nat.add_mul]; exact Nat.mul_le_mul_left _ hk
  omega
theorem reprG_ok {n : Nat} {d : D} (h : Sh n d) (ho : okD d = true) (hn : n ≤ 16777216) : reprG d = some (.val (.str d.shown)) := by
  unfold okD at ho
  simp only [Bool.and_eq_true, decide_eq_true_eq] at ho
  unfold reprG
  rw [ho.1, h.ok, decide_eq_true ho.2, decide_eq_true (show d.shown.length ≤ sizeLine from Nat.le_trans h.le hn)]; rfl
theorem neG_str (a b : Str) : neG (.str a) (.str b) = some (.val (.bool (decide (a ≠ b)))) := by
  unfold neG
  have h1 : okD (.str a) = true := rfl
  have h2 : okD (.str b) = true := rfl
  rw [h1, h2]
  have e : PyData.eqv (.str a) (.str b) = decide (a = b) := by
    rw [PyData.eqv]
    exact Bool.eq_iff_iff.mpr (by simp)
  rw [e, ← decide_not]; rfl
theorem eqG_str (a b : Str) : eqG (.str a) (.str b) = some (.val (.bool (decide (a = b)))) := by
  unfold eqG
  have h1 : okD (.str a) = true := rfl
  have h2 : okD (.str b) = true := rfl
  rw [h1, h2]
  have e : PyData.eqv (.str a) (.str b) = decide (a = b) := by
    rw [PyData.eqv]
    exact Bool.eq_iff_iff.mpr (by simp)
  rw [e]; rfl
end L3

end
section
namespace K78
open PySem PySem.Spec PyProof.Rows L2 L3
/-! ### what the defs do -/
/-- _law_cup(script): 0 script 1 cell -/
def b__law_cup : SV := (sSeq (sSet 1 (eOp1 absG (oE (eOp2 idxG (oE (eOp2 addG (oE (eListS 0)) (oE (eLst (aCons (eC (.int 0)) aNil))))) (oE (eC (.int 0)))))))
    (sSeq (sRet (eLst (aCons (eIf (tE (eOp2 geG (oVar 1) (oE (eOp2 powG (oE (eC (.int 10))) (oE (eC (.int 18))))))) (eOp2 fdivG (oVar 1) (oE (eC (.int 115)))) (eC (.int 0))) (aCons (eOp2 addG (oE (eOp2 modG (oE (eOp1 intG (oE (eOp2 addG (oE (eOp2 mulG (oVar 1) (oE (eC (.int 351))))) (oE (eC (.int 4239))))))) (oE (eC (.int 2077503101))))) (oE (eC (.int 201)))) aNil))))
    sNil))
def m__law_cup : FM := runF 2 b__law_cup
/-- _law_roll(cup, many): 0 cup 1 many 2 found 3 deep -/
def b__law_roll : SV := (sSeq (sIf (tE (eOp2 gtG (oE (eOp2 idxG (oVar 0) (oE (eC (.int 0))))) (oE (eC (.int 0))))) (sSeq (sSet 2 (eOp2 modG (oE (eOp1 intG (oE (eOp2 idxG (oVar 0) (oE (eC (.int 0))))))) (oVar 1)))
    (sSeq (sSetI 0 setG (eOp2 fdivG (oE (eOp2 idxG (oVar 0) (oE (eC (.int 0))))) (oVar 1)) (eC (.int 0)))
    (sSeq (sRet (eMv 2))
    sNil))) sNil)
    (sSeq (sSetI 0 setG (eOp2 modG (oE (eOp1 intG (oE (eOp2 addG (oE (eOp2 mulG (oE (eOp2 idxG (oVar 0) (oE (eC (.int 1))))) (oE (eC (.int 30959))))) (oE (eC (.int 8011))))))) (oE (eC (.int 2147483399)))) (eC (.int 1)))
    (sSeq (sSet 3 (eOp2 modG (oE (eOp1 intG (oE (eOp2 mulG (oE (eOp2 idxG (oVar 0) (oE (eC (.int 1))))) (oE (eOp2 addG (oE (eOp2 idxG (oVar 0) (oE (eC (.int 1))))) (oE (eC (.int 359))))))))) (oE (eC (.int 2147483563)))))
    (sSeq (sRet (eOp2 modG (oE (eOp1 intG (oE (eOp2 fdivG (oVar 3) (oE (eC (.int 797))))))) (oVar 1)))
    sNil))))
def m__law_roll : FM := runF 4 b__law_roll
/-- is_tuple_of(value, low, high): 0 value 1 low 2 high -/
def b_is_tuple_of : SV := (sSeq (sRet (eT (tAnd (tE (eOp1 (isiG .tuple) (oVar 0))) (tE (eChain leG leG (oVar 1) (oE (eOp1 lenG (oVar 0))) (oVar 2))))))
    sNil)
def m_is_tuple_of : FM := runF 3 b_is_tuple_of
/-- is_rising(value): 0 value 1 one 2 other -/
def b_is_rising : SV := (sSeq (sRet (eOp1 allG (oE (eComp (iK zipK (aCons (eVar 0) (aCons (eSl (oVar 0) (pE (eC (.int 1))) pNo) aNil))) (gT (gsCons (gN 1) (gsCons (gN 2) gsNil))) tT (eOp2 ltG (oVar 1) (oVar 2)) [1, 2]))))
    sNil)
def m_is_rising : FM := runF 3 b_is_rising
/-- is_whole(value, low, high): 0 value 1 low 2 high -/
def b_is_whole : SV := (sSeq (sRet (eT (tAnd (tE (eOp1 (isiG .int) (oVar 0))) (tAnd (tNot (tE (eOp1 (isiG .bool) (oVar 0)))) (tE (eChain leG leG (oVar 1) (oVar 0) (oVar 2)))))))
    sNil)
def m_is_whole : FM := runF 3 b_is_whole
/-- fits_coins(value): 0 value 1 one -/
def b_fits_coins : SV := (sSeq (sRet (eT (tAnd (tE (eCall m_is_tuple_of (aCons (eVar 0) (aCons (eC (.int 1)) (aCons (eC (.int 6)) aNil))))) (tAnd (tE (eOp1 allG (oE (eComp (iSeq (eVar 0)) (gN 1) tT (eCall m_is_whole (aCons (eVar 1) (aCons (eC (.int 1)) (aCons (eC (.int 100)) aNil)))) [1])))) (tE (eCall m_is_rising (aCons (eVar 0) aNil)))))))
    sNil)
def m_fits_coins : FM := runF 2 b_fits_coins
/-- need_coins(coins): 0 coins -/
def b_need_coins : SV := (sSeq (sIf (tNot (tE (eCall m_fits_coins (aCons (eVar 0) aNil)))) (sSeq sBad
    sNil) sNil)
    sNil)
def m_need_coins : FM := runF 1 b_need_coins
/-- fewest_to(coins, amount): 0 coins 1 amount 2 found 3 whole 4 rows 5 coin -/
def b_fewest_to_1 : SV := (sSeq (sSet 4 (eComp (iSeq (eVar 0)) (gN 5) (tAnd (tE (eOp2 leG (oVar 5) (oVar 3))) (tE (eOp2 isntG (oE (eOp2 idxG (oVar 2) (oE (eOp2 subG (oVar 3) (oVar 5))))) (oE (eC .none))))) (eOp2 addG (oE (eOp2 idxG (oVar 2) (oE (eOp2 subG (oVar 3) (oVar 5))))) (oE (eC (.int 1)))) [5]))
    (sSeq (sExpr (eMu 2 "list" mAppend (aCons (eIf (tE (eOp2 neG (oVar 4) (oE (eLst aNil)))) (eOp1 minG (oVar 4)) (eC .none)) aNil)))
    sNil))
def b_fewest_to : SV := (sSeq (sSet 2 (eLst (aCons (eC (.int 0)) aNil)))
    (sSeq (sFor (iK rng2 (aCons (eC (.int 1)) (aCons (eOp2 addG (oVar 1) (oE (eC (.int 1)))) aNil))) (gN 3) b_fewest_to_1)
    (sSeq (sRet (eMv 2))
    sNil)))
def m_fewest_to : FM := runF 6 b_fewest_to
/-- greedy_in(coins, amount): 0 coins 1 amount 2 found 3 coin -/
def b_greedy_in_1 : SV := (sSeq (sSet 2 (eOp2 addG (oE (eLst (aCons (eOp2 fdivG (oVar 1) (oVar 3)) aNil))) (oVar 2)))
    (sSeq (sSet 1 (eOp2 subG (oVar 1) (oE (eOp2 mulG (oE (eOp2 idxG (oVar 2) (oE (eC (.int 0))))) (oVar 3)))))
    sNil))
def b_greedy_in : SV := (sSeq (sSet 2 (eLst aNil))
    (sSeq (sFor (iSeq (eOp1 revG (oVar 0))) (gN 3) b_greedy_in_1)
    (sSeq (sRet (eIf (tE (eOp2 eqG (oVar 1) (oE (eC (.int 0))))) (eOp1 tupleG (oVar 2)) (eC .none)))
    sNil)))
def m_greedy_in : FM := runF 4 b_greedy_in
/-- greedy_fault(coins): 0 coins 1 few 2 amount 3 own -/
def b_greedy_fault_1 : SV := (sSeq (sSet 3 (eCall m_greedy_in (aCons (eVar 0) (aCons (eVar 2) aNil))))
    (sSeq (sIf (tAnd (tE (eOp2 isntG (oE (eOp2 idxG (oVar 1) (oVar 2))) (oE (eC .none)))) (tOr (tE (eOp2 isG (oVar 3) (oE (eC .none)))) (tE (eOp2 gtG (oE (eOp1 sumG (oVar 3))) (oE (eOp2 idxG (oVar 1) (oVar 2))))))) (sSeq (sRet (eMv 2))
    sNil) sNil)
    sNil))
def b_greedy_fault : SV := (sSeq (sExpr (eCall m_need_coins (aCons (eVar 0) aNil)))
    (sSeq (sSet 1 (eCall m_fewest_to (aCons (eVar 0) (aCons (eOp2 mulG (oE (eC (.int 2))) (oE (eC (.int 100)))) aNil))))
    (sSeq (sFor (iK rng2 (aCons (eC (.int 1)) (aCons (eOp2 mulG (oE (eOp2 idxG (oVar 0) (oE (eOp1 negG (oE (eC (.int 1))))))) (oE (eC (.int 2)))) aNil))) (gN 2) b_greedy_fault_1)
    (sSeq (sRet (eC .none))
    sNil))))
def m_greedy_fault : FM := runF 4 b_greedy_fault
/-- need_amount(amount): 0 amount -/
def b_need_amount : SV := (sSeq (sIf (tNot (tE (eCall m_is_whole (aCons (eVar 0) (aCons (eC (.int 0)) (aCons (eC (.int 1000)) aNil)))))) (sSeq sBad
    sNil) sNil)
    sNil)
def m_need_amount : FM := runF 1 b_need_amount
/-- first_of(coins, amount): 0 coins 1 amount 2 many 3 found 4 at 5 coin 6 rest 7 left 8 count -/
def b_first_of_1 : SV := (sSeq (sSet 7 (eOp2 subG (oVar 7) (oVar 5)))
    sNil)
def b_first_of_2 : SV := (sSeq (sPar 6 7 (eCall m_fewest_to (aCons (eSl (oVar 0) (pE (eOp2 addG (oVar 4) (oE (eC (.int 1))))) pNo) (aCons (eVar 1) aNil))) (eVar 1))
    (sSeq (sWhile (tOr (tE (eOp2 isG (oE (eOp2 idxG (oVar 6) (oVar 7))) (oE (eC .none)))) (tE (eOp2 gtG (oE (eOp2 addG (oE (eOp2 idxG (oVar 6) (oVar 7))) (oE (eOp2 fdivG (oE (eOp2 subG (oVar 1) (oVar 7))) (oVar 5))))) (oVar 2)))) b_first_of_1 100000)
    (sSeq (sSet 8 (eOp2 fdivG (oE (eOp2 subG (oVar 1) (oVar 7))) (oVar 5)))
    (sSeq (sPar 1 2 (eOp2 subG (oVar 1) (oE (eOp2 mulG (oVar 8) (oVar 5)))) (eOp2 subG (oVar 2) (oVar 8)))
    (sSeq (sExpr (eMu 3 "list" mAppend (aCons (eVar 8) aNil)))
    sNil)))))
def b_first_of : SV := (sSeq (sIf (tE (eOp2 isG (oE (eOp2 idxG (oE (eCall m_fewest_to (aCons (eVar 0) (aCons (eVar 1) aNil)))) (oVar 1))) (oE (eC .none)))) (sSeq (sRet (eC .none))
    sNil) sNil)
    (sSeq (sPar 2 3 (eOp2 idxG (oE (eCall m_fewest_to (aCons (eVar 0) (aCons (eVar 1) aNil)))) (oVar 1)) (eLst aNil))
    (sSeq (sFor (iK enumK (aCons (eVar 0) aNil)) (gT (gsCons (gN 4) (gsCons (gN 5) gsNil))) b_first_of_2)
    (sSeq (sRet (eOp1 tupleG (oVar 3)))
    sNil))))
def m_first_of : FM := runF 9 b_first_of
/-- least_coins(coins, amount): 0 coins 1 amount -/
def b_least_coins : SV := (sSeq (sExpr (eCall m_need_coins (aCons (eVar 0) aNil)))
    (sSeq (sExpr (eCall m_need_amount (aCons (eVar 1) aNil)))
    (sSeq (sRet (eCall m_first_of (aCons (eVar 0) (aCons (eVar 1) aNil))))
    sNil)))
def m_least_coins : FM := runF 2 b_least_coins
/-- greedy(coins, amount): 0 coins 1 amount -/
def b_greedy : SV := (sSeq (sExpr (eCall m_need_coins (aCons (eVar 0) aNil)))
    (sSeq (sExpr (eCall m_need_amount (aCons (eVar 1) aNil)))
    (sSeq (sRet (eCall m_greedy_in (aCons (eVar 0) (aCons (eVar 1) aNil))))
    sNil)))
def m_greedy : FM := runF 2 b_greedy
/-- are_coins(value): 0 value -/
def b_are_coins : SV := (sSeq (sRet (eCall m_fits_coins (aCons (eVar 0) aNil)))
    sNil)
def m_are_coins : FM := runF 1 b_are_coins
/-- _law_odds_right(): 0 odds 1 odd -/
def b__law_odds_right : SV := (sSeq (sSet 0 (eLst (aCons (eC .none) (aCons (eTup aNil) (aCons (eLst (aCons (eC (.int 1)) aNil)) (aCons (eTup (aCons (eC (.int 0)) aNil)) (aCons (eTup (aCons (eC (.int 101)) aNil)) (aCons (eTup (aCons (eOp1 negG (oE (eC (.int 1)))) aNil)) (aCons (eTup (aCons (eC (.bool true)) aNil)) (aCons (eTup (aCons (eC (.str "1")) aNil)) (aCons (eTup (aCons (eC .none) aNil)) (aCons (eTup (aCons (eC (.int 1)) (aCons (eC (.int 1)) aNil))) (aCons (eTup (aCons (eC (.int 5)) (aCons (eC (.int 1)) aNil))) (aCons (eTup (aCons (eC (.int 1)) (aCons (eC (.int 2)) (aCons (eC (.int 3)) (aCons (eC (.int 4)) (aCons (eC (.int 5)) (aCons (eC (.int 6)) (aCons (eC (.int 7)) aNil)))))))) (aCons (eC (.int 5)) aNil)))))))))))))))
    (sSeq (sRet (eT (tAnd (tE (eOp2 eqG (oE (eComp (iSeq (eVar 0)) (gN 1) (tE (eOp2 isntG (oE (eCall m_are_coins (aCons (eVar 1) aNil))) (oE (eC (.bool false))))) (eVar 1) [1])) (oE (eLst aNil)))) (tAnd (tE (eOp2 isG (oE (eCall m_are_coins (aCons (eTup (aCons (eC (.int 1)) (aCons (eC (.int 2)) (aCons (eC (.int 3)) (aCons (eC (.int 4)) (aCons (eC (.int 5)) (aCons (eC (.int 100)) aNil))))))) aNil))) (oE (eC (.bool true))))) (tE (eOp2 isG (oE (eCall m_are_coins (aCons (eTup (aCons (eC (.int 100)) aNil)) aNil))) (oE (eC (.bool true)))))))))
    sNil))
def m__law_odds_right : FM := runF 2 b__law_odds_right
/-- _law_some(cup, things): 0 cup 1 things -/
def b__law_some : SV := (sSeq (sRet (eOp2 idxG (oVar 1) (oE (eLend m__law_roll 0 (aCons (eOp1 lenG (oVar 1)) aNil)))))
    sNil)
def m__law_some : FM := runF 2 b__law_some
/-- _law_coins(cup, most): 0 cup 1 most 2 found 3 turn -/
def b__law_coins_1 : SV := (sSeq (sSetI 2 setG (eC (.int 1)) (eLend m__law_some 0 (aCons (eLst (aCons (eC (.int 1)) (aCons (eC (.int 1)) (aCons (eC (.int 2)) (aCons (eC (.int 3)) (aCons (eC (.int 5)) (aCons (eOp2 addG (oE (eC (.int 1))) (oE (eLend m__law_roll 0 (aCons (eVar 1) aNil)))) aNil))))))) aNil)))
    sNil)
def b__law_coins : SV := (sSeq (sSet 2 eDict0)
    (sSeq (sFor (iK rng1 (aCons (eOp2 addG (oE (eC (.int 1))) (oE (eLend m__law_roll 0 (aCons (eC (.int 4)) aNil)))) aNil)) (gN 3) b__law_coins_1)
    (sSeq (sRet (eOp1 tupleG (oE (eOp1 sortG (oVar 2)))))
    sNil)))
def m__law_coins : FM := runF 4 b__law_coins
/-- _law_few(coins, most): 0 coins 1 most 2 found 3 amount 4 rows 5 at 6 last -/
def b__law_few_1 : SV := (sSeq (sSet 6 (eIf (tE (eOp2 leG (oE (eOp2 idxG (oVar 0) (oVar 5))) (oVar 3))) (eOp2 idxG (oVar 2) (oE (eOp2 subG (oVar 3) (oE (eOp2 idxG (oVar 0) (oVar 5)))))) (eC .none)))
    (sSeq (sIf (tE (eOp2 isntG (oVar 6) (oE (eC .none)))) (sSeq (sExpr (eMu 4 "list" mAppend (aCons (eTup (aCons (eOp2 addG (oE (eOp2 idxG (oVar 6) (oE (eC (.int 0))))) (oE (eC (.int 1)))) (aCons (eOp2 addG (oE (eOp2 addG (oE (eSl (oE (eOp2 idxG (oVar 6) (oE (eC (.int 1))))) pNo (pE (eVar 5)))) (oE (eTup (aCons (eOp2 addG (oE (eOp2 idxG (oE (eOp2 idxG (oVar 6) (oE (eC (.int 1))))) (oVar 5))) (oE (eC (.int 1)))) aNil))))) (oE (eSl (oE (eOp2 idxG (oVar 6) (oE (eC (.int 1))))) (pE (eOp2 addG (oVar 5) (oE (eC (.int 1))))) pNo))) aNil))) aNil)))
    sNil) sNil)
    sNil))
def b__law_few_2 : SV := (sSeq (sSet 4 (eLst aNil))
    (sSeq (sFor (iK rng1 (aCons (eOp1 lenG (oVar 0)) aNil)) (gN 5) b__law_few_1)
    (sSeq (sExpr (eMu 2 "list" mAppend (aCons (eIf (tE (eOp2 neG (oVar 4) (oE (eLst aNil)))) (eOp1 minG (oVar 4)) (eC .none)) aNil)))
    sNil)))
def b__law_few : SV := (sSeq (sSet 2 (eLst (aCons (eTup (aCons (eC (.int 0)) (aCons (eOp2 mulG (oE (eTup (aCons (eC (.int 0)) aNil))) (oE (eOp1 lenG (oVar 0)))) aNil))) aNil)))
    (sSeq (sFor (iK rng2 (aCons (eC (.int 1)) (aCons (eOp2 addG (oVar 1) (oE (eC (.int 1)))) aNil))) (gN 3) b__law_few_2)
    (sSeq (sRet (eMv 2))
    sNil)))
def m__law_few : FM := runF 7 b__law_few
/-- _law_greatest(coins, amount): 0 coins 1 amount 2 found 3 coin 4 count -/
def b__law_greatest_1 : SV := (sSeq (sPar 4 1 (eOp2 addG (oVar 4) (oE (eC (.int 1)))) (eOp2 subG (oVar 1) (oVar 3)))
    sNil)
def b__law_greatest_2 : SV := (sSeq (sSet 4 (eC (.int 0)))
    (sSeq (sWhile (tE (eOp2 leG (oVar 3) (oVar 1))) b__law_greatest_1 100000)
    (sSeq (sSet 2 (eOp2 addG (oE (eTup (aCons (eVar 4) aNil))) (oVar 2)))
    sNil)))
def b__law_greatest : SV := (sSeq (sSet 2 (eTup aNil))
    (sSeq (sFor (iSeq (eOp1 revG (oVar 0))) (gN 3) b__law_greatest_2)
    (sSeq (sRet (eIf (tE (eOp2 eqG (oVar 1) (oE (eC (.int 0))))) (eVar 2) (eC .none)))
    sNil)))
def m__law_greatest : FM := runF 5 b__law_greatest
/-- _law_worth(coins, counts): 0 coins 1 counts 2 whole 3 coin 4 count -/
def b__law_worth_1 : SV := (sSeq (sSet 2 (eOp2 addG (oVar 2) (oE (eOp2 mulG (oVar 3) (oVar 4)))))
    sNil)
def b__law_worth : SV := (sSeq (sSet 2 (eC (.int 0)))
    (sSeq (sFor (iK zipK (aCons (eVar 0) (aCons (eVar 1) aNil))) (gT (gsCons (gN 3) (gsCons (gN 4) gsNil))) b__law_worth_1)
    (sSeq (sRet (eMv 2))
    sNil)))
def m__law_worth : FM := runF 5 b__law_worth
/-- _law_right(cup): 0 cup 1 coins 2 few 3 faults 4 amount 5 own 6 turn 7 due -/
def b__law_right_1 : SV := (sSeq (sSet 4 (eLend m__law_roll 0 (aCons (eOp1 lenG (oVar 2)) aNil)))
    (sSeq (sSet 7 (eIf (tE (eOp2 isntG (oE (eOp2 idxG (oVar 2) (oVar 4))) (oE (eC .none)))) (eOp2 idxG (oE (eOp2 idxG (oVar 2) (oVar 4))) (oE (eC (.int 1)))) (eC .none)))
    (sSeq (sIf (tE (eOp2 neG (oE (eOp1 reprG (oE (eTup (aCons (eCall m_least_coins (aCons (eVar 1) (aCons (eVar 4) aNil))) (aCons (eCall m_greedy (aCons (eVar 1) (aCons (eVar 4) aNil))) aNil)))))) (oE (eOp1 reprG (oE (eTup (aCons (eVar 7) (aCons (eCall m__law_greatest (aCons (eVar 1) (aCons (eVar 4) aNil))) aNil)))))))) (sSeq (sRet (eC (.bool false)))
    sNil) sNil)
    (sSeq (sIf (tAnd (tE (eOp2 isntG (oVar 7) (oE (eC .none)))) (tOr (tE (eOp2 neG (oE (eCall m__law_worth (aCons (eVar 1) (aCons (eVar 7) aNil)))) (oVar 4))) (tAnd (tE (eOp2 eqG (oVar 3) (oE (eLst aNil)))) (tAnd (tE (eOp2 ltG (oVar 4) (oE (eOp2 mulG (oE (eC (.int 2))) (oE (eOp2 idxG (oVar 1) (oE (eOp1 negG (oE (eC (.int 1))))))))))) (tE (eOp2 neG (oE (eOp1 sumG (oE (eCall m_greedy (aCons (eVar 1) (aCons (eVar 4) aNil)))))) (oE (eOp1 sumG (oVar 7))))))))) (sSeq (sRet (eC (.bool false)))
    sNil) sNil)
    sNil))))
def b__law_right_2 : SV := (sSeq (sSet 5 (eCall m__law_greatest (aCons (eVar 1) (aCons (eVar 4) aNil))))
    (sSeq (sSet 3 (eOp2 addG (oVar 3) (oE (eIf (tAnd (tE (eOp2 isntG (oE (eOp2 idxG (oVar 2) (oVar 4))) (oE (eC .none)))) (tOr (tE (eOp2 isG (oVar 5) (oE (eC .none)))) (tE (eOp2 gtG (oE (eOp1 sumG (oVar 5))) (oE (eOp2 idxG (oE (eOp2 idxG (oVar 2) (oVar 4))) (oE (eC (.int 0))))))))) (eLst (aCons (eVar 4) aNil)) (eLst aNil)))))
    sNil))
def b__law_right : SV := (sSeq (sSet 1 (eLend m__law_coins 0 (aCons (eC (.int 30)) aNil)))
    (sSeq (sPar 2 3 (eCall m__law_few (aCons (eVar 1) (aCons (eOp2 addG (oE (eOp2 mulG (oE (eC (.int 2))) (oE (eOp2 idxG (oVar 1) (oE (eOp1 negG (oE (eC (.int 1))))))))) (oE (eC (.int 20)))) aNil))) (eLst aNil))
    (sSeq (sIf (tE (eOp2 isntG (oE (eCall m_are_coins (aCons (eVar 1) aNil))) (oE (eC (.bool true))))) (sSeq (sRet (eC (.bool false)))
    sNil) sNil)
    (sSeq (sFor (iK rng2 (aCons (eC (.int 1)) (aCons (eOp2 mulG (oE (eC (.int 2))) (oE (eOp2 idxG (oVar 1) (oE (eOp1 negG (oE (eC (.int 1)))))))) aNil))) (gN 4) b__law_right_2)
    (sSeq (sIf (tE (eOp2 neG (oE (eOp1 reprG (oE (eCall m_greedy_fault (aCons (eVar 1) aNil))))) (oE (eOp1 reprG (oE (eIf (tE (eOp2 neG (oVar 3) (oE (eLst aNil)))) (eOp2 idxG (oVar 3) (oE (eC (.int 0)))) (eC .none))))))) (sSeq (sRet (eC (.bool false)))
    sNil) sNil)
    (sSeq (sFor (iK rng1 (aCons (eC (.int 8)) aNil)) (gN 6) b__law_right_1)
    (sSeq (sRet (eC (.bool true)))
    sNil)))))))
def m__law_right : FM := runF 8 b__law_right
/-- law(script): 0 script 1 cup 2 turn 3 many 4 times 5 told 6 row 7 amount -/
def b_law_1 : SV := (sSeq (sIf (tNot (tE (eLend m__law_right 1 aNil))) (sSeq (sRet (eC (.bool false)))
    sNil) sNil)
    sNil)
def b_law : SV := (sSeq (sSet 1 (eScr m__law_cup 0))
    (sSeq (sFor (iK rng1 (aCons (eC (.int 4)) aNil)) (gN 2) b_law_1)
    (sSeq (sPar 3 4 (eOp2 addG (oE (eC (.int 3))) (oE (eLend m__law_roll 1 (aCons (eC (.int 90)) aNil)))) (eOp2 addG (oE (eC (.int 2))) (oE (eLend m__law_roll 1 (aCons (eC (.int 3)) aNil)))))
    (sSeq (sSet 5 (eTup (aCons (eCall m_greedy_fault (aCons (eTup (aCons (eC (.int 1)) (aCons (eVar 3) (aCons (eOp2 addG (oVar 3) (oE (eC (.int 1)))) aNil)))) aNil)) (aCons (eCall m_least_coins (aCons (eTup (aCons (eC (.int 1)) (aCons (eVar 3) (aCons (eOp2 addG (oVar 3) (oE (eC (.int 1)))) aNil)))) (aCons (eOp2 mulG (oE (eC (.int 2))) (oVar 3)) aNil))) (aCons (eCall m_greedy (aCons (eTup (aCons (eC (.int 1)) (aCons (eVar 3) (aCons (eOp2 addG (oVar 3) (oE (eC (.int 1)))) aNil)))) (aCons (eOp2 mulG (oE (eC (.int 2))) (oVar 3)) aNil))) aNil)))))
    (sSeq (sIf (tE (eOp2 neG (oVar 5) (oE (eTup (aCons (eOp2 mulG (oE (eC (.int 2))) (oVar 3)) (aCons (eTup (aCons (eC (.int 0)) (aCons (eC (.int 2)) (aCons (eC (.int 0)) aNil)))) (aCons (eTup (aCons (eOp2 subG (oVar 3) (oE (eC (.int 1)))) (aCons (eC (.int 0)) (aCons (eC (.int 1)) aNil)))) aNil))))))) (sSeq (sRet (eC (.bool false)))
    sNil) sNil)
    (sSeq (sSet 6 (eTup (aCons (eC (.int 1)) (aCons (eVar 4) (aCons (eOp2 mulG (oVar 4) (oVar 4)) aNil)))))
    (sSeq (sSet 7 (eLend m__law_roll 1 (aCons (eC (.int 1001)) aNil)))
    (sSeq (sRet (eT (tAnd (tE (eOp2 isG (oE (eCall m_greedy_fault (aCons (eVar 6) aNil))) (oE (eC .none)))) (tAnd (tE (eOp2 eqG (oE (eCall m_least_coins (aCons (eVar 6) (aCons (eVar 7) aNil)))) (oE (eCall m_greedy (aCons (eVar 6) (aCons (eVar 7) aNil)))))) (tAnd (tE (eOp2 eqG (oE (eCall m_least_coins (aCons (eTup (aCons (eC (.int 100)) aNil)) (aCons (eC (.int 1000)) aNil)))) (oE (eTup (aCons (eC (.int 10)) aNil))))) (tAnd (tE (eOp2 isG (oE (eCall m_least_coins (aCons (eTup (aCons (eC (.int 100)) aNil)) (aCons (eC (.int 999)) aNil)))) (oE (eC .none)))) (tE (eCall m__law_odds_right aNil))))))))
    sNil))))))))
def m_law : FM := runF 8 b_law
/-! ### .. and that they do it -/
def top (i : Nat) : Stmt := PySem.Challenge.pw_fairground_k78_whole_fewest_coins.main.body.getD i (.Pass ⟨0, 0, 0, 0⟩)
abbrev FnP (K : PySem.W.Frag) (x : Str) (st : Stmt) (f : Addr) (fd : FuncData) : Prop := FunD K x x (defArgs st) (defBody st) (defScope st) [] [] f fd
section
variable {P : Program} {w : World} {K : PySem.W.Frag} {mg : Str → Option Value} {base : Heap} {f : Addr} {fd : FuncData} {t_COINS : Tok} {t_WORTH : Tok} {t_AMOUNT : Tok}
theorem h__law_cup (F : FnP K "_law_cup" (top 23) f fd) (hm : mg "_law_cup" = some (.ref f)) (fr : ∀ x : Str, bnames.contains x = true → mg x = none) : Has P w K mg base CX0 1 "_law_cup" 1 m__law_cup :=
  def3 (k := 0) (N := ["script", "cell"]) (ps := ["script"]) F hm fr ⟨rfl, rfl, rfl, by decide +kernel, rfl, by decide +kernel, by decide +kernel⟩ (fun _ _ _ _ _ _ us hl => match us, hl with | [_], _ => rfl)
    fun cdv A outer s H E F0 bo hr cc => by
    exact (s_cons (s_set cc 1 (x_e (r_b1 cc call_absG (o_e (r_ix (ix_G cc) (o_e (r_bin op_addG (o_e (r_listS cc 0)) (o_e (r_lst (a_cons r_int a_nil))))) (o_e r_int))) bt_abs)))
    (s_cons (s_ret (x_e (r_lst (a_cons (r_if (t_cmp (op_geG cc) (o_var cc 1) (o_e (r_bin op_powG (o_e r_int) (o_e r_int)))) (r_bin op_fdivG (o_var cc 1) (o_e r_int)) r_int) (a_cons (r_bin op_addG (o_e (r_bin op_modG (o_e (r_t1 cc call_intG (o_e (r_bin op_addG (o_e (r_bin op_mulG (o_var cc 1) (o_e r_int))) (o_e r_int))) bt_int)) (o_e r_int))) (o_e r_int)) a_nil)))))
    s_nil))
theorem h__law_roll (F : FnP K "_law_roll" (top 24) f fd) (hm : mg "_law_roll" = some (.ref f)) (fr : ∀ x : Str, bnames.contains x = true → mg x = none) : Has P w K mg base CX0 1 "_law_roll" 2 m__law_roll :=
  def3 (k := 0) (N := ["cup", "many", "found", "deep"]) (ps := ["cup", "many"]) F hm fr ⟨rfl, rfl, rfl, by decide +kernel, rfl, by decide +kernel, by decide +kernel⟩ (fun _ _ _ _ _ _ us hl => match us, hl with | [_, _], _ => rfl)
    fun cdv A outer s H E F0 bo hr cc => by
    exact (s_cons (s_if (t_cmp (op_gtG cc) (o_e (r_ix (ix_G cc) (o_var cc 0) (o_e r_int))) (o_e r_int)) (s_cons (s_set cc 2 (x_e (r_bin op_modG (o_e (r_t1 cc call_intG (o_e (r_ix (ix_G cc) (o_var cc 0) (o_e r_int))) bt_int)) (o_var cc 1))))
    (s_cons (s_setI cc 0 (set_G cc) (r_bin op_fdivG (o_e (r_ix (ix_G cc) (o_var cc 0) (o_e r_int))) (o_var cc 1)) r_int)
    (s_cons (s_ret (x_mv cc 2))
    s_nil))) s_nil)
    (s_cons (s_setI cc 0 (set_G cc) (r_bin op_modG (o_e (r_t1 cc call_intG (o_e (r_bin op_addG (o_e (r_bin op_mulG (o_e (r_ix (ix_G cc) (o_var cc 0) (o_e r_int))) (o_e r_int))) (o_e r_int))) bt_int)) (o_e r_int)) r_int)
    (s_cons (s_set cc 3 (x_e (r_bin op_modG (o_e (r_t1 cc call_intG (o_e (r_bin op_mulG (o_e (r_ix (ix_G cc) (o_var cc 0) (o_e r_int))) (o_e (r_bin op_addG (o_e (r_ix (ix_G cc) (o_var cc 0) (o_e r_int))) (o_e r_int))))) bt_int)) (o_e r_int))))
    (s_cons (s_ret (x_e (r_bin op_modG (o_e (r_t1 cc call_intG (o_e (r_bin op_fdivG (o_var cc 3) (o_e r_int))) bt_int)) (o_var cc 1))))
    s_nil))))
theorem h_is_tuple_of (F : FnP K "is_tuple_of" (top 6) f fd) (hm : mg "is_tuple_of" = some (.ref f)) (fr : ∀ x : Str, bnames.contains x = true → mg x = none) : Has P w K mg base CX0 1 "is_tuple_of" 3 m_is_tuple_of :=
  def3 (k := 0) (N := ["value", "low", "high"]) (ps := ["value", "low", "high"]) F hm fr ⟨rfl, rfl, rfl, by decide +kernel, rfl, by decide +kernel, by decide +kernel⟩ (fun _ _ _ _ _ _ us hl => match us, hl with | [_, _, _], _ => rfl)
    fun cdv A outer s H E F0 bo hr cc => by
    exact (s_cons (s_ret (x_e (r_and (r_T (r_isi cc .tuple (o_var cc 0) bt_tuple)) (r_one (r_T (r_chain (op_leG cc) (op_leG cc) (o_var cc 1) (o_e (r_b1 cc call_lenG (o_var cc 0) bt_len)) (o_var cc 2)))))))
    s_nil)
theorem h_is_rising (F : FnP K "is_rising" (top 7) f fd) (hm : mg "is_rising" = some (.ref f)) (fr : ∀ x : Str, bnames.contains x = true → mg x = none) : Has P w K mg base CX0 1 "is_rising" 1 m_is_rising :=
  def3 (k := 0) (N := ["value", "one", "other"]) (ps := ["value"]) F hm fr ⟨rfl, rfl, rfl, by decide +kernel, rfl, by decide +kernel, by decide +kernel⟩ (fun _ _ _ _ _ _ us hl => match us, hl with | [_], _ => rfl)
    fun cdv A outer s H E F0 bo hr cc => by
    exact (s_cons (s_ret (x_e (r_b1 cc (call_allG cc) (o_e (r_comp cc [("one", 1), ("other", 2)] (by rfl) (ob_t (obs_cons (ob_n 1) (obs_cons (ob_n 2) obs_nil))) (i_zip cc (a_cons (r_var cc 0) (a_cons (r_sl (o_var cc 0) (p_e r_int) p_no) a_nil))) (fun s1 H1 C1 cl1 fp1 => (g_t (cc.blk s1 H1 C1 cl1 fp1) 2 (gs_cons (g_n (cc.blk s1 H1 C1 cl1 fp1) 1) (gs_cons (g_n (cc.blk s1 H1 C1 cl1 fp1) 2) gs_nil)) (gs_lenS (gs_lenS gs_len0)))) (fun s1 H1 C1 cl1 fp1 => ts_nil) (fun s1 H1 C1 cl1 fp1 => (r_cmp (op_ltG (cc.blk s1 H1 C1 cl1 fp1)) (o_var (cc.blk s1 H1 C1 cl1 fp1) 1) (o_var (cc.blk s1 H1 C1 cl1 fp1) 2))))) bt_all)))
    s_nil)
theorem h_is_whole (F : FnP K "is_whole" (top 5) f fd) (hm : mg "is_whole" = some (.ref f)) (fr : ∀ x : Str, bnames.contains x = true → mg x = none) : Has P w K mg base CX0 1 "is_whole" 3 m_is_whole :=
  def3 (k := 0) (N := ["value", "low", "high"]) (ps := ["value", "low", "high"]) F hm fr ⟨rfl, rfl, rfl, by decide +kernel, rfl, by decide +kernel, by decide +kernel⟩ (fun _ _ _ _ _ _ us hl => match us, hl with | [_, _, _], _ => rfl)
    fun cdv A outer s H E F0 bo hr cc => by
    exact (s_cons (s_ret (x_e (r_and (r_T (r_isi cc .int (o_var cc 0) bt_int)) (r_and (r_not (r_T (r_isi cc .bool (o_var cc 0) bt_bool))) (r_one (r_T (r_chain (op_leG cc) (op_leG cc) (o_var cc 1) (o_var cc 0) (o_var cc 2))))))))
    s_nil)
theorem h_fits_coins (F : FnP K "fits_coins" (top 12) f fd) (hm : mg "fits_coins" = some (.ref f)) (fr : ∀ x : Str, bnames.contains x = true → mg x = none)
    (h_is_tuple_of : Has P w K mg base CX0 1 "is_tuple_of" 3 m_is_tuple_of)
    (h_is_rising : Has P w K mg base CX0 1 "is_rising" 1 m_is_rising)
    (h_is_whole : Has P w K mg base CX0 1 "is_whole" 3 m_is_whole)
    (g_COINS : mg "COINS" = some (.int 6 t_COINS))
    (g_WORTH : mg "WORTH" = some (.int 100 t_WORTH)) : Has P w K mg base CX0 2 "fits_coins" 1 m_fits_coins :=
  def3 (k := 1) (N := ["value", "one"]) (ps := ["value"]) F hm fr ⟨rfl, rfl, rfl, by decide +kernel, rfl, by decide +kernel, by decide +kernel⟩ (fun _ _ _ _ _ _ us hl => match us, hl with | [_], _ => rfl)
    fun cdv A outer s H E F0 bo hr cc => by
    exact (s_cons (s_ret (x_e (r_and (r_T (r_call cc (Has.to h_is_tuple_of hr (by decide)) (a_cons (r_var cc 0) (a_cons r_int (a_cons (r_gint g_COINS) a_nil))) (al_cons (al_cons (al_cons al_nil))))) (r_and (r_T (r_b1 cc (call_allG cc) (o_e (r_comp cc [("one", 1)] (by rfl) (ob_n 1) (i_seq (r_var cc 0)) (fun s2 H2 C2 cl2 fp2 => (g_n (cc.blk s2 H2 C2 cl2 fp2) 1)) (fun s2 H2 C2 cl2 fp2 => ts_nil) (fun s2 H2 C2 cl2 fp2 => (r_call (cc.blk s2 H2 C2 cl2 fp2) (Has.to h_is_whole hr (by decide)) (a_cons (r_var (cc.blk s2 H2 C2 cl2 fp2) 1) (a_cons r_int (a_cons (r_gint g_WORTH) a_nil))) (al_cons (al_cons (al_cons al_nil))))))) bt_all)) (r_one (r_T (r_call cc (Has.to h_is_rising hr (by decide)) (a_cons (r_var cc 0) a_nil) (al_cons al_nil))))))))
    s_nil)
theorem h_need_coins (F : FnP K "need_coins" (top 13) f fd) (hm : mg "need_coins" = some (.ref f)) (fr : ∀ x : Str, bnames.contains x = true → mg x = none)
    (h_fits_coins : Has P w K mg base CX0 2 "fits_coins" 1 m_fits_coins) : Has P w K mg base CX0 3 "need_coins" 1 m_need_coins :=
  def3 (k := 2) (N := ["coins"]) (ps := ["coins"]) F hm fr ⟨rfl, rfl, rfl, by decide +kernel, rfl, by decide +kernel, by decide +kernel⟩ (fun _ _ _ _ _ _ us hl => match us, hl with | [_], _ => rfl)
    fun cdv A outer s H E F0 bo hr cc => by
    exact (s_cons (s_if (t_not (t_val (r_call cc (Has.to h_fits_coins hr (by decide)) (a_cons (r_var cc 0) a_nil) (al_cons al_nil)))) (s_cons s_never
    s_nil) s_nil)
    s_nil)
theorem h_fewest_to (F : FnP K "fewest_to" (top 15) f fd) (hm : mg "fewest_to" = some (.ref f)) (fr : ∀ x : Str, bnames.contains x = true → mg x = none) : Has P w K mg base CX0 1 "fewest_to" 2 m_fewest_to :=
  def3 (k := 0) (N := ["coins", "amount", "found", "whole", "rows", "coin"]) (ps := ["coins", "amount"]) F hm fr ⟨rfl, rfl, rfl, by decide +kernel, rfl, by decide +kernel, by decide +kernel⟩ (fun _ _ _ _ _ _ us hl => match us, hl with | [_, _], _ => rfl)
    fun cdv A outer s H E F0 bo hr cc => by
    have po : PassesOwn (model P w) (cxOf CX0 P w K mg base ["coins", "amount", "found", "whole", "rows", "coin"] "fewest_to" (defScope (top 15)) f cdv A outer s H E).A (cxOf CX0 P w K mg base ["coins", "amount", "found", "whole", "rows", "coin"] "fewest_to" (defScope (top 15)) f cdv A outer s H E).env (cxOf CX0 P w K mg base ["coins", "amount", "found", "whole", "rows", "coin"] "fewest_to" (defScope (top 15)) f cdv A outer s H E).xe := passes_of (X := cxOf CX0 P w K mg base ["coins", "amount", "found", "whole", "rows", "coin"] "fewest_to" (defScope (top 15)) f cdv A outer s H E) rfl
    exact (s_cons (s_set cc 2 (x_e (r_lst (a_cons r_int a_nil))))
    (s_cons (s_for cc po (i_r2 cc (a_cons r_int (a_cons (r_bin op_addG (o_var cc 1) (o_e r_int)) a_nil))) [3] (g_n cc 3) (s_cons (s_setC cc 4 [("coin", 5)] (by rfl) (ob_n 5) (i_seq (r_var cc 0)) (fun s3 H3 C3 cl3 fp3 => (g_n (cc.blk s3 H3 C3 cl3 fp3) 5)) (fun s3 H3 C3 cl3 fp3 => (ts_one (t_and (t_cmp (op_leG (cc.blk s3 H3 C3 cl3 fp3)) (o_var (cc.blk s3 H3 C3 cl3 fp3) 5) (o_var (cc.blk s3 H3 C3 cl3 fp3) 3)) (t_and1 (t_cmp (op_isntG) (o_e (r_ix (ix_G (cc.blk s3 H3 C3 cl3 fp3)) (o_var (cc.blk s3 H3 C3 cl3 fp3) 2) (o_e (r_bin op_subG (o_var (cc.blk s3 H3 C3 cl3 fp3) 3) (o_var (cc.blk s3 H3 C3 cl3 fp3) 5))))) (o_e r_non)))).pt)) (fun s3 H3 C3 cl3 fp3 => (r_bin op_addG (o_e (r_ix (ix_G (cc.blk s3 H3 C3 cl3 fp3)) (o_var (cc.blk s3 H3 C3 cl3 fp3) 2) (o_e (r_bin op_subG (o_var (cc.blk s3 H3 C3 cl3 fp3) 3) (o_var (cc.blk s3 H3 C3 cl3 fp3) 5))))) (o_e r_int))) (sw_true rfl rfl rfl rfl))
    (s_cons (s_expr (r_mu cc 2 PySem.F.plainAttrs_list PySem.F.slot_list_append PySem.F.type_list_append mt_appendG (a_cons (r_if (t_cmp (op_neG cc) (o_var cc 4) (o_e (r_lst a_nil))) (r_b1 cc (call_minG cc) (o_var cc 4) bt_min) r_non) a_nil)))
    s_nil)))
    (s_cons (s_ret (x_mv cc 2))
    s_nil)))
theorem h_greedy_in (F : FnP K "greedy_in" (top 17) f fd) (hm : mg "greedy_in" = some (.ref f)) (fr : ∀ x : Str, bnames.contains x = true → mg x = none) : Has P w K mg base CX0 1 "greedy_in" 2 m_greedy_in :=
  def3 (k := 0) (N := ["coins", "amount", "found", "coin"]) (ps := ["coins", "amount"]) F hm fr ⟨rfl, rfl, rfl, by decide +kernel, rfl, by decide +kernel, by decide +kernel⟩ (fun _ _ _ _ _ _ us hl => match us, hl with | [_, _], _ => rfl)
    fun cdv A outer s H E F0 bo hr cc => by
    have po : PassesOwn (model P w) (cxOf CX0 P w K mg base ["coins", "amount", "found", "coin"] "greedy_in" (defScope (top 17)) f cdv A outer s H E).A (cxOf CX0 P w K mg base ["coins", "amount", "found", "coin"] "greedy_in" (defScope (top 17)) f cdv A outer s H E).env (cxOf CX0 P w K mg base ["coins", "amount", "found", "coin"] "greedy_in" (defScope (top 17)) f cdv A outer s H E).xe := passes_of (X := cxOf CX0 P w K mg base ["coins", "amount", "found", "coin"] "greedy_in" (defScope (top 17)) f cdv A outer s H E) rfl
    exact (s_cons (s_set cc 2 (x_e (r_lst a_nil)))
    (s_cons (s_for cc po (i_seq (r_rev (o_var cc 0))) [3] (g_n cc 3) (s_cons (s_set cc 2 (x_e (r_bin op_addG (o_e (r_lst (a_cons (r_bin op_fdivG (o_var cc 1) (o_var cc 3)) a_nil))) (o_var cc 2))))
    (s_cons (s_set cc 1 (x_e (r_bin op_subG (o_var cc 1) (o_e (r_bin op_mulG (o_e (r_ix (ix_G cc) (o_var cc 2) (o_e r_int))) (o_var cc 3))))))
    s_nil)))
    (s_cons (s_ret (x_e (r_if (t_cmp (op_eqG cc) (o_var cc 1) (o_e r_int)) (r_t1 cc call_tupleG (o_var cc 2) bt_tuple) r_non)))
    s_nil)))
theorem h_greedy_fault (F : FnP K "greedy_fault" (top 21) f fd) (hm : mg "greedy_fault" = some (.ref f)) (fr : ∀ x : Str, bnames.contains x = true → mg x = none)
    (h_need_coins : Has P w K mg base CX0 3 "need_coins" 1 m_need_coins)
    (h_fewest_to : Has P w K mg base CX0 1 "fewest_to" 2 m_fewest_to)
    (h_greedy_in : Has P w K mg base CX0 1 "greedy_in" 2 m_greedy_in)
    (g_WORTH : mg "WORTH" = some (.int 100 t_WORTH)) : Has P w K mg base CX0 4 "greedy_fault" 1 m_greedy_fault :=
  def3 (k := 3) (N := ["coins", "few", "amount", "own"]) (ps := ["coins"]) F hm fr ⟨rfl, rfl, rfl, by decide +kernel, rfl, by decide +kernel, by decide +kernel⟩ (fun _ _ _ _ _ _ us hl => match us, hl with | [_], _ => rfl)
    fun cdv A outer s H E F0 bo hr cc => by
    have po : PassesOwn (model P w) (cxOf CX0 P w K mg base ["coins", "few", "amount", "own"] "greedy_fault" (defScope (top 21)) f cdv A outer s H E).A (cxOf CX0 P w K mg base ["coins", "few", "amount", "own"] "greedy_fault" (defScope (top 21)) f cdv A outer s H E).env (cxOf CX0 P w K mg base ["coins", "few", "amount", "own"] "greedy_fault" (defScope (top 21)) f cdv A outer s H E).xe := passes_of (X := cxOf CX0 P w K mg base ["coins", "few", "amount", "own"] "greedy_fault" (defScope (top 21)) f cdv A outer s H E) rfl
    exact (s_cons (s_expr (r_call cc (Has.to h_need_coins hr (by decide)) (a_cons (r_var cc 0) a_nil) (al_cons al_nil)))
    (s_cons (s_set cc 1 (x_e (r_call cc (Has.to h_fewest_to hr (by decide)) (a_cons (r_var cc 0) (a_cons (r_bin op_mulG (o_e r_int) (o_e (r_gint g_WORTH))) a_nil)) (al_cons (al_cons al_nil)))))
    (s_cons (s_for cc po (i_r2 cc (a_cons r_int (a_cons (r_bin op_mulG (o_e (r_ix (ix_G cc) (o_var cc 0) (o_e (r_un un_negG (o_e r_int))))) (o_e r_int)) a_nil))) [2] (g_n cc 2) (s_cons (s_set cc 3 (x_e (r_call cc (Has.to h_greedy_in hr (by decide)) (a_cons (r_var cc 0) (a_cons (r_var cc 2) a_nil)) (al_cons (al_cons al_nil)))))
    (s_cons (s_if (t_and (t_cmp (op_isntG) (o_e (r_ix (ix_G cc) (o_var cc 1) (o_var cc 2))) (o_e r_non)) (t_and1 (t_or (t_cmp (op_isG) (o_var cc 3) (o_e r_non)) (t_or1 (t_cmp (op_gtG cc) (o_e (r_b1 cc (call_sumG cc) (o_var cc 3) bt_sum)) (o_e (r_ix (ix_G cc) (o_var cc 1) (o_var cc 2)))))).pt)).pt (s_cons (s_ret (x_mv cc 2))
    s_nil) s_nil)
    s_nil)))
    (s_cons (s_ret (x_e r_non))
    s_nil))))
theorem h_need_amount (F : FnP K "need_amount" (top 14) f fd) (hm : mg "need_amount" = some (.ref f)) (fr : ∀ x : Str, bnames.contains x = true → mg x = none)
    (h_is_whole : Has P w K mg base CX0 1 "is_whole" 3 m_is_whole)
    (g_AMOUNT : mg "AMOUNT" = some (.int 1000 t_AMOUNT)) : Has P w K mg base CX0 2 "need_amount" 1 m_need_amount :=
  def3 (k := 1) (N := ["amount"]) (ps := ["amount"]) F hm fr ⟨rfl, rfl, rfl, by decide +kernel, rfl, by decide +kernel, by decide +kernel⟩ (fun _ _ _ _ _ _ us hl => match us, hl with | [_], _ => rfl)
    fun cdv A outer s H E F0 bo hr cc => by
    exact (s_cons (s_if (t_not (t_val (r_call cc (Has.to h_is_whole hr (by decide)) (a_cons (r_var cc 0) (a_cons r_int (a_cons (r_gint g_AMOUNT) a_nil))) (al_cons (al_cons (al_cons al_nil)))))) (s_cons s_never
    s_nil) s_nil)
    s_nil)
theorem h_first_of (F : FnP K "first_of" (top 16) f fd) (hm : mg "first_of" = some (.ref f)) (fr : ∀ x : Str, bnames.contains x = true → mg x = none)
    (h_fewest_to : Has P w K mg base CX0 1 "fewest_to" 2 m_fewest_to) : Has P w K mg base CX0 2 "first_of" 2 m_first_of :=
  def3 (k := 1) (N := ["coins", "amount", "many", "found", "at", "coin", "rest", "left", "count"]) (ps := ["coins", "amount"]) F hm fr ⟨rfl, rfl, rfl, by decide +kernel, rfl, by decide +kernel, by decide +kernel⟩ (fun _ _ _ _ _ _ us hl => match us, hl with | [_, _], _ => rfl)
    fun cdv A outer s H E F0 bo hr cc => by
    have po : PassesOwn (model P w) (cxOf CX0 P w K mg base ["coins", "amount", "many", "found", "at", "coin", "rest", "left", "count"] "first_of" (defScope (top 16)) f cdv A outer s H E).A (cxOf CX0 P w K mg base ["coins", "amount", "many", "found", "at", "coin", "rest", "left", "count"] "first_of" (defScope (top 16)) f cdv A outer s H E).env (cxOf CX0 P w K mg base ["coins", "amount", "many", "found", "at", "coin", "rest", "left", "count"] "first_of" (defScope (top 16)) f cdv A outer s H E).xe := passes_of (X := cxOf CX0 P w K mg base ["coins", "amount", "many", "found", "at", "coin", "rest", "left", "count"] "first_of" (defScope (top 16)) f cdv A outer s H E) rfl
    exact (s_cons (s_if (t_cmp (op_isG) (o_e (r_ix (ix_G cc) (o_e (r_call cc (Has.to h_fewest_to hr (by decide)) (a_cons (r_var cc 0) (a_cons (r_var cc 1) a_nil)) (al_cons (al_cons al_nil)))) (o_var cc 1))) (o_e r_non)) (s_cons (s_ret (x_e r_non))
    s_nil) s_nil)
    (s_cons (s_par cc 2 3 (r_ix (ix_G cc) (o_e (r_call cc (Has.to h_fewest_to hr (by decide)) (a_cons (r_var cc 0) (a_cons (r_var cc 1) a_nil)) (al_cons (al_cons al_nil)))) (o_var cc 1)) (r_lst a_nil))
    (s_cons (s_for cc po (i_enum cc (a_cons (r_var cc 0) a_nil)) [4, 5] (g_t cc 2 (gs_cons (g_n cc 4) (gs_cons (g_n cc 5) gs_nil)) (gs_lenS (gs_lenS gs_len0))) (s_cons (s_par cc 6 7 (r_call cc (Has.to h_fewest_to hr (by decide)) (a_cons (r_sl (o_var cc 0) (p_e (r_bin op_addG (o_var cc 4) (o_e r_int))) p_no) (a_cons (r_var cc 1) a_nil)) (al_cons (al_cons al_nil))) (r_var cc 1))
    (s_cons (s_while po (t_or (t_cmp (op_isG) (o_e (r_ix (ix_G cc) (o_var cc 6) (o_var cc 7))) (o_e r_non)) (t_or1 (t_cmp (op_gtG cc) (o_e (r_bin op_addG (o_e (r_ix (ix_G cc) (o_var cc 6) (o_var cc 7))) (o_e (r_bin op_fdivG (o_e (r_bin op_subG (o_var cc 1) (o_var cc 7))) (o_var cc 5))))) (o_var cc 2)))).pt (s_cons (s_set cc 7 (x_e (r_bin op_subG (o_var cc 7) (o_var cc 5))))
    s_nil) 100000)
    (s_cons (s_set cc 8 (x_e (r_bin op_fdivG (o_e (r_bin op_subG (o_var cc 1) (o_var cc 7))) (o_var cc 5))))
    (s_cons (s_par cc 1 2 (r_bin op_subG (o_var cc 1) (o_e (r_bin op_mulG (o_var cc 8) (o_var cc 5)))) (r_bin op_subG (o_var cc 2) (o_var cc 8)))
    (s_cons (s_expr (r_mu cc 3 PySem.F.plainAttrs_list PySem.F.slot_list_append PySem.F.type_list_append mt_appendG (a_cons (r_var cc 8) a_nil)))
    s_nil))))))
    (s_cons (s_ret (x_e (r_t1 cc call_tupleG (o_var cc 3) bt_tuple)))
    s_nil))))
theorem h_least_coins (F : FnP K "least_coins" (top 19) f fd) (hm : mg "least_coins" = some (.ref f)) (fr : ∀ x : Str, bnames.contains x = true → mg x = none)
    (h_need_coins : Has P w K mg base CX0 3 "need_coins" 1 m_need_coins)
    (h_need_amount : Has P w K mg base CX0 2 "need_amount" 1 m_need_amount)
    (h_first_of : Has P w K mg base CX0 2 "first_of" 2 m_first_of) : Has P w K mg base CX0 4 "least_coins" 2 m_least_coins :=
  def3 (k := 3) (N := ["coins", "amount"]) (ps := ["coins", "amount"]) F hm fr ⟨rfl, rfl, rfl, by decide +kernel, rfl, by decide +kernel, by decide +kernel⟩ (fun _ _ _ _ _ _ us hl => match us, hl with | [_, _], _ => rfl)
    fun cdv A outer s H E F0 bo hr cc => by
    exact (s_cons (s_expr (r_call cc (Has.to h_need_coins hr (by decide)) (a_cons (r_var cc 0) a_nil) (al_cons al_nil)))
    (s_cons (s_expr (r_call cc (Has.to h_need_amount hr (by decide)) (a_cons (r_var cc 1) a_nil) (al_cons al_nil)))
    (s_cons (s_ret (x_e (r_call cc (Has.to h_first_of hr (by decide)) (a_cons (r_var cc 0) (a_cons (r_var cc 1) a_nil)) (al_cons (al_cons al_nil)))))
    s_nil)))
theorem h_greedy (F : FnP K "greedy" (top 20) f fd) (hm : mg "greedy" = some (.ref f)) (fr : ∀ x : Str, bnames.contains x = true → mg x = none)
    (h_need_coins : Has P w K mg base CX0 3 "need_coins" 1 m_need_coins)
    (h_need_amount : Has P w K mg base CX0 2 "need_amount" 1 m_need_amount)
    (h_greedy_in : Has P w K mg base CX0 1 "greedy_in" 2 m_greedy_in) : Has P w K mg base CX0 4 "greedy" 2 m_greedy :=
  def3 (k := 3) (N := ["coins", "amount"]) (ps := ["coins", "amount"]) F hm fr ⟨rfl, rfl, rfl, by decide +kernel, rfl, by decide +kernel, by decide +kernel⟩ (fun _ _ _ _ _ _ us hl => match us, hl with | [_, _], _ => rfl)
    fun cdv A outer s H E F0 bo hr cc => by
    exact (s_cons (s_expr (r_call cc (Has.to h_need_coins hr (by decide)) (a_cons (r_var cc 0) a_nil) (al_cons al_nil)))
    (s_cons (s_expr (r_call cc (Has.to h_need_amount hr (by decide)) (a_cons (r_var cc 1) a_nil) (al_cons al_nil)))
    (s_cons (s_ret (x_e (r_call cc (Has.to h_greedy_in hr (by decide)) (a_cons (r_var cc 0) (a_cons (r_var cc 1) a_nil)) (al_cons (al_cons al_nil)))))
    s_nil)))
theorem h_are_coins (F : FnP K "are_coins" (top 18) f fd) (hm : mg "are_coins" = some (.ref f)) (fr : ∀ x : Str, bnames.contains x = true → mg x = none)
    (h_fits_coins : Has P w K mg base CX0 2 "fits_coins" 1 m_fits_coins) : Has P w K mg base CX0 3 "are_coins" 1 m_are_coins :=
  def3 (k := 2) (N := ["value"]) (ps := ["value"]) F hm fr ⟨rfl, rfl, rfl, by decide +kernel, rfl, by decide +kernel, by decide +kernel⟩ (fun _ _ _ _ _ _ us hl => match us, hl with | [_], _ => rfl)
    fun cdv A outer s H E F0 bo hr cc => by
    exact (s_cons (s_ret (x_e (r_call cc (Has.to h_fits_coins hr (by decide)) (a_cons (r_var cc 0) a_nil) (al_cons al_nil))))
    s_nil)
theorem h__law_odds_right (F : FnP K "_law_odds_right" (top 31) f fd) (hm : mg "_law_odds_right" = some (.ref f)) (fr : ∀ x : Str, bnames.contains x = true → mg x = none)
    (h_are_coins : Has P w K mg base CX0 3 "are_coins" 1 m_are_coins) : Has P w K mg base CX0 4 "_law_odds_right" 0 m__law_odds_right :=
  def3 (k := 3) (N := ["odds", "odd"]) (ps := []) F hm fr ⟨rfl, rfl, rfl, by decide +kernel, rfl, by decide +kernel, by decide +kernel⟩ (fun _ _ _ _ _ _ us hl => match us, hl with | [], _ => rfl)
    fun cdv A outer s H E F0 bo hr cc => by
    exact (s_cons (s_set cc 0 (x_e (r_lst (a_cons r_non (a_cons (r_tup a_nil) (a_cons (r_lst (a_cons r_int a_nil)) (a_cons (r_tup (a_cons r_int a_nil)) (a_cons (r_tup (a_cons r_int a_nil)) (a_cons (r_tup (a_cons (r_un un_negG (o_e r_int)) a_nil)) (a_cons (r_tup (a_cons r_bl a_nil)) (a_cons (r_tup (a_cons r_str a_nil)) (a_cons (r_tup (a_cons r_non a_nil)) (a_cons (r_tup (a_cons r_int (a_cons r_int a_nil))) (a_cons (r_tup (a_cons r_int (a_cons r_int a_nil))) (a_cons (r_tup (a_cons r_int (a_cons r_int (a_cons r_int (a_cons r_int (a_cons r_int (a_cons r_int (a_cons r_int a_nil)))))))) (a_cons r_int a_nil))))))))))))))))
    (s_cons (s_ret (x_e (r_and (r_T (r_cmp (op_eqG cc) (o_e (r_comp cc [("odd", 1)] (by rfl) (ob_n 1) (i_seq (r_var cc 0)) (fun s4 H4 C4 cl4 fp4 => (g_n (cc.blk s4 H4 C4 cl4 fp4) 1)) (fun s4 H4 C4 cl4 fp4 => (ts_one (t_cmp (op_isntG) (o_e (r_call (cc.blk s4 H4 C4 cl4 fp4) (Has.to h_are_coins hr (by decide)) (a_cons (r_var (cc.blk s4 H4 C4 cl4 fp4) 1) a_nil) (al_cons al_nil))) (o_e r_bl)))) (fun s4 H4 C4 cl4 fp4 => (r_var (cc.blk s4 H4 C4 cl4 fp4) 1)))) (o_e (r_lst a_nil)))) (r_and (r_T (r_cmp (op_isG) (o_e (r_call cc (Has.to h_are_coins hr (by decide)) (a_cons (r_tup (a_cons r_int (a_cons r_int (a_cons r_int (a_cons r_int (a_cons r_int (a_cons r_int a_nil))))))) a_nil) (al_cons al_nil))) (o_e r_bl))) (r_one (r_T (r_cmp (op_isG) (o_e (r_call cc (Has.to h_are_coins hr (by decide)) (a_cons (r_tup (a_cons r_int a_nil)) a_nil) (al_cons al_nil))) (o_e r_bl))))))))
    s_nil))
theorem h__law_some (F : FnP K "_law_some" (top 25) f fd) (hm : mg "_law_some" = some (.ref f)) (fr : ∀ x : Str, bnames.contains x = true → mg x = none)
    (h__law_roll : Has P w K mg base CX0 1 "_law_roll" 2 m__law_roll) : Has P w K mg base CX0 2 "_law_some" 2 m__law_some :=
  def3 (k := 1) (N := ["cup", "things"]) (ps := ["cup", "things"]) F hm fr ⟨rfl, rfl, rfl, by decide +kernel, rfl, by decide +kernel, by decide +kernel⟩ (fun _ _ _ _ _ _ us hl => match us, hl with | [_, _], _ => rfl)
    fun cdv A outer s H E F0 bo hr cc => by
    exact (s_cons (s_ret (x_e (r_ix (ix_G cc) (o_var cc 1) (o_e (r_lend cc 0 (Has.to h__law_roll hr (by decide)) (a_cons (r_b1 cc call_lenG (o_var cc 1) bt_len) a_nil) (al_lend (al_cons al_nil)))))))
    s_nil)
theorem h__law_coins (F : FnP K "_law_coins" (top 26) f fd) (hm : mg "_law_coins" = some (.ref f)) (fr : ∀ x : Str, bnames.contains x = true → mg x = none)
    (h__law_roll : Has P w K mg base CX0 1 "_law_roll" 2 m__law_roll)
    (h__law_some : Has P w K mg base CX0 2 "_law_some" 2 m__law_some) : Has P w K mg base CX0 3 "_law_coins" 2 m__law_coins :=
  def3 (k := 2) (N := ["cup", "most", "found", "turn"]) (ps := ["cup", "most"]) F hm fr ⟨rfl, rfl, rfl, by decide +kernel, rfl, by decide +kernel, by decide +kernel⟩ (fun _ _ _ _ _ _ us hl => match us, hl with | [_, _], _ => rfl)
    fun cdv A outer s H E F0 bo hr cc => by
    have po : PassesOwn (model P w) (cxOf CX0 P w K mg base ["cup", "most", "found", "turn"] "_law_coins" (defScope (top 26)) f cdv A outer s H E).A (cxOf CX0 P w K mg base ["cup", "most", "found", "turn"] "_law_coins" (defScope (top 26)) f cdv A outer s H E).env (cxOf CX0 P w K mg base ["cup", "most", "found", "turn"] "_law_coins" (defScope (top 26)) f cdv A outer s H E).xe := passes_of (X := cxOf CX0 P w K mg base ["cup", "most", "found", "turn"] "_law_coins" (defScope (top 26)) f cdv A outer s H E) rfl
    exact (s_cons (s_set cc 2 (x_e (r_dict0 cc)))
    (s_cons (s_for cc po (i_r1 cc (a_cons (r_bin op_addG (o_e r_int) (o_e (r_lend cc 0 (Has.to h__law_roll hr (by decide)) (a_cons r_int a_nil) (al_lend (al_cons al_nil))))) a_nil)) [3] (g_n cc 3) (s_cons (s_setI cc 2 (set_G cc) r_int (r_lend cc 0 (Has.to h__law_some hr (by decide)) (a_cons (r_lst (a_cons r_int (a_cons r_int (a_cons r_int (a_cons r_int (a_cons r_int (a_cons (r_bin op_addG (o_e r_int) (o_e (r_lend cc 0 (Has.to h__law_roll hr (by decide)) (a_cons (r_var cc 1) a_nil) (al_lend (al_cons al_nil))))) a_nil))))))) a_nil) (al_lend (al_cons al_nil))))
    s_nil))
    (s_cons (s_ret (x_e (r_t1 cc call_tupleG (o_e (r_b1 cc (call_sortG cc) (o_var cc 2) bt_sorted)) bt_tuple)))
    s_nil)))
theorem h__law_few (F : FnP K "_law_few" (top 28) f fd) (hm : mg "_law_few" = some (.ref f)) (fr : ∀ x : Str, bnames.contains x = true → mg x = none) : Has P w K mg base CX0 1 "_law_few" 2 m__law_few :=
  def3 (k := 0) (N := ["coins", "most", "found", "amount", "rows", "at", "last"]) (ps := ["coins", "most"]) F hm fr ⟨rfl, rfl, rfl, by decide +kernel, rfl, by decide +kernel, by decide +kernel⟩ (fun _ _ _ _ _ _ us hl => match us, hl with | [_, _], _ => rfl)
    fun cdv A outer s H E F0 bo hr cc => by
    have po : PassesOwn (model P w) (cxOf CX0 P w K mg base ["coins", "most", "found", "amount", "rows", "at", "last"] "_law_few" (defScope (top 28)) f cdv A outer s H E).A (cxOf CX0 P w K mg base ["coins", "most", "found", "amount", "rows", "at", "last"] "_law_few" (defScope (top 28)) f cdv A outer s H E).env (cxOf CX0 P w K mg base ["coins", "most", "found", "amount", "rows", "at", "last"] "_law_few" (defScope (top 28)) f cdv A outer s H E).xe := passes_of (X := cxOf CX0 P w K mg base ["coins", "most", "found", "amount", "rows", "at", "last"] "_law_few" (defScope (top 28)) f cdv A outer s H E) rfl
    exact (s_cons (s_set cc 2 (x_e (r_lst (a_cons (r_tup (a_cons r_int (a_cons (r_bin op_mulG (o_e (r_tup (a_cons r_int a_nil))) (o_e (r_b1 cc call_lenG (o_var cc 0) bt_len))) a_nil))) a_nil))))
    (s_cons (s_for cc po (i_r2 cc (a_cons r_int (a_cons (r_bin op_addG (o_var cc 1) (o_e r_int)) a_nil))) [3] (g_n cc 3) (s_cons (s_set cc 4 (x_e (r_lst a_nil)))
    (s_cons (s_for cc po (i_r1 cc (a_cons (r_b1 cc call_lenG (o_var cc 0) bt_len) a_nil)) [5] (g_n cc 5) (s_cons (s_set cc 6 (x_e (r_if (t_cmp (op_leG cc) (o_e (r_ix (ix_G cc) (o_var cc 0) (o_var cc 5))) (o_var cc 3)) (r_ix (ix_G cc) (o_var cc 2) (o_e (r_bin op_subG (o_var cc 3) (o_e (r_ix (ix_G cc) (o_var cc 0) (o_var cc 5)))))) r_non)))
    (s_cons (s_if (t_cmp (op_isntG) (o_var cc 6) (o_e r_non)) (s_cons (s_expr (r_mu cc 4 PySem.F.plainAttrs_list PySem.F.slot_list_append PySem.F.type_list_append mt_appendG (a_cons (r_tup (a_cons (r_bin op_addG (o_e (r_ix (ix_G cc) (o_var cc 6) (o_e r_int))) (o_e r_int)) (a_cons (r_bin op_addG (o_e (r_bin op_addG (o_e (r_sl (o_e (r_ix (ix_G cc) (o_var cc 6) (o_e r_int))) p_no (p_e (r_var cc 5)))) (o_e (r_tup (a_cons (r_bin op_addG (o_e (r_ix (ix_G cc) (o_e (r_ix (ix_G cc) (o_var cc 6) (o_e r_int))) (o_var cc 5))) (o_e r_int)) a_nil))))) (o_e (r_sl (o_e (r_ix (ix_G cc) (o_var cc 6) (o_e r_int))) (p_e (r_bin op_addG (o_var cc 5) (o_e r_int))) p_no))) a_nil))) a_nil)))
    s_nil) s_nil)
    s_nil)))
    (s_cons (s_expr (r_mu cc 2 PySem.F.plainAttrs_list PySem.F.slot_list_append PySem.F.type_list_append mt_appendG (a_cons (r_if (t_cmp (op_neG cc) (o_var cc 4) (o_e (r_lst a_nil))) (r_b1 cc (call_minG cc) (o_var cc 4) bt_min) r_non) a_nil)))
    s_nil))))
    (s_cons (s_ret (x_mv cc 2))
    s_nil)))
theorem h__law_greatest (F : FnP K "_law_greatest" (top 29) f fd) (hm : mg "_law_greatest" = some (.ref f)) (fr : ∀ x : Str, bnames.contains x = true → mg x = none) : Has P w K mg base CX0 1 "_law_greatest" 2 m__law_greatest :=
  def3 (k := 0) (N := ["coins", "amount", "found", "coin", "count"]) (ps := ["coins", "amount"]) F hm fr ⟨rfl, rfl, rfl, by decide +kernel, rfl, by decide +kernel, by decide +kernel⟩ (fun _ _ _ _ _ _ us hl => match us, hl with | [_, _], _ => rfl)
    fun cdv A outer s H E F0 bo hr cc => by
    have po : PassesOwn (model P w) (cxOf CX0 P w K mg base ["coins", "amount", "found", "coin", "count"] "_law_greatest" (defScope (top 29)) f cdv A outer s H E).A (cxOf CX0 P w K mg base ["coins", "amount", "found", "coin", "count"] "_law_greatest" (defScope (top 29)) f cdv A outer s H E).env (cxOf CX0 P w K mg base ["coins", "amount", "found", "coin", "count"] "_law_greatest" (defScope (top 29)) f cdv A outer s H E).xe := passes_of (X := cxOf CX0 P w K mg base ["coins", "amount", "found", "coin", "count"] "_law_greatest" (defScope (top 29)) f cdv A outer s H E) rfl
    exact (s_cons (s_set cc 2 (x_e (r_tup a_nil)))
    (s_cons (s_for cc po (i_seq (r_rev (o_var cc 0))) [3] (g_n cc 3) (s_cons (s_set cc 4 (x_e r_int))
    (s_cons (s_while po (t_cmp (op_leG cc) (o_var cc 3) (o_var cc 1)) (s_cons (s_par cc 4 1 (r_bin op_addG (o_var cc 4) (o_e r_int)) (r_bin op_subG (o_var cc 1) (o_var cc 3)))
    s_nil) 100000)
    (s_cons (s_set cc 2 (x_e (r_bin op_addG (o_e (r_tup (a_cons (r_var cc 4) a_nil))) (o_var cc 2))))
    s_nil))))
    (s_cons (s_ret (x_e (r_if (t_cmp (op_eqG cc) (o_var cc 1) (o_e r_int)) (r_var cc 2) r_non)))
    s_nil)))
theorem h__law_worth (F : FnP K "_law_worth" (top 27) f fd) (hm : mg "_law_worth" = some (.ref f)) (fr : ∀ x : Str, bnames.contains x = true → mg x = none) : Has P w K mg base CX0 1 "_law_worth" 2 m__law_worth :=
  def3 (k := 0) (N := ["coins", "counts", "whole", "coin", "count"]) (ps := ["coins", "counts"]) F hm fr ⟨rfl, rfl, rfl, by decide +kernel, rfl, by decide +kernel, by decide +kernel⟩ (fun _ _ _ _ _ _ us hl => match us, hl with | [_, _], _ => rfl)
    fun cdv A outer s H E F0 bo hr cc => by
    have po : PassesOwn (model P w) (cxOf CX0 P w K mg base ["coins", "counts", "whole", "coin", "count"] "_law_worth" (defScope (top 27)) f cdv A outer s H E).A (cxOf CX0 P w K mg base ["coins", "counts", "whole", "coin", "count"] "_law_worth" (defScope (top 27)) f cdv A outer s H E).env (cxOf CX0 P w K mg base ["coins", "counts", "whole", "coin", "count"] "_law_worth" (defScope (top 27)) f cdv A outer s H E).xe := passes_of (X := cxOf CX0 P w K mg base ["coins", "counts", "whole", "coin", "count"] "_law_worth" (defScope (top 27)) f cdv A outer s H E) rfl
    exact (s_cons (s_set cc 2 (x_e r_int))
    (s_cons (s_for cc po (i_zip cc (a_cons (r_var cc 0) (a_cons (r_var cc 1) a_nil))) [3, 4] (g_t cc 2 (gs_cons (g_n cc 3) (gs_cons (g_n cc 4) gs_nil)) (gs_lenS (gs_lenS gs_len0))) (s_cons (s_set cc 2 (x_e (r_bin op_addG (o_var cc 2) (o_e (r_bin op_mulG (o_var cc 3) (o_var cc 4))))))
    s_nil))
    (s_cons (s_ret (x_mv cc 2))
    s_nil)))
theorem h__law_right (F : FnP K "_law_right" (top 30) f fd) (hm : mg "_law_right" = some (.ref f)) (fr : ∀ x : Str, bnames.contains x = true → mg x = none)
    (h__law_coins : Has P w K mg base CX0 3 "_law_coins" 2 m__law_coins)
    (h__law_few : Has P w K mg base CX0 1 "_law_few" 2 m__law_few)
    (h_are_coins : Has P w K mg base CX0 3 "are_coins" 1 m_are_coins)
    (h__law_greatest : Has P w K mg base CX0 1 "_law_greatest" 2 m__law_greatest)
    (h__law_roll : Has P w K mg base CX0 1 "_law_roll" 2 m__law_roll)
    (h_greedy_fault : Has P w K mg base CX0 4 "greedy_fault" 1 m_greedy_fault)
    (h_least_coins : Has P w K mg base CX0 4 "least_coins" 2 m_least_coins)
    (h_greedy : Has P w K mg base CX0 4 "greedy" 2 m_greedy)
    (h__law_worth : Has P w K mg base CX0 1 "_law_worth" 2 m__law_worth) : Has P w K mg base CX0 5 "_law_right" 1 m__law_right :=
  def3 (k := 4) (N := ["cup", "coins", "few", "faults", "amount", "own", "turn", "due"]) (ps := ["cup"]) F hm fr ⟨rfl, rfl, rfl, by decide +kernel, rfl, by decide +kernel, by decide +kernel⟩ (fun _ _ _ _ _ _ us hl => match us, hl with | [_], _ => rfl)
    fun cdv A outer s H E F0 bo hr cc => by
    have po : PassesOwn (model P w) (cxOf CX0 P w K mg base ["cup", "coins", "few", "faults", "amount", "own", "turn", "due"] "_law_right" (defScope (top 30)) f cdv A outer s H E).A (cxOf CX0 P w K mg base ["cup", "coins", "few", "faults", "amount", "own", "turn", "due"] "_law_right" (defScope (top 30)) f cdv A outer s H E).env (cxOf CX0 P w K mg base ["cup", "coins", "few", "faults", "amount", "own", "turn", "due"] "_law_right" (defScope (top 30)) f cdv A outer s H E).xe := passes_of (X := cxOf CX0 P w K mg base ["cup", "coins", "few", "faults", "amount", "own", "turn", "due"] "_law_right" (defScope (top 30)) f cdv A outer s H E) rfl
    exact (s_cons (s_set cc 1 (x_e (r_lend cc 0 (Has.to h__law_coins hr (by decide)) (a_cons r_int a_nil) (al_lend (al_cons al_nil)))))
    (s_cons (s_par cc 2 3 (r_call cc (Has.to h__law_few hr (by decide)) (a_cons (r_var cc 1) (a_cons (r_bin op_addG (o_e (r_bin op_mulG (o_e r_int) (o_e (r_ix (ix_G cc) (o_var cc 1) (o_e (r_un un_negG (o_e r_int))))))) (o_e r_int)) a_nil)) (al_cons (al_cons al_nil))) (r_lst a_nil))
    (s_cons (s_if (t_cmp (op_isntG) (o_e (r_call cc (Has.to h_are_coins hr (by decide)) (a_cons (r_var cc 1) a_nil) (al_cons al_nil))) (o_e r_bl)) (s_cons (s_ret (x_e r_bl))
    s_nil) s_nil)
    (s_cons (s_for cc po (i_r2 cc (a_cons r_int (a_cons (r_bin op_mulG (o_e r_int) (o_e (r_ix (ix_G cc) (o_var cc 1) (o_e (r_un un_negG (o_e r_int)))))) a_nil))) [4] (g_n cc 4) (s_cons (s_set cc 5 (x_e (r_call cc (Has.to h__law_greatest hr (by decide)) (a_cons (r_var cc 1) (a_cons (r_var cc 4) a_nil)) (al_cons (al_cons al_nil)))))
    (s_cons (s_set cc 3 (x_e (r_bin op_addG (o_var cc 3) (o_e (r_if (t_and (t_cmp (op_isntG) (o_e (r_ix (ix_G cc) (o_var cc 2) (o_var cc 4))) (o_e r_non)) (t_and1 (t_or (t_cmp (op_isG) (o_var cc 5) (o_e r_non)) (t_or1 (t_cmp (op_gtG cc) (o_e (r_b1 cc (call_sumG cc) (o_var cc 5) bt_sum)) (o_e (r_ix (ix_G cc) (o_e (r_ix (ix_G cc) (o_var cc 2) (o_var cc 4))) (o_e r_int)))))).pt)).pt (r_lst (a_cons (r_var cc 4) a_nil)) (r_lst a_nil))))))
    s_nil)))
    (s_cons (s_if (t_cmp (op_neG cc) (o_e (r_b1 cc (call_reprG cc) (o_e (r_call cc (Has.to h_greedy_fault hr (by decide)) (a_cons (r_var cc 1) a_nil) (al_cons al_nil))) bt_repr)) (o_e (r_b1 cc (call_reprG cc) (o_e (r_if (t_cmp (op_neG cc) (o_var cc 3) (o_e (r_lst a_nil))) (r_ix (ix_G cc) (o_var cc 3) (o_e r_int)) r_non)) bt_repr))) (s_cons (s_ret (x_e r_bl))
    s_nil) s_nil)
    (s_cons (s_for cc po (i_r1 cc (a_cons r_int a_nil)) [6] (g_n cc 6) (s_cons (s_set cc 4 (x_e (r_lend cc 0 (Has.to h__law_roll hr (by decide)) (a_cons (r_b1 cc call_lenG (o_var cc 2) bt_len) a_nil) (al_lend (al_cons al_nil)))))
    (s_cons (s_set cc 7 (x_e (r_if (t_cmp (op_isntG) (o_e (r_ix (ix_G cc) (o_var cc 2) (o_var cc 4))) (o_e r_non)) (r_ix (ix_G cc) (o_e (r_ix (ix_G cc) (o_var cc 2) (o_var cc 4))) (o_e r_int)) r_non)))
    (s_cons (s_if (t_cmp (op_neG cc) (o_e (r_b1 cc (call_reprG cc) (o_e (r_tup (a_cons (r_call cc (Has.to h_least_coins hr (by decide)) (a_cons (r_var cc 1) (a_cons (r_var cc 4) a_nil)) (al_cons (al_cons al_nil))) (a_cons (r_call cc (Has.to h_greedy hr (by decide)) (a_cons (r_var cc 1) (a_cons (r_var cc 4) a_nil)) (al_cons (al_cons al_nil))) a_nil)))) bt_repr)) (o_e (r_b1 cc (call_reprG cc) (o_e (r_tup (a_cons (r_var cc 7) (a_cons (r_call cc (Has.to h__law_greatest hr (by decide)) (a_cons (r_var cc 1) (a_cons (r_var cc 4) a_nil)) (al_cons (al_cons al_nil))) a_nil)))) bt_repr))) (s_cons (s_ret (x_e r_bl))
    s_nil) s_nil)
    (s_cons (s_if (t_and (t_cmp (op_isntG) (o_var cc 7) (o_e r_non)) (t_and1 (t_or (t_cmp (op_neG cc) (o_e (r_call cc (Has.to h__law_worth hr (by decide)) (a_cons (r_var cc 1) (a_cons (r_var cc 7) a_nil)) (al_cons (al_cons al_nil)))) (o_var cc 4)) (t_or1 (t_and (t_cmp (op_eqG cc) (o_var cc 3) (o_e (r_lst a_nil))) (t_and (t_cmp (op_ltG cc) (o_var cc 4) (o_e (r_bin op_mulG (o_e r_int) (o_e (r_ix (ix_G cc) (o_var cc 1) (o_e (r_un un_negG (o_e r_int)))))))) (t_and1 (t_cmp (op_neG cc) (o_e (r_b1 cc (call_sumG cc) (o_e (r_call cc (Has.to h_greedy hr (by decide)) (a_cons (r_var cc 1) (a_cons (r_var cc 4) a_nil)) (al_cons (al_cons al_nil)))) bt_sum)) (o_e (r_b1 cc (call_sumG cc) (o_var cc 7) bt_sum)))))).pt)).pt)).pt (s_cons (s_ret (x_e r_bl))
    s_nil) s_nil)
    s_nil)))))
    (s_cons (s_ret (x_e r_bl))
    s_nil)))))))
theorem fn_law (F : FnP K "law" (top 32) f fd) (fr : ∀ x : Str, bnames.contains x = true → mg x = none)
    (h__law_cup : Has P w K mg base CX0 1 "_law_cup" 1 m__law_cup)
    (h__law_roll : Has P w K mg base CX0 1 "_law_roll" 2 m__law_roll)
    (h_greedy_fault : Has P w K mg base CX0 4 "greedy_fault" 1 m_greedy_fault)
    (h_least_coins : Has P w K mg base CX0 4 "least_coins" 2 m_least_coins)
    (h_greedy : Has P w K mg base CX0 4 "greedy" 2 m_greedy)
    (h__law_odds_right : Has P w K mg base CX0 4 "_law_odds_right" 0 m__law_odds_right)
    (h__law_right : Has P w K mg base CX0 5 "_law_right" 1 m__law_right) : FnG P w K mg base CX0 6 f fd ["script"] (sp3 P w K 1 m_law) :=
  def3G (k := 5) (N := ["script", "cup", "turn", "many", "times", "told", "row", "amount"]) (ps := ["script"]) F fr ⟨rfl, rfl, rfl, by decide +kernel, rfl, by decide +kernel, by decide +kernel⟩ 
    fun cdv A outer s H E F0 bo hr cc => by
    have po : PassesOwn (model P w) (cxOf CX0 P w K mg base ["script", "cup", "turn", "many", "times", "told", "row", "amount"] "law" (defScope (top 32)) f cdv A outer s H E).A (cxOf CX0 P w K mg base ["script", "cup", "turn", "many", "times", "told", "row", "amount"] "law" (defScope (top 32)) f cdv A outer s H E).env (cxOf CX0 P w K mg base ["script", "cup", "turn", "many", "times", "told", "row", "amount"] "law" (defScope (top 32)) f cdv A outer s H E).xe := passes_of (X := cxOf CX0 P w K mg base ["script", "cup", "turn", "many", "times", "told", "row", "amount"] "law" (defScope (top 32)) f cdv A outer s H E) rfl
    exact (s_cons (s_set cc 1 (x_e (r_scr cc 0 (Has.to h__law_cup hr (by decide)))))
    (s_cons (s_for cc po (i_r1 cc (a_cons r_int a_nil)) [2] (g_n cc 2) (s_cons (s_if (t_not (t_val (r_lend cc 1 (Has.to h__law_right hr (by decide)) a_nil (al_lend al_nil)))) (s_cons (s_ret (x_e r_bl))
    s_nil) s_nil)
    s_nil))
    (s_cons (s_par cc 3 4 (r_bin op_addG (o_e r_int) (o_e (r_lend cc 1 (Has.to h__law_roll hr (by decide)) (a_cons r_int a_nil) (al_lend (al_cons al_nil))))) (r_bin op_addG (o_e r_int) (o_e (r_lend cc 1 (Has.to h__law_roll hr (by decide)) (a_cons r_int a_nil) (al_lend (al_cons al_nil))))))
    (s_cons (s_set cc 5 (x_e (r_tup (a_cons (r_call cc (Has.to h_greedy_fault hr (by decide)) (a_cons (r_tup (a_cons r_int (a_cons (r_var cc 3) (a_cons (r_bin op_addG (o_var cc 3) (o_e r_int)) a_nil)))) a_nil) (al_cons al_nil)) (a_cons (r_call cc (Has.to h_least_coins hr (by decide)) (a_cons (r_tup (a_cons r_int (a_cons (r_var cc 3) (a_cons (r_bin op_addG (o_var cc 3) (o_e r_int)) a_nil)))) (a_cons (r_bin op_mulG (o_e r_int) (o_var cc 3)) a_nil)) (al_cons (al_cons al_nil))) (a_cons (r_call cc (Has.to h_greedy hr (by decide)) (a_cons (r_tup (a_cons r_int (a_cons (r_var cc 3) (a_cons (r_bin op_addG (o_var cc 3) (o_e r_int)) a_nil)))) (a_cons (r_bin op_mulG (o_e r_int) (o_var cc 3)) a_nil)) (al_cons (al_cons al_nil))) a_nil))))))
    (s_cons (s_if (t_cmp (op_neG cc) (o_var cc 5) (o_e (r_tup (a_cons (r_bin op_mulG (o_e r_int) (o_var cc 3)) (a_cons (r_tup (a_cons r_int (a_cons r_int (a_cons r_int a_nil)))) (a_cons (r_tup (a_cons (r_bin op_subG (o_var cc 3) (o_e r_int)) (a_cons r_int (a_cons r_int a_nil)))) a_nil)))))) (s_cons (s_ret (x_e r_bl))
    s_nil) s_nil)
    (s_cons (s_set cc 6 (x_e (r_tup (a_cons r_int (a_cons (r_var cc 4) (a_cons (r_bin op_mulG (o_var cc 4) (o_var cc 4)) a_nil))))))
    (s_cons (s_set cc 7 (x_e (r_lend cc 1 (Has.to h__law_roll hr (by decide)) (a_cons r_int a_nil) (al_lend (al_cons al_nil)))))
    (s_cons (s_ret (x_e (r_and (r_T (r_cmp (op_isG) (o_e (r_call cc (Has.to h_greedy_fault hr (by decide)) (a_cons (r_var cc 6) a_nil) (al_cons al_nil))) (o_e r_non))) (r_and (r_T (r_cmp (op_eqG cc) (o_e (r_call cc (Has.to h_least_coins hr (by decide)) (a_cons (r_var cc 6) (a_cons (r_var cc 7) a_nil)) (al_cons (al_cons al_nil)))) (o_e (r_call cc (Has.to h_greedy hr (by decide)) (a_cons (r_var cc 6) (a_cons (r_var cc 7) a_nil)) (al_cons (al_cons al_nil)))))) (r_and (r_T (r_cmp (op_eqG cc) (o_e (r_call cc (Has.to h_least_coins hr (by decide)) (a_cons (r_tup (a_cons r_int a_nil)) (a_cons r_int a_nil)) (al_cons (al_cons al_nil)))) (o_e (r_tup (a_cons r_int a_nil))))) (r_and (r_T (r_cmp (op_isG) (o_e (r_call cc (Has.to h_least_coins hr (by decide)) (a_cons (r_tup (a_cons r_int a_nil)) (a_cons r_int a_nil)) (al_cons (al_cons al_nil)))) (o_e r_non))) (r_one (r_T (r_call0 cc (Has.to h__law_odds_right hr (by decide)))))))))))
    s_nil))))))))
end
end K78
namespace K78
open PySem PySem.Spec PyProof.Rows L2 L3
/-! ### the head -/
def dd (x : Str) (i : Nat) : He.DefD := ⟨(x, none), x, x, defArgs (top i), defBody (top i), defScope (top i), [], []⟩
def fn : List He.DefD := [dd "_law_cup" 23, dd "_law_roll" 24, dd "is_tuple_of" 6, dd "is_rising" 7, dd "is_whole" 5, dd "fits_coins" 12, dd "need_coins" 13, dd "fewest_to" 15, dd "greedy_in" 17, dd "greedy_fault" 21, dd "need_amount" 14, dd "first_of" 16, dd "least_coins" 19, dd "greedy" 20, dd "are_coins" 18, dd "_law_odds_right" 31, dd "_law_some" 25, dd "_law_coins" 26, dd "_law_few" 28, dd "_law_greatest" 29, dd "_law_worth" 27, dd "_law_right" 30, dd "law" 32]
def fa : List He.Fa := bnames.map He.Fa.free ++ [.glo "_law_cup", .glo "_law_roll", .glo "is_tuple_of", .glo "is_rising", .glo "is_whole", .glo "fits_coins", .glo "need_coins", .glo "fewest_to", .glo "greedy_in", .glo "greedy_fault", .glo "need_amount", .glo "first_of", .glo "least_coins", .glo "greedy", .glo "are_coins", .glo "_law_odds_right", .glo "_law_some", .glo "_law_coins", .glo "_law_few", .glo "_law_greatest", .glo "_law_worth", .glo "_law_right", .glo "law", .int "COINS" 6, .int "WORTH" 100, .int "AMOUNT" 1000]
abbrev RW : PySem.W.OpenRow := PySem.W.OpenLaw.row PySem.Challenge.rw_fairground_k78_whole_fewest_coins
abbrev hk : PySem.W.Hook := He.hookD 4 fa fn
def ob (s : PySem.W.SharedT) : He.AlD := He.obsDG 4 fa fn (HandSHeadRun.getT s)
theorem ob_eq (s : PySem.W.SharedT) : ob s = hk.obs s.abs := He.obsDG_eq (HandSHeadRun.getT_eq s)
def loose1 : List Str := ["FairError", "InvalidNumber", "InvalidCoins", "is_whole", "is_tuple_of", "is_rising", "COINS", "WORTH", "AMOUNT", "fits_coins", "need_coins", "need_amount", "fewest_to", "first_of", "greedy_in", "are_coins", "least_coins", "greedy", "greedy_fault", "_law_cup", "_law_roll", "_law_some", "_law_coins", "_law_worth", "_law_few", "_law_greatest", "_law_right", "_law_odds_right"]
def loose2 : List Str := []
def loose : List Str := loose1 ++ loose2
theorem run (w : World) : HandSHeadRun.RunEq RW (PySem.W.view RW.prog [32]) hk ob 4000 loose w := by
  intro os
  kernel_rfl
theorem facts {P : Program} {w : World} {K : PySem.W.Frag} {h : Heap} {mg : Str → Option Value} (X : K.In h) (G : h.Ns mainGlobals mg) (c : He.SaysD fa fn K) :
    ∃ (fl : Addr) (fd : FuncData), mg ("law" : Str) = some (.ref fl) ∧ (∀ (s : Shared) (v : Value), BindsTo s fd ⟨[v], []⟩ [("script", v)]) ∧ ∀ base : Heap, K.In base → base.Ns mainGlobals mg → FnG P w K mg base CX0 6 fl fd ["script"] (sp3 P w K 1 m_law) := by
  have fr := frees X G c fun x hx => List.mem_append_left _ (List.mem_map.mpr ⟨x, hx, rfl⟩)
  have gl : ∀ x : Str, He.Fa.glo x ∈ fa → mg x = some (.ref (He.ga K x)) := fun x hx => He.glo_ok X G (fact_mem c hx)
  obtain ⟨t_COINS, g_COINS⟩ := He.int_ok X G (x := "COINS") (i := 6) (fact_mem c (List.mem_of_getElem? (i := 44) rfl))
  obtain ⟨t_WORTH, g_WORTH⟩ := He.int_ok X G (x := "WORTH") (i := 100) (fact_mem c (List.mem_of_getElem? (i := 45) rfl))
  obtain ⟨t_AMOUNT, g_AMOUNT⟩ := He.int_ok X G (x := "AMOUNT") (i := 1000) (fact_mem c (List.mem_of_getElem? (i := 46) rfl))
  have h__law_cup : ∀ base : Heap, Has P w K mg base CX0 1 "_law_cup" 1 m__law_cup := fun base => by
    obtain ⟨fd, F⟩ := c.def_ 0 (d := dd "_law_cup" 23) rfl
    exact K78.h__law_cup F (gl _ (List.mem_of_getElem? (i := 21) rfl)) fr
  have h__law_roll : ∀ base : Heap, Has P w K mg base CX0 1 "_law_roll" 2 m__law_roll := fun base => by
    obtain ⟨fd, F⟩ := c.def_ 1 (d := dd "_law_roll" 24) rfl
    exact K78.h__law_roll F (gl _ (List.mem_of_getElem? (i := 22) rfl)) fr
  have h_is_tuple_of : ∀ base : Heap, Has P w K mg base CX0 1 "is_tuple_of" 3 m_is_tuple_of := fun base => by
    obtain ⟨fd, F⟩ := c.def_ 2 (d := dd "is_tuple_of" 6) rfl
    exact K78.h_is_tuple_of F (gl _ (List.mem_of_getElem? (i := 23) rfl)) fr
  have h_is_rising : ∀ base : Heap, Has P w K mg base CX0 1 "is_rising" 1 m_is_rising := fun base => by
    obtain ⟨fd, F⟩ := c.def_ 3 (d := dd "is_rising" 7) rfl
    exact K78.h_is_rising F (gl _ (List.mem_of_getElem? (i := 24) rfl)) fr
  have h_is_whole : ∀ base : Heap, Has P w K mg base CX0 1 "is_whole" 3 m_is_whole := fun base => by
    obtain ⟨fd, F⟩ := c.def_ 4 (d := dd "is_whole" 5) rfl
    exact K78.h_is_whole F (gl _ (List.mem_of_getElem? (i := 25) rfl)) fr
  have h_fits_coins : ∀ base : Heap, Has P w K mg base CX0 2 "fits_coins" 1 m_fits_coins := fun base => by
    obtain ⟨fd, F⟩ := c.def_ 5 (d := dd "fits_coins" 12) rfl
    exact K78.h_fits_coins F (gl _ (List.mem_of_getElem? (i := 26) rfl)) fr (h_is_tuple_of base) (h_is_rising base) (h_is_whole base) g_COINS g_WORTH
  have h_need_coins : ∀ base : Heap, Has P w K mg base CX0 3 "need_coins" 1 m_need_coins := fun base => by
    obtain ⟨fd, F⟩ := c.def_ 6 (d := dd "need_coins" 13) rfl
    exact K78.h_need_coins F (gl _ (List.mem_of_getElem? (i := 27) rfl)) fr (h_fits_coins base)
  have h_fewest_to : ∀ base : Heap, Has P w K mg base CX0 1 "fewest_to" 2 m_fewest_to := fun base => by
    obtain ⟨fd, F⟩ := c.def_ 7 (d := dd "fewest_to" 15) rfl
    exact K78.h_fewest_to F (gl _ (List.mem_of_getElem? (i := 28) rfl)) fr
  have h_greedy_in : ∀ base : Heap, Has P w K mg base CX0 1 "greedy_in" 2 m_greedy_in := fun base => by
    obtain ⟨fd, F⟩ := c.def_ 8 (d := dd "greedy_in" 17) rfl
    exact K78.h_greedy_in F (gl _ (List.mem_of_getElem? (i := 29) rfl)) fr
  have h_greedy_fault : ∀ base : Heap, Has P w K mg base CX0 4 "greedy_fault" 1 m_greedy_fault := fun base => by
    obtain ⟨fd, F⟩ := c.def_ 9 (d := dd "greedy_fault" 21) rfl
    exact K78.h_greedy_fault F (gl _ (List.mem_of_getElem? (i := 30) rfl)) fr (h_need_coins base) (h_fewest_to base) (h_greedy_in base) g_WORTH
  have h_need_amount : ∀ base : Heap, Has P w K mg base CX0 2 "need_amount" 1 m_need_amount := fun base => by
    obtain ⟨fd, F⟩ := c.def_ 10 (d := dd "need_amount" 14) rfl
    exact K78.h_need_amount F (gl _ (List.mem_of_getElem? (i := 31) rfl)) fr (h_is_whole base) g_AMOUNT
  have h_first_of : ∀ base : Heap, Has P w K mg base CX0 2 "first_of" 2 m_first_of := fun base => by
    obtain ⟨fd, F⟩ := c.def_ 11 (d := dd "first_of" 16) rfl
    exact K78.h_first_of F (gl _ (List.mem_of_getElem? (i := 32) rfl)) fr (h_fewest_to base)
  have h_least_coins : ∀ base : Heap, Has P w K mg base CX0 4 "least_coins" 2 m_least_coins := fun base => by
    obtain ⟨fd, F⟩ := c.def_ 12 (d := dd "least_coins" 19) rfl
    exact K78.h_least_coins F (gl _ (List.mem_of_getElem? (i := 33) rfl)) fr (h_need_coins base) (h_need_amount base) (h_first_of base)
  have h_greedy : ∀ base : Heap, Has P w K mg base CX0 4 "greedy" 2 m_greedy := fun base => by
    obtain ⟨fd, F⟩ := c.def_ 13 (d := dd "greedy" 20) rfl
    exact K78.h_greedy F (gl _ (List.mem_of_getElem? (i := 34) rfl)) fr (h_need_coins base) (h_need_amount base) (h_greedy_in base)
  have h_are_coins : ∀ base : Heap, Has P w K mg base CX0 3 "are_coins" 1 m_are_coins := fun base => by
    obtain ⟨fd, F⟩ := c.def_ 14 (d := dd "are_coins" 18) rfl
    exact K78.h_are_coins F (gl _ (List.mem_of_getElem? (i := 35) rfl)) fr (h_fits_coins base)
  have h__law_odds_right : ∀ base : Heap, Has P w K mg base CX0 4 "_law_odds_right" 0 m__law_odds_right := fun base => by
    obtain ⟨fd, F⟩ := c.def_ 15 (d := dd "_law_odds_right" 31) rfl
    exact K78.h__law_odds_right F (gl _ (List.mem_of_getElem? (i := 36) rfl)) fr (h_are_coins base)
  have h__law_some : ∀ base : Heap, Has P w K mg base CX0 2 "_law_some" 2 m__law_some := fun base => by
    obtain ⟨fd, F⟩ := c.def_ 16 (d := dd "_law_some" 25) rfl
    exact K78.h__law_some F (gl _ (List.mem_of_getElem? (i := 37) rfl)) fr (h__law_roll base)
  have h__law_coins : ∀ base : Heap, Has P w K mg base CX0 3 "_law_coins" 2 m__law_coins := fun base => by
    obtain ⟨fd, F⟩ := c.def_ 17 (d := dd "_law_coins" 26) rfl
    exact K78.h__law_coins F (gl _ (List.mem_of_getElem? (i := 38) rfl)) fr (h__law_roll base) (h__law_some base)
  have h__law_few : ∀ base : Heap, Has P w K mg base CX0 1 "_law_few" 2 m__law_few := fun base => by
    obtain ⟨fd, F⟩ := c.def_ 18 (d := dd "_law_few" 28) rfl
    exact K78.h__law_few F (gl _ (List.mem_of_getElem? (i := 39) rfl)) fr
  have h__law_greatest : ∀ base : Heap, Has P w K mg base CX0 1 "_law_greatest" 2 m__law_greatest := fun base => by
    obtain ⟨fd, F⟩ := c.def_ 19 (d := dd "_law_greatest" 29) rfl
    exact K78.h__law_greatest F (gl _ (List.mem_of_getElem? (i := 40) rfl)) fr
  have h__law_worth : ∀ base : Heap, Has P w K mg base CX0 1 "_law_worth" 2 m__law_worth := fun base => by
    obtain ⟨fd, F⟩ := c.def_ 20 (d := dd "_law_worth" 27) rfl
    exact K78.h__law_worth F (gl _ (List.mem_of_getElem? (i := 41) rfl)) fr
  have h__law_right : ∀ base : Heap, Has P w K mg base CX0 5 "_law_right" 1 m__law_right := fun base => by
    obtain ⟨fd, F⟩ := c.def_ 21 (d := dd "_law_right" 30) rfl
    exact K78.h__law_right F (gl _ (List.mem_of_getElem? (i := 42) rfl)) fr (h__law_coins base) (h__law_few base) (h_are_coins base) (h__law_greatest base) (h__law_roll base) (h_greedy_fault base) (h_least_coins base) (h_greedy base) (h__law_worth base)
  obtain ⟨fd, F⟩ := c.def_ 22 (d := dd "law" 32) rfl
  have b := FunD.bindsA (ps := ["script"]) F fun _ _ _ _ _ _ us hl => match us, hl with | [_], _ => rfl
  refine ⟨_, fd, gl "law" (List.mem_of_getElem? (i := 43) rfl), fun s v => b s [v] rfl, fun base _ _ => ?_⟩
  exact fn_law (base := base) F fr (h__law_cup base) (h__law_roll base) (h_greedy_fault base) (h_least_coins base) (h_greedy base) (h__law_odds_right base) (h__law_right base)
end K78
open PySem PySem.W PySem.Calls PyProof.Rows
theorem K78.holds (hm : L3.LawOk K78.m_law) : PySem.Challenge.rw_fairground_k78_whole_fewest_coins.Holds := by
  w_on; o_law
  refine HandSHeadRun.head_any (r := OpenLaw.row PySem.Challenge.rw_fairground_k78_whole_fewest_coins) (q := view (OpenLaw.row PySem.Challenge.rw_fairground_k78_whole_fewest_coins).prog [32]) (H := K78.hk) (ob := K78.ob) (M := 4000) (loose := K78.loose) (d := HandSHeadRun.topDef (OpenLaw.row PySem.Challenge.rw_fairground_k78_whole_fewest_coins).prog 32) (kwd := []) K78.ob_eq
    (by kernel_rfl) (fun s => by kernel_rfl) K78.run (by kernel_rfl) (by kernel_rfl) (by kernel_rfl) (by rfl) (by first | assumption | decide +kernel) (by decide +kernel) ⟨rfl, rfl, rfl, rfl, rfl, by decide +kernel⟩ ?hw ?hc
  case hw => w_witness2
  case hc =>
    refine L3.walk3 (l := PySem.Challenge.rw_fairground_k78_whole_fewest_coins) (n := 63) (k := 6) (x := "script") rfl (by decide) (by kernel_rfl) ⟨rfl, by decide, by decide⟩ hm ?F
    intro w mg h Y G
    obtain ⟨K, KX, c⟩ := Y
    exact ⟨K, KX, K78.facts (P := (PySem.Challenge.rw_fairground_k78_whole_fewest_coins).prog) (w := w) KX G c⟩


end
section
/-! k78, plain: the fewest coins, and of those the counts that come first. -/
namespace K78
open PySem PySem.W L3

/-! ### order -/
theorem listLt_nat : ∀ xs ys : List Nat, listLt xs ys = decide (xs < ys)
  | [], [] => by simp [listLt]
  | [], _ :: _ => by simp [listLt]
  | _ :: _, [] => by simp [listLt]
  | x :: xs, y :: ys => by
    unfold listLt
    by_cases h : x = y
    · rw [if_pos h, listLt_nat xs ys]
      exact decide_eq_decide.mpr (by rw [List.cons_lt_cons_iff]; simp [h])
    · rw [if_neg h]
      show decide (x < y) = _
      exact decide_eq_decide.mpr (by rw [List.cons_lt_cons_iff]; simp [h])
/-- (n, v) before (m, w) -/
def bef (p q : Nat × List Nat) : Prop := p.1 < q.1 ∨ (p.1 = q.1 ∧ p.2 < q.2)
instance (p q : Nat × List Nat) : Decidable (bef p q) := inferInstanceAs (Decidable (_ ∨ _))
theorem bef_trans {p q r : Nat × List Nat} (h : ¬ bef q p) (h' : ¬ bef r q) : ¬ bef r p := by
  unfold bef at *
  rintro (k | ⟨k1, k2⟩)
  · have a : ¬ q.1 < p.1 := fun z => h (.inl z)
    have b : ¬ r.1 < q.1 := fun z => h' (.inl z)
    omega
  · have a : ¬ q.1 < p.1 := fun z => h (.inl z)
    have b : ¬ r.1 < q.1 := fun z => h' (.inl z)
    have e1 : q.1 = p.1 := by omega
    have e2 : r.1 = q.1 := by omega
    have c : p.2 ≤ q.2 := List.not_lt.mp fun z => h (.inr ⟨e1, z⟩)
    have d : q.2 ≤ r.2 := List.not_lt.mp fun z => h' (.inr ⟨e2, z⟩)
    exact List.not_lt.mpr (List.le_trans c d) k2
theorem bef_same {p q : Nat × List Nat} (h : ¬ bef q p) (h' : ¬ bef p q) : p = q := by
  unfold bef at *
  have a : p.1 = q.1 := by
    have := fun z => h (.inl z)
    have := fun z => h' (.inl z)
    omega
  refine Prod.ext a ?_
  have c : p.2 ≤ q.2 := List.not_lt.mp fun z => h (.inr ⟨a.symm, z⟩)
  have d : q.2 ≤ p.2 := List.not_lt.mp fun z => h' (.inr ⟨a, z⟩)
  exact List.le_antisymm c d
theorem bef_irrefl (p : Nat × List Nat) : ¬ bef p p := by
  rintro (h | ⟨_, h⟩)
  · omega
  · exact List.lt_irrefl _ h
theorem minOf_spec {α : Type} [DecidableEq α] [DatumOrd α] (R : α → α → Prop) (hR : ∀ a b, (DatumOrd.lt b a = true → R b a) ∧ (DatumOrd.lt b a = false → R a b)) (refl : ∀ a, R a a) (tr : ∀ a b c, R a b → R b c → R a c) :
    ∀ (x : α) (xs : List α), minOf x xs ∈ x :: xs ∧ ∀ y ∈ x :: xs, R (minOf x xs) y := by
  intro x xs
  unfold minOf
  induction xs generalizing x with
  | nil => exact ⟨List.mem_cons_self, fun y hy => by rw [List.mem_singleton.mp hy]; exact refl _⟩
  | cons z zs ih =>
    rw [List.foldl_cons]
    obtain ⟨h1, h2⟩ := ih (if DatumOrd.lt z x = true then z else x)
    refine ⟨?_, fun y hy => ?_⟩
    · rcases List.mem_cons.mp h1 with e | e
      · rw [e]; split
        · exact List.mem_cons_of_mem _ List.mem_cons_self
        · exact List.mem_cons_self
      · exact List.mem_cons_of_mem _ (List.mem_cons_of_mem _ e)
    · have h0 := h2 _ List.mem_cons_self
      rcases List.mem_cons.mp hy with e | hy
      · subst e
        refine tr _ _ _ h0 ?_
        split
        · rename_i q; exact (hR y z).1 q
        · exact refl _
      · rcases List.mem_cons.mp hy with e | hy
        · subst e
          refine tr _ _ _ h0 ?_
          split
          · exact refl _
          · rename_i q; exact (hR x y).2 (by simpa using q)
        · exact h2 y (List.mem_cons_of_mem _ hy)

/-! ### sums of coins -/
def dot : List Nat → List Nat → Nat
  | v :: vs, c :: cs => v * c + dot vs cs
  | _, _ => 0
def inc (v : List Nat) (i : Nat) : List Nat := v.set i (v[i]?.getD 0 + 1)
theorem inc_length (v : List Nat) (i : Nat) : (inc v i).length = v.length := by unfold inc; simp
theorem inc_sum : ∀ (v : List Nat) (i : Nat), i < v.length → (inc v i).sum = v.sum + 1
  | x :: v, 0, _ => by simp [inc]; omega
  | x :: v, i + 1, h => by
    have ih := inc_sum v i (by simpa using h)
    have e : inc (x :: v) (i + 1) = x :: inc v i := by simp [inc]
    rw [e, List.sum_cons, List.sum_cons, ih]; omega
theorem inc_dot : ∀ (v cs : List Nat) (i : Nat), i < v.length → v.length = cs.length → dot (inc v i) cs = dot v cs + cs[i]?.getD 0
  | x :: v, c :: cs, 0, _, _ => by simp [inc, dot, Nat.add_mul]; omega
  | x :: v, c :: cs, i + 1, h, hl => by
    have ih := inc_dot v cs i (by simpa using h) (by simpa using hl)
    have e : inc (x :: v) (i + 1) = x :: inc v i := by simp [inc]
    rw [e, dot, dot, ih]; simp; omega
  | x :: v, [], _, _, hl => by simp at hl
theorem inc_lt : ∀ (v w : List Nat) (i : Nat), i < v.length → v.length = w.length → (inc v i < inc w i ↔ v < w)
  | x :: v, y :: w, 0, _, _ => by simp [inc, List.cons_lt_cons_iff]
  | x :: v, y :: w, i + 1, h, hl => by
    have ih := inc_lt v w i (by simpa using h) (by simpa using hl)
    have e : inc (x :: v) (i + 1) = x :: inc v i := by simp [inc]
    have e2 : inc (y :: w) (i + 1) = y :: inc w i := by simp [inc]
    rw [e, e2, List.cons_lt_cons_iff, List.cons_lt_cons_iff, ih]
  | _ :: _, [], _, _, hl => by simp at hl
theorem dec_ex : ∀ (w : List Nat) (i : Nat), i < w.length → 0 < w[i]?.getD 0 → ∃ u, u.length = w.length ∧ inc u i = w
  | x :: w, 0, _, h => by
    refine ⟨(x - 1) :: w, rfl, ?_⟩
    simp only [List.getElem?_cons_zero, Option.getD_some] at h
    simp [inc]; omega
  | x :: w, i + 1, hi, h => by
    obtain ⟨u, h1, h2⟩ := dec_ex w i (by simpa using hi) (by simpa using h)
    refine ⟨x :: u, by simp [h1], ?_⟩
    have e : inc (x :: u) (i + 1) = x :: inc u i := by simp [inc]
    rw [e, h2]
theorem dot_pos : ∀ (w cs : List Nat), w.length = cs.length → 0 < dot w cs → ∃ i, i < w.length ∧ 0 < w[i]?.getD 0
  | [], _, _, h => by simp [dot] at h
  | x :: w, [], hl, _ => by simp at hl
  | x :: w, c :: cs, hl, h => by
    rw [dot] at h
    by_cases hx : 0 < x
    · exact ⟨0, by simp, by simpa using hx⟩
    · have : x = 0 := by omega
      subst this
      obtain ⟨i, h1, h2⟩ := dot_pos w cs (by simpa using hl) (by simpa using h)
      exact ⟨i + 1, by simpa using h1, by simpa using h2⟩
theorem dot_zeros : ∀ cs : List Nat, dot (List.replicate cs.length 0) cs = 0
  | [] => rfl
  | c :: cs => by rw [List.length_cons, List.replicate_succ, dot, dot_zeros cs]; simp
theorem zeros_of_sum : ∀ w : List Nat, w.sum = 0 → w = List.replicate w.length 0
  | [], _ => rfl
  | x :: w, h => by
    rw [List.sum_cons] at h
    rw [List.length_cons, List.replicate_succ, ← zeros_of_sum w (by omega)]
    congr 1; omega

/-- o is what is best for a: none, or the fewest coins, and of those the counts that come first -/
def IsB (cs : List Nat) (a : Nat) : Option (Nat × List Nat) → Prop
  | none => ∀ w, w.length = cs.length → dot w cs ≠ a
  | some (n, v) => v.length = cs.length ∧ dot v cs = a ∧ v.sum = n ∧ ∀ w, w.length = cs.length → dot w cs = a → ¬ bef (w.sum, w) (n, v)
theorem IsB.uniq {cs : List Nat} {a : Nat} {o o' : Option (Nat × List Nat)} (h : IsB cs a o) (h' : IsB cs a o') : o = o' := by
  match o, o', h, h' with
  | none, none, _, _ => rfl
  | none, some (n, v), h, h' => exact absurd h'.2.1 (h v h'.1)
  | some (n, v), none, h, h' => exact absurd h.2.1 (h' v h.1)
  | some (n, v), some (m, w), h, h' =>
    obtain ⟨h1, h2, h3, h4⟩ := h
    obtain ⟨k1, k2, k3, k4⟩ := h'
    have a := h4 w k1 k2
    have b := k4 v h1 h2
    rw [k3] at a
    rw [h3] at b
    rw [bef_same a b]
theorem IsB.zero {cs : List Nat} : IsB cs 0 (some (0, List.replicate cs.length 0)) := by
  refine ⟨by simp, dot_zeros cs, by simp, fun w hl _ => ?_⟩
  rintro (h | ⟨h1, h2⟩)
  · exact absurd h (Nat.not_lt_zero _)
  · have := zeros_of_sum w h1
    rw [this, hl] at h2
    exact List.lt_irrefl _ h2
/-- the rows for a -/
def rowsB (cs : List Nat) (t : List (Option (Nat × List Nat))) (a : Nat) : List (Nat × List Nat) :=
  (List.range cs.length).filterMap fun i => if cs[i]?.getD 0 ≤ a then ((t[a - cs[i]?.getD 0]?).join).map fun p => (p.1 + 1, inc p.2 i) else none
theorem rowsB_mem {cs : List Nat} {t : List (Option (Nat × List Nat))} {a : Nat} {r : Nat × List Nat} (h : r ∈ rowsB cs t a) : ∃ i, i < cs.length ∧ cs[i]?.getD 0 ≤ a ∧ ∃ p, t[a - cs[i]?.getD 0]? = some (some p) ∧ r = (p.1 + 1, inc p.2 i) := by
  unfold rowsB at h
  obtain ⟨i, hi, e⟩ := List.mem_filterMap.mp h
  split at e
  · rename_i hc
    cases q : t[a - cs[i]?.getD 0]? with
    | none => rw [q] at e; cases e
    | some o =>
      rw [q] at e
      cases o with
      | none => cases e
      | some p => cases e; exact ⟨i, List.mem_range.mp hi, hc, p, q, rfl⟩
  · cases e
theorem rowsB_in {cs : List Nat} {t : List (Option (Nat × List Nat))} {a i : Nat} {p : Nat × List Nat} (hi : i < cs.length) (hc : cs[i]?.getD 0 ≤ a) (h : t[a - cs[i]?.getD 0]? = some (some p)) : (p.1 + 1, inc p.2 i) ∈ rowsB cs t a := by
  unfold rowsB
  exact List.mem_filterMap.mpr ⟨i, List.mem_range.mpr hi, by rw [if_pos hc, h]; rfl⟩
theorem IsB.step {cs : List Nat} {t : List (Option (Nat × List Nat))} {a : Nat} (hp : ∀ i, i < cs.length → 0 < cs[i]?.getD 0) (ha : 0 < a) (ht : ∀ b, b < a → ∃ o, t[b]? = some o ∧ IsB cs b o) {o : Option (Nat × List Nat)}
    (ho : match o with
      | none => rowsB cs t a = []
      | some m => m ∈ rowsB cs t a ∧ ∀ r ∈ rowsB cs t a, ¬ bef r m) : IsB cs a o := by
  have key : ∀ w, w.length = cs.length → dot w cs = a → ∃ r ∈ rowsB cs t a, ¬ bef (w.sum, w) r := by
    intro w hl hd
    obtain ⟨i, h1, h2⟩ := dot_pos w cs hl (by omega)
    obtain ⟨u, h3, h4⟩ := dec_ex w i h1 h2
    have h5 := inc_dot u cs i (by omega) (by omega)
    have h6 := inc_sum u i (by omega)
    rw [h4] at h5 h6
    have hc := hp i (by omega)
    obtain ⟨o, q1, q2⟩ := ht (a - cs[i]?.getD 0) (by omega)
    match o, q2 with
    | none, q2 => exact absurd (by omega) (q2 u (by omega))
    | some (n, v), q2 =>
      obtain ⟨k1, k2, k3, k4⟩ := q2
      refine ⟨_, rowsB_in (by omega) (by omega) q1, fun hb => k4 u (by omega) (by omega) ?_⟩
      rcases hb with hb | ⟨e, hb⟩
      · refine .inl ?_
        have hb : w.sum < n + 1 := hb
        show u.sum < n
        omega
      · have e : w.sum = n + 1 := e
        have hb : w < inc v i := hb
        rw [← h4] at hb
        exact .inr ⟨show u.sum = n by omega, (inc_lt u v i (by omega) (by omega)).mp hb⟩
  match o, ho with
  | none, ho =>
    intro w hl hd
    obtain ⟨r, h1, _⟩ := key w hl hd
    rw [ho] at h1; cases h1
  | some (n, v), ho =>
    obtain ⟨h1, h2⟩ := ho
    obtain ⟨i, hi, hc, p, q, e⟩ := rowsB_mem h1
    cases e
    have hcp := hp i hi
    obtain ⟨o', q1, q2⟩ := ht (a - cs[i]?.getD 0) (by omega)
    rw [q] at q1; cases q1
    obtain ⟨n', v'⟩ := p
    obtain ⟨k1, k2, k3, k4⟩ := q2
    have hv : i < v'.length := by omega
    refine ⟨by rw [inc_length]; exact k1, by rw [inc_dot _ _ _ hv k1, k2]; omega, by show (inc v' i).sum = n' + 1; rw [inc_sum _ _ hv, k3], fun w hl hd => ?_⟩
    obtain ⟨r, r1, r2⟩ := key w hl hd
    exact bef_trans (h2 r r1) r2
end K78

end
section
namespace K78
open PySem PySem.W L2 L3
abbrev Bt := Option (Nat × Tup Nat)
def toT (p : Nat × List Nat) : Nat × Tup Nat := (p.1, ⟨p.2⟩)
theorem cutD_to {α : Type} (xs : List α) (i : Nat) : cutD xs none (some (i : Int)) = xs.take i := by
  unfold cutD
  rw [HT.sIx_none, HT.sIx_nat, List.drop_zero, Nat.sub_zero, List.take_eq_take_iff]
  simp
theorem cutD_from {α : Type} (xs : List α) (i : Nat) : cutD xs (some (i : Int)) none = xs.drop i := by
  unfold cutD
  rw [HT.sIx_none, HT.sIx_nat, List.take_of_length_le (by simp)]
  by_cases h : i ≤ xs.length
  · rw [Nat.min_eq_left h]
  · rw [List.drop_eq_nil_of_le (by omega), List.drop_eq_nil_of_le (by omega)]
theorem cutD_from1 {α : Type} (xs : List α) (i : Nat) : cutD xs (some ((i : Int) + 1)) none = xs.drop (i + 1) := cutD_from xs (i + 1)
theorem inc_cut (v : List Nat) (i : Nat) (h : i < v.length) : v.take i ++ ([v[i]?.getD 0 + 1] ++ v.drop (i + 1)) = inc v i := by
  unfold inc
  rw [List.set_eq_take_append_cons_drop, if_pos h]; rfl
/-- the row for the i-th coin -/
def rowB (cs : List Nat) (t : List (Option (Nat × List Nat))) (a i : Nat) : Option (Nat × List Nat) :=
  if cs[i]?.getD 0 ≤ a then ((t[a - cs[i]?.getD 0]?).join).map fun p => (p.1 + 1, inc p.2 i) else none
theorem few_in (cs : List Nat) (T R : List D) (a i most c : Nat) (hi : cs[i]? = some c) (o : Option (Nat × List Nat)) (hT : c ≤ a → T[a - c]? = some (tD (o.map toT))) (hv : ∀ p, o = some p → i < p.2.length ∧ p.2.length ≤ 100) (hr : R.length ≤ 100) (j1 j2 : Sl) :
    ∃ j3, b__law_few_1 [.val (tD (Tup.mk cs)), .val (tD most), .own (.list T), .val (tD a), .own (.list R), .val (tD i), j2] =
      .ok (.nx, [.val (tD (Tup.mk cs)), .val (tD most), .own (.list T), .val (tD a), .own (.list (pushO R ((if c ≤ a then o.map fun p => (p.1 + 1, inc p.2 i) else none).map fun p => tD (toT p)))), .val (tD i), j3]) := by
  have hc : (cs.map (tD : Nat → D))[i]? = some (.int (c : Int)) := by simp [hi, tD_nat]
  simp only [tD_tup, tD_nat]
  generalize cs.map (tD : Nat → D) = C at hc
  by_cases h : c ≤ a
  · have e : (a : Int) - (c : Int) = ((a - c : Nat) : Int) := by omega
    have hT := hT h
    rw [if_pos h]
    match o, hv, hT with
    | none, _, hT =>
      refine ⟨.val .none, ?_⟩
      have hT : T[a - c]? = some .none := hT
      simp [b__law_few_1, idxG, atI_nat', hc, leG, h, subG, e, hT, isntG]
    | some (n, v), hv, hT =>
      obtain ⟨h1, h2⟩ := hv _ rfl
      refine ⟨.val (tD (toT (n, v))), ?_⟩
      have hT : T[a - c]? = some (.tuple [.int (n : Int), .tuple (v.map tD)]) := hT
      have hvi : (v.map (tD : Nat → D))[i]? = some (.int ((v[i]?.getD 0 : Nat) : Int)) := by simp [List.getElem?_eq_getElem h1, tD_nat]
      have hin : (v.map (tD : Nat → D)).take i ++ ([.int ((v[i]?.getD 0 : Nat) + 1 : Int)] ++ (v.map (tD : Nat → D)).drop (i + 1)) = (inc v i).map tD := by
        rw [← inc_cut v i h1, List.map_append, List.map_append, List.map_take, List.map_drop]; rfl
      have hl : (v.map (tD : Nat → D)).length ≤ 100 := by simpa using h2
      have hw : tD (toT (n + 1, inc v i)) = .tuple [.int ((n : Int) + 1), .tuple ((inc v i).map tD)] := rfl
      have hw2 : tD (toT (n, v)) = .tuple [.int (n : Int), .tuple (v.map tD)] := rfl
      simp only [Option.map_some, pushO_some]
      rw [hw, hw2, ← hin]
      generalize v.map (tD : Nat → D) = W at hvi hl hT
      have b1 : min i W.length + 1 ≤ 16777216 := by omega
      have b2 : min i W.length + 1 + (W.length - (i + 1)) ≤ 16777216 := by omega
      have b3 : R.length < 16777216 := by omega
      simp [b__law_few_1, idxG, atI_nat', hc, leG, h, subG, e, hT, isntG, addG, hvi, cutG, cutD_to, cutD_from1, mAppend, tyD, mutS, sizeLine_eq', b1, b2, b3]
  · refine ⟨.val .none, ?_⟩
    rw [if_neg h]
    simp [b__law_few_1, idxG, atI_nat', hc, leG, h, isntG]

/-- a table as data -/
def tabD (t : List (Option (Nat × List Nat))) : List D := t.map fun o => tD (o.map toT)
def Tab (cs : List Nat) (t : List (Option (Nat × List Nat))) : Prop := ∀ b o, t[b]? = some o → IsB cs b o
def rowsD (rs : List (Nat × List Nat)) : List D := rs.map fun p => tD (toT p)
theorem rowsB_fm (cs : List Nat) (t : List (Option (Nat × List Nat))) (a : Nat) : rowsB cs t a = (List.range cs.length).filterMap (rowB cs t a) := rfl
/-- the inner loop -/
theorem few_rows (cs : List Nat) (t : List (Option (Nat × List Nat))) (a most : Nat) (hz : cs.length ≤ 100) (ht : Tab cs t) (hl : t.length = a) (hp : ∀ i, i < cs.length → 0 < cs[i]?.getD 0) (j1 j2 : Sl) :
    ∃ j3 j4, sLoop (gN 5) b__law_few_1 ((List.range cs.length).map (fun i : Nat => (tD i : D))) [.val (tD (Tup.mk cs)), .val (tD most), .own (.list (tabD t)), .val (tD a), .own (.list []), j1, j2] =
      .ok (.nx, [.val (tD (Tup.mk cs)), .val (tD most), .own (.list (tabD t)), .val (tD a), .own (.list (rowsD (rowsB cs t a))), j3, j4]) := by
  have q := loop_pre (g := gN 5) (b := b__law_few_1) (fun i : Nat => (tD i : D))
    (fun (rs : List (Nat × List Nat)) ρ => ∃ j1 j2, ρ = [.val (tD (Tup.mk cs)), .val (tD most), .own (.list (tabD t)), .val (tD a), .own (.list (rowsD rs)), j1, j2])
    (fun rs i => pushO rs (rowB cs t a i)) (List.range cs.length) [] _ ⟨j1, j2, rfl⟩ fun pre i post ρ hpre hst => by
      obtain ⟨j1, j2, rfl⟩ := hst
      have hi : i < cs.length := List.mem_range.mp (by rw [hpre]; simp)
      have hc : cs[i]? = some cs[i] := List.getElem?_eq_getElem hi
      have hpl : pre.length ≤ 100 := by
        have := congrArg List.length hpre
        simp at this; omega
      have hcp := hp i hi
      rw [hc] at hcp
      simp only [Option.getD_some] at hcp
      have hrs : (rowsD (pre.foldl (fun rs i => pushO rs (rowB cs t a i)) [])).length ≤ 100 := by
        rw [foldl_opt]
        unfold rowsD
        simp only [List.nil_append, List.length_map]
        exact Nat.le_trans (List.length_filterMap_le _ _) hpl
      generalize pre.foldl (fun rs i => pushO rs (rowB cs t a i)) [] = rs at hrs ⊢
      have hT : ∀ b, b < a → (tabD t)[b]? = some (tD ((t[b]?.join).map toT)) := fun b hb => by
        unfold tabD
        rw [List.getElem?_map, List.getElem?_eq_getElem (by omega)]; rfl
      obtain ⟨j3, e⟩ := few_in cs (tabD t) (rowsD rs) a i most cs[i] hc (t[a - cs[i]]?.join) (fun h => hT _ (by omega)) (fun p hp' => by
        cases q : t[a - cs[i]]? with
        | none => rw [q] at hp'; cases hp'
        | some o =>
          rw [q] at hp'
          have hp' : o = some p := hp'
          subst hp'
          have := (ht _ _ q).1
          omega) hrs j1 j2
      have e2 : rowsD (pushO rs (rowB cs t a i)) = pushO (rowsD rs) ((if cs[i] ≤ a then ((t[a - cs[i]]?).join).map (fun p => (p.1 + 1, inc p.2 i)) else none).map fun p => tD (toT p)) := by
        unfold rowsD rowB
        rw [pushO_map, hc]; rfl
      rw [← e2] at e
      exact ⟨_, _, rfl, e, _, _, rfl⟩
  obtain ⟨ρ', h1, j3, j4, h2⟩ := q
  subst h2
  refine ⟨j3, j4, ?_⟩
  rw [foldl_opt] at h1
  exact h1

theorem lt_toT (p q : Nat × Tup Nat) : DatumOrd.lt p q = decide (bef (p.1, p.2.items) (q.1, q.2.items)) := by
  show (if p.1 = q.1 then listLt p.2.items q.2.items else decide (p.1 < q.1)) = _
  unfold bef
  by_cases h : p.1 = q.1
  · rw [if_pos h, listLt_nat]; exact decide_eq_decide.mpr (by simp [h])
  · rw [if_neg h]; exact decide_eq_decide.mpr (by simp [h])
theorem rowsD_t (R : List (Nat × List Nat)) : rowsD R = (R.map toT).map tD := by unfold rowsD; rw [List.map_map]; rfl
theorem bef_asymm {p q : Nat × List Nat} (h : bef p q) : ¬ bef q p := by
  rcases h with h | ⟨h1, h2⟩
  · rintro (k | ⟨k, _⟩) <;> omega
  · rintro (k | ⟨_, k⟩)
    · omega
    · exact List.lt_irrefl _ (List.lt_trans h2 k)
theorem minB (R : List (Nat × List Nat)) (h : R ≠ []) : ∃ m, m ∈ R ∧ (∀ r ∈ R, ¬ bef r m) ∧ minG (.list (rowsD R)) = some (.val (tD (toT m))) := by
  match R, h with
  | r :: rs, _ =>
    have q := minOf_spec (fun a b : Nat × Tup Nat => ¬ bef (b.1, b.2.items) (a.1, a.2.items)) (fun a b => ⟨fun e => ?_, fun e => ?_⟩) (fun a => bef_irrefl _) (fun a b c h1 h2 => bef_trans h1 h2) (toT r) (rs.map toT)
    · obtain ⟨q1, q2⟩ := q
      rw [← List.map_cons] at q1 q2
      obtain ⟨m, hm, e⟩ := List.mem_map.mp q1
      refine ⟨m, hm, fun r' hr => ?_, ?_⟩
      · have := q2 (toT r') (List.mem_map.mpr ⟨r', hr, rfl⟩)
        rw [← e] at this
        exact this
      · rw [rowsD_t, List.map_cons, List.map_cons, minG_list, e]
    · rw [lt_toT, decide_eq_true_eq] at e
      exact bef_asymm e
    · rw [lt_toT, decide_eq_false_iff_not] at e
      exact e
theorem few_out (cs : List Nat) (t : List (Option (Nat × List Nat))) (a most : Nat) (hz : cs.length ≤ 100) (ht : Tab cs t) (hl : t.length = a) (ha : 0 < a) (hm : a < 16777216) (hp : ∀ i, i < cs.length → 0 < cs[i]?.getD 0) (j1 j2 j3 : Sl) :
    ∃ o j4 j5 j6, IsB cs a o ∧ b__law_few_2 [.val (tD (Tup.mk cs)), .val (tD most), .own (.list (tabD t)), .val (tD a), j1, j2, j3] = .ok (.nx, [.val (tD (Tup.mk cs)), .val (tD most), .own (.list (tabD (t ++ [o]))), .val (tD a), j4, j5, j6]) := by
  obtain ⟨k1, k2, h1⟩ := few_rows cs t a most hz ht hl hp j2 j3
  have hstep : ∀ o, (match o with | none => rowsB cs t a = [] | some m => m ∈ rowsB cs t a ∧ ∀ r ∈ rowsB cs t a, ¬ bef r m) → IsB cs a o := fun o ho => IsB.step hp ha (fun b hb => ⟨_, List.getElem?_eq_getElem (by omega), ht _ _ (List.getElem?_eq_getElem (by omega))⟩) ho
  have hlen : (cs.map (tD : Nat → D)).length = cs.length := List.length_map _
  have f1 := rng1_nat (n := cs.length) (by omega)
  have hn : ∀ R : List (Nat × List Nat), neG (.list (rowsD R)) (.list []) = some (.val (.bool (decide (R ≠ [])))) := fun R => by
    rw [rowsD_t]
    have := neG_t (α := List (Nat × Tup Nat)) (R.map toT) []
    rw [tD_list, tD_list] at this
    rw [List.map_nil] at this
    rw [this]; simp
  have hT : (tabD t).length < 16777216 := by unfold tabD; rw [List.length_map]; omega
  have run : ∀ (e : D), (rowsB cs t a = [] → e = .none) → (rowsB cs t a ≠ [] → minG (.list (rowsD (rowsB cs t a))) = some (.val e)) → ∃ j4 j5 j6, b__law_few_2 [.val (tD (Tup.mk cs)), .val (tD most), .own (.list (tabD t)), .val (tD a), j1, j2, j3] = .ok (.nx, [.val (tD (Tup.mk cs)), .val (tD most), .own (.list (tabD t ++ [e])), .val (tD a), j4, j5, j6]) := by
    intro e e1 e2
    have hf : sFor (iK rng1 (aCons (eOp1 lenG (oVar 0)) aNil)) (gN 5) b__law_few_1 [.val (tD (Tup.mk cs)), .val (tD most), .own (.list (tabD t)), .val (tD a), .own (.list []), j2, j3] = .ok (.nx, [.val (tD (Tup.mk cs)), .val (tD most), .own (.list (tabD t)), .val (tD a), .own (.list (rowsD (rowsB cs t a))), k1, k2]) := by
      rw [← h1]
      refine sFor_run ?_
      simp [tD_tup, lenG, f1]
    simp only [tD_tup, tD_nat] at hf ⊢
    by_cases hR : rowsB cs t a = []
    · refine ⟨.own (.list (rowsD (rowsB cs t a))), k1, k2, ?_⟩
      have := e1 hR
      subst this
      have hne : decide (rowsB cs t a ≠ []) = false := decide_eq_false (by simp [hR])
      simp [b__law_few_2, hf, hn, hne, mAppend, tyD, mutS, sizeLine_eq', hT, hR]
    · refine ⟨.own (.list (rowsD (rowsB cs t a))), k1, k2, ?_⟩
      have e2 := e2 hR
      simp [b__law_few_2, hf, hn, hR, mAppend, tyD, mutS, sizeLine_eq', hT, e2]
  by_cases hR : rowsB cs t a = []
  · obtain ⟨j4, j5, j6, h⟩ := run .none (fun _ => rfl) fun h => absurd hR h
    exact ⟨none, j4, j5, j6, hstep none hR, by rw [h]; unfold tabD; rw [List.map_append]; rfl⟩
  · obtain ⟨m, m1, m2, m3⟩ := minB _ hR
    obtain ⟨j4, j5, j6, h⟩ := run (tD (toT m)) (fun h => absurd h hR) fun _ => m3
    exact ⟨some m, j4, j5, j6, hstep (some m) ⟨m1, m2⟩, by rw [h]; unfold tabD; rw [List.map_append]; rfl⟩

theorem Tab.snoc {cs : List Nat} {t : List (Option (Nat × List Nat))} {o : Option (Nat × List Nat)} (h : Tab cs t) (ho : IsB cs t.length o) : Tab cs (t ++ [o]) := fun b o' hb => by
  by_cases h1 : b < t.length
  · rw [List.getElem?_append_left h1] at hb; exact h b o' hb
  · rw [List.getElem?_append_right (by omega)] at hb
    have e : b - t.length = 0 := by
      cases q : b - t.length with
      | zero => rfl
      | succ k => rw [q] at hb; cases hb
    rw [e] at hb
    cases hb
    have : b = t.length := by omega
    rw [this]; exact ho
/-- positive, few -/
structure Coins (cs : List Nat) : Prop where
  ne : cs ≠ []
  le : cs.length ≤ 100
  pos : ∀ i, i < cs.length → 0 < cs[i]?.getD 0
theorem few_ok {cs : List Nat} (hc : Coins cs) (most : Nat) (hm : most < 10000000) : ∃ t, t.length = most + 1 ∧ Tab cs t ∧ m__law_few [.val (tD (Tup.mk cs)), .val (tD most)] = .ok (.own (.list (tabD t)), none) := by
  have hl : 0 < cs.length := List.length_pos_iff.mpr hc.ne
  have hle := hc.le
  have hrep : (List.replicate cs.length (PyData.int 0)) = (List.replicate cs.length 0).map (tD : Nat → D) := by rw [List.map_replicate]; rfl
  have mul : mulG (.tuple [.int 0]) (.int (cs.length : Int)) = some (.val (.tuple ((List.replicate cs.length 0).map (tD : Nat → D)))) := by
    unfold mulG
    dsimp only
    rw [if_pos ⟨by simp, by omega, by omega, by simp⟩, ← hrep]
    simp
  have h0 : tabD [some (0, List.replicate cs.length 0)] = [.tuple [.int 0, .tuple ((List.replicate cs.length 0).map (tD : Nat → D))]] := rfl
  have T0 : Tab cs [some (0, List.replicate cs.length 0)] := fun b o hb => by
    cases b with
    | zero => cases hb; exact IsB.zero
    | succ b => cases hb
  have q := loop_ix (g := gN 3) (b := b__law_few_2) (fun i (t : List (Option (Nat × List Nat))) ρ => t.length = i + 1 ∧ Tab cs t ∧ ∃ j0 j1 j2 j3, ρ = [.val (tD (Tup.mk cs)), .val (tD most), .own (.list (tabD t)), j0, j1, j2, j3])
    ((List.range' 1 most).map (fun i : Nat => (tD i : D))) most 0 [some (0, List.replicate cs.length 0)] _ (by simp) ⟨rfl, T0, .no, .no, .no, .no, rfl⟩ fun i t ρ d hd hst => by
      obtain ⟨hl1, hT, j0, j1, j2, j3, rfl⟩ := hst
      rw [List.getElem?_map] at hd
      cases e : (List.range' 1 most)[i]? with
      | none => rw [e] at hd; cases hd
      | some a =>
        rw [e] at hd
        cases hd
        have hi : i < most := by
          have := (List.getElem?_eq_some_iff.mp e).1
          simpa using this
        rw [List.getElem?_range' hi] at e
        cases e
        obtain ⟨o, j4, j5, j6, ho, hb⟩ := few_out cs t (1 + 1 * i) most hc.le hT (by omega) (by omega) (by omega) hc.pos j1 j2 j3
        exact ⟨_, _, t ++ [o], rfl, hb, by simp; omega, hT.snoc (by rw [show t.length = 1 + 1 * i by omega]; exact ho), _, _, _, _, rfl⟩
  obtain ⟨ρ', t, h1, h2, h3, j0, j1, j2, j3, rfl⟩ := q
  rw [List.drop_zero] at h1
  rw [List.length_map, List.length_range'] at h2
  refine ⟨t, h2, h3, ?_⟩
  have r2 := rng2_one (n := most) (by omega)
  have hf : sFor (iK rng2 (aCons (eC (.int 1)) (aCons (eOp2 addG (oVar 1) (oE (eC (.int 1)))) aNil))) (gN 3) b__law_few_2 [.val (tD (Tup.mk cs)), .val (tD most), .own (.list (tabD [some (0, List.replicate cs.length 0)])), .no, .no, .no, .no] = .ok (.nx, [.val (tD (Tup.mk cs)), .val (tD most), .own (.list (tabD t)), j0, j1, j2, j3]) := by
    rw [← h1]
    refine sFor_run ?_
    simp [tD_nat, addG, r2]
  rw [h0] at hf
  simp only [tD_tup, tD_nat] at hf ⊢
  generalize (List.replicate cs.length 0).map (tD : Nat → D) = Z at mul hf
  have hz : (1 : Nat) ≤ 16777216 := by decide
  have hz2 : (2 : Nat) ≤ 16777216 := by decide
  simp [m__law_few, b__law_few, lenG, mul, hf, sizeLine_eq', hz, hz2]
end K78

end
section
namespace K78
open PySem PySem.W L2 L3
/-- a table of counts as data -/
def tabN (t : List (Option (Nat × List Nat))) : List D := t.map fun o => tD (o.map Prod.fst)
def rowN (t : List (Option (Nat × List Nat))) (a c : Nat) : Option Nat := if c ≤ a then ((t[a - c]?).join).map fun p => p.1 + 1 else none
def rowsN (cs : List Nat) (t : List (Option (Nat × List Nat))) (a : Nat) : List Nat := cs.filterMap (rowN t a)
theorem rowsN_eq (cs : List Nat) (t : List (Option (Nat × List Nat))) (a : Nat) : rowsN cs t a = (rowsB cs t a).map Prod.fst := by
  rw [rowsB_fm, List.map_filterMap]
  have e : cs = (List.range cs.length).map fun i => cs[i]?.getD 0 := by
    refine List.ext_getElem? fun i => ?_
    rw [List.getElem?_map]
    by_cases h : i < cs.length
    · rw [List.getElem?_range h, List.getElem?_eq_getElem h]
      simp [List.getElem?_eq_getElem h]
    · rw [List.getElem?_eq_none (by omega), List.getElem?_eq_none (by simpa using h)]; rfl
  unfold rowsN
  conv => lhs; rw [e]
  rw [List.filterMap_map]
  congr 1
  funext i
  show rowN t a (cs[i]?.getD 0) = (rowB cs t a i).map Prod.fst
  unfold rowN rowB
  split
  · rw [Option.map_map]; rfl
  · rfl
theorem fm_filter {α β : Type} (f : α → Option β) (d : β) : ∀ xs : List α, xs.filterMap f = (xs.filter fun x => (f x).isSome).map fun x => (f x).getD d
  | [] => rfl
  | x :: xs => by
    rw [List.filterMap_cons, List.filter_cons]
    cases h : f x with
    | none => simpa using fm_filter f d xs
    | some y => simp only [Option.isSome_some, if_pos, List.map_cons, h, Option.getD_some]; rw [fm_filter f d xs]
theorem tabN_at {t : List (Option (Nat × List Nat))} {b : Nat} (h : b < t.length) : (tabN t)[b]? = some (tD (((t[b]?).join).map Prod.fst)) := by
  unfold tabN
  rw [List.getElem?_map, List.getElem?_eq_getElem h]; rfl
/-- the comprehension -/
theorem fewest_rows (cs : List Nat) (t : List (Option (Nat × List Nat))) (a am : Nat) (hz : cs.length ≤ 100) (hl : t.length = a) (hp : ∀ i, i < cs.length → 0 < cs[i]?.getD 0) (j1 j2 : Sl) :
    cLoop (gN 5) (tAnd (tE (eOp2 leG (oVar 5) (oVar 3))) (tE (eOp2 isntG (oE (eOp2 idxG (oVar 2) (oE (eOp2 subG (oVar 3) (oVar 5))))) (oE (eC .none))))) (eOp2 addG (oE (eOp2 idxG (oVar 2) (oE (eOp2 subG (oVar 3) (oVar 5))))) (oE (eC (.int 1)))) [5]
      (cs.map (tD : Nat → D)) [.val (tD (Tup.mk cs)), .val (tD am), .own (.list (tabN t)), .val (tD a), j1, .no] =
      .ok ((rowsN cs t a).map tD, [.val (tD (Tup.mk cs)), .val (tD am), .own (.list (tabN t)), .val (tD a), j1, .no]) := by
  have q := comp_const (g := gN 5) (vs := [5])
    (t := (tAnd (tE (eOp2 leG (oVar 5) (oVar 3))) (tE (eOp2 isntG (oE (eOp2 idxG (oVar 2) (oE (eOp2 subG (oVar 3) (oVar 5))))) (oE (eC .none))))))
    (f := (eOp2 addG (oE (eOp2 idxG (oVar 2) (oE (eOp2 subG (oVar 3) (oVar 5))))) (oE (eC (.int 1)))))
    (ρ := [.val (tD (Tup.mk cs)), .val (tD am), .own (.list (tabN t)), .val (tD a), j1, .no])
    (tD : Nat → D) (fun x => (rowN t a x).isSome) (fun x => tD ((rowN t a x).getD 0)) cs ?_
  · rw [q]
    unfold rowsN
    rw [fm_filter _ 0, List.map_map]; rfl
  · intro c hc
    have hcp : 0 < c := by
      obtain ⟨i, hi, e⟩ := List.mem_iff_getElem.mp hc
      have := hp i hi
      rw [List.getElem?_eq_getElem hi, e] at this
      exact this
    simp only [tD_tup, tD_nat]
    generalize cs.map (tD : Nat → D) = C
    by_cases h : c ≤ a
    · have e : (a : Int) - (c : Int) = ((a - c : Nat) : Int) := by omega
      have hT := tabN_at (t := t) (b := a - c) (by omega)
      generalize tabN t = T at hT
      unfold rowN
      rw [if_pos h]
      cases hq : (t[a - c]?).join with
      | none =>
        rw [hq] at hT
        have hT : T[a - c]? = some .none := hT
        refine ⟨_, [.val (.tuple C), .val (.int am), .own (.list T), .val (.int a), j1, .val (.int c)], rfl, ?_, fun h => by simp at h, fun _ => rfl⟩
        simp [leG, h, idxG, subG, e, atI_nat', hT, isntG, isNoneD]
      | some p =>
        rw [hq] at hT
        have hT : T[a - c]? = some (.int (p.1 : Int)) := hT
        refine ⟨_, [.val (.tuple C), .val (.int am), .own (.list T), .val (.int a), j1, .val (.int c)], rfl, ?_, fun _ => ⟨.val (.int ((p.1 + 1 : Nat) : Int)), [.val (.tuple C), .val (.int am), .own (.list T), .val (.int a), j1, .val (.int c)], ?_, rfl, rfl⟩, fun h => by simp at h⟩
        · simp [leG, h, idxG, subG, e, atI_nat', hT, isntG, isNoneD]
        · simp [idxG, subG, e, atI_nat', hT, addG]
    · unfold rowN
      rw [if_neg h]
      refine ⟨_, [.val (.tuple C), .val (.int am), .own (.list (tabN t)), .val (.int a), j1, .val (.int c)], rfl, ?_, fun h => by simp at h, fun _ => rfl⟩
      simp [leG, h]
theorem minN (R : List Nat) (h : R ≠ []) : ∃ m, m ∈ R ∧ (∀ r ∈ R, m ≤ r) ∧ minG (.list (R.map tD)) = some (.val (.int (m : Int))) := by
  match R, h with
  | r :: rs, _ =>
    obtain ⟨q1, q2⟩ := minOf_spec (fun a b : Nat => a ≤ b) (fun a b => ⟨fun e => Nat.le_of_lt (of_decide_eq_true (p := b < a) e), fun e => Nat.not_lt.mp (of_decide_eq_false (p := b < a) e)⟩) (fun a => Nat.le_refl _) (fun a b c h1 h2 => Nat.le_trans h1 h2) r rs
    exact ⟨minOf r rs, q1, q2, by rw [List.map_cons, minG_list]; rfl⟩
theorem bestB (R : List (Nat × List Nat)) (h : R ≠ []) : ∃ m, m ∈ R ∧ (∀ r ∈ R, ¬ bef r m) := by
  obtain ⟨m, h1, h2, _⟩ := minB R h
  exact ⟨m, h1, h2⟩
theorem fewest_out (cs : List Nat) (t : List (Option (Nat × List Nat))) (a am : Nat) (hz : cs.length ≤ 100) (ht : Tab cs t) (hl : t.length = a) (ha : 0 < a) (hm : a < 16777216) (hp : ∀ i, i < cs.length → 0 < cs[i]?.getD 0) (j1 : Sl) :
    ∃ o j4, IsB cs a o ∧ b_fewest_to_1 [.val (tD (Tup.mk cs)), .val (tD am), .own (.list (tabN t)), .val (tD a), j1, .no] = .ok (.nx, [.val (tD (Tup.mk cs)), .val (tD am), .own (.list (tabN (t ++ [o]))), .val (tD a), j4, .no]) := by
  have h1 := fewest_rows cs t a am hz hl hp j1 .no
  have hstep : ∀ o, (match o with | none => rowsB cs t a = [] | some m => m ∈ rowsB cs t a ∧ ∀ r ∈ rowsB cs t a, ¬ bef r m) → IsB cs a o := fun o ho => IsB.step hp ha (fun b hb => ⟨_, List.getElem?_eq_getElem (by omega), ht _ _ (List.getElem?_eq_getElem (by omega))⟩) ho
  have hn : neG (.list ((rowsN cs t a).map tD)) (.list []) = some (.val (.bool (decide (rowsN cs t a ≠ [])))) := neG_t (α := List Nat) (rowsN cs t a) []
  have hT : (tabN t).length < 16777216 := by unfold tabN; rw [List.length_map]; omega
  have hlen : (rowsN cs t a).length ≤ 16777216 := by
    unfold rowsN
    exact Nat.le_trans (List.length_filterMap_le _ _) (by omega)
  have hlen2 : ((rowsN cs t a).map (tD : Nat → D)).length ≤ sizeLine := by rw [List.length_map]; exact hlen
  have run : ∀ (e : D), (rowsN cs t a = [] → e = .none) → (rowsN cs t a ≠ [] → minG (.list ((rowsN cs t a).map tD)) = some (.val e)) → ∃ j4, b_fewest_to_1 [.val (tD (Tup.mk cs)), .val (tD am), .own (.list (tabN t)), .val (tD a), j1, .no] = .ok (.nx, [.val (tD (Tup.mk cs)), .val (tD am), .own (.list (tabN t ++ [e])), .val (tD a), j4, .no]) := by
    intro e e1 e2
    have hc := eComp_run (it := iSeq (eVar 0)) (ρ := [.val (tD (Tup.mk cs)), .val (tD am), .own (.list (tabN t)), .val (tD a), j1, .no]) rfl h1 hlen2
    refine ⟨.own (.list ((rowsN cs t a).map tD)), ?_⟩
    unfold b_fewest_to_1
    generalize hg : eComp (iSeq (eVar 0)) (gN 5) _ _ [5] = f at hc
    simp only [tD_tup, tD_nat] at hc ⊢
    by_cases hR : rowsN cs t a = []
    · have := e1 hR
      subst this
      have hn0 : neG (.list []) (.list []) = some (.val (.bool false)) := neG_t (α := List Nat) [] []
      simp [hc, restE, keepS, hn0, mAppend, tyD, mutS, sizeLine_eq', hT, hR]
    · have e2 := e2 hR
      simp [hc, restE, keepS, hn, hR, mAppend, tyD, mutS, sizeLine_eq', hT, e2]
  have hiff : rowsN cs t a = [] ↔ rowsB cs t a = [] := by rw [rowsN_eq]; simp
  by_cases hR : rowsN cs t a = []
  · obtain ⟨j4, h⟩ := run .none (fun _ => rfl) fun h => absurd hR h
    exact ⟨none, j4, hstep none (hiff.mp hR), by rw [h]; unfold tabN; rw [List.map_append]; rfl⟩
  · obtain ⟨m, m1, m2⟩ := bestB (rowsB cs t a) (fun h => hR (hiff.mpr h))
    obtain ⟨n, n1, n2, n3⟩ := minN _ hR
    have e : n = m.1 := by
      refine Nat.le_antisymm (n2 _ (by rw [rowsN_eq]; exact List.mem_map.mpr ⟨m, m1, rfl⟩)) ?_
      rw [rowsN_eq] at n1
      obtain ⟨r, r1, r2⟩ := List.mem_map.mp n1
      rw [← r2]
      exact Nat.not_lt.mp fun z => m2 r r1 (.inl z)
    obtain ⟨j4, h⟩ := run (.int (n : Int)) (fun h => absurd h hR) fun _ => n3
    exact ⟨some m, j4, hstep (some m) ⟨m1, m2⟩, by rw [h, e]; unfold tabN; rw [List.map_append]; rfl⟩
structure Coin0 (cs : List Nat) : Prop where
  hi : ∀ i, i < cs.length → cs[i]?.getD 0 ≤ 1000
  le : cs.length ≤ 100
  pos : ∀ i, i < cs.length → 0 < cs[i]?.getD 0
theorem fewest_ok {cs : List Nat} (hc : Coin0 cs) (most : Nat) (hm : most < 10000000) : ∃ t, t.length = most + 1 ∧ Tab cs t ∧ m_fewest_to [.val (tD (Tup.mk cs)), .val (tD most)] = .ok (.own (.list (tabN t)), none) := by
  have hle := hc.le
  have T0 : Tab cs [some (0, List.replicate cs.length 0)] := fun b o hb => by
    cases b with
    | zero => cases hb; exact IsB.zero
    | succ b => cases hb
  have q := loop_ix (g := gN 3) (b := b_fewest_to_1) (fun i (t : List (Option (Nat × List Nat))) ρ => t.length = i + 1 ∧ Tab cs t ∧ ∃ j0 j1, ρ = [.val (tD (Tup.mk cs)), .val (tD most), .own (.list (tabN t)), j0, j1, .no])
    ((List.range' 1 most).map (fun i : Nat => (tD i : D))) most 0 [some (0, List.replicate cs.length 0)] _ (by simp) ⟨rfl, T0, .no, .no, rfl⟩ fun i t ρ d hd hst => by
      obtain ⟨hl1, hT, j0, j1, rfl⟩ := hst
      rw [List.getElem?_map] at hd
      cases e : (List.range' 1 most)[i]? with
      | none => rw [e] at hd; cases hd
      | some a =>
        rw [e] at hd
        cases hd
        have hi : i < most := by
          have := (List.getElem?_eq_some_iff.mp e).1
          simpa using this
        rw [List.getElem?_range' hi] at e
        cases e
        obtain ⟨o, j4, ho, hb⟩ := fewest_out cs t (1 + 1 * i) most hc.le hT (by omega) (by omega) (by omega) hc.pos j1
        exact ⟨_, _, t ++ [o], rfl, hb, by simp; omega, hT.snoc (by rw [show t.length = 1 + 1 * i by omega]; exact ho), _, _, rfl⟩
  obtain ⟨ρ', t, h1, h2, h3, j0, j1, rfl⟩ := q
  rw [List.drop_zero] at h1
  rw [List.length_map, List.length_range'] at h2
  refine ⟨t, h2, h3, ?_⟩
  have r2 := rng2_one (n := most) (by omega)
  have h0 : tabN [some (0, List.replicate cs.length 0)] = [.int 0] := rfl
  have hf : sFor (iK rng2 (aCons (eC (.int 1)) (aCons (eOp2 addG (oVar 1) (oE (eC (.int 1)))) aNil))) (gN 3) b_fewest_to_1 [.val (tD (Tup.mk cs)), .val (tD most), .own (.list (tabN [some (0, List.replicate cs.length 0)])), .no, .no, .no] = .ok (.nx, [.val (tD (Tup.mk cs)), .val (tD most), .own (.list (tabN t)), j0, j1, .no]) := by
    rw [← h1]
    refine sFor_run ?_
    simp [tD_nat, addG, r2]
  rw [h0] at hf
  simp only [tD_tup, tD_nat] at hf ⊢
  have hz : (1 : Nat) ≤ 16777216 := by decide
  simp [m_fewest_to, b_fewest_to, hf, sizeLine_eq', hz]
end K78

end
section
namespace K78
open PySem PySem.W L2 L3
theorem IsB.cons {c : Nat} {cs : List Nat} {A M k : Nat} {v : List Nat} (h : IsB (c :: cs) A (some (M, k :: v))) :
    k * c ≤ A ∧ k ≤ M ∧ IsB cs (A - k * c) (some (M - k, v)) ∧ ∀ j, j < k → ∀ r w, j * c ≤ A → IsB cs (A - j * c) (some (r, w)) → M < r + j := by
  obtain ⟨h1, h2, h3, h4⟩ := h
  rw [dot] at h2
  rw [List.sum_cons] at h3
  have h1 : v.length = cs.length := by simpa using h1
  refine ⟨by omega, by omega, ⟨h1, by omega, by omega, fun w hl hd hb => ?_⟩, fun j hj r w hA hw => ?_⟩
  · refine h4 (k :: w) (by simp [hl]) (by rw [dot]; omega) ?_
    rw [List.sum_cons]
    rcases hb with hb | ⟨e, hb⟩
    · have hb : w.sum < M - k := hb
      exact .inl (show k + w.sum < M by omega)
    · have e : w.sum = M - k := e
      exact .inr ⟨show k + w.sum = M by omega, List.cons_lt_cons_iff.mpr (.inr ⟨rfl, hb⟩)⟩
  · obtain ⟨w1, w2, w3, w4⟩ := hw
    have := h4 (j :: w) (by simp [w1]) (by rw [dot]; omega)
    rw [List.sum_cons] at this
    refine Nat.lt_of_not_le fun hle => this ?_
    by_cases e : r + j = M
    · exact .inr ⟨show j + w.sum = M by omega, List.cons_lt_cons_iff.mpr (.inl hj)⟩
    · exact .inl (show j + w.sum < M by omega)
theorem Coin0.tail {c : Nat} {cs : List Nat} (h : Coin0 (c :: cs)) : Coin0 cs :=
  ⟨fun i hi => by have := h.hi (i + 1) (by simpa using hi); simpa using this, by have := h.le; simp at this; omega, fun i hi => by have := h.pos (i + 1) (by simpa using hi); simpa using this⟩
theorem Coin0.head {c : Nat} {cs : List Nat} (h : Coin0 (c :: cs)) : 0 < c ∧ c ≤ 1000 := ⟨by simpa using h.pos 0 (by simp), by simpa using h.hi 0 (by simp)⟩
theorem Coin0.drop {cs : List Nat} (h : Coin0 cs) : ∀ i, Coin0 (cs.drop i)
  | i => ⟨fun j hj => by rw [List.getElem?_drop]; exact h.hi _ (by rw [List.length_drop] at hj; omega), by have := h.le; rw [List.length_drop]; omega, fun j hj => by rw [List.getElem?_drop]; exact h.pos _ (by rw [List.length_drop] at hj; omega)⟩
/-- the while -/
theorem first_while {C : List D} {cs : List Nat} {t : List (Option (Nat × List Nat))} {A M k c : Nat} (fnd : Sl) (j4 j8 : Sl) (hc : 0 < c ∧ c ≤ 1000) (hlen : t.length = A + 1) (ht : Tab cs t) (hA : k * c ≤ A)
    (hk : ∃ r w, IsB cs (A - k * c) (some (r, w)) ∧ r + k ≤ M) (hj : ∀ j, j < k → ∀ r w, j * c ≤ A → IsB cs (A - j * c) (some (r, w)) → M < r + j) : ∀ (d j n : Nat), j + d = k → d < n →
    sWhile (tOr (tE (eOp2 isG (oE (eOp2 idxG (oVar 6) (oVar 7))) (oE (eC .none)))) (tE (eOp2 gtG (oE (eOp2 addG (oE (eOp2 idxG (oVar 6) (oVar 7))) (oE (eOp2 fdivG (oE (eOp2 subG (oVar 1) (oVar 7))) (oVar 5))))) (oVar 2)))) b_first_of_1 n
      [.val (.tuple C), .val (.int A), .val (.int M), fnd, j4, .val (.int c), .own (.list (tabN t)), .val (.int ((A - j * c : Nat) : Int)), j8] =
    .ok (.nx, [.val (.tuple C), .val (.int A), .val (.int M), fnd, j4, .val (.int c), .own (.list (tabN t)), .val (.int ((A - k * c : Nat) : Int)), j8]) := by
  intro d
  have hcb : bitsZ 30 (c : Int) = true := bits30_nat (by omega)
  induction d with
  | zero =>
    intro j n e hn
    obtain ⟨n, rfl⟩ : ∃ m, n = m + 1 := ⟨n - 1, by omega⟩
    have e : j = k := by omega
    subst e
    obtain ⟨r, w, h1, h2⟩ := hk
    have e1 : (t[A - j * c]?) = some (some (r, w)) := by
      have q := List.getElem?_eq_getElem (l := t) (i := A - j * c) (by omega)
      rw [q, (ht _ _ q).uniq h1]
    have e2 : (tabN t)[A - j * c]? = some (.int (r : Int)) := by unfold tabN; rw [List.getElem?_map, e1]; rfl
    have e3 : ((A : Int) - ((A - j * c : Nat) : Int)) / (c : Int) = (j : Int) := by
      have : (A : Int) - ((A - j * c : Nat) : Int) = (j : Int) * (c : Int) := by rw [← Int.natCast_mul]; omega
      rw [this, Int.mul_ediv_cancel _ (by omega)]
    have e4 : ¬ ((M : Int) < (r : Int) + (j : Int)) := by omega
    unfold sWhile
    generalize tabN t = T at e2
    generalize A - j * c = L at e2 e3
    simp [idxG, atI_nat', e2, isG, isNoneD, subG, fdivG, hcb, hc.1, e3, addG, gtG, e4]
  | succ d ih =>
    intro j n e hn
    obtain ⟨n, rfl⟩ : ∃ m, n = m + 1 := ⟨n - 1, by omega⟩
    have hjc : j * c + c ≤ k * c := by
      have := Nat.mul_le_mul_right c (show j + 1 ≤ k by omega)
      rw [Nat.add_mul] at this
      omega
    have ih := ih (j + 1) n (by omega) (by omega)
    have e5 : ((A - j * c : Nat) : Int) - (c : Int) = ((A - (j + 1) * c : Nat) : Int) := by rw [Nat.add_mul]; omega
    rw [← e5] at ih
    have hb : b_first_of_1 [.val (.tuple C), .val (.int A), .val (.int M), fnd, j4, .val (.int c), .own (.list (tabN t)), .val (.int ((A - j * c : Nat) : Int)), j8] = .ok (.nx, [.val (.tuple C), .val (.int A), .val (.int M), fnd, j4, .val (.int c), .own (.list (tabN t)), .val (.int (((A - j * c : Nat) : Int) - (c : Int))), j8]) := by
      simp [b_first_of_1, subG]
    unfold sWhile
    have q := List.getElem?_eq_getElem (l := t) (i := A - j * c) (by omega)
    have hT := ht _ _ q
    have e3 : ((A : Int) - ((A - j * c : Nat) : Int)) / (c : Int) = (j : Int) := by
      have : (A : Int) - ((A - j * c : Nat) : Int) = (j : Int) * (c : Int) := by rw [← Int.natCast_mul]; omega
      rw [this, Int.mul_ediv_cancel _ (by omega)]
    cases ho : t[A - j * c] with
    | none =>
      rw [ho] at q
      have e2 : (tabN t)[A - j * c]? = some .none := by unfold tabN; rw [List.getElem?_map, q]; rfl
      have ht : (tOr (tE (eOp2 isG (oE (eOp2 idxG (oVar 6) (oVar 7))) (oE (eC .none)))) (tE (eOp2 gtG (oE (eOp2 addG (oE (eOp2 idxG (oVar 6) (oVar 7))) (oE (eOp2 fdivG (oE (eOp2 subG (oVar 1) (oVar 7))) (oVar 5))))) (oVar 2)))) [.val (.tuple C), .val (.int A), .val (.int M), fnd, j4, .val (.int c), .own (.list (tabN t)), .val (.int ((A - j * c : Nat) : Int)), j8] = .ok (true, [.val (.tuple C), .val (.int A), .val (.int M), fnd, j4, .val (.int c), .own (.list (tabN t)), .val (.int ((A - j * c : Nat) : Int)), j8]) := by
        generalize tabN t = T at e2
        generalize A - j * c = L at e2
        simp [idxG, atI_nat', e2, isG, isNoneD]
      rw [ht]
      dsimp only [R.bind]
      rw [if_pos rfl, hb]
      dsimp only
      exact ih
    | some p =>
      obtain ⟨r, w⟩ := p
      rw [ho] at q hT
      have hM := hj j (by omega) r w (by omega) hT
      have e2 : (tabN t)[A - j * c]? = some (.int (r : Int)) := by unfold tabN; rw [List.getElem?_map, q]; rfl
      have e4 : ((M : Int) < (r : Int) + (j : Int)) := by omega
      have ht : (tOr (tE (eOp2 isG (oE (eOp2 idxG (oVar 6) (oVar 7))) (oE (eC .none)))) (tE (eOp2 gtG (oE (eOp2 addG (oE (eOp2 idxG (oVar 6) (oVar 7))) (oE (eOp2 fdivG (oE (eOp2 subG (oVar 1) (oVar 7))) (oVar 5))))) (oVar 2)))) [.val (.tuple C), .val (.int A), .val (.int M), fnd, j4, .val (.int c), .own (.list (tabN t)), .val (.int ((A - j * c : Nat) : Int)), j8] = .ok (true, [.val (.tuple C), .val (.int A), .val (.int M), fnd, j4, .val (.int c), .own (.list (tabN t)), .val (.int ((A - j * c : Nat) : Int)), j8]) := by
        generalize tabN t = T at e2
        generalize A - j * c = L at e2 e3
        simp [idxG, atI_nat', e2, isG, isNoneD, subG, fdivG, hcb, hc.1, e3, addG, gtG, e4]
      rw [ht]
      dsimp only [R.bind]
      rw [if_pos rfl, hb]
      dsimp only
      exact ih
/-- one coin -/
theorem first_in {cs : List Nat} {i A M : Nat} {v : List Nat} {ys : List D} (h0 : Coin0 cs) (hi : i < cs.length) (hA : A < 100000) (h : IsB (cs.drop i) A (some (M, v.drop i))) (hy : ys.length ≤ 100) (j6 j7 j8 : Sl) :
    ∃ k A' M' k6 k7 k8, v[i]? = some k ∧ A' ≤ A ∧ IsB (cs.drop (i + 1)) A' (some (M', v.drop (i + 1))) ∧
      b_first_of_2 [.val (.tuple (cs.map tD)), .val (.int (A : Int)), .val (.int (M : Int)), .own (.list ys), .val (.int (i : Int)), .val (tD (cs[i]?.getD 0)), j6, j7, j8] =
        .ok (.nx, [.val (.tuple (cs.map tD)), .val (.int (A' : Int)), .val (.int (M' : Int)), .own (.list (ys ++ [tD k])), .val (.int (i : Int)), .val (tD (cs[i]?.getD 0)), k6, k7, k8]) := by
  have hd := List.drop_eq_getElem_cons hi
  have hvl : v.length = cs.length := by
    have := h.1
    rw [List.length_drop, List.length_drop] at this
    omega
  have hvi : i < v.length := by omega
  have hv := List.drop_eq_getElem_cons hvi
  rw [hd, hv] at h
  have hc0 := (h0.drop i)
  rw [hd] at hc0
  have hch := hc0.head
  obtain ⟨h1, h2, h3, h4⟩ := h.cons
  rw [List.getElem?_eq_getElem hi]
  simp only [Option.getD_some]
  have hvk : v[i]? = some v[i] := List.getElem?_eq_getElem hvi
  generalize cs[i] = c at *
  generalize v[i] = k at *
  obtain ⟨t, t1, t2, t3⟩ := fewest_ok (h0.drop (i + 1)) A (by omega)
  refine ⟨k, A - k * c, M - k, .own (.list (tabN t)), .val (.int ((A - k * c : Nat) : Int)), .val (.int (k : Int)), hvk, by omega, h3, ?_⟩
  have hka : k ≤ A := Nat.le_trans (Nat.le_mul_of_pos_right k hch.1) h1
  have w := first_while (C := cs.map tD) (.own (.list ys)) (.val (.int (i : Int))) j8 hch t1 t2 h1 ⟨_, _, h3, by omega⟩ h4 k 0 100000 (by omega) (by omega)
  rw [Nat.zero_mul, Nat.sub_zero] at w
  rw [tD_tup] at t3
  rw [List.map_drop] at t3
  have hm : (cs.map (tD : Nat → D)).drop (i + 1) = (cs.drop (i+1)).map tD := List.map_drop.symm
  simp only [tD_nat] at *
  generalize tabN t = T at *
  generalize cs.map (tD : Nat → D) = C at *
  have e3 : ((A : Int) - ((A - k * c : Nat) : Int)) / (c : Int) = (k : Int) := by
    have : (A : Int) - ((A - k * c : Nat) : Int) = (k : Int) * (c : Int) := by rw [← Int.natCast_mul]; omega
    rw [this, Int.mul_ediv_cancel _ (by omega)]
  have e4 : ((A : Int) - (k : Int) * (c : Int)) = ((A - k * c : Nat) : Int) := by rw [← Int.natCast_mul]; omega
  have e5 : ((M : Int) - (k : Int)) = ((M - k : Nat) : Int) := by omega
  have hcb : bitsZ 30 (c : Int) = true := bits30_nat (by omega)
  have hsm : smallZ (c : Int) = true := small_nat (by omega)
  have hyl : ys.length < 16777216 := by omega
  generalize A - k * c = L at *
  unfold b_first_of_2
  generalize hw : sWhile _ b_first_of_1 100000 = W at w ⊢
  simp [cutG, cutD_from1, t3, w, subG, fdivG, hcb, hch.1, e3, mulG, hsm, e4, e5, mAppend, tyD, mutS, sizeLine_eq', hyl, addG]
theorem first_ok {cs : List Nat} (h0 : Coin0 cs) (A : Nat) (hA : A < 100000) : ∃ o, IsB cs A o ∧ m_first_of [.val (tD (Tup.mk cs)), .val (tD A)] = .ok (.val (tD (o.map fun p => Tup.mk p.2)), none) := by
  obtain ⟨t, t1, t2, t3⟩ := fewest_ok h0 A (by omega)
  have q := List.getElem?_eq_getElem (l := t) (i := A) (by omega)
  have hB := t2 _ _ q
  refine ⟨t[A], hB, ?_⟩
  rw [tD_tup, tD_nat] at t3
  rw [tD_tup, tD_nat]
  cases ho : t[A] with
  | none =>
    rw [ho] at q
    have e2 : (tabN t)[A]? = some .none := by unfold tabN; rw [List.getElem?_map, q]; rfl
    generalize cs.map (tD : Nat → D) = C at *
    generalize tabN t = T at *
    simp [m_first_of, b_first_of, t3, idxG, atI_nat', e2, isG, isNoneD, tD_none]
  | some p =>
    obtain ⟨M, v⟩ := p
    rw [ho] at q hB
    have e2 : (tabN t)[A]? = some (.int (M : Int)) := by unfold tabN; rw [List.getElem?_map, q]; rfl
    have hvl : v.length = cs.length := hB.1
    have hle := h0.le
    have L := loop_ix (g := gT (gsCons (gN 4) (gsCons (gN 5) gsNil))) (b := b_first_of_2) (fun i (p : Nat × Nat) ρ => p.1 ≤ A ∧ IsB (cs.drop i) p.1 (some (p.2, v.drop i)) ∧ ∃ j4 j5 j6 j7 j8, ρ = [.val (.tuple (cs.map tD)), .val (.int (p.1 : Int)), .val (.int (p.2 : Int)), .own (.list ((v.take i).map tD)), j4, j5, j6, j7, j8])
      (enumFr 0 (cs.map tD)) cs.length 0 (A, M) [.val (.tuple (cs.map tD)), .val (.int (A : Int)), .val (.int (M : Int)), .own (.list []), .no, .no, .no, .no, .no] (by rw [enumFr_length, List.length_map]; omega) ⟨Nat.le_refl _, hB, _, _, _, _, _, rfl⟩ fun i p ρ d hd hst => by
        obtain ⟨p1, p2, j4, j5, j6, j7, j8, rfl⟩ := hst
        rw [enumFr_get, List.getElem?_map] at hd
        cases e : cs[i]? with
        | none => rw [e] at hd; cases hd
        | some c =>
          rw [e] at hd
          cases hd
          have hi : i < cs.length := (List.getElem?_eq_some_iff.mp e).1
          obtain ⟨k, A', M', k6, k7, k8, f1, f2, f3, f4⟩ := first_in (ys := (v.take i).map tD) h0 hi (show p.1 < 100000 by omega) p2 (by rw [List.length_map, List.length_take]; omega) j6 j7 j8
          have e9 : (v.take (i + 1)).map (tD : Nat → D) = (v.take i).map tD ++ [tD k] := by
            rw [List.take_add_one, f1, List.map_append]; rfl
          rw [e] at f4
          refine ⟨_, _, (A', M'), ?_, f4, by show A' ≤ A; omega, f3, _, _, _, _, _, by rw [e9]⟩
          simp
    obtain ⟨ρ', p, l1, l2, l3, j4, j5, j6, j7, j8, rfl⟩ := L
    rw [List.drop_zero] at l1
    rw [enumFr_length, List.length_map, ← hvl, List.take_length] at l1
    have hF : sFor (iK enumK (aCons (eVar 0) aNil)) (gT (gsCons (gN 4) (gsCons (gN 5) gsNil))) b_first_of_2 [.val (.tuple (cs.map tD)), .val (.int (A : Int)), .val (.int (M : Int)), .own (.list []), .no, .no, .no, .no, .no] = .ok (.nx, [.val (.tuple (cs.map tD)), .val (.int (p.1 : Int)), .val (.int (p.2 : Int)), .own (.list (v.map tD)), j4, j5, j6, j7, j8]) := by
      rw [← l1]
      refine sFor_run ?_
      simp [seqD]
    have hr : (tD ((some (M, v)).map fun p => Tup.mk p.2) : D) = .tuple (v.map tD) := rfl
    rw [hr]
    generalize cs.map (tD : Nat → D) = C at *
    generalize tabN t = T at *
    simp [m_first_of, b_first_of, t3, idxG, atI_nat', e2, isG, isNoneD, hF, tupleG, sizeLine_eq']
end K78

end
section
namespace K78
open PySem PySem.W L2 L3
/-- one coin, greedily -/
def gS (p : List Nat × Nat) (c : Nat) : List Nat × Nat := (p.2 / c :: p.1, p.2 % c)
def grF (cs : List Nat) (a : Nat) : List Nat × Nat := cs.reverse.foldl gS ([], a)
def grA (cs : List Nat) (a : Nat) : Option (List Nat) := if (grF cs a).2 = 0 then some (grF cs a).1 else none
theorem gS_fold : ∀ (r : List Nat) (p : List Nat × Nat), (r.foldl gS p).1 = (r.foldl gS ([], p.2)).1 ++ p.1 ∧ (r.foldl gS p).2 = (r.foldl gS ([], p.2)).2
  | [], p => ⟨rfl, rfl⟩
  | c :: r, p => by
    obtain ⟨h1, h2⟩ := gS_fold r (gS p c)
    obtain ⟨k1, k2⟩ := gS_fold r (gS ([], p.2) c)
    rw [List.foldl_cons, List.foldl_cons, h1, h2, k1, k2]
    exact ⟨by simp [gS], rfl⟩
theorem gS_len : ∀ (r : List Nat) (p : List Nat × Nat), (r.foldl gS p).1.length = r.length + p.1.length
  | [], p => by simp
  | c :: r, p => by rw [List.foldl_cons, gS_len r]; simp [gS]; omega
theorem grF_nil (a : Nat) : grF [] a = ([], a) := rfl
theorem grF_snoc (cs : List Nat) (c a : Nat) : grF (cs ++ [c]) a = ((grF cs (a % c)).1 ++ [a / c], (grF cs (a % c)).2) := by
  unfold grF
  rw [List.reverse_append]
  show (cs.reverse.foldl gS (gS ([], a) c)) = _
  obtain ⟨h1, h2⟩ := gS_fold cs.reverse (gS ([], a) c)
  exact Prod.ext h1 h2
theorem dot_snoc : ∀ (v cs : List Nat) (x c : Nat), v.length = cs.length → dot (v ++ [x]) (cs ++ [c]) = dot v cs + x * c
  | [], [], x, c, _ => by simp [dot]
  | a :: v, b :: cs, x, c, h => by
    have := dot_snoc v cs x c (by simpa using h)
    rw [List.cons_append, List.cons_append, dot, dot, this]; omega
  | [], _ :: _, _, _, h => by simp at h
  | _ :: _, [], _, _, h => by simp at h
theorem grF_dot (cs : List Nat) : ∀ a, (grF cs a).1.length = cs.length ∧ dot (grF cs a).1 cs + (grF cs a).2 = a := by
  induction h : cs.length generalizing cs with
  | zero => intro a; have := List.length_eq_zero_iff.mp h; subst this; exact ⟨rfl, by simp [grF_nil, dot]⟩
  | succ n ih =>
    intro a
    have hne : cs ≠ [] := by intro e; subst e; simp at h
    have e := List.dropLast_concat_getLast hne
    rw [← e]
    have hl : cs.dropLast.length = n := by simp [h]
    generalize cs.dropLast = ds at *
    generalize cs.getLast hne = c at *
    obtain ⟨i1, i2⟩ := ih ds hl (a % c)
    rw [grF_snoc]
    refine ⟨by simp [i1], ?_⟩
    show dot ((grF ds (a % c)).1 ++ [a / c]) (ds ++ [c]) + (grF ds (a % c)).2 = a
    rw [dot_snoc _ _ _ _ (by rw [i1, hl])]
    have := Nat.div_add_mod a c
    rw [Nat.mul_comm] at this
    omega
theorem grA_dot {cs : List Nat} {a : Nat} {v : List Nat} (h : grA cs a = some v) : v.length = cs.length ∧ dot v cs = a := by
  unfold grA at h
  split at h
  · rename_i z
    cases h
    obtain ⟨h1, h2⟩ := grF_dot cs a
    exact ⟨h1, by omega⟩
  · cases h
def oT (o : Option (List Nat)) : Option (Tup Nat) := o.map Tup.mk
theorem greedy_ok {cs : List Nat} (h0 : Coin0 cs) (A : Nat) (hA : A < 100000) : m_greedy_in [.val (tD (Tup.mk cs)), .val (tD A)] = .ok (.val (tD (oT (grA cs A))), none) := by
  have hle := h0.le
  have L := loop_pre (g := gN 3) (b := b_greedy_in_1) (tD : Nat → D) (fun (p : List Nat × Nat) ρ => ∃ j, ρ = [.val (.tuple (cs.map tD)), .val (.int (p.2 : Int)), .own (.list (p.1.map tD)), j]) gS cs.reverse ([], A)
    [.val (.tuple (cs.map tD)), .val (.int (A : Int)), .own (.list []), .no] ⟨_, rfl⟩ fun pre c post ρ hp hst => by
      obtain ⟨j, rfl⟩ := hst
      have hc : c ∈ cs := by
        have : c ∈ cs.reverse := by rw [hp]; simp
        simpa using this
      obtain ⟨i, hi, e⟩ := List.mem_iff_getElem.mp hc
      have h1 := h0.pos i hi
      have h2 := h0.hi i hi
      rw [List.getElem?_eq_getElem hi, e] at h1 h2
      simp only [Option.getD_some] at h1 h2
      have hpl : pre.length ≤ 100 := by
        have := congrArg List.length hp
        simp at this; omega
      have hW := gS_len pre ([], A)
      generalize pre.foldl gS ([], A) = p at hW ⊢
      have hW : 1 + (p.1.map (tD : Nat → D)).length ≤ 16777216 := by rw [List.length_map, hW]; simp; omega
      refine ⟨_, _, rfl, ?_, .val (tD c), rfl⟩
      have hcb : bitsZ 30 (c : Int) = true := bits30_nat (by omega)
      have hsm : smallZ (c : Int) = true := small_nat (by omega)
      have e1 : (p.2 : Int) - ((p.2 : Int) / (c : Int)) * (c : Int) = ((p.2 % c : Nat) : Int) := by
        have := Int.mul_ediv_add_emod (p.2 : Int) (c : Int)
        rw [Int.mul_comm] at this
        rw [Int.natCast_emod]; omega
      have e2 : (p.2 : Int) / (c : Int) = ((p.2 / c : Nat) : Int) := rfl
      have e3 : (tD (gS p c).1 : D) = .list (.int ((p.2 / c : Nat) : Int) :: p.1.map tD) := rfl
      have e4 : (gS p c).1.map (tD : Nat → D) = .int ((p.2 / c : Nat) : Int) :: p.1.map tD := rfl
      have e5 : (gS p c).2 = p.2 % c := rfl
      rw [e4, e5]
      generalize cs.map (tD : Nat → D) = C
      generalize p.1.map (tD : Nat → D) = W at hW ⊢
      simp only [tD_nat]
      have hz : (1 : Nat) ≤ 16777216 := by decide
      have e6 : (p.2 : Int) - ((p.2 / c : Nat) : Int) * (c : Int) = ((p.2 % c : Nat) : Int) := e1
      simp [b_greedy_in_1, fdivG, hcb, h1, addG, sizeLine_eq', hz, hW, idxG, mulG, hsm, subG]
      exact e1
  obtain ⟨ρ', l1, j, rfl⟩ := L
  have hF : sFor (iSeq (eOp1 revG (oVar 0))) (gN 3) b_greedy_in_1 [.val (.tuple (cs.map tD)), .val (.int (A : Int)), .own (.list []), .no] = .ok (.nx, [.val (.tuple (cs.map tD)), .val (.int ((grF cs A).2 : Int)), .own (.list ((grF cs A).1.map tD)), j]) := by
    rw [show grF cs A = cs.reverse.foldl gS ([], A) from rfl, ← l1]
    refine sFor_run ?_
    simp [revG, seqD, List.map_reverse]
  rw [tD_tup, tD_nat]
  have hq : eqG (.int ((grF cs A).2 : Int)) (.int 0) = some (.val (.bool (decide ((grF cs A).2 = 0)))) := eqG_t (α := Nat) _ 0
  unfold grA
  generalize cs.map (tD : Nat → D) = C at *
  by_cases h : (grF cs A).2 = 0
  · rw [if_pos h]
    have e : (tD (oT (some (grF cs A).1)) : D) = .tuple ((grF cs A).1.map tD) := rfl
    rw [e]
    have hq : eqG (.int 0) (.int 0) = some (.val (.bool true)) := eqG_t (α := Nat) 0 0
    rw [h] at hF
    simp [m_greedy_in, b_greedy_in, hF, hq, tupleG, sizeLine_eq']
  · rw [if_neg h]
    have e : (tD (oT none) : D) = .none := rfl
    rw [e]
    simp [m_greedy_in, b_greedy_in, hF, hq, h, sizeLine_eq']
/-- the law's own greatest-first -/
theorem great_while {C : List D} {f : D} {r c : Nat} (hr : r < c) : ∀ (q k n : Nat), q < n →
    sWhile (tE (eOp2 leG (oVar 3) (oVar 1))) b__law_greatest_1 n [.val (.tuple C), .val (.int ((r + q * c : Nat) : Int)), .val f, .val (.int (c : Int)), .val (.int (k : Int))] =
      .ok (.nx, [.val (.tuple C), .val (.int (r : Int)), .val f, .val (.int (c : Int)), .val (.int ((k + q : Nat) : Int))])
  | 0, k, n, h => by
    obtain ⟨n, rfl⟩ : ∃ m, n = m + 1 := ⟨n - 1, by omega⟩
    unfold sWhile
    have : ¬ c ≤ r := by omega
    simp [leG, this]
  | q + 1, k, n, h => by
    obtain ⟨n, rfl⟩ : ∃ m, n = m + 1 := ⟨n - 1, by omega⟩
    have ih := great_while (C := C) (f := f) hr q (k + 1) n (by omega)
    unfold sWhile
    have e : r + (q + 1) * c = r + q * c + c := by rw [Nat.add_mul]; omega
    have e2 : k + 1 + q = k + (q + 1) := by omega
    have e3 : ((r + q * c + c : Nat) : Int) - (c : Int) = ((r + q * c : Nat) : Int) := by omega
    rw [e2] at ih
    rw [e]
    generalize r + q * c = b at *
    have e4 : c ≤ b + c := by omega
    have ht : tE (eOp2 leG (oVar 3) (oVar 1)) [.val (.tuple C), .val (.int ((b + c : Nat) : Int)), .val f, .val (.int (c : Int)), .val (.int (k : Int))] = .ok (true, [.val (.tuple C), .val (.int ((b + c : Nat) : Int)), .val f, .val (.int (c : Int)), .val (.int (k : Int))]) := by
      have e5 : ((c : Int) ≤ ((b + c : Nat) : Int)) := by omega
      generalize ((b + c : Nat) : Int) = z at *
      simp [leG, e5]
    have hb : b__law_greatest_1 [.val (.tuple C), .val (.int ((b + c : Nat) : Int)), .val f, .val (.int (c : Int)), .val (.int (k : Int))] = .ok (.nx, [.val (.tuple C), .val (.int (b : Int)), .val f, .val (.int (c : Int)), .val (.int ((k + 1 : Nat) : Int))]) := by
      generalize ((b + c : Nat) : Int) = z at *
      simp [b__law_greatest_1, addG, subG, e3]
    rw [ht]
    dsimp only [R.bind]
    rw [if_pos rfl, hb]
    exact ih
theorem great_ok {cs : List Nat} (h0 : Coin0 cs) (A : Nat) (hA : A < 100000) : m__law_greatest [.val (tD (Tup.mk cs)), .val (tD A)] = .ok (.val (tD (oT (grA cs A))), none) := by
  have hle := h0.le
  have L := loop_pre (g := gN 3) (b := b__law_greatest_2) (tD : Nat → D) (fun (p : List Nat × Nat) ρ => p.2 ≤ A ∧ ∃ j j4, ρ = [.val (.tuple (cs.map tD)), .val (.int (p.2 : Int)), .val (.tuple (p.1.map tD)), j, j4]) gS cs.reverse ([], A)
    [.val (.tuple (cs.map tD)), .val (.int (A : Int)), .val (.tuple []), .no, .no] ⟨Nat.le_refl _, _, _, rfl⟩ fun pre c post ρ hp hst => by
      obtain ⟨hpa, j, j4, rfl⟩ := hst
      have hc : c ∈ cs := by
        have : c ∈ cs.reverse := by rw [hp]; simp
        simpa using this
      obtain ⟨i, hi, e⟩ := List.mem_iff_getElem.mp hc
      have h1 := h0.pos i hi
      have h2 := h0.hi i hi
      rw [List.getElem?_eq_getElem hi, e] at h1 h2
      simp only [Option.getD_some] at h1 h2
      have hpl : pre.length ≤ 100 := by
        have := congrArg List.length hp
        simp at this; omega
      have hW := gS_len pre ([], A)
      generalize pre.foldl gS ([], A) = p at hW hpa ⊢
      have hW : 1 + (p.1.map (tD : Nat → D)).length ≤ 16777216 := by rw [List.length_map, hW]; simp; omega
      refine ⟨_, _, rfl, ?_, Nat.le_trans (Nat.mod_le _ _) hpa, .val (tD c), .val (.int ((0 + p.2 / c : Nat) : Int)), rfl⟩
      have hdiv : p.2 / c ≤ p.2 := Nat.div_le_self _ _
      have w := great_while (C := cs.map tD) (f := .tuple (p.1.map tD)) (Nat.mod_lt p.2 h1) (p.2 / c) 0 100000 (by omega)
      have e1 : p.2 % c + p.2 / c * c = p.2 := by have := Nat.div_add_mod p.2 c; rw [Nat.mul_comm] at this; omega
      rw [e1] at w
      have e4 : (gS p c).1.map (tD : Nat → D) = .int ((p.2 / c : Nat) : Int) :: p.1.map tD := rfl
      have e5 : (gS p c).2 = p.2 % c := rfl
      rw [e4, e5]
      rw [Nat.zero_add] at w ⊢
      generalize cs.map (tD : Nat → D) = C at *
      generalize p.1.map (tD : Nat → D) = W at *
      simp only [tD_nat] at *
      have hz : (1 : Nat) ≤ 16777216 := by decide
      unfold b__law_greatest_2
      generalize hw : sWhile _ b__law_greatest_1 100000 = WW at w ⊢
      generalize p.2 % c = m at *
      generalize p.2 / c = q at *
      have w : WW [.val (.tuple C), .val (.int (p.2 : Int)), .val (.tuple W), .val (.int (c : Int)), .val (.int 0)] = _ := w
      simp [w, addG, sizeLine_eq', hz, hW]
  obtain ⟨ρ', l1, _, j, j4, rfl⟩ := L
  have hF : sFor (iSeq (eOp1 revG (oVar 0))) (gN 3) b__law_greatest_2 [.val (.tuple (cs.map tD)), .val (.int (A : Int)), .val (.tuple []), .no, .no] = .ok (.nx, [.val (.tuple (cs.map tD)), .val (.int ((grF cs A).2 : Int)), .val (.tuple ((grF cs A).1.map tD)), j, j4]) := by
    rw [show grF cs A = cs.reverse.foldl gS ([], A) from rfl, ← l1]
    refine sFor_run ?_
    simp [revG, seqD, List.map_reverse]
  rw [tD_tup, tD_nat]
  have hq : eqG (.int ((grF cs A).2 : Int)) (.int 0) = some (.val (.bool (decide ((grF cs A).2 = 0)))) := eqG_t (α := Nat) _ 0
  unfold grA
  generalize cs.map (tD : Nat → D) = C at *
  by_cases h : (grF cs A).2 = 0
  · rw [if_pos h]
    have e : (tD (oT (some (grF cs A).1)) : D) = .tuple ((grF cs A).1.map tD) := rfl
    rw [e]
    have hq : eqG (.int 0) (.int 0) = some (.val (.bool true)) := eqG_t (α := Nat) 0 0
    rw [h] at hF
    simp [m__law_greatest, b__law_greatest, hF, hq, sizeLine_eq']
  · rw [if_neg h]
    have e : (tD (oT none) : D) = .none := rfl
    rw [e]
    simp [m__law_greatest, b__law_greatest, hF, hq, h, sizeLine_eq']
end K78

end
section
namespace K78
open PySem PySem.W L2 L3
structure Good (cs : List Nat) : Prop where
  ne : cs ≠ []
  le : cs.length ≤ 6
  rg : ∀ c ∈ cs, 1 ≤ c ∧ c ≤ 100
  up : ∀ p ∈ cs.zip (cs.drop 1), p.1 < p.2
theorem Good.c0 {cs : List Nat} (h : Good cs) : Coin0 cs :=
  ⟨fun i hi => by rw [List.getElem?_eq_getElem hi]; have := (h.rg _ (List.getElem_mem hi)).2; simp; omega, by have := h.le; omega, fun i hi => by rw [List.getElem?_eq_getElem hi]; exact (h.rg _ (List.getElem_mem hi)).1⟩
theorem Good.cc {cs : List Nat} (h : Good cs) : Coins cs := ⟨h.ne, h.c0.le, h.c0.pos⟩
theorem zip2D_map : ∀ xs ys : List Nat, zip2D (xs.map tD) (ys.map tD) = (xs.zip ys).map fun p => .tuple [tD p.1, tD p.2]
  | [], _ => by simp [zip2D]
  | _ :: _, [] => by simp [zip2D]
  | x :: xs, y :: ys => by simp only [List.map_cons, zip2D, List.zip_cons_cons, zip2D_map xs ys]
theorem whole_ok (x lo hi : Nat) : m_is_whole [.val (.int (x : Int)), .val (.int (lo : Int)), .val (.int (hi : Int))] = .ok (.val (.bool (decide (lo ≤ x ∧ x ≤ hi))), none) := by
  by_cases h1 : lo ≤ x <;> by_cases h2 : x ≤ hi <;> simp [m_is_whole, b_is_whole, isiG, isiB, leG, h1, h2]
theorem rising_ok {cs : List Nat} (hl : cs.length ≤ 100) (h : ∀ p ∈ cs.zip (cs.drop 1), p.1 < p.2) : m_is_rising [.val (.tuple (cs.map tD))] = .ok (.val (.bool true), none) := by
  have hc := comp_all (g := gT (gsCons (gN 1) (gsCons (gN 2) gsNil))) (f := eOp2 ltG (oVar 1) (oVar 2)) (vs := [1, 2]) (ρ := [.val (.tuple (cs.map tD)), .no, .no]) (fun p : Nat × Nat => (.tuple [tD p.1, tD p.2] : D)) (fun _ => .bool true) (cs.zip (cs.drop 1)) fun p hp => by
    have := h p hp
    refine ⟨_, .val (.bool true), [.val (.tuple (cs.map tD)), .val (tD p.1), .val (tD p.2)], rfl, ?_, rfl, rfl⟩
    simp [tD_nat, ltG, this]
  have hlen : ((cs.zip (cs.drop 1)).map fun _ => (PyData.bool true)).length ≤ sizeLine := by
    rw [List.length_map, List.length_zip]
    exact Nat.le_trans (Nat.min_le_left _ _) (Nat.le_trans hl (by decide))
  have he := eComp_run (it := iK zipK (aCons (eVar 0) (aCons (eSl (oVar 0) (pE (eC (.int 1))) pNo) aNil))) (ρ := [.val (.tuple (cs.map tD)), .no, .no]) (ρ1 := [.val (.tuple (cs.map tD)), .no, .no]) (by
    have e0 : cutD (cs.map (tD : Nat → D)) (some 1) none = (cs.drop 1).map tD := by
      rw [show (1 : Int) = ((0 : Nat) : Int) + 1 by rfl, cutD_from1, List.map_drop]
    have := zip2D_map cs (cs.drop 1)
    rw [← this, ← e0]
    generalize cs.map (tD : Nat → D) = C
    simp [cutG, seqD]) hc hlen
  have hb : boolsD ((cs.zip (cs.drop 1)).map fun _ => (PyData.bool true)) = some ((cs.zip (cs.drop 1)).map fun _ => true) := by
    have := boolsD_bool ((cs.zip (cs.drop 1)).map fun _ => true)
    rw [List.map_map] at this
    exact this
  have hall : ((cs.zip (cs.drop 1)).map fun _ => true).all id = true := by simp
  unfold m_is_rising b_is_rising
  generalize hg : eComp _ (gT (gsCons (gN 1) (gsCons (gN 2) gsNil))) _ _ [1, 2] = f at he
  generalize ((cs.zip (cs.drop 1)).map fun _ => (PyData.bool true)) = B at *
  generalize ((cs.zip (cs.drop 1)).map fun _ => true) = B' at *
  generalize cs.map (tD : Nat → D) = C at *
  have hall2 : B'.all id = true := hall
  simp [he, restE, keepS, allG, hb, hall2]
theorem fits_ok {cs : List Nat} (h : Good cs) : m_fits_coins [.val (tD (Tup.mk cs))] = .ok (.val (.bool true), none) := by
  have h0 := List.length_pos_iff.mpr h.ne
  have h6 := h.le
  have ht : m_is_tuple_of [.val (.tuple (cs.map tD)), .val (.int 1), .val (.int 6)] = .ok (.val (.bool true), none) := by
    have e1 : (1 : Int) ≤ ((cs.map (tD : Nat → D)).length : Int) := by rw [List.length_map]; omega
    have e2 : ((cs.map (tD : Nat → D)).length : Int) ≤ 6 := by rw [List.length_map]; omega
    generalize cs.map (tD : Nat → D) = C at *
    simp [m_is_tuple_of, b_is_tuple_of, isiG, isiB, lenG, leG, e1, e2]
  have hr := rising_ok (by omega) h.up
  have hc := comp_all (g := gN 1) (f := eCall m_is_whole (aCons (eVar 1) (aCons (eC (.int 1)) (aCons (eC (.int 100)) aNil)))) (vs := [1]) (ρ := [.val (.tuple (cs.map tD)), .no]) (tD : Nat → D) (fun _ => .bool true) cs fun p hp => by
    have := h.rg p hp
    refine ⟨_, .val (.bool true), [.val (.tuple (cs.map tD)), .val (tD p)], rfl, ?_, rfl, rfl⟩
    have hw := whole_ok p 1 100
    rw [decide_eq_true this] at hw
    have hw : m_is_whole [.val (.int (p : Int)), .val (.int 1), .val (.int 100)] = _ := hw
    simp [tD_nat, hw]
  have hlen : (cs.map fun _ => (PyData.bool true)).length ≤ sizeLine := by
    rw [List.length_map]
    exact Nat.le_trans h6 (by decide)
  have he := eComp_run (it := iSeq (eVar 0)) (ρ := [.val (.tuple (cs.map tD)), .no]) rfl hc hlen
  have hb : boolsD (cs.map fun _ => (PyData.bool true)) = some (cs.map fun _ => true) := by
    have := boolsD_bool (cs.map fun _ => true)
    rw [List.map_map] at this
    exact this
  have hall : (cs.map fun _ => true).all id = true := by simp
  unfold m_fits_coins b_fits_coins
  generalize hg : eComp _ (gN 1) _ _ [1] = f at he
  rw [tD_tup]
  generalize (cs.map fun _ => (PyData.bool true)) = B at *
  generalize (cs.map fun _ => true) = B' at *
  generalize cs.map (tD : Nat → D) = C at *
  have hall : ∀ x ∈ B', x = true := by simpa using hall
  have hall2 : B'.all id = true := by simpa using hall
  simp [ht, he, restE, keepS, allG, hb, hr, hall2]
theorem are_ok {cs : List Nat} (h : Good cs) : m_are_coins [.val (tD (Tup.mk cs))] = .ok (.val (.bool true), none) := by
  simp [m_are_coins, b_are_coins, fits_ok h]
theorem needc_ok {cs : List Nat} (h : Good cs) : m_need_coins [.val (tD (Tup.mk cs))] = .ok (.val .none, none) := by
  simp [m_need_coins, b_need_coins, fits_ok h]
theorem needa_ok (a : Nat) (h : a ≤ 1000) : m_need_amount [.val (tD a)] = .ok (.val .none, none) := by
  have hw := whole_ok a 0 1000
  rw [decide_eq_true ⟨Nat.zero_le _, h⟩] at hw
  have hw : m_is_whole [.val (.int (a : Int)), .val (.int 0), .val (.int 1000)] = _ := hw
  simp [m_need_amount, b_need_amount, tD_nat, hw]
theorem least_ok {cs : List Nat} (h : Good cs) (A : Nat) (hA : A ≤ 1000) : ∃ o, IsB cs A o ∧ m_least_coins [.val (tD (Tup.mk cs)), .val (tD A)] = .ok (.val (tD (oT (o.map Prod.snd))), none) := by
  obtain ⟨o, h1, h2⟩ := first_ok h.c0 A (by omega)
  refine ⟨o, h1, ?_⟩
  have e : (o.map fun p => Tup.mk p.2) = oT (o.map Prod.snd) := by cases o <;> rfl
  rw [e] at h2
  simp [m_least_coins, b_least_coins, needc_ok h, needa_ok A hA, h2]
theorem greedy_ok2 {cs : List Nat} (h : Good cs) (A : Nat) (hA : A ≤ 1000) : m_greedy [.val (tD (Tup.mk cs)), .val (tD A)] = .ok (.val (tD (oT (grA cs A))), none) := by
  simp [m_greedy, b_greedy, needc_ok h, needa_ok A hA, greedy_ok h.c0 A (by omega)]
theorem sum_t (v : List Nat) : sumG (.tuple (v.map tD)) = some (.val (.int ((v.sum : Nat) : Int))) := by
  unfold sumG
  dsimp only
  rw [intsD_nat, Option.map_some, sum_ofNat]
/-- greedily is worse than the best -/
def bad (cs : List Nat) (t : List (Option (Nat × List Nat))) (a : Nat) : Bool := match (t[a]?).join, grA cs a with
  | none, _ => false
  | some _, none => true
  | some p, some v => decide (p.1 < v.sum)
theorem fault_in {cs : List Nat} (h : Good cs) {t : List (Option (Nat × List Nat))} (a : Nat) (ha : a < t.length) (hA : a < 100000) (k3 : Sl) :
    ∃ j3, b_greedy_fault_1 [.val (tD (Tup.mk cs)), .own (.list (tabN t)), .val (tD a), k3] = .ok (if bad cs t a = true then .rt (.val (tD a)) else .nx, [.val (tD (Tup.mk cs)), .own (.list (tabN t)), .val (tD a), j3]) := by
  have hT := tabN_at ha
  have hg := greedy_ok h.c0 a hA
  simp only [tD_tup, tD_nat] at *
  generalize cs.map (tD : Nat → D) = C at *
  generalize tabN t = T at *
  unfold bad
  refine ⟨.val (tD (oT (grA cs a))), ?_⟩
  cases q : (t[a]?).join with
  | none =>
    rw [q] at hT
    have hT : T[a]? = some .none := hT
    simp [b_greedy_fault_1, hg, idxG, atI_nat', hT, isntG, isNoneD]
  | some p =>
    rw [q] at hT
    have hT : T[a]? = some (.int (p.1 : Int)) := hT
    cases q2 : grA cs a with
    | none =>
      rw [q2] at hg
      have e : (tD (oT none) : D) = .none := rfl
      rw [e] at hg ⊢
      simp [b_greedy_fault_1, hg, idxG, atI_nat', hT, isntG, isNoneD, isG]
    | some v =>
      rw [q2] at hg
      have e : (tD (oT (some v)) : D) = .tuple (v.map tD) := rfl
      rw [e] at hg ⊢
      have hs := sum_t v
      generalize v.map (tD : Nat → D) = V at *
      by_cases hb : p.1 < v.sum
      · simp [b_greedy_fault_1, hg, idxG, atI_nat', hT, isntG, isNoneD, isG, hs, gtG, hb]
      · simp [b_greedy_fault_1, hg, idxG, atI_nat', hT, isntG, isNoneD, isG, hs, gtG, hb]
theorem loop_find {β : Type} {g : GV} {b : SV} (E : β → D) (St : En → Prop) (p : β → Bool) (r : β → Rs) : ∀ (xs : List β) (ρ : En), St ρ →
    (∀ x ∈ xs, ∀ ρ, St ρ → ∃ ρ1 ρ2, g (E x) ρ = some ρ1 ∧ b ρ1 = .ok (if p x = true then .rt (r x) else .nx, ρ2) ∧ St ρ2) →
    ∃ ρ', sLoop g b (xs.map E) ρ = .ok (match xs.find? p with | some x => .rt (r x) | none => .nx, ρ') ∧ St ρ'
  | [], ρ, h, _ => ⟨ρ, rfl, h⟩
  | x :: xs, ρ, h, step => by
    obtain ⟨ρ1, ρ2, h1, h2, h3⟩ := step x List.mem_cons_self ρ h
    rw [List.map_cons, List.find?_cons]
    unfold sLoop
    rw [h1]
    dsimp only
    cases e : p x with
    | true =>
      rw [e, if_pos rfl] at h2
      rw [h2]
      exact ⟨ρ2, rfl, h3⟩
    | false =>
      rw [e, if_neg Bool.false_ne_true] at h2
      rw [h2]
      obtain ⟨ρ', h4, h5⟩ := loop_find E St p r xs ρ2 h3 fun y hy => step y (List.mem_cons_of_mem _ hy)
      exact ⟨ρ', h4, h5⟩
theorem Good.last {cs : List Nat} (h : Good cs) : 1 ≤ cs.getLast h.ne ∧ cs.getLast h.ne ≤ 100 := h.rg _ (List.getLast_mem h.ne)
theorem fault_ok {cs : List Nat} (h : Good cs) : ∃ t, t.length = 201 ∧ Tab cs t ∧ m_greedy_fault [.val (tD (Tup.mk cs))] = .ok (.val (tD ((List.range' 1 (2 * cs.getLast h.ne - 1)).find? (bad cs t))), none) := by
  obtain ⟨t, t1, t2, t3⟩ := fewest_ok h.c0 200 (by omega)
  refine ⟨t, t1, t2, ?_⟩
  obtain ⟨l1, l2⟩ := h.last
  obtain ⟨ρ', q1, j2, j3, rfl⟩ := loop_find (g := gN 2) (b := b_greedy_fault_1) (fun i : Nat => (tD i : D)) (fun ρ => ∃ j2 j3, ρ = [.val (tD (Tup.mk cs)), .own (.list (tabN t)), j2, j3]) (bad cs t) (fun a => .val (tD a)) (List.range' 1 (2 * cs.getLast h.ne - 1)) [.val (tD (Tup.mk cs)), .own (.list (tabN t)), .no, .no] ⟨_, _, rfl⟩ fun x hx ρ hst => by
    obtain ⟨j2, j3, rfl⟩ := hst
    rw [List.mem_range'_1] at hx
    obtain ⟨k3, e⟩ := fault_in h (t := t) x (by omega) (by omega) j3
    exact ⟨_, _, rfl, e, _, _, rfl⟩
  have r2 := rng2_nat (m := 1) (n := 2 * cs.getLast h.ne) (by omega) (by omega)
  have hne : cs.map (tD : Nat → D) ≠ [] := by simp [h.ne]
  have hlast : (cs.map (tD : Nat → D)).getLast hne = .int ((cs.getLast h.ne : Nat) : Int) := by rw [List.getLast_map]; rfl
  have hneed := needc_ok h
  have hsm : smallZ 2 = true := small_lit (n := 2) (by omega)
  have e2 : ((cs.getLast h.ne : Nat) : Int) * 2 = 2 * ((cs.getLast h.ne : Nat) : Int) := by omega
  have hF : sFor (iK rng2 (aCons (eC (.int 1)) (aCons (eOp2 mulG (oE (eOp2 idxG (oVar 0) (oE (eOp1 negG (oE (eC (.int 1))))))) (oE (eC (.int 2)))) aNil))) (gN 2) b_greedy_fault_1 [.val (tD (Tup.mk cs)), .own (.list (tabN t)), .no, .no] = _ := (sFor_run (by
    rw [tD_tup]
    have hl := atI_last' _ hne
    rw [hlast] at hl
    generalize cs.map (tD : Nat → D) = C at *
    generalize cs.getLast h.ne = L at *
    have r2 : rng2 [.int 1, .int (2 * (L : Int))] = _ := r2
    simp [hl, idxG, hsm, e2, negG, mulG]
    rw [r2])).trans q1
  have t3 : m_fewest_to [.val (tD (Tup.mk cs)), .val (.int 200)] = _ := t3
  rw [show (∀ o : Option Nat, (tD o : D) = match o with | some x => (tD x : D) | none => .none) from fun o => by cases o <;> rfl]
  generalize (tD (Tup.mk cs) : D) = C at *
  cases q : (List.range' 1 (2 * cs.getLast h.ne - 1)).find? (bad cs t) with
  | none =>
    rw [q] at hF
    simp [m_greedy_fault, b_greedy_fault, hneed, mulG, hsm, t3, hF]
  | some x =>
    rw [q] at hF
    simp [m_greedy_fault, b_greedy_fault, hneed, mulG, hsm, t3, hF]
end K78

end
section
namespace K78
open PySem PySem.W L2 L3
def cupD (a b : Nat) : D := .list [.int (a : Int), .int (b : Int)]
theorem roll_ok (a b many : Nat) (h0 : 0 < many) (h1 : many < 1000000) : ∃ r a' b', r < many ∧ m__law_roll [.bor (cupD a b), .val (.int (many : Int))] = .ok (.val (.int (r : Int)), some (cupD a' b')) := by
  have hz : bitsZ 30 (many : Int) = true := bits30_nat (by omega)
  have hp : (0 : Int) < (many : Int) := by omega
  unfold cupD
  by_cases ha : 0 < a
  · refine ⟨a % many, a / many, b, Nat.mod_lt _ h0, ?_⟩
    have ha' : (0 : Int) < (a : Int) := by omega
    simp [m__law_roll, b__law_roll, idxG, gtG, ha, ha', intG, modG, h0, hp, fdivG, hz, setG, setLD, ixN, mutS]
  · have ha : a = 0 := by omega
    subst ha
    have e1 : ∃ b' : Nat, ((b : Int) * 30959 + 8011) % 2147483399 = (b' : Int) := ⟨(((b : Int) * 30959 + 8011) % 2147483399).toNat, by
      rw [Int.toNat_of_nonneg (Int.emod_nonneg _ (by decide))]⟩
    obtain ⟨b', e1⟩ := e1
    have hb' : (b' : Int) < 2147483399 := by rw [← e1]; exact Int.emod_lt_of_pos _ (by decide)
    have hsb : smallZ (b' : Int) = true := bitsZ.mk (by decide) (by rw [Int.natAbs_natCast]; omega)
    have hs2 : smallZ 30959 = true := small_lit (n := 30959) (by omega)
    have e2 : ∃ d : Nat, ((b' : Int) * ((b' : Int) + 359)) % 2147483563 = (d : Int) := ⟨(((b' : Int) * ((b' : Int) + 359)) % 2147483563).toNat, by
      rw [Int.toNat_of_nonneg (Int.emod_nonneg _ (by decide))]⟩
    obtain ⟨d, e2⟩ := e2
    have hz2 : bitsZ 30 797 = true := bits30_nat (n := 797) (by omega)
    refine ⟨(d / 797) % many, 0, b', Nat.mod_lt _ h0, ?_⟩
    have e3 : ((d : Int) / 797) % (many : Int) = ((d / 797 % many : Nat) : Int) := rfl
    simp [m__law_roll, b__law_roll, idxG, gtG, intG, modG, h0, hp, fdivG, hz, hz2, setG, setLD, ixN, mutS, mulG, addG, hs2, e1, hsb, e2]
theorem cup_ok (ns : List Int) (h : ns.length ≤ 63) : ∃ a b, m__law_cup [.scr ns] = .ok (.own (cupD a b), none) := by
  have hz : ns.length ≤ sizeLine := Nat.le_trans h (by decide)
  have hz1 : (ns.map PyData.int).length + 1 ≤ sizeLine := by rw [List.length_map]; exact Nat.le_trans (Nat.succ_le_succ h) (by decide)
  obtain ⟨x, hx⟩ : ∃ x : Int, idxG (.list (ns.map PyData.int ++ [.int 0])) (.int 0) = some (.val (.int x)) := by
    cases ns with
    | nil => exact ⟨0, rfl⟩
    | cons n ns => exact ⟨n, by simp [idxG]⟩
  obtain ⟨n, hn⟩ : ∃ n : Nat, (if x < 0 then -x else x) = (n : Int) := ⟨x.natAbs, by split <;> omega⟩
  have e1 : ∃ b' : Nat, ((n : Int) * 351 + 4239) % 2077503101 + 201 = (b' : Int) := ⟨(((n : Int) * 351 + 4239) % 2077503101 + 201).toNat, by
      rw [Int.toNat_of_nonneg (Int.add_nonneg (Int.emod_nonneg _ (by decide)) (by decide))]⟩
  obtain ⟨b', e1⟩ := e1
  have hs2 : smallZ 351 = true := small_lit (n := 351) (by omega)
  have hz2 : bitsZ 30 115 = true := bits30_nat (n := 115) (by omega)
  have hp : powG (.int 10) (.int 18) = some (.val (.int 1000000000000000000)) := by rfl
  have hz3 : (2 : Nat) ≤ sizeLine := by decide
  have hz4 : (1 : Nat) ≤ sizeLine := by decide
  obtain ⟨q, e2⟩ : ∃ q : Nat, (n : Int) / 115 = (q : Int) := ⟨n / 115, rfl⟩
  unfold cupD
  generalize (1000000000000000000 : Int) = big at hp
  generalize hL : ns.map PyData.int = L at *
  by_cases hb : big ≤ (n : Int)
  · refine ⟨q, b', ?_⟩
    simp [m__law_cup, b__law_cup, eListS, hL, hz, addG, hz1, hx, absG, hn, geG, hp, hb, fdivG, hz2, e2, mulG, hs2, intG, modG, e1, hz3, hz4]
  · refine ⟨0, b', ?_⟩
    simp [m__law_cup, b__law_cup, eListS, hL, hz, addG, hz1, hx, absG, hn, geG, hp, hb, fdivG, hz2, e2, mulG, hs2, intG, modG, e1, hz3, hz4]
theorem some_ok (a b : Nat) (xs : List Nat) (h0 : 0 < xs.length) (h1 : xs.length < 1000000) : ∃ x a' b', x ∈ xs ∧ m__law_some [.bor (cupD a b), .val (.list (xs.map tD))] = .ok (.val (tD x), some (cupD a' b')) := by
  obtain ⟨r, a', b', h2, h3⟩ := roll_ok a b xs.length h0 h1
  have hl : (xs.map (tD : Nat → D)).length = xs.length := List.length_map _
  have hi : (xs.map (tD : Nat → D))[r]? = some (tD xs[r]) := by rw [List.getElem?_map, List.getElem?_eq_getElem h2]; rfl
  refine ⟨xs[r], a', b', List.getElem_mem h2, ?_⟩
  generalize xs.map (tD : Nat → D) = L at *
  simp [m__law_some, b__law_some, lenG, hl, h3, mutS, idxG, atI_nat', hi]
/-- keys -/
def keysD (ks : List Nat) : List (D × D) := ks.map fun k => ((tD k : D), (.int 1 : D))
theorem keys_any (ks : List Nat) (k : Nat) : ((keysD ks).any fun kv => eqK kv.1 (tD k)) = decide (k ∈ ks) := by
  unfold keysD
  rw [List.any_map, Bool.eq_iff_iff, List.any_eq_true, decide_eq_true_eq]
  constructor
  · rintro ⟨x, h1, h2⟩
    have : eqK (tD x) (tD k) = true := h2
    have e : x = k := by
      unfold eqK at this
      have e : (x : Int) = (k : Int) := by simpa [tD_nat] using this
      exact Int.ofNat_inj.mp e
    exact e ▸ h1
  · intro h
    exact ⟨k, h, by show eqK (tD k) (tD k) = true; unfold eqK; simp [tD_nat]⟩
def addK (ks : List Nat) (k : Nat) : List Nat := if k ∈ ks then ks else ks ++ [k]
theorem put_keys (ks : List Nat) (k : Nat) : putD (keysD ks) (tD k) (.int 1) = keysD (addK ks k) := by
  unfold putD addK
  rw [keys_any]
  by_cases h : k ∈ ks
  · rw [if_pos (decide_eq_true h), if_pos h]
    unfold keysD
    rw [List.map_map]
    refine List.map_congr_left fun x _ => ?_
    show (if _ then _ else _) = _
    split <;> rfl
  · rw [if_neg (by simpa using h), if_neg h]
    unfold keysD
    rw [List.map_append]; rfl
theorem leaf_keys (ks : List Nat) : leafD (keysD ks) = true := by cases ks <;> rfl
structure Ks (ks : List Nat) (n : Nat) : Prop where
  nd : ks.Nodup
  rg : ∀ k ∈ ks, 1 ≤ k ∧ k ≤ 30
  le : ks.length ≤ n
  ne : 0 < n → ks ≠ []
theorem Ks.add {ks : List Nat} {n k : Nat} (h : Ks ks n) (hk : 1 ≤ k ∧ k ≤ 30) : Ks (addK ks k) (n + 1) := by
  unfold addK
  by_cases q : k ∈ ks
  · rw [if_pos q]
    exact ⟨h.nd, h.rg, Nat.le_succ_of_le h.le, fun _ e => by rw [e] at q; cases q⟩
  · rw [if_neg q]
    refine ⟨?_, fun x hx => ?_, by simp; exact h.le, fun _ e => by simp at e⟩
    · rw [List.nodup_append]
      exact ⟨h.nd, by simp, fun x hx y hy e => q (by rw [← List.mem_singleton.mp hy, ← e]; exact hx)⟩
    · rcases List.mem_append.mp hx with hx | hx
      · exact h.rg x hx
      · rw [List.mem_singleton.mp hx]; exact hk
theorem coins_in (a b : Nat) (ks : List Nat) (n : Nat) (h : Ks ks n) (hn : n < 100) (j3 : Sl) : ∃ a' b' ks', Ks ks' (n + 1) ∧
    b__law_coins_1 [.bor (cupD a b), .val (.int 30), .own (.dict (keysD ks)), j3] = .ok (.nx, [.bor (cupD a' b'), .val (.int 30), .own (.dict (keysD ks')), j3]) := by
  obtain ⟨r, a1, b1, h1, h2⟩ := roll_ok a b 30 (by decide) (by decide)
  obtain ⟨x, a2, b2, h3, h4⟩ := some_ok a1 b1 [1, 1, 2, 3, 5, 1 + r] (by simp) (by simp)
  have hx : 1 ≤ x ∧ x ≤ 30 := by
    simp only [List.mem_cons, List.not_mem_nil, or_false] at h3
    omega
  refine ⟨a2, b2, addK ks x, h.add hx, ?_⟩
  have g2 : m__law_roll [.bor (cupD a b), .val (.int 30)] = _ := h2
  have g4 : m__law_some [.bor (cupD a1 b1), .val (.list [.int 1, .int 1, .int 2, .int 3, .int 5, .int (1 + (r : Int))])] = .ok (.val (.int (x : Int)), some (cupD a2 b2)) := by
    have e : (.int (1 + (r : Int)) : D) = tD (1 + r) := by rw [tD_nat, Int.natCast_add]; rfl
    rw [e]; exact h4
  have hp := put_keys ks x
  rw [tD_nat] at hp
  have hl : (keysD ks).length < sizeLine := by unfold keysD; rw [List.length_map]; exact Nat.lt_of_le_of_lt h.le (Nat.lt_trans hn (by decide))
  have hlf := leaf_keys ks
  have hlk : leafK (.int (x : Int)) = some (.inl (x : Int)) := rfl
  have hz : (6 : Nat) ≤ sizeLine := by decide
  generalize keysD ks = K at *
  generalize cupD a b = Z0 at *
  generalize cupD a1 b1 = Z1 at *
  generalize cupD a2 b2 = Z2 at *
  generalize keysD (addK ks x) = K2 at *
  simp [b__law_coins_1, g2, g4, mutS, setG, setDK, hlk, hlf, hl, hp, addG, hz]
theorem pairwise_zip : ∀ {cs : List Nat}, cs.Pairwise (· < ·) → ∀ p ∈ cs.zip (cs.drop 1), p.1 < p.2
  | [], _, p, h => by simp at h
  | [x], _, p, h => by simp at h
  | x :: y :: cs, h, p, hp => by
    have hp : p ∈ (x, y) :: (y :: cs).zip cs := hp
    rcases List.mem_cons.mp hp with e | hp
    · subst e; exact (List.pairwise_cons.mp h).1 y List.mem_cons_self
    · exact pairwise_zip (cs := y :: cs) (List.pairwise_cons.mp h).2 p hp
theorem Ks.good {ks : List Nat} {n : Nat} (h : Ks ks n) (h0 : 0 < n) (h4 : n ≤ 6) : Good (ks.mergeSort L3.tLe) ∧ ∀ c ∈ ks.mergeSort L3.tLe, c ≤ 30 := by
  have pm := List.mergeSort_perm ks L3.tLe
  have sr : (ks.mergeSort L3.tLe).Pairwise (fun a b => (L3.tLe a b) = true) := List.pairwise_mergeSort (fun a b c h1 h2 => by
      have h1 : (!decide (b < a)) = true := h1
      have h2 : (!decide (c < b)) = true := h2
      show (!decide (c < a)) = true
      simp only [Bool.not_eq_true', decide_eq_false_iff_not] at *
      omega) (fun a b => by
      show ((!decide (b < a)) || (!decide (a < b))) = true
      simp only [Bool.or_eq_true, Bool.not_eq_true', decide_eq_false_iff_not]
      omega) ks
  have nd : (ks.mergeSort L3.tLe).Nodup := pm.nodup_iff.mpr h.nd
  have lt : (ks.mergeSort L3.tLe).Pairwise (· < ·) := by
    have := sr.and nd
    refine this.imp ?_
    rintro a b ⟨h1, h2⟩
    have h1 : (!decide (b < a)) = true := h1
    simp only [Bool.not_eq_true', decide_eq_false_iff_not] at h1
    have h2 : a ≠ b := h2
    omega
  refine ⟨⟨fun e => ?_, by rw [pm.length_eq]; exact Nat.le_trans h.le h4, fun c hc => ?_, pairwise_zip lt⟩, fun c hc => (h.rg c (pm.mem_iff.mp hc)).2⟩
  · rw [e] at pm
    exact h.ne h0 (List.nil_perm.mp pm)
  · have := h.rg c (pm.mem_iff.mp hc)
    omega
theorem coins_ok (a b : Nat) : ∃ a' b' cs, Good cs ∧ (∀ c ∈ cs, c ≤ 30) ∧ m__law_coins [.bor (cupD a b), .val (.int 30)] = .ok (.val (tD (Tup.mk cs)), some (cupD a' b')) := by
  obtain ⟨r, a1, b1, h1, h2⟩ := roll_ok a b 4 (by decide) (by decide)
  have h2 : m__law_roll [.bor (cupD a b), .val (.int 4)] = _ := h2
  have q := loop_ix (g := gN 3) (b := b__law_coins_1) (fun i (p : Nat × Nat × List Nat) ρ => Ks p.2.2 i ∧ ∃ j, ρ = [.bor (cupD p.1 p.2.1), .val (.int 30), .own (.dict (keysD p.2.2)), j])
    ((List.range (1 + r)).map (fun i : Nat => (tD i : D))) (1 + r) 0 (a1, b1, []) _ (by simp) ⟨⟨List.nodup_nil, fun _ h => (by cases h), Nat.le_refl _, fun h => absurd h (Nat.lt_irrefl _)⟩, .no, rfl⟩ fun i p ρ d hd hst => by
      obtain ⟨hk, j, rfl⟩ := hst
      have hi : i < 1 + r := by
        have := (List.getElem?_eq_some_iff.mp hd).1
        simpa using this
      obtain ⟨a', b', ks', k1, k2⟩ := coins_in p.1 p.2.1 p.2.2 i hk (by omega) (.val d)
      exact ⟨_, _, (a', b', ks'), rfl, k2, k1, _, rfl⟩
  obtain ⟨ρ', p, l1, l2, j, rfl⟩ := q
  rw [List.drop_zero] at l1
  rw [List.length_map, List.length_range] at l2
  obtain ⟨g1, g2⟩ := l2.good (by omega) (by omega)
  refine ⟨p.1, p.2.1, _, g1, g2, ?_⟩
  have hr1 := rng1_nat (n := 1 + r) (by omega)
  have hr1 : rng1 [.int (1 + (r : Int))] = _ := hr1
  have hF : sFor (iK rng1 (aCons (eOp2 addG (oE (eC (.int 1))) (oE (eLend m__law_roll 0 (aCons (eC (.int 4)) aNil)))) aNil)) (gN 3) b__law_coins_1 [.bor (cupD a b), .val (.int 30), .own (.dict (keysD [])), .no] = _ := (sFor_run (by
    generalize cupD a b = Z0 at *
    generalize cupD a1 b1 = Z1 at *
    simp [h2, mutS, addG, hr1])).trans l1
  have hk : (keysD p.2.2).map (·.1) = p.2.2.map (tD : Nat → D) := by unfold keysD; rw [List.map_map]; rfl
  have hs := sortD_t p.2.2
  have hso := sortOk_nat p.2.2 (Nat.le_trans l2.le (by omega))
  have hlf := leaf_keys p.2.2
  rw [← hk] at hs hso
  have h00 : keysD [] = [] := rfl
  rw [h00] at hF
  rw [tD_tup, ← hs]
  generalize keysD p.2.2 = K at *
  generalize cupD p.1 p.2.1 = Z2 at *
  generalize cupD a b = Z0 at *
  simp [m__law_coins, b__law_coins, hF, sortG, hlf, hso, tupleG]
end K78

end
section
namespace K78
open PySem PySem.W L2 L3
theorem worth_ok (cs v : List Nat) (hc : ∀ c ∈ cs, c ≤ 1000) : m__law_worth [.val (tD (Tup.mk cs)), .val (tD (Tup.mk v))] = .ok (.val (tD (dot v cs)), none) := by
  obtain ⟨ρ', q1, j3, j4, rfl⟩ := loop_pre (g := gT (gsCons (gN 3) (gsCons (gN 4) gsNil))) (b := b__law_worth_1) (fun p : Nat × Nat => (.tuple [tD p.1, tD p.2] : D)) (fun (w : Nat) ρ => ∃ j3 j4, ρ = [.val (tD (Tup.mk cs)), .val (tD (Tup.mk v)), .val (tD w), j3, j4]) (fun w p => w + p.1 * p.2) (cs.zip v) 0
    [.val (tD (Tup.mk cs)), .val (tD (Tup.mk v)), .val (.int 0), .no, .no] ⟨_, _, rfl⟩ fun pre p post ρ hp hst => by
      obtain ⟨j3, j4, rfl⟩ := hst
      have hm : p ∈ cs.zip v := by rw [hp]; simp
      have := hc _ (List.of_mem_zip hm).1
      have hsm : smallZ (p.1 : Int) = true := small_nat (by omega)
      refine ⟨_, _, rfl, ?_, .val (tD p.1), .val (tD p.2), rfl⟩
      generalize pre.foldl (fun w p => w + p.1 * p.2) 0 = w
      have e : (tD (w + p.1 * p.2) : D) = .int ((w : Int) + (p.1 : Int) * (p.2 : Int)) := by rw [tD_nat, Int.natCast_add, Int.natCast_mul]
      rw [e]
      generalize (tD (Tup.mk cs) : D) = C
      generalize (tD (Tup.mk v) : D) = V
      simp only [tD_nat]
      simp [b__law_worth_1, addG, mulG, hsm]
  have hd : ∀ (cs v : List Nat) (w : Nat), (cs.zip v).foldl (fun w p => w + p.1 * p.2) w = w + dot v cs := by
    intro cs
    induction cs with
    | nil => intro v w; cases v <;> rfl
    | cons c cs ih =>
      intro v w
      cases v with
      | nil => rfl
      | cons x v =>
        rw [List.zip_cons_cons, List.foldl_cons, ih, dot]
        show w + c * x + dot v cs = w + (x * c + dot v cs)
        rw [Nat.mul_comm x c]; omega
  rw [hd, Nat.zero_add] at q1
  have hF : sFor (iK zipK (aCons (eVar 0) (aCons (eVar 1) aNil))) (gT (gsCons (gN 3) (gsCons (gN 4) gsNil))) b__law_worth_1 [.val (tD (Tup.mk cs)), .val (tD (Tup.mk v)), .val (.int 0), .no, .no] = _ := (sFor_run (by
    have := zip2D_map cs v
    simp only [tD_tup]
    rw [← this]
    generalize cs.map (tD : Nat → D) = C
    generalize v.map (tD : Nat → D) = V
    simp [seqD])).trans q1
  generalize (tD (Tup.mk cs) : D) = C at *
  generalize (tD (Tup.mk v) : D) = V at *
  simp [m__law_worth, b__law_worth, hF]
theorem sum_le_dot : ∀ (w cs : List Nat), w.length = cs.length → (∀ i, i < cs.length → 0 < cs[i]?.getD 0) → w.sum ≤ dot w cs
  | [], [], _, _ => Nat.le_refl _
  | x :: w, c :: cs, hl, hp => by
    have ih := sum_le_dot w cs (by simpa using hl) fun i hi => by have := hp (i + 1) (by simpa using hi); simpa using this
    have h0 : 0 < c := by simpa using hp 0 (by simp)
    rw [List.sum_cons, dot]
    have := Nat.le_mul_of_pos_right x h0
    omega
  | [], _ :: _, hl, _ => by simp at hl
  | _ :: _, [], hl, _ => by simp at hl
/-- where it is not worse, it is as good -/
theorem not_bad {cs : List Nat} {t : List (Option (Nat × List Nat))} {a : Nat} (ht : Tab cs t) {n : Nat} {v : List Nat} (h : t[a]? = some (some (n, v))) (hb : bad cs t a = false) : ∃ w, grA cs a = some w ∧ w.sum = v.sum := by
  have hB := ht _ _ h
  unfold bad at hb
  rw [h] at hb
  dsimp only [Option.join_some] at hb
  cases q : grA cs a with
  | none => rw [q] at hb; cases hb
  | some w =>
    rw [q] at hb
    have hb : ¬ n < w.sum := of_decide_eq_false hb
    obtain ⟨b1, b2, b3, b4⟩ := hB
    obtain ⟨w1, w2⟩ := grA_dot q
    have := fun z => b4 w w1 w2 (.inl z)
    have : ¬ w.sum < n := this
    exact ⟨w, rfl, by omega⟩
theorem not_bad0 {cs : List Nat} {t : List (Option (Nat × List Nat))} (hp : ∀ i, i < cs.length → 0 < cs[i]?.getD 0) : bad cs t 0 = false := by
  unfold bad
  cases (t[0]?).join with
  | none => rfl
  | some p =>
    have h2 := grF_dot cs 0
    have hz : (grF cs 0).2 = 0 := by omega
    have e : grA cs 0 = some (grF cs 0).1 := by unfold grA; rw [if_pos hz]
    rw [e]
    have := sum_le_dot (grF cs 0).1 cs h2.1 hp
    exact decide_eq_false (by omega)
theorem bad_same {cs : List Nat} {t t' : List (Option (Nat × List Nat))} {a : Nat} (ht : Tab cs t) (ht' : Tab cs t') (h : a < t.length) (h' : a < t'.length) : bad cs t a = bad cs t' a := by
  have e1 := List.getElem?_eq_getElem h
  have e2 := List.getElem?_eq_getElem h'
  have e := (ht _ _ e1).uniq (ht' _ _ e2)
  unfold bad
  rw [e1, e2, e]
theorem tabD_at {t : List (Option (Nat × List Nat))} {b : Nat} (h : b < t.length) : (tabD t)[b]? = some (tD (((t[b]?).join).map toT)) := by
  unfold tabD
  rw [List.getElem?_map, List.getElem?_eq_getElem h]; rfl
theorem right2_ok {cs : List Nat} (h : Good cs) {t : List (Option (Nat × List Nat))} (a : Nat) (ha : a < t.length) (hA : a < 100000) (Z : Sl) (fs : List Nat) (hf : fs.length ≤ 1000) (j5 j6 j7 : Sl) :
    ∃ j5, b__law_right_2 [Z, .val (tD (Tup.mk cs)), .own (.list (tabD t)), .own (.list (fs.map tD)), .val (tD a), k5, j6, j7] = .ok (.nx, [Z, .val (tD (Tup.mk cs)), .own (.list (tabD t)), .own (.list ((pushO fs (if bad cs t a = true then some a else none)).map tD)), .val (tD a), j5, j6, j7]) := by
  have hT := tabD_at ha
  have hg := great_ok h.c0 a hA
  have hfl : (fs.map (tD : Nat → D)).length ≤ 1000 := by rw [List.length_map]; exact hf
  simp only [tD_tup, tD_nat] at *
  rw [pushO_map]
  generalize cs.map (tD : Nat → D) = C at *
  generalize tabD t = T at *
  generalize fs.map (tD : Nat → D) = FF at *
  unfold bad
  have z1 : FF.length + 1 ≤ 16777216 := by omega
  have z0 : FF.length ≤ 16777216 := by omega
  have z2 : (1 : Nat) ≤ 16777216 := by decide
  refine ⟨.val (tD (oT (grA cs a))), ?_⟩
  cases q : (t[a]?).join with
  | none =>
    rw [q] at hT
    have hT : T[a]? = some .none := hT
    simp [b__law_right_2, hg, idxG, atI_nat', hT, isntG, isNoneD, addG, sizeLine_eq', z0, z1, z2]
  | some p =>
    rw [q] at hT
    have hT : T[a]? = some (.tuple [.int (p.1 : Int), tD (Tup.mk p.2)]) := hT
    cases q2 : grA cs a with
    | none =>
      rw [q2] at hg
      have e : (tD (oT none) : D) = .none := rfl
      rw [e] at hg ⊢
      simp [b__law_right_2, hg, idxG, atI_nat', hT, isntG, isNoneD, isG, addG, sizeLine_eq', z0, z1, z2, tD_nat]
    | some v =>
      rw [q2] at hg
      have e : (tD (oT (some v)) : D) = .tuple (v.map tD) := rfl
      rw [e] at hg ⊢
      have hs := sum_t v
      generalize v.map (tD : Nat → D) = V at *
      by_cases hb : p.1 < v.sum
      · simp [b__law_right_2, hg, idxG, atI_nat', hT, isntG, isNoneD, isG, hs, gtG, hb, addG, sizeLine_eq', z0, z1, z2, tD_nat]
      · simp [b__law_right_2, hg, idxG, atI_nat', hT, isntG, isNoneD, isG, hs, gtG, hb, addG, sizeLine_eq', z0, z1, z2]
theorem le_sum : ∀ (v : List Nat) (a : Nat), a ∈ v → a ≤ v.sum
  | x :: v, a, h => by
    rw [List.sum_cons]
    rcases List.mem_cons.mp h with e | h
    · omega
    · have := le_sum v a h
      omega
theorem sh_oT (o : Option (List Nat)) (h : ∀ v, o = some v → v.length ≤ 6 ∧ v.sum < 100000) : Sh 1000 (tD (oT o)) := by
  cases o with
  | none => exact Sh.none
  | some v =>
    obtain ⟨h1, h2⟩ := h v rfl
    refine Sh.tuple (n := 13) (k := 6) (fun x hx => ?_) (by rw [List.length_map]; exact h1) (by decide)
    obtain ⟨a, ha, rfl⟩ := List.mem_map.mp hx
    have : a ≤ v.sum := le_sum v a ha
    exact Sh.nat (by omega)
theorem right1_ok {cs : List Nat} (h : Good cs) {t : List (Option (Nat × List Nat))} (ht : Tab cs t) (hl : 0 < t.length) (hl2 : t.length ≤ 1000) (fs : List Nat) (hfs : fs = [] → ∀ a, a < 2 * cs.getLast h.ne → bad cs t a = false) (x y : Nat) (j4 j5 j6 j7 : Sl) :
    ∃ x' y' k4 k7, b__law_right_1 [.bor (cupD x y), .val (tD (Tup.mk cs)), .own (.list (tabD t)), .own (.list (fs.map tD)), j4, j5, j6, j7] = .ok (.nx, [.bor (cupD x' y'), .val (tD (Tup.mk cs)), .own (.list (tabD t)), .own (.list (fs.map tD)), k4, j5, j6, k7]) := by
  have htl : (tabD t).length = t.length := List.length_map _
  obtain ⟨a, x', y', ha, hr⟩ := roll_ok x y t.length hl (by omega)
  have hT := tabD_at ha
  have q := List.getElem?_eq_getElem ha
  obtain ⟨o, o1, o2⟩ := least_ok h a (by omega)
  have eo := o1.uniq (ht _ _ q)
  subst eo
  have hg := greedy_ok2 h a (by omega)
  have hG := great_ok h.c0 a (by omega)
  have hpos := h.c0.pos
  have s2 : Sh 1000 (tD (oT (grA cs a))) := sh_oT _ fun v hv => by
    obtain ⟨w1, w2⟩ := grA_dot hv
    have := sum_le_dot v cs w1 hpos
    have := h.le
    omega
  have s1 : Sh 1000 (tD (oT (t[a].map Prod.snd))) := sh_oT _ fun v hv => by
    cases e : t[a] with
    | none => rw [e] at hv; cases hv
    | some p =>
      obtain ⟨n, w⟩ := p
      rw [e] at hv o1
      cases hv
      have := sum_le_dot w cs o1.1 hpos
      have h2 : dot w cs = a := o1.2.1
      have h3 : w.length = cs.length := o1.1
      have := h.le
      show w.length ≤ 6 ∧ w.sum < 100000
      omega
  have hsh : Sh 3000 (.tuple [tD (oT (t[a].map Prod.snd)), tD (oT (grA cs a))]) := Sh.tuple (n := 1000) (k := 2) (by
    intro z hz
    rcases List.mem_cons.mp hz with e | hz
    · rw [e]; exact s1
    · rcases List.mem_cons.mp hz with e | hz
      · rw [e]; exact s2
      · cases hz) (by simp) (by decide)
  have hok : okD (.tuple [tD (oT (t[a].map Prod.snd)), tD (oT (grA cs a))]) = true := okD_t (α := Option (Tup Nat) × Option (Tup Nat)) (oT (t[a].map Prod.snd), oT (grA cs a))
  have hrep := reprG_ok hsh hok (by decide)
  have hlast : (cs.map (tD : Nat → D)).getLast (by simp [h.ne]) = .int ((cs.getLast h.ne : Nat) : Int) := by rw [List.getLast_map]; rfl
  have hne : cs.map (tD : Nat → D) ≠ [] := by simp [h.ne]
  have hat := atI_last' _ hne
  rw [hlast] at hat
  have hw : ∀ v, m__law_worth [.val (tD (Tup.mk cs)), .val (tD (Tup.mk v))] = .ok (.val (tD (dot v cs)), none) := fun v => worth_ok cs v fun c hc => by have := (h.rg c hc).2; omega
  refine ⟨x', y', .val (tD a), .val (tD (oT (t[a].map Prod.snd))), ?_⟩
  rw [q] at hT
  have hnf : neG (.list (fs.map tD)) (.list []) = some (.val (.bool (decide (fs ≠ [])))) := neG_t (α := List Nat) fs []
  have hef : eqG (.list (fs.map tD)) (.list []) = some (.val (.bool (decide (fs = [])))) := eqG_t (α := List Nat) fs []
  have z2 : (2 : Nat) ≤ 16777216 := by decide
  have hsm : smallZ 2 = true := small_lit (n := 2) (by omega)
  have hlt : ∀ n : Nat, ltG (.int (a : Int)) (.int (2 * ((cs.getLast h.ne : Nat) : Int))) = some (.val (.bool (decide (a < 2 * cs.getLast h.ne)))) := fun n => by
    show some (Rs.val (.bool (decide _))) = _
    congr 3
    exact decide_eq_decide.mpr (by omega)
  cases e : t[a] with
  | none =>
    rw [e] at hT o2 hrep
    have hT : (tabD t)[a]? = some .none := hT
    have e1 : (tD (oT (Option.map (Prod.snd : Nat × List Nat → List Nat) none)) : D) = .none := rfl
    rw [e1] at o2 hrep ⊢
    simp only [tD_nat] at o2 hg hG ⊢
    generalize (tD (oT (grA cs a)) : D) = GG at *
    generalize (tD (Tup.mk cs) : D) = C at *
    generalize tabD t = T at *
    generalize cupD x y = Z0 at *
    generalize cupD x' y' = Z1 at *
    simp [b__law_right_1, lenG, htl, hr, mutS, idxG, atI_nat', hT, isntG, isNoneD, o2, hg, hG, sizeLine_eq', z2, hrep, neG_str]
  | some p =>
    obtain ⟨n, v⟩ := p
    rw [e] at hT o2 hrep q o1
    have hT : (tabD t)[a]? = some (.tuple [.int (n : Int), tD (Tup.mk v)]) := hT
    have e1 : (tD (oT (Option.map (Prod.snd : Nat × List Nat → List Nat) (some (n, v)))) : D) = tD (Tup.mk v) := rfl
    rw [e1] at o2 hrep ⊢
    have hwv := hw v
    rw [o1.2.1] at hwv
    have hna : neG (.int (a : Int)) (.int (a : Int)) = some (.val (.bool false)) := by
      have := neG_t (α := Nat) a a
      rw [show decide (a ≠ a) = false by simp] at this
      exact this
    have i4 : isntG (tD (Tup.mk v)) .none = some (.val (.bool true)) := rfl
    have i1 : idxG (.list (tabD t)) (.int (a : Int)) = some (.val (.tuple [.int (n : Int), tD (Tup.mk v)])) := by
      unfold idxG
      dsimp only
      rw [atI_nat', hT]; rfl
    have i2 : idxG (.tuple [.int (n : Int), tD (Tup.mk v)]) (.int 1) = some (.val (tD (Tup.mk v))) := rfl
    have i3 : isntG (.tuple [.int (n : Int), tD (Tup.mk v)]) .none = some (.val (.bool true)) := rfl
    have i5 : idxG (tD (Tup.mk cs)) (.int (-1)) = some (.val (.int ((cs.getLast h.ne : Nat) : Int))) := by
      rw [tD_tup]
      unfold idxG
      dsimp only
      rw [hat]; rfl
    have i6 : lenG (.list (tabD t)) = some (.val (.int (t.length : Int))) := by unfold lenG; dsimp only; rw [htl]
    have sv := sum_t v
    rw [← tD_tup] at sv
    have hns : neG (.int ((v.sum : Nat) : Int)) (.int ((v.sum : Nat) : Int)) = some (.val (.bool false)) := by
      have := neG_t (α := Nat) v.sum v.sum
      rw [show decide (v.sum ≠ v.sum) = false by simp] at this
      exact this
    have hlt := hlt 0
    by_cases hf : fs = []
    · have hb := hfs hf a
      rw [decide_eq_true hf] at hef
      by_cases hal : a < 2 * cs.getLast h.ne
      · obtain ⟨w, w1, w2⟩ := not_bad ht q (hb hal)
        rw [w1] at hg hG hrep
        have e2 : (tD (oT (some w)) : D) = tD (Tup.mk w) := rfl
        rw [e2] at hg hG hrep
        have sw := sum_t w
        rw [w2, ← tD_tup] at sw
        rw [decide_eq_true hal] at hlt
        simp only [tD_nat] at *
        generalize (tD (Tup.mk w) : D) = W at *
        generalize (tD (Tup.mk v) : D) = V at *
        generalize (tD (Tup.mk cs) : D) = C at *
        generalize tabD t = T at *
        generalize cupD x y = Z0 at *
        generalize cupD x' y' = Z1 at *
        generalize fs.map (tD : Nat → D) = FF at *
        simp [b__law_right_1, i6, hr, mutS, i1, i2, i3, i4, i5, o2, hg, hG, sizeLine_eq', z2, hrep, neG_str, hwv, hna, hef, negG, mulG, hsm, hlt, sw, sv, hns]
      · rw [decide_eq_false hal] at hlt
        simp only [tD_nat] at *
        generalize (tD (oT (grA cs a)) : D) = GG at *
        generalize (tD (Tup.mk v) : D) = V at *
        generalize (tD (Tup.mk cs) : D) = C at *
        generalize tabD t = T at *
        generalize cupD x y = Z0 at *
        generalize cupD x' y' = Z1 at *
        generalize fs.map (tD : Nat → D) = FF at *
        simp [b__law_right_1, i6, hr, mutS, i1, i2, i3, i4, i5, o2, hg, hG, sizeLine_eq', z2, hrep, neG_str, hwv, hna, hef, negG, mulG, hsm, hlt]
    · rw [decide_eq_false hf] at hef
      simp only [tD_nat] at *
      generalize (tD (oT (grA cs a)) : D) = GG at *
      generalize (tD (Tup.mk v) : D) = V at *
      generalize (tD (Tup.mk cs) : D) = C at *
      generalize tabD t = T at *
      generalize cupD x y = Z0 at *
      generalize cupD x' y' = Z1 at *
      generalize fs.map (tD : Nat → D) = FF at *
      simp [b__law_right_1, i6, hr, mutS, i1, i2, i3, i4, i5, o2, hg, hG, sizeLine_eq', z2, hrep, neG_str, hwv, hna, hef]
end K78

end
section
namespace K78
open PySem PySem.W L2 L3
theorem find_same {p q : Nat → Bool} : ∀ xs : List Nat, (∀ x ∈ xs, p x = q x) → xs.find? p = xs.find? q
  | [], _ => rfl
  | x :: xs, h => by rw [List.find?_cons, List.find?_cons, h x List.mem_cons_self, find_same xs fun y hy => h y (List.mem_cons_of_mem _ hy)]
theorem find_filter {p : Nat → Bool} : ∀ xs : List Nat, (xs.filterMap fun a => if p a = true then some a else none)[0]? = xs.find? p
  | [] => rfl
  | x :: xs => by
    rw [List.filterMap_cons, List.find?_cons]
    cases h : p x with
    | true => rfl
    | false => simpa using find_filter (p := p) xs
theorem right_ok (x y : Nat) : ∃ x' y', m__law_right [.bor (cupD x y)] = .ok (.val (.bool true), some (cupD x' y')) := by
  obtain ⟨x1, y1, cs, hg, h30, hc⟩ := coins_ok x y
  obtain ⟨l1, l2⟩ := hg.last
  have l3 := h30 _ (List.getLast_mem hg.ne)
  have hne : cs.map (tD : Nat → D) ≠ [] := by simp [hg.ne]
  have hlast : (cs.map (tD : Nat → D)).getLast hne = .int ((cs.getLast hg.ne : Nat) : Int) := by rw [List.getLast_map]; rfl
  have hat := atI_last' _ hne
  rw [hlast] at hat
  have i5 : idxG (tD (Tup.mk cs)) (.int (-1)) = some (.val (.int ((cs.getLast hg.ne : Nat) : Int))) := by
    rw [tD_tup]
    unfold idxG
    dsimp only
    rw [hat]; rfl
  obtain ⟨t, t1, t2, t3⟩ := few_ok hg.cc (2 * cs.getLast hg.ne + 20) (by omega)
  obtain ⟨u, u1, u2, u3⟩ := fault_ok hg
  have hare := are_ok hg
  -- the faults
  obtain ⟨ρ', q1, j4, j5, rfl⟩ := loop_pre (g := gN 4) (b := b__law_right_2) (fun i : Nat => (tD i : D)) (fun (fs : List Nat) ρ => ∃ j4 j5, ρ = [.bor (cupD x1 y1), .val (tD (Tup.mk cs)), .own (.list (tabD t)), .own (.list (fs.map tD)), j4, j5, .no, .no])
    (fun fs a => pushO fs (if bad cs t a = true then some a else none)) (List.range' 1 (2 * cs.getLast hg.ne - 1)) [] [.bor (cupD x1 y1), .val (tD (Tup.mk cs)), .own (.list (tabD t)), .own (.list []), .no, .no, .no, .no] ⟨_, _, rfl⟩ fun pre a post ρ hp hst => by
      obtain ⟨j4, j5, rfl⟩ := hst
      have ha : a ∈ List.range' 1 (2 * cs.getLast hg.ne - 1) := by rw [hp]; simp
      rw [List.mem_range'_1] at ha
      have hpl : pre.length ≤ 1000 := by
        have := congrArg List.length hp
        simp at this; omega
      have hf : (pre.foldl (fun fs a => pushO fs (if bad cs t a = true then some a else none)) []).length ≤ 1000 := by
        rw [foldl_opt, List.nil_append]
        exact Nat.le_trans (List.length_filterMap_le _ _) hpl
      obtain ⟨k5, e⟩ := right2_ok (k5 := j5) hg (t := t) a (by omega) (by omega) (.bor (cupD x1 y1)) _ hf .no .no .no
      exact ⟨_, _, rfl, e, _, _, rfl⟩
  rw [foldl_opt, List.nil_append] at q1
  have hfind := find_filter (p := bad cs t) (List.range' 1 (2 * cs.getLast hg.ne - 1))
  have hfs0 : ((List.range' 1 (2 * cs.getLast hg.ne - 1)).filterMap fun a => if bad cs t a = true then some a else none) = [] → ∀ a, a < 2 * cs.getLast hg.ne → bad cs t a = false := by
    intro e a ha
    cases a with
    | zero => exact not_bad0 hg.c0.pos
    | succ a =>
      have := (List.filterMap_eq_nil_iff.mp e) (a + 1) (by rw [List.mem_range'_1]; omega)
      cases h : bad cs t (a + 1) with
      | false => rfl
      | true => rw [h] at this; cases this
  have hfl : ∀ a ∈ ((List.range' 1 (2 * cs.getLast hg.ne - 1)).filterMap fun a => if bad cs t a = true then some a else none), a < 1000 := fun a ha => by
    obtain ⟨b, hb, e⟩ := List.mem_filterMap.mp ha
    rw [List.mem_range'_1] at hb
    split at e
    · cases e; omega
    · cases e
  have hsame : (List.range' 1 (2 * cs.getLast hg.ne - 1)).find? (bad cs u) = (List.range' 1 (2 * cs.getLast hg.ne - 1)).find? (bad cs t) := find_same _ fun a ha => by
    rw [List.mem_range'_1] at ha
    exact bad_same u2 t2 (by omega) (by omega)
  rw [hsame, ← hfind] at u3
  generalize ((List.range' 1 (2 * cs.getLast hg.ne - 1)).filterMap fun a => if bad cs t a = true then some a else none) = fs at q1 hfs0 u3 hfl
  -- the turns
  obtain ⟨ρ', p, r1, _, j4', j6', j7', rfl⟩ := loop_ix (g := gN 6) (b := b__law_right_1) (fun i (p : Nat × Nat) ρ => True ∧ ∃ j4 j6 j7, ρ = [.bor (cupD p.1 p.2), .val (tD (Tup.mk cs)), .own (.list (tabD t)), .own (.list (fs.map tD)), j4, j5, j6, j7])
    ((List.range 8).map (fun i : Nat => (tD i : D))) 8 0 (x1, y1) [.bor (cupD x1 y1), .val (tD (Tup.mk cs)), .own (.list (tabD t)), .own (.list (fs.map tD)), j4, j5, .no, .no] (by simp) ⟨trivial, _, _, _, rfl⟩ fun i p ρ d hd hst => by
      obtain ⟨_, j4, j6, j7, rfl⟩ := hst
      obtain ⟨x', y', k4, k7, e⟩ := right1_ok hg t2 (by omega) (by omega) fs hfs0 p.1 p.2 j4 j5 (.val d) j7
      exact ⟨_, _, (x', y'), rfl, e, trivial, _, _, _, rfl⟩
  rw [List.drop_zero] at r1
  refine ⟨p.1, p.2, ?_⟩
  have r2 := rng2_nat (m := 1) (n := 2 * cs.getLast hg.ne) (by omega) (by omega)
  have r2 : rng2 [.int 1, .int (2 * ((cs.getLast hg.ne : Nat) : Int))] = _ := r2
  have r8 := rng1_nat (n := 8) (by omega)
  have r8 : rng1 [.int 8] = _ := r8
  have hsm : smallZ 2 = true := small_lit (n := 2) (by omega)
  have t3 : m__law_few [.val (tD (Tup.mk cs)), .val (.int (2 * ((cs.getLast hg.ne : Nat) : Int) + 20))] = _ := t3
  have hF : sFor (iK rng2 (aCons (eC (.int 1)) (aCons (eOp2 mulG (oE (eC (.int 2))) (oE (eOp2 idxG (oVar 1) (oE (eOp1 negG (oE (eC (.int 1)))))))) aNil))) (gN 4) b__law_right_2 [.bor (cupD x1 y1), .val (tD (Tup.mk cs)), .own (.list (tabD t)), .own (.list []), .no, .no, .no, .no] = _ := (sFor_run (by
    generalize (tD (Tup.mk cs) : D) = C at *
    generalize cupD x1 y1 = Z1 at *
    generalize cs.getLast hg.ne = L at *
    simp [i5, mulG, hsm, negG]
    rw [r2])).trans q1
  have hF2 : sFor (iK rng1 (aCons (eC (.int 8)) aNil)) (gN 6) b__law_right_1 [.bor (cupD x1 y1), .val (tD (Tup.mk cs)), .own (.list (tabD t)), .own (.list (fs.map tD)), j4, j5, .no, .no] = _ := (sFor_run (by
    simp only [iK, aCons, eC, aNil, R.bind_ok, Rs.d, r8])).trans r1
  have hnf : neG (.list (fs.map tD)) (.list []) = some (.val (.bool (decide (fs ≠ [])))) := neG_t (α := List Nat) fs []
  have hrep : ∀ o : Option Nat, (∀ a, o = some a → a < 1000) → reprG (tD o) = some (.val (.str (tD o : D).shown)) := fun o ho => by
    refine reprG_ok (n := 13) ?_ (okD_t (α := Option Nat) o) (by decide)
    cases o with
    | none => exact Sh.none
    | some a => exact Sh.nat (by have := ho a rfl; omega)
  have z0 : (0 : Nat) ≤ 16777216 := by decide
  have hib : isntG (.bool true) (.bool true) = some (.val (.bool false)) := rfl
  cases hfs : fs with
  | nil =>
    rw [hfs] at hF hF2 u3 hnf
    have u3 : m_greedy_fault [.val (tD (Tup.mk cs))] = .ok (.val .none, none) := u3
    have hrn : reprG .none = _ := hrep none fun _ h => nomatch h
    have hnf : neG (.list []) (.list []) = some (.val (.bool false)) := hnf
    rw [List.map_nil] at hF2 hF
    generalize (tD (Tup.mk cs) : D) = C at *
    generalize tabD t = T at *
    generalize cupD x1 y1 = Z1 at *
    generalize cupD x y = Z0 at *
    generalize cupD p.1 p.2 = Z2 at *
    simp [m__law_right, b__law_right, hc, mutS, i5, mulG, hsm, negG, addG, t3, sizeLine_eq', z0, hare, hib, hF, u3, hrn, hnf, neG_str, hF2]
  | cons a as =>
    rw [hfs] at hF hF2 u3 hnf hfl
    have u3 : m_greedy_fault [.val (tD (Tup.mk cs))] = .ok (.val (tD a), none) := u3
    have hrn : reprG (tD a) = _ := hrep (some a) fun b h => by cases h; exact hfl _ List.mem_cons_self
    have hnf : neG (.list ((a :: as).map tD)) (.list []) = some (.val (.bool true)) := hnf
    have i0 : idxG (.list ((a :: as).map (tD : Nat → D))) (.int 0) = some (.val (tD a)) := by
      unfold idxG
      dsimp only
      rw [atI_zero]; rfl
    generalize (a :: as).map (tD : Nat → D) = FF at *
    generalize (tD a : D) = AA at *
    generalize (tD (Tup.mk cs) : D) = C at *
    generalize tabD t = T at *
    generalize cupD x1 y1 = Z1 at *
    generalize cupD x y = Z0 at *
    generalize cupD p.1 p.2 = Z2 at *
    simp [m__law_right, b__law_right, hc, mutS, i5, mulG, hsm, negG, addG, t3, sizeLine_eq', z0, hare, hib, hF, u3, hrn, hnf, neG_str, hF2, i0]
end K78

end
section
namespace K78
open PySem PySem.W L2 L3
theorem neG_self {d : D} (h : okD d = true) : neG d d = some (.val (.bool false)) := by
  unfold neG
  have hp : d.plain = true := by
    unfold okD at h
    simp only [Bool.and_eq_true] at h
    exact h.1
  rw [h, PySem.SeqAt.eqv_refl_plain d hp]; rfl
theorem eqG_self {d : D} (h : okD d = true) : eqG d d = some (.val (.bool true)) := by
  unfold eqG
  have hp : d.plain = true := by
    unfold okD at h
    simp only [Bool.and_eq_true] at h
    exact h.1
  rw [h, PySem.SeqAt.eqv_refl_plain d hp]; rfl
def chkT : R (Rs × Option D) → Bool
  | .ok (.val (.bool true), none) => true
  | _ => false
theorem of_chkT {x : R (Rs × Option D)} (h : chkT x = true) : x = .ok (.val (.bool true), none) := by
  unfold chkT at h
  split at h
  · rfl
  · cases h
theorem odds_ok : m__law_odds_right [] = .ok (.val (.bool true), none) := of_chkT (by decide +kernel)
theorem len3 {w : List Nat} {b c d : Nat} (h : w.length = [b, c, d].length) : ∃ x y z, w = [x, y, z] := by
  match w, h with
  | [x, y, z], _ => exact ⟨x, y, z, rfl⟩
theorem dot3 (x y z b c d : Nat) : dot [x, y, z] [b, c, d] = x * b + (y * c + (z * d + 0)) := rfl
theorem gr3 (m n a : Nat) : grA [1, m, n] a = some [a % n % m, a % n / m, a / n] := by
  have e : grF [1, m, n] a = ([a % n % m / 1, a % n / m, a / n], a % n % m % 1) := rfl
  unfold grA
  rw [e, Nat.mod_one, Nat.div_one]; rfl
/-- greedily as good as any -/
theorem bad_of {cs : List Nat} {t : List (Option (Nat × List Nat))} {a : Nat} {v : List Nat} (ht : Tab cs t) (ha : a < t.length) (hv : grA cs a = some v) (h : ∀ w, w.length = cs.length → dot w cs = a → v.sum ≤ w.sum) : bad cs t a = false := by
  have q := List.getElem?_eq_getElem ha
  unfold bad
  rw [q, hv]
  cases e : t[a] with
  | none => rfl
  | some p =>
    obtain ⟨n, w⟩ := p
    rw [e] at q
    obtain ⟨b1, b2, b3, _⟩ := ht _ _ q
    have := h w b1 b2
    exact decide_eq_false (by show ¬ n < v.sum; omega)
theorem bad_yes {cs : List Nat} {t : List (Option (Nat × List Nat))} {a n : Nat} {v w : List Nat} (ht : Tab cs t) (ha : a < t.length) (hv : grA cs a = some v) (hB : IsB cs a (some (n, w))) (h : n < v.sum) : bad cs t a = true := by
  have q := List.getElem?_eq_getElem ha
  unfold bad
  rw [q, hv, (ht _ _ q).uniq hB]
  exact decide_eq_true h
theorem trio_good (m : Nat) (h : 3 ≤ m ∧ m ≤ 92) : Good [1, m, m + 1] := ⟨by simp, by simp, fun c hc => by
  simp only [List.mem_cons, List.not_mem_nil, or_false] at hc
  omega, fun p hp => by
  have hp : p ∈ [(1, m), (m, m + 1)] := hp
  simp only [List.mem_cons, List.not_mem_nil, or_false] at hp
  rcases hp with e | e
  · subst e; show 1 < m; omega
  · subst e; show m < m + 1; omega⟩
theorem trio_best (m : Nat) (h : 3 ≤ m ∧ m ≤ 92) : IsB [1, m, m + 1] (2 * m) (some (2, [0, 2, 0])) := by
  refine ⟨rfl, by rw [dot3]; omega, rfl, fun w hl hd hb => ?_⟩
  obtain ⟨x, y, z, rfl⟩ := len3 hl
  rw [dot3, Nat.mul_add] at hd
  rcases hb with hb | ⟨e, hb⟩
  · have hb : x + (y + (z + 0)) < 2 := hb
    have hy : y * m ≤ 1 * m := Nat.mul_le_mul_right _ (by omega)
    have hz : z * m ≤ 1 * m := Nat.mul_le_mul_right _ (by omega)
    have hyz : (y + z) * m ≤ 1 * m := Nat.mul_le_mul_right _ (by omega)
    rw [Nat.add_mul] at hyz
    omega
  · have e : x + (y + (z + 0)) = 2 := e
    have hx : x = 0 := by
      by_cases hx : x = 0
      · exact hx
      · rw [List.cons_lt_cons_iff] at hb
        rcases hb with hb | ⟨hb, _⟩ <;> omega
    subst hx
    have hb : y < 2 := by
      simp only [List.cons_lt_cons_iff, true_and, Nat.lt_irrefl, false_or] at hb
      rcases hb with hb | ⟨hb, hb2⟩
      · exact hb
      · have : z < 0 := by
          simp at hb2
        omega
    have hyz : (y + z) * m = 2 * m := by rw [show y + z = 2 by omega]
    rw [Nat.add_mul] at hyz
    omega
theorem trio_greedy (m : Nat) (h : 3 ≤ m ∧ m ≤ 92) : grA [1, m, m + 1] (2 * m) = some [m - 1, 0, 1] := by
  rw [gr3]
  have e1 : 2 * m / (m + 1) = 1 := by
    refine Nat.div_eq_of_lt_le (by omega) (by omega)
  have e2 : 2 * m % (m + 1) = m - 1 := by
    have := Nat.div_add_mod (2 * m) (m + 1)
    rw [e1] at this
    omega
  rw [e1, e2, Nat.mod_eq_of_lt (by omega), Nat.div_eq_of_lt (by omega)]
theorem trio_low (m : Nat) (h : 3 ≤ m ∧ m ≤ 92) (a : Nat) (ha : a < 2 * m) {t : List (Option (Nat × List Nat))} (ht : Tab [1, m, m + 1] t) (hl : a < t.length) : bad [1, m, m + 1] t a = false := by
  refine bad_of ht hl (gr3 m (m + 1) a) fun w hw hd => ?_
  obtain ⟨x, y, z, rfl⟩ := len3 hw
  rw [dot3, Nat.mul_add] at hd
  show a % (m + 1) % m + (a % (m + 1) / m + (a / (m + 1) + 0)) ≤ x + (y + (z + 0))
  by_cases c1 : a < m + 1
  · rw [Nat.mod_eq_of_lt c1, Nat.div_eq_of_lt c1]
    by_cases c2 : a < m
    · rw [Nat.mod_eq_of_lt c2, Nat.div_eq_of_lt c2]
      have hy : y = 0 := by
        cases y with
        | zero => rfl
        | succ y => rw [Nat.add_mul] at hd; omega
      have hz : z = 0 := by
        cases z with
        | zero => rfl
        | succ z => rw [Nat.add_mul] at hd; omega
      subst hy; subst hz; omega
    · have e : a = m := by omega
      subst e
      rw [Nat.mod_self, Nat.div_self (by omega)]
      cases y with
      | succ y => omega
      | zero =>
        cases z with
        | succ z => omega
        | zero => omega
  · have e1 : a / (m + 1) = 1 := Nat.div_eq_of_lt_le (by omega) (by omega)
    have e2 : a % (m + 1) = a - (m + 1) := by
      have := Nat.div_add_mod a (m + 1)
      rw [e1] at this
      omega
    rw [e1, e2, Nat.mod_eq_of_lt (by omega), Nat.div_eq_of_lt (by omega)]
    have hyz : y + z < 2 := by
      refine Nat.lt_of_not_le fun h2 => ?_
      have := Nat.mul_le_mul_right m h2
      rw [Nat.add_mul] at this
      omega
    have h3 : (y = 0 ∧ z = 0) ∨ (y = 1 ∧ z = 0) ∨ (y = 0 ∧ z = 1) := by omega
    rcases h3 with ⟨h4, h5⟩ | ⟨h4, h5⟩ | ⟨h4, h5⟩ <;> subst h4 <;> subst h5 <;> omega
theorem find_first (p : Nat → Bool) (k : Nat) : ∀ (n s : Nat), s ≤ k → k < s + n → (∀ a, a < k → p a = false) → p k = true → (List.range' s n).find? p = some k
  | 0, s, h1, h2, _, _ => by omega
  | n + 1, s, h1, h2, h3, h4 => by
    rw [List.range'_succ, List.find?_cons]
    by_cases e : s = k
    · subst e; rw [h4]
    · rw [h3 s (by omega)]
      exact find_first p k n (s + 1) (by omega) (by omega) h3 h4
theorem row_good (t : Nat) (h : t = 2 ∨ t = 3 ∨ t = 4) : Good [1, t, t * t] := by
  rcases h with e | e | e <;> subst e <;> exact ⟨by simp, by simp, by decide, by decide⟩
theorem row_best (t : Nat) (h : t = 2 ∨ t = 3 ∨ t = 4) (a : Nat) : ∃ v, grA [1, t, t * t] a = some v ∧ IsB [1, t, t * t] a (some (v.sum, v)) := by
  refine ⟨_, gr3 _ _ _, ?_⟩
  obtain ⟨g1, g2⟩ := grA_dot (gr3 t (t * t) a)
  refine ⟨g1, g2, rfl, fun w hl hd hb => ?_⟩
  obtain ⟨x, y, z, rfl⟩ := len3 hl
  rw [dot3] at hd
  have key : x = a % (t * t) % t ∧ y = a % (t * t) / t ∧ z = a / (t * t) ∨ a % (t * t) % t + (a % (t * t) / t + a / (t * t)) < x + (y + z) := by
    rcases h with e | e | e <;> subst e <;> simp only [Nat.reduceMul] at hd ⊢ <;> omega
  rcases key with ⟨e1, e2, e3⟩ | key
  · rw [e1, e2, e3] at hb
    exact bef_irrefl _ hb
  · rcases hb with hb | ⟨e, _⟩
    · have hb : x + (y + (z + 0)) < a % (t * t) % t + (a % (t * t) / t + (a / (t * t) + 0)) := hb
      omega
    · have e : x + (y + (z + 0)) = a % (t * t) % t + (a % (t * t) / t + (a / (t * t) + 0)) := e
      omega
theorem hundred_good : Good [100] := ⟨by simp, by simp, by decide, by decide⟩
theorem hundred_1000 : IsB [100] 1000 (some (10, [10])) := ⟨rfl, rfl, rfl, fun w hl hd hb => by
  match w, hl with
  | [x], _ =>
    have hd : x * 100 + 0 = 1000 := hd
    have : x = 10 := by omega
    subst this
    exact bef_irrefl _ hb⟩
theorem hundred_999 : IsB [100] 999 none := fun w hl hd => by
  match w, hl with
  | [x], _ =>
    have hd : x * 100 + 0 = 999 := hd
    omega
theorem row_find (t : Nat) (h : t = 2 ∨ t = 3 ∨ t = 4) {u : List (Option (Nat × List Nat))} (hu : Tab [1, t, t * t] u) (hl : u.length = 201) (n : Nat) (hn : n < 200) : (List.range' 1 n).find? (bad [1, t, t * t] u) = none := by
  rw [List.find?_eq_none]
  intro a ha
  rw [List.mem_range'_1] at ha
  obtain ⟨v, v1, v2⟩ := row_best t h a
  have q := List.getElem?_eq_getElem (show a < u.length by omega)
  have e := (hu _ _ q).uniq v2
  have : bad [1, t, t * t] u a = false := by
    unfold bad
    rw [q, e, v1]
    exact decide_eq_false (Nat.lt_irrefl _)
  rw [this]
  exact Bool.false_ne_true
theorem law_end {MF ML MG MO : FM} {P : En} {row : D} {am : Nat} {V : D} (h6 : P[6]? = some (.val row)) (h7 : P[7]? = some (.val (.int (am : Int)))) (w3 : MF [.val row] = .ok (.val .none, none)) (o5 : ML [.val row, .val (.int (am : Int))] = .ok (.val V, none)) (o6 : MG [.val row, .val (.int (am : Int))] = .ok (.val V, none)) (hq2 : eqG V V = some (.val (.bool true)))
    (k2 : ML [.val (.tuple [.int 100]), .val (.int 1000)] = .ok (.val (.tuple [.int 10]), none)) (k4 : ML [.val (.tuple [.int 100]), .val (.int 999)] = .ok (.val .none, none)) (ho : MO [] = .ok (.val (.bool true), none)) :
    sRet (eT (tAnd (tE (eOp2 isG (oE (eCall MF (aCons (eVar 6) aNil))) (oE (eC .none)))) (tAnd (tE (eOp2 eqG (oE (eCall ML (aCons (eVar 6) (aCons (eVar 7) aNil)))) (oE (eCall MG (aCons (eVar 6) (aCons (eVar 7) aNil)))))) (tAnd (tE (eOp2 eqG (oE (eCall ML (aCons (eTup (aCons (eC (.int 100)) aNil)) (aCons (eC (.int 1000)) aNil)))) (oE (eTup (aCons (eC (.int 10)) aNil))))) (tAnd (tE (eOp2 isG (oE (eCall ML (aCons (eTup (aCons (eC (.int 100)) aNil)) (aCons (eC (.int 999)) aNil)))) (oE (eC .none)))) (tE (eCall MO aNil))))))) P = .ok (.rt (.val (.bool true)), P) := by
  have hq3 : eqG (.tuple [.int 10]) (.tuple [.int 10]) = some (.val (.bool true)) := eqG_self rfl
  have hin : isG .none .none = some (.val (.bool true)) := rfl
  have z1 : (1 : Nat) ≤ 16777216 := by decide
  simp [h6, h7, w3, hin, o5, o6, hq2, k2, k4, hq3, ho, sizeLine_eq', z1]
theorem law_ok : L3.LawOk m_law := fun ns hns => by
  obtain ⟨a, b, hcup⟩ := cup_ok ns hns
  obtain ⟨ρ', p, r1, _, j2, rfl⟩ := loop_ix (g := gN 2) (b := b_law_1) (fun i (p : Nat × Nat) ρ => True ∧ ∃ j2, ρ = [.scr ns, .own (cupD p.1 p.2), j2, .no, .no, .no, .no, .no])
    ((List.range 4).map (fun i : Nat => (tD i : D))) 4 0 (a, b) [.scr ns, .own (cupD a b), .no, .no, .no, .no, .no, .no] (by simp) ⟨trivial, _, rfl⟩ fun i p ρ d hd hst => by
      obtain ⟨_, j2, rfl⟩ := hst
      obtain ⟨x', y', e⟩ := right_ok p.1 p.2
      refine ⟨_, _, (x', y'), rfl, ?_, trivial, .val d, rfl⟩
      generalize cupD p.1 p.2 = Z at *
      simp [b_law_1, e, mutS]
  rw [List.drop_zero] at r1
  obtain ⟨m0, x1, y1, hm0, hr1⟩ := roll_ok p.1 p.2 90 (by decide) (by decide)
  obtain ⟨t0, x2, y2, ht0, hr2⟩ := roll_ok x1 y1 3 (by decide) (by decide)
  obtain ⟨am, x3, y3, ham, hr3⟩ := roll_ok x2 y2 1001 (by decide) (by decide)
  have hr1 : m__law_roll [.bor (cupD p.1 p.2), .val (.int 90)] = _ := hr1
  have hr2 : m__law_roll [.bor (cupD x1 y1), .val (.int 3)] = _ := hr2
  have hr3 : m__law_roll [.bor (cupD x2 y2), .val (.int 1001)] = _ := hr3
  have r4 := rng1_nat (n := 4) (by omega)
  have r4 : rng1 [.int 4] = _ := r4
  have hF : sFor (iK rng1 (aCons (eC (.int 4)) aNil)) (gN 2) b_law_1 [.scr ns, .own (cupD a b), .no, .no, .no, .no, .no, .no] = _ := (sFor_run (by
    simp only [iK, aCons, eC, aNil, R.bind_ok, Rs.d, r4])).trans r1
  have hm : 3 ≤ 3 + m0 ∧ 3 + m0 ≤ 92 := by omega
  have ht : 2 + t0 = 2 ∨ 2 + t0 = 3 ∨ 2 + t0 = 4 := by omega
  have em : ((3 : Int) + (m0 : Int)) = ((3 + m0 : Nat) : Int) := by omega
  have et : ((2 : Int) + (t0 : Int)) = ((2 + t0 : Nat) : Int) := by omega
  generalize 3 + m0 = m at hm em
  generalize 2 + t0 = t at ht et
  -- the three
  have g3 := trio_good m hm
  obtain ⟨u, u1, u2, u3⟩ := fault_ok g3
  have f3 : (List.range' 1 (2 * [1, m, m + 1].getLast g3.ne - 1)).find? (bad [1, m, m + 1] u) = some (2 * m) := by
    refine find_first _ (2 * m) _ 1 (by omega) ?_ (fun x hx => trio_low m hm x hx u2 (by omega)) (bad_yes u2 (by omega) (trio_greedy m hm) (trio_best m hm) ?_)
    · show 2 * m < 1 + (2 * (m + 1) - 1); omega
    · show 2 < (m - 1) + (0 + (1 + 0)); omega
  rw [f3] at u3
  obtain ⟨o, o1, o2⟩ := least_ok g3 (2 * m) (by omega)
  rw [o1.uniq (trio_best m hm)] at o2
  have o3 := greedy_ok2 g3 (2 * m) (by omega)
  rw [trio_greedy m hm] at o3
  have c3 : (tD (Tup.mk [1, m, m + 1]) : D) = .tuple [.int 1, .int (m : Int), .int ((m : Int) + 1)] := rfl
  have c4 : (tD (2 * m) : D) = .int (2 * (m : Int)) := by rw [tD_nat, Int.natCast_mul]; rfl
  have c5 : (tD (some (2 * m)) : D) = .int (2 * (m : Int)) := c4
  have c6 : (tD (oT ((some (2, [0, 2, 0])).map (Prod.snd : Nat × List Nat → List Nat))) : D) = .tuple [.int 0, .int 2, .int 0] := rfl
  have c7 : (tD (oT (some [m - 1, 0, 1])) : D) = .tuple [.int ((m : Int) - 1), .int 0, .int 1] := by
    show PyData.tuple [.int ((m - 1 : Nat) : Int), .int 0, .int 1] = _
    rw [Int.ofNat_sub (by omega)]; rfl
  rw [c3, c5] at u3
  rw [c3, c4, c6] at o2
  rw [c3, c4, c7] at o3
  have hq : neG (.tuple [.int (2 * (m : Int)), .tuple [.int 0, .int 2, .int 0], .tuple [.int ((m : Int) - 1), .int 0, .int 1]]) (.tuple [.int (2 * (m : Int)), .tuple [.int 0, .int 2, .int 0], .tuple [.int ((m : Int) - 1), .int 0, .int 1]]) = some (.val (.bool false)) := neG_self rfl
  -- the row
  have g4 := row_good t ht
  obtain ⟨w, w1, w2, w3⟩ := fault_ok g4
  rw [row_find t ht w2 w1 _ (by have := g4.last; omega)] at w3
  obtain ⟨v, v1, v2⟩ := row_best t ht am
  obtain ⟨o', o4, o5⟩ := least_ok g4 am (by omega)
  rw [o4.uniq v2] at o5
  have o6 := greedy_ok2 g4 am (by omega)
  rw [v1] at o6
  have d3 : (tD (Tup.mk [1, t, t * t]) : D) = .tuple [.int 1, .int (t : Int), .int ((t : Int) * (t : Int))] := by
    show PyData.tuple [.int 1, .int (t : Int), .int ((t * t : Nat) : Int)] = _
    rw [Int.natCast_mul]
  have d4 : (tD (oT ((some (v.sum, v)).map (Prod.snd : Nat × List Nat → List Nat))) : D) = tD (Tup.mk v) := rfl
  have d5 : (tD (oT (some v)) : D) = tD (Tup.mk v) := rfl
  have d6 : (tD (none : Option Nat) : D) = .none := rfl
  rw [d3, d6] at w3
  rw [d3, d4] at o5
  rw [d3, d5] at o6
  have hq2 : eqG (tD (Tup.mk v)) (tD (Tup.mk v)) = some (.val (.bool true)) := eqG_self (okD_t (α := Tup Nat) ⟨v⟩)
  -- the hundred
  obtain ⟨_, k1, k2⟩ := least_ok hundred_good 1000 (by omega)
  rw [k1.uniq hundred_1000] at k2
  obtain ⟨_, k3, k4⟩ := least_ok hundred_good 999 (by omega)
  rw [k3.uniq hundred_999] at k4
  have k2 : m_least_coins [.val (.tuple [.int 100]), .val (.int 1000)] = .ok (.val (.tuple [.int 10]), none) := k2
  have k4 : m_least_coins [.val (.tuple [.int 100]), .val (.int 999)] = .ok (.val .none, none) := k4
  have hq3 : eqG (.tuple [.int 10]) (.tuple [.int 10]) = some (.val (.bool true)) := eqG_self rfl
  have hsm : smallZ 2 = true := small_lit (n := 2) (by omega)
  have hst : smallZ (t : Int) = true := small_nat (by omega)
  have hin : isG .none .none = some (.val (.bool true)) := rfl
  have z1 : (1 : Nat) ≤ 16777216 := by decide
  have z3 : (3 : Nat) ≤ 16777216 := by decide
  have ho := odds_ok
  refine ⟨none, ?_⟩
  simp only [tD_nat] at o5 o6
  generalize (tD (Tup.mk v) : D) = V at *
  generalize cupD a b = Z0 at *
  generalize cupD p.1 p.2 = Z1 at *
  generalize cupD x1 y1 = Z2 at *
  generalize cupD x2 y2 = Z3 at *
  generalize cupD x3 y3 = Z4 at *
  have told : sSet 5 (eTup (aCons (eCall m_greedy_fault (aCons (eTup (aCons (eC (.int 1)) (aCons (eVar 3) (aCons (eOp2 addG (oVar 3) (oE (eC (.int 1)))) aNil)))) aNil)) (aCons (eCall m_least_coins (aCons (eTup (aCons (eC (.int 1)) (aCons (eVar 3) (aCons (eOp2 addG (oVar 3) (oE (eC (.int 1)))) aNil)))) (aCons (eOp2 mulG (oE (eC (.int 2))) (oVar 3)) aNil))) (aCons (eCall m_greedy (aCons (eTup (aCons (eC (.int 1)) (aCons (eVar 3) (aCons (eOp2 addG (oVar 3) (oE (eC (.int 1)))) aNil)))) (aCons (eOp2 mulG (oE (eC (.int 2))) (oVar 3)) aNil))) aNil)))) [.scr ns, .own Z3, j2, .val (.int (m : Int)), .val (.int (t : Int)), .no, .no, .no] =
      .ok (.nx, [.scr ns, .own Z3, j2, .val (.int (m : Int)), .val (.int (t : Int)), .val (.tuple [.int (2 * (m : Int)), .tuple [.int 0, .int 2, .int 0], .tuple [.int ((m : Int) - 1), .int 0, .int 1]]), .no, .no]) := by
    simp [addG, sizeLine_eq', z3, u3, o2, o3, mulG, hsm]
  unfold m_law
  refine runF_rt (ρ' := [.scr ns, .own Z4, j2, .val (.int (m : Int)), .val (.int (t : Int)), .val (.tuple [.int (2 * (m : Int)), .tuple [.int 0, .int 2, .int 0], .tuple [.int ((m : Int) - 1), .int 0, .int 1]]), .val (.tuple [.int 1, .int (t : Int), .int ((t : Int) * (t : Int))]), .val (.int (am : Int))]) ?_
  show b_law [.scr ns, .no, .no, .no, .no, .no, .no, .no] = _
  unfold b_law
  rw [sSeq_nx (ρ' := [.scr ns, .own Z0, .no, .no, .no, .no, .no, .no]) (by simp [hcup]), sSeq_nx hF,
    sSeq_nx (ρ' := [.scr ns, .own Z3, j2, .val (.int (m : Int)), .val (.int (t : Int)), .no, .no, .no]) (by simp [addG, hr1, hr2, mutS, em, et]), sSeq_nx told,
    sSeq_nx (ρ' := [.scr ns, .own Z3, j2, .val (.int (m : Int)), .val (.int (t : Int)), .val (.tuple [.int (2 * (m : Int)), .tuple [.int 0, .int 2, .int 0], .tuple [.int ((m : Int) - 1), .int 0, .int 1]]), .no, .no]) (by simp [mulG, hsm, subG, sizeLine_eq', z3, hq]),
    sSeq_nx (ρ' := [.scr ns, .own Z3, j2, .val (.int (m : Int)), .val (.int (t : Int)), .val (.tuple [.int (2 * (m : Int)), .tuple [.int 0, .int 2, .int 0], .tuple [.int ((m : Int) - 1), .int 0, .int 1]]), .val (.tuple [.int 1, .int (t : Int), .int ((t : Int) * (t : Int))]), .no]) (by simp [mulG, hst, sizeLine_eq', z3]),
    sSeq_nx (ρ' := [.scr ns, .own Z4, j2, .val (.int (m : Int)), .val (.int (t : Int)), .val (.tuple [.int (2 * (m : Int)), .tuple [.int 0, .int 2, .int 0], .tuple [.int ((m : Int) - 1), .int 0, .int 1]]), .val (.tuple [.int 1, .int (t : Int), .int ((t : Int) * (t : Int))]), .val (.int (am : Int))]) (by simp [hr3, mutS])]
  refine sSeq_rt ?_
  exact law_end rfl rfl w3 o5 o6 hq2 k2 k4 ho
end K78
theorem K78.done : PySem.Challenge.rw_fairground_k78_whole_fewest_coins.Holds := K78.holds K78.law_ok

end
theorem PySem.Challenge.cw_fairground_k78_whole_fewest_coins_holds : PySem.Challenge.rw_fairground_k78_whole_fewest_coins.Holds := by
  exact K78.done
