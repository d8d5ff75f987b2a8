import PyProof.Rows.All
import Wide.All
import OpenK.AllK
import Wide.FinOn
import HandS.Base
import HandS.Call
import HandS.List
import HandS.Comp
import HandS.Ends
import HandS.Dict
import HandS.Iter
import HandS.Text
import HandS.More
import HandS.Exc
import HandS.Words
import HandS.WordsList
import HandS.WordsExc
import HandS.Defaults
import HandS.Walk
import HandS.IsInst
import HandS.WideBits
import HandS.Conv
import HandS.Zip
import HandS.SortInts
import HandS.StrMore
import KE.GoesEnum
import HandS.Style
import HandS.Star
import HandS.Head0
import HandS.Head1
import HandS.Head2
import HandS.HeadEnd
import HandS.HeadHook1
import HandS.HeadHook2
import PySem.Challenge.RW_turncrowds_k45_whole_shared_crowds_joine
set_option Elab.async false
set_option linter.all false
set_option maxRecDepth 100000
set_option maxHeartbeats 4000000
/-! D layer 1: data as trees, the abstract heap parted in a frozen part and the rest, a law's draws as a state; readings that are told by functions on data. -/
namespace DL
open PySem PySem.Spec PyProof.Rows L2

/-! ### data -/
inductive D where
  | non | bl (b : Bool) | int (i : Int) | str (x : Str) | lst (xs : List D) | tup (xs : List D) | st | opq (v : V)

/-- the draws of a law: digits of large numbers, cells, what is left of the number at hand, the counter -/
structure DS where
  large : List Nat
  cells : List Nat
  left : Nat
  turn : Nat

/-- an exception of the text: its class's name, its one attribute -/
structure Ex where
  cls : Str
  att : Option (Str × D) := none

def M (α : Type) : Type := DS → Option (Except Ex α × DS)
namespace M
def pure {α : Type} (a : α) : M α := fun s => some (.ok a, s)
def bind {α β : Type} (x : M α) (f : α → M β) : M β := fun s => match x s with
  | none => none
  | some (.error e, s1) => some (.error e, s1)
  | some (.ok a, s1) => f a s1
def fail {α : Type} : M α := fun _ => none
def raise {α : Type} (e : Ex) : M α := fun s => some (.error e, s)
def lift {α : Type} (o : Option α) : M α := fun s => match o with
  | none => none
  | some a => some (.ok a, s)
/-- no exception may come -/
def noErr {α : Type} (x : M α) : M α := fun s => match x s with
  | none => none
  | some (.error _, _) => none
  | some (.ok a, s1) => some (.ok a, s1)
end M
instance : Monad M where
  pure := M.pure
  bind := M.bind
theorem M.pure_def {α : Type} (a : α) : (Pure.pure a : M α) = fun s => some (.ok a, s) := rfl
theorem M.bind_def {α β : Type} (x : M α) (f : α → M β) : (x >>= f) = M.bind x f := rfl
theorem M.bind_pure {α β : Type} (a : α) (f : α → M β) : ((Pure.pure a : M α) >>= f) = f a := rfl
theorem M.bind_assoc {α β γ : Type} (x : M α) (f : α → M β) (g : β → M γ) : (x >>= f) >>= g = x >>= fun a => f a >>= g := by
  funext s
  show M.bind (M.bind x f) g s = M.bind x (fun a => M.bind (f a) g) s
  unfold M.bind
  cases h : x s with
  | none => rfl
  | some r =>
    obtain ⟨r, s1⟩ := r
    cases r <;> rfl
theorem M.pure_bind' {α : Type} (x : M α) : (x >>= fun a => Pure.pure a) = x := by
  funext s
  show M.bind x (fun a => M.pure a) s = x s
  unfold M.bind M.pure
  cases h : x s with
  | none => rfl
  | some r =>
    obtain ⟨r, s1⟩ := r
    cases r <;> rfl
theorem M.lift_some {α : Type} (a : α) : (M.lift (some a) : M α) = Pure.pure a := rfl
theorem M.lift_none {α : Type} : (M.lift (none : Option α)) = M.fail := rfl
theorem M.fail_bind {α β : Type} (f : α → M β) : ((M.fail : M α) >>= f) = M.fail := rfl
theorem M.raise_bind {α β : Type} (e : Ex) (f : α → M β) : ((M.raise e : M α) >>= f) = M.raise e := rfl

/-! ### data in the heap -/
/-- the law's dict of draws and its list of large numbers -/
abbrev Zt := Option (Addr × Addr)
def Zm (Z : Zt) (p : Addr) : Prop := ∃ a b, Z = some (a, b) ∧ (p = a ∨ p = b)
mutual
inductive Rep (Z : Zt) (F : Hp) : V → D → Prop
  | non : Rep Z F .non .non
  | bl (b : Bool) : Rep Z F (.bl b) (.bl b)
  | int (i : Int) : Rep Z F (.int i) (.int i)
  | str (x : Str) : Rep Z F (.str x) (.str x)
  | lst {a : Addr} {xs : List V} {ds : List D} : F a = some (.lst xs) → Reps Z F xs ds → Rep Z F (.ref a) (.lst ds)
  | tup {a : Addr} {xs : List V} {ds : List D} : F a = some (.tup xs) → Reps Z F xs ds → Rep Z F (.ref a) (.tup ds)
  | st {p l : Addr} : Z = some (p, l) → Rep Z F (.ref p) .st
  | opq (v : V) : Rep Z F v (.opq v)
inductive Reps (Z : Zt) (F : Hp) : List V → List D → Prop
  | nil : Reps Z F [] []
  | cons {v : V} {vs : List V} {d : D} {ds : List D} : Rep Z F v d → Reps Z F vs ds → Reps Z F (v :: vs) (d :: ds)
end
mutual
theorem Rep.mono {Z : Zt} {F F' : Hp} (e : Same F F') : ∀ {v : V} {d : D}, Rep Z F v d → Rep Z F' v d
  | _, _, .non => .non
  | _, _, .bl b => .bl b
  | _, _, .int i => .int i
  | _, _, .str x => .str x
  | _, _, .lst h r => .lst (e _ _ h) (Reps.mono e r)
  | _, _, .tup h r => .tup (e _ _ h) (Reps.mono e r)
  | _, _, .st h => .st h
  | _, _, .opq v => .opq v
theorem Reps.mono {Z : Zt} {F F' : Hp} (e : Same F F') : ∀ {vs : List V} {ds : List D}, Reps Z F vs ds → Reps Z F' vs ds
  | _, _, .nil => .nil
  | _, _, .cons h r => .cons (Rep.mono e h) (Reps.mono e r)
end
section
variable {Z : Zt} {F : Hp}
theorem Reps.length : ∀ {vs : List V} {ds : List D}, Reps Z F vs ds → vs.length = ds.length
  | _, _, .nil => rfl
  | _, _, .cons _ r => congrArg Nat.succ r.length
theorem Reps.append : ∀ {vs ws : List V} {ds es : List D}, Reps Z F vs ds → Reps Z F ws es → Reps Z F (vs ++ ws) (ds ++ es)
  | _, _, _, _, .nil, r => r
  | _, _, _, _, .cons h q, r => .cons h (q.append r)
theorem Reps.get : ∀ {vs : List V} {ds : List D} {i : Nat} {d : D}, Reps Z F vs ds → ds[i]? = some d → ∃ v, vs[i]? = some v ∧ Rep Z F v d
  | _, _, _, _, .nil, e => by simp at e
  | _, _, 0, _, .cons h _, e => by
    simp at e
    subst e
    exact ⟨_, rfl, h⟩
  | _, _, i + 1, d, .cons _ r, e => by
    obtain ⟨v, h1, h2⟩ := Reps.get (i := i) (d := d) r (by simpa using e)
    exact ⟨v, by simpa using h1, h2⟩
theorem Reps.getV : ∀ {vs : List V} {ds : List D} {i : Nat} {v : V}, Reps Z F vs ds → vs[i]? = some v → ∃ d, ds[i]? = some d ∧ Rep Z F v d
  | _, _, _, _, .nil, e => by simp at e
  | _, _, 0, _, .cons h _, e => by
    simp at e
    subst e
    exact ⟨_, rfl, h⟩
  | _, _, i + 1, v, .cons _ r, e => by
    obtain ⟨d, h1, h2⟩ := Reps.getV (i := i) (v := v) r (by simpa using e)
    exact ⟨d, by simpa using h1, h2⟩
theorem Reps.set {v : V} {d : D} (h : Rep Z F v d) : ∀ {vs : List V} {ds : List D} (i : Nat), Reps Z F vs ds → Reps Z F (vs.set i v) (ds.set i d)
  | _, _, _, .nil => .nil
  | _, _, 0, .cons _ r => .cons h r
  | _, _, i + 1, .cons q r => .cons q (Reps.set h i r)
theorem Reps.take : ∀ {vs : List V} {ds : List D} (n : Nat), Reps Z F vs ds → Reps Z F (vs.take n) (ds.take n)
  | _, _, 0, _ => .nil
  | _, _, _ + 1, .nil => .nil
  | _, _, n + 1, .cons h r => .cons h (Reps.take n r)
theorem Reps.drop : ∀ {vs : List V} {ds : List D} (n : Nat), Reps Z F vs ds → Reps Z F (vs.drop n) (ds.drop n)
  | _, _, 0, r => r
  | _, _, _ + 1, .nil => .nil
  | _, _, n + 1, .cons _ r => Reps.drop n r
theorem Reps.reverse {vs : List V} {ds : List D} (h : Reps Z F vs ds) : Reps Z F vs.reverse ds.reverse := by
  induction vs generalizing ds with
  | nil => cases h; exact .nil
  | cons v vs ih =>
    cases h with
    | cons a r =>
      rw [List.reverse_cons, List.reverse_cons]
      exact (ih r).append (.cons a .nil)
theorem Reps.nil_iff {vs : List V} {ds : List D} (r : Reps Z F vs ds) : ds = [] ↔ vs = [] := by
  cases r with
  | nil => simp
  | cons _ _ => simp
end

/-! ### how the heap grows -/
structure Grow (Z : Zt) (F H F' H' : Hp) : Prop where
  f : Same F F'
  h : ∀ p o, H p = some o → ¬ Zm Z p → H' p = some o
  k : ∀ p, H p ≠ none → F' p = F p
  a : ∀ p, H p ≠ none → H' p ≠ none
section
variable {Z : Zt} {F H F1 H1 F2 H2 : Hp}
theorem Grow.refl : Grow Z F H F H := ⟨Same.refl F, fun _ _ e _ => e, fun _ _ => rfl, fun _ h => h⟩
theorem Grow.trans (a : Grow Z F H F1 H1) (b : Grow Z F1 H1 F2 H2) : Grow Z F H F2 H2 :=
  ⟨a.f.trans b.f, fun p o e n => b.h p o (a.h p o e n) n, fun p e => (b.k p (a.a p e)).trans (a.k p e), fun p e => b.a p (a.a p e)⟩
theorem Grow.free (a : Grow Z F H F1 H1) {p : Addr} (h : H1 p = none) : H p = none := by
  cases e : H p with
  | none => rfl
  | some o => exact absurd h (a.a p (by rw [e]; exact fun q => nomatch q))
end

/-- the draws stand in the heap -/
def kvDS (l c : Addr) (s : DS) : List (Key × V) := [(.inr "large", .ref l), (.inr "cells", .ref c), (.inr "left", .int (s.left : Nat)), (.inr "turn", .int (s.turn : Nat))]
def nV (n : Nat) : V := .int (n : Nat)
def StAt (Z : Zt) (s : DS) (F H : Hp) : Prop := match Z with
  | none => True
  | some (p, l) => p ≠ l ∧ F p = none ∧ F l = none ∧ ∃ c, H p = some (.dK (kvDS l c s)) ∧ H l = some (.lst (s.large.map nV)) ∧ F c = some (.lst (s.cells.map nV))
structure Wd (Z : Zt) (s : DS) (F H : Hp) : Prop where
  sub : Same F H
  st : StAt Z s F H
section
variable {Z : Zt} {s : DS} {F H F1 H1 : Hp}
theorem StAt.keep (h : StAt Z s F H) (e : Same F F1) (eh : ∀ p o, Zm Z p → H p = some o → H1 p = some o) (k : ∀ p, H p ≠ none → F1 p = F p) : StAt Z s F1 H1 := by
  unfold StAt at h ⊢
  split at h
  · trivial
  · rename_i p l
    obtain ⟨n, f1, f2, c, h1, h2, h3⟩ := h
    refine ⟨n, ?_, ?_, c, eh _ _ ⟨p, l, rfl, .inl rfl⟩ h1, eh _ _ ⟨p, l, rfl, .inr rfl⟩ h2, e _ _ h3⟩
    · rw [k p (by rw [h1]; exact fun q => nomatch q)]; exact f1
    · rw [k l (by rw [h2]; exact fun q => nomatch q)]; exact f2
theorem Wd.sameR (w : Wd Z s F H) (v : V) (d : D) (r : Rep Z F v d) : Rep Z H v d := r.mono w.sub
/-- a new object, frozen at once -/
theorem Grow.new {p : Addr} {o : HO} (hp : H p = none) (sub : Same F H) : Grow Z F H (upd F p o) (upd H p o) := by
  have hf : F p = none := sub.free hp
  refine ⟨fun b u e => ?_, fun b u e _ => ?_, fun b e => ?_, fun b e => ?_⟩
  · rw [upd_ne (ne_of_none e hf)]; exact e
  · rw [upd_ne (ne_of_none e hp)]; exact e
  · have : b ≠ p := fun q => e (by rw [q]; exact hp)
    rw [upd_ne this]
  · have : b ≠ p := fun q => e (by rw [q]; exact hp)
    rw [upd_ne this]; exact e
theorem Wd.new {p : Addr} {o : HO} (w : Wd Z s F H) (hp : H p = none) : Wd Z s (upd F p o) (upd H p o) := by
  have g := Grow.new (Z := Z) (F := F) (H := H) (o := o) hp w.sub
  refine ⟨fun b u e => ?_, w.st.keep g.f (fun b u _ e => by rw [upd_ne (ne_of_none e hp)]; exact e) g.k⟩
  by_cases hb : b = p
  · subst hb; rw [upd_same] at e ⊢; exact e
  · rw [upd_ne hb] at e ⊢; exact w.sub b u e
/-- a new object, not frozen -/
theorem Grow.newO {p : Addr} {o : HO} (hp : H p = none) : Grow Z F H F (upd H p o) :=
  ⟨Same.refl F, fun b u e _ => by rw [upd_ne (ne_of_none e hp)]; exact e, fun _ _ => rfl, fun b e => by
    have : b ≠ p := fun q => e (by rw [q]; exact hp)
    rw [upd_ne this]; exact e⟩
theorem Wd.newO {p : Addr} {o : HO} (w : Wd Z s F H) (hp : H p = none) : Wd Z s F (upd H p o) := by
  refine ⟨fun b u e => ?_, w.st.keep (Same.refl F) (fun b u _ e => by rw [upd_ne (ne_of_none e hp)]; exact e) fun _ _ => rfl⟩
  rw [upd_ne (ne_of_none (w.sub b u e) hp)]
  exact w.sub b u e
end

/-! ### the slots -/
inductive B where
  | val (d : D) | own (ds : List D) | dct (kd : List (Int × D)) | dcf (kd : List (Int × D))
abbrev Ev := List (Option B)
structure EnvL (Z : Zt) (H0 F H : Hp) (σ : L2.St) (ρ : Ev) : Prop where
  len : σ.length = ρ.length
  val : ∀ (i : Nat) d, ρ[i]? = some (some (B.val d)) → ∃ v, σ[i]? = some (some v) ∧ Rep Z F v d
  own : ∀ (i : Nat) ds, ρ[i]? = some (some (B.own ds)) → ∃ p xs, σ[i]? = some (some (V.ref p)) ∧ H0 p = none ∧ F p = none ∧ ¬ Zm Z p ∧ H p = some (.lst xs) ∧ Reps Z F xs ds
  apart : ∀ (i j : Nat) ds es, ρ[i]? = some (some (B.own ds)) → ρ[j]? = some (some (B.own es)) → σ[i]? = σ[j]? → i = j
section
variable {Z : Zt} {H0 F H F1 H1 : Hp} {σ : L2.St} {ρ : Ev}
theorem EnvL.grow (e : EnvL Z H0 F H σ ρ) (g : Grow Z F H F1 H1) : EnvL Z H0 F1 H1 σ ρ := by
  refine ⟨e.len, fun i d h => ?_, fun i ds h => ?_, e.apart⟩
  · obtain ⟨v, h1, h2⟩ := e.val i d h
    exact ⟨v, h1, h2.mono g.f⟩
  · obtain ⟨p, xs, h1, h0, h2, h3, h4, h5⟩ := e.own i ds h
    refine ⟨p, xs, h1, h0, ?_, h3, g.h p _ h4 h3, h5.mono g.f⟩
    rw [g.k p (by rw [h4]; exact fun q => nomatch q)]; exact h2
theorem getset {α : Type} {xs : List α} {i j : Nat} {x y : α} (h : (xs.set i x)[j]? = some y) : (i = j ∧ y = x ∧ i < xs.length) ∨ (i ≠ j ∧ xs[j]? = some y) := by
  by_cases e : i = j
  · subst e
    by_cases hl : i < xs.length
    · rw [List.getElem?_set_self hl] at h
      exact .inl ⟨rfl, (Option.some.inj h).symm, hl⟩
    · rw [List.getElem?_eq_none (by rw [List.length_set]; omega)] at h
      cases h
  · rw [List.getElem?_set_ne e] at h
    exact .inr ⟨e, h⟩
/-- a slot is stored: frozen data -/
theorem EnvL.setV {i : Nat} {v : V} {d : D} (e : EnvL Z H0 F H σ ρ) (r : Rep Z F v d) : EnvL Z H0 F H (σ.set i (some v)) (ρ.set i (some (B.val d))) := by
  refine ⟨by rw [List.length_set, List.length_set]; exact e.len, fun j d' h => ?_, fun j ds h => ?_, fun j k ds es h1 h2 hs => ?_⟩
  · rcases getset h with ⟨rfl, h, hl⟩ | ⟨n, h⟩
    · cases h
      refine ⟨v, ?_, r⟩
      rw [List.getElem?_set_self (by rw [e.len]; exact hl)]
    · rw [List.getElem?_set_ne n]
      exact e.val j d' h
  · rcases getset h with ⟨rfl, h, hl⟩ | ⟨n, h⟩
    · cases h
    · rw [List.getElem?_set_ne n]
      exact e.own j ds h
  · rcases getset h1 with ⟨_, h, _⟩ | ⟨n1, h1⟩
    · cases h
    · rcases getset h2 with ⟨_, h, _⟩ | ⟨n2, h2⟩
      · cases h
      · rw [List.getElem?_set_ne n1, List.getElem?_set_ne n2] at hs
        exact e.apart j k ds es h1 h2 hs
/-- a slot is forgotten -/
theorem EnvL.setN {i : Nat} (e : EnvL Z H0 F H σ ρ) : EnvL Z H0 F H (σ.set i none) (ρ.set i none) := by
  refine ⟨by rw [List.length_set, List.length_set]; exact e.len, fun j d' h => ?_, fun j ds h => ?_, fun j k ds es h1 h2 hs => ?_⟩
  · rcases getset h with ⟨rfl, h, hl⟩ | ⟨n, h⟩
    · cases h
    · rw [List.getElem?_set_ne n]; exact e.val j d' h
  · rcases getset h with ⟨rfl, h, hl⟩ | ⟨n, h⟩
    · cases h
    · rw [List.getElem?_set_ne n]; exact e.own j ds h
  · rcases getset h1 with ⟨_, h, _⟩ | ⟨n1, h1⟩
    · cases h
    · rcases getset h2 with ⟨_, h, _⟩ | ⟨n2, h2⟩
      · cases h
      · rw [List.getElem?_set_ne n1, List.getElem?_set_ne n2] at hs
        exact e.apart j k ds es h1 h2 hs
/-- a slot of data is forgotten, its value kept -/
theorem EnvL.drop {i : Nat} (e : EnvL Z H0 F H σ ρ) : EnvL Z H0 F H σ (ρ.set i none) := by
  refine ⟨by rw [List.length_set]; exact e.len, fun j d' h => ?_, fun j ds h => ?_, fun j k ds es h1 h2 hs => ?_⟩
  · rcases getset h with ⟨rfl, h, hl⟩ | ⟨n, h⟩
    · cases h
    · exact e.val j d' h
  · rcases getset h with ⟨rfl, h, hl⟩ | ⟨n, h⟩
    · cases h
    · exact e.own j ds h
  · rcases getset h1 with ⟨_, h, _⟩ | ⟨n1, h1⟩
    · cases h
    · rcases getset h2 with ⟨_, h, _⟩ | ⟨n2, h2⟩
      · cases h
      · exact e.apart j k ds es h1 h2 hs
/-- a slot is stored: a list of one's own, just made -/
theorem EnvL.setO {i : Nat} {p : Addr} {xs : List V} {ds : List D} (e : EnvL Z H0 F H σ ρ) (h0 : H0 p = none) (hp : H p = none) (hz : ¬ Zm Z p) (sub : Same F H) (r : Reps Z F xs ds) :
    EnvL Z H0 F (upd H p (.lst xs)) (σ.set i (some (V.ref p))) (ρ.set i (some (B.own ds))) := by
  have hf : F p = none := sub.free hp
  have back : ∀ (j : Nat) es, ρ[j]? = some (some (B.own es)) → σ[j]? ≠ some (some (V.ref p)) := fun j es h q => by
    obtain ⟨p', xs', h1, _, _, _, h4, _⟩ := e.own j es h
    rw [h1] at q
    cases q
    rw [hp] at h4
    cases h4
  refine ⟨by rw [List.length_set, List.length_set]; exact e.len, fun j d' h => ?_, fun j es h => ?_, fun j k es fs h1 h2 hs => ?_⟩
  · rcases getset h with ⟨rfl, h, hl⟩ | ⟨n, h⟩
    · cases h
    · rw [List.getElem?_set_ne n]; exact e.val j d' h
  · rcases getset h with ⟨rfl, h, hl⟩ | ⟨n, h⟩
    · cases h
      refine ⟨p, xs, ?_, h0, hf, hz, upd_same, r⟩
      rw [List.getElem?_set_self (by rw [e.len]; exact hl)]
    · rw [List.getElem?_set_ne n]
      obtain ⟨p', xs', h1, h1', h2, h3, h4, h5⟩ := e.own j es h
      exact ⟨p', xs', h1, h1', h2, h3, by rw [upd_ne (ne_of_none h4 hp)]; exact h4, h5⟩
  · rcases getset h1 with ⟨rfl, _, hl1⟩ | ⟨n1, h1⟩
    · rcases getset h2 with ⟨rfl, _, _⟩ | ⟨n2, h2⟩
      · rfl
      · rw [List.getElem?_set_self (by rw [e.len]; exact hl1), List.getElem?_set_ne n2] at hs
        exact absurd hs.symm (back k fs h2)
    · rcases getset h2 with ⟨rfl, _, hl2⟩ | ⟨n2, h2⟩
      · rw [List.getElem?_set_self (by rw [e.len]; exact hl2), List.getElem?_set_ne n1] at hs
        exact absurd hs (back j es h1)
      · rw [List.getElem?_set_ne n1, List.getElem?_set_ne n2] at hs
        exact e.apart j k es fs h1 h2 hs
/-- a list of one's own is given up: frozen data from now on -/
theorem EnvL.freeze {i : Nat} {ds : List D} (e : EnvL Z H0 F H σ ρ) (h : ρ[i]? = some (some (B.own ds))) (w : Same F H) :
    ∃ p xs, σ[i]? = some (some (V.ref p)) ∧ H0 p = none ∧ F p = none ∧ ¬ Zm Z p ∧ H p = some (.lst xs) ∧ EnvL Z H0 (upd F p (.lst xs)) H σ (ρ.set i (some (B.val (.lst ds)))) := by
  obtain ⟨p, xs, h1, h0, h2, h3, h4, h5⟩ := e.own i ds h
  have sm : Same F (upd F p (.lst xs)) := fun b u q => by rw [upd_ne (ne_of_none q h2)]; exact q
  refine ⟨p, xs, h1, h0, h2, h3, h4, by rw [List.length_set]; exact e.len, fun j d' hj => ?_, fun j es hj => ?_, fun j k es fs q1 q2 hs => ?_⟩
  · rcases getset hj with ⟨rfl, hj, hl⟩ | ⟨n, hj⟩
    · cases hj
      exact ⟨.ref p, h1, .lst upd_same (h5.mono sm)⟩
    · obtain ⟨v, z1, z2⟩ := e.val j d' hj
      exact ⟨v, z1, z2.mono sm⟩
  · rcases getset hj with ⟨rfl, hj, hl⟩ | ⟨n, hj⟩
    · cases hj
    · obtain ⟨p', xs', z1, z0, z2, z3, z4, z5⟩ := e.own j es hj
      have hne : p' ≠ p := fun q => by
        subst q
        exact n (e.apart i j ds es h hj (h1.trans z1.symm))
      exact ⟨p', xs', z1, z0, by rw [upd_ne hne]; exact z2, z3, z4, z5.mono sm⟩
  · rcases getset q1 with ⟨_, q1, _⟩ | ⟨n1, q1⟩
    · cases q1
    · rcases getset q2 with ⟨_, q2, _⟩ | ⟨n2, q2⟩
      · cases q2
      · exact e.apart j k es fs q1 q2 hs
/-- a list of one's own is written -/
theorem EnvL.write {i : Nat} {p : Addr} {xs ys : List V} {ds es : List D} (e : EnvL Z H0 F H σ ρ) (h : ρ[i]? = some (some (B.own ds))) (hp : σ[i]? = some (some (V.ref p))) (r : Reps Z F ys es) :
    EnvL Z H0 F (upd H p (.lst ys)) σ (ρ.set i (some (B.own es))) := by
  obtain ⟨p', xs', h1, h0, h2, h3, h4, h5⟩ := e.own i ds h
  rw [hp] at h1
  cases h1
  refine ⟨by rw [List.length_set]; exact e.len, fun j d' hj => ?_, fun j fs hj => ?_, fun j k fs gs q1 q2 hs => ?_⟩
  · rcases getset hj with ⟨rfl, hj, hl⟩ | ⟨n, hj⟩
    · cases hj
    · exact e.val j d' hj
  · rcases getset hj with ⟨rfl, hj, hl⟩ | ⟨n, hj⟩
    · cases hj
      exact ⟨p, ys, hp, h0, h2, h3, upd_same, r⟩
    · obtain ⟨p', xs', z1, z0, z2, z3, z4, z5⟩ := e.own j fs hj
      have hne : p' ≠ p := fun q => by
        subst q
        exact n (e.apart i j ds fs h hj (hp.trans z1.symm))
      exact ⟨p', xs', z1, z0, z2, z3, by rw [upd_ne hne]; exact z4, z5⟩
  · have own_of : ∀ {a : Nat} {b : List D}, (ρ.set i (some (B.own es)))[a]? = some (some (B.own b)) → ∃ b', ρ[a]? = some (some (B.own b')) := fun {a b} q => by
      rcases getset q with ⟨rfl, _, _⟩ | ⟨_, q⟩
      · exact ⟨ds, h⟩
      · exact ⟨b, q⟩
    obtain ⟨b1, z1⟩ := own_of q1
    obtain ⟨b2, z2⟩ := own_of q2
    exact e.apart j k b1 b2 z1 z2 hs
end


/-! ### dicts of one's own whose keys are ints -/
inductive RepK (Z : Zt) (F : Hp) : List (Key × V) → List (Int × D) → Prop
  | nil : RepK Z F [] []
  | cons {i : Int} {v : V} {d : D} {kvs : List (Key × V)} {kd : List (Int × D)} : Rep Z F v d → RepK Z F kvs kd → RepK Z F ((.inl i, v) :: kvs) ((i, d) :: kd)
theorem RepK.mono {Z : Zt} {F F' : Hp} (e : Same F F') : ∀ {kvs : List (Key × V)} {kd : List (Int × D)}, RepK Z F kvs kd → RepK Z F' kvs kd
  | _, _, .nil => .nil
  | _, _, .cons h r => .cons (h.mono e) (r.mono e)
structure EnvK (Z : Zt) (H0 F H : Hp) (σ : L2.St) (ρ : Ev) : Prop where
  dct : ∀ (i : Nat) kd, ρ[i]? = some (some (B.dct kd)) → ∃ p kvs, σ[i]? = some (some (V.ref p)) ∧ H0 p = none ∧ F p = none ∧ ¬ Zm Z p ∧ H p = some (.dK kvs) ∧ RepK Z F kvs kd
  dcf : ∀ (i : Nat) kd, ρ[i]? = some (some (B.dcf kd)) → ∃ p kvs o, σ[i]? = some (some (V.ref p)) ∧ F p = some (.frz o (.dK kvs)) ∧ RepK Z F kvs kd
  apartK : ∀ (i j : Nat) kd ke, ρ[i]? = some (some (B.dct kd)) → ρ[j]? = some (some (B.dct ke)) → σ[i]? = σ[j]? → i = j
structure EnvR (Z : Zt) (H0 F H : Hp) (σ : L2.St) (ρ : Ev) : Prop extends EnvL Z H0 F H σ ρ, EnvK Z H0 F H σ ρ
section
variable {Z : Zt} {H0 F H F1 H1 : Hp} {σ : L2.St} {ρ : Ev}
theorem EnvK.grow (e : EnvK Z H0 F H σ ρ) (g : Grow Z F H F1 H1) : EnvK Z H0 F1 H1 σ ρ := by
  refine ⟨fun i kd h => ?_, fun i kd h => ?_, e.apartK⟩
  · obtain ⟨p, kvs, h1, h0, h2, h3, h4, h5⟩ := e.dct i kd h
    exact ⟨p, kvs, h1, h0, by rw [g.k p (by rw [h4]; exact fun q => nomatch q)]; exact h2, h3, g.h p _ h4 h3, h5.mono g.f⟩
  · obtain ⟨p, kvs, o, h1, h2, h3⟩ := e.dcf i kd h
    exact ⟨p, kvs, o, h1, g.f _ _ h2, h3.mono g.f⟩
/-- what stands at the slots of dicts stays, when others change -/
theorem EnvK.keep {ρ' : Ev} {σ' : L2.St} (e : EnvK Z H0 F H σ ρ) (sm : Same F F1) (hd : ∀ (i : Nat) kd p kvs, ρ[i]? = some (some (B.dct kd)) → σ[i]? = some (some (V.ref p)) → H p = some (.dK kvs) → H1 p = some (.dK kvs) ∧ F1 p = F p)
    (h1 : ∀ (i : Nat) kd, ρ'[i]? = some (some (B.dct kd)) → ρ[i]? = some (some (B.dct kd)) ∧ σ'[i]? = σ[i]?) (h2 : ∀ (i : Nat) kd, ρ'[i]? = some (some (B.dcf kd)) → ρ[i]? = some (some (B.dcf kd)) ∧ σ'[i]? = σ[i]?) : EnvK Z H0 F1 H1 σ' ρ' := by
  refine ⟨fun i kd h => ?_, fun i kd h => ?_, fun i j kd ke h h' hs => ?_⟩
  · obtain ⟨q1, q2⟩ := h1 i kd h
    obtain ⟨p, kvs, z1, z0, z2, z3, z4, z5⟩ := e.dct i kd q1
    obtain ⟨y1, y2⟩ := hd i kd p kvs q1 z1 z4
    exact ⟨p, kvs, q2.trans z1, z0, y2.trans z2, z3, y1, z5.mono sm⟩
  · obtain ⟨q1, q2⟩ := h2 i kd h
    obtain ⟨p, kvs, o, z1, z2, z3⟩ := e.dcf i kd q1
    exact ⟨p, kvs, o, q2.trans z1, sm _ _ z2, z3.mono sm⟩
  · obtain ⟨q1, q2⟩ := h1 i kd h
    obtain ⟨q3, q4⟩ := h1 j ke h'
    exact e.apartK i j kd ke q1 q3 (q2.symm.trans (hs.trans q4))
/-- one slot is changed, to no dict -/
theorem EnvK.set {i : Nat} {b : Option B} {x : Option V} (e : EnvK Z H0 F H σ ρ) (sm : Same F F1) (hd : ∀ p kvs, H p = some (.dK kvs) → H1 p = some (.dK kvs) ∧ F1 p = F p)
    (n1 : ∀ kd, b ≠ some (B.dct kd)) (n2 : ∀ kd, b ≠ some (B.dcf kd)) : EnvK Z H0 F1 H1 (σ.set i x) (ρ.set i b) := by
  refine e.keep sm (fun _ _ p kvs _ _ h => hd p kvs h) (fun j kd h => ?_) fun j kd h => ?_
  · rcases getset h with ⟨rfl, h, _⟩ | ⟨n, h⟩
    · exact absurd h.symm (n1 kd)
    · exact ⟨h, List.getElem?_set_ne n⟩
  · rcases getset h with ⟨rfl, h, _⟩ | ⟨n, h⟩
    · exact absurd h.symm (n2 kd)
    · exact ⟨h, List.getElem?_set_ne n⟩
theorem EnvK.set' {i : Nat} {b : Option B} (e : EnvK Z H0 F H σ ρ) (sm : Same F F1) (hd : ∀ p kvs, H p = some (.dK kvs) → H1 p = some (.dK kvs) ∧ F1 p = F p)
    (n1 : ∀ kd, b ≠ some (B.dct kd)) (n2 : ∀ kd, b ≠ some (B.dcf kd)) : EnvK Z H0 F1 H1 σ (ρ.set i b) := by
  refine e.keep sm (fun _ _ p kvs _ _ h => hd p kvs h) (fun j kd h => ?_) fun j kd h => ?_
  · rcases getset h with ⟨rfl, h, _⟩ | ⟨n, h⟩
    · exact absurd h.symm (n1 kd)
    · exact ⟨h, rfl⟩
  · rcases getset h with ⟨rfl, h, _⟩ | ⟨n, h⟩
    · exact absurd h.symm (n2 kd)
    · exact ⟨h, rfl⟩
theorem EnvR.grow (e : EnvR Z H0 F H σ ρ) (g : Grow Z F H F1 H1) : EnvR Z H0 F1 H1 σ ρ := ⟨e.toEnvL.grow g, e.toEnvK.grow g⟩
theorem EnvR.setV {i : Nat} {v : V} {d : D} (e : EnvR Z H0 F H σ ρ) (r : Rep Z F v d) : EnvR Z H0 F H (σ.set i (some v)) (ρ.set i (some (B.val d))) :=
  ⟨e.toEnvL.setV r, e.toEnvK.set (Same.refl F) (fun _ _ h => ⟨h, rfl⟩) (fun _ h => by cases h) fun _ h => by cases h⟩
theorem EnvR.setN {i : Nat} (e : EnvR Z H0 F H σ ρ) : EnvR Z H0 F H (σ.set i none) (ρ.set i none) :=
  ⟨e.toEnvL.setN, e.toEnvK.set (Same.refl F) (fun _ _ h => ⟨h, rfl⟩) (fun _ h => by cases h) fun _ h => by cases h⟩
theorem EnvR.drop {i : Nat} (e : EnvR Z H0 F H σ ρ) : EnvR Z H0 F H σ (ρ.set i none) :=
  ⟨e.toEnvL.drop, e.toEnvK.set' (Same.refl F) (fun _ _ h => ⟨h, rfl⟩) (fun _ h => by cases h) fun _ h => by cases h⟩
theorem EnvR.setO {i : Nat} {p : Addr} {xs : List V} {ds : List D} (e : EnvR Z H0 F H σ ρ) (h0 : H0 p = none) (hp : H p = none) (hz : ¬ Zm Z p) (sub : Same F H) (r : Reps Z F xs ds) :
    EnvR Z H0 F (upd H p (.lst xs)) (σ.set i (some (V.ref p))) (ρ.set i (some (B.own ds))) :=
  ⟨e.toEnvL.setO h0 hp hz sub r, e.toEnvK.set (Same.refl F) (fun q kvs h => ⟨by rw [upd_ne (ne_of_none h hp)]; exact h, rfl⟩) (fun _ h => by cases h) fun _ h => by cases h⟩
theorem EnvR.freeze {i : Nat} {ds : List D} (e : EnvR Z H0 F H σ ρ) (h : ρ[i]? = some (some (B.own ds))) (w : Same F H) :
    ∃ p xs, σ[i]? = some (some (V.ref p)) ∧ H0 p = none ∧ F p = none ∧ ¬ Zm Z p ∧ H p = some (.lst xs) ∧ EnvR Z H0 (upd F p (.lst xs)) H σ (ρ.set i (some (B.val (.lst ds)))) := by
  obtain ⟨p, xs, h1, h0, h2, h3, h4, en⟩ := e.toEnvL.freeze h w
  have sm : Same F (upd F p (.lst xs)) := fun b u q => by rw [upd_ne (ne_of_none q h2)]; exact q
  refine ⟨p, xs, h1, h0, h2, h3, h4, en, e.toEnvK.set' sm (fun q kvs hq => ⟨hq, ?_⟩) (fun _ h => by cases h) fun _ h => by cases h⟩
  have : q ≠ p := ne_of hq h4 (fun z => by cases z)
  rw [upd_ne this]
theorem EnvR.write {i : Nat} {p : Addr} {xs ys : List V} {ds es : List D} (e : EnvR Z H0 F H σ ρ) (h : ρ[i]? = some (some (B.own ds))) (hp : σ[i]? = some (some (V.ref p))) (r : Reps Z F ys es) :
    EnvR Z H0 F (upd H p (.lst ys)) σ (ρ.set i (some (B.own es))) := by
  obtain ⟨p', xs', h1, h0, h2, h3, h4, h5⟩ := e.own i ds h
  rw [hp] at h1
  cases h1
  refine ⟨e.toEnvL.write (xs := xs) h hp r, e.toEnvK.set' (Same.refl F) (fun q kvs hq => ⟨?_, rfl⟩) (fun _ h => by cases h) fun _ h => by cases h⟩
  have : q ≠ p := ne_of hq h4 (fun z => by cases z)
  rw [upd_ne this]; exact hq
end
/-! ### what is wanted behind -/
def RepX (mg : Str → Option Value) (Z : Zt) (F H : Hp) (e : Ex) (cls : Value) (d : Option Addr) : Prop :=
  (∃ C, mg e.cls = some (.ref C) ∧ cls = .ref C) ∧ match e.att with
    | none => d = none
    | some (f, a) => ∃ dx v, d = some dx ∧ H dx = some (.xd [(f, v)]) ∧ Rep Z F v a
def Goal {α β : Type} (rel : Hp → β → α → Prop) (mg : Str → Option Value) (E : XK) (Z : Zt) (F H : Hp) (Q : β → Hp → Prop) : Option (Except Ex α × DS) → Prop
  | none => False
  | some (.ok d, s) => ∀ v F' H', Grow Z F H F' H' → Wd Z s F' H' → rel F' v d → Q v H'
  | some (.error e, s) => ∀ cls d F' H', Grow Z F H F' H' → Wd Z s F' H' → RepX mg Z F' H' e cls d → E cls d H'
section
variable {α β γ δ : Type} {rel : Hp → β → α → Prop} {rel' : Hp → δ → γ → Prop} {mg : Str → Option Value} {E : XK} {Z : Zt} {F H F1 H1 : Hp} {Q Q' : β → Hp → Prop} {r : Option (Except Ex α × DS)} {s : DS}
theorem Goal.shift (h : Goal rel mg E Z F H Q r) (g : Grow Z F H F1 H1) : Goal rel mg E Z F1 H1 Q r := by
  match r, h with
  | some (.ok d, s), h => exact fun v F' H' a b c => h v F' H' (g.trans a) b c
  | some (.error e, s), h => exact fun cls d F' H' a b c => h cls d F' H' (g.trans a) b c
theorem Goal.mono (h : Goal rel mg E Z F H Q r) (k : ∀ d s' v F' H', r = some (.ok d, s') → Grow Z F H F' H' → Wd Z s' F' H' → rel F' v d → Q v H' → Q' v H') : Goal rel mg E Z F H Q' r := by
  match r, h with
  | some (.ok d, s), h => exact fun v F' H' a b c => k d s v F' H' rfl a b c (h v F' H' a b c)
  | some (.error e, s), h => exact h
/-- first m, then f: what m's reading is to reach -/
theorem Goal.bind {m : M γ} {f : γ → M α} {P : δ → Hp → Prop} (h : Goal rel mg E Z F H Q ((m >>= f) s))
    (k : ∀ d1 s1 v F1 H1, Grow Z F H F1 H1 → Wd Z s1 F1 H1 → rel' F1 v d1 → Goal rel mg E Z F1 H1 Q (f d1 s1) → P v H1) : Goal rel' mg E Z F H P (m s) := by
  have h' : Goal rel mg E Z F H Q (M.bind m f s) := h
  unfold M.bind at h'
  match hm : m s, h' with
  | some (.ok d, s1), h' => exact fun v F' H' a b c => k d s1 v F' H' a b c (h'.shift a)
  | some (.error e, s1), h' => exact h'
theorem Goal.pureE {d : α} {v : β} (h : Goal rel mg E Z F H Q ((Pure.pure d : M α) s)) (w : Wd Z s F H) (r : rel F v d) : Q v H := h v F H Grow.refl w r
end

def relD (Z : Zt) : Hp → V → D → Prop := fun F v d => Rep Z F v d
def relL (Z : Zt) : Hp → List V → List D → Prop := fun F v d => Reps Z F v d
def relB : Hp → Bool → Bool → Prop := fun _ a b => a = b
/-- an expression's reading by a function on data -/
def tD (mg : Str → Option Value) (E : XK) (f : Ev → M D) : TE := fun σ H Q => ∃ Z H0 F ρ s, Wd Z s F H ∧ EnvR Z H0 F H σ ρ ∧ Goal (relD Z) mg E Z F H Q (f ρ s)
def tB' (mg : Str → Option Value) (E : XK) (f : Ev → M Bool) : TT := fun σ H Q => ∃ Z H0 F ρ s, Wd Z s F H ∧ EnvR Z H0 F H σ ρ ∧ Goal relB mg E Z F H Q (f ρ s)
def tA' (mg : Str → Option Value) (E : XK) (f : Ev → M (List D)) : TA := fun σ H Q => ∃ Z H0 F ρ s, Wd Z s F H ∧ EnvR Z H0 F H σ ρ ∧ Goal (relL Z) mg E Z F H Q (f ρ s)

theorem PE.imp {X : Cx} {e : Expr} {t t' : TE} (h : PE X e t) (k : ∀ σ H Q, t' σ H Q → t σ H Q) : PE X e t' := ⟨fun pins s σ H Q I q => h.run pins s σ H Q I (k σ H Q q)⟩
theorem PT.imp {X : Cx} {e : Expr} {t t' : TT} (h : PT X e t) (k : ∀ σ H Q, t' σ H Q → t σ H Q) : PT X e t' := ⟨fun pins s σ H Q I q => h.run pins s σ H Q I (k σ H Q q)⟩
theorem PW.imp {X : Cx} {e : Expr} {t t' : TT} (h : PW X e t) (k : ∀ σ H Q, t' σ H Q → t σ H Q) : PW X e t' := ⟨fun w pins s σ H Q I q => h.run w pins s σ H Q I (k σ H Q q)⟩
theorem PA.imp {X : Cx} {e : List Expr} {t t' : TA} (h : PA X e t) (k : ∀ σ H Q, t' σ H Q → t σ H Q) : PA X e t' := ⟨fun pos pins s σ H Q I q => h.run pos pins s σ H Q I (k σ H Q q)⟩
theorem PS.imp {X : Cx} {e : Stmt} {t t' : TS} (h : PS X e t) (k : ∀ D σ H, t' D σ H → t D σ H) : PS X e t' := ⟨fun pins s σ H D I q => h.run pins s σ H D I (k D σ H q)⟩
theorem PSs.imp {X : Cx} {e : List Stmt} {t t' : TS} (h : PSs X e t) (k : ∀ D σ H, t' D σ H → t D σ H) : PSs X e t' := ⟨fun pins s σ H D I q => h.run pins s σ H D I (k D σ H q)⟩
theorem PI.imp {X : Cx} {tg e : Expr} {t t' : TI} (h : PI X tg e t) (k : ∀ σ H R, t' σ H R → t σ H R) : PI X tg e t' := ⟨fun pins s σ H R I q => h.run pins s σ H R I (k σ H R q)⟩
theorem PG.imp {X : Cx} {tg : Expr} {t t' : TG} (h : PG X tg t) (k : ∀ v σ H Q, t' v σ H Q → t v σ H Q) : PG X tg t' := ⟨fun pins s σ H v u Q I r q => h.run pins s σ H v u Q I r (k v σ H Q q)⟩
end DL

set_option Elab.async false
set_option linter.all false
set_option maxRecDepth 100000
set_option maxHeartbeats 4000000
/-! D layer 2: operators, calls of built-ins, methods: what they make of data. -/
namespace DL
open PySem PySem.Spec PyProof.Rows L2

abbrev big : Nat := 16777216
theorem big_eq : (big : Nat) = sizeLine := by decide

/-- what is wanted of an operation's data -/
def Kc (Z : Zt) (F H : Hp) (s : DS) (d : D) (Q : VK) : Prop := ∀ v F' H', Grow Z F H F' H' → Wd Z s F' H' → Rep Z F' v d → Q v H'
section
variable {Z : Zt} {F H : Hp} {s : DS} {d : D} {Q : VK}
theorem Kc.here (k : Kc Z F H s d Q) (w : Wd Z s F H) {v : V} (r : Rep Z F v d) : Q v H := k v F H Grow.refl w r
theorem Kc.lst {ds : List D} (k : Kc Z F H s (.lst ds) Q) (w : Wd Z s F H) {xs : List V} (r : Reps Z F xs ds) (p : Addr) (hp : H p = none) : Q (.ref p) (upd H p (.lst xs)) := by
  have g := Grow.new (Z := Z) (o := .lst xs) hp w.sub
  exact k (.ref p) _ _ g (w.new hp) (.lst upd_same (r.mono g.f))
theorem Kc.tup {ds : List D} (k : Kc Z F H s (.tup ds) Q) (w : Wd Z s F H) {xs : List V} (r : Reps Z F xs ds) (p : Addr) (hp : H p = none) : Q (.ref p) (upd H p (.tup xs)) := by
  have g := Grow.new (Z := Z) (o := .tup xs) hp w.sub
  exact k (.ref p) _ _ g (w.new hp) (.tup upd_same (r.mono g.f))
end
def rO (f : D → D → Option D) : R2 := fun x y H Q => ∃ Z F s d1 d2 d, Wd Z s F H ∧ Rep Z F x d1 ∧ Rep Z F y d2 ∧ f d1 d2 = some d ∧ Kc Z F H s d Q
def rU' (f : D → Option D) : V → Hp → VK → Prop := fun x H Q => ∃ Z F s d1 d, Wd Z s F H ∧ Rep Z F x d1 ∧ f d1 = some d ∧ Kc Z F H s d Q
def rC (f : List D → Option D) : List V → Hp → VK → Prop := fun xs H Q => ∃ Z F s ds d, Wd Z s F H ∧ Reps Z F xs ds ∧ f ds = some d ∧ Kc Z F H s d Q
def rM (f : D → List D → Option D) : V → List V → Hp → VK → Prop := fun x xs H Q => ∃ Z F s d1 ds d, Wd Z s F H ∧ Rep Z F x d1 ∧ Reps Z F xs ds ∧ f d1 ds = some d ∧ Kc Z F H s d Q

/-! ### the operators on data -/
def addD : D → D → Option D
  | .int i, .int j => some (.int (i + j))
  | .str x, .str y => if x.length + y.length ≤ big then some (.str (x ++ y)) else none
  | .lst xs, .lst ys => if xs.length + ys.length ≤ big then some (.lst (xs ++ ys)) else none
  | .tup xs, .tup ys => if xs.length + ys.length ≤ big then some (.tup (xs ++ ys)) else none
  | _, _ => none
def subD : D → D → Option D
  | .int i, .int j => some (.int (i - j))
  | _, _ => none
def mulOk (i : Int) : Bool := decide (-(2 ^ 64) < i) && decide (i < 2 ^ 64)
def mulD : D → D → Option D
  | .int i, .int j => if mulOk i || mulOk j then some (.int (i * j)) else none
  | .str x, .int j => if 0 ≤ j ∧ j ≤ 1000 ∧ x.length ≤ 1000 then some (.str ⟨(List.replicate j.toNat x.cps).foldl (· ++ ·) #[]⟩) else none
  | _, _ => none
def fdivD : D → D → Option D
  | .int i, .int j => if 0 < j ∧ j < 1073741824 then some (.int (i / j)) else none
  | _, _ => none
def modD : D → D → Option D
  | .int i, .int j => if 0 < j then some (.int (i % j)) else none
  | _, _ => none
def powD : D → D → Option D
  | .int i, .int j => if 0 ≤ j ∧ j ≤ 1000000 ∧ i.natAbs < 2 ^ 64 then some (.int (i ^ j.toNat)) else none
  | _, _ => none
def shlD : D → D → Option D
  | .int i, .int j => if 0 ≤ j ∧ j ≤ 1000000 ∧ i.natAbs < 2 ^ 64 then some (.int (i * 2 ^ j.toNat)) else none
  | _, _ => none
def shrD : D → D → Option D
  | .int i, .int j => if 0 ≤ j then some (.int (i / 2 ^ j.toNat)) else none
  | _, _ => none
def andD : D → D → Option D
  | .int i, .int j => some (.int (Builtin.bitAnd i j))
  | _, _ => none
def orD : D → D → Option D
  | .int i, .int j => some (.int (Builtin.bitOr i j))
  | _, _ => none
def xorD : D → D → Option D
  | .int i, .int j => some (.int (Builtin.bitXor i j))
  | _, _ => none
def negD : D → Option D
  | .int i => some (.int (-i))
  | _ => none
def ltD : D → D → Option D
  | .int i, .int j => some (.bl (decide (i < j)))
  | _, _ => none
def leD : D → D → Option D
  | .int i, .int j => some (.bl (decide (i ≤ j)))
  | _, _ => none
def gtD : D → D → Option D
  | .int i, .int j => some (.bl (decide (j < i)))
  | _, _ => none
def geD : D → D → Option D
  | .int i, .int j => some (.bl (decide (j ≤ i)))
  | _, _ => none
/-- is None -/
def isND : D → D → Option D
  | .non, .non => some (.bl true)
  | .bl _, .non => some (.bl false)
  | .int _, .non => some (.bl false)
  | .str _, .non => some (.bl false)
  | .lst _, .non => some (.bl false)
  | .tup _, .non => some (.bl false)
  | _, _ => none
def notND : D → D → Option D
  | .non, .non => some (.bl false)
  | .bl _, .non => some (.bl true)
  | .int _, .non => some (.bl true)
  | .str _, .non => some (.bl true)
  | .lst _, .non => some (.bl true)
  | .tup _, .non => some (.bl true)
  | _, _ => none

theorem ite_some {c : Prop} [Decidable c] {α : Type} {a d : α} (h : (if c then some a else none) = some d) : c ∧ a = d := by
  split at h
  · exact ⟨by assumption, Option.some.inj h⟩
  · cases h
section
variable {X : Cx}
theorem or_of {a b : Bool} (h : (a || b) = true) : a = true ∨ b = true := Bool.or_eq_true_iff.mp h
theorem mulOk_of {i : Int} (h : mulOk i = true) : -(2 ^ 64) < i ∧ i < 2 ^ 64 := by
  obtain ⟨a, b⟩ := Bool.and_eq_true_iff.mp h
  exact ⟨of_decide_eq_true a, of_decide_eq_true b⟩
theorem opD_int {f : Value → Value → Sem Value} {C : Int → Int → Prop} {g : Int → Int → V} {op : D → D → Option D} (h : OpR X f (rI C g))
    (q : ∀ d1 d2 d, op d1 d2 = some d → ∃ i j, d1 = .int i ∧ d2 = .int j ∧ C i j ∧ ∀ Z F, Rep Z F (g i j) d) : OpR X f (rO op) := by
  intro pins s σ H x y v u Q I rx ry ⟨Z, F, st, d1, d2, d, w, r1, r2, e, k⟩
  obtain ⟨i, j, rfl, rfl, c, rr⟩ := q _ _ _ e
  cases r1
  cases r2
  exact h pins s σ H _ _ v u Q I rx ry ⟨i, j, rfl, rfl, c, k.here w (rr Z F)⟩
theorem opD_int0 {f : Value → Value → Sem Value} {g : Int → Int → V} {op : D → D → Option D} (h : OpR X f (rI0 g))
    (q : ∀ d1 d2 d, op d1 d2 = some d → ∃ i j, d1 = .int i ∧ d2 = .int j ∧ ∀ Z F, Rep Z F (g i j) d) : OpR X f (rO op) := by
  intro pins s σ H x y v u Q I rx ry ⟨Z, F, st, d1, d2, d, w, r1, r2, e, k⟩
  obtain ⟨i, j, rfl, rfl, rr⟩ := q _ _ _ e
  cases r1
  cases r2
  exact h pins s σ H _ _ v u Q I rx ry ⟨i, j, rfl, rfl, k.here w (rr Z F)⟩
theorem od_sub : OpR X (binaryOp .Sub) (rO subD) := opD_int0 op_sub fun d1 d2 d e => by
  cases d1 <;> cases d2 <;> first | (cases e; done) | (cases e; exact ⟨_, _, rfl, rfl, fun _ _ => .int _⟩)
theorem od_fdiv : OpR X (binaryOp .FloorDiv) (rO fdivD) := opD_int op_fdiv fun d1 d2 d e => by
  cases d1 <;> cases d2 <;> try (cases e; done)
  rename_i i j
  obtain ⟨h, e⟩ := ite_some (show (if 0 < j ∧ j < 1073741824 then some (D.int (i / j)) else none) = some d from e)
  cases e
  exact ⟨i, j, rfl, rfl, h, fun _ _ => .int _⟩
theorem od_mod : OpR X (binaryOp .Mod) (rO modD) := opD_int op_mod fun d1 d2 d e => by
  cases d1 <;> cases d2 <;> try (cases e; done)
  rename_i i j
  obtain ⟨h, e⟩ := ite_some (show (if 0 < j then some (D.int (i % j)) else none) = some d from e)
  cases e
  exact ⟨i, j, rfl, rfl, h, fun _ _ => .int _⟩
theorem od_pow : OpR X (binaryOp .Pow) (rO powD) := opD_int op_pow fun d1 d2 d e => by
  cases d1 <;> cases d2 <;> try (cases e; done)
  rename_i i j
  obtain ⟨h, e⟩ := ite_some (show (if 0 ≤ j ∧ j ≤ 1000000 ∧ i.natAbs < 2 ^ 64 then some (D.int (i ^ j.toNat)) else none) = some d from e)
  cases e
  exact ⟨i, j, rfl, rfl, h, fun _ _ => .int _⟩
theorem od_shl : OpR X (binaryOp .LShift) (rO shlD) := opD_int op_shl fun d1 d2 d e => by
  cases d1 <;> cases d2 <;> try (cases e; done)
  rename_i i j
  obtain ⟨h, e⟩ := ite_some (show (if 0 ≤ j ∧ j ≤ 1000000 ∧ i.natAbs < 2 ^ 64 then some (D.int (i * 2 ^ j.toNat)) else none) = some d from e)
  cases e
  exact ⟨i, j, rfl, rfl, h, fun _ _ => .int _⟩
theorem od_shr : OpR X (binaryOp .RShift) (rO shrD) := opD_int op_shr fun d1 d2 d e => by
  cases d1 <;> cases d2 <;> try (cases e; done)
  rename_i i j
  obtain ⟨h, e⟩ := ite_some (show (if 0 ≤ j then some (D.int (i / 2 ^ j.toNat)) else none) = some d from e)
  cases e
  exact ⟨i, j, rfl, rfl, h, fun _ _ => .int _⟩
theorem od_and : OpR X (binaryOp .BitAnd) (rO andD) := opD_int0 op_and fun d1 d2 d e => by
  cases d1 <;> cases d2 <;> first | (cases e; done) | (cases e; exact ⟨_, _, rfl, rfl, fun _ _ => .int _⟩)
theorem od_or : OpR X (binaryOp .BitOr) (rO orD) := opD_int0 op_or fun d1 d2 d e => by
  cases d1 <;> cases d2 <;> first | (cases e; done) | (cases e; exact ⟨_, _, rfl, rfl, fun _ _ => .int _⟩)
theorem od_xor : OpR X (binaryOp .BitXor) (rO xorD) := opD_int0 op_xor fun d1 d2 d e => by
  cases d1 <;> cases d2 <;> first | (cases e; done) | (cases e; exact ⟨_, _, rfl, rfl, fun _ _ => .int _⟩)
theorem od_lt : OpR X (compareOp .Lt) (rO ltD) := opD_int0 op_lt fun d1 d2 d e => by
  cases d1 <;> cases d2 <;> first | (cases e; done) | (cases e; exact ⟨_, _, rfl, rfl, fun _ _ => .bl _⟩)
theorem od_le : OpR X (compareOp .LtE) (rO leD) := opD_int0 op_le fun d1 d2 d e => by
  cases d1 <;> cases d2 <;> first | (cases e; done) | (cases e; exact ⟨_, _, rfl, rfl, fun _ _ => .bl _⟩)
theorem od_gt : OpR X (compareOp .Gt) (rO gtD) := opD_int0 op_gt fun d1 d2 d e => by
  cases d1 <;> cases d2 <;> first | (cases e; done) | (cases e; exact ⟨_, _, rfl, rfl, fun _ _ => .bl _⟩)
theorem od_ge : OpR X (compareOp .GtE) (rO geD) := opD_int0 op_ge fun d1 d2 d e => by
  cases d1 <;> cases d2 <;> first | (cases e; done) | (cases e; exact ⟨_, _, rfl, rfl, fun _ _ => .bl _⟩)
theorem ud_neg : UnR X (unaryOp .USub) (rU' negD) := by
  intro pins s σ H x v Q I rx ⟨Z, F, st, d1, d, w, r1, e, k⟩
  cases d1 <;> try (cases e; done)
  cases e
  cases r1
  exact un_neg pins s σ H _ v Q I rx ⟨_, rfl, k.here w (.int _)⟩

/-! ### + -/
theorem cat_tup0 {prog : Program} {w : World} {A : Around} {E : Value → Shared → Prop} {s : Shared} {t b : Addr} {ws : List Value} {Q : Value → Shared → Prop} (ht : IsTup s.heap t #[]) (hb : IsTup s.heap b ws.toArray)
    (h1 : Q (.ref b) s) : wpAny (model prog w) A (binaryOp .Add (.ref t) (.ref b)) Q E s := by
  obtain ⟨⟨cls, dd, data, sl⟩, ho, hc, n, hd⟩ := id ht
  obtain ⟨⟨cls2, dd2, data2, sl2⟩, ho2, hc2, n2, hd2⟩ := id hb
  simp only at hc hd hc2 hd2
  subst hc hd hc2 hd2
  exact concat_meets ⟨_, ho, rfl⟩ ⟨_, ho2, rfl⟩ noFill_tuple_add seq_tuple_add PySem.F.slot_tuple_add PySem.F.entry_tuple_add (PySem.F.args_tuple_add_2 _ _)
      (tuple_addW0 t b #[] ws.toArray n n2 dd dd2 sl sl2 (by simp)) ⟨ho, ho2, h1⟩
theorem od_add : OpR X (binaryOp .Add) (rO addD) := by
  intro pins s σ H x y v u Q I rx ry ⟨Z, F, st, d1, d2, d, w, r1, r2, e, k⟩
  cases d1 <;> cases d2 <;> try (cases e; done)
  · cases e
    cases r1
    cases r2
    exact op_add pins s σ H _ _ v u Q I rx ry ⟨_, _, rfl, rfl, k.here w (.int _)⟩
  · rename_i a b
    obtain ⟨h, e⟩ := ite_some (show (if a.length + b.length ≤ big then some (D.str (a ++ b)) else none) = some d from e)
    cases e
    cases r1
    cases r2
    exact op_add_str pins s σ H _ _ v u Q I rx ry ⟨_, _, rfl, rfl, h, k.here w (.str _)⟩
  · rename_i a b
    obtain ⟨h, e⟩ := ite_some (show (if a.length + b.length ≤ big then some (D.lst (a ++ b)) else none) = some d from e)
    cases e
    cases r1 with
    | lst h1 q1 =>
      cases r2 with
      | lst h2 q2 =>
        refine op_cat pins s σ H _ _ v u Q I rx ry ⟨_, _, _, _, rfl, rfl, w.sub _ _ h1, w.sub _ _ h2, ?_, fun p hp => k.lst w (q1.append q2) p hp⟩
        rw [q1.length, q2.length]
        exact h
  · rename_i a b
    obtain ⟨h, e⟩ := ite_some (show (if a.length + b.length ≤ big then some (D.tup (a ++ b)) else none) = some d from e)
    cases e
    cases r1 with
    | @tup ad xs _ h1 q1 =>
      cases r2 with
      | @tup bd ys _ h2 q2 =>
        by_cases hx : xs = []
        · subst hx
          cases q1
          cases rx
          cases ry
          obtain ⟨its, r', p1, _⟩ := I.tuple (SqT.of (w.sub _ _ h1))
          obtain ⟨its2, r2', p2, _⟩ := I.tuple (SqT.of (w.sub _ _ h2))
          cases r'
          exact cat_tup0 p1 p2 ⟨.ref bd, H, I, rfl, k.here w (.tup h2 (by simpa using q2))⟩
        · refine op_catT pins s σ H _ _ v u Q I rx ry ⟨_, _, _, _, rfl, rfl, SqT.of (w.sub _ _ h1), SqT.of (w.sub _ _ h2), hx, ?_, fun z => ?_, fun _ p hp => k.tup w (q1.append q2) p hp⟩
          · rw [q1.length, q2.length]
            exact h
          · subst z
            cases q2
            exact k.here w (.tup h1 (by simpa using q1))
theorem foldl_len (x : Array Nat) : ∀ (n : Nat) (acc : Array Nat), ((List.replicate n x).foldl (· ++ ·) acc).size = acc.size + n * x.size
  | 0, acc => by simp
  | n + 1, acc => by
    rw [List.replicate_succ, List.foldl_cons, foldl_len x n, Array.size_append, Nat.add_mul]
    omega
theorem od_mul : OpR X (binaryOp .Mult) (rO mulD) := by
  intro pins s σ H x y v u Q I rx ry ⟨Z, F, st, d1, d2, d, w, r1, r2, e, k⟩
  cases d1 <;> cases d2 <;> try (cases e; done)
  · rename_i i j
    obtain ⟨h, e⟩ := ite_some (show (if (mulOk i || mulOk j) = true then some (D.int (i * j)) else none) = some d from e)
    cases e
    cases r1
    cases r2
    refine op_mul pins s σ H _ _ v u Q I rx ry ⟨_, _, rfl, rfl, ?_, k.here w (.int _)⟩
    rcases or_of h with h | h
    · exact .inl (mulOk_of h)
    · exact .inr (mulOk_of h)
  · rename_i z j
    obtain ⟨h, e⟩ := ite_some (show (if 0 ≤ j ∧ j ≤ 1000 ∧ z.length ≤ 1000 then some (D.str ⟨(List.replicate j.toNat z.cps).foldl (· ++ ·) #[]⟩) else none) = some d from e)
    cases e
    cases r1
    cases r2
    obtain ⟨t, rfl⟩ := rx
    obtain ⟨t', rfl⟩ := ry
    obtain ⟨h0, h1, h2⟩ := h
    have hm : z.length * j.toNat ≤ 1000 * 1000 := Nat.mul_le_mul h2 (by omega)
    refine PySem.P.mul_str ?_ (fun a b => ?_) (fun a b => ?_) ?_
    · rw [decide_eq_false (by omega), decide_eq_false (by omega)]; rfl
    · have h3 : (2 ^ 63 - 1 : Int) / j ≥ 1000 := by
        apply Int.le_ediv_of_mul_le (by omega)
        omega
      omega
    · unfold Builtin.Str.tooLong
      have : (1000 * 1000 : Nat) ≤ sizeLine := by decide
      simp
      omega
    · split
      · rename_i hj
        have e0 : j.toNat = 0 := by omega
        have := k.here w (.str ⟨(List.replicate j.toNat z.cps).foldl (· ++ ·) #[]⟩)
        rw [e0] at this
        exact ⟨by decide, .str _, H, I.tok _, ⟨_, rfl⟩, this⟩
      · split
        · rename_i hj hx
          have e0 : (⟨(List.replicate j.toNat z.cps).foldl (· ++ ·) #[]⟩ : Str) = z := by
            rcases Bool.or_eq_true_iff.mp hx with q | q
            · have : j = 1 := by simpa using q
              subst this
              cases z
              simp
            · have q' : z.length = 0 := by simpa using q
              have q2 : z.cps.size = 0 := q'
              have hz := foldl_len z.cps j.toNat #[]
              rw [q2] at hz
              cases z with
              | mk c =>
                have c0 : c = #[] := Array.eq_empty_of_size_eq_zero q2
                subst c0
                congr 1
                exact Array.eq_empty_of_size_eq_zero (by simpa using hz)
          have q := k.here w (.str ⟨(List.replicate j.toNat z.cps).foldl (· ++ ·) #[]⟩)
          rw [e0] at q
          exact ⟨.str z, H, I, ⟨_, rfl⟩, q⟩
        · refine ⟨?_, .str _, H, I.tok _, ⟨_, rfl⟩, k.here w (.str _)⟩
          have hz := foldl_len z.cps j.toNat #[]
          have : (1000 * 1000 : Nat) ≤ sizeLine := by decide
          have hz' : z.cps.size = z.length := rfl
          show ((List.replicate j.toNat z.cps).foldl (· ++ ·) #[]).size ≤ sizeLine
          rw [hz, hz', Nat.mul_comm]
          simp
          omega
end
end DL

set_option Elab.async false
set_option linter.all false
set_option maxRecDepth 100000
set_option maxHeartbeats 4000000
/-! D layer 3: ==, in, subscripts, slices, built-ins, methods. -/
namespace DL
open PySem PySem.Spec PyProof.Rows L2

/-! ### == -/
mutual
def D.py : D → PyData
  | .non => .none
  | .bl b => .bool b
  | .int i => .int i
  | .str x => .str x
  | .lst ds => .list (D.pys ds)
  | .tup ds => .tuple (D.pys ds)
  | .st => .none
  | .opq _ => .none
def D.pys : List D → List PyData
  | [] => []
  | d :: ds => D.py d :: D.pys ds
end
mutual
/-- == of data -/
def D.eq : D → D → Bool
  | .non, .non => true
  | .bl a, .bl b => a == b
  | .bl a, .int j => (if a then 1 else 0) == j
  | .int i, .bl b => i == (if b then 1 else 0)
  | .int i, .int j => i == j
  | .str x, .str y => x == y
  | .lst xs, .lst ys => D.eqs xs ys
  | .tup xs, .tup ys => D.eqs xs ys
  | _, _ => false
def D.eqs : List D → List D → Bool
  | [], [] => true
  | x :: xs, y :: ys => D.eq x y && D.eqs xs ys
  | _, _ => false
end
/-- flat, or lists and tuples of such, at most so deep, texts sound -/
def D.fit : Nat → D → Bool
  | _, .non => true
  | _, .bl _ => true
  | _, .int _ => true
  | _, .str x => x.cps.all (· < 0x110000)
  | n + 1, .lst ds => ds.all (D.fit n)
  | n + 1, .tup ds => ds.all (D.fit n)
  | _, _ => false
theorem fit_py : ∀ (n : Nat) (d : D), D.fit n d = true → (D.py d).canLay0 = true ∧ (D.py d).depth ≤ n
  | _, .non, _ => ⟨rfl, Nat.zero_le _⟩
  | _, .bl _, _ => ⟨rfl, Nat.zero_le _⟩
  | _, .int _, _ => ⟨rfl, Nat.zero_le _⟩
  | 0, .str x, h => ⟨h, Nat.zero_le _⟩
  | n + 1, .str x, h => ⟨h, Nat.zero_le _⟩
  | 0, .lst _, h => by cases h
  | 0, .tup _, h => by cases h
  | 0, .st, h => by cases h
  | 0, .opq _, h => by cases h
  | n + 1, .st, h => by cases h
  | n + 1, .opq _, h => by cases h
  | n + 1, .lst ds, h => by
    have h' : ds.all (D.fit n) = true := h
    have all : ∀ es : List D, es.all (D.fit n) = true → PyData.canLayAll0 (D.pys es) = true ∧ PyData.depthAll (D.pys es) ≤ n := by
      intro es
      induction es with
      | nil => intro _; exact ⟨rfl, Nat.zero_le _⟩
      | cons e es ih =>
        intro q
        rw [List.all_cons, Bool.and_eq_true] at q
        obtain ⟨a1, a2⟩ := fit_py n e q.1
        obtain ⟨b1, b2⟩ := ih q.2
        refine ⟨?_, ?_⟩
        · show ((D.py e).canLay0 && PyData.canLayAll0 (D.pys es)) = true
          rw [a1, b1]; rfl
        · show max (D.py e).depth (PyData.depthAll (D.pys es)) ≤ n
          omega
    obtain ⟨a, b⟩ := all ds h'
    exact ⟨a, Nat.succ_le_succ b⟩
  | n + 1, .tup ds, h => by
    have h' : ds.all (D.fit n) = true := h
    have all : ∀ es : List D, es.all (D.fit n) = true → PyData.canLayAll0 (D.pys es) = true ∧ PyData.depthAll (D.pys es) ≤ n := by
      intro es
      induction es with
      | nil => intro _; exact ⟨rfl, Nat.zero_le _⟩
      | cons e es ih =>
        intro q
        rw [List.all_cons, Bool.and_eq_true] at q
        obtain ⟨a1, a2⟩ := fit_py n e q.1
        obtain ⟨b1, b2⟩ := ih q.2
        refine ⟨?_, ?_⟩
        · show ((D.py e).canLay0 && PyData.canLayAll0 (D.pys es)) = true
          rw [a1, b1]; rfl
        · show max (D.py e).depth (PyData.depthAll (D.pys es)) ≤ n
          omega
    obtain ⟨a, b⟩ := all ds h'
    exact ⟨a, Nat.succ_le_succ b⟩
theorem fit_shaped {d : D} (h : D.fit 64 d = true) : SeqAt.shaped (D.py d) = true := by
  obtain ⟨a, b⟩ := fit_py 64 d h
  unfold SeqAt.shaped
  rw [a, decide_eq_true b]; rfl
theorem fit_dp {K : PySem.W.Frag} {Z : Zt} {F : Hp} : ∀ (n : Nat) (v : V) (d : D), D.fit n d = true → Rep Z F v d → Dp K F v (D.py d) := by
  intro n
  induction n with
  | zero =>
    intro v d h r
    cases r with
    | non => exact .non
    | bl b => exact .bl b
    | int i => exact .int i
    | str x => exact .str x
    | _ => cases h
  | succ n ih =>
    have all : ∀ (es : List D) (vs : List V), es.all (D.fit n) = true → Reps Z F vs es → DpAll K F vs (D.pys es) := by
      intro es
      induction es with
      | nil => intro vs _ q; cases q; exact .nil
      | cons e es ih2 =>
        intro vs q r
        rw [List.all_cons, Bool.and_eq_true] at q
        cases r with
        | cons r1 r2 => exact .cons (ih _ _ q.1 r1) (ih2 _ q.2 r2)
    intro v d h r
    cases r with
    | non => exact .non
    | bl b => exact .bl b
    | int i => exact .int i
    | str x => exact .str x
    | lst ha r => exact .lst (SqL.of ha) (all _ _ h r)
    | tup ha r => exact .tup (SqT.of ha) (all _ _ h r)
    | st _ => cases h
    | opq _ => cases h
mutual
theorem eqv_py : ∀ (d e : D) (n m : Nat), D.fit n d = true → D.fit m e = true → PyData.eqv (D.py d) (D.py e) = D.eq d e
  | .non, e, n, m, h, k => by cases e <;> first | rfl | (cases m <;> cases k)
  | .bl _, e, n, m, h, k => by cases e <;> first | rfl | (cases m <;> cases k)
  | .int _, e, n, m, h, k => by cases e <;> first | rfl | (cases m <;> cases k)
  | .str _, e, n, m, h, k => by cases e <;> first | rfl | (cases m <;> cases k)
  | .st, e, n, m, h, k => by cases n <;> cases h
  | .opq _, e, n, m, h, k => by cases n <;> cases h
  | .lst xs, e, n, m, h, k => by
    cases n with
    | zero => cases h
    | succ n =>
      cases e with
      | lst ys =>
        cases m with
        | zero => cases k
        | succ m => exact eqvs_py xs ys n m h k
      | _ => first | rfl | (cases m <;> cases k)
  | .tup xs, e, n, m, h, k => by
    cases n with
    | zero => cases h
    | succ n =>
      cases e with
      | tup ys =>
        cases m with
        | zero => cases k
        | succ m => exact eqvs_py xs ys n m h k
      | _ => first | rfl | (cases m <;> cases k)
theorem eqvs_py : ∀ (xs ys : List D) (n m : Nat), xs.all (D.fit n) = true → ys.all (D.fit m) = true → PyData.eqvAll (D.pys xs) (D.pys ys) = D.eqs xs ys
  | [], [], _, _, _, _ => rfl
  | [], _ :: _, _, _, _, _ => rfl
  | _ :: _, [], _, _, _, _ => rfl
  | x :: xs, y :: ys, n, m, h, k => by
    rw [List.all_cons, Bool.and_eq_true] at h k
    show (PyData.eqv (D.py x) (D.py y) && PyData.eqvAll (D.pys xs) (D.pys ys)) = (D.eq x y && D.eqs xs ys)
    rw [eqv_py x y n m h.1 k.1, eqvs_py xs ys n m h.2 k.2]
end
def eqD (d e : D) : Option D := if D.fit 64 d = true ∧ D.fit 64 e = true then some (.bl (D.eq d e)) else none
def neD (d e : D) : Option D := if D.fit 64 d = true ∧ D.fit 64 e = true then some (.bl (!D.eq d e)) else none
section
variable {X : Cx}
theorem od_eq (hu : X.A.units + 64 < cLine) : OpR X (compareOp .Eq) (rO eqD) := by
  intro pins s σ H x y v u Q I rx ry ⟨Z, F, st, d1, d2, d, w, r1, r2, e, k⟩
  obtain ⟨⟨h1, h2⟩, e⟩ := ite_some e
  subst e
  refine op_eqD hu pins s σ H x y v u Q I rx ry ⟨D.py d1, D.py d2, fit_dp 64 _ _ h1 (r1.mono w.sub), fit_dp 64 _ _ h2 (r2.mono w.sub), fit_shaped h1, fit_shaped h2, ?_⟩
  rw [eqv_py d1 d2 64 64 h1 h2]
  exact k.here w (.bl _)
theorem od_ne (hu : X.A.units + 64 < cLine) : OpR X (compareOp .NotEq) (rO neD) := by
  intro pins s σ H x y v u Q I rx ry ⟨Z, F, st, d1, d2, d, w, r1, r2, e, k⟩
  obtain ⟨⟨h1, h2⟩, e⟩ := ite_some e
  subst e
  refine op_neD hu pins s σ H x y v u Q I rx ry ⟨D.py d1, D.py d2, fit_dp 64 _ _ h1 (r1.mono w.sub), fit_dp 64 _ _ h2 (r2.mono w.sub), fit_shaped h1, fit_shaped h2, ?_⟩
  rw [eqv_py d1 d2 64 64 h1 h2]
  exact k.here w (.bl _)
end

/-! ### is None -/
section
variable {X : Cx}
theorem od_isN : OpR X (compareOp .Is) (rO isND) := by
  intro pins s σ H x y v u Q I rx ry ⟨Z, F, st, d1, d2, d, w, r1, r2, e, k⟩
  cases d2 <;> cases d1 <;> try (cases e; done)
  all_goals
    cases e
    cases r2
    cases r1
    exact op_isN pins s σ H _ _ v u Q I rx ry ⟨rfl, by first | exact k.here w (.bl _) | (simp; exact k.here w (.bl _))⟩
theorem od_notN : OpR X (compareOp .IsNot) (rO notND) := by
  intro pins s σ H x y v u Q I rx ry ⟨Z, F, st, d1, d2, d, w, r1, r2, e, k⟩
  cases d2 <;> cases d1 <;> try (cases e; done)
  all_goals
    cases e
    cases r2
    cases r1
    exact op_notN pins s σ H _ _ v u Q I rx ry ⟨rfl, by first | exact k.here w (.bl _) | (simp; exact k.here w (.bl _))⟩
end

/-! ### in -/
def D.flat : D → Bool
  | .non => true
  | .bl _ => true
  | .int _ => true
  | .str _ => true
  | _ => false
def sign? (z : Str) : Option Nat := match z.cps.toList with
  | [c] => some c
  | _ => none
theorem sign_of {z : Str} {c : Nat} (h : sign? z = some c) : z = ⟨#[c]⟩ := by
  unfold sign? at h
  cases z with
  | mk a =>
    cases a with
    | mk l =>
      match l, h with
      | [c'], h => cases h; rfl
def inB (d : D) (ds : List D) : Bool := ds.any fun e => D.eq e d
def inD : D → D → Option D
  | d, .lst ds => if d.flat = true ∧ ds.all D.flat = true then some (.bl (inB d ds)) else none
  | d, .tup ds => if d.flat = true ∧ ds.all D.flat = true then some (.bl (inB d ds)) else none
  | .str c, .str z => (sign? c).map fun n => .bl (decide (n ∈ z.cps.toList))
  | _, _ => none
def notInD : D → D → Option D
  | d, .lst ds => if d.flat = true ∧ ds.all D.flat = true then some (.bl (!inB d ds)) else none
  | d, .tup ds => if d.flat = true ∧ ds.all D.flat = true then some (.bl (!inB d ds)) else none
  | .str c, .str z => (sign? c).map fun n => .bl (!decide (n ∈ z.cps.toList))
  | _, _ => none
theorem flat_rep {Z : Zt} {F : Hp} {v : V} {d : D} (h : d.flat = true) (r : Rep Z F v d) : flatV v = true := by
  cases r <;> first | rfl | cases h
theorem flats_rep {Z : Zt} {F : Hp} : ∀ {vs : List V} {ds : List D}, ds.all D.flat = true → Reps Z F vs ds → vs.all flatV = true
  | _, _, _, .nil => rfl
  | _, _, h, .cons r q => by
    rw [List.all_cons, Bool.and_eq_true] at h
    rw [List.all_cons, flat_rep h.1 r, flats_rep h.2 q]; rfl
theorem eq_rep {Z : Zt} {F : Hp} {v w : V} {d e : D} (h1 : d.flat = true) (h2 : e.flat = true) (r1 : Rep Z F v d) (r2 : Rep Z F w e) : eqV v w = D.eq d e := by
  cases r1 <;> try (cases h1; done)
  all_goals (cases r2 <;> first | rfl | (cases h2; done))
theorem in_rep {Z : Zt} {F : Hp} {v : V} {d : D} (h : d.flat = true) (r : Rep Z F v d) : ∀ {vs : List V} {ds : List D}, ds.all D.flat = true → Reps Z F vs ds → inV v vs = inB d ds
  | _, _, _, .nil => rfl
  | _, _, q, @Reps.cons _ _ y ys _ _ r1 r2 => by
    rw [List.all_cons, Bool.and_eq_true] at q
    show (eqV y v || inV v ys) = _
    rw [eq_rep q.1 h r1 r, in_rep h r q.2 r2]; rfl
section
variable {X : Cx}
theorem od_in : OpR X (compareOp .In) (rO inD) := by
  intro pins s σ H x y v u Q I rx ry ⟨Z, F, st, d1, d2, d, w, r1, r2, e, k⟩
  cases d2 with
  | lst ds =>
    have e' : (if d1.flat = true ∧ ds.all D.flat = true then some (D.bl (inB d1 ds)) else none) = some d := by cases d1 <;> exact e
    obtain ⟨⟨h1, h2⟩, e⟩ := ite_some e'
    subst e
    cases r2 with
    | lst ha q =>
      refine op_in_seq pins s σ H x _ v u Q I rx ry ⟨_, _, rfl, .inl (SqL.of (w.sub _ _ ha)), flat_rep h1 r1, flats_rep h2 q, ?_⟩
      show Q (.bl (inV x _)) H
      rw [in_rep h1 r1 h2 q]
      exact k.here w (.bl _)
  | tup ds =>
    have e' : (if d1.flat = true ∧ ds.all D.flat = true then some (D.bl (inB d1 ds)) else none) = some d := by cases d1 <;> exact e
    obtain ⟨⟨h1, h2⟩, e⟩ := ite_some e'
    subst e
    cases r2 with
    | tup ha q =>
      refine op_in_seq pins s σ H x _ v u Q I rx ry ⟨_, _, rfl, .inr (SqT.of (w.sub _ _ ha)), flat_rep h1 r1, flats_rep h2 q, ?_⟩
      show Q (.bl (inV x _)) H
      rw [in_rep h1 r1 h2 q]
      exact k.here w (.bl _)
  | str z =>
    cases d1 <;> try (cases e; done)
    rename_i c
    have e' : ((sign? c).map fun n => D.bl (decide (n ∈ z.cps.toList))) = some d := e
    cases hs : sign? c with
    | none => rw [hs] at e'; cases e'
    | some n =>
      rw [hs] at e'
      cases e'
      cases r1
      cases r2
      have := sign_of hs
      subst this
      exact op_in_sign pins s σ H _ _ v u Q I rx ry ⟨n, z, rfl, rfl, k.here w (.bl _)⟩
  | _ => cases d1 <;> cases e
theorem od_notIn : OpR X (compareOp .NotIn) (rO notInD) := by
  intro pins s σ H x y v u Q I rx ry ⟨Z, F, st, d1, d2, d, w, r1, r2, e, k⟩
  cases d2 with
  | lst ds =>
    have e' : (if d1.flat = true ∧ ds.all D.flat = true then some (D.bl (!inB d1 ds)) else none) = some d := by cases d1 <;> exact e
    obtain ⟨⟨h1, h2⟩, e⟩ := ite_some e'
    subst e
    cases r2 with
    | lst ha q =>
      refine op_notIn_seq pins s σ H x _ v u Q I rx ry ⟨_, _, rfl, .inl (SqL.of (w.sub _ _ ha)), flat_rep h1 r1, flats_rep h2 q, ?_⟩
      show Q (.bl (!inV x _)) H
      rw [in_rep h1 r1 h2 q]
      exact k.here w (.bl _)
  | tup ds =>
    have e' : (if d1.flat = true ∧ ds.all D.flat = true then some (D.bl (!inB d1 ds)) else none) = some d := by cases d1 <;> exact e
    obtain ⟨⟨h1, h2⟩, e⟩ := ite_some e'
    subst e
    cases r2 with
    | tup ha q =>
      refine op_notIn_seq pins s σ H x _ v u Q I rx ry ⟨_, _, rfl, .inr (SqT.of (w.sub _ _ ha)), flat_rep h1 r1, flats_rep h2 q, ?_⟩
      show Q (.bl (!inV x _)) H
      rw [in_rep h1 r1 h2 q]
      exact k.here w (.bl _)
  | str z =>
    cases d1 <;> try (cases e; done)
    rename_i c
    have e' : ((sign? c).map fun n => D.bl (!decide (n ∈ z.cps.toList))) = some d := e
    cases hs : sign? c with
    | none => rw [hs] at e'; cases e'
    | some n =>
      rw [hs] at e'
      cases e'
      cases r1
      cases r2
      have := sign_of hs
      subst this
      exact op_notIn_sign pins s σ H _ _ v u Q I rx ry ⟨n, z, rfl, rfl, k.here w (.bl _)⟩
  | _ => cases d1 <;> cases e
end

/-! ### subscripts -/
def ixD : D → D → Option D
  | .lst ds, .int i => atI ds i
  | .tup ds, .int i => atI ds i
  | .str z, .int i => if z.length ≤ big then (atI z.cps.toList i).map fun c => .str ⟨#[c]⟩ else none
  | _, _ => none
theorem atI_rep {Z : Zt} {F : Hp} {vs : List V} {ds : List D} {i : Int} {d : D} (r : Reps Z F vs ds) (h : atI ds i = some d) : ∃ v, atI vs i = some v ∧ Rep Z F v d := by
  unfold atI at h ⊢
  rw [r.length]
  cases e : ixN ds.length i with
  | none => rw [e] at h; cases h
  | some j =>
    rw [e] at h
    exact r.get h
section
variable {X : Cx}
theorem id_ix : IxR X (rO ixD) := by
  intro value slice pins s σ H x y v u Q I rx ry ⟨Z, F, st, d1, d2, d, w, r1, r2, e, k⟩ hs
  cases d2 with
  | int i =>
    cases d1 with
    | lst ds =>
      cases r2
      cases r1 with
      | lst ha q =>
        obtain ⟨z, h1, h2⟩ := atI_rep q e
        exact ix_list value slice pins s σ H _ _ v u Q I rx ry ⟨_, _, _, _, rfl, rfl, SqL.of (w.sub _ _ ha), h1, k.here w h2⟩ hs
    | tup ds =>
      cases r2
      cases r1 with
      | tup ha q =>
        obtain ⟨z, h1, h2⟩ := atI_rep q e
        exact ix_tup value slice pins s σ H _ _ v u Q I rx ry ⟨_, _, _, _, rfl, rfl, SqT.of (w.sub _ _ ha), h1, k.here w h2⟩ hs
    | str z =>
      cases r2
      cases r1
      have e' : (if z.length ≤ big then (atI z.cps.toList i).map fun c => D.str ⟨#[c]⟩ else none) = some d := e
      split at e'
      · rename_i hz
        cases ha : atI z.cps.toList i with
        | none => rw [ha] at e'; cases e'
        | some c =>
          rw [ha] at e'
          cases e'
          exact ix_str value slice pins s σ H _ _ v u Q I rx ry ⟨_, _, _, rfl, rfl, hz, ha, k.here w (.str _)⟩ hs
      · cases e'
    | _ => cases e
  | _ => cases d1 <;> cases e
end

/-! ### slices -/
def cutD (xs : List D) (lo hi : Option Int) : List D := (xs.drop (HT.sIx xs.length 0 lo)).take (HT.sIx xs.length xs.length hi - HT.sIx xs.length 0 lo)
def slD (d : D) (lo hi : Option Int) : Option D := match d with
  | .lst ds => some (.lst (cutD ds lo hi))
  | .tup ds => some (.tup (cutD ds lo hi))
  | .str z => if z.length ≤ big then some (.str (cutS z lo hi)) else none
  | _ => none
def rSl' (f : D → Option Int → Option Int → Option D) : V → Option Int → Option Int → Hp → VK → Prop := fun x lo hi H Q => ∃ Z F s d1 d, Wd Z s F H ∧ Rep Z F x d1 ∧ f d1 lo hi = some d ∧ Kc Z F H s d Q
theorem cut_rep {Z : Zt} {F : Hp} {vs : List V} {ds : List D} (r : Reps Z F vs ds) (lo hi : Option Int) : Reps Z F (cutV vs lo hi) (cutD ds lo hi) := by
  unfold cutV cutD
  rw [r.length]
  exact (r.drop _).take _
theorem cut_whole {α : Type} {xs : List α} {lo hi : Option Int} (h : HT.sIx xs.length 0 lo = 0 ∧ HT.sIx xs.length xs.length hi = xs.length) : (xs.drop (HT.sIx xs.length 0 lo)).take (HT.sIx xs.length xs.length hi - HT.sIx xs.length 0 lo) = xs := by
  rw [h.1, h.2]
  simp
/-- t[lo:hi], the whole of it: t itself -/
theorem getItem_tuple_whole {prog : Program} {w : World} {A : Around} {E : Value → Shared → Prop} {s : Shared} {t sl : Addr} {items : Array Value} {vl vu : Value} {lo hi : Option Int} {Q : Value → Shared → Prop} (ht : IsTup s.heap t items) (hs : s.heap.IsSliceOf sl vl vu .none) (pl : IsPart vl lo) (pu : IsPart vu hi)
    (hw : HT.sIx items.size 0 lo = 0 ∧ HT.sIx items.size items.size hi = items.size) (h : Q (.ref t) s) : wpAny (model prog w) A (getItem (.ref t) (.ref sl)) Q E s := by
  obtain ⟨os, hos, hcs, hds⟩ := id hs
  have hTs : s.TypeIs (.ref sl) "slice" := ⟨os, hos, hcs⟩
  unfold getItem
  try with_reducible refine wpAny_holding ?_
  first | refine wpAny_bind (wpAny_pure ?_) | skip
  refine wpAny_bind (wpAny_sequenceKey ht.typeIs (by decide) ?_)
  refine wpAny_bind (wpAny_callSpecial?_slot (name := Str.ofString "__getitem__") ht.typeIs PyProof.Rows.slot_tuple_getitem
    (wpAny_call_entry PyProof.Rows.slot_tuple_getitem ht.typeIs entry_tuple_getitem ?_ (args_tuple_getitem _ _)))
  show wpAny _ _ (Builtin.Tuple.tupleItemsOf (.ref t) >>= _) _ _ s
  refine wpAny_bind (tupleItemsOf_ ht ?_)
  refine wpAny_bind (wpAny_typeOf hTs ?_)
  rw [if_pos (by decide)]
  refine wpAny_bind (HT.sliceApplied_gen hs pl pu ?_)
  have hyes : (((HT.sIx items.size 0 lo : Nat) : Int) == 0 && (1 : Int) == 1 && (HT.sIx items.size items.size hi - HT.sIx items.size 0 lo) == items.size) = true := by
    rw [hw.1, hw.2]; simp
  show wpAny _ _ (if (((HT.sIx items.size 0 lo : Nat) : Int) == 0 && (1 : Int) == 1 && (HT.sIx items.size items.size hi - HT.sIx items.size 0 lo) == items.size) = true then _ else _) _ _ s
  rw [if_pos hyes]
  unfold Builtin.Tuple.tupleIsExact
  refine wpAny_bind (wpAny_bind (wpAny_typeOf ht.typeIs (wpAny_pure ?_)))
  rw [if_pos (by decide)]
  refine wpAny_bind (wpAny_rule ?_)
  exact wpAny_pure ⟨_, rfl, wpAny_pure h⟩
section
variable {X : Cx}
theorem sd_sl : SlR X (rSl' slD) := by
  intro pins s σ H x v vl vu lo hi sl Q I rx hs pl pu ⟨Z, F, st, d1, d, w, r1, e, k⟩
  cases d1 with
  | lst ds =>
    cases e
    cases r1 with
    | lst ha q => exact sl_list pins s σ H _ v vl vu lo hi sl Q I rx hs pl pu ⟨_, _, rfl, SqL.of (w.sub _ _ ha), fun p hp => k.lst w (cut_rep q lo hi) p hp⟩
  | tup ds =>
    cases e
    cases r1 with
    | @tup a xs _ ha q =>
      by_cases hw : HT.sIx xs.length 0 lo = 0 ∧ HT.sIx xs.length xs.length hi = xs.length
      · cases rx
        obtain ⟨its, r, ht, hz⟩ := I.tuple (SqT.of (w.sub _ _ ha))
        have hlen : its.toArray.size = xs.length := by rw [List.size_toArray]; exact r.length.symm
        refine ⟨"tuple", _, PyProof.Rows.slot_tuple_getitem.lookup, ht.typeIs, ?_⟩
        refine getItem_tuple_whole ht hs pl pu (by rw [hlen]; exact hw) ⟨.ref a, H, I, rfl, k.here w ?_⟩
        have e1 : cutD ds lo hi = ds := cut_whole (by rw [q.length] at hw; exact hw)
        rw [e1]
        exact .tup ha q
      · exact sl_tup pins s σ H _ v vl vu lo hi sl Q I rx hs pl pu ⟨_, _, rfl, SqT.of (w.sub _ _ ha), hw, fun p hp => k.tup w (cut_rep q lo hi) p hp⟩
  | str z =>
    obtain ⟨hz, e⟩ := ite_some (show (if z.length ≤ big then some (D.str (cutS z lo hi)) else none) = some d from e)
    cases e
    cases r1
    exact sl_str pins s σ H _ v vl vu lo hi sl Q I rx hs pl pu ⟨_, rfl, hz, k.here w (.str _)⟩
  | _ => cases e
end
end DL

set_option Elab.async false
set_option linter.all false
set_option maxRecDepth 100000
set_option maxHeartbeats 4000000
/-! D layer 4: built-ins and methods on data; expressions, tests, argument lists. -/
namespace DL
open PySem PySem.Spec PyProof.Rows L2

/-! ### lists of ints, of bools, of texts -/
def intsOf : List D → Option (List Int)
  | [] => some []
  | .int i :: ds => (intsOf ds).map (i :: ·)
  | _ :: _ => none
def blsOf : List D → Option (List Bool)
  | [] => some []
  | .bl i :: ds => (blsOf ds).map (i :: ·)
  | _ :: _ => none
def strsOf : List D → Option (List Str)
  | [] => some []
  | .str i :: ds => (strsOf ds).map (i :: ·)
  | _ :: _ => none
theorem ints_rep {Z : Zt} {F : Hp} : ∀ {ds : List D} {ns : List Int} {vs : List V}, intsOf ds = some ns → Reps Z F vs ds → vs = ns.map V.int
  | [], _, _, h, r => by cases h; cases r; rfl
  | .int i :: ds, ns, _, h, r => by
    cases q : intsOf ds with
    | none => unfold intsOf at h; rw [q] at h; cases h
    | some ms =>
      unfold intsOf at h
      rw [q] at h
      cases h
      cases r with
      | cons r1 r2 =>
        cases r1
        rw [ints_rep q r2]; rfl
  | .non :: _, _, _, h, _ => by cases h
  | .bl _ :: _, _, _, h, _ => by cases h
  | .str _ :: _, _, _, h, _ => by cases h
  | .lst _ :: _, _, _, h, _ => by cases h
  | .tup _ :: _, _, _, h, _ => by cases h
  | .st :: _, _, _, h, _ => by cases h
  | .opq _ :: _, _, _, h, _ => by cases h
theorem bls_rep {Z : Zt} {F : Hp} : ∀ {ds : List D} {ns : List Bool} {vs : List V}, blsOf ds = some ns → Reps Z F vs ds → vs = ns.map V.bl
  | [], _, _, h, r => by cases h; cases r; rfl
  | .bl i :: ds, ns, _, h, r => by
    cases q : blsOf ds with
    | none => unfold blsOf at h; rw [q] at h; cases h
    | some ms =>
      unfold blsOf at h
      rw [q] at h
      cases h
      cases r with
      | cons r1 r2 =>
        cases r1
        rw [bls_rep q r2]; rfl
  | .non :: _, _, _, h, _ => by cases h
  | .int _ :: _, _, _, h, _ => by cases h
  | .str _ :: _, _, _, h, _ => by cases h
  | .lst _ :: _, _, _, h, _ => by cases h
  | .tup _ :: _, _, _, h, _ => by cases h
  | .st :: _, _, _, h, _ => by cases h
  | .opq _ :: _, _, _, h, _ => by cases h
theorem strs_rep {Z : Zt} {F : Hp} : ∀ {ds : List D} {ns : List Str} {vs : List V}, strsOf ds = some ns → Reps Z F vs ds → vs = ns.map V.str
  | [], _, _, h, r => by cases h; cases r; rfl
  | .str i :: ds, ns, _, h, r => by
    cases q : strsOf ds with
    | none => unfold strsOf at h; rw [q] at h; cases h
    | some ms =>
      unfold strsOf at h
      rw [q] at h
      cases h
      cases r with
      | cons r1 r2 =>
        cases r1
        rw [strs_rep q r2]; rfl
  | .non :: _, _, _, h, _ => by cases h
  | .int _ :: _, _, _, h, _ => by cases h
  | .bl _ :: _, _, _, h, _ => by cases h
  | .lst _ :: _, _, _, h, _ => by cases h
  | .tup _ :: _, _, _, h, _ => by cases h
  | .st :: _, _, _, h, _ => by cases h
  | .opq _ :: _, _, _, h, _ => by cases h
theorem reps_ints {Z : Zt} {F : Hp} : ∀ ns : List Int, Reps Z F (ns.map V.int) (ns.map D.int)
  | [] => .nil
  | n :: ns => .cons (.int n) (reps_ints ns)

/-- ints in order (sorted's answer is the one ordered list of them) -/
def insI (a : Int) : List Int → List Int
  | [] => [a]
  | b :: bs => if a ≤ b then a :: b :: bs else b :: insI a bs
def isort : List Int → List Int
  | [] => []
  | a :: as => insI a (isort as)
theorem insI_perm (a : Int) : ∀ xs : List Int, (insI a xs).Perm (a :: xs)
  | [] => .refl _
  | b :: bs => by
    unfold insI
    split
    · exact .refl _
    · exact ((insI_perm a bs).cons b).trans (.swap a b bs)
theorem isort_perm : ∀ xs : List Int, (isort xs).Perm xs
  | [] => .refl _
  | a :: as => (insI_perm a (isort as)).trans ((isort_perm as).cons a)
theorem insI_sorted (a : Int) : ∀ xs : List Int, xs.Pairwise (· ≤ ·) → (insI a xs).Pairwise (· ≤ ·)
  | [], _ => List.pairwise_singleton _ _
  | b :: bs, h => by
    rw [List.pairwise_cons] at h
    unfold insI
    split
    · rename_i hab
      refine List.pairwise_cons.mpr ⟨fun c hc => ?_, List.pairwise_cons.mpr h⟩
      rcases List.mem_cons.mp hc with rfl | hc
      · exact hab
      · exact Int.le_trans hab (h.1 c hc)
    · rename_i hab
      refine List.pairwise_cons.mpr ⟨fun c hc => ?_, insI_sorted a bs h.2⟩
      rcases List.mem_cons.mp ((insI_perm a bs).mem_iff.mp hc) with rfl | hc
      · omega
      · exact h.1 c hc
theorem isort_sorted : ∀ xs : List Int, (isort xs).Pairwise (· ≤ ·)
  | [] => .nil
  | a :: as => insI_sorted a _ (isort_sorted as)
theorem sorted_eq : ∀ {xs ys : List Int}, xs.Perm ys → xs.Pairwise (· ≤ ·) → ys.Pairwise (· ≤ ·) → xs = ys := by
  intro xs ys p h1 h2
  exact p.eq_of_pairwise (fun a b _ _ h3 h4 => Int.le_antisymm h3 h4) h1 h2

/-! ### built-ins -/
def lenD : List D → Option D
  | [.lst ds] => some (.int (ds.length : Nat))
  | [.tup ds] => some (.int (ds.length : Nat))
  | [.str z] => if z.length ≤ big then some (.int (z.length : Nat)) else none
  | _ => none
def sumD : List D → Option D
  | [.lst ds] => (intsOf ds).map fun ns => .int ns.sum
  | _ => none
def allD : List D → Option D
  | [.lst ds] => (blsOf ds).map fun ns => .bl (ns.all id)
  | _ => none
def anyD : List D → Option D
  | [.lst ds] => (blsOf ds).map fun ns => .bl (ns.any id)
  | _ => none
def tupleD : List D → Option D
  | [.lst ds] => some (.tup ds)
  | [.tup ds] => some (.tup ds)
  | _ => none
def listD : List D → Option D
  | [.lst ds] => some (.lst ds)
  | [.tup ds] => some (.lst ds)
  | _ => none
def absD : List D → Option D
  | [.int i] => some (.int (if i < 0 then -i else i))
  | _ => none
def minD : List D → Option D
  | [.int i, .int j] => some (.int (if j < i then j else i))
  | _ => none
def maxD : List D → Option D
  | [.int i, .int j] => some (.int (if j > i then j else i))
  | _ => none
def intD : List D → Option D
  | [.int i] => some (.int i)
  | [.bl k] => some (.int (if k then 1 else 0))
  | _ => none
def sortedD : List D → Option D
  | [.lst ds] => (intsOf ds).map fun ns => .lst ((isort ns).map D.int)
  | [.tup ds] => (intsOf ds).map fun ns => .lst ((isort ns).map D.int)
  | _ => none
theorem map_some {α β : Type} {o : Option α} {f : α → β} {d : β} (h : o.map f = some d) : ∃ a, o = some a ∧ f a = d := by
  cases o with
  | none => cases h
  | some a => exact ⟨a, rfl, Option.some.inj h⟩
theorem Reps.one {Z : Zt} {F : Hp} {vs : List V} {d : D} (r : Reps Z F vs [d]) : ∃ v, vs = [v] ∧ Rep Z F v d := by
  cases r with
  | cons a b => cases b; exact ⟨_, rfl, a⟩
theorem Reps.two {Z : Zt} {F : Hp} {vs : List V} {d e : D} (r : Reps Z F vs [d, e]) : ∃ v w, vs = [v, w] ∧ Rep Z F v d ∧ Rep Z F w e := by
  cases r with
  | cons a b => cases b with
    | cons c b => cases b; exact ⟨_, _, rfl, a, c⟩
section
variable {X : Cx}
theorem cd_len : CallR X (.builtin "len") (rC lenD) := by
  intro pins s σ H xs us Q I r ⟨Z, F, st, ds, d, w, rs, e, k⟩
  match ds, e with
  | [.lst ds], e =>
    cases e
    obtain ⟨v, rfl, rv⟩ := rs.one
    cases rv with
    | lst ha q =>
      refine call_len_seq pins s σ H _ us Q I r ⟨_, _, rfl, .inl (SqL.of (w.sub _ _ ha)), ?_⟩
      rw [q.length]
      exact k.here w (.int _)
  | [.tup ds], e =>
    cases e
    obtain ⟨v, rfl, rv⟩ := rs.one
    cases rv with
    | tup ha q =>
      refine call_len_seq pins s σ H _ us Q I r ⟨_, _, rfl, .inr (SqT.of (w.sub _ _ ha)), ?_⟩
      rw [q.length]
      exact k.here w (.int _)
  | [.str z], e =>
    obtain ⟨hz, e⟩ := ite_some (show (if z.length ≤ big then some (D.int (z.length : Nat)) else none) = some d from e)
    cases e
    obtain ⟨v, rfl, rv⟩ := rs.one
    cases rv
    exact call_len_str pins s σ H _ us Q I r ⟨_, rfl, hz, k.here w (.int _)⟩
theorem cd_sum (hc : X.calm = true) : CallR X (.builtin "sum") (rC sumD) := by
  intro pins s σ H xs us Q I r ⟨Z, F, st, ds, d, w, rs, e, k⟩
  match ds, e with
  | [.lst ds], e =>
    obtain ⟨ns, e1, e2⟩ := map_some (show ((intsOf ds).map fun ns => D.int ns.sum) = some d from e)
    subst e2
    obtain ⟨v, rfl, rv⟩ := rs.one
    cases rv with
    | lst ha q =>
      have := ints_rep e1 q
      subst this
      exact cr_sum hc pins s σ H _ us Q I r ⟨_, ns, rfl, SqL.of (w.sub _ _ ha), k.here w (.int _)⟩
theorem cd_all (hc : X.calm = true) : CallR X (.builtin "all") (rC allD) := by
  intro pins s σ H xs us Q I r ⟨Z, F, st, ds, d, w, rs, e, k⟩
  match ds, e with
  | [.lst ds], e =>
    obtain ⟨ns, e1, e2⟩ := map_some (show ((blsOf ds).map fun ns => D.bl (ns.all id)) = some d from e)
    subst e2
    obtain ⟨v, rfl, rv⟩ := rs.one
    cases rv with
    | lst ha q =>
      have := bls_rep e1 q
      subst this
      exact cr_all hc pins s σ H _ us Q I r ⟨_, ns, rfl, SqL.of (w.sub _ _ ha), k.here w (.bl _)⟩
theorem cd_any (hc : X.calm = true) : CallR X (.builtin "any") (rC anyD) := by
  intro pins s σ H xs us Q I r ⟨Z, F, st, ds, d, w, rs, e, k⟩
  match ds, e with
  | [.lst ds], e =>
    obtain ⟨ns, e1, e2⟩ := map_some (show ((blsOf ds).map fun ns => D.bl (ns.any id)) = some d from e)
    subst e2
    obtain ⟨v, rfl, rv⟩ := rs.one
    cases rv with
    | lst ha q =>
      have := bls_rep e1 q
      subst this
      exact cr_any hc pins s σ H _ us Q I r ⟨_, ns, rfl, SqL.of (w.sub _ _ ha), k.here w (.bl _)⟩
theorem cd_tuple : CallR X (.type "tuple") (rC tupleD) := by
  intro pins s σ H xs us Q I r ⟨Z, F, st, ds, d, w, rs, e, k⟩
  match ds, e with
  | [.lst ds], e =>
    cases e
    obtain ⟨v, rfl, rv⟩ := rs.one
    cases rv with
    | lst ha q => exact call_tuple_of pins s σ H _ us Q I r ⟨_, _, rfl, .inl ⟨SqL.of (w.sub _ _ ha), fun p hp => k.tup w q p hp⟩⟩
  | [.tup ds], e =>
    cases e
    obtain ⟨v, rfl, rv⟩ := rs.one
    cases rv with
    | tup ha q => exact call_tuple_of pins s σ H _ us Q I r ⟨_, _, rfl, .inr ⟨SqT.of (w.sub _ _ ha), k.here w (.tup ha q)⟩⟩
theorem cd_list : CallR X (.type "list") (rC listD) := by
  intro pins s σ H xs us Q I r ⟨Z, F, st, ds, d, w, rs, e, k⟩
  match ds, e with
  | [.lst ds], e =>
    cases e
    obtain ⟨v, rfl, rv⟩ := rs.one
    cases rv with
    | lst ha q => exact call_list_of pins s σ H _ us Q I r ⟨_, _, rfl, .inl (SqL.of (w.sub _ _ ha)), fun p hp => k.lst w q p hp⟩
  | [.tup ds], e =>
    cases e
    obtain ⟨v, rfl, rv⟩ := rs.one
    cases rv with
    | tup ha q => exact call_list_of pins s σ H _ us Q I r ⟨_, _, rfl, .inr (SqT.of (w.sub _ _ ha)), fun p hp => k.lst w q p hp⟩
theorem cd_abs : CallR X (.builtin "abs") (rC absD) := by
  intro pins s σ H xs us Q I r ⟨Z, F, st, ds, d, w, rs, e, k⟩
  match ds, e with
  | [.int i], e =>
    cases e
    obtain ⟨v, rfl, rv⟩ := rs.one
    cases rv
    exact call_abs pins s σ H _ us Q I r ⟨_, rfl, k.here w (.int _)⟩
theorem cd_min (hc : X.calm = true) : CallR X (.builtin "min") (rC minD) := by
  intro pins s σ H xs us Q I r ⟨Z, F, st, ds, d, w, rs, e, k⟩
  match ds, e with
  | [.int i, .int j], e =>
    cases e
    obtain ⟨v, v', rfl, rv, rv'⟩ := rs.two
    cases rv
    cases rv'
    exact call_min2 hc pins s σ H _ us Q I r ⟨_, _, rfl, k.here w (.int _)⟩
theorem cd_max (hc : X.calm = true) : CallR X (.builtin "max") (rC maxD) := by
  intro pins s σ H xs us Q I r ⟨Z, F, st, ds, d, w, rs, e, k⟩
  match ds, e with
  | [.int i, .int j], e =>
    cases e
    obtain ⟨v, v', rfl, rv, rv'⟩ := rs.two
    cases rv
    cases rv'
    exact call_max2 hc pins s σ H _ us Q I r ⟨_, _, rfl, k.here w (.int _)⟩
theorem cd_int : CallR X (.type "int") (rC intD) := by
  intro pins s σ H xs us Q I r ⟨Z, F, st, ds, d, w, rs, e, k⟩
  match ds, e with
  | [.int i], e =>
    cases e
    obtain ⟨v, rfl, rv⟩ := rs.one
    cases rv
    exact call_int1 pins s σ H _ us Q I r (.inl ⟨_, rfl, k.here w (.int _)⟩)
  | [.bl b], e =>
    cases e
    obtain ⟨v, rfl, rv⟩ := rs.one
    cases rv
    exact call_int1 pins s σ H _ us Q I r (.inr ⟨_, rfl, k.here w (.int _)⟩)
end

/-! ### sorted: a tuple of ints too -/
section
variable {prog : Program} {w : World} {A : Around} {E : Value → Shared → Prop} {s : Shared}
theorem collect_tuple {l : Addr} {vs : List Value} {Q : List Value → Shared → Prop} (hl : IsTup s.heap l vs.toArray)
    (h : Q vs { s with heap := (s.heap.push (seqObj "list" #[] 0)).update s.heap.objs.size (Obj.mapSeq (· ++ vs.toArray)) }) (hsz : vs.length ≤ sizeLine) :
    wpAny (model prog w) A (collect (.ref l)) Q E s := by
  obtain ⟨o, ho, hc, n, hd⟩ := id hl
  unfold collect
  refine wpAny_bind (wpAny_runValue (codeAny_builtin entry_proto_collect' ?_))
  show wpAny _ _ (do again (.builtin "list.__iadd__" ⟨[← newList [], .ref l], []⟩)) _ _ s
  refine wpAny_bind (wpAny_newList (wpAny_pure ⟨Code.quiet_builtin _ (by decide +kernel), codeAny_builtin entry_list_iadd' ?_⟩))
  show wpAny _ _ (Builtin.List.listExtendWith (.ref s.heap.objs.size) (.ref l) (.ref s.heap.objs.size)) _ _ { s with heap := s.heap.push (seqObj "list" #[] 0) }
  unfold Builtin.List.listExtendWith
  have ho' : (s.heap.push (seqObj "list" #[] 0)).get? l = some o := Heap.get?_push_of_some _ ho
  refine wpAny_bind (wpAny_typeOf (T := "tuple") ⟨o, ho', hc⟩ ?_)
  have ht : (Value.type "tuple" == Value.type "tuple") = true := by rfl
  rw [if_pos (by rw [ht]; simp)]
  refine wpAny_bind (listItems_at ho' hd ?_)
  refine wpAny_bind (listItems_at (xs := #[]) (n := 0) (Heap.get?_push_size _ rfl) rfl ?_)
  rw [if_neg (by simp)]
  refine wpAny_bind (listUpdate_at (xs := #[]) (n := 0) (Heap.get?_push_size _ rfl) rfl ?_ (Nat.zero_le _) (by show (#[] ++ vs.toArray).size ≤ sizeLine + 1; simp only [Array.size_append, List.size_toArray, List.length_nil]; omega))
  refine wpAny_pure ?_
  show wpAny (model prog w) A (do
      let o ← load s.heap.objs.size
      match o.data with
      | .seq xs _ => pure xs.toList
      | _ => unsupported "internal:collect") Q E { s with heap := (s.heap.push (seqObj "list" #[] 0)).update s.heap.objs.size (Obj.mapSeq (· ++ vs.toArray)) }
  refine wpAny_bind (wpAny_load (get?_update_seq (Heap.get?_push_size _ rfl) _) ?_)
  show wpAny _ _ (pure ((#[] : Array Value) ++ vs.toArray).toList) Q E _
  rw [show ((#[] : Array Value) ++ vs.toArray).toList = vs by simp]
  exact wpAny_pure h
/-- sorted(t): the new list stands at size + 1 (the collected one at size) -/
theorem sorted_ordT {l : Addr} {vs : List Value} {ltv : Value → Value → Bool} {Q : Value → Shared → Prop} (O : SrtO.Swo ltv) (hl : IsTup s.heap l vs.toArray) (hz : vs.length ≤ sizeLine)
    (hS : 2 ≤ vs.length → ∀ (h₁ : Heap) (a : Addr), h₁.get? a = some (seqObj "list" vs.toArray 0) → (∀ b o, s.heap.get? b = some o → b ≠ a ∧ h₁.get? b = some o) → SrtO.SortableO prog w A.in1.in1 { s with heap := h₁ } a vs ltv)
    (h : ∀ out : List Value, SrtO.Srtd ltv out → SrtO.Stb ltv out vs → Q (.ref (s.heap.objs.size + 1)) { s with heap := sortedAll s.heap vs out.toArray }) :
    wpAny (model prog w) A (call (.builtin "sorted") [.ref l]) Q E s := by
  refine Calls.call_function_entry kind_sorted plain_sorted entry_sorted (args_sorted1 _) ?_
  unfold Builtin.«sorted»
  refine wpAny_bind (m := checkCount "sorted" 1 1 _) (wpAny_pure ?_)
  refine wpAny_bind (collect_tuple hl ?_ hz)
  refine wpAny_bind (wpAny_newList ?_ hz)
  have hsz : ((s.heap.push (seqObj "list" #[] 0)).update s.heap.objs.size (Obj.mapSeq (· ++ vs.toArray))).objs.size = s.heap.objs.size + 1 := by
    rw [Heap.size_update, size_push']
  have hoL : (((s.heap.push (seqObj "list" #[] 0)).update s.heap.objs.size (Obj.mapSeq (· ++ vs.toArray))).push (seqObj "list" vs.toArray 0)).get? (s.heap.objs.size + 1) = some (seqObj "list" vs.toArray 0) := by
    rw [← hsz]; exact Heap.get?_push_size _ rfl
  have keep : ∀ b o, s.heap.get? b = some o → b ≠ s.heap.objs.size + 1 ∧ (((s.heap.push (seqObj "list" #[] 0)).update s.heap.objs.size (Obj.mapSeq (· ++ vs.toArray))).push (seqObj "list" vs.toArray 0)).get? b = some o := fun b o q => by
    have hlt : b < s.heap.objs.size := Heap.lt_size q
    refine ⟨Nat.ne_of_lt (Nat.lt_succ_of_lt hlt), Heap.get?_push_of_some _ ?_⟩
    rw [Heap.get?_update_ne _ _ _ _ (Nat.ne_of_lt hlt)]
    exact Heap.get?_push_of_some _ q
  show wpAny _ _ _ _ _ { s with heap := ((s.heap.push (seqObj "list" #[] 0)).update s.heap.objs.size (Obj.mapSeq (· ++ vs.toArray))).push (seqObj "list" vs.toArray 0) }
  rw [hsz]
  refine wpAny_bind (wpAny_holding (wpAny_call_entry slot_list_sort ⟨_, hoL, rfl⟩ entry_list_sort (SrtO.list_sort_ord O hoL hz (fun h2 => hS h2 _ _ hoL keep) fun out hs hb => ⟨_, rfl, ?_⟩) (args_list_sort _)))
  exact wpAny_pure ⟨_, rfl, h out hs hb⟩
end
section
variable {X : Cx}
theorem cr_sortedTI : CallR X (.builtin "sorted") (fun vs H Q => ∃ (a : Addr) (ns : List Int), vs = [V.ref a] ∧ SqT X.K H a (ns.map V.int) ∧
  ∀ (ns' : List Int) (p : Addr), ns'.Perm ns → ns'.Pairwise (· ≤ ·) → H p = none → Q (.ref p) (upd H p (.lst (ns'.map V.int)))) := by
  intro pins s σ H vs us Q I r h
  obtain ⟨a, ns, rfl, hs, q⟩ := h
  obtain ⟨its, rv, hl, hz⟩ := I.tuple hs
  rw [Vals.ref1 r]
  have hi := rv.ints
  refine sorted_ordT SrtO.swo_int hl (by rw [← rv.length]; exact hz) (fun h2 h₁ a' _ _ => SrtO.ints_sortable hi h2) fun out h1 h2 => ?_
  obtain ⟨k1, k2, k3⟩ := SrtO.ints_out hi h1 h2
  obtain ⟨ep, he'⟩ := PyProof.Rows.sortedAll_at s.heap its out.toArray
  have hlen : ((out.map SrtO.iv).map V.int).length ≤ sizeLine := by
    rw [List.length_map, k2.length_eq]
    rw [List.length_map] at hz
    exact hz
  exact ⟨.ref _, upd H (s.heap.objs.size + 1) (.lst ((out.map SrtO.iv).map V.int)), I.laid (t' := s.toks) (fun _ _ => PyProof.Rows.sortedAll_old) (Nat.le_succ _) ⟨hlen, out, ep, vals_of_ints k1, he'⟩, rfl, q _ _ k2 k3 (I.hok.fresh (Nat.le_succ _))⟩
theorem cd_sorted : CallR X (.builtin "sorted") (rC sortedD) := by
  intro pins s σ H xs us Q I r ⟨Z, F, st, ds, d, w, rs, e, k⟩
  match ds, e with
  | [.lst ds], e =>
    obtain ⟨ns, e1, e2⟩ := map_some (show ((intsOf ds).map fun ns => D.lst ((isort ns).map D.int)) = some d from e)
    subst e2
    obtain ⟨v, rfl, rv⟩ := rs.one
    cases rv with
    | lst ha q =>
      have := ints_rep e1 q
      subst this
      refine cr_sortedI pins s σ H _ us Q I r ⟨_, ns, rfl, SqL.of (w.sub _ _ ha), fun ns' p h1 h2 hp => ?_⟩
      have : ns' = isort ns := sorted_eq (h1.trans (isort_perm ns).symm) h2 (isort_sorted ns)
      subst this
      exact k.lst w (reps_ints _) p hp
  | [.tup ds], e =>
    obtain ⟨ns, e1, e2⟩ := map_some (show ((intsOf ds).map fun ns => D.lst ((isort ns).map D.int)) = some d from e)
    subst e2
    obtain ⟨v, rfl, rv⟩ := rs.one
    cases rv with
    | tup ha q =>
      have := ints_rep e1 q
      subst this
      refine cr_sortedTI pins s σ H _ us Q I r ⟨_, ns, rfl, SqT.of (w.sub _ _ ha), fun ns' p h1 h2 hp => ?_⟩
      have : ns' = isort ns := sorted_eq (h1.trans (isort_perm ns).symm) h2 (isort_sorted ns)
      subst this
      exact k.lst w (reps_ints _) p hp
end
end DL

set_option Elab.async false
set_option linter.all false
set_option maxRecDepth 100000
set_option maxHeartbeats 4000000
/-! D layer 5: expressions, tests, argument lists. -/
namespace DL
open PySem PySem.Spec PyProof.Rows L2

structure Good (X : Cx) (E : XK) (k : Nat) : Prop where
  calm : X.calm = true
  room : Room k X.A
  nd : X.N.Nodup
  tk : Takes X (fun cls d _ H => E cls d H)
  own : PassesOwn (model X.prog X.w) X.A X.env X.xe

/-! ### functions on data -/
def asB : D → Option Bool
  | .bl b => some b
  | _ => none
def truthD : D → Option Bool
  | .non => some false
  | .bl b => some b
  | .int i => some (i != 0)
  | .str z => if z.length ≤ big then some ((z.length : Int) != 0) else none
  | .lst ds => some (!ds.isEmpty)
  | .tup ds => some (!ds.isEmpty)
  | _ => none
def dVar (i : Nat) : Ev → M D := fun ρ => match ρ[i]? with
  | some (some (.val d)) => pure d
  | _ => M.fail
def dC (d : D) : Ev → M D := fun _ => pure d
def bin2 (f : D → D → Option D) (a b : Ev → M D) : Ev → M D := fun ρ => do
  let x ← a ρ
  let y ← b ρ
  M.lift (f x y)
def un1 (f : D → Option D) (a : Ev → M D) : Ev → M D := fun ρ => do
  let x ← a ρ
  M.lift (f x)
def aNil : Ev → M (List D) := fun _ => pure []
def aCons (a : Ev → M D) (r : Ev → M (List D)) : Ev → M (List D) := fun ρ => do
  let x ← a ρ
  let xs ← r ρ
  pure (x :: xs)
def dTup (a : Ev → M (List D)) : Ev → M D := fun ρ => do
  let xs ← a ρ
  if xs.length ≤ big then pure (.tup xs) else M.fail
def dLst (a : Ev → M (List D)) : Ev → M D := fun ρ => do
  let xs ← a ρ
  if xs.length ≤ big then pure (.lst xs) else M.fail
def dBi (f : List D → Option D) (a : Ev → M (List D)) : Ev → M D := fun ρ => do
  let xs ← a ρ
  M.lift (f xs)
def dFn (m : List D → M D) (a : Ev → M (List D)) : Ev → M D := fun ρ => do
  let xs ← a ρ
  m xs
def dIf (t : Ev → M Bool) (a b : Ev → M D) : Ev → M D := fun ρ => do
  let c ← t ρ
  if c = true then a ρ else b ρ
def dAnd (a b : Ev → M D) : Ev → M D := fun ρ => do
  let x ← a ρ
  let c ← M.lift (asB x)
  if c = true then b ρ else pure (.bl false)
def dOr (a b : Ev → M D) : Ev → M D := fun ρ => do
  let x ← a ρ
  let c ← M.lift (asB x)
  if c = true then pure (.bl true) else b ρ
def dNot (a : Ev → M D) : Ev → M D := fun ρ => do
  let x ← a ρ
  let c ← M.lift (asB x)
  pure (.bl (!c))
def dChain (f f' : D → D → Option D) (a b c : Ev → M D) : Ev → M D := fun ρ => do
  let x ← a ρ
  let y ← b ρ
  let k ← M.lift ((f x y).bind asB)
  if k = true then do
    let z ← c ρ
    M.lift (f' y z)
  else pure (.bl false)
def bTst (a : Ev → M D) : Ev → M Bool := fun ρ => do
  let x ← a ρ
  M.lift (asB x)
def bTru (a : Ev → M D) : Ev → M Bool := fun ρ => do
  let x ← a ρ
  M.lift (truthD x)
def bAnd (a b : Ev → M Bool) : Ev → M Bool := fun ρ => do
  let c ← a ρ
  if c = true then b ρ else pure false
def bOr (a b : Ev → M Bool) : Ev → M Bool := fun ρ => do
  let c ← a ρ
  if c = true then pure true else b ρ
def bNot (a : Ev → M Bool) : Ev → M Bool := fun ρ => do
  let c ← a ρ
  pure (!c)
def bYes : Ev → M Bool := fun _ => pure true
/-- a part of a slice: left out, or an int -/
abbrev Pt := Ev → M (Option Int)
def pNo : Pt := fun _ => pure none
def pAt (a : Ev → M D) : Pt := fun ρ => do
  let x ← a ρ
  match x with
  | .int i => pure (some i)
  | _ => M.fail
def dSl (a : Ev → M D) (l h : Pt) : Ev → M D := fun ρ => do
  let x ← a ρ
  let lo ← l ρ
  let hi ← h ρ
  M.lift (slD x lo hi)
/-- a method of a text, an int: its object, its arguments -/
def dMt (f : D → List D → Option D) (a : Ev → M D) (r : Ev → M (List D)) : Ev → M D := fun ρ => do
  let x ← a ρ
  let xs ← r ρ
  M.lift (f x xs)

/-! ### goals of lifted options -/
section
variable {α β : Type} {rel : Hp → β → α → Prop} {mg : Str → Option Value} {E : XK} {Z : Zt} {F H : Hp} {Q : β → Hp → Prop} {s : DS}
theorem Goal.lift {o : Option α} (h : Goal rel mg E Z F H Q ((M.lift o : M α) s)) : ∃ d, o = some d ∧ ∀ v F' H', Grow Z F H F' H' → Wd Z s F' H' → rel F' v d → Q v H' := by
  cases o with
  | none => exact h.elim
  | some d => exact ⟨d, rfl, h⟩
theorem Goal.nofail (h : Goal rel mg E Z F H Q ((M.fail : M α) s)) : False := h
end

section
variable {X : Cx} {E : XK} {k : Nat} {e a b c : Expr} {es : List Expr} {pos : Pos} {fa fb fc : Ev → M D} {fs : Ev → M (List D)} {ta tb : Ev → M Bool}
theorem de_var (i : Nat) {x : Str} (hN : X.N[i]? = some x) (hv : Vis X.env.scope x) (hd : (x == ("__debug__" : Str)) = false := by decide) (hcd : (x == ("__classdict__" : Str)) = false := by decide) :
    PE X (.Name x pos) (tD X.mg E (dVar i)) := PE.imp (pe_var hN hv hd hcd) fun σ H Q ⟨Z, H0, F, ρ, s, w, en, g⟩ => by
  unfold dVar at g
  cases h : ρ[i]? with
  | none => rw [h] at g; exact (g : False).elim
  | some o =>
    rw [h] at g
    match o, h, g with
    | none, _, g => exact (g : False).elim
    | some (.own ds), _, g => exact (g : False).elim
    | some (.dct _), _, g => exact (g : False).elim
    | some (.dcf _), _, g => exact (g : False).elim
    | some (.val d), h, g =>
      obtain ⟨v, h1, h2⟩ := en.val i d h
      exact ⟨v, h1, Goal.pureE (d := d) g w h2⟩
theorem de_C {v : V} {d : D} (h : PE X e (tC v)) (r : ∀ Z F, Rep Z F v d) : PE X e (tD X.mg E (dC d)) := PE.imp h fun σ H Q ⟨Z, H0, F, ρ, s, w, en, g⟩ => Goal.pureE g w (r Z F)
theorem de_int {i : Int} {j : Nat} : PE X (.Constant (.int i) j pos) (tD X.mg E (dC (.int i))) := de_C pe_int fun _ _ => .int i
theorem de_bl {i : Bool} {j : Nat} : PE X (.Constant (.bool i) j pos) (tD X.mg E (dC (.bl i))) := de_C pe_bl fun _ _ => .bl i
theorem de_non {j : Nat} : PE X (.Constant .none j pos) (tD X.mg E (dC .non)) := de_C pe_non fun _ _ => .non
theorem de_str {i : Str} {j : Nat} : PE X (.Constant (.str i) j pos) (tD X.mg E (dC (.str i))) := de_C pe_str fun _ _ => .str i
theorem de_gint {x : Str} {i : Int} (hg : Gl X x) (h : ∃ t, X.mg x = some (.int i t)) (hd : (x == ("__debug__" : Str)) = false := by decide) : PE X (.Name x pos) (tD X.mg E (dC (.int i))) := by
  obtain ⟨t, h⟩ := h
  exact de_C (pe_glob (v := .int i) hg h ⟨t, rfl⟩ hd) fun _ _ => .int i
theorem de_gstr {x z : Str} (hg : Gl X x) (h : ∃ t, X.mg x = some (.str z t)) (hd : (x == ("__debug__" : Str)) = false := by decide) : PE X (.Name x pos) (tD X.mg E (dC (.str z))) := by
  obtain ⟨t, h⟩ := h
  exact de_C (pe_glob (v := .str z) hg h ⟨t, rfl⟩ hd) fun _ _ => .str z

/-- two parts, then an operation -/
theorem bin2_tOp {f : D → D → Option D} {σ : L2.St} {H : Hp} {Q : VK} (h : tD X.mg E (bin2 f fa fb) σ H Q) : tOp (rO f) (tD X.mg E fa) (tD X.mg E fb) σ H Q := by
  obtain ⟨Z, H0, F, ρ, s, w, en, g⟩ := h
  refine ⟨Z, H0, F, ρ, s, w, en, g.bind (rel' := relD Z) fun d1 s1 v F1 H1 g1 w1 r1 q1 => ?_⟩
  refine ⟨Z, H0, F1, ρ, s1, w1, en.grow g1, q1.bind (rel' := relD Z) fun d2 s2 u F2 H2 g2 w2 r2 q2 => ?_⟩
  obtain ⟨d, e, q⟩ := q2.lift
  exact ⟨Z, F2, s2, d1, d2, d, w2, r1.mono g2.f, r2, e, q⟩
theorem de_op {op : Operator} {f : D → D → Option D} (ho : OpR X (binaryOp op) (rO f)) (ha : PE X a (tD X.mg E fa)) (hb : PE X b (tD X.mg E fb)) : PE X (.BinOp a op b pos) (tD X.mg E (bin2 f fa fb)) :=
  PE.imp (pe_op ho ha hb) fun _ _ _ h => bin2_tOp h
theorem de_cmp {op : CmpOp} {f : D → D → Option D} (ho : OpR X (compareOp op) (rO f)) (ha : PE X a (tD X.mg E fa)) (hb : PE X b (tD X.mg E fb)) (hm : behindInMarks op b = false) : PE X (.Compare a [op] [b] pos) (tD X.mg E (bin2 f fa fb)) :=
  PE.imp (pe_cmpR ho ha hb hm) fun _ _ _ h => bin2_tOp h
theorem de_ix (ha : PE X a (tD X.mg E fa)) (hb : PE X b (tD X.mg E fb)) (hs : PlainIx b) : PE X (.Subscript a b pos) (tD X.mg E (bin2 ixD fa fb)) :=
  PE.imp (pe_ix id_ix ha hb hs) fun _ _ _ h => bin2_tOp h
theorem de_neg (ha : PE X a (tD X.mg E fa)) : PE X (.UnaryOp .USub a pos) (tD X.mg E (un1 negD fa)) := PE.imp (pe_un ud_neg ha) fun σ H Q ⟨Z, H0, F, ρ, s, w, en, g⟩ => by
  refine ⟨Z, H0, F, ρ, s, w, en, g.bind (rel' := relD Z) fun d1 s1 v F1 H1 g1 w1 r1 q1 => ?_⟩
  obtain ⟨d, e, q⟩ := q1.lift
  exact ⟨Z, F1, s1, d1, d, w1, r1, e, q⟩

/-! ### argument lists, displays -/
theorem da_nil : PA X [] (tA' X.mg E aNil) := PA.imp pa_nil fun σ H Q ⟨Z, H0, F, ρ, s, w, en, g⟩ => Goal.pureE g w .nil
theorem da_cons (ha : PE X e (tD X.mg E fa)) (hr : PA X es (tA' X.mg E fs)) (hs : starEach (e :: es) X.env = (false, eval e X.env) :: starEach es X.env := by rfl) : PA X (e :: es) (tA' X.mg E (aCons fa fs)) :=
  PA.imp (pa_cons ha hr hs) fun σ H Q ⟨Z, H0, F, ρ, s, w, en, g⟩ => by
    refine ⟨Z, H0, F, ρ, s, w, en, g.bind (rel' := relD Z) fun d1 s1 v F1 H1 g1 w1 r1 q1 => ?_⟩
    refine ⟨Z, H0, F1, ρ, s1, w1, en.grow g1, q1.bind (rel' := relL Z) fun ds s2 us F2 H2 g2 w2 r2 q2 => ?_⟩
    exact Goal.pureE q2 w2 (.cons (r1.mono g2.f) r2)
theorem ite_goal {α β : Type} {rel : Hp → β → α → Prop} {mg : Str → Option Value} {E : XK} {Z : Zt} {F H : Hp} {Q : β → Hp → Prop} {s : DS} {c : Prop} [Decidable c] {x : M α} (h : Goal rel mg E Z F H Q ((if c then x else M.fail : M α) s)) : c ∧ Goal rel mg E Z F H Q (x s) := by
  split at h
  · exact ⟨by assumption, h⟩
  · exact h.elim
theorem de_tup {x1 : Nat} (h : PA X es (tA' X.mg E fs)) : PE X (.Tuple es x1 pos) (tD X.mg E (dTup fs)) := PE.imp (pe_tup h) fun σ H Q ⟨Z, H0, F, ρ, s, w, en, g⟩ => by
  refine ⟨Z, H0, F, ρ, s, w, en, g.bind (rel' := relL Z) fun ds s1 vs F1 H1 g1 w1 r1 q1 => ?_⟩
  obtain ⟨hz, q⟩ := ite_goal q1
  refine ⟨by rw [r1.length]; exact hz, fun p hp => ?_⟩
  exact Kc.tup (s := s1) (fun v F' H' a b c => q v F' H' a b c) w1 r1 p hp
theorem de_lst (h : PA X es (tA' X.mg E fs)) : PE X (.List es pos) (tD X.mg E (dLst fs)) := PE.imp (pe_lst h) fun σ H Q ⟨Z, H0, F, ρ, s, w, en, g⟩ => by
  refine ⟨Z, H0, F, ρ, s, w, en, g.bind (rel' := relL Z) fun ds s1 vs F1 H1 g1 w1 r1 q1 => ?_⟩
  obtain ⟨hz, q⟩ := ite_goal q1
  refine ⟨by rw [r1.length]; exact hz, fun p hp => ?_⟩
  exact Kc.lst (s := s1) (fun v F' H' a b c => q v F' H' a b c) w1 r1 p hp

/-! ### calls of built-ins -/
theorem dBi_tCB {f : List D → Option D} {σ : L2.St} {H : Hp} {Q : VK} (h : tD X.mg E (dBi f fs) σ H Q) : tCB (rC f) (tA' X.mg E fs) σ H Q := by
  obtain ⟨Z, H0, F, ρ, s, w, en, g⟩ := h
  refine ⟨Z, H0, F, ρ, s, w, en, g.bind (rel' := relL Z) fun ds s1 vs F1 H1 g1 w1 r1 q1 => ?_⟩
  obtain ⟨d, e, q⟩ := q1.lift
  exact ⟨Z, F1, s1, ds, d, w1, r1, e, q⟩
variable {x : Str} {p apos : Pos} {id T : String}
theorem de_bi {f : List D → Option D} (hc : CallR X (.builtin id) (rC f)) (hg : Gl X x) (hm : X.mg x = none) (hv : bootBuiltins x = some (.builtin id)) (ha : PA X (e :: es) (tA' X.mg E fs)) (hn : x ≠ "__name__" := by decide) (hdb : (x == ("__debug__" : Str)) = false := by decide)
    (he : starEach (e :: es) X.env = (false, eval e X.env) :: starEach es X.env := by rfl) (hpl : (backTo pos (starEach es X.env)).any (·.1) = false := by rfl) : PE X (.Call (.Name x p) (e :: es) [] pos) (tD X.mg E (dBi f fs)) :=
  PE.imp (pe_callB hc hg hm hv ha hn hdb he hpl) fun _ _ _ h => dBi_tCB h
theorem de_ty {f : List D → Option D} (hc : CallR X (.type T) (rC f)) (hg : Gl X x) (hm : X.mg x = none) (hv : bootBuiltins x = some (.type T)) (ha : PA X (e :: es) (tA' X.mg E fs)) (hn : x ≠ "__name__" := by decide) (hdb : (x == ("__debug__" : Str)) = false := by decide)
    (he : starEach (e :: es) X.env = (false, eval e X.env) :: starEach es X.env := by rfl) (hpl : (backTo pos (starEach es X.env)).any (·.1) = false := by rfl) : PE X (.Call (.Name x p) (e :: es) [] pos) (tD X.mg E (dBi f fs)) :=
  PE.imp (pe_callTy hc hg hm hv ha hn hdb he hpl) fun _ _ _ h => dBi_tCB h

/-! ### slices -/
theorem po_no : PO X none tNoPart := po_none
def tP' (mg : Str → Option Value) (E : XK) (f : Pt) : TO := fun σ H Q => ∃ Z H0 F ρ s, Wd Z s F H ∧ EnvR Z H0 F H σ ρ ∧ Goal (fun _ a b => a = b) mg E Z F H Q (f ρ s)
theorem PO.imp {X : Cx} {e : Option Expr} {t t' : TO} (h : PO X e t) (k : ∀ σ H Q, t' σ H Q → t σ H Q) : PO X e t' := ⟨fun pins s σ H Q I q => h.run pins s σ H Q I (k σ H Q q)⟩
theorem dp_no : PO X none (tP' X.mg E pNo) := PO.imp po_none fun σ H Q ⟨Z, H0, F, ρ, s, w, en, g⟩ => Goal.pureE g w rfl
theorem dp_at (h : PE X e (tD X.mg E fa)) : PO X (some e) (tP' X.mg E (pAt fa)) := PO.imp (po_some h) fun σ H Q ⟨Z, H0, F, ρ, s, w, en, g⟩ => by
  refine ⟨Z, H0, F, ρ, s, w, en, g.bind (rel' := relD Z) fun d1 s1 v F1 H1 g1 w1 r1 q1 => ?_⟩
  cases d1 with
  | int i =>
    cases r1
    exact ⟨i, rfl, Goal.pureE q1 w1 rfl⟩
  | _ => exact (Goal.nofail q1).elim
theorem de_slice {lo hi : Option Expr} {fl fh : Pt} {p2 : Pos} (he : PE X e (tD X.mg E fa)) (hl : PO X lo (tP' X.mg E fl)) (hu : PO X hi (tP' X.mg E fh)) : PE X (.Subscript e (.Slice lo hi none p2) pos) (tD X.mg E (dSl fa fl fh)) :=
  PE.imp (pe_slice sd_sl he hl hu) fun σ H Q ⟨Z, H0, F, ρ, s, w, en, g⟩ => by
    refine ⟨Z, H0, F, ρ, s, w, en, g.bind (rel' := relD Z) fun d1 s1 v F1 H1 g1 w1 r1 q1 => ?_⟩
    refine ⟨Z, H0, F1, ρ, s1, w1, en.grow g1, q1.bind (rel' := fun _ a b => a = b) fun l s2 l' F2 H2 g2 w2 r2 q2 => ?_⟩
    subst r2
    refine ⟨Z, H0, F2, ρ, s2, w2, (en.grow g1).grow g2, q2.bind (rel' := fun _ a b => a = b) fun h s3 h' F3 H3 g3 w3 r3 q3 => ?_⟩
    subst r3
    obtain ⟨d, e, q⟩ := q3.lift
    exact ⟨Z, F3, s3, d1, d, w3, r1.mono (g2.trans g3).f, e, q⟩

/-! ### tests -/
theorem dt_val (h : PE X e (tD X.mg E fa)) (he : ∀ whole, isTrue e X.env whole = (do let v ← whole; standAt e.pos; holding [v] (truthy v)) := by intro _; rfl) : PT X e (tB' X.mg E (bTru fa)) :=
  PT.imp (pt_truth h he) fun σ H Q ⟨Z, H0, F, ρ, s, w, en, g⟩ => by
    refine ⟨Z, H0, F, ρ, s, w, en, g.bind (rel' := relD Z) fun d1 s1 v F1 H1 g1 w1 r1 q1 => ?_⟩
    obtain ⟨b, eb, q⟩ := q1.lift
    have q' : Q b H1 := q b F1 H1 Grow.refl w1 rfl
    cases r1 with
    | non => cases eb; exact ⟨_, rfl, q'⟩
    | bl c => cases eb; exact ⟨_, rfl, q'⟩
    | int i => cases eb; exact ⟨_, rfl, q'⟩
    | str z =>
      obtain ⟨hz, e2⟩ := ite_some (show (if z.length ≤ big then some ((z.length : Int) != 0) else none) = some b from eb)
      exact ⟨b, ⟨hz, e2.symm⟩, q'⟩
    | lst ha r =>
      cases eb
      refine ⟨_, .inl ⟨_, SqL.of (w1.sub _ _ ha), ?_⟩, q'⟩
      have := r.nil_iff
      cases r <;> rfl
    | tup ha r =>
      cases eb
      refine ⟨_, .inr (.inl ⟨_, SqT.of (w1.sub _ _ ha), ?_⟩), q'⟩
      cases r <;> rfl
    | st _ => cases eb
    | opq _ => cases eb
theorem asB_of {d : D} {c : Bool} (h : asB d = some c) : d = .bl c := by
  cases d <;> first | (cases h; done) | (cases h; rfl)
theorem dt_cmp {op : CmpOp} {f : D → D → Option D} (ho : OpR X (compareOp op) (rO f)) (ha : PE X a (tD X.mg E fa)) (hb : PE X b (tD X.mg E fb)) (hm : behindInMarks op b = false) : PT X (.Compare a [op] [b] pos) (tB' X.mg E (bTst (bin2 f fa fb))) :=
  PT.imp (pt_cmpR ho ha hb hm) fun σ H Q ⟨Z, H0, F, ρ, s, w, en, g⟩ => bin2_tOp ⟨Z, H0, F, ρ, s, w, en, g.bind (rel' := relD Z) fun d1 s1 v F1 H1 g1 w1 r1 q1 => by
    obtain ⟨c, ec, q⟩ := q1.lift
    have := asB_of ec
    subst this
    cases r1
    exact ⟨c, rfl, q c F1 H1 Grow.refl w1 rfl⟩⟩
theorem dChain_t {f f' : D → D → Option D} {σ : L2.St} {H : Hp} {Q : VK} (h : tD X.mg E (dChain f f' fa fb fc) σ H Q) : tChain (rO f) (rO f') (tD X.mg E fa) (tD X.mg E fb) (tD X.mg E fc) σ H Q := by
  obtain ⟨Z, H0, F, ρ, s, w, en, g⟩ := h
  refine ⟨Z, H0, F, ρ, s, w, en, g.bind (rel' := relD Z) fun d1 s1 v F1 H1 g1 w1 r1 q1 => ?_⟩
  refine ⟨Z, H0, F1, ρ, s1, w1, en.grow g1, q1.bind (rel' := relD Z) fun d2 s2 u F2 H2 g2 w2 r2 q2 => ?_⟩
  cases e1 : f d1 d2 with
  | none =>
    rw [e1] at q2
    exact (q2 : False).elim
  | some d =>
    cases e2 : asB d with
    | none =>
      rw [e1] at q2
      have q3 : Goal (relD Z) X.mg E Z F2 H2 Q (((M.lift (asB d)) >>= fun k => if k = true then (do let z ← fc ρ; M.lift (f' d2 z)) else pure (.bl false) : M D) s2) := q2
      rw [e2] at q3
      exact (q3 : False).elim
    | some k =>
      have := asB_of e2
      subst this
      rw [e1] at q2
      have q3 : Goal (relD Z) X.mg E Z F2 H2 Q ((if k = true then (do let z ← fc ρ; M.lift (f' d2 z)) else pure (.bl false) : M D) s2) := q2
      refine ⟨Z, F2, s2, d1, d2, .bl k, w2, r1.mono g2.f, r2, e1, fun v F3 H3 g3 w3 r3 => ?_⟩
      cases r3
      refine ⟨k, rfl, ?_⟩
      cases k with
      | false =>
        rw [if_neg Bool.false_ne_true] at q3 ⊢
        exact Goal.pureE (q3.shift g3) w3 (.bl false)
      | true =>
        rw [if_pos rfl] at q3 ⊢
        refine ⟨Z, H0, F3, ρ, s2, w3, ((en.grow g1).grow g2).grow g3, (q3.shift g3).bind (rel' := relD Z) fun d3 s4 z F4 H4 g4 w4 r4 q4 => ?_⟩
        obtain ⟨d, e, q⟩ := q4.lift
        exact ⟨Z, F4, s4, d2, d3, d, w4, r2.mono (g3.trans g4).f, r4, e, q⟩
theorem de_chain {op op' : CmpOp} {f f' : D → D → Option D} (ho : OpR X (compareOp op) (rO f)) (ho' : OpR X (compareOp op') (rO f')) (ha : PE X a (tD X.mg E fa)) (hb : PE X b (tD X.mg E fb)) (hc : PE X c (tD X.mg E fc))
    (hm : lastMarks [op, op'] [b, c] = false := by with_unfolding_all rfl) : PE X (.Compare a [op, op'] [b, c] pos) (tD X.mg E (dChain f f' fa fb fc)) := PE.imp (pe_chain ho ho' ha hb hc hm) fun _ _ _ h => dChain_t h
theorem dt_chain {op op' : CmpOp} {f f' : D → D → Option D} (ho : OpR X (compareOp op) (rO f)) (ho' : OpR X (compareOp op') (rO f')) (ha : PE X a (tD X.mg E fa)) (hb : PE X b (tD X.mg E fb)) (hc : PE X c (tD X.mg E fc))
    (hm : lastMarks [op, op'] [b, c] = false := by with_unfolding_all rfl) : PT X (.Compare a [op, op'] [b, c] pos) (tB' X.mg E (bTst (dChain f f' fa fb fc))) :=
  PT.imp (pt_chain ho ho' ha hb hc hm) fun σ H Q ⟨Z, H0, F, ρ, s, w, en, g⟩ => dChain_t ⟨Z, H0, F, ρ, s, w, en, g.bind (rel' := relD Z) fun d1 s1 v F1 H1 g1 w1 r1 q1 => by
    obtain ⟨c, ec, q⟩ := q1.lift
    have := asB_of ec
    subst this
    cases r1
    exact ⟨c, rfl, q c F1 H1 Grow.refl w1 rfl⟩⟩
theorem dw_and1 (ha : PT X a (tB' X.mg E ta)) : PW X (.BoolOp .And [a] pos) (tB' X.mg E ta) := pw_and1 ha
theorem dw_or1 (ha : PT X a (tB' X.mg E ta)) : PW X (.BoolOp .Or [a] pos) (tB' X.mg E ta) := pw_or1 ha
theorem dw_and {rest : List Expr} (ha : PT X a (tB' X.mg E ta)) (hb : PW X (.BoolOp .And (b :: rest) pos) (tB' X.mg E tb)) : PW X (.BoolOp .And (a :: b :: rest) pos) (tB' X.mg E (bAnd ta tb)) :=
  PW.imp (pw_and ha hb) fun σ H Q ⟨Z, H0, F, ρ, s, w, en, g⟩ => by
    refine ⟨Z, H0, F, ρ, s, w, en, g.bind (rel' := relB) fun c s1 c' F1 H1 g1 w1 r1 q1 => ?_⟩
    obtain rfl : c' = c := r1
    cases c' with
    | true => exact ⟨Z, H0, F1, ρ, s1, w1, en.grow g1, q1⟩
    | false => exact Goal.pureE q1 w1 rfl
theorem dw_or {rest : List Expr} (ha : PT X a (tB' X.mg E ta)) (hb : PW X (.BoolOp .Or (b :: rest) pos) (tB' X.mg E tb)) : PW X (.BoolOp .Or (a :: b :: rest) pos) (tB' X.mg E (bOr ta tb)) :=
  PW.imp (pw_or ha hb) fun σ H Q ⟨Z, H0, F, ρ, s, w, en, g⟩ => by
    refine ⟨Z, H0, F, ρ, s, w, en, g.bind (rel' := relB) fun c s1 c' F1 H1 g1 w1 r1 q1 => ?_⟩
    obtain rfl : c' = c := r1
    cases c' with
    | true => exact Goal.pureE q1 w1 rfl
    | false => exact ⟨Z, H0, F1, ρ, s1, w1, en.grow g1, q1⟩
theorem dt_not (ha : PT X a (tB' X.mg E ta)) : PT X (.UnaryOp .Not a pos) (tB' X.mg E (bNot ta)) :=
  PT.imp (pt_not ha) fun σ H Q ⟨Z, H0, F, ρ, s, w, en, g⟩ => by
    refine ⟨Z, H0, F, ρ, s, w, en, g.bind (rel' := relB) fun c s1 c' F1 H1 g1 w1 r1 q1 => ?_⟩
    obtain rfl : c' = c := r1
    exact Goal.pureE q1 w1 rfl
theorem de_one {op : BoolOp} (h : PE X a (tD X.mg E fa)) : PE X (.BoolOp op [a] pos) (tD X.mg E fa) := pe_one h
theorem de_and {rest : List Expr} (ha : PE X a (tD X.mg E fa)) (hb : PE X (.BoolOp .And (b :: rest) pos) (tD X.mg E fb)) : PE X (.BoolOp .And (a :: b :: rest) pos) (tD X.mg E (dAnd fa fb)) :=
  PE.imp (pe_and ha hb) fun σ H Q ⟨Z, H0, F, ρ, s, w, en, g⟩ => by
    refine ⟨Z, H0, F, ρ, s, w, en, g.bind (rel' := relD Z) fun d s1 v F1 H1 g1 w1 r1 q1 => ?_⟩
    cases d <;> try (exact (q1 : False).elim)
    rename_i c
    cases r1
    refine ⟨c, rfl, ?_⟩
    cases c with
    | true => exact ⟨Z, H0, F1, ρ, s1, w1, en.grow g1, q1⟩
    | false => exact Goal.pureE (d := D.bl false) q1 w1 (.bl false)
theorem de_or {rest : List Expr} (ha : PE X a (tD X.mg E fa)) (hb : PE X (.BoolOp .Or (b :: rest) pos) (tD X.mg E fb)) : PE X (.BoolOp .Or (a :: b :: rest) pos) (tD X.mg E (dOr fa fb)) :=
  PE.imp (pe_or ha hb) fun σ H Q ⟨Z, H0, F, ρ, s, w, en, g⟩ => by
    refine ⟨Z, H0, F, ρ, s, w, en, g.bind (rel' := relD Z) fun d s1 v F1 H1 g1 w1 r1 q1 => ?_⟩
    cases d <;> try (exact (q1 : False).elim)
    rename_i c
    cases r1
    refine ⟨c, rfl, ?_⟩
    cases c with
    | true => exact Goal.pureE (d := D.bl true) q1 w1 (.bl true)
    | false => exact ⟨Z, H0, F1, ρ, s1, w1, en.grow g1, q1⟩
theorem de_not (ha : PE X a (tD X.mg E fa)) : PE X (.UnaryOp .Not a pos) (tD X.mg E (dNot fa)) :=
  PE.imp (pe_not ha) fun σ H Q ⟨Z, H0, F, ρ, s, w, en, g⟩ => by
    refine ⟨Z, H0, F, ρ, s, w, en, g.bind (rel' := relD Z) fun d s1 v F1 H1 g1 w1 r1 q1 => ?_⟩
    cases d <;> try (exact (q1 : False).elim)
    rename_i c
    cases r1
    exact ⟨c, rfl, Goal.pureE (d := D.bl (!c)) q1 w1 (.bl _)⟩
theorem de_if (hc : PT X c (tB' X.mg E ta)) (ha : PE X a (tD X.mg E fa)) (hb : PE X b (tD X.mg E fb)) : PE X (.IfExp c a b pos) (tD X.mg E (dIf ta fa fb)) :=
  PE.imp (pe_ifExp hc ha hb) fun σ H Q ⟨Z, H0, F, ρ, s, w, en, g⟩ => by
    refine ⟨Z, H0, F, ρ, s, w, en, g.bind (rel' := relB) fun c s1 c' F1 H1 g1 w1 r1 q1 => ?_⟩
    obtain rfl : c' = c := r1
    cases c' with
    | true => exact ⟨Z, H0, F1, ρ, s1, w1, en.grow g1, q1⟩
    | false => exact ⟨Z, H0, F1, ρ, s1, w1, en.grow g1, q1⟩
/-- a branch that is never asked -/
theorem de_never : PE X e (tD X.mg E fun _ => M.fail) := ⟨fun _ _ _ _ _ _ ⟨_, _, _, _, _, _, _, g⟩ => g.elim⟩
end
end DL

set_option Elab.async false
set_option linter.all false
set_option maxRecDepth 100000
set_option maxHeartbeats 4000000
/-! D layer 6: calls of own defs, targets, sources. -/
namespace DL
open PySem PySem.Spec PyProof.Rows L2

/-! ### a def by a function on data -/
def spD (mg : Str → Option Value) (n : Nat) (m : List D → M D) : Sp := fun vs H Q E => vs.length = n ∧ ∃ Z F ds s, Wd Z s F H ∧ Reps Z F vs ds ∧ Goal (relD Z) mg E Z F H Q (m ds s)
structure DefOk (P : Program) (w : World) (K : PySem.W.Frag) (mg : Str → Option Value) (base : Heap) (k : Nat) (x : Str) (n : Nat) (m : List D → M D) : Prop where
  ex : ∃ f fd ps, FnOk P w K mg base (L2.CX P w) k f fd ps (spD mg n m) ∧ mg x = some (.ref f) ∧ PySem.W.keepIn K (.ref f) = true ∧ Binds K fd ps []
def dFnN (n : Nat) (m : List D → M D) (a : Ev → M (List D)) : Ev → M D := fun ρ => do
  let xs ← a ρ
  if xs.length = n then m xs else M.fail
section
variable {X : Cx} {E : XK} {k j n : Nat} {e : Expr} {es : List Expr} {pos p : Pos} {x : Str} {fs : Ev → M (List D)} {m : List D → M D}
theorem de_call (G : Good X E k) (F : DefOk X.prog X.w X.K X.mg X.base j x n m) (hj : j ≤ k) (hg : Gl X x) (ha : PA X (e :: es) (tA' X.mg E fs)) (hdb : (x == ("__debug__" : Str)) = false := by decide)
    (he : starEach (e :: es) X.env = (false, eval e X.env) :: starEach es X.env := by rfl) (hpl : (backTo pos (starEach es X.env)).any (·.1) = false := by rfl) :
    PE X (.Call (.Name x p) (e :: es) [] pos) (tD X.mg E (dFnN n m fs)) := by
  obtain ⟨f, fd, ps, F, hm, hk, hb⟩ := F.ex
  refine PE.imp (pe_call (F.mono hj) G.room hg hm hk hb .nil (passes_call G.tk fun _ _ _ _ h => h) ha hdb he hpl) fun σ H Q ⟨Z, H0, F', ρ, s, w, en, g⟩ => ?_
  refine ⟨Z, H0, F', ρ, s, w, en, g.bind (rel' := relL Z) fun ds s1 vs F1 H1 g1 w1 r1 q1 => ?_⟩
  obtain ⟨hn, q⟩ := ite_goal q1
  rw [List.append_nil]
  exact ⟨r1.length.trans hn, Z, F1, ds, s1, w1, r1, q⟩
end

/-! ### targets -/
abbrev Tgt := D → Ev → Option Ev
abbrev Tgts := List D → Ev → Option Ev
def gN (i : Nat) : Tgt := fun d ρ => some (ρ.set i (some (B.val d)))
def gsNil : Tgts := fun ds ρ => match ds with
  | [] => some ρ
  | _ => none
def gsCons (t : Tgt) (u : Tgts) : Tgts := fun ds ρ => match ds with
  | d :: r => match t d ρ with
    | some ρ' => u r ρ'
    | none => none
  | [] => none
def gTp (n : Nat) (u : Tgts) : Tgt := fun d ρ => match d with
  | .tup ds => if ds.length = n then u ds ρ else none
  | _ => none
def Off (ix : List Nat) (σ σ' : L2.St) : Prop := σ'.length = σ.length ∧ ∀ j, j ∉ ix → σ'[j]? = σ[j]?
def tG (ix : List Nat) (g : Tgt) : TG := fun v σ H Q => ∃ Z H0 F ρ s d ρ', Wd Z s F H ∧ EnvR Z H0 F H σ ρ ∧ Rep Z F v d ∧ g d ρ = some ρ' ∧ ∀ σ', EnvR Z H0 F H σ' ρ' → Off ix σ σ' → Q σ' H
def tGs (ix : List Nat) (g : Tgts) : TGs := fun vs σ H Q => ∃ Z H0 F ρ s ds ρ', Wd Z s F H ∧ EnvR Z H0 F H σ ρ ∧ Reps Z F vs ds ∧ g ds ρ = some ρ' ∧ ∀ σ', EnvR Z H0 F H σ' ρ' → Off ix σ σ' → Q σ' H
theorem PGs.imp {X : Cx} {tg : List Expr} {t t' : TGs} (h : PGs X tg t) (k : ∀ v σ H Q, t' v σ H Q → t v σ H Q) : PGs X tg t' := ⟨fun pins s σ H v u Q I r q => h.run pins s σ H v u Q I r (k v σ H Q q)⟩
theorem Off.trans {i1 i2 : List Nat} {σ σ1 σ2 : L2.St} (a : Off i1 σ σ1) (b : Off i2 σ1 σ2) : Off (i1 ++ i2) σ σ2 :=
  ⟨b.1.trans a.1, fun j hj => (b.2 j fun h => hj (List.mem_append_right _ h)).trans (a.2 j fun h => hj (List.mem_append_left _ h))⟩
section
variable {X : Cx} {E : XK} {pos : Pos}
theorem dg_name (i : Nat) {x : Str} (hN : X.N.Nodup) (hi : X.N[i]? = some x) (hx : Loc X.env.scope x) (hf : X.fn x = true ∨ X.env.scope.names.lookup x = some .local) : PG X (.Name x pos) (tG [i] (gN i)) :=
  PG.imp (pg_name hN hi hx hf) fun v σ H Q ⟨Z, H0, F, ρ, s, d, ρ', w, en, r, e, q⟩ => by
    cases e
    exact q _ (en.setV r) ⟨List.length_set, fun j hj => List.getElem?_set_ne (fun h => hj (by simp [h]))⟩
theorem dgs_nil : PGs X [] (tGs [] gsNil) := PGs.imp pgs_nil fun v σ H Q ⟨Z, H0, F, ρ, s, ds, ρ', w, en, r, e, q⟩ => by
  cases r with
  | nil => cases e; exact ⟨rfl, q _ en ⟨rfl, fun _ _ => rfl⟩⟩
  | cons _ _ => cases e
theorem dgs_cons {e : Expr} {es : List Expr} {i1 i2 : List Nat} {t : Tgt} {u : Tgts} (h1 : PG X e (tG i1 t)) (h2 : PGs X es (tGs i2 u))
    (hs : (assignEach (e :: es) X.env).map (·.2) = assign e X.env :: (assignEach es X.env).map (·.2) := by rfl) : PGs X (e :: es) (tGs (i1 ++ i2) (gsCons t u)) :=
  PGs.imp (pgs_cons h1 h2 hs) fun v σ H Q ⟨Z, H0, F, ρ, s, ds, ρ', w, en, r, e, q⟩ => by
    cases r with
    | nil => cases e
    | @cons v vs d ds r1 rr =>
      have e' : (match t d ρ with | some ρ' => u ds ρ' | none => none) = some ρ' := e
      cases h : t d ρ with
      | none => rw [h] at e'; cases e'
      | some ρ1 =>
        rw [h] at e'
        refine ⟨_, _, rfl, Z, H0, F, ρ, s, d, ρ1, w, en, r1, h, fun σ1 en1 o1 => ?_⟩
        exact ⟨Z, H0, F, ρ1, s, ds, ρ', w, en1, rr, e', fun σ2 en2 o2 => q σ2 en2 (o1.trans o2)⟩
theorem dg_tup {es : List Expr} {x1 : Nat} {ix : List Nat} {u : Tgts} (n : Nat) (hc : X.calm = true) (h : PGs X es (tGs ix u))
    (hn : (assignEach es X.env).length = n := by rfl) (hst : (assignEach es X.env).findIdx? (·.1) = none := by rfl) : PG X (.Tuple es x1 pos) (tG ix (gTp n u)) :=
  PG.imp (pg_tup hc h hn hst) fun v σ H Q ⟨Z, H0, F, ρ, s, d, ρ', w, en, r, e, q⟩ => by
    match d, r, e with
    | .tup ds, .tup ha rs, e =>
      have e' : (if ds.length = n then u ds ρ else none) = some ρ' := e
      by_cases hl : ds.length = n
      · rw [if_pos hl] at e'
        exact ⟨_, _, rfl, SqT.of (w.sub _ _ ha), rs.length.trans hl, Z, H0, F, ρ, s, _, ρ', w, en, rs, e', q⟩
      · rw [if_neg hl] at e'; cases e'
    | .non, _, e => cases e
    | .bl _, _, e => cases e
    | .int _, _, e => cases e
    | .str _, _, e => cases e
    | .lst _, _, e => cases e
    | .st, _, e => cases e
    | .opq _, _, e => cases e
end

/-! ### sources -/
structure ItD (Z : Zt) (F : Hp) (J : It) (ds : List D) : Prop where
  go : ∀ i H, i < ds.length → Same F H → J.go i H
  stop : ∀ H, Same F H → J.stop ds.length H
  yld : ∀ i H x H', i < ds.length → Same F H → J.yld i H x H' → (H' = H ∧ ∃ d, ds[i]? = some d ∧ Rep Z F x d) ∨ (∃ T vs es, x = .ref T ∧ H T = none ∧ H' = upd H T (.tup vs) ∧ ds[i]? = some (.tup es) ∧ Reps Z F vs es)
def tI (mg : Str → Option Value) (E : XK) (f : Ev → M (List D)) : TI := fun σ H R => ∃ Z H0 F ρ s, Wd Z s F H ∧ EnvR Z H0 F H σ ρ ∧ Goal (fun F' J ds => ItD Z F' J ds) mg E Z F H R (f ρ s)
theorem ItD.list' {Z : Zt} {F : Hp} {K : PySem.W.Frag} {a : Addr} {xs : List V} {ds : List D} (h : F a = some (.lst xs)) (r : Reps Z F xs ds) : ItD Z F (Itl K a) ds where
  go := fun i H hi e => by
    have hi' : i < xs.length := by rw [r.length]; exact hi
    exact ⟨xs, xs[i], SqL.of (e _ _ h), by simp [hi']⟩
  stop := fun H e => ⟨xs, SqL.of (e _ _ h), Nat.le_of_eq r.length⟩
  yld := fun i H x H' hi e y => by
    obtain ⟨d, h1, h2⟩ := r.getV (y.2 xs (SqL.of (e _ _ h)))
    exact .inl ⟨y.1, d, h1, h2⟩
theorem ItD.tup {Z : Zt} {F : Hp} {K : PySem.W.Frag} {a : Addr} {xs : List V} {ds : List D} (h : F a = some (.tup xs)) (r : Reps Z F xs ds) : ItD Z F (Itt K a) ds where
  go := fun i H hi e => by
    have hi' : i < xs.length := by rw [r.length]; exact hi
    exact ⟨xs, xs[i], SqT.of (e _ _ h), by simp [hi']⟩
  stop := fun H e => ⟨xs, SqT.of (e _ _ h), Nat.le_of_eq r.length⟩
  yld := fun i H x H' hi e y => by
    obtain ⟨d, h1, h2⟩ := r.getV (y.2 xs (SqT.of (e _ _ h)))
    exact .inl ⟨y.1, d, h1, h2⟩
def sgD (c : Nat) : D := .str ⟨#[c]⟩
def sgV (c : Nat) : V := .str ⟨#[c]⟩
theorem reps_sg {Z : Zt} {F : Hp} : ∀ cs : List Nat, Reps Z F (cs.map sgV) (cs.map sgD)
  | [] => .nil
  | c :: cs => .cons (.str _) (reps_sg cs)
theorem ItD.str {Z : Zt} {F : Hp} (z : Str) : ItD Z F (Its z) (z.cps.toList.map sgD) where
  go := fun i H hi e => by
    show i < z.cps.size
    rw [List.length_map, Array.length_toList] at hi
    exact hi
  stop := fun H e => by
    show z.cps.size ≤ _
    rw [List.length_map, Array.length_toList]
    exact Nat.le_refl _
  yld := fun i H x H' hi e y => by
    obtain ⟨e1, c, hc, ex⟩ := y
    subst ex
    refine .inl ⟨e1, sgD c, ?_, .str _⟩
    rw [List.getElem?_map, Array.getElem?_toList, hc]
    rfl
/-- lo, lo + c, .. -/
def rngL (lo c : Int) : Nat → List D
  | 0 => []
  | n + 1 => .int lo :: rngL (lo + c) c n
theorem rngL_length (c : Int) : ∀ (n : Nat) (lo : Int), (rngL lo c n).length = n
  | 0, _ => rfl
  | n + 1, lo => congrArg Nat.succ (rngL_length c n (lo + c))
theorem rngL_get (c : Int) : ∀ (n : Nat) (lo : Int) (i : Nat), i < n → (rngL lo c n)[i]? = some (.int (lo + (i : Nat) * c))
  | 0, _, i, h => absurd h (Nat.not_lt_zero _)
  | n + 1, lo, 0, _ => by simp [rngL]
  | n + 1, lo, i + 1, h => by
    show (rngL (lo + c) c n)[i]? = _
    rw [rngL_get c n (lo + c) i (by omega)]
    have : lo + c + (i : Nat) * c = lo + ((i + 1 : Nat) : Int) * c := by
      rw [Int.natCast_add, Int.add_mul]
      show lo + c + (i : Int) * c = lo + ((i : Int) * c + 1 * c)
      omega
    rw [this]
theorem ItD.rng {Z : Zt} {F : Hp} {lo : Int} {n : Nat} : ItD Z F (Itr lo n) (rngL lo 1 n) where
  go := fun i H hi e => by rw [rngL_length] at hi; exact hi
  stop := fun H e => by show n ≤ _; rw [rngL_length]; exact Nat.le_refl _
  yld := fun i H x H' hi e y => by
    rw [rngL_length] at hi
    obtain ⟨e1, ex⟩ := y
    subst ex
    refine .inl ⟨e1, .int (lo + i), ?_, .int _⟩
    rw [rngL_get 1 n lo i hi, Int.mul_one]
theorem ItD.rngC {Z : Zt} {F : Hp} {lo c : Int} {n : Nat} : ItD Z F (Itc lo c n) (rngL lo c n) where
  go := fun i H hi e => by rw [rngL_length] at hi; exact hi
  stop := fun H e => by show n ≤ _; rw [rngL_length]; exact Nat.le_refl _
  yld := fun i H x H' hi e y => by
    rw [rngL_length] at hi
    obtain ⟨e1, ex⟩ := y
    subst ex
    exact .inl ⟨e1, .int (lo + (i : Nat) * c), rngL_get c n lo i hi, .int _⟩
def itemsD : D → Option (List D)
  | .lst ds => some ds
  | .tup ds => some ds
  | .str z => some (z.cps.toList.map sgD)
  | _ => none
def iSeq (a : Ev → M D) : Ev → M (List D) := fun ρ => do
  let x ← a ρ
  M.lift (itemsD x)
def lim (i : Int) : Bool := decide (-(2 ^ 62) ≤ i ∧ i < 2 ^ 62)
theorem lim_of {i : Int} (h : lim i = true) : -(2 ^ 62) ≤ i ∧ i < 2 ^ 62 := of_decide_eq_true h
def rng1 : List D → Option (List D)
  | [.int j] => if lim j = true then some (rngL 0 1 j.toNat) else none
  | _ => none
def rng2 : List D → Option (List D)
  | [.int i, .int j] => if lim i = true ∧ lim j = true then some (rngL i 1 (j - i).toNat) else none
  | _ => none
def iArgs (f : List D → Option (List D)) (a : Ev → M (List D)) : Ev → M (List D) := fun ρ => do
  let xs ← a ρ
  M.lift (f xs)
section
variable {X : Cx} {E : XK} {k : Nat} {tg e e2 : Expr} {pos p : Pos} {fa : Ev → M D} {fs : Ev → M (List D)}
theorem di_seq (he : PE X e (tD X.mg E fa)) : PI X tg e (tI X.mg E (iSeq fa)) := by
  refine ⟨fun pins s σ H R I ⟨Z, H0, F, ρ, ds, w, en, g⟩ => ?_⟩
  refine thn (he.run pins s σ H (fun x H1 => ∃ F1 s1 d1, Grow Z F H F1 H1 ∧ Wd Z s1 F1 H1 ∧ Rep Z F1 x d1 ∧ Goal (fun F' J ds => ItD Z F' J ds) X.mg E Z F1 H1 R ((M.lift (itemsD d1) : M (List D)) s1)) I
    ⟨Z, H0, F, ρ, ds, w, en, g.bind (rel' := relD Z) fun d1 s1 v F1 H1 g1 w1 r1 q1 => ⟨F1, s1, d1, g1, w1, r1, q1⟩⟩) fun v s1 ⟨x, H1, I1, rv, F1, s2, d1, g1, w1, r1, q1⟩ => ?_
  obtain ⟨items, ei, q⟩ := q1.lift
  cases r1 with
  | lst ha r =>
    cases ei
    cases rv
    rename_i a xs ds
    have hq : SqL X.K H1 a xs := SqL.of (w1.sub _ _ ha)
    obtain ⟨its, rv, p, hz⟩ := I1.list hq
    refine wpAny_pyIter_list p.isList ?_
    refine ⟨s1.heap.objs.size, [s1.heap.objs.size], _, _, H1, rfl, I1.kept (t' := s1.toks) fun b o e => Heap.get?_push_of_some _ e, turn_list a _, ⟨_, Heap.get?_push_size _ rfl, rfl, rfl⟩, fun b hb => ?_, q _ F1 H1 Grow.refl w1 (ItD.list' ha r)⟩
    have e : b = s1.heap.objs.size := by simpa using hb
    subst e
    exact I1.fpOk (Nat.le_refl _) (I1.hok.fresh (Nat.le_refl _))
  | tup ha r =>
    cases ei
    cases rv
    rename_i a xs ds
    have hq : SqT X.K H1 a xs := SqT.of (w1.sub _ _ ha)
    obtain ⟨its, rv, p, hz⟩ := I1.tuple hq
    refine wpAny_pyIter_tuple (show s1.heap.IsTuple a its.toArray from p) ?_
    refine ⟨s1.heap.objs.size, [s1.heap.objs.size], _, _, H1, rfl, I1.kept (t' := s1.toks) fun b o e => Heap.get?_push_of_some _ e, turn_tuple a _, ⟨_, Heap.get?_push_size _ rfl, rfl, rfl⟩, fun b hb => ?_, q _ F1 H1 Grow.refl w1 (ItD.tup ha r)⟩
    have e : b = s1.heap.objs.size := by simpa using hb
    subst e
    exact I1.fpOk (Nat.le_refl _) (I1.hok.fresh (Nat.le_refl _))
  | str z =>
    cases ei
    obtain ⟨t, rfl⟩ := rv
    have q' := q (Its z) F1 H1 Grow.refl w1 (ItD.str z)
    cases ha : z.cps.all (· < 128)
    · exact wpAny_pyIter_wide ha (pi_one (tk := s1.toks) I1 _ (turn_str _ z t "str_iterator" (.inr rfl)) ⟨_, Heap.get?_push_size _ rfl, rfl, rfl⟩ q')
    · exact wpAny_pyIter_ascii ha (pi_one (tk := s1.toks) I1 _ (turn_str _ z t "str_ascii_iterator" (.inl rfl)) ⟨_, Heap.get?_push_size _ rfl, rfl, rfl⟩ q')
  | _ => cases ei
theorem di_rng1 (hg : Gl X "range") (hm : X.mg "range" = none) (ha : PA X [e] (tA' X.mg E fs)) (hs : starEach [e] X.env = [(false, eval e X.env)] := by rfl) : PI X tg (.Call (.Name "range" p) [e] [] pos) (tI X.mg E (iArgs rng1 fs)) :=
  PI.imp (pi_range1 hg hm ha hs) fun σ H R ⟨Z, H0, F, ρ, s, w, en, g⟩ => by
    refine ⟨Z, H0, F, ρ, s, w, en, g.bind (rel' := relL Z) fun ds s1 vs F1 H1 g1 w1 r1 q1 => ?_⟩
    obtain ⟨items, ei, q⟩ := q1.lift
    unfold rng1 at ei
    split at ei
    · rename_i j
      split at ei
      · rename_i hl
        cases ei
        cases r1 with
        | cons a b =>
          cases a; cases b
          exact ⟨j, rfl, (lim_of hl).1, (lim_of hl).2, q _ F1 H1 Grow.refl w1 ItD.rng⟩
      · cases ei
    · cases ei
theorem di_rng2 (hg : Gl X "range") (hm : X.mg "range" = none) (ha : PA X [e, e2] (tA' X.mg E fs)) (hs : starEach [e, e2] X.env = [(false, eval e X.env), (false, eval e2 X.env)] := by rfl) (hs2 : starEach [e2] X.env = [(false, eval e2 X.env)] := by rfl) :
    PI X tg (.Call (.Name "range" p) [e, e2] [] pos) (tI X.mg E (iArgs rng2 fs)) :=
  PI.imp (pi_range2 hg hm ha hs hs2) fun σ H R ⟨Z, H0, F, ρ, s, w, en, g⟩ => by
    refine ⟨Z, H0, F, ρ, s, w, en, g.bind (rel' := relL Z) fun ds s1 vs F1 H1 g1 w1 r1 q1 => ?_⟩
    obtain ⟨items, ei, q⟩ := q1.lift
    unfold rng2 at ei
    split at ei
    · rename_i i j
      split at ei
      · rename_i hl
        cases ei
        cases r1 with
        | cons a b =>
          cases a
          cases b with
          | cons a b =>
            cases a; cases b
            exact ⟨i, j, rfl, ⟨(lim_of hl.1).1, (lim_of hl.1).2, (lim_of hl.2).1, (lim_of hl.2).2⟩, q _ F1 H1 Grow.refl w1 ItD.rng⟩
      · cases ei
    · cases ei
end
end DL

set_option Elab.async false
set_option linter.all false
set_option maxRecDepth 100000
set_option maxHeartbeats 4000000
/-! D layer 7: range with a step, enumerate and zip over lists, tuples, texts. -/
namespace DL
open PySem PySem.Spec PyProof.Rows L2

def rng3 : List D → Option (List D)
  | [.int i, .int j, .int c] => if c ≠ 0 ∧ c.natAbs < 1073741824 ∧ Builtin.Range.small i j c = true ∧ 0 ≤ Builtin.Range.rangeSize i j c then some (rngL i c (Builtin.Range.rangeSize i j c).toNat) else none
  | _ => none
section
variable {X : Cx} {E : XK} {tg e e2 e3 : Expr} {pos p : Pos} {fs : Ev → M (List D)}
theorem di_rng3 (hg : Gl X "range") (hm : X.mg "range" = none) (ha : PA X [e, e2, e3] (tA' X.mg E fs))
    (hs : starEach [e, e2, e3] X.env = (false, eval e X.env) :: starEach [e2, e3] X.env := by rfl) (hpl : (backTo pos (starEach [e2, e3] X.env)).any (·.1) = false := by rfl) :
    PI X tg (.Call (.Name "range" p) [e, e2, e3] [] pos) (tI X.mg E (iArgs rng3 fs)) :=
  PI.imp (pi_range3 hg hm ha hs hpl) fun σ H R ⟨Z, H0, F, ρ, s, w, en, g⟩ => by
    refine ⟨Z, H0, F, ρ, s, w, en, g.bind (rel' := relL Z) fun ds s1 vs F1 H1 g1 w1 r1 q1 => ?_⟩
    obtain ⟨items, ei, q⟩ := q1.lift
    unfold rng3 at ei
    split at ei
    · rename_i i j c
      split at ei
      · rename_i hl
        cases ei
        cases r1 with
        | cons a b =>
          cases a
          cases b with
          | cons a b =>
            cases a
            cases b with
            | cons a b =>
              cases a; cases b
              exact ⟨i, j, c, _, rfl, ⟨hl.1, hl.2.1, hl.2.2.1, (Int.toNat_of_nonneg hl.2.2.2).symm⟩, q _ F1 H1 Grow.refl w1 ItD.rngC⟩
      · cases ei
    · cases ei
end

/-- what enumerate and zip draw from -/
inductive Sq where
  | l (a : Addr) (xs : List V) | t (a : Addr) (xs : List V) | s (z : Str) (tok : Tok)
def Sq.items : Sq → List V
  | .l _ xs => xs
  | .t _ xs => xs
  | .s z _ => z.cps.toList.map sgV
def Sq.at (F : Hp) : Sq → Prop
  | .l a xs => F a = some (.lst xs)
  | .t a xs => F a = some (.tup xs)
  | .s _ _ => True
def Sq.ad : Sq → Option Addr
  | .l a _ => some a
  | .t a _ => some a
  | .s _ _ => none
def Sq.it (it : Addr) (i : Nat) (h : Heap) : Sq → Prop
  | .l a _ => h.IsListIter it a i
  | .t a _ => h.IsTupleIter it a i
  | .s z tok => h.IsStrIter it (strIterType z) z tok i
theorem Sq.at_mono {q : Sq} {F H : Hp} (e : Same F H) (h : q.at F) : q.at H := by
  cases q with
  | l a xs => exact e _ _ h
  | t a xs => exact e _ _ h
  | s z t => trivial
theorem Sq.it_obj {q : Sq} {it : Addr} {i : Nat} {h : Heap} (x : q.it it i h) : ∃ o, h.get? it = some o ∧ ∀ v, o.data ≠ .cell v := by
  cases q with
  | l a xs => obtain ⟨o, e, _, d⟩ := x; exact ⟨o, e, fun v z => by rw [d] at z; cases z⟩
  | t a xs => obtain ⟨o, e, _, d⟩ := x; exact ⟨o, e, fun v z => by rw [d] at z; cases z⟩
  | s z t => obtain ⟨o, e, _, d⟩ := x; exact ⟨o, e, fun v z => by rw [d] at z; cases z⟩
theorem Sq.it_keep {q : Sq} {it : Addr} {i : Nat} {h h' : Heap} (x : q.it it i h) (k : ∀ o, h.get? it = some o → h'.get? it = some o) : q.it it i h' := by
  cases q with
  | l a xs => obtain ⟨o, e, r⟩ := x; exact ⟨o, k o e, r⟩
  | t a xs => obtain ⟨o, e, r⟩ := x; exact ⟨o, k o e, r⟩
  | s z t => obtain ⟨o, e, r⟩ := x; exact ⟨o, k o e, r⟩
theorem Sq.draws {q : Sq} {X : Cx} {pins : List (Addr × Obj)} {σ : L2.St} {H : Hp} {s : Shared} {it : Addr} {i : Nat} (I : Inv X pins σ H s) (hh : X.A.handled = none) (hq : q.at H) (ha : ∀ a, q.ad = some a → a ≠ it) (hit : q.it it i s.heap) :
    ∃ fp Pr Stt, Draws X.prog X.w X.A.in1 it fp q.items.length Pr Stt ∧ Stt i s.heap ∧ (∀ j v, Pr j v → ∃ x, q.items[j]? = some x ∧ RelV x v) ∧ (∀ j h, Stt j h → q.it it j h) ∧ it ∈ fp ∧ ∀ b ∈ fp, b = it ∨ q.ad = some b := by
  cases q with
  | l a xs =>
    obtain ⟨its, rv, p, hz⟩ := I.list (SqL.of hq)
    have D := Draws.list (prog := X.prog) (w := X.w) (A := X.A.in1) hh it a (ha a rfl) its.toArray
    refine ⟨_, _, _, (show its.toArray.size = (Sq.l a xs).items.length from rv.length.symm) ▸ D, ⟨hit, p.isList⟩, fun j v e => ?_, fun j h e => e.1, by simp, fun b hb => ?_⟩
    · have e' : its[j]? = some v := by simpa using e
      obtain ⟨x, h1, h2⟩ : ∃ x, xs[j]? = some x ∧ RelV x v := by
        have hj : j < its.length := by
          cases hlt : decide (j < its.length) with
          | true => exact of_decide_eq_true hlt
          | false => rw [List.getElem?_eq_none (Nat.le_of_not_lt (of_decide_eq_false hlt))] at e'; cases e'
        have hj' : j < xs.length := by rw [rv.length]; exact hj
        obtain ⟨u, hu, ru⟩ := rv.get (i := j) (x := xs[j]) (by simp [hj'])
        rw [e'] at hu
        cases hu
        exact ⟨xs[j], by simp [hj'], ru⟩
      exact ⟨x, h1, h2⟩
    · have : b = it ∨ b = a := by simpa using hb
      exact this.imp id fun z => by rw [z]; rfl
  | t a xs =>
    obtain ⟨its, rv, p, hz⟩ := I.tuple (SqT.of hq)
    have D := Draws.tuple (prog := X.prog) (w := X.w) (A := X.A.in1) hh it a (ha a rfl) its.toArray
    refine ⟨_, _, _, (show its.toArray.size = (Sq.t a xs).items.length from rv.length.symm) ▸ D, ⟨hit, show s.heap.IsTuple a its.toArray from p⟩, fun j v e => ?_, fun j h e => e.1, by simp, fun b hb => ?_⟩
    · have e' : its[j]? = some v := by simpa using e
      obtain ⟨x, h1, h2⟩ : ∃ x, xs[j]? = some x ∧ RelV x v := by
        have hj : j < its.length := by
          cases hlt : decide (j < its.length) with
          | true => exact of_decide_eq_true hlt
          | false => rw [List.getElem?_eq_none (Nat.le_of_not_lt (of_decide_eq_false hlt))] at e'; cases e'
        have hj' : j < xs.length := by rw [rv.length]; exact hj
        obtain ⟨u, hu, ru⟩ := rv.get (i := j) (x := xs[j]) (by simp [hj'])
        rw [e'] at hu
        cases hu
        exact ⟨xs[j], by simp [hj'], ru⟩
      exact ⟨x, h1, h2⟩
    · have : b = it ∨ b = a := by simpa using hb
      exact this.imp id fun z => by rw [z]; rfl
  | s z t =>
    have D := Draws.text (prog := X.prog) (w := X.w) (A := X.A.in1) hh it z t
    have hl : z.cps.size = (Sq.s z t).items.length := by show _ = (z.cps.toList.map sgV).length; rw [List.length_map, Array.length_toList]
    refine ⟨_, _, _, hl ▸ D, hit, fun j v e => ?_, fun j h e => e, by simp, fun b hb => .inl (by simpa using hb)⟩
    obtain ⟨c, u, hc, rfl⟩ := e
    refine ⟨sgV c, ?_, ⟨u, rfl⟩⟩
    show (z.cps.toList.map sgV)[j]? = _
    rw [List.getElem?_map, Array.getElem?_toList, hc]
    rfl
/-- how it begins -/
theorem Sq.begins {X : Cx} {pins : List (Addr × Obj)} {σ : L2.St} {H F : Hp} {s : Shared} {Z : Zt} {v : V} {d : D} {ds : List D} {u : Value} (I : Inv X pins σ H s) (sub : Same F H) (r : Rep Z F v d) (ei : itemsD d = some ds) (rv : RelV v u) :
    ∃ (q : Sq) (o : Obj) (HH : Heap → Prop), q.at F ∧ Reps Z F q.items ds ∧ Begins u o HH ∧ HH s.heap ∧ (∀ h it, h.get? it = some o → q.it it 0 h) ∧ ∀ a, q.ad = some a → a < s.heap.objs.size := by
  match d, r, ei with
  | .lst es, .lst (a := a) (xs := xs) ha r, ei =>
    cases ei
    cases rv
    obtain ⟨its, rv, p, hz⟩ := I.list (SqL.of (sub _ _ ha))
    exact ⟨.l a xs, _, _, ha, r, begins_list a its.toArray, p.isList, fun h it e => ⟨_, e, rfl, rfl⟩, fun b hb => by cases hb; exact p.lt⟩
  | .tup es, .tup (a := a) (xs := xs) ha r, ei =>
    cases ei
    cases rv
    obtain ⟨its, rv, p, hz⟩ := I.tuple (SqT.of (sub _ _ ha))
    exact ⟨.t a xs, _, _, ha, r, begins_tuple a its.toArray, show s.heap.IsTuple a its.toArray from p, fun h it e => ⟨_, e, rfl, rfl⟩, fun b hb => by cases hb; exact p.lt⟩
  | .str z, .str _, ei =>
    cases ei
    obtain ⟨t, rfl⟩ := rv
    exact ⟨.s z t, _, _, trivial, reps_sg _, begins_text z t, trivial, fun h it e => ⟨_, e, rfl, rfl⟩, fun b hb => by cases hb⟩

/-! ### enumerate -/
def IteD (q : Sq) : It := ⟨fun i H => q.at H ∧ i < q.items.length, fun i H v H' => ∃ T x, v = .ref T ∧ H T = none ∧ H' = upd H T (.tup [.int (i : Nat), x]) ∧ q.items[i]? = some x, fun i H => q.at H ∧ i = q.items.length⟩
theorem turn_enumD {P : Program} {w : World} {K : PySem.W.Frag} {elts : List Expr} {kk : Nat} {tpos : Pos} (q : Sq) (e it : Addr) (hne : e ≠ it) (hq : ∀ a, q.ad = some a → a ≠ e ∧ a ≠ it) :
    Turn P w K (.Tuple elts kk tpos) (IteD q) [e, it] e (fun i h => (∃ old, IsEnum h e it ((i : Nat) : Int) old) ∧ q.it it i h) where
  mem := by simp
  obj := fun i h st b hb => by
    obtain ⟨⟨old, he⟩, hi⟩ := st
    have e' : b = e ∨ b = it := by simpa using hb
    rcases e' with z | z
    · rw [z]; exact ⟨_, he, fun v q => nomatch q⟩
    · rw [z]; exact Sq.it_obj hi
  keep := fun i h h' st k => let ⟨⟨old, he⟩, hi⟩ := st; ⟨⟨old, k e (by simp) _ he⟩, Sq.it_keep hi fun o q => k it (by simp) o q⟩
  item := by
    intro X hP hw hK hc i pins s σ H E I hf st hg
    subst hP hw hK
    obtain ⟨⟨old, he⟩, hit⟩ := st
    obtain ⟨hqa, hlt⟩ := hg
    obtain ⟨fp, Pr, Stt, Dr, st0, hPr, hSt, _, hfp⟩ := Sq.draws I (I.ok.hd hc) hqa (fun a ha => (hq a ha).2) hit
    have hel : e < s.heap.objs.size := Heap.lt_size he
    have hil : it < s.heap.objs.size := by obtain ⟨o, q, _⟩ := Sq.it_obj hit; exact Heap.lt_size q
    have hef : e ∉ fp := fun hb => by
      rcases hfp e hb with z | z
      · exact hne z
      · exact (hq e z).1 rfl
    refine wpAny_pyNext_enum_itemC Dr he st0 hlt hne hef fun x h' tk hP ho hit' hT hsz hk => ?_
    obtain ⟨xv, hx, ru⟩ := hPr _ _ hP
    refine ⟨_, rfl, wpAny_letOwnedTupleGo_enum (s := { s with heap := h', toks := tk + 1 }) ho fun h'' he' sb => ?_⟩
    have hT2 : h''.get? s.heap.objs.size = some { cls := .type "tuple", data := .seq #[.int i tk, x] } := (sb.2 _ (Nat.ne_of_gt hel)).trans hT
    have new : ObjOk X.prog X.w (upd H s.heap.objs.size (.tup [.int (i : Nat), xv])) h'' s.heap.objs.size (.tup [.int (i : Nat), xv]) :=
      ⟨by show 2 ≤ sizeLine; decide, [.int i tk, x], .cons ⟨_, rfl⟩ (.cons ru .nil), ⟨_, hT2, rfl, _, rfl⟩⟩
    have I1 : Inv X pins σ (upd H s.heap.objs.size (.tup [.int (i : Nat), xv])) { s with heap := h'', toks := tk + 1 } :=
      I.turnedNew (ch := [e, it]) (fun b ob hb q => (sb.2 b (fun z => hb (by simp [z]))).trans (hk b ob (fun z => hb (by simp [z])) (fun z => hb (by simp [z])) q)) hf (Nat.le_refl _) new
    refine ⟨.ref s.heap.objs.size, _, I1, rfl, ⟨_, xv, rfl, I.hok.fresh (Nat.le_refl _), rfl, hx⟩, ⟨⟨x, ?_⟩, Sq.it_keep (hSt _ _ hit') fun o q => (sb.2 it (Ne.symm hne)).trans q⟩, fun b hb => ?_⟩
    · have e1 : ((i + 1 : Nat) : Int) = (i : Int) + 1 := by omega
      rw [e1]; exact he'
    · have hb' : b < s.heap.objs.size := by
        have e' : b = e ∨ b = it := by simpa using hb
        rcases e' with z | z
        · rw [z]; exact hel
        · rw [z]; exact hil
      rw [upd_ne (Nat.ne_of_lt hb')]
      exact (hf b hb).1
  done := by
    intro X hP hw hK hc i pins s σ H E I hf st hg
    subst hP hw hK
    obtain ⟨⟨old, he⟩, hit⟩ := st
    obtain ⟨hqa, hlt⟩ := hg
    obtain ⟨fp, Pr, Stt, Dr, st0, hPr, hSt, _, hfp⟩ := Sq.draws I (I.ok.hd hc) hqa (fun a ha => (hq a ha).2) hit
    obtain ⟨f0, f1, f2, f3, f4, f5⟩ := hf it (by simp)
    exact wpAny_pyNext_enum_endD Dr he (hlt ▸ st0) fun h' eb => ⟨rfl, I.turned (t' := s.toks) (fun b o hb q => eb b o hb q) f0 f1 f3 f4 f5⟩
  self := fun A i s Q E st h => let ⟨⟨_, he⟩, _⟩ := st; wpAny_pyIter_enum he h

set_option maxHeartbeats 1000000 in
theorem meets_enumerate_new1 {v : Value} {o : Obj} {H : Heap → Prop} (B : Begins v o H) :
    Meets (Builtin.«enumerate.__new__» ⟨[.type "enumerate", v], []⟩) (fun _ R s => H s.heap ∧
      R (.ok (.ret (.ref (s.heap.push o).objs.size))) { s with heap := (s.heap.push o).push { cls := .type "enumerate", data := .fields #[.none, .bool false, .ref s.heap.objs.size, rawInt 0, .none, .none] } }) :=
  .of_wp fun prog w A R s h => by
    obtain ⟨hp, g, d, tk, os⟩ := s; obtain ⟨h1, h⟩ := h
    have hsub := sub_enumerate
    have q1 : ∀ {A' : Around} {E : Value → Shared → Prop} {Q : Value → Shared → Prop}, Q (.ref hp.objs.size) ⟨hp.push o, g, d, tk, os⟩ → wpAny (model prog w) A' (pyIter v) Q E ⟨hp, g, d, tk, os⟩ :=
      fun q => B.iter prog w _ _ ⟨hp, g, d, tk, os⟩ _ h1 q
    wp_walk using q1
    refine wpAny_stack_any fun st => wpAny_pure ?_
    split
    · rename_i c _ _ _ _ _
      cases (c == Value.type "enumerate")
      · wp_walk using q1
        exact ⟨_, rfl, h⟩
      · wp_walk using q1
        exact ⟨_, rfl, h⟩
    · wp_walk using q1
      exact ⟨_, rfl, h⟩
theorem enum_begins1 {prog : Program} {w : World} {A : Around} {E : Value → Shared → Prop} {s : Shared} {v : Value} {o : Obj} {H : Heap → Prop} {Q : Value → Shared → Prop} (B : Begins v o H) (h1 : H s.heap)
    (h : ∀ h', IsEnum h' (s.heap.objs.size + 1) s.heap.objs.size 0 .none → h'.get? s.heap.objs.size = some o → h'.objs.size = s.heap.objs.size + 2 →
      (∀ b o, s.heap.get? b = some o → h'.get? b = some o) → Q (.ref (s.heap.objs.size + 1)) { s with heap := h' }) :
    wpAny (model prog w) A (call (.type "enumerate") [v]) Q E s := by
  refine callType_new F.called_enumerate (by decide) (F.typeCall_enumerate_1 _) (F.newCall_enumerate_1 _) (fun obj => F.args_object_init_2 obj _) F.entry_enumerate_new
    (meets_enumerate_new1 B) ⟨h1, ?_⟩
  have hz : (s.heap.push o).objs.size = s.heap.objs.size + 1 := Heap.size_push ..
  show _ ∧ _
  rw [hz]
  have he : IsEnum ((s.heap.push o).push { cls := .type "enumerate", data := .fields #[.none, .bool false, .ref s.heap.objs.size, rawInt 0, .none, .none] }) (s.heap.objs.size + 1) s.heap.objs.size 0 .none := by
    have := Heap.get?_push_size (s.heap.push o) (o := { cls := .type "enumerate", data := .fields #[.none, .bool false, .ref s.heap.objs.size, rawInt 0, .none, .none] }) rfl
    rw [hz] at this; exact this
  refine ⟨⟨_, he, rfl⟩, h _ he (Heap.get?_push_of_some _ (Heap.get?_push_size _ B.free)) (by rw [Heap.size_push, hz]) fun b o x => Heap.get?_push_of_some _ (Heap.get?_push_of_some _ x)⟩

def enumL : Nat → List D → List D
  | _, [] => []
  | i, d :: ds => .tup [.int (i : Nat), d] :: enumL (i + 1) ds
theorem enumL_length : ∀ (ds : List D) (i : Nat), (enumL i ds).length = ds.length
  | [], _ => rfl
  | _ :: ds, i => congrArg Nat.succ (enumL_length ds (i + 1))
theorem enumL_get : ∀ (ds : List D) (i j : Nat) (d : D), ds[j]? = some d → (enumL i ds)[j]? = some (.tup [.int ((i + j : Nat)), d])
  | [], _, _, _, h => by simp at h
  | _ :: ds, i, 0, d, h => by simp at h; subst h; rfl
  | _ :: ds, i, j + 1, d, h => by
    show (enumL (i + 1) ds)[j]? = _
    rw [enumL_get ds (i + 1) j d (by simpa using h)]
    rw [show i + 1 + j = i + (j + 1) by omega]
theorem ItD.enum {Z : Zt} {F : Hp} {q : Sq} {ds : List D} (hq : q.at F) (r : Reps Z F q.items ds) : ItD Z F (IteD q) (enumL 0 ds) where
  go := fun i H hi e => ⟨Sq.at_mono e hq, by rw [r.length]; rw [enumL_length] at hi; exact hi⟩
  stop := fun H e => ⟨Sq.at_mono e hq, by rw [enumL_length, r.length]⟩
  yld := fun i H x H' hi e y => by
    obtain ⟨T, xv, e1, h1, e2, hx⟩ := y
    obtain ⟨d, hd, rd⟩ := r.getV hx
    refine .inr ⟨T, _, _, e1, h1, e2, enumL_get ds 0 i d hd, ?_⟩
    rw [Nat.zero_add]
    exact .cons (.int _) (.cons rd .nil)
def iEnm (a : Ev → M D) : Ev → M (List D) := fun ρ => do
  let x ← a ρ
  let ds ← M.lift (itemsD x)
  pure (enumL 0 ds)
theorem thn2 {α : Type} {t : Sem α} {Q Q' : α → Shared → Prop} {M : Model} {A : Around} {E : Value → Shared → Prop} {s : Shared} (h : wpAny M A t Q E s) (hQ : ∀ a s, Q a s → Q' a s) : wpAny M A t Q' E s := wpAny_mono h hQ fun _ _ x => x
section
variable {X : Cx} {E : XK} {k : Nat} {e e2 : Expr} {pos p tpos : Pos} {fa fb : Ev → M D} {elts : List Expr} {kk : Nat}
theorem di_enum (hg : Gl X "enumerate") (hm : X.mg "enumerate" = none) (ha : PE X e (tD X.mg E fa)) (hs : starEach [e] X.env = [(false, eval e X.env)] := by rfl) :
    PI X (.Tuple elts kk tpos) (.Call (.Name "enumerate" p) [e] [] pos) (tI X.mg E (iEnm fa)) := by
  have ha' : PA X [e] (tA' X.mg E (aCons fa aNil)) := da_cons ha da_nil hs
  refine ⟨fun pins s σ H R I ⟨Z, H0, F, ρ, ds, w, en, g⟩ => ?_⟩
  refine Call_ (ld_blt I hg hm boot_enumerate (PyProof.Rows.callWith_type1 (thn2 (ha'.run pos pins s σ H (fun vs H1 => ∃ v F1 s1 d1, vs = [v] ∧ Grow Z F H F1 H1 ∧ Wd Z s1 F1 H1 ∧ Rep Z F1 v d1 ∧ Goal (fun F' J ds => ItD Z F' J ds) X.mg E Z F1 H1 R ((do
      let ds ← M.lift (itemsD d1)
      pure (enumL 0 ds) : M (List D)) s1)) I
    ⟨Z, H0, F, ρ, ds, w, en, ?_⟩) fun us s1 ⟨vs, H1, I1, rv, v, F1, s2, d1, ev, g1, w1, r1, q1⟩ => ?_) hs rfl))
  · have g' : Goal (fun F' J ds => ItD Z F' J ds) X.mg E Z F H R ((fa ρ >>= fun x => (do
      let ds ← M.lift (itemsD x)
      pure (enumL 0 ds) : M (List D))) ds) := g
    have e : (aCons fa aNil ρ : M (List D)) = fa ρ >>= fun x => pure [x] := rfl
    rw [e]
    have := g'.bind (rel' := relD Z) (P := fun v H1 => ∃ F1 s1 d1, Grow Z F H F1 H1 ∧ Wd Z s1 F1 H1 ∧ Rep Z F1 v d1 ∧ Goal (fun F' J ds => ItD Z F' J ds) X.mg E Z F1 H1 R ((do
      let ds ← M.lift (itemsD d1)
      pure (enumL 0 ds) : M (List D)) s1)) fun d1 s1 v F1 H1 g1 w1 r1 q1 => ⟨F1, s1, d1, g1, w1, r1, q1⟩
    show Goal (relL Z) X.mg E Z F H _ (M.bind (fa ρ) (fun x => pure [x]) ds)
    unfold M.bind
    match hm : fa ρ ds, this with
    | some (.ok d, s1), this =>
      intro vs F' H' a b c
      cases c with
      | cons c1 c2 =>
        cases c2
        obtain ⟨F1, s1', d1, x1, x2, x3, x4⟩ := this _ F' H' a b c1
        exact ⟨_, F1, s1', d1, rfl, x1, x2, x3, x4⟩
    | some (.error e, s1), this => exact this
  · subst ev
    cases rv with
    | cons rv rr =>
      cases rr
      obtain ⟨items, ei, q⟩ : ∃ items, itemsD d1 = some items ∧ ∀ v F' H', Grow Z F1 H1 F' H' → Wd Z s2 F' H' → ItD Z F' v (enumL 0 items) → R v H' := by
        cases h : itemsD d1 with
        | none => rw [h] at q1; exact (q1 : False).elim
        | some items => rw [h] at q1; exact ⟨items, rfl, q1⟩
      obtain ⟨qq, o, HH, hqa, hqr, hB, hHH, hit0, had⟩ := Sq.begins I1 w1.sub r1 ei rv
      refine enum_begins1 hB hHH fun h' he hob hsz hk => wpAny_pyIter_enum he ?_
      have I2 : Inv X pins σ H1 { s1 with heap := h' } := I1.kept (t' := s1.toks) hk
      refine ⟨s1.heap.objs.size + 1, [s1.heap.objs.size + 1, s1.heap.objs.size], _, _, H1, rfl, I2, turn_enumD qq (s1.heap.objs.size + 1) s1.heap.objs.size (Nat.succ_ne_self _) (fun a h => ⟨?_, ?_⟩), ⟨⟨.none, he⟩, hit0 _ _ hob⟩, fun b hb => ?_, q _ F1 H1 Grow.refl w1 (ItD.enum hqa hqr)⟩
      · exact Nat.ne_of_lt (Nat.lt_succ_of_lt (had a h))
      · exact Nat.ne_of_lt (had a h)
      · have e' : b = s1.heap.objs.size + 1 ∨ b = s1.heap.objs.size := by simpa using hb
        have hle : s1.heap.objs.size ≤ b := by
          rcases e' with z | z
          · rw [z]; exact Nat.le_add_right _ _
          · rw [z]; exact Nat.le_refl _
        exact I1.fpOk hle (I1.hok.fresh hle)
end

/-! ### zip -/
def ItzD (q1 q2 : Sq) : It := ⟨fun i H => q1.at H ∧ q2.at H ∧ i < min q1.items.length q2.items.length, fun i H v H' => ∃ T x y, v = .ref T ∧ H T = none ∧ H' = upd H T (.tup [x, y]) ∧ q1.items[i]? = some x ∧ q2.items[i]? = some y, fun i H => q1.at H ∧ q2.at H ∧ i = min q1.items.length q2.items.length⟩
structure ZApart (z TI TO i1 i2 : Addr) (q1 q2 : Sq) : Prop where
  nd : [z, TI, TO, i1, i2].Nodup
  a1 : ∀ a, q1.ad = some a → a ∉ [z, TI, TO, i1, i2]
  a2 : ∀ a, q2.ad = some a → a ∉ [z, TI, TO, i1, i2]
theorem ZApart.sep {z TI TO i1 i2 : Addr} {q1 q2 : Sq} (A : ZApart z TI TO i1 i2 q1 q2) {fp1 fp2 : List Addr} (m1 : i1 ∈ fp1) (m2 : i2 ∈ fp2) (h1 : ∀ b ∈ fp1, b = i1 ∨ q1.ad = some b) (h2 : ∀ b ∈ fp2, b = i2 ∨ q2.ad = some b) : ZipSep2 z TI TO i1 i2 fp1 fp2 := by
  have nd := A.nd
  simp only [List.nodup_cons, List.mem_cons, List.not_mem_nil, or_false, not_or, List.nodup_nil, and_true, not_false_eq_true] at nd
  obtain ⟨⟨n1, n2, n3, n4⟩, ⟨n5, n6, n7⟩, ⟨n8, n9⟩, n10⟩ := nd
  have f1 : ∀ b, b ≠ i1 → b ∈ [z, TI, TO, i1, i2] → b ∉ fp1 := fun b hb hm hf => (h1 b hf).elim hb fun z => A.a1 b z hm
  have f2 : ∀ b, b ≠ i2 → b ∈ [z, TI, TO, i1, i2] → b ∉ fp2 := fun b hb hm hf => (h2 b hf).elim hb fun z => A.a2 b z hm
  exact ⟨Ne.symm n1, Ne.symm n2, n5, n6, m1, f1 _ n3 (by simp), f1 _ n8 (by simp), n7, m2, f2 _ n4 (by simp), f2 _ n9 (by simp), f2 _ n10 (by simp), f1 _ (Ne.symm n10) (by simp)⟩
theorem turn_zipD {P : Program} {w : World} {K : PySem.W.Frag} {elts : List Expr} {kk : Nat} {tpos : Pos} {q1 q2 : Sq} {z TI TO i1 i2 : Addr} (D : ZApart z TI TO i1 i2 q1 q2) :
    Turn P w K (.Tuple elts kk tpos) (ItzD q1 q2) [z, TI, TO, i1, i2] z (fun i h => IsZip h z TI TO .none ∧ IsTupOf2 h TI (.ref i1) (.ref i2) ∧ (∃ x y, IsTupOf2 h TO x y) ∧ q1.it i1 i h ∧ q2.it i2 i h) where
  mem := by simp
  obj := fun i h st c hc => by
    obtain ⟨hz, hTI, ⟨x, y, hTO⟩, h1, h2⟩ := st
    have e' : c = z ∨ c = TI ∨ c = TO ∨ c = i1 ∨ c = i2 := by simpa using hc
    rcases e' with q | q | q | q | q
    · rw [q]; exact ⟨_, hz, fun v q => nomatch q⟩
    · rw [q]; exact ⟨_, hTI, fun v q => nomatch q⟩
    · rw [q]; exact ⟨_, hTO, fun v q => nomatch q⟩
    · rw [q]; exact Sq.it_obj h1
    · rw [q]; exact Sq.it_obj h2
  keep := fun i h h' st k => by
    obtain ⟨hz, hTI, ⟨x, y, hTO⟩, h1, h2⟩ := st
    exact ⟨k z (by simp) _ hz, k TI (by simp) _ hTI, ⟨x, y, k TO (by simp) _ hTO⟩, Sq.it_keep h1 fun o q => k i1 (by simp) o q, Sq.it_keep h2 fun o q => k i2 (by simp) o q⟩
  item := by
    intro X hP hw hK hc i pins s σ H E I hf st hg
    subst hP hw hK
    obtain ⟨hz, hTI, ⟨x0, y0, hTO⟩, h1, h2⟩ := st
    obtain ⟨ha1, ha2, hlt⟩ := hg
    obtain ⟨fp1, Pr1, St1, D1, s1, hPr1, hSt1, m1, hfp1⟩ := Sq.draws I (I.ok.hd hc) ha1 (fun a ha => fun e => D.a1 a ha (by simp [e])) h1
    obtain ⟨fp2, Pr2, St2, D2, s2, hPr2, hSt2, m2, hfp2⟩ := Sq.draws I (I.ok.hd hc) ha2 (fun a ha => fun e => D.a2 a ha (by simp [e])) h2
    have S := D.sep m1 m2 hfp1 hfp2
    have hzl : z < s.heap.objs.size := Heap.lt_size hz
    refine wpAny_pyNext_zipD2_item S D1 D2 hz hTI hTO s1 s2 (Nat.lt_of_lt_of_le hlt (Nat.min_le_left ..)) (Nat.lt_of_lt_of_le hlt (Nat.min_le_right ..)) fun x1 x2 h' tk p1 p2 z' TO' st1' st2' hT hsz hk => ?_
    obtain ⟨v1, hx1, r1⟩ := hPr1 _ _ p1
    obtain ⟨v2, hx2, r2⟩ := hPr2 _ _ p2
    refine ⟨_, rfl, wpAny_letOwnedTupleGo_zip (s := { s with heap := h', toks := tk }) z' fun h'' z'' sb => ?_⟩
    have hT2 : h''.get? s.heap.objs.size = some { cls := .type "tuple", data := .seq #[x1, x2] } := (sb.2 _ (Nat.ne_of_gt hzl)).trans hT
    have new : ObjOk X.prog X.w (upd H s.heap.objs.size (.tup [v1, v2])) h'' s.heap.objs.size (.tup [v1, v2]) :=
      ⟨by show 2 ≤ sizeLine; decide, [x1, x2], .cons r1 (.cons r2 .nil), ⟨_, hT2, rfl, _, rfl⟩⟩
    have I1 : Inv X pins σ (upd H s.heap.objs.size (.tup [v1, v2])) { s with heap := h'', toks := tk } :=
      I.turnedNew (t' := tk) (ch := [z, TI, TO, i1, i2]) (fun c o hb q => (sb.2 c (fun q' => hb (by simp [q']))).trans (hk c o (fun q' => hb (by simp [q'])) (fun q' => hb (by simp [q'])) (fun q' => hb (by simp [q'])) (fun q' => hb (by simp [q'])) q)) hf (Nat.le_refl _) new
    refine ⟨.ref s.heap.objs.size, _, I1, rfl, ⟨_, v1, v2, rfl, I.hok.fresh (Nat.le_refl _), rfl, hx1, hx2⟩, ⟨z'', ?_, ⟨x1, x2, ?_⟩, ?_, ?_⟩, fun c hcm => ?_⟩
    · exact (sb.2 _ S.TIz).trans (hk _ _ S.TIz S.TITO S.TIi1 S.TIi2 hTI)
    · exact (sb.2 _ S.TOz).trans TO'
    · exact Sq.it_keep (hSt1 _ _ st1') fun o q => (sb.2 _ (Ne.symm S.zi1)).trans q
    · exact Sq.it_keep (hSt2 _ _ st2') fun o q => (sb.2 _ (Ne.symm S.zi2)).trans q
    · have hlt : c < s.heap.objs.size := by
        have e' : c = z ∨ c = TI ∨ c = TO ∨ c = i1 ∨ c = i2 := by simpa using hcm
        rcases e' with q | q | q | q | q
        · rw [q]; exact hzl
        · rw [q]; exact Heap.lt_size hTI
        · rw [q]; exact Heap.lt_size hTO
        · rw [q]; obtain ⟨_, e1, _⟩ := Sq.it_obj h1; exact Heap.lt_size e1
        · rw [q]; obtain ⟨_, e2, _⟩ := Sq.it_obj h2; exact Heap.lt_size e2
      rw [upd_ne (Nat.ne_of_lt hlt)]
      exact (hf c hcm).1
  done := by
    intro X hP hw hK hc i pins s σ H E I hf st hg
    subst hP hw hK
    obtain ⟨hz, hTI, ⟨x0, y0, hTO⟩, h1, h2⟩ := st
    obtain ⟨ha1, ha2, hlt⟩ := hg
    obtain ⟨fp1, Pr1, St1, D1, s1, hPr1, hSt1, m1, hfp1⟩ := Sq.draws I (I.ok.hd hc) ha1 (fun a ha => fun e => D.a1 a ha (by simp [e])) h1
    obtain ⟨fp2, Pr2, St2, D2, s2, hPr2, hSt2, m2, hfp2⟩ := Sq.draws I (I.ok.hd hc) ha2 (fun a ha => fun e => D.a2 a ha (by simp [e])) h2
    have S := D.sep m1 m2 hfp1 hfp2
    exact wpAny_pyNext_zipD2_end S D1 D2 hz hTI hTO s1 s2 (by omega) (by omega) (by omega) fun h' tk hk => ⟨rfl, I.turnedL (t' := tk) (ch := [z, TI, TO, i1, i2]) (fun c o hb q =>
      hk c o (fun q' => hb (by simp [q'])) (fun q' => hb (by simp [q'])) (fun q' => hb (by simp [q'])) (fun q' => hb (by simp [q'])) q) hf⟩
  self := fun A i s Q E st h => wpAny_pyIter_zip st.1 h
def zipL : List D → List D → List D
  | a :: as, b :: bs => .tup [a, b] :: zipL as bs
  | _, _ => []
theorem zipL_length : ∀ (as bs : List D), (zipL as bs).length = min as.length bs.length
  | a :: as, b :: bs => by
    show (zipL as bs).length + 1 = min (as.length + 1) (bs.length + 1)
    rw [zipL_length as bs]
    omega
  | [], _ => by simp [zipL]
  | _ :: _, [] => by simp [zipL]
theorem zipL_get : ∀ (as bs : List D) (i : Nat) (a b : D), as[i]? = some a → bs[i]? = some b → (zipL as bs)[i]? = some (.tup [a, b])
  | a :: as, b :: bs, 0, x, y, h, h' => by simp at h h'; subst h h'; rfl
  | a :: as, b :: bs, i + 1, x, y, h, h' => by
    show (zipL as bs)[i]? = _
    exact zipL_get as bs i x y (by simpa using h) (by simpa using h')
  | [], _, _, _, _, h, _ => by simp at h
  | _ :: _, [], _, _, _, _, h => by simp at h
theorem ItD.zip {Z : Zt} {F : Hp} {q1 q2 : Sq} {ds es : List D} (h1 : q1.at F) (h2 : q2.at F) (r1 : Reps Z F q1.items ds) (r2 : Reps Z F q2.items es) : ItD Z F (ItzD q1 q2) (zipL ds es) where
  go := fun i H hi e => ⟨Sq.at_mono e h1, Sq.at_mono e h2, by rw [r1.length, r2.length]; rw [zipL_length] at hi; exact hi⟩
  stop := fun H e => ⟨Sq.at_mono e h1, Sq.at_mono e h2, by rw [zipL_length, r1.length, r2.length]⟩
  yld := fun i H x H' hi e y => by
    obtain ⟨T, v1, v2, e1, hn, e2, hx, hy⟩ := y
    obtain ⟨d, hd, rd⟩ := r1.getV hx
    obtain ⟨d', hd', rd'⟩ := r2.getV hy
    exact .inr ⟨T, _, _, e1, hn, e2, zipL_get ds es i d d' hd hd', .cons rd (.cons rd' .nil)⟩
def zipA : List D → Option (List D)
  | [a, b] => match itemsD a, itemsD b with
    | some x, some y => some (zipL x y)
    | _, _ => none
  | _ => none
section
variable {X : Cx} {E : XK} {k : Nat} {e e2 : Expr} {pos p tpos : Pos} {fs : Ev → M (List D)} {elts : List Expr} {kk : Nat}
theorem di_zip (hg : Gl X "zip") (hm : X.mg "zip" = none) (ha : PA X [e, e2] (tA' X.mg E fs))
    (hs : starEach [e, e2] X.env = (false, eval e X.env) :: starEach [e2] X.env := by rfl) (hpl : (backTo pos (starEach [e2] X.env)).any (·.1) = false := by rfl) :
    PI X (.Tuple elts kk tpos) (.Call (.Name "zip" p) [e, e2] [] pos) (tI X.mg E (iArgs zipA fs)) := by
  refine ⟨fun pins s σ H R I ⟨Z, H0, F, ρ, ds, w, en, g⟩ => ?_⟩
  refine Call_ (ld_blt I hg hm PyProof.Rows.boot_zip (PyProof.Rows.callWith_type1 (thn2 (ha.run pos pins s σ H (fun vs H1 => ∃ F1 s1 es, Grow Z F H F1 H1 ∧ Wd Z s1 F1 H1 ∧ Reps Z F1 vs es ∧ Goal (fun F' J ds => ItD Z F' J ds) X.mg E Z F1 H1 R ((M.lift (zipA es) : M (List D)) s1)) I
    ⟨Z, H0, F, ρ, ds, w, en, g.bind (rel' := relL Z) fun d1 s1 v F1 H1 g1 w1 r1 q1 => ⟨F1, s1, d1, g1, w1, r1, q1⟩⟩) fun us s1 ⟨vs, H1, I1, rv, F1, s2, es, g1, w1, r1, q1⟩ => ?_) hs hpl))
  obtain ⟨items, ei, q⟩ := q1.lift
  match es, r1, ei with
  | [a, b], .cons ra (.cons rb .nil), ei =>
    cases rv with
    | cons rv1 rr =>
      cases rr with
      | cons rv2 rr =>
        cases rr
        have ei' : (match itemsD a, itemsD b with | some x, some y => some (zipL x y) | _, _ => none) = some items := ei
        cases h1 : itemsD a with
        | none => rw [h1] at ei'; cases ei'
        | some xs =>
          cases h2 : itemsD b with
          | none => rw [h1, h2] at ei'; cases ei'
          | some ys =>
            rw [h1, h2] at ei'
            cases ei'
            obtain ⟨qa, oa, HA, qa1, qa2, BA, HHA, ita, ada⟩ := Sq.begins I1 w1.sub ra h1 rv1
            obtain ⟨qb, ob, HB, qb1, qb2, BB, HHB, itb, adb⟩ := Sq.begins I1 w1.sub rb h2 rv2
            refine zip_begins2 BA BB HHA HHB fun h' hz hTI hTO h1 h2 hsz hk => wpAny_pyIter_zip hz ?_
            have I2 : Inv X pins σ H1 { s1 with heap := h' } := I1.kept (t' := s1.toks) hk
            have big : ∀ {a : Addr}, a < s1.heap.objs.size → a ∉ [s1.heap.objs.size + 4, s1.heap.objs.size + 2, s1.heap.objs.size + 3, s1.heap.objs.size, s1.heap.objs.size + 1] := fun {a} h => by
              simp only [List.mem_cons, List.not_mem_nil, or_false, not_or]
              exact ⟨Nat.ne_of_lt (Nat.lt_add_right _ h), Nat.ne_of_lt (Nat.lt_add_right _ h), Nat.ne_of_lt (Nat.lt_add_right _ h), Nat.ne_of_lt h, Nat.ne_of_lt (Nat.lt_add_right _ h)⟩
            refine ⟨s1.heap.objs.size + 4, [s1.heap.objs.size + 4, s1.heap.objs.size + 2, s1.heap.objs.size + 3, s1.heap.objs.size, s1.heap.objs.size + 1], _, _, H1, rfl, I2,
              turn_zipD ⟨?_, fun a h => big (ada a h), fun a h => big (adb a h)⟩, ⟨hz, hTI, ⟨_, _, hTO⟩, ita _ _ h1, itb _ _ h2⟩, fun c hcm => ?_, q _ F1 H1 Grow.refl w1 (ItD.zip qa1 qb1 qa2 qb2)⟩
            · simp only [List.nodup_cons, List.mem_cons, List.not_mem_nil, or_false, not_or, List.nodup_nil, and_true, not_false_eq_true]
              generalize s1.heap.objs.size = n
              have ne : ∀ i j : Nat, i ≠ j → n + i ≠ n + j := fun i j h e => h (Nat.add_left_cancel e)
              exact ⟨⟨ne _ _ (by decide), ne _ _ (by decide), ne 4 0 (by decide), ne _ _ (by decide)⟩, ⟨ne _ _ (by decide), ne 2 0 (by decide), ne _ _ (by decide)⟩, ⟨ne 3 0 (by decide), ne _ _ (by decide)⟩, ne 0 1 (by decide)⟩
            · have e' : c = s1.heap.objs.size + 4 ∨ c = s1.heap.objs.size + 2 ∨ c = s1.heap.objs.size + 3 ∨ c = s1.heap.objs.size ∨ c = s1.heap.objs.size + 1 := by simpa using hcm
              have hle : s1.heap.objs.size ≤ c := by
                rcases e' with z | z | z | z | z
                · rw [z]; exact Nat.le_add_right _ _
                · rw [z]; exact Nat.le_add_right _ _
                · rw [z]; exact Nat.le_add_right _ _
                · rw [z]; exact Nat.le_refl _
                · rw [z]; exact Nat.le_add_right _ _
              exact I1.fpOk hle (I1.hok.fresh hle)
  | [], _, ei => cases ei
  | [_], _, ei => cases ei
  | _ :: _ :: _ :: _, _, ei => cases ei
end
end DL

set_option Elab.async false
set_option linter.all false
set_option maxRecDepth 100000
set_option maxHeartbeats 4000000
/-! D layer 8: comprehensions. -/
namespace DL
open PySem PySem.Spec PyProof.Rows L2

def wipeN (ρ : Ev) : List Nat → Ev
  | [] => ρ
  | v :: vs => (wipeN ρ vs).set v none
def noOwn : Option B → Option B
  | some (.own _) => none
  | some (.dct _) => none
  | x => x
theorem noOwn_get {ρ : Ev} {i : Nat} {b : B} (h : (ρ.map noOwn)[i]? = some (some b)) : ρ[i]? = some (some b) ∧ (∀ ds, b ≠ .own ds) ∧ ∀ kd, b ≠ .dct kd := by
  rw [List.getElem?_map] at h
  cases hi : ρ[i]? with
  | none => rw [hi] at h; cases h
  | some o =>
    rw [hi] at h
    match o, h with
    | none, h => cases h
    | some (.own _), h => cases h
    | some (.dct _), h => cases h
    | some (.val d), h =>
      have h2 : B.val d = b := Option.some.inj (Option.some.inj h)
      subst h2
      exact ⟨rfl, fun _ => nofun, fun _ => nofun⟩
    | some (.dcf d), h =>
      have h2 : B.dcf d = b := Option.some.inj (Option.some.inj h)
      subst h2
      exact ⟨rfl, fun _ => nofun, fun _ => nofun⟩
/-- within a comprehension: its own names forgotten, and the lists under way -/
def wipeE (ρ : Ev) (vs : List Nat) : Ev := (wipeN ρ vs).map noOwn
theorem EnvR.wipeN {Z : Zt} {H0 F H : Hp} {σ : L2.St} {ρ : Ev} (e : EnvR Z H0 F H σ ρ) : ∀ vs : List Nat, EnvR Z H0 F H (L2.wipe σ vs) (wipeN ρ vs)
  | [] => e
  | _ :: vs => (EnvR.wipeN e vs).setN
/-- no list of one's own -/
def Hall : Hp := fun _ => some (.lst [])
theorem EnvR.bare {Z : Zt} {H0 F H : Hp} {σ : L2.St} {ρ : Ev} (e : EnvR Z H0 F H σ ρ) : EnvR Z Hall F H σ (ρ.map noOwn) :=
  ⟨⟨by rw [List.length_map]; exact e.len, fun i d h => e.val i d (noOwn_get h).1, fun i ds h => absurd rfl ((noOwn_get h).2.1 ds), fun i j ds es h _ _ => absurd rfl ((noOwn_get h).2.1 ds)⟩,
    ⟨fun i ds h => absurd rfl ((noOwn_get h).2.2 ds), fun i d h => e.dcf i d (noOwn_get h).1, fun i j ds es h _ _ => absurd rfl ((noOwn_get h).2.2 ds)⟩⟩
theorem EnvR.wipe {Z : Zt} {H0 F H : Hp} {σ : L2.St} {ρ : Ev} (e : EnvR Z H0 F H σ ρ) (vs : List Nat) : EnvR Z Hall F H (L2.wipe σ vs) (wipeE ρ vs) := (e.wipeN vs).bare
theorem EnvR.frz {Z : Zt} {F H F' H' : Hp} {σ : L2.St} {ρ : Ev} (e : EnvR Z Hall F H σ ρ) (sm : Same F F') : EnvR Z Hall F' H' σ ρ := by
  have no : ∀ (i : Nat) ds, ρ[i]? ≠ some (some (B.own ds)) := fun i ds h => by
    obtain ⟨_, _, _, h0, _⟩ := e.own i ds h
    cases h0
  have no2 : ∀ (i : Nat) ds, ρ[i]? ≠ some (some (B.dct ds)) := fun i ds h => by
    obtain ⟨_, _, _, h0, _⟩ := e.dct i ds h
    cases h0
  exact ⟨⟨e.len, fun i d h => let ⟨v, h1, h2⟩ := e.val i d h; ⟨v, h1, h2.mono sm⟩, fun i ds h => absurd h (no i ds), fun i j ds es h _ _ => absurd h (no i ds)⟩,
    ⟨fun i ds h => absurd h (no2 i ds), fun i d h => let ⟨p, kvs, o, h1, h2, h3⟩ := e.dcf i d h; ⟨p, kvs, o, h1, sm _ _ h2, h3.mono sm⟩, fun i j ds es h _ _ => absurd h (no2 i ds)⟩⟩
theorem wipe_get (σ : L2.St) {j : Nat} : ∀ {vs : List Nat}, (L2.wipe σ vs)[j]? = if j ∈ vs then (if j < σ.length then some none else none) else σ[j]?
  | [] => by simp [L2.wipe]
  | v :: vs => by
    show ((L2.wipe σ vs).set v none)[j]? = _
    rw [List.getElem?_set, wipe_length, wipe_get (vs := vs)]
    by_cases h : v = j
    · subst h; simp
    · have h' : ¬ j = v := fun e => h e.symm
      simp [h, h']
theorem wipe_off {σ σ2 : L2.St} {vs ix : List Nat} (o : Off ix (L2.wipe σ vs) σ2) (h : ∀ i ∈ ix, i ∈ vs) : L2.wipe σ2 vs = L2.wipe σ vs := by
  apply List.ext_getElem?
  intro j
  rw [wipe_get, wipe_get]
  have hl : σ2.length = σ.length := o.1.trans (wipe_length σ vs)
  by_cases hj : j ∈ vs
  · rw [if_pos hj, if_pos hj, hl]
  · rw [if_neg hj, if_neg hj, o.2 j fun hi => hj (h j hi), wipe_get, if_neg hj]
theorem all_mem {ix vs : List Nat} (h : (ix.all fun i => vs.contains i) = true) : ∀ i ∈ ix, i ∈ vs := fun i hi => by
  have := List.all_eq_true.mp h i hi
  simpa using this
abbrev E0 : XK := fun _ _ _ => False
theorem Good.blk {X : Cx} {E : XK} {k : Nat} (G : Good X E k) (s : Shared) (H : Hp) (scope : Scope) (cenv : Env) (fp : List Addr) : Good (X.blk s H scope cenv fp) E0 k where
  calm := G.calm
  room := G.room
  nd := G.nd
  tk := fun u s' ⟨_, _, _, _, _, _, _, _, _, _, _, _, _, _, _, _, w⟩ => w
  own := PassesOwn.never
section
variable {α β : Type} {rel : Hp → β → α → Prop} {mg : Str → Option Value} {E : XK} {Z : Zt} {F H : Hp} {Q : β → Hp → Prop} {s : DS}
theorem Goal.noErr {γ δ : Type} {rel' : Hp → δ → γ → Prop} {m : M γ} {f : γ → M α} {P : δ → Hp → Prop} {Fb Hb : Hp} (h : Goal rel mg E Z Fb Hb Q ((M.noErr m >>= f) s))
    (k : ∀ d1 s1 v F1 H1, Grow Z F H F1 H1 → Wd Z s1 F1 H1 → rel' F1 v d1 → Goal rel mg E Z Fb Hb Q (f d1 s1) → P v H1) : Goal rel' mg E0 Z F H P (m s) := by
  have h' : Goal rel mg E Z Fb Hb Q (M.bind (M.noErr m) f s) := h
  unfold M.bind M.noErr at h'
  cases hm : m s with
  | none => rw [hm] at h'; exact h'.elim
  | some r =>
    obtain ⟨r, s1⟩ := r
    rw [hm] at h'
    cases r with
    | error e => exact h'.elim
    | ok d => exact fun v F' H' a b c => k d s1 v F' H' a b c h'
end

/-! ### one clause -/
def lcL (g : Tgt) (t : Ev → M Bool) (e : Ev → M D) (ρ : Ev) : List D → List D → M (List D)
  | [], acc => pure acc
  | d :: ds, acc => match g d ρ with
    | none => M.fail
    | some ρ' => do
      let c ← M.noErr (t ρ')
      if c = true then do
        let x ← M.noErr (e ρ')
        if acc.length < big then lcL g t e ρ ds (acc ++ [x]) else M.fail
      else lcL g t e ρ ds acc
def dLc (vs : List Nat) (src : Ev → M (List D)) (g : Tgt) (t : Ev → M Bool) (e : Ev → M D) : Ev → M D := fun ρ => do
  let ds ← src ρ
  let xs ← lcL g t e (wipeE ρ vs) ds []
  pure (.lst xs)
/-- the list under way -/
structure Way (Z : Zt) (F1 H1 : Hp) (A : Addr) (F H : Hp) (s : DS) (acc : List D) : Prop where
  g : Grow Z F1 H1 F H
  w : Wd Z s F H
  l : ∃ xs, H A = some (.lst xs) ∧ Reps Z F xs acc
section
variable {Z : Zt} {F1 H1 F H F' H' : Hp} {A : Addr} {s s' : DS} {acc : List D}
theorem Wd.notZ (w : Wd Z s F H) (h : H A = none) : ¬ Zm Z A := fun ⟨a, b, e, o⟩ => by
  have st := w.st
  rw [e] at st
  obtain ⟨_, _, _, c, h1, h2, _⟩ := st
  rcases o with rfl | rfl
  · rw [h] at h1; cases h1
  · rw [h] at h2; cases h2
theorem Way.start (w : Wd Z s F H) (h : H A = none) : Way Z F H A F (upd H A (.lst [])) s [] := ⟨Grow.newO h, w.newO h, [], upd_same, .nil⟩
theorem Way.go (a : Way Z F1 H1 A F H s acc) (hA : H1 A = none) (hz : ¬ Zm Z A) (g : Grow Z F H F' H') (w : Wd Z s' F' H') : Way Z F1 H1 A F' H' s' acc := by
  obtain ⟨xs, h, r⟩ := a.l
  exact ⟨a.g.trans g, w, xs, g.h _ _ h hz, r.mono g.f⟩
theorem Way.f (a : Way Z F1 H1 A F H s acc) (hA : H1 A = none) (w1 : Wd Z s' F1 H1) : True := trivial
theorem Way.put {v : V} {d : D} {xs : List V} (a : Way Z F1 H1 A F H s acc) (hA : H1 A = none) (hz : ¬ Zm Z A) (hf : F A = none) (h : H A = some (.lst xs)) (r : Rep Z F v d) : Way Z F1 H1 A F (upd H A (.lst (xs ++ [v]))) s (acc ++ [d]) := by
  obtain ⟨xs', h', rs⟩ := a.l
  rw [h] at h'
  cases h'
  refine ⟨⟨a.g.f, fun b u e n => ?_, a.g.k, fun b e => ?_⟩, ⟨fun b u e => ?_, a.w.st.keep (Same.refl F) (fun b u zm e => ?_) fun _ _ => rfl⟩, _, upd_same, rs.append (.cons r .nil)⟩
  · rw [upd_ne (ne_of_none e hA)]; exact a.g.h b u e n
  · have : b ≠ A := fun q => e (by rw [q]; exact hA)
    rw [upd_ne this]; exact a.g.a b e
  · rw [upd_ne (ne_of_none e hf)]; exact a.w.sub b u e
  · have : b ≠ A := fun q => hz (q ▸ zm)
    rw [upd_ne this]; exact e
/-- done: frozen -/
theorem Way.fin (a : Way Z F1 H1 A F H s acc) (hA : H1 A = none) (hz : ¬ Zm Z A) (hf : F A = none) : ∃ F', Grow Z F1 H1 F' H ∧ Wd Z s F' H ∧ Rep Z F' (.ref A) (.lst acc) := by
  obtain ⟨xs, h, rs⟩ := a.l
  have sm : Same F (upd F A (.lst xs)) := fun b u q => by rw [upd_ne (ne_of_none q hf)]; exact q
  refine ⟨upd F A (.lst xs), ⟨a.g.f.trans sm, a.g.h, fun b e => ?_, a.g.a⟩, ⟨fun b u e => ?_, ?_⟩, .lst upd_same (rs.mono sm)⟩
  · have : b ≠ A := fun q => e (by rw [q]; exact hA)
    rw [upd_ne this]; exact a.g.k b e
  · by_cases hb : b = A
    · subst hb; rw [upd_same] at e; cases e; exact h
    · rw [upd_ne hb] at e; exact a.w.sub b u e
  · have st := a.w.st
    unfold StAt at st ⊢
    split at st
    · trivial
    · rename_i p l
      obtain ⟨n, f1, f2, c, h1, h2, h3⟩ := st
      have n1 : p ≠ A := fun q => hz ⟨p, l, rfl, .inl q.symm⟩
      have n2 : l ≠ A := fun q => hz ⟨p, l, rfl, .inr q.symm⟩
      exact ⟨n, by rw [upd_ne n1]; exact f1, by rw [upd_ne n2]; exact f2, c, h1, h2, sm _ _ h3⟩
theorem Way.free (a : Way Z F1 H1 A F H s acc) (f1 : F A = none) (g : Grow Z F H F' H') : F' A = none := by
  obtain ⟨xs, h, _⟩ := a.l
  rw [g.k A (by rw [h]; exact fun q => nomatch q)]
  exact f1
end

def fin (xs : M (List D)) : M D := xs >>= fun l => pure (.lst l)
/-- what stands at turn i of the loop of a comprehension -/
def PvL (rel : Hp → V → D → Prop) (mg : Str → Option Value) (E : XK) (Z : Zt) (Fi F1 H1 : Hp) (A : Addr) (Q : VK) (m : List D → M (List D)) (H : Hp) : Prop :=
  ∃ F s acc, Way Z F1 H1 A F H s acc ∧ F A = none ∧ Same Fi F ∧ Goal rel mg E Z F1 H1 Q (fin (m acc) s)
theorem fin_bind {γ : Type} (x : M γ) (f : γ → M (List D)) : fin (x >>= f) = x >>= fun a => fin (f a) := M.bind_assoc _ _ _
section
variable {X : Cx} {E : XK} {k : Nat} {elt tg iter : Expr} {ifs : List Expr} {scope : Scope} {own : List (Str × Nat)} {pos : Pos} {src : Ev → M (List D)} {g : Tgt} {ix : List Nat} {t : Ev → M Bool} {e : Ev → M D}
/-- the contexts of a comprehension -/
abbrev Cx.bk (X : Cx) (scope : Scope) (s : Shared) (H : Hp) (C : Addr) (cl : List (Str × Addr)) (fp : List Addr) : Cx := X.blk s H scope (compEnvC scope cl C X.env) fp

/-- the turns of one clause -/
theorem turn_lc {Z : Zt} {F1 H1 : Hp} {σ : L2.St} {ρ : Ev} {A : Addr} {ix : List Nat} {vs : List Nat}
    (hA : H1 A = none) (hz : ¬ Zm Z A) (hix : ∀ i ∈ ix, i ∈ vs)
    {x : V} {d : D} {H H' F Fi : Hp} {s : DS} {acc : List D} (wy : Way Z F1 H1 A F H s acc) (hf : F A = none) (en : EnvR Z Hall F H (L2.wipe σ vs) (wipeE ρ vs)) (hFi : Same Fi F)
    (y : (H' = H ∧ Rep Z Fi x d) ∨ (∃ T vs es, x = .ref T ∧ H T = none ∧ H' = upd H T (.tup vs) ∧ d = .tup es ∧ Reps Z Fi vs es)) {g : Tgt} {ρ' : Ev} (hg : g d (wipeE ρ vs) = some ρ')
    {Q2 : L2.St → Hp → Prop} (hq : ∀ σ2 F2 H2, Grow Z F H F2 H2 → Way Z F1 H1 A F2 H2 s acc → F2 A = none → EnvR Z Hall F2 H2 σ2 ρ' → L2.wipe σ2 vs = L2.wipe σ vs → Q2 σ2 H2) :
    tG ix g x (L2.wipe σ vs) H' Q2 := by
  rcases y with ⟨rfl, r⟩ | ⟨T, us, es, rfl, hT, rfl, rfl, rs⟩
  · exact ⟨Z, Hall, F, _, s, d, ρ', wy.w, en, r.mono hFi, hg, fun σ2 en2 o => hq σ2 F H' Grow.refl wy hf en2 (wipe_off o hix)⟩
  · have g2 : Grow Z F H (upd F T (.tup us)) (upd H T (.tup us)) := Grow.new hT wy.w.sub
    have wy2 := wy.go hA hz g2 (wy.w.new hT)
    refine ⟨Z, Hall, upd F T (.tup us), _, s, .tup es, ρ', wy2.w, en.grow g2, .tup upd_same (rs.mono (hFi.trans g2.f)), hg, fun σ2 en2 o => hq σ2 _ _ g2 wy2 (wy.free hf g2) en2 (wipe_off o hix)⟩
/-- a loop that makes no difference to the slots -/
theorem it_gen {J : It} {n : Nat} {G : Hp → Prop} {Y : Nat → Hp → V → Hp → Prop} (w : Walk J n G Y) {Body : V → Hp → (Hp → Prop) → Prop} {Hs : Hp} {Qd : Hp → Prop} (Pv : Nat → Hp → Prop) (h0 : Pv 0 Hs) (hG : ∀ i H, i ≤ n → Pv i H → G H)
    (hs : ∀ i x H H', i < n → Pv i H → Y i H x H' → Body x H' (Pv (i + 1))) (hd : ∀ H, Pv n H → Qd H) :
    ∃ W : Nat → Nat → Hp → Prop, (∃ m, W 0 m Hs) ∧ ∀ i m H, W i m H → (J.stop i H ∧ Qd H) ∨ (J.go i H ∧ ∃ Nx : Hp → Prop, (∀ H', Nx H' → ∃ m', m' < m ∧ W (i + 1) m' H') ∧ ∀ x H', J.yld i H x H' → Body x H' Nx) := by
  refine ⟨fun i m H => m = n - i ∧ i ≤ n ∧ Pv i H, ⟨n, by simp, Nat.zero_le _, h0⟩, ?_⟩
  rintro i m H ⟨rfl, hi, p⟩
  have q := hG i H hi p
  by_cases hlt : i < n
  · exact .inr ⟨w.goes i H hlt q, Pv (i + 1), fun H' p' => ⟨n - (i + 1), by omega, rfl, hlt, p'⟩, fun x H' y => hs i x H H' hlt p (w.yields i H x H' hlt q y)⟩
  · have e : i = n := by omega
    subst e
    exact .inl ⟨w.stops H q, hd H p⟩
abbrev Yd (Z : Zt) (Fi : Hp) (ds : List D) (i : Nat) (H : Hp) (x : V) (H' : Hp) : Prop := (H' = H ∧ ∃ d, ds[i]? = some d ∧ Rep Z Fi x d) ∨ (∃ T vs es, x = .ref T ∧ H T = none ∧ H' = upd H T (.tup vs) ∧ ds[i]? = some (.tup es) ∧ Reps Z Fi vs es)
theorem ItD.walk {Z : Zt} {F : Hp} {J : It} {ds : List D} (r : ItD Z F J ds) : Walk J ds.length (fun H => Same F H) (Yd Z F ds) := ⟨r.go, fun H h => r.stop H h, r.yld⟩
theorem Yd.split {Z : Zt} {Fi : Hp} {ds : List D} {i : Nat} {H : Hp} {x : V} {H' : Hp} (y : Yd Z Fi ds i H x H') : ∃ d, ds.drop i = d :: ds.drop (i + 1) ∧ ((H' = H ∧ Rep Z Fi x d) ∨ (∃ T vs es, x = .ref T ∧ H T = none ∧ H' = upd H T (.tup vs) ∧ d = .tup es ∧ Reps Z Fi vs es)) := by
  have key : ∀ d, ds[i]? = some d → ds.drop i = d :: ds.drop (i + 1) := fun d hd => by
    have hlt : i < ds.length := by
      cases hlt : decide (i < ds.length) with
      | true => exact of_decide_eq_true hlt
      | false => rw [List.getElem?_eq_none (Nat.le_of_not_lt (of_decide_eq_false hlt))] at hd; cases hd
    rw [List.drop_eq_getElem_cons hlt]
    rw [List.getElem?_eq_getElem hlt] at hd
    rw [Option.some.inj hd]
  rcases y with ⟨a, d, b, c⟩ | ⟨T, vs, es, a, b, c, d, r⟩
  · exact ⟨d, key d b, .inl ⟨a, c⟩⟩
  · exact ⟨_, key _ d, .inr ⟨T, vs, es, a, b, c, rfl, r⟩⟩
theorem PTs.imp {X : Cx} {e : List Expr} {t t' : TT} (h : PTs X e t) (k : ∀ σ H Q, t' σ H Q → t σ H Q) : PTs X e t' := ⟨fun pins s σ H Q I q => h.run pins s σ H Q I (k σ H Q q)⟩
theorem dts_nil : PTs X [] (tB' X.mg E bYes) := PTs.imp pts_nil fun σ H Q ⟨Z, H0, F, ρ, s, w, en, g⟩ => Goal.pureE g w rfl
theorem dts_one {c : Expr} (h : PT X c (tB' X.mg E t)) : PTs X [c] (tB' X.mg E t) := pts_one h

/-- one turn of the last clause, r what comes behind -/
theorem lc_turn {rel : Hp → V → D → Prop} {mg : Str → Option Value} {E : XK} {Z : Zt} {Fi F1 H1 : Hp} {A : Addr} {Q : VK} {σ : L2.St} {ρ : Ev} {vs ix : List Nat} {g : Tgt} {t : Ev → M Bool} {e : Ev → M D} {ds : List D} {r : List D → M (List D)}
    (hA : H1 A = none) (hz : ¬ Zm Z A) (hix : ∀ i ∈ ix, i ∈ vs) {Hi : Hp} (en : EnvR Z Hall Fi Hi (L2.wipe σ vs) (wipeE ρ vs)) {i : Nat} {x : V} {H H' : Hp}
    (pv : PvL rel mg E Z Fi F1 H1 A Q (fun acc => lcL g t e (wipeE ρ vs) (ds.drop i) acc >>= r) H) (y : Yd Z Fi ds i H x H') :
    tG ix g x (L2.wipe σ vs) H' fun σ2 H2 => L2.wipe σ2 vs = L2.wipe σ vs ∧ tB' mg E0 t σ2 H2 fun b H3 =>
      if b = true then tD mg E0 e σ2 H3 fun y H4 => ∃ acc, H4 A = some (.lst acc) ∧ acc.length < sizeLine ∧ PvL rel mg E Z Fi F1 H1 A Q (fun acc => lcL g t e (wipeE ρ vs) (ds.drop (i + 1)) acc >>= r) (upd H4 A (.lst (acc ++ [y])))
      else PvL rel mg E Z Fi F1 H1 A Q (fun acc => lcL g t e (wipeE ρ vs) (ds.drop (i + 1)) acc >>= r) H3 := by
  obtain ⟨F, s, acc, wy, hf, hFi, gl⟩ := pv
  obtain ⟨d, hdr, y⟩ := Yd.split y
  simp only [hdr] at gl
  cases hg : g d (wipeE ρ vs) with
  | none =>
    unfold lcL at gl
    simp only [hg] at gl
    exact (gl : False).elim
  | some ρ' =>
    have gl2 : Goal rel mg E Z F1 H1 Q ((M.noErr (t ρ') >>= fun c => fin ((if c = true then (do
        let x ← M.noErr (e ρ')
        if acc.length < big then lcL g t e (wipeE ρ vs) (ds.drop (i + 1)) (acc ++ [x]) else M.fail) else lcL g t e (wipeE ρ vs) (ds.drop (i + 1)) acc) >>= r)) s) := by
      unfold lcL at gl
      simp only [hg] at gl
      rw [M.bind_assoc, fin_bind] at gl
      exact gl
    refine turn_lc hA hz hix wy hf (en.frz hFi) hFi y hg fun σ2 F2 H2 g2 wy2 hf2 en2 hw => ⟨hw, ?_⟩
    refine ⟨Z, Hall, F2, ρ', s, wy2.w, en2, gl2.noErr (rel' := relB) fun c s3 c' F3 H3 g3 w3 r3 q3 => ?_⟩
    obtain rfl : c' = c := r3
    have wy3 := wy2.go hA hz g3 w3
    have hf3 := wy2.free hf2 g3
    cases c' with
    | false =>
      rw [if_neg Bool.false_ne_true] at q3 ⊢
      exact ⟨F3, s3, acc, wy3, hf3, hFi.trans (g2.f.trans g3.f), q3⟩
    | true =>
      rw [if_pos rfl] at q3 ⊢
      rw [M.bind_assoc, fin_bind] at q3
      refine ⟨Z, Hall, F3, ρ', s3, w3, en2.grow g3, q3.noErr (rel' := relD Z) fun d4 s4 v F4 H4 g4 w4 r4 q4 => ?_⟩
      have wy4 := wy3.go hA hz g4 w4
      have hf4 := wy3.free hf3 g4
      obtain ⟨xs, hxs, rxs⟩ := wy4.l
      by_cases hb : acc.length < big
      · rw [if_pos hb] at q4
        exact ⟨xs, hxs, by rw [rxs.length]; exact hb, F4, s4, _, wy4.put hA hz hf4 hxs r4, hf4, hFi.trans (g2.f.trans (g3.f.trans g4.f)), q4⟩
      · rw [if_neg hb] at q4; exact (q4 : False).elim
/-- a comprehension from here: what its source is to reach; rel may ask that the list is new -/
theorem lc_at {Z : Zt} {H0 F H : Hp} {σ : L2.St} {ρ : Ev} {s : DS} {rel : Hp → V → D → Prop} {Q : VK} (hix : ∀ i ∈ ix, i ∈ own.map (·.2)) (w : Wd Z s F H) (en : EnvR Z H0 F H σ ρ) (hrel : ∀ F' A acc, H A = none → Rep Z F' (.ref A) (.lst acc) → rel F' (.ref A) (.lst acc))
    (gl : Goal rel X.mg E Z F H Q (dLc (own.map (·.2)) src g t e ρ s)) :
    Goal (fun F' J ds => ItD Z F' J ds) X.mg E Z F H (fun J H1 => ∀ D, H1 D = none → ∃ W : Nat → Nat → Hp → Prop, (∃ m, W 0 m (upd H1 D (.lst []))) ∧ ∀ i m H, W i m H →
      (J.stop i H ∧ Q (.ref D) H) ∨ (J.go i H ∧ ∃ Nx : Hp → Prop, (∀ H', Nx H' → ∃ m', m' < m ∧ W (i + 1) m' H') ∧ ∀ x H', J.yld i H x H' → tG ix g x (L2.wipe σ (own.map (·.2))) H' fun σ2 H2 => L2.wipe σ2 (own.map (·.2)) = L2.wipe σ (own.map (·.2)) ∧ tB' X.mg E0 t σ2 H2 fun b H3 =>
        if b = true then tD X.mg E0 e σ2 H3 fun y H4 => ∃ acc, H4 D = some (.lst acc) ∧ acc.length < sizeLine ∧ Nx (upd H4 D (.lst (acc ++ [y]))) else Nx H3)) (src ρ s) := by
  refine gl.bind (rel' := fun F' J ds => ItD Z F' J ds) fun ds s1 J F1 H1 g1 w1 r1 q1 => ?_
  intro A hA
  have hz := w1.notZ hA
  have en1 := (en.grow g1).wipe (own.map (·.2))
  refine it_gen r1.walk (fun i H => PvL rel X.mg E Z F1 F1 H1 A Q (fun acc => lcL g t e (wipeE ρ (own.map (·.2))) (ds.drop i) acc >>= fun a => pure a) H) ?_ (fun i H _ ⟨F, s, acc, wy, hf, hFi, _⟩ => hFi.trans wy.w.sub) (fun i x H H' hi pv y => lc_turn hA hz hix en1 pv y) (fun H ⟨F, s, acc, wy, hf, _, gl⟩ => ?_)
  · refine ⟨F1, s1, [], Way.start w1 hA, w1.sub.free hA, Same.refl _, ?_⟩
    show Goal _ _ _ _ _ _ _ (fin (lcL g t e (wipeE ρ (own.map (·.2))) ds [] >>= fun a => pure a) s1)
    rw [M.pure_bind']
    exact q1
  · have hd : ds.drop ds.length = [] := by simp
    simp only [hd] at gl
    obtain ⟨F', g', w', r'⟩ := wy.fin hA hz hf
    exact gl _ F' H g' w' (hrel F' A acc (g1.free hA) r')
theorem lc_read (hix : ∀ i ∈ ix, i ∈ own.map (·.2)) {σ : L2.St} {H : Hp} {Q : VK} (h : tD X.mg E (dLc (own.map (·.2)) src g t e) σ H Q) :
    tLc (tI X.mg E src) (tG ix g) (tB' X.mg E0 t) (tD X.mg E0 e) (own.map (·.2)) σ H Q := by
  obtain ⟨Z, H0, F, ρ, s, w, en, gl⟩ := h
  exact ⟨Z, H0, F, ρ, s, w, en, lc_at hix w en (fun _ _ _ _ r => r) gl⟩
theorem de_lc (G : Good X E k) (hi : PI X tg iter (tI X.mg E src)) (ok : blkC X.N X.env.scope scope own = true) (hix : (ix.all fun i => (own.map (·.2)).contains i) = true)
    (hg : ∀ (s : Shared) (H : Hp) (C : Addr) (cl : List (Str × Addr)) (fp : List Addr), PG (Cx.bk X scope s H C cl fp) tg (tG ix g)) (ht : ∀ (s : Shared) (H : Hp) (C : Addr) (cl : List (Str × Addr)) (fp : List Addr), PTs (Cx.bk X scope s H C cl fp) ifs (tB' X.mg E0 t))
    (he : ∀ (s : Shared) (H : Hp) (C : Addr) (cl : List (Str × Addr)) (fp : List Addr), PE (Cx.bk X scope s H C cl fp) elt (tD X.mg E0 e)) (hs : ∀ x, foldedSetIterable iter X.env x = pure x := by intro _; rfl) :
    PE X (.ListComp elt [⟨tg, iter, ifs, 0⟩] scope pos) (tD X.mg E (dLc (own.map (·.2)) src g t e)) :=
  PE.imp (pe_lc G.calm G.nd hi (blkOk_by ok) hg ht he hs) fun σ H Q h => lc_read (all_mem hix) h

/-! ### two clauses -/
def lc2L (vs1 : List Nat) (g : Tgt) (t : Ev → M Bool) (src1 : Ev → M (List D)) (g1 : Tgt) (t1 : Ev → M Bool) (e : Ev → M D) (ρ : Ev) : List D → List D → M (List D)
  | [], acc => pure acc
  | d :: ds, acc => match g d ρ with
    | none => M.fail
    | some ρ' => do
      let c ← M.noErr (t ρ')
      if c = true then do
        let es ← M.noErr (src1 ρ')
        let acc' ← lcL g1 t1 e (wipeE ρ' vs1) es acc
        lc2L vs1 g t src1 g1 t1 e ρ ds acc'
      else lc2L vs1 g t src1 g1 t1 e ρ ds acc
def dLc2 (vs vs1 : List Nat) (src : Ev → M (List D)) (g : Tgt) (t : Ev → M Bool) (src1 : Ev → M (List D)) (g1 : Tgt) (t1 : Ev → M Bool) (e : Ev → M D) : Ev → M D := fun ρ => do
  let ds ← src ρ
  let xs ← lc2L vs1 g t src1 g1 t1 e (wipeE ρ vs) ds []
  pure (.lst xs)
variable {tg1 iter1 : Expr} {ifs1 : List Expr} {ix1 vs1 : List Nat} {src1 : Ev → M (List D)} {g1 : Tgt} {t1 : Ev → M Bool}
theorem lc2_read (hix : ∀ i ∈ ix, i ∈ own.map (·.2)) (hix1 : ∀ i ∈ ix1, i ∈ vs1) {σ : L2.St} {H : Hp} {Q : VK} (h : tD X.mg E (dLc2 (own.map (·.2)) vs1 src g t src1 g1 t1 e) σ H Q) :
    tLc2 (tI X.mg E src) (tG ix g) (tB' X.mg E0 t) (tI X.mg E0 src1) (tG ix1 g1) (tB' X.mg E0 t1) (tD X.mg E0 e) (own.map (·.2)) vs1 σ H Q := by
  obtain ⟨Z, H0, F, ρ, s, w, en, gl⟩ := h
  refine ⟨Z, H0, F, ρ, s, w, en, gl.bind (rel' := fun F' J ds => ItD Z F' J ds) fun ds s1 J F1 H1 g1' w1 r1 q1 => ?_⟩
  intro A hA
  have hz := w1.notZ hA
  have en1 := (en.grow g1').wipe (own.map (·.2))
  refine it_gen r1.walk (fun i H => PvL (relD Z) X.mg E Z F1 F1 H1 A Q (fun acc => lc2L vs1 g t src1 g1 t1 e (wipeE ρ (own.map (·.2))) (ds.drop i) acc) H) ?_ (fun i H _ ⟨F, s, acc, wy, hf, hFi, _⟩ => hFi.trans wy.w.sub) (fun i x H H' hi pv y => ?_) (fun H ⟨F, s, acc, wy, hf, _, gl⟩ => ?_)
  · exact ⟨F1, s1, [], Way.start w1 hA, w1.sub.free hA, Same.refl _, q1⟩
  · obtain ⟨F, s, acc, wy, hf, hFi, gl⟩ := pv
    obtain ⟨d, hdr, y⟩ := Yd.split y
    simp only [hdr] at gl
    cases hg : g d (wipeE ρ (own.map (·.2))) with
    | none =>
      unfold lc2L at gl
      simp only [hg] at gl
      exact (gl : False).elim
    | some ρ' =>
      have gl2 : Goal (relD Z) X.mg E Z F1 H1 Q ((M.noErr (t ρ') >>= fun c => fin (if c = true then (do
          let es ← M.noErr (src1 ρ')
          let acc' ← lcL g1 t1 e (wipeE ρ' vs1) es acc
          lc2L vs1 g t src1 g1 t1 e (wipeE ρ (own.map (·.2))) (ds.drop (i + 1)) acc') else lc2L vs1 g t src1 g1 t1 e (wipeE ρ (own.map (·.2))) (ds.drop (i + 1)) acc)) s) := by
        unfold lc2L at gl
        simp only [hg] at gl
        rw [fin_bind] at gl
        exact gl
      refine turn_lc hA hz hix wy hf (en1.frz hFi) hFi y hg fun σ2 F2 H2 g2 wy2 hf2 en2 hw => ⟨hw, ?_⟩
      refine ⟨Z, Hall, F2, ρ', s, wy2.w, en2, gl2.noErr (rel' := relB) fun c s3 c' F3 H3 g3 w3 r3 q3 => ?_⟩
      obtain rfl : c' = c := r3
      have wy3 := wy2.go hA hz g3 w3
      have hf3 := wy2.free hf2 g3
      cases c' with
      | false =>
        rw [if_neg Bool.false_ne_true] at q3 ⊢
        exact ⟨F3, s3, acc, wy3, hf3, hFi.trans (g2.f.trans g3.f), q3⟩
      | true =>
        rw [if_pos rfl] at q3 ⊢
        rw [fin_bind] at q3
        refine ⟨Z, Hall, F3, ρ', s3, w3, en2.grow g3, q3.noErr (rel' := fun F' J ds => ItD Z F' J ds) fun es s4 J1 F4 H4 g4 w4 r4 q4 => ?_⟩
        have wy4 := wy3.go hA hz g4 w4
        have hf4 := wy3.free hf3 g4
        have en4 := (en2.grow (g3.trans g4)).wipe vs1
        have sm14 : Same F1 F4 := hFi.trans (g2.f.trans (g3.f.trans g4.f))
        refine it_gen r4.walk (fun j H => PvL (relD Z) X.mg E Z F4 F1 H1 A Q (fun acc => lcL g1 t1 e (wipeE ρ' vs1) (es.drop j) acc >>= fun acc' => lc2L vs1 g t src1 g1 t1 e (wipeE ρ (own.map (·.2))) (ds.drop (i + 1)) acc') H) ⟨F4, s4, acc, wy4, hf4, Same.refl _, q4⟩
          (fun j H _ ⟨F, s, acc, wy, hf, hFi, _⟩ => hFi.trans wy.w.sub) (fun j x H H' hj pv y => lc_turn hA hz hix1 en4 pv y) (fun H ⟨F, s, acc, wy, hf, hF4, gl⟩ => ?_)
        have hd : es.drop es.length = [] := by simp
        simp only [hd] at gl
        exact ⟨F, s, acc, wy, hf, sm14.trans hF4, gl⟩
  · have hd : ds.drop ds.length = [] := by simp
    simp only [hd] at gl
    obtain ⟨F', g', w', r'⟩ := wy.fin hA hz hf
    exact gl _ F' H g' w' r'
theorem de_lc2 (G : Good X E k) (hi : PI X tg iter (tI X.mg E src)) (ok : blkC X.N X.env.scope scope own = true) (hix : (ix.all fun i => (own.map (·.2)).contains i) = true) (hix1 : (ix1.all fun i => vs1.contains i) = true) (hvs : (vs1.all fun i => (own.map (·.2)).contains i) = true)
    (hg : ∀ (s : Shared) (H : Hp) (C : Addr) (cl : List (Str × Addr)) (fp : List Addr), PG (Cx.bk X scope s H C cl fp) tg (tG ix g)) (ht : ∀ (s : Shared) (H : Hp) (C : Addr) (cl : List (Str × Addr)) (fp : List Addr), PTs (Cx.bk X scope s H C cl fp) ifs (tB' X.mg E0 t))
    (hi1 : ∀ (s : Shared) (H : Hp) (C : Addr) (cl : List (Str × Addr)) (fp : List Addr), PI (Cx.bk X scope s H C cl fp) tg1 iter1 (tI X.mg E0 src1))
    (hg1 : ∀ (s : Shared) (H : Hp) (C : Addr) (cl : List (Str × Addr)) (fp : List Addr), PG (Cx.bk X scope s H C cl fp) tg1 (tG ix1 g1)) (ht1 : ∀ (s : Shared) (H : Hp) (C : Addr) (cl : List (Str × Addr)) (fp : List Addr), PTs (Cx.bk X scope s H C cl fp) ifs1 (tB' X.mg E0 t1))
    (he : ∀ (s : Shared) (H : Hp) (C : Addr) (cl : List (Str × Addr)) (fp : List Addr), PE (Cx.bk X scope s H C cl fp) elt (tD X.mg E0 e)) (hs : ∀ x, foldedSetIterable iter X.env x = pure x := by intro _; rfl) (hs1 : ∀ env x, foldedSetIterable iter1 env x = pure x := by intro _ _; rfl) :
    PE X (.ListComp elt [⟨tg, iter, ifs, 0⟩, ⟨tg1, iter1, ifs1, 0⟩] scope pos) (tD X.mg E (dLc2 (own.map (·.2)) vs1 src g t src1 g1 t1 e)) :=
  PE.imp (pe_lc2 G.calm G.nd hi (blkOk_by ok) (all_mem hvs) hg ht hi1 hg1 ht1 he hs hs1) fun σ H Q h => lc2_read (all_mem hix) (all_mem hix1) h
end
end DL

set_option Elab.async false
set_option linter.all false
set_option maxRecDepth 100000
set_option maxHeartbeats 4000000
/-! D layer 9: statements, bodies, defs. -/
namespace DL
open PySem PySem.Spec PyProof.Rows L2

theorem Wd.freeze {Z : Zt} {s : DS} {F H : Hp} {p : Addr} {xs : List V} (w : Wd Z s F H) (h2 : F p = none) (h3 : ¬ Zm Z p) (h4 : H p = some (.lst xs)) : Wd Z s (upd F p (.lst xs)) H := by
  have sm : Same F (upd F p (.lst xs)) := fun b u q => by rw [upd_ne (ne_of_none q h2)]; exact q
  refine ⟨fun b u e => ?_, ?_⟩
  · by_cases hb : b = p
    · subst hb; rw [upd_same] at e; cases e; exact h4
    · rw [upd_ne hb] at e; exact w.sub b u e
  · have st := w.st
    unfold StAt at st ⊢
    split at st
    · trivial
    · rename_i a l
      obtain ⟨n, f1, f2, c, k1, k2, k3⟩ := st
      have n1 : a ≠ p := fun q => h3 ⟨a, l, rfl, .inl q.symm⟩
      have n2 : l ≠ p := fun q => h3 ⟨a, l, rfl, .inr q.symm⟩
      exact ⟨n, by rw [upd_ne n1]; exact f1, by rw [upd_ne n2]; exact f2, c, k1, k2, sm _ _ k3⟩
inductive Fl where
  | nx (ρ : Ev) | rt (d : D) | bk (ρ : Ev) | ct (ρ : Ev)
def Fin1 (Z : Zt) (F0 H0 : Hp) (s : DS) (ρ : Ev) (Q : L2.St → Hp → Prop) : Prop := ∀ σ F H, Grow Z F0 H0 F H → Wd Z s F H → EnvR Z H0 F H σ ρ → Q σ H
def GoalS (mg : Str → Option Value) (E : XK) (Z : Zt) (F0 H0 : Hp) (Ds : Ends) : Option (Except Ex Fl × DS) → Prop
  | none => False
  | some (.ok (.nx ρ), s) => Fin1 Z F0 H0 s ρ Ds.nx
  | some (.ok (.bk ρ), s) => Fin1 Z F0 H0 s ρ Ds.bk
  | some (.ok (.ct ρ), s) => Fin1 Z F0 H0 s ρ Ds.ct
  | some (.ok (.rt d), s) => ∀ v F H, Grow Z F0 H0 F H → Wd Z s F H → Rep Z F v d → Ds.rt v H
  | some (.error e, s) => ∀ cls d F H, Grow Z F0 H0 F H → Wd Z s F H → RepX mg Z F H e cls d → E cls d H
abbrev Sm := Ev → M Fl
/-- where a body stands -/
structure At (Z : Zt) (F0 H0 F H : Hp) (σ : L2.St) (ρ : Ev) (s : DS) : Prop where
  g : Grow Z F0 H0 F H
  w : Wd Z s F H
  en : EnvR Z H0 F H σ ρ
def tS (mg : Str → Option Value) (E : XK) (f : Sm) : TS := fun Ds σ H => ∃ Z F0 H0 F ρ s, At Z F0 H0 F H σ ρ s ∧ GoalS mg E Z F0 H0 Ds (f ρ s)
section
variable {mg : Str → Option Value} {E : XK} {Z : Zt} {F0 H0 F H : Hp} {Ds Ds' : Ends} {σ : L2.St} {ρ : Ev} {s : DS}
theorem At.grow {F' H' : Hp} {s' : DS} (a : At Z F0 H0 F H σ ρ s) (g : Grow Z F H F' H') (w : Wd Z s' F' H') : At Z F0 H0 F' H' σ ρ s' := ⟨a.g.trans g, w, a.en.grow g⟩
/-- an expression, then more -/
theorem GoalS.bind {β γ : Type} {rel' : Hp → β → γ → Prop} {m : M γ} {f : γ → M Fl} {P : β → Hp → Prop} (a : At Z F0 H0 F H σ ρ s) (h : GoalS mg E Z F0 H0 Ds ((m >>= f) s))
    (k : ∀ d1 s1 v F1 H1, At Z F0 H0 F1 H1 σ ρ s1 → Grow Z F H F1 H1 → rel' F1 v d1 → GoalS mg E Z F0 H0 Ds (f d1 s1) → P v H1) : Goal rel' mg E Z F H P (m s) := by
  have h' : GoalS mg E Z F0 H0 Ds (M.bind m f s) := h
  unfold M.bind at h'
  match hm : m s, h' with
  | some (.ok d, s1), h' => exact fun v F' H' g w r => k d s1 v F' H' (a.grow g w) g r h'
  | some (.error e, s1), h' => exact fun cls d F' H' g w r => h' cls d F' H' (a.g.trans g) w r
theorem GoalS.next {F' H' : Hp} {σ' : L2.St} {ρ' : Ev} (h : GoalS mg E Z F0 H0 Ds ((pure (Fl.nx ρ') : M Fl) s)) (a : At Z F0 H0 F' H' σ' ρ' s) : Ds.nx σ' H' := h σ' F' H' a.g a.w a.en
theorem GoalS.lift {α : Type} {o : Option α} {f : α → M Fl} (h : GoalS mg E Z F0 H0 Ds ((M.lift o >>= f) s)) : ∃ d, o = some d ∧ GoalS mg E Z F0 H0 Ds (f d s) := by
  cases o with
  | none => exact h.elim
  | some d => exact ⟨d, rfl, h⟩
theorem Grow.reb {F2 : Hp} (s1 : Same F0 F2) (k : ∀ p, H0 p ≠ none → F2 p = F0 p) {F H : Hp} (g : Grow Z F2 H0 F H) : Grow Z F0 H0 F H := ⟨s1.trans g.f, g.h, fun p e => (g.k p e).trans (k p e), g.a⟩
theorem GoalS.seqB {m : M Fl} {f : Fl → M Fl} {F2 : Hp} (rb : ∀ F H, Grow Z F2 H0 F H → Grow Z F0 H0 F H) (h : GoalS mg E Z F0 H0 Ds ((m >>= f) s))
    (kn : ∀ ρ1 s1, GoalS mg E Z F0 H0 Ds (f (.nx ρ1) s1) → Fin1 Z F2 H0 s1 ρ1 Ds'.nx) (kb : ∀ ρ1 s1, GoalS mg E Z F0 H0 Ds (f (.bk ρ1) s1) → Fin1 Z F2 H0 s1 ρ1 Ds'.bk) (kc : ∀ ρ1 s1, GoalS mg E Z F0 H0 Ds (f (.ct ρ1) s1) → Fin1 Z F2 H0 s1 ρ1 Ds'.ct)
    (kr : ∀ d s1, GoalS mg E Z F0 H0 Ds (f (.rt d) s1) → ∀ v F H, Grow Z F2 H0 F H → Wd Z s1 F H → Rep Z F v d → Ds'.rt v H) : GoalS mg E Z F2 H0 Ds' (m s) := by
  have h' : GoalS mg E Z F0 H0 Ds (M.bind m f s) := h
  unfold M.bind at h'
  match hm : m s, h' with
  | some (.ok (.nx ρ1), s1), h' => exact kn ρ1 s1 h'
  | some (.ok (.bk ρ1), s1), h' => exact kb ρ1 s1 h'
  | some (.ok (.ct ρ1), s1), h' => exact kc ρ1 s1 h'
  | some (.ok (.rt d), s1), h' => exact kr d s1 h'
  | some (.error e, s1), h' => exact fun cls d F H g w r => h' cls d F H (rb F H g) w r
/-- a statement, then more: m's flow goes to f -/
theorem GoalS.seq {m : M Fl} {f : Fl → M Fl} (h : GoalS mg E Z F0 H0 Ds ((m >>= f) s))
    (kn : ∀ ρ1 s1, GoalS mg E Z F0 H0 Ds (f (.nx ρ1) s1) → Fin1 Z F0 H0 s1 ρ1 Ds'.nx) (kb : ∀ ρ1 s1, GoalS mg E Z F0 H0 Ds (f (.bk ρ1) s1) → Fin1 Z F0 H0 s1 ρ1 Ds'.bk) (kc : ∀ ρ1 s1, GoalS mg E Z F0 H0 Ds (f (.ct ρ1) s1) → Fin1 Z F0 H0 s1 ρ1 Ds'.ct)
    (kr : ∀ d s1, GoalS mg E Z F0 H0 Ds (f (.rt d) s1) → ∀ v F H, Grow Z F0 H0 F H → Wd Z s1 F H → Rep Z F v d → Ds'.rt v H) : GoalS mg E Z F0 H0 Ds' (m s) := by
  have h' : GoalS mg E Z F0 H0 Ds (M.bind m f s) := h
  unfold M.bind at h'
  match hm : m s, h' with
  | some (.ok (.nx ρ1), s1), h' => exact kn ρ1 s1 h'
  | some (.ok (.bk ρ1), s1), h' => exact kb ρ1 s1 h'
  | some (.ok (.ct ρ1), s1), h' => exact kc ρ1 s1 h'
  | some (.ok (.rt d), s1), h' => exact kr d s1 h'
  | some (.error e, s1), h' => exact h'
end

/-! ### statements on data -/
def sSet (i : Nat) (a : Ev → M D) : Sm := fun ρ => do
  let x ← a ρ
  pure (.nx (ρ.set i (some (.val x))))
def sAsg (g : Tgt) (a : Ev → M D) : Sm := fun ρ => do
  let x ← a ρ
  let ρ' ← M.lift (g x ρ)
  pure (.nx ρ')
def sOwn (i : Nat) : Sm := fun ρ => pure (.nx (ρ.set i (some (.own []))))
def par2 (i j : Nat) (ρ : Ev) : List D → Option Ev
  | [x, y] => some ((ρ.set i (some (.val x))).set j (some (.val y)))
  | _ => none
def sPar (i j : Nat) (a : Ev → M (List D)) : Sm := fun ρ => do
  let xs ← a ρ
  let ρ' ← M.lift (par2 i j ρ xs)
  pure (.nx ρ')
/-- a, b = e, [] -/
def sPar2o (i j : Nat) (a : Ev → M D) : Sm := fun ρ => do
  let x ← a ρ
  pure (.nx ((ρ.set i (some (.val x))).set j (some (.own []))))
/-- a, b, c = e, [], e' -/
def sPar3o (i j l : Nat) (a b : Ev → M D) : Sm := fun ρ => do
  let x ← a ρ
  let y ← b ρ
  pure (.nx (((ρ.set i (some (.val x))).set j (some (.own []))).set l (some (.val y))))
def sRet (a : Ev → M D) : Sm := fun ρ => do
  let x ← a ρ
  pure (.rt x)
def sRetN : Sm := fun _ => pure (.rt .non)
def sExp (a : Ev → M D) : Sm := fun ρ => do
  let _ ← a ρ
  pure (.nx ρ)
def sIf (t : Ev → M Bool) (a b : Sm) : Sm := fun ρ => do
  let c ← t ρ
  if c = true then a ρ else b ρ
def sNil : Sm := fun ρ => pure (.nx ρ)
def sThen (b : Sm) : Fl → M Fl
  | .nx ρ => b ρ
  | o => pure o
def sSeq (a b : Sm) : Sm := fun ρ => a ρ >>= sThen b
def sNever : Sm := fun _ => M.fail
def isOwn : Option (Option B) → Option (List D)
  | some (some (.own ds)) => some ds
  | _ => none
/-- x.append(e) -/
def sApp (i : Nat) (a : Ev → M D) : Sm := fun ρ => do
  let ds ← M.lift (isOwn ρ[i]?)
  let x ← a ρ
  if ds.length < big then pure (.nx (ρ.set i (some (.own (ds ++ [x]))))) else M.fail
/-- (nothing is done) the list under way at i is data from now on -/
def sFrz (i : Nat) (b : Sm) : Sm := fun ρ => match isOwn ρ[i]? with
  | some ds => b (ρ.set i (some (.val (.lst ds))))
  | none => b ρ
def forT (k : Ev → M Fl) : Fl → M Fl
  | .nx ρ => k ρ
  | .ct ρ => k ρ
  | .bk ρ => pure (.nx ρ)
  | .rt d => pure (.rt d)
def forL (g : Tgt) (body : Sm) : List D → Sm
  | [], ρ => pure (.nx ρ)
  | d :: ds, ρ => M.lift (g d ρ) >>= fun ρ' => body ρ' >>= forT (forL g body ds)
def sFor (g : Tgt) (src : Ev → M (List D)) (body : Sm) : Sm := fun ρ => do
  let ds ← src ρ
  forL g body ds ρ
def whL (t : Ev → M Bool) (body : Sm) : Nat → Sm
  | 0, _ => M.fail
  | n + 1, ρ => t ρ >>= fun c => if c = true then body ρ >>= forT (whL t body n) else pure (.nx ρ)

section
variable {X : Cx} {E : XK} {k : Nat} {e a b c : Expr} {es : List Expr} {st : Stmt} {rest : List Stmt} {pos p p' : Pos} {fa fb : Ev → M D} {fs : Ev → M (List D)} {t : Ev → M Bool} {f1 f2 : Sm} {x y z : Str}
theorem ds_set (i : Nat) (hN : X.N.Nodup) (hi : X.N[i]? = some x) (hx : Loc X.env.scope x) (he : PE X e (tD X.mg E fa)) (hf : X.fn x = true ∨ X.env.scope.names.lookup x = some .local := by first | exact .inl rfl | exact .inr rfl) (hs : swapsWith e (some (.Name x p')) pos.line X.env = pure false := by rfl) :
    PS X (.Assign [.Name x p'] e pos) (tS X.mg E (sSet i fa)) :=
  PS.imp (ps_set hN hi hx he hs hf) fun Ds σ H ⟨Z, F0, H0, F, ρ, s, at', g⟩ =>
    ⟨Z, H0, F, ρ, s, at'.w, at'.en, g.bind (rel' := relD Z) at' fun d1 s1 v F1 H1 a1 _ r1 q1 => q1.next ⟨a1.g, a1.w, a1.en.setV r1⟩⟩
/-- a name that is given a list comprehension on its own line -/
theorem ds_setLc (i : Nat) {own : List (Str × Nat)} {tg iter : Expr} {ifs : List Expr} {scope : Scope} {py : Pos} {spos : Pos} {ix : List Nat} {src : Ev → M (List D)} {g : Tgt} {e' : Ev → M D} (G : Good X E k) (hy : X.N[i]? = some y) (hyl : X.env.scope.names.lookup y = some .local)
    (hsw : swapsWith (.ListComp e [⟨tg, iter, ifs, 0⟩] scope pos) (some (.Name y py)) spos.line X.env = pure true) (hi : PI X tg iter (tI X.mg E src)) (ok : blkC X.N X.env.scope scope own = true) (hix : (ix.all fun i => (own.map (·.2)).contains i) = true)
    (hg : ∀ (s : Shared) (H : Hp) (C : Addr) (cl : List (Str × Addr)) (fp : List Addr), PG (Cx.bk X scope s H C cl fp) tg (tG ix g)) (ht : ∀ (s : Shared) (H : Hp) (C : Addr) (cl : List (Str × Addr)) (fp : List Addr), PTs (Cx.bk X scope s H C cl fp) ifs (tB' X.mg E0 t))
    (he : ∀ (s : Shared) (H : Hp) (C : Addr) (cl : List (Str × Addr)) (fp : List Addr), PE (Cx.bk X scope s H C cl fp) e (tD X.mg E0 e')) (hs : ∀ x, foldedSetIterable iter X.env x = pure x := by intro _; rfl) :
    PS X (.Assign [.Name y py] (.ListComp e [⟨tg, iter, ifs, 0⟩] scope pos) spos) (tS X.mg E (sSet i (dLc (own.map (·.2)) src g t e'))) :=
  PS.imp (ps_setLc G.calm G.nd hy hyl hsw hi (blkOk_by ok) hg ht he hs) fun Ds σ H ⟨Z, F0, H0, F, ρ, s, at', gg⟩ =>
    lc_read (all_mem hix) ⟨Z, H0, F, ρ, s, at'.w, at'.en, gg.bind (rel' := relD Z) at' fun d1 s1 v F1 H1 a1 _ r1 q1 => q1.next ⟨a1.g, a1.w, a1.en.setV r1⟩⟩
theorem ds_setLc2 (i : Nat) {own : List (Str × Nat)} {tg iter tg1 iter1 : Expr} {ifs ifs1 : List Expr} {scope : Scope} {py : Pos} {spos : Pos} {ix ix1 vs1 : List Nat} {src src1 : Ev → M (List D)} {g g1 : Tgt} {t1 : Ev → M Bool} {e' : Ev → M D} (G : Good X E k) (hy : X.N[i]? = some y) (hyl : X.env.scope.names.lookup y = some .local)
    (hsw : swapsWith (.ListComp e [⟨tg, iter, ifs, 0⟩, ⟨tg1, iter1, ifs1, 0⟩] scope pos) (some (.Name y py)) spos.line X.env = pure true) (hi : PI X tg iter (tI X.mg E src)) (ok : blkC X.N X.env.scope scope own = true) (hix : (ix.all fun i => (own.map (·.2)).contains i) = true) (hix1 : (ix1.all fun i => vs1.contains i) = true) (hvs : (vs1.all fun i => (own.map (·.2)).contains i) = true)
    (hg : ∀ (s : Shared) (H : Hp) (C : Addr) (cl : List (Str × Addr)) (fp : List Addr), PG (Cx.bk X scope s H C cl fp) tg (tG ix g)) (ht : ∀ (s : Shared) (H : Hp) (C : Addr) (cl : List (Str × Addr)) (fp : List Addr), PTs (Cx.bk X scope s H C cl fp) ifs (tB' X.mg E0 t))
    (hi1 : ∀ (s : Shared) (H : Hp) (C : Addr) (cl : List (Str × Addr)) (fp : List Addr), PI (Cx.bk X scope s H C cl fp) tg1 iter1 (tI X.mg E0 src1))
    (hg1 : ∀ (s : Shared) (H : Hp) (C : Addr) (cl : List (Str × Addr)) (fp : List Addr), PG (Cx.bk X scope s H C cl fp) tg1 (tG ix1 g1)) (ht1 : ∀ (s : Shared) (H : Hp) (C : Addr) (cl : List (Str × Addr)) (fp : List Addr), PTs (Cx.bk X scope s H C cl fp) ifs1 (tB' X.mg E0 t1))
    (he : ∀ (s : Shared) (H : Hp) (C : Addr) (cl : List (Str × Addr)) (fp : List Addr), PE (Cx.bk X scope s H C cl fp) e (tD X.mg E0 e')) (hs : ∀ x, foldedSetIterable iter X.env x = pure x := by intro _; rfl) (hs1 : ∀ env x, foldedSetIterable iter1 env x = pure x := by intro _ _; rfl) :
    PS X (.Assign [.Name y py] (.ListComp e [⟨tg, iter, ifs, 0⟩, ⟨tg1, iter1, ifs1, 0⟩] scope pos) spos) (tS X.mg E (sSet i (dLc2 (own.map (·.2)) vs1 src g t src1 g1 t1 e'))) :=
  PS.imp (ps_setLc2 G.calm G.nd hy hyl hsw hi (blkOk_by ok) (all_mem hvs) hg ht hi1 hg1 ht1 he hs hs1) fun Ds σ H ⟨Z, F0, H0, F, ρ, s, at', gg⟩ =>
    lc2_read (all_mem hix) (all_mem hix1) ⟨Z, H0, F, ρ, s, at'.w, at'.en, gg.bind (rel' := relD Z) at' fun d1 s1 v F1 H1 a1 _ r1 q1 => q1.next ⟨a1.g, a1.w, a1.en.setV r1⟩⟩
theorem ds_own (i : Nat) (hN : X.N.Nodup) (hi : X.N[i]? = some x) (hx : Loc X.env.scope x) (hf : X.fn x = true ∨ X.env.scope.names.lookup x = some .local := by first | exact .inl rfl | exact .inr rfl) (hs : swapsWith (.List [] p) (some (.Name x p')) pos.line X.env = pure false := by rfl) :
    PS X (.Assign [.Name x p'] (.List [] p) pos) (tS X.mg E (sOwn i)) :=
  PS.imp (ps_set hN hi hx (pe_lst (pa_nil (X := X))) hs hf) fun Ds σ H ⟨Z, F0, H0, F, ρ, s, a, g⟩ => by
    refine ⟨by show 0 ≤ _; exact Nat.zero_le _, fun q hq => ?_⟩
    have h0 : H0 q = none := a.g.free hq
    exact g.next ⟨a.g.trans (Grow.newO hq), a.w.newO hq, a.en.setO h0 hq (a.w.notZ hq) a.w.sub .nil⟩
theorem ds_asg {tg : Expr} {ix : List Nat} {g : Tgt} (he : PE X e (tD X.mg E fa)) (hg : PG X tg (tG ix g)) (hs : swapsWithSole [tg] e pos.line X.env = pure false := by rfl) (hw : swappedStores [tg] e X.env = pure none := by rfl)
    (h1 : (assignEach [tg] X.env).map (·.2) = [assign tg X.env] := by rfl) : PS X (.Assign [tg] e pos) (tS X.mg E (sAsg g fa)) :=
  PS.imp (ps_asg he hg hs hw h1) fun Ds σ H ⟨Z, F0, H0, F, ρ, s, at', gg⟩ =>
    ⟨Z, H0, F, ρ, s, at'.w, at'.en, gg.bind (rel' := relD Z) at' fun d1 s1 v F1 H1 a1 _ r1 q1 => by
      obtain ⟨ρ', e, q⟩ := q1.lift
      exact ⟨Z, H0, F1, ρ, s1, d1, ρ', a1.w, a1.en, r1, e, fun σ' en' _ => q.next ⟨a1.g, a1.w, en'⟩⟩⟩
theorem ds_par (i j : Nat) {px py pt : Pos} {kt k2 : Nat} {pt2 : Pos} (G : Good X E k) (hi : X.N[i]? = some x) (hj : X.N[j]? = some y) (hij : i ≠ j) (hx : X.env.scope.names.lookup x = some .local) (hy : X.env.scope.names.lookup y = some .local) (ha : PA X [a, b] (tA' X.mg E fs))
    (hw : swappedStores [.Tuple [.Name x px, .Name y py] kt pt] (.Tuple [a, b] k2 pt2) X.env = pure (some [x, y])) (hs : swapsWithSole [.Tuple [.Name x px, .Name y py] kt pt] (.Tuple [a, b] k2 pt2) pos.line X.env = pure false := by rfl) :
    PS X (.Assign [.Tuple [.Name x px, .Name y py] kt pt] (.Tuple [a, b] k2 pt2) pos) (tS X.mg E (sPar i j fs)) :=
  PS.imp (ps_par G.calm G.nd hi hj hij hx hy ha hw hs) fun Ds σ H ⟨Z, F0, H0, F, ρ, s, at', gg⟩ =>
    ⟨Z, H0, F, ρ, s, at'.w, at'.en, gg.bind (rel' := relL Z) at' fun ds s1 vs F1 H1 a1 _ r1 q1 => by
      obtain ⟨ρ', e, q⟩ := q1.lift
      match ds, r1, e with
      | [d1, d2], .cons r1 (.cons r2 .nil), e =>
        cases e
        exact ⟨_, _, rfl, q.next ⟨a1.g, a1.w, (a1.en.setV r1).setV r2⟩⟩
      | [], _, e => cases e
      | [_], _, e => cases e
      | _ :: _ :: _ :: _, _, e => cases e⟩
theorem ds_par2o (i j : Nat) {px py pt pl : Pos} {kt k2 : Nat} {pt2 : Pos} (G : Good X E k) (hi : X.N[i]? = some x) (hj : X.N[j]? = some y) (hij : i ≠ j) (hx : X.env.scope.names.lookup x = some .local) (hy : X.env.scope.names.lookup y = some .local) (ha : PE X a (tD X.mg E fa))
    (hw : swappedStores [.Tuple [.Name x px, .Name y py] kt pt] (.Tuple [a, .List [] pl] k2 pt2) X.env = pure (some [x, y])) (hs : swapsWithSole [.Tuple [.Name x px, .Name y py] kt pt] (.Tuple [a, .List [] pl] k2 pt2) pos.line X.env = pure false := by rfl)
    (hst : starEach [a, .List [] pl] X.env = (false, eval a X.env) :: starEach [.List [] pl] X.env := by rfl) :
    PS X (.Assign [.Tuple [.Name x px, .Name y py] kt pt] (.Tuple [a, .List [] pl] k2 pt2) pos) (tS X.mg E (sPar2o i j fa)) :=
  PS.imp (ps_par G.calm G.nd hi hj hij hx hy (pa_cons ha (pa_cons (pe_lst (pa_nil (X := X))) pa_nil rfl) hst) hw hs) fun Ds σ H ⟨Z, F0, H0, F, ρ, s, at', gg⟩ =>
    ⟨Z, H0, F, ρ, s, at'.w, at'.en, gg.bind (rel' := relD Z) at' fun d s1 v F1 H1 a1 _ r1 q1 => by
      refine ⟨by show 0 ≤ _; exact Nat.zero_le _, fun q hq => ?_⟩
      have h0 : H0 q = none := a1.g.free hq
      exact ⟨_, _, rfl, q1.next ⟨a1.g.trans (Grow.newO hq), a1.w.newO hq, (a1.en.setV r1).setO h0 hq (a1.w.notZ hq) a1.w.sub .nil⟩⟩⟩
theorem ds_par3o (i j l : Nat) {px py pz pt pl : Pos} {kt k2 : Nat} {pt2 : Pos} (G : Good X E k) (hi : X.N[i]? = some x) (hj : X.N[j]? = some y) (hl : X.N[l]? = some z) (hij : i ≠ j) (hil : i ≠ l) (hjl : j ≠ l) (hx : X.env.scope.names.lookup x = some .local) (hy : X.env.scope.names.lookup y = some .local) (hz : X.env.scope.names.lookup z = some .local)
    (ha : PE X a (tD X.mg E fa)) (hb : PE X b (tD X.mg E fb))
    (hw : swappedStores [.Tuple [.Name x px, .Name y py, .Name z pz] kt pt] (.Tuple [a, .List [] pl, b] k2 pt2) X.env = pure (some [x, y, z])) (hs : swapsWithSole [.Tuple [.Name x px, .Name y py, .Name z pz] kt pt] (.Tuple [a, .List [] pl, b] k2 pt2) pos.line X.env = pure false := by rfl)
    (hst : starEach [a, .List [] pl, b] X.env = (false, eval a X.env) :: starEach [.List [] pl, b] X.env := by rfl) (hst2 : starEach [b] X.env = (false, eval b X.env) :: starEach [] X.env := by rfl) :
    PS X (.Assign [.Tuple [.Name x px, .Name y py, .Name z pz] kt pt] (.Tuple [a, .List [] pl, b] k2 pt2) pos) (tS X.mg E (sPar3o i j l fa fb)) :=
  PS.imp (ps_par3 G.calm G.nd hi hj hl hij hil hjl hx hy hz (pa_cons ha (pa_cons (pe_lst (pa_nil (X := X))) (pa_cons hb pa_nil hst2) rfl) hst) hw hs) fun Ds σ H ⟨Z, F0, H0, F, ρ, s, at', gg⟩ =>
    ⟨Z, H0, F, ρ, s, at'.w, at'.en, gg.bind (rel' := relD Z) at' fun d s1 v F1 H1 a1 _ r1 q1 => by
      refine ⟨by show 0 ≤ _; exact Nat.zero_le _, fun q hq => ?_⟩
      have h0 : H0 q = none := a1.g.free hq
      have en2 := (a1.en.setV (i := i) r1).setO (i := j) h0 hq (a1.w.notZ hq) a1.w.sub .nil
      have a2 : At Z F0 H0 F1 (upd H1 q (.lst [])) _ _ s1 := ⟨a1.g.trans (Grow.newO hq), a1.w.newO hq, en2⟩
      have a2' : At Z F0 H0 F1 (upd H1 q (.lst [])) σ ρ s1 := ⟨a2.g, a2.w, a1.en.grow (Grow.newO hq)⟩
      refine ⟨Z, H0, F1, ρ, s1, a2'.w, a2'.en, q1.bind (rel' := relD Z) a2' fun d3 s3 v3 F3 H3 a3 g3 r3 q3 => ⟨_, _, _, rfl, q3.next ⟨a3.g, a3.w, (en2.grow g3).setV r3⟩⟩⟩⟩
theorem ds_ret (he : PE X e (tD X.mg E fa)) : PS X (.Return (some e) pos) (tS X.mg E (sRet fa)) :=
  PS.imp (ps_ret he) fun Ds σ H ⟨Z, F0, H0, F, ρ, s, at', g⟩ =>
    ⟨Z, H0, F, ρ, s, at'.w, at'.en, g.bind (rel' := relD Z) at' fun d1 s1 v F1 H1 a1 _ r1 q1 => q1 v F1 H1 a1.g a1.w r1⟩
theorem ds_retN : PS X (.Return none pos) (tS X.mg E sRetN) :=
  PS.imp ps_retN fun Ds σ H ⟨Z, F0, H0, F, ρ, s, at', g⟩ => g .non F H at'.g at'.w .non
theorem ds_expr (he : PE X e (tD X.mg E fa)) (hs : swapsWith e none pos.line X.env = pure false := by rfl) : PS X (.Expr e pos) (tS X.mg E (sExp fa)) :=
  PS.imp (ps_expr he hs) fun Ds σ H ⟨Z, F0, H0, F, ρ, s, at', g⟩ =>
    ⟨Z, H0, F, ρ, s, at'.w, at'.en, g.bind (rel' := relD Z) at' fun d1 s1 v F1 H1 a1 _ r1 q1 => q1.next a1⟩
theorem ds_if {A B : List Stmt} (hc : PT X c (tB' X.mg E t)) (ha : PSs X A (tS X.mg E f1)) (hb : PSs X B (tS X.mg E f2)) : PS X (.If c A B pos) (tS X.mg E (sIf t f1 f2)) :=
  PS.imp (ps_if hc ha hb) fun Ds σ H ⟨Z, F0, H0, F, ρ, s, at', g⟩ =>
    ⟨Z, H0, F, ρ, s, at'.w, at'.en, g.bind (rel' := relB) at' fun c s1 c' F1 H1 a1 _ r1 q1 => by
      obtain rfl : c' = c := r1
      cases c' with
      | true => exact ⟨Z, F0, H0, F1, ρ, s1, a1, q1⟩
      | false => exact ⟨Z, F0, H0, F1, ρ, s1, a1, q1⟩⟩
theorem dss_nil : PSs X [] (tS X.mg E sNil) := PSs.imp pss_nil fun Ds σ H ⟨Z, F0, H0, F, ρ, s, at', g⟩ => g.next at'
theorem dss_cons (h1 : PS X st (tS X.mg E f1)) (h2 : PSs X rest (tS X.mg E f2)) : PSs X (st :: rest) (tS X.mg E (sSeq f1 f2)) :=
  PSs.imp (pss_cons h1 h2) fun Ds σ H ⟨Z, F0, H0, F, ρ, s, at', g⟩ =>
    ⟨Z, F0, H0, F, ρ, s, at', g.seq (Ds' := { Ds with nx := tS X.mg E f2 Ds }) (fun ρ1 s1 q σ1 F1 H1 g1 w1 en1 => ⟨Z, F0, H0, F1, ρ1, s1, ⟨g1, w1, en1⟩, q⟩) (fun _ _ q => q) (fun _ _ q => q) fun _ _ q => q⟩
theorem dss_one (h1 : PS X st (tS X.mg E f1)) : PSs X [st] (tS X.mg E f1) := pss_one h1
theorem ds_never : PS X st (tS X.mg E sNever) := ⟨fun _ _ _ _ _ _ ⟨_, _, _, _, _, _, _, g⟩ => g.elim⟩
theorem ds_frz (i : Nat) (h : PSs X (st :: rest) (tS X.mg E f1)) : PSs X (st :: rest) (tS X.mg E (sFrz i f1)) :=
  PSs.imp h fun Ds σ H ⟨Z, F0, H0, F, ρ, s, at', g⟩ => by
    have q : GoalS X.mg E Z F0 H0 Ds ((match isOwn ρ[i]? with
      | some ds => f1 (ρ.set i (some (.val (.lst ds))))
      | none => f1 ρ : M Fl) s) := g
    cases ho : ρ[i]? with
    | none => rw [ho] at q; exact ⟨Z, F0, H0, F, ρ, s, at', q⟩
    | some o =>
      rw [ho] at q
      match o, ho, q with
      | some (.own es), ho, q =>
        obtain ⟨p, xs, h1, h0, h2, h3, h4, en'⟩ := at'.en.freeze ho at'.w.sub
        have sm : Same F (upd F p (.lst xs)) := fun b u q => by rw [upd_ne (ne_of_none q h2)]; exact q
        refine ⟨Z, F0, H0, upd F p (.lst xs), _, s, ⟨⟨at'.g.f.trans sm, at'.g.h, fun b hb => ?_, at'.g.a⟩, at'.w.freeze h2 h3 h4, en'⟩, q⟩
        have : b ≠ p := fun q => hb (by rw [q]; exact h0)
        rw [upd_ne this]; exact at'.g.k b hb
      | none, _, q => exact ⟨Z, F0, H0, F, ρ, s, at', q⟩
      | some (.val _), _, q => exact ⟨Z, F0, H0, F, ρ, s, at', q⟩
      | some (.dct _), _, q => exact ⟨Z, F0, H0, F, ρ, s, at', q⟩
      | some (.dcf _), _, q => exact ⟨Z, F0, H0, F, ρ, s, at', q⟩
theorem ds_app (i : Nat) {po pa' pc : Pos} (hN : X.N[i]? = some x) (hv : Vis X.env.scope x) (he : PE X e (tD X.mg E fa)) (hd : (x == ("__debug__" : Str)) = false := by decide) (hcd : (x == ("__classdict__" : Str)) = false := by decide) (hs' : swapsWith (.Call (.Attribute (.Name x po) "append" pa') [e] [] pc) none pos.line X.env = pure false := by rfl)
    (hbase : attributeBase (.Name x po) "append" X.env (eval (.Name x po) X.env) = eval (.Name x po) X.env := by rfl)
    (hfew : ((backTo pc (starEach [e] X.env)).all (fun x => !x.1) && (backToKw pc (keywordEach [] X.env)).all (fun x => x.1.isSome)
      && decide ([e].length + ([] : List Keyword).length + (if ([] : List Keyword).isEmpty then 0 else 1) < 30)) = true := by rfl)
    (hline : (pa'.endLine == pc.line) = true := by rfl) (hs : starEach [e] X.env = (false, eval e X.env) :: starEach [] X.env := by rfl) :
    PS X (.Expr (.Call (.Attribute (.Name x po) "append" pa') [e] [] pc) pos) (tS X.mg E (sApp i fa)) :=
  PS.imp (ps_expr (pe_bm PySem.F.plainAttrs_list PySem.F.slot_list_append PySem.F.type_list_append mt_append (pe_var hN hv hd hcd) (pa_cons he pa_nil hs) hbase hfew hline hs rfl) hs') fun Ds σ H ⟨Z, F0, H0, F, ρ, s, at', g⟩ => by
    obtain ⟨ds, eo, g⟩ := g.lift
    have ho : ρ[i]? = some (some (B.own ds)) := by
      cases h : ρ[i]? with
      | none => rw [h] at eo; cases eo
      | some o =>
        rw [h] at eo
        match o, eo with
        | some (.own es), eo => cases eo; rfl
        | none, eo => cases eo
        | some (.val _), eo => cases eo
    obtain ⟨p, xs, h1, h0, h2, h3, h4, h5⟩ := at'.en.own i ds ho
    refine ⟨_, h1, .inl ⟨rfl, xs, SqL.of h4⟩, Z, H0, F, ρ, s, at'.w, at'.en, g.bind (rel' := relD Z) at' fun d1 s1 v F1 H1 a1 g1 r1 q1 => ?_⟩
    by_cases hb : ds.length < big
    · rw [if_pos hb] at q1
      have h4' := g1.h _ _ h4 h3
      have hF1 : F1 p = none := by rw [g1.k p (by rw [h4]; exact fun q => nomatch q)]; exact h2
      refine ⟨p, xs, v, rfl, rfl, h4', by rw [h5.length]; exact hb, q1.next ⟨⟨a1.g.f, fun b u e n => ?_, a1.g.k, fun b e => ?_⟩, ⟨fun b u e => ?_, a1.w.st.keep (Same.refl _) (fun b u zm e => ?_) fun _ _ => rfl⟩, a1.en.write (xs := xs) ho h1 ((h5.mono g1.f).append (.cons r1 .nil))⟩⟩
      · rw [upd_ne (ne_of_none e h0)]; exact a1.g.h b u e n
      · have : b ≠ p := fun q => e (by rw [q]; exact h0)
        rw [upd_ne this]; exact a1.g.a b e
      · rw [upd_ne (ne_of_none e hF1)]; exact a1.w.sub b u e
      · have : b ≠ p := fun q => h3 (q ▸ zm)
        rw [upd_ne this]; exact e
    · rw [if_neg hb] at q1; exact (q1 : False).elim
/-- the turns of a for -/
theorem for_at {mg : Str → Option Value} {E : XK} {Z : Zt} {F0 H0 F1 H1 : Hp} {Ds : Ends} {σ : L2.St} {ρ : Ev} {s1 : DS} {J : It} {ds : List D} {ix : List Nat} {g : Tgt} (a1 : At Z F0 H0 F1 H1 σ ρ s1) (r1 : ItD Z F1 J ds) (q1 : GoalS mg E Z F0 H0 Ds (forL g f1 ds ρ s1)) :
    ∃ W : Nat → Nat → L2.St → Hp → Prop, (∃ m, W 0 m σ H1) ∧ ∀ i m σ H, W i m σ H → (J.stop i H ∧ Ds.nx σ H) ∨ (J.go i H ∧ ∃ N : L2.St → Hp → Prop, (∀ σ' H', N σ' H' → ∃ m', m' < m ∧ W (i + 1) m' σ' H') ∧
      ∀ x H', J.yld i H x H' → tG ix g x σ H' fun σ2 H2 => tS mg E f1 { Ds with nx := N, ct := N, bk := Ds.nx } σ2 H2) := by
  refine for_it r1.walk (fun i σ H => ∃ F ρ s, At Z F0 H0 F H σ ρ s ∧ Same F1 F ∧ GoalS mg E Z F0 H0 Ds (forL g f1 (ds.drop i) ρ s)) ⟨F1, ρ, s1, a1, Same.refl _, q1⟩ (fun i σ H _ ⟨F, ρ, s, a, sm, _⟩ => sm.trans a.w.sub) (fun i x σ H H' hi ⟨F, ρ, s, a, sm, gl⟩ y => ?_) (fun σ H ⟨F, ρ, s, a, sm, gl⟩ => ?_)
  · obtain ⟨d, hdr, y⟩ := Yd.split y
    rw [hdr] at gl
    obtain ⟨ρ', eg, gl⟩ := GoalS.lift (o := g d ρ) (f := fun ρ' => f1 ρ' >>= forT (forL g f1 (ds.drop (i + 1)))) gl
    have body : ∀ {F2 H2 : Hp} {σ2 : L2.St}, At Z F0 H0 F2 H2 σ2 ρ' s → Same F1 F2 → tS mg E f1 { Ds with nx := fun σ H => ∃ F ρ s, At Z F0 H0 F H σ ρ s ∧ Same F1 F ∧ GoalS mg E Z F0 H0 Ds (forL g f1 (ds.drop (i + 1)) ρ s), ct := fun σ H => ∃ F ρ s, At Z F0 H0 F H σ ρ s ∧ Same F1 F ∧ GoalS mg E Z F0 H0 Ds (forL g f1 (ds.drop (i + 1)) ρ s), bk := Ds.nx } σ2 H2 := by
      intro F2 H2 σ2 a2 sm2
      have rb : ∀ {F H : Hp}, Grow Z F2 H0 F H → Grow Z F0 H0 F H := fun g => Grow.reb a2.g.f a2.g.k g
      refine ⟨Z, F2, H0, F2, ρ', s, ⟨⟨Same.refl _, a2.g.h, fun _ _ => rfl, a2.g.a⟩, a2.w, a2.en⟩, gl.seqB (fun _ _ g => rb g) (fun ρ1 s1 q σ3 F3 H3 g3 w3 en3 => ⟨F3, ρ1, s1, ⟨rb g3, w3, en3⟩, sm2.trans g3.f, q⟩)
        (fun ρ1 s1 q σ3 F3 H3 g3 w3 en3 => GoalS.next q ⟨rb g3, w3, en3⟩) (fun ρ1 s1 q σ3 F3 H3 g3 w3 en3 => ⟨F3, ρ1, s1, ⟨rb g3, w3, en3⟩, sm2.trans g3.f, q⟩) (fun d s1 q v F3 H3 g3 w3 r3 => q v F3 H3 (rb g3) w3 r3)⟩
    rcases y with ⟨rfl, r⟩ | ⟨T, us, es, rfl, hT, rfl, rfl, rs⟩
    · exact ⟨Z, H0, F, ρ, s, d, ρ', a.w, a.en, r.mono sm, eg, fun σ' en' _ => body ⟨a.g, a.w, en'⟩ sm⟩
    · have g2 : Grow Z F H (upd F T (.tup us)) (upd H T (.tup us)) := Grow.new hT a.w.sub
      exact ⟨Z, H0, upd F T (.tup us), ρ, s, _, ρ', a.w.new hT, a.en.grow g2, .tup upd_same (rs.mono (sm.trans g2.f)), eg, fun σ' en' _ => body ⟨a.g.trans g2, a.w.new hT, en'⟩ (sm.trans g2.f)⟩
  · have hd : ds.drop ds.length = [] := by simp
    rw [hd] at gl
    exact GoalS.next gl a
theorem ds_for {tg iter : Expr} {body : List Stmt} {ix : List Nat} {g : Tgt} {src : Ev → M (List D)} (G : Good X E k) (hi : PI X tg iter (tI X.mg E src)) (hg : PG X tg (tG ix g)) (hb : PSs X body (tS X.mg E f1)) (hs : ∀ x, foldedSetIterable iter X.env x = pure x := by intro _; rfl) :
    PS X (.For tg iter body [] pos) (tS X.mg E (sFor g src f1)) :=
  PS.imp (ps_for G.own G.calm hi hg hb hs) fun Ds σ H ⟨Z, F0, H0, F, ρ, s, at', gl⟩ =>
    ⟨Z, H0, F, ρ, s, at'.w, at'.en, gl.bind (rel' := fun F' J ds => ItD Z F' J ds) at' fun ds s1 J F1 H1 a1 g1 r1 q1 => for_at a1 r1 q1⟩
theorem ds_while (n : Nat) {body : List Stmt} (G : Good X E k) (hc : PT X c (tB' X.mg E t)) (hb : PSs X body (tS X.mg E f1)) : PS X (.While c body [] pos) (tS X.mg E (whL t f1 n)) :=
  PS.imp (ps_while G.own hc hb) fun Ds σ H ⟨Z, F0, H0, F, ρ, s, at', gl⟩ => by
    refine ⟨fun m σ H => ∃ F ρ s, At Z F0 H0 F H σ ρ s ∧ GoalS X.mg E Z F0 H0 Ds (whL t f1 m ρ s), ⟨n, F, ρ, s, at', gl⟩, fun m σ H ⟨F, ρ, s, a, gl⟩ => ?_⟩
    cases m with
    | zero => exact gl.elim
    | succ m =>
      refine ⟨Z, H0, F, ρ, s, a.w, a.en, GoalS.bind (rel' := relB) a gl fun c s1 c' F1 H1 a1 _ r1 q1 => ?_⟩
      obtain rfl : c' = c := r1
      cases c' with
      | false =>
        rw [if_neg Bool.false_ne_true] at q1 ⊢
        exact GoalS.next q1 a1
      | true =>
        rw [if_pos rfl] at q1 ⊢
        refine ⟨fun σ H => ∃ F ρ s, At Z F0 H0 F H σ ρ s ∧ GoalS X.mg E Z F0 H0 Ds (whL t f1 m ρ s), fun σ' H' h => ⟨m, Nat.lt_succ_self m, h⟩, Z, F0, H0, F1, ρ, s1, a1, GoalS.seq q1 (fun ρ1 s1 q σ3 F3 H3 g3 w3 en3 => ⟨F3, ρ1, s1, ⟨g3, w3, en3⟩, q⟩)
          (fun ρ1 s1 q σ3 F3 H3 g3 w3 en3 => GoalS.next q ⟨g3, w3, en3⟩) (fun ρ1 s1 q σ3 F3 H3 g3 w3 en3 => ⟨F3, ρ1, s1, ⟨g3, w3, en3⟩, q⟩) (fun d s1 q v F3 H3 g3 w3 r3 => q v F3 H3 g3 w3 r3)⟩
end

/-! ### a def -/
/-- the data at the entry: the arguments, then nothing -/
def startE (n : Nat) (ds : List D) : Ev := ds.map (fun d => some (B.val d)) ++ List.replicate (n - ds.length) none
def outM (f : Sm) (n : Nat) : List D → M D := fun ds => f (startE n ds) >>= fun o => match o with
  | .rt d => pure d
  | .nx _ => pure .non
  | _ => M.fail
theorem startE_get {n : Nat} {ds : List D} {i : Nat} {b : B} (h : (startE n ds)[i]? = some (some b)) : ∃ d, b = .val d ∧ ds[i]? = some d ∧ i < ds.length := by
  unfold startE at h
  by_cases hi : i < ds.length
  · rw [List.getElem?_append_left (by simpa using hi), List.getElem?_map] at h
    cases hd : ds[i]? with
    | none => rw [hd] at h; cases h
    | some d =>
      rw [hd] at h
      have h2 : B.val d = b := Option.some.inj (Option.some.inj h)
      exact ⟨d, h2.symm, rfl, hi⟩
  · rw [List.getElem?_append_right (by simpa using hi), List.getElem?_replicate] at h
    split at h <;> cases h
theorem startR {Z : Zt} {F H : Hp} {N : List Str} {vs : List V} {ds : List D} (r : Reps Z F vs ds) (hl : vs.length ≤ N.length) : EnvR Z H F H (L2.start N vs) (startE N.length ds) := by
  have no : ∀ {i : Nat} {b : B}, (startE N.length ds)[i]? = some (some b) → ∃ d, b = .val d := fun h => let ⟨d, e, _⟩ := startE_get h; ⟨d, e⟩
  refine ⟨⟨?_, fun i d h => ?_, fun i es h => ?_, fun i j es fs h _ _ => ?_⟩, ⟨fun i es h => ?_, fun i es h => ?_, fun i j es fs h _ _ => ?_⟩⟩
  · unfold L2.start startE
    rw [List.length_append, List.length_append, List.length_map, List.length_map, List.length_replicate, List.length_replicate, r.length]
  · obtain ⟨d', e, hd, hi⟩ := startE_get h
    cases e
    obtain ⟨v, h1, h2⟩ := r.get hd
    refine ⟨v, ?_, h2⟩
    unfold L2.start
    rw [List.getElem?_append_left (by rw [List.length_map, r.length]; exact hi), List.getElem?_map, h1]
    rfl
  all_goals (obtain ⟨d, e⟩ := no h; cases e)
/-- THE RULE for a def -/
theorem def_ok {P : Program} {w : World} {K : PySem.W.Frag} {mg : Str → Option Value} {base : Heap} {x qual : Str} {params : Arguments} {body : List Stmt} {scope : Scope} {f : Addr} {fd : FuncData} {N ps : List Str} {k : Nat} {m : Sm}
    (F : FunD K x qual params body scope [] [] f fd) (hm : mg x = some (.ref f)) (hb : Binds K fd ps []) (S : FnScope N ps scope) (n : Nat) (hn : n = ps.length) (hN : n ≤ N.length)
    (hbody : ∀ (cdv : Value) (A : Around) (outer : List Env) (s : Shared) (H : Hp) (E : XK), Good (cxOf (L2.CX P w) P w K mg base N qual scope f cdv A outer s H E) E k → PSs (cxOf (L2.CX P w) P w K mg base N qual scope f cdv A outer s H E) body (tS mg E m)) :
    DefOk P w K mg base (k + 1) x n (outM m N.length) := by
  subst hn
  refine ⟨f, fd, ps, FunD.ok F S (fun vs H Q E h => h.1) (fun cdv A outer s H vs Q E hr h => ?_), hm, F.kp, hb⟩
  obtain ⟨hl, Z, F', ds, d0, w', r, g⟩ := h
  have G : Good (cxOf (L2.CX P w) P w K mg base N qual scope f cdv A outer s H E) E k := ⟨rfl, hr, S.nd, takes_of rfl rfl rfl rfl, passes_of rfl⟩
  refine ⟨_, hbody cdv A outer s H E G, Z, F', H, F', startE N.length ds, d0, ⟨Grow.refl, w', startR r (by rw [hl]; exact hN)⟩, ?_⟩
  have g' : Goal (relD Z) mg E Z F' H Q (M.bind (m (startE N.length ds)) (fun o => match o with
    | .rt d => pure d
    | .nx _ => pure .non
    | _ => M.fail) d0) := g
  unfold M.bind at g'
  match hm : m (startE N.length ds) d0, g' with
  | some (.ok (.nx ρ1), s1), g' => exact fun σ F H g w en => g' .non F H g w .non
  | some (.ok (.rt d), s1), g' => exact fun v F H g w r => g' v F H g w r
  | some (.error e, s1), g' => exact g'
end DL

set_option Elab.async false
set_option linter.all false
set_option maxRecDepth 100000
set_option maxHeartbeats 4000000
/-! D layer 10: isinstance, methods of texts and ints, tuple(range(..)), starred displays. -/
namespace DL
open PySem PySem.Spec PyProof.Rows L2

inductive Ty where
  | int | bool | str | list | tuple
def Ty.nm : Ty → String
  | .int => "int"
  | .bool => "bool"
  | .str => "str"
  | .list => "list"
  | .tuple => "tuple"
def isTy : Ty → D → Option Bool
  | .int, .int _ => some true
  | .int, .bl _ => some true
  | .bool, .bl _ => some true
  | .str, .str _ => some true
  | .list, .lst _ => some true
  | .tuple, .tup _ => some true
  | _, .st => none
  | _, .opq _ => none
  | _, _ => some false
def tyN : D → String
  | .non => "NoneType"
  | .bl _ => "bool"
  | .int _ => "int"
  | .str _ => "str"
  | .lst _ => "list"
  | .tup _ => "tuple"
  | _ => ""
theorem isTy_kit {T : Ty} {d : D} {b : Bool} (h : isTy T d = some b) : kitB (tyN d) T.nm = some b := by
  cases T <;> cases d <;> first
    | (cases h; done)
    | (cases h; kernel_rfl)
theorem tyx_of {K : PySem.W.Frag} {Z : Zt} {F H : Hp} {v : V} {d : D} {T : Ty} {b : Bool} (w : Same F H) (r : Rep Z F v d) (h : isTy T d = some b) : TyX K H v (.type (tyN d)) := by
  cases r with
  | non => exact .base .non
  | bl x => exact .base (.bl x)
  | int i => exact .base (.int i)
  | str z => exact .base (.str z)
  | lst ha _ => exact .base (.lst (w _ _ ha))
  | tup ha _ => exact .base (.tup (w _ _ ha))
  | st _ => cases T <;> cases h
  | opq _ => cases T <;> cases h
def dIsi (T : Ty) (a : Ev → M D) : Ev → M D := fun ρ => do
  let x ← a ρ
  M.lift ((isTy T x).map D.bl)
def isRow (d : D) : Option Bool := match isTy .list d, isTy .tuple d with
  | some a, some b => some (a || b)
  | _, _ => none
def dIsiR (a : Ev → M D) : Ev → M D := fun ρ => do
  let x ← a ρ
  M.lift ((isRow x).map D.bl)
section
variable {X : Cx} {E : XK} {k : Nat} {e e2 o : Expr} {es : List Expr} {pos p p2 : Pos} {fa fb : Ev → M D} {fs : Ev → M (List D)} {x y : Str} {T : Ty}
theorem pe_ty {x : Str} {t : String} (hg : Gl X x) (hm : X.mg x = none) (hv : bootBuiltins x = some (.type t)) (hn : x ≠ "__name__" := by decide) (hdb : (x == ("__debug__" : Str)) = false := by decide) : PE X (.Name x p) (tC (.ty t)) :=
  ⟨fun pins s σ H Q I h => ld_blt I hg hm hv ⟨.ty t, H, I, rfl, h⟩ hn hdb⟩
theorem Goal.lift' {α β : Type} {rel : Hp → β → α → Prop} {mg : Str → Option Value} {E : XK} {Z : Zt} {F H : Hp} {Q : β → Hp → Prop} {s : DS} {γ : Type} {o : Option γ} {f : γ → α} (h : Goal rel mg E Z F H Q ((M.lift (o.map f) : M α) s)) : ∃ d, o = some d ∧ ∀ v F' H', Grow Z F H F' H' → Wd Z s F' H' → rel F' v (f d) → Q v H' := by
  cases o with
  | none => exact h.elim
  | some d => exact ⟨d, rfl, h⟩
theorem de_isi (T : Ty) (hg : Gl X "isinstance") (hm : X.mg "isinstance" = none) (ha : PE X e (tD X.mg E fa)) (hgT : Gl X x) (hmT : X.mg x = none) (hvT : bootBuiltins x = some (.type T.nm)) (hn : x ≠ "__name__" := by decide) (hdb : (x == ("__debug__" : Str)) = false := by decide)
    (hs : starEach [e, .Name x p2] X.env = (false, eval e X.env) :: starEach [.Name x p2] X.env := by rfl) (hpl : (backTo pos (starEach [.Name x p2] X.env)).any (·.1) = false := by rfl) :
    PE X (.Call (.Name "isinstance" p) [e, .Name x p2] [] pos) (tD X.mg E (dIsi T fa)) :=
  PE.imp (pe_callB (call_isi (X := X)) hg hm boot_isinstance (pa_cons ha (pa_cons (pe_ty hgT hmT hvT hn hdb) pa_nil rfl) hs) (he := hs) (hpl := hpl)) fun σ H Q ⟨Z, H0, F, ρ, s, w, en, g⟩ => by
    refine ⟨Z, H0, F, ρ, s, w, en, g.bind (rel' := relD Z) fun d1 s1 v F1 H1 g1 w1 r1 q1 => ?_⟩
    obtain ⟨b, eb, q⟩ := q1.lift'
    exact ⟨v, .ty T.nm, _, _, b, rfl, .ty _, tyx_of w1.sub r1 eb, kit_ty (isTy_kit eb), q (.bl b) F1 H1 Grow.refl w1 (.bl b)⟩
theorem de_isiR {k2 : Nat} {p3 p4 : Pos} (hg : Gl X "isinstance") (hm : X.mg "isinstance" = none) (ha : PE X e (tD X.mg E fa)) (hg1 : Gl X "list") (hm1 : X.mg "list" = none) (hg2 : Gl X "tuple") (hm2 : X.mg "tuple" = none)
    (hs : starEach [e, .Tuple [.Name "list" p3, .Name "tuple" p4] k2 p2] X.env = (false, eval e X.env) :: starEach [.Tuple [.Name "list" p3, .Name "tuple" p4] k2 p2] X.env := by rfl) (hpl : (backTo pos (starEach [.Tuple [.Name "list" p3, .Name "tuple" p4] k2 p2] X.env)).any (·.1) = false := by rfl) :
    PE X (.Call (.Name "isinstance" p) [e, .Tuple [.Name "list" p3, .Name "tuple" p4] k2 p2] [] pos) (tD X.mg E (dIsiR fa)) :=
  PE.imp (pe_callB (call_isiT (X := X)) hg hm boot_isinstance (pa_cons ha (pa_cons (pe_tup (pa_cons (pe_ty hg1 hm1 boot_list) (pa_cons (pe_ty hg2 hm2 boot_tuple) pa_nil rfl) rfl)) pa_nil rfl) hs) (he := hs) (hpl := hpl)) fun σ H Q ⟨Z, H0, F, ρ, s, w, en, g⟩ => by
    refine ⟨Z, H0, F, ρ, s, w, en, g.bind (rel' := relD Z) fun d1 s1 v F1 H1 g1 w1 r1 q1 => ?_⟩
    obtain ⟨b, eb, q⟩ := q1.lift'
    refine ⟨by show 2 ≤ sizeLine; decide, fun tp htp => ?_⟩
    unfold isRow at eb
    cases h1 : isTy .list d1 with
    | none => rw [h1] at eb; cases eb
    | some b1 =>
      cases h2 : isTy .tuple d1 with
      | none => rw [h1, h2] at eb; cases eb
      | some b2 =>
        rw [h1, h2] at eb
        cases eb
        have g2 : Grow Z F1 H1 (upd F1 tp (.tup [.ty "list", .ty "tuple"])) (upd H1 tp (.tup [.ty "list", .ty "tuple"])) := Grow.new htp w1.sub
        refine ⟨v, tp, _, _, _, b1 || b2, rfl, upd_same, .cons (.ty "list") (.cons (.ty "tuple") .nil), tyx_of (w1.new htp).sub (r1.mono g2.f) h1, ?_, q (.bl (b1 || b2)) _ _ g2 (w1.new htp) (.bl _)⟩
        have k1 : PySem.W.kitOne X.K (.type (tyN d1)) (.type "list") = some b1 := kit_ty (isTy_kit (T := .list) h1)
        have k2' : PySem.W.kitOne X.K (.type (tyN d1)) (.type "tuple") = some b2 := kit_ty (isTy_kit (T := .tuple) h2)
        refine kitAny_cons k1 (fun e1 => kitAny_cons k2' (fun e2 => ?_) fun e2 => ?_) fun e1 => ?_
        · rw [e1, e2]; exact kitAny_nil
        · rw [e1, e2]; rfl
        · rw [e1]; rfl

/-! ### methods -/
def idx1abc : D → List D → Option D
  | .str a, [.str b] => if a = "1abc" then (match b.cps.toList with
    | [49] => some (.int 0)
    | [97] => some (.int 1)
    | [98] => some (.int 2)
    | [99] => some (.int 3)
    | _ => none) else none
  | _, _ => none
theorem str_eq {b : Str} {c : Nat} (h : b.cps.toList = [c]) : b = ⟨#[c]⟩ := by
  obtain ⟨a⟩ := b
  have : a = #[c] := by
    apply Array.toList_inj.mp
    exact h
  rw [this]
theorem idx_ok {a b : D} {d : D} (h : idx1abc a [b] = some d) : ∃ (x y : Str) (k : Nat), a = .str x ∧ b = .str y ∧ d = .int k ∧ Txt.index0 x y = some k := by
  match a, b, h with
  | .str x, .str y, h =>
    have h' : (if x = "1abc" then (match y.cps.toList with
      | [49] => some (D.int 0)
      | [97] => some (.int 1)
      | [98] => some (.int 2)
      | [99] => some (.int 3)
      | _ => none) else none) = some d := h
    by_cases hx : x = "1abc"
    · rw [if_pos hx] at h'
      subst hx
      split at h'
      · rename_i e
        cases h'
        exact ⟨_, _, 0, rfl, rfl, rfl, by rw [str_eq e]; decide +kernel⟩
      · rename_i e
        cases h'
        exact ⟨_, _, 1, rfl, rfl, rfl, by rw [str_eq e]; decide +kernel⟩
      · rename_i e
        cases h'
        exact ⟨_, _, 2, rfl, rfl, rfl, by rw [str_eq e]; decide +kernel⟩
      · rename_i e
        cases h'
        exact ⟨_, _, 3, rfl, rfl, rfl, by rw [str_eq e]; decide +kernel⟩
      · cases h'
    · rw [if_neg hx] at h'; cases h'
theorem ty_str {K : PySem.W.Frag} {x : Str} {H : Hp} : tyV K "str" (.str x) H := rfl
def asS : D → Option Str
  | .str z => some z
  | _ => none
def asI : D → Option Int
  | .int z => some z
  | _ => none
def dMtS (f : Str → List D → Option D) (a : Ev → M D) (r : Ev → M (List D)) : Ev → M D := fun ρ => do
  let x ← a ρ
  let z ← M.lift (asS x)
  let xs ← r ρ
  M.lift (f z xs)
theorem mtS_read {f : Str → List D → Option D} {r : L2.St → V → List V → Hp → VK → Prop} {mg : Str → Option Value} {K : PySem.W.Frag}
    (hr : ∀ {Z : Zt} {F H : Hp} {s : DS} {σ : L2.St} {z : Str} {ds : List D} {vs : List V} {d : D} {Q : VK}, Wd Z s F H → Reps Z F vs ds → f z ds = some d → (∀ v F' H', Grow Z F H F' H' → Wd Z s F' H' → Rep Z F' v d → Q v H') → r σ (.str z) vs H Q)
    {σ : L2.St} {H : Hp} {Q : VK} (h : tD mg E (dMtS f fa fs) σ H Q) : tBMS K "str" r (tD mg E fa) (tA' mg E fs) σ H Q := by
  obtain ⟨Z, H0, F, ρ, s, w, en, g⟩ := h
  refine ⟨Z, H0, F, ρ, s, w, en, g.bind (rel' := relD Z) fun d1 s1 v F1 H1 g1 w1 r1 q1 => ?_⟩
  cases hz : asS d1 with
  | none => rw [hz] at q1; exact (q1 : False).elim
  | some z =>
    rw [hz] at q1
    have e1 : d1 = .str z := by
      cases d1 <;> first | (cases hz; done) | (cases hz; rfl)
    subst e1
    cases r1
    refine ⟨ty_str, Z, H0, F1, ρ, s1, w1, en.grow g1, ?_⟩
    have q2 : Goal (relD Z) mg E Z F1 H1 Q ((fs ρ >>= fun xs => M.lift (f z xs)) s1) := q1
    refine q2.bind (rel' := relL Z) fun ds s2 vs F2 H2 g2 w2 r2 q2 => ?_
    obtain ⟨d, e, q⟩ := q2.lift
    exact hr w2 r2 e q
theorem tBMS_of {T : String} {K : PySem.W.Frag} {r : V → List V → Hp → VK → Prop} {to : TE} {t : TA} {σ : L2.St} {H : Hp} {Q : VK} (h : tBMS K T (fun _ => r) to t σ H Q) : tBM K T r to t σ H Q := h
section
variable {apos : Pos}
theorem de_index (G : Good X E k) (ho : PE X o (tD X.mg E fa)) (ha : PE X e (tD X.mg E fb)) (hbase : attributeBase o "index" X.env (eval o X.env) = eval o X.env := by rfl)
    (hfew : ((backTo pos (starEach [e] X.env)).all (fun x => !x.1) && (backToKw pos (keywordEach [] X.env)).all (fun x => x.1.isSome)
      && decide ([e].length + ([] : List Keyword).length + (if ([] : List Keyword).isEmpty then 0 else 1) < 30)) = true := by rfl)
    (hline : (apos.endLine == pos.line) = true := by rfl) (hs : starEach [e] X.env = (false, eval e X.env) :: starEach [] X.env := by rfl) :
    PE X (.Call (.Attribute o "index" apos) [e] [] pos) (tD X.mg E (dMtS (fun z xs => idx1abc (.str z) xs) fa (aCons fb aNil))) :=
  PE.imp (pe_bmS PySem.F.plainAttrs_str PySem.F.slot_str_index PySem.F.type_str_index (mt_indexX G.calm G.tk) ho (da_cons ha da_nil hs) hbase hfew hline hs rfl) fun σ H Q h => mtS_read (fun {Z F H s σ z ds vs d Q} w r e q => by
    match ds, r, e with
    | [b], .cons rb .nil, e =>
      obtain ⟨x, y, k, e1, rfl, rfl, hk⟩ := idx_ok e
      cases e1
      cases rb
      exact ⟨_, _, rfl, rfl, fun j hj => by rw [hk] at hj; cases hj; exact q _ F H Grow.refl w (.int _), fun hn => by rw [hk] at hn; cases hn⟩
    | [], _, e => cases e
    | a :: _ :: _, _, e => cases a <;> cases e) h
def cntS (z : Str) : List D → Option D
  | [.str y] => some (.int (Txt.count z y))
  | _ => none
theorem de_count (ho : PE X o (tD X.mg E fa)) (ha : PE X e (tD X.mg E fb)) (hbase : attributeBase o "count" X.env (eval o X.env) = eval o X.env := by rfl)
    (hfew : ((backTo pos (starEach [e] X.env)).all (fun x => !x.1) && (backToKw pos (keywordEach [] X.env)).all (fun x => x.1.isSome)
      && decide ([e].length + ([] : List Keyword).length + (if ([] : List Keyword).isEmpty then 0 else 1) < 30)) = true := by rfl)
    (hline : (apos.endLine == pos.line) = true := by rfl) (hs : starEach [e] X.env = (false, eval e X.env) :: starEach [] X.env := by rfl) :
    PE X (.Call (.Attribute o "count" apos) [e] [] pos) (tD X.mg E (dMtS cntS fa (aCons fb aNil))) :=
  PE.imp (pe_bm PySem.F.plainAttrs_str PySem.F.slot_str_count PySem.F.type_str_count mt_count ho (da_cons ha da_nil hs) hbase hfew hline hs rfl) fun σ H Q h => tBMS_of (mtS_read (fun {Z F H s σ z ds vs d Q} w r e q => by
    match ds, r, e with
    | [.str b], .cons rb .nil, e =>
      cases e
      cases rb
      exact ⟨_, _, rfl, rfl, q _ F H Grow.refl w (.int _)⟩
    | [], _, e => cases e
    | a :: _ :: _, _, e => cases a <;> cases e
    | [.non], _, e => cases e
    | [.bl _], _, e => cases e
    | [.int _], _, e => cases e
    | [.lst _], _, e => cases e
    | [.tup _], _, e => cases e
    | [.st], _, e => cases e
    | [.opq _], _, e => cases e) h)
def noStr : D → Bool
  | .str _ => false
  | _ => true
def joinS (z : Str) : List D → Option D
  | [d] => match itemsD d with
    | some ds => match strsOf ds with
      | some ys => if noStr d = true ∧ (ys.map (·.length)).sum + ys.length * z.length ≤ 16777216 then some (.str (Txt.join z ys)) else none
      | none => none
    | none => none
  | _ => none
theorem de_join (ho : PE X o (tD X.mg E fa)) (ha : PE X e (tD X.mg E fb)) (hbase : attributeBase o "join" X.env (eval o X.env) = eval o X.env := by rfl)
    (hfew : ((backTo pos (starEach [e] X.env)).all (fun x => !x.1) && (backToKw pos (keywordEach [] X.env)).all (fun x => x.1.isSome)
      && decide ([e].length + ([] : List Keyword).length + (if ([] : List Keyword).isEmpty then 0 else 1) < 30)) = true := by rfl)
    (hline : (apos.endLine == pos.line) = true := by rfl) (hs : starEach [e] X.env = (false, eval e X.env) :: starEach [] X.env := by rfl) :
    PE X (.Call (.Attribute o "join" apos) [e] [] pos) (tD X.mg E (dMtS joinS fa (aCons fb aNil))) :=
  PE.imp (pe_bm PySem.F.plainAttrs_str PySem.F.slot_str_join PySem.F.type_str_join mt_join ho (da_cons ha da_nil hs) hbase hfew hline hs rfl) fun σ H Q h => tBMS_of (mtS_read (fun {Z F H s σ z ds vs d Q} w r e q => by
    match ds, r, e with
    | [b], .cons rb .nil, e =>
      have e' : (match itemsD b with
        | some ds => match strsOf ds with
          | some ys => if noStr b = true ∧ (ys.map (·.length)).sum + ys.length * z.length ≤ 16777216 then some (D.str (Txt.join z ys)) else none
          | none => none
        | none => none) = some d := e
      cases h1 : itemsD b with
      | none => rw [h1] at e'; cases e'
      | some ds =>
        cases h2 : strsOf ds with
        | none => simp only [h1, h2] at e'; cases e'
        | some ys =>
          simp only [h1, h2] at e'
          obtain ⟨⟨hb, hz⟩, e2⟩ := ite_some e'
          subst e2
          cases rb with
          | lst hp r =>
            cases h1
            exact ⟨_, _, ys, rfl, rfl, .inl (SqL.of (w.sub _ _ (by rw [hp, strs_rep h2 r]))), hz, q _ F H Grow.refl w (.str _)⟩
          | tup hp r =>
            cases h1
            exact ⟨_, _, ys, rfl, rfl, .inr (SqT.of (w.sub _ _ (by rw [hp, strs_rep h2 r]))), hz, q _ F H Grow.refl w (.str _)⟩
          | str _ => cases hb
          | _ => cases h1
    | [], _, e => cases e
    | _ :: _ :: _, _, e => cases e) h)
def bitsD : D → Option D
  | .int i => some (.int (Builtin.Int.intBits i : Nat))
  | _ => none
theorem de_bits (ho : PE X o (tD X.mg E fa)) (hbase : attributeBase o "bit_length" X.env (eval o X.env) = eval o X.env := by rfl) (hline : (apos.endLine == pos.line) = true := by rfl) : PE X (.Call (.Attribute o "bit_length" apos) [] [] pos) (tD X.mg E (un1 bitsD fa)) :=
  PE.imp (pe_bits ho hbase hline) fun σ H Q ⟨Z, H0, F, ρ, s, w, en, g⟩ => by
    refine ⟨Z, H0, F, ρ, s, w, en, g.bind (rel' := relD Z) fun d1 s1 v F1 H1 g1 w1 r1 q1 => ?_⟩
    obtain ⟨d, e, q⟩ := q1.lift
    match d1, r1, e with
    | .int i, .int _, e => cases e; exact ⟨i, rfl, q _ F1 H1 Grow.refl w1 (.int _)⟩
    | .non, _, e => cases e
    | .bl _, _, e => cases e
    | .str _, _, e => cases e
    | .lst _, _, e => cases e
    | .tup _, _, e => cases e
    | .st, _, e => cases e
    | .opq _, _, e => cases e
end

/-! ### tuple(range(..)), starred -/
def rgOk (a b : Int) : Bool := decide (-(2 ^ 62) ≤ a ∧ a < 2 ^ 62 ∧ -(2 ^ 62) ≤ b ∧ b < 2 ^ 62 ∧ (b - a).toNat ≤ 2 ^ 24)
theorem rgV_rep {Z : Zt} {F : Hp} {a b : Int} : Reps Z F (rgV a b) (rngL a 1 (b - a).toNat) := by
  unfold rgV
  have key : ∀ (n k : Nat) (a : Int), Reps Z F ((List.range' k n).map fun i => V.int (a + (i : Nat))) (rngL (a + (k : Nat)) 1 n) := by
    intro n
    induction n with
    | zero => intro k a; exact .nil
    | succ n ih =>
      intro k a
      rw [List.range'_succ, List.map_cons]
      have := ih (k + 1) a
      have e : a + ((k + 1 : Nat) : Int) = a + (k : Nat) + 1 := by omega
      rw [e] at this
      exact .cons (.int _) this
  have := key (b - a).toNat 0 a
  rw [← List.range_eq_range'] at this
  have e : a + ((0 : Nat) : Int) = a := by omega
  rw [e] at this
  exact this
def tupRgD (x y : D) : Option D := match x, y with
  | .int a, .int b => if rgOk a b = true then some (.tup (rngL a 1 (b - a).toNat)) else none
  | _, _ => none
theorem tupRg_ok {x y d : D} (h : tupRgD x y = some d) : ∃ a b, x = .int a ∧ y = .int b ∧ RgOk a b ∧ d = .tup (rngL a 1 (b - a).toNat) := by
  unfold tupRgD at h
  split at h
  · obtain ⟨hb, e⟩ := ite_some h
    rename_i a b
    have h2 : -(2 ^ 62) ≤ a ∧ a < 2 ^ 62 ∧ -(2 ^ 62) ≤ b ∧ b < 2 ^ 62 ∧ (b - a).toNat ≤ 2 ^ 24 := of_decide_eq_true hb
    exact ⟨_, _, rfl, rfl, h2, e.symm⟩
  · cases h
theorem de_tupRg2 {p3 : Pos} (G : Good X E k) (hg : Gl X "tuple") (hm : X.mg "tuple" = none) (hg2 : Gl X "range") (hm2 : X.mg "range" = none) (ha : PE X e (tD X.mg E fa)) (hb : PE X e2 (tD X.mg E fb))
    (na : starEach [e, e2] X.env = (false, eval e X.env) :: starEach [e2] X.env := by rfl) (nb : starEach [e2] X.env = (false, eval e2 X.env) :: starEach [] X.env := by rfl) (hp : (backTo p2 (starEach [e2] X.env)).any (·.1) = false := by rfl) :
    PE X (.Call (.Name "tuple" p) [.Call (.Name "range" p3) [e, e2] [] p2] [] pos) (tD X.mg E (bin2 tupRgD fa fb)) :=
  PE.imp (pe_tupRg G.calm hg hm (prg_2 hg2 hm2 ha hb na nb hp)) fun σ H Q ⟨Z, H0, F, ρ, s, w, en, g⟩ => by
    refine ⟨Z, H0, F, ρ, s, w, en, g.bind (rel' := relD Z) fun d1 s1 v F1 H1 g1 w1 r1 q1 => ?_⟩
    refine ⟨Z, H0, F1, ρ, s1, w1, en.grow g1, q1.bind (rel' := relD Z) fun d2 s2 u F2 H2 g2 w2 r2 q2 => ?_⟩
    obtain ⟨d, e, q⟩ := q2.lift
    obtain ⟨a, b, rfl, rfl, ok, rfl⟩ := tupRg_ok e
    cases r1; cases r2
    refine ⟨a, b, rfl, rfl, ok, fun qa hq => ?_⟩
    exact Kc.tup (s := s2) (fun v F' H' a b c => q v F' H' a b c) w2 rgV_rep qa hq
theorem de_tupRg1 {p3 : Pos} (G : Good X E k) (hg : Gl X "tuple") (hm : X.mg "tuple" = none) (hg2 : Gl X "range") (hm2 : X.mg "range" = none) (ha : PE X e (tD X.mg E fa))
    (na : starEach [e] X.env = (false, eval e X.env) :: starEach [] X.env := by rfl) :
    PE X (.Call (.Name "tuple" p) [.Call (.Name "range" p3) [e] [] p2] [] pos) (tD X.mg E (un1 (tupRgD (.int 0)) fa)) :=
  PE.imp (pe_tupRg G.calm hg hm (prg_1 hg2 hm2 ha na)) fun σ H Q ⟨Z, H0, F, ρ, s, w, en, g⟩ => by
    refine ⟨Z, H0, F, ρ, s, w, en, g.bind (rel' := relD Z) fun d1 s1 v F1 H1 g1 w1 r1 q1 => ?_⟩
    obtain ⟨d, e, q⟩ := q1.lift
    obtain ⟨a, b, e1, rfl, ok, rfl⟩ := tupRg_ok e
    cases e1
    cases r1
    refine ⟨b, rfl, ok, fun qa hq => ?_⟩
    exact Kc.tup (s := s1) (fun v F' H' a b c => q v F' H' a b c) w1 rgV_rep qa hq
def seqD : D → Option (List D)
  | .lst ds => some ds
  | .tup ds => some ds
  | _ => none
def aStar (a : Ev → M D) (r : Ev → M (List D)) : Ev → M (List D) := fun ρ => do
  let x ← a ρ
  let ds ← M.lift (seqD x)
  let xs ← r ρ
  pure (ds ++ xs)
theorem da_star (he : PE X e (tD X.mg E fa)) (hr : PA X es (tA' X.mg E fs)) (hs : starEach (.Starred e p :: es) X.env = (true, eval e X.env) :: starEach es X.env := by rfl) : PA X (.Starred e p :: es) (tA' X.mg E (aStar fa fs)) :=
  PA.imp (StX.pa_star he hr hs) fun σ H Q ⟨Z, H0, F, ρ, s, w, en, g⟩ => by
    refine ⟨Z, H0, F, ρ, s, w, en, g.bind (rel' := relD Z) fun d1 s1 v F1 H1 g1 w1 r1 q1 => ?_⟩
    cases hz : seqD d1 with
    | none => rw [hz] at q1; exact (q1 : False).elim
    | some ds =>
      rw [hz] at q1
      have q2 : Goal (relL Z) X.mg E Z F1 H1 Q ((fs ρ >>= fun xs => pure (ds ++ xs)) s1) := q1
      have fin : ∀ {xs : List V}, Reps Z F1 xs ds → tA' X.mg E fs σ H1 fun ys H2 => Q (xs ++ ys) H2 := fun {xs} r =>
        ⟨Z, H0, F1, ρ, s1, w1, en.grow g1, q2.bind (rel' := relL Z) fun es s2 us F2 H2 g2 w2 r2 q3 => Goal.pureE q3 w2 ((r.mono g2.f).append r2)⟩
      cases r1 with
      | lst hp r => cases hz; exact ⟨_, _, rfl, .inr (SqL.of (w1.sub _ _ hp)), fin r⟩
      | tup hp r => cases hz; exact ⟨_, _, rfl, .inl (SqT.of (w1.sub _ _ hp)), fin r⟩
      | _ => cases hz
end
end DL

set_option Elab.async false
set_option linter.all false
set_option maxRecDepth 100000
set_option maxHeartbeats 4000000
/-! D layer 11: a dict of one's own with int keys. -/
namespace DL
open PySem PySem.Spec PyProof.Rows L2

abbrev KD := List (Int × D)
def kget : KD → Int → Option D
  | [], _ => none
  | (k, d) :: r, n => if k = n then some d else kget r n
def kput (kd : KD) (n : Int) (d : D) : KD := if (kd.any fun q => decide (q.1 = n)) = true then kd.map (fun q => if q.1 = n then (q.1, d) else q) else kd ++ [(n, d)]
def kkeys (kd : KD) : List D := kd.map fun q => .int q.1
section
variable {Z : Zt} {F : Hp}
theorem RepK.length : ∀ {kvs : List (Key × V)} {kd : KD}, RepK Z F kvs kd → kvs.length = kd.length
  | _, _, .nil => rfl
  | _, _, .cons _ r => congrArg Nat.succ r.length
theorem key_dec (k n : Int) : decide ((Sum.inl k : Key) = Sum.inl n) = decide (k = n) := by
  by_cases h : k = n
  · subst h; simp
  · rw [decide_eq_false h, decide_eq_false (fun e => h (Sum.inl.inj e))]
theorem RepK.val {n : Int} : ∀ {kvs : List (Key × V)} {kd : KD} {d : D}, RepK Z F kvs kd → kget kd n = some d → ∃ v, valV kvs (Sum.inl n : Key) = some v ∧ Rep Z F v d
  | _, _, _, .nil, h => by cases h
  | _, _, _, .cons (i := i) (v := v) (d := d') (kvs := kvs) (kd := kd) h r, e => by
    unfold kget at e
    by_cases hk : i = n
    · rw [if_pos hk] at e
      cases e
      exact ⟨v, valV_pos (by rw [hk]), h⟩
    · rw [if_neg hk] at e
      obtain ⟨u, h1, h2⟩ := RepK.val r e
      exact ⟨u, (valV_neg (fun z => hk (Sum.inl.inj z))).trans h1, h2⟩
theorem RepK.any {n : Int} : ∀ {kvs : List (Key × V)} {kd : KD}, RepK Z F kvs kd → (kvs.any fun kv => decide (kv.1 = (Sum.inl n : Key))) = kd.any fun q => decide (q.1 = n)
  | _, _, .nil => rfl
  | _, _, .cons (i := i) h r => by
    rw [List.any_cons, List.any_cons, r.any, key_dec]
theorem RepK.app {n : Int} {v : V} {d : D} (hr : Rep Z F v d) : ∀ {kvs : List (Key × V)} {kd : KD}, RepK Z F kvs kd → RepK Z F (kvs ++ [(.inl n, v)]) (kd ++ [(n, d)])
  | _, _, .nil => .cons hr .nil
  | _, _, .cons h r => .cons h (RepK.app hr r)
theorem RepK.repl {n : Int} {v : V} {d : D} (hr : Rep Z F v d) : ∀ {kvs : List (Key × V)} {kd : KD}, RepK Z F kvs kd →
    RepK Z F (kvs.map fun kv => if kv.1 = (Sum.inl n : Key) then (kv.1, v) else kv) (kd.map fun q => if q.1 = n then (q.1, d) else q)
  | _, _, .nil => .nil
  | _, _, .cons (i := i) h r => by
    rw [List.map_cons, List.map_cons]
    by_cases hk : i = n
    · subst hk
      rw [if_pos rfl, if_pos rfl]
      exact .cons hr (RepK.repl hr r)
    · rw [if_neg hk, if_neg (fun z => hk (Sum.inl.inj z))]
      exact .cons h (RepK.repl hr r)
theorem RepK.put {n : Int} {v : V} {d : D} {kvs : List (Key × V)} {kd : KD} (r : RepK Z F kvs kd) (hr : Rep Z F v d) : RepK Z F (putK kvs (Sum.inl n) v) (kput kd n d) := by
  unfold putK kput
  rw [r.any]
  split
  · exact r.repl hr
  · exact r.app hr
theorem RepK.keys : ∀ {kvs : List (Key × V)} {kd : KD}, RepK Z F kvs kd → Reps Z F (kvs.map fun kv => kV kv.1) (kkeys kd)
  | _, _, .nil => .nil
  | _, _, .cons h r => .cons (.int _) r.keys
theorem RepK.ks : ∀ {kvs : List (Key × V)} {kd : KD}, RepK Z F kvs kd → kvs.map (·.1) = (kd.map (·.1)).map Sum.inl
  | _, _, .nil => rfl
  | _, _, .cons h r => by rw [List.map_cons, List.map_cons, List.map_cons, r.ks]
end
section
variable {Z : Zt} {H0 F H F1 H1 : Hp} {σ : L2.St} {ρ : Ev}
theorem EnvL.setX {i : Nat} {b : Option B} {x : Option V} (e : EnvL Z H0 F H σ ρ) (hd : ∀ p xs, H p = some (.lst xs) → H1 p = some (.lst xs)) (n1 : ∀ d, b ≠ some (.val d)) (n2 : ∀ ds, b ≠ some (.own ds)) : EnvL Z H0 F H1 (σ.set i x) (ρ.set i b) := by
  refine ⟨by rw [List.length_set, List.length_set]; exact e.len, fun j d h => ?_, fun j ds h => ?_, fun j k ds es h1 h2 hs => ?_⟩
  · rcases getset h with ⟨rfl, h, _⟩ | ⟨n, h⟩
    · exact absurd h.symm (n1 d)
    · rw [List.getElem?_set_ne n]; exact e.val j d h
  · rcases getset h with ⟨rfl, h, _⟩ | ⟨n, h⟩
    · exact absurd h.symm (n2 ds)
    · rw [List.getElem?_set_ne n]
      obtain ⟨p, xs, z1, z0, z2, z3, z4, z5⟩ := e.own j ds h
      exact ⟨p, xs, z1, z0, z2, z3, hd _ _ z4, z5⟩
  · rcases getset h1 with ⟨rfl, h, _⟩ | ⟨n1', h1⟩
    · exact absurd h.symm (n2 ds)
    · rcases getset h2 with ⟨rfl, h, _⟩ | ⟨n2', h2⟩
      · exact absurd h.symm (n2 es)
      · rw [List.getElem?_set_ne n1', List.getElem?_set_ne n2'] at hs
        exact e.apart j k ds es h1 h2 hs
theorem EnvL.setX' {i : Nat} {b : Option B} (e : EnvL Z H0 F H σ ρ) (sm : Same F F1) (hd : ∀ p xs, H p = some (.lst xs) → H1 p = some (.lst xs) ∧ F1 p = F p) (n1 : ∀ d, b ≠ some (.val d)) (n2 : ∀ ds, b ≠ some (.own ds)) : EnvL Z H0 F1 H1 σ (ρ.set i b) := by
  refine ⟨by rw [List.length_set]; exact e.len, fun j d h => ?_, fun j ds h => ?_, fun j k ds es h1 h2 hs => ?_⟩
  · rcases getset h with ⟨rfl, h, _⟩ | ⟨n, h⟩
    · exact absurd h.symm (n1 d)
    · obtain ⟨v, z1, z2⟩ := e.val j d h
      exact ⟨v, z1, z2.mono sm⟩
  · rcases getset h with ⟨rfl, h, _⟩ | ⟨n, h⟩
    · exact absurd h.symm (n2 ds)
    · obtain ⟨p, xs, z1, z0, z2, z3, z4, z5⟩ := e.own j ds h
      exact ⟨p, xs, z1, z0, by rw [(hd _ _ z4).2]; exact z2, z3, (hd _ _ z4).1, z5.mono sm⟩
  · rcases getset h1 with ⟨rfl, h, _⟩ | ⟨n1', h1⟩
    · exact absurd h.symm (n2 ds)
    · rcases getset h2 with ⟨rfl, h, _⟩ | ⟨n2', h2⟩
      · exact absurd h.symm (n2 es)
      · exact e.apart j k ds es h1 h2 hs
theorem EnvR.setK {i : Nat} {p : Addr} (e : EnvR Z H0 F H σ ρ) (h0 : H0 p = none) (hp : H p = none) (hz : ¬ Zm Z p) (sub : Same F H) : EnvR Z H0 F (upd H p (.dK [])) (σ.set i (some (V.ref p))) (ρ.set i (some (B.dct []))) := by
  have hf : F p = none := sub.free hp
  have up : ∀ q o, H q = some o → upd H p (.dK []) q = some o := fun q o h => by rw [upd_ne (ne_of_none h hp)]; exact h
  have back : ∀ (j : Nat) kd, ρ[j]? = some (some (B.dct kd)) → σ[j]? ≠ some (some (V.ref p)) := fun j kd h q => by
    obtain ⟨p', kvs, z1, _, _, _, z4, _⟩ := e.dct j kd h
    rw [z1] at q
    cases q
    rw [hp] at z4
    cases z4
  refine ⟨e.toEnvL.setX (fun q xs h => up q _ h) (fun _ h => by cases h) (fun _ h => by cases h), ⟨fun j kd h => ?_, fun j kd h => ?_, fun j k kd ke h1 h2 hs => ?_⟩⟩
  · rcases getset h with ⟨rfl, h, hl⟩ | ⟨n, h⟩
    · cases h
      exact ⟨p, [], by rw [List.getElem?_set_self (by rw [e.len]; exact hl)], h0, hf, hz, upd_same, .nil⟩
    · obtain ⟨p', kvs, z1, z0, z2, z3, z4, z5⟩ := e.dct j kd h
      exact ⟨p', kvs, (List.getElem?_set_ne n).trans z1, z0, z2, z3, up _ _ z4, z5⟩
  · rcases getset h with ⟨rfl, h, hl⟩ | ⟨n, h⟩
    · cases h
    · obtain ⟨p', kvs, o, z1, z2, z3⟩ := e.dcf j kd h
      exact ⟨p', kvs, o, (List.getElem?_set_ne n).trans z1, z2, z3⟩
  · rcases getset h1 with ⟨rfl, _, hl1⟩ | ⟨n1, h1⟩
    · rcases getset h2 with ⟨rfl, _, _⟩ | ⟨n2, h2⟩
      · rfl
      · rw [List.getElem?_set_self (by rw [e.len]; exact hl1), List.getElem?_set_ne n2] at hs
        exact absurd hs.symm (back k ke h2)
    · rcases getset h2 with ⟨rfl, _, hl2⟩ | ⟨n2, h2⟩
      · rw [List.getElem?_set_self (by rw [e.len]; exact hl2), List.getElem?_set_ne n1] at hs
        exact absurd hs (back j kd h1)
      · rw [List.getElem?_set_ne n1, List.getElem?_set_ne n2] at hs
        exact e.apartK j k kd ke h1 h2 hs
theorem EnvR.writeK {i : Nat} {p : Addr} {kvs' : List (Key × V)} {kd kd' : KD} (e : EnvR Z H0 F H σ ρ) (h : ρ[i]? = some (some (B.dct kd))) (hp : σ[i]? = some (some (V.ref p))) (r : RepK Z F kvs' kd') :
    EnvR Z H0 F (upd H p (.dK kvs')) σ (ρ.set i (some (B.dct kd'))) := by
  obtain ⟨p', kvs, h1, h0, h2, h3, h4, h5⟩ := e.dct i kd h
  rw [hp] at h1
  cases h1
  have up : ∀ q xs, H q = some (.lst xs) → upd H p (.dK kvs') q = some (.lst xs) := fun q xs hq => by
    have : q ≠ p := ne_of hq h4 (fun z => by cases z)
    rw [upd_ne this]; exact hq
  refine ⟨e.toEnvL.setX' (Same.refl F) (fun q xs h => ⟨up q _ h, rfl⟩) (fun _ h => by cases h) (fun _ h => by cases h), ⟨fun j ke hj => ?_, fun j ke hj => ?_, fun j k ke kf q1 q2 hs => ?_⟩⟩
  · rcases getset hj with ⟨rfl, hj, hl⟩ | ⟨n, hj⟩
    · cases hj
      exact ⟨p, kvs', hp, h0, h2, h3, upd_same, r⟩
    · obtain ⟨p', kvs2, z1, z0, z2, z3, z4, z5⟩ := e.dct j ke hj
      have hne : p' ≠ p := fun q => by
        subst q
        exact n (e.apartK i j kd ke h hj (hp.trans z1.symm))
      exact ⟨p', kvs2, z1, z0, z2, z3, by rw [upd_ne hne]; exact z4, z5⟩
  · rcases getset hj with ⟨rfl, hj, hl⟩ | ⟨n, hj⟩
    · cases hj
    · exact e.dcf j ke hj
  · have own_of : ∀ {a : Nat} {b : KD}, (ρ.set i (some (B.dct kd')))[a]? = some (some (B.dct b)) → ∃ b', ρ[a]? = some (some (B.dct b')) := fun {a b} q => by
      rcases getset q with ⟨rfl, _, _⟩ | ⟨_, q⟩
      · exact ⟨kd, h⟩
      · exact ⟨b, q⟩
    obtain ⟨b1, z1⟩ := own_of q1
    obtain ⟨b2, z2⟩ := own_of q2
    exact e.apartK j k b1 b2 z1 z2 hs
end

def isDO : Option (Option B) → Option KD
  | some (some (.dct kd)) => some kd
  | _ => none
def isDA : Option (Option B) → Option KD
  | some (some (.dct kd)) => some kd
  | some (some (.dcf kd)) => some kd
  | _ => none
theorem isDO_of {o : Option (Option B)} {kd : KD} (h : isDO o = some kd) : o = some (some (.dct kd)) := by
  match o, h with
  | some (some (.dct k)), h => cases h; rfl
  | none, h => cases h
  | some none, h => cases h
  | some (some (.val _)), h => cases h
  | some (some (.own _)), h => cases h
  | some (some (.dcf _)), h => cases h
theorem isDA_of {o : Option (Option B)} {kd : KD} (h : isDA o = some kd) : o = some (some (.dct kd)) ∨ o = some (some (.dcf kd)) := by
  match o, h with
  | some (some (.dct k)), h => cases h; exact .inl rfl
  | some (some (.dcf k)), h => cases h; exact .inr rfl
  | none, h => cases h
  | some none, h => cases h
  | some (some (.val _)), h => cases h
  | some (some (.own _)), h => cases h
/-- x[e], x a dict of one's own -/
def kgetD (kd : KD) : D → Option D
  | .int n => kget kd n
  | _ => none
def dKget (i : Nat) (a : Ev → M D) : Ev → M D := fun ρ => do
  let kd ← M.lift (isDA ρ[i]?)
  let x ← a ρ
  M.lift (kgetD kd x)
def dKlist (i : Nat) : Ev → M D := fun ρ => do
  let kd ← M.lift (isDO ρ[i]?)
  pure (.lst (kkeys kd))
def dKsort (i : Nat) : Ev → M D := fun ρ => do
  let kd ← M.lift (isDA ρ[i]?)
  if kd.length < 64 then pure (.lst ((isort (kd.map (·.1))).map D.int)) else M.fail
def sNewK2 (i j : Nat) : Sm := fun ρ => pure (.nx ((ρ.set i (some (.dct []))).set j (some (.own []))))
def kputD (kd : KD) (v : D) : D → Option KD
  | .int n => if kd.length < big then some (kput kd n v) else none
  | _ => none
def sKput (i : Nat) (a b : Ev → M D) : Sm := fun ρ => do
  let kd ← M.lift (isDO ρ[i]?)
  let v ← b ρ
  let k ← a ρ
  let kd' ← M.lift (kputD kd v k)
  pure (.nx (ρ.set i (some (.dct kd'))))
theorem Goal.lift2 {α β γ : Type} {rel : Hp → β → α → Prop} {mg : Str → Option Value} {E : XK} {Z : Zt} {F H : Hp} {Q : β → Hp → Prop} {s : DS} {o : Option γ} {f : γ → M α} (h : Goal rel mg E Z F H Q ((M.lift o >>= f) s)) : ∃ d, o = some d ∧ Goal rel mg E Z F H Q (f d s) := by
  cases o with
  | none => exact h.elim
  | some d => exact ⟨d, rfl, h⟩
section
variable {X : Cx} {E : XK} {k : Nat} {e e2 o : Expr} {es : List Expr} {pos p p2 p3 p4 pos' pt : Pos} {fa fb : Ev → M D} {fs : Ev → M (List D)} {x y : Str}
/-- where the dict at slot i stands -/
theorem EnvR.at_dct {Z : Zt} {H0 F H : Hp} {σ : L2.St} {ρ : Ev} {i : Nat} {kd : KD} (en : EnvR Z H0 F H σ ρ) (sub : Same F H) (h : isDA ρ[i]? = some kd) : ∃ p kvs, σ[i]? = some (some (V.ref p)) ∧ Rd H p (.dK kvs) ∧ RepK Z F kvs kd := by
  rcases isDA_of h with h | h
  · obtain ⟨p, kvs, z1, _, _, _, z4, z5⟩ := en.dct i kd h
    exact ⟨p, kvs, z1, .inl z4, z5⟩
  · obtain ⟨p, kvs, o, z1, z2, z3⟩ := en.dcf i kd h
    exact ⟨p, kvs, z1, .inr ⟨o, sub _ _ z2⟩, z3⟩
theorem de_kget (i : Nat) (G : Good X E k) (hN : X.N[i]? = some x) (hv : Vis X.env.scope x) (ha : PE X e (tD X.mg E fa)) (hs : NoSl e) (hd : (x == ("__debug__" : Str)) = false := by decide) (hcd : (x == ("__classdict__" : Str)) = false := by decide) :
    PE X (.Subscript (.Name x p) e pos) (tD X.mg E (dKget i fa)) :=
  PE.imp (pe_dget (by have := G.room.units; omega) (pe_var hN hv hd hcd) ha hs) fun σ H Q ⟨Z, H0, F, ρ, s, w, en, g⟩ => by
    obtain ⟨kd, hk, g⟩ := Goal.lift2 g
    obtain ⟨pa, kvs, h1, _, _⟩ := en.at_dct w.sub hk
    refine ⟨_, h1, Z, H0, F, ρ, s, w, en, g.bind (rel' := relD Z) fun d1 s1 v F1 H1 g1 w1 r1 q1 => ?_⟩
    obtain ⟨pa', kvs', h1', h2', h3'⟩ := (en.grow g1).at_dct w1.sub hk
    rw [h1] at h1'
    cases h1'
    obtain ⟨d, e, q⟩ := q1.lift
    cases d1 with
    | int n =>
      cases r1
      obtain ⟨u, hu, ru⟩ := h3'.val (show kget kd n = some d from e)
      exact ⟨pa, u, rfl, .inl ⟨kvs', .inl n, h2', rfl, hu.symm⟩, q u F1 H1 Grow.refl w1 ru⟩
    | _ => cases e
theorem de_klist (i : Nat) (G : Good X E k) (hg : Gl X "list") (hm : X.mg "list" = none) (hN : X.N[i]? = some x) (hv : Vis X.env.scope x) (hd : (x == ("__debug__" : Str)) = false := by decide) (hcd : (x == ("__classdict__" : Str)) = false := by decide) :
    PE X (.Call (.Name "list" p) [.Name x p2] [] pos) (tD X.mg E (dKlist i)) :=
  PE.imp (pe_callTy (call_list_dK G.calm) hg hm boot_list (pa_cons (pe_var hN hv hd hcd) pa_nil rfl)) fun σ H Q ⟨Z, H0, F, ρ, s, w, en, g⟩ => by
    obtain ⟨kd, hk, g⟩ := Goal.lift2 g
    obtain ⟨pa, kvs, h1, _, _, _, h4, h5⟩ := en.dct i kd (isDO_of hk)
    exact ⟨_, h1, pa, kvs, rfl, h4, fun q hq => Kc.lst (s := s) (fun v F' H' a b c => g v F' H' a b c) w h5.keys q hq⟩
theorem de_ksort (i : Nat) (G : Good X E k) (hg : Gl X "sorted") (hm : X.mg "sorted" = none) (hv' : bootBuiltins "sorted" = some (.builtin "sorted")) (hN : X.N[i]? = some x) (hv : Vis X.env.scope x) (hd : (x == ("__debug__" : Str)) = false := by decide) (hcd : (x == ("__classdict__" : Str)) = false := by decide) :
    PE X (.Call (.Name "sorted" p) [.Name x p2] [] pos) (tD X.mg E (dKsort i)) :=
  PE.imp (pe_callB (call_sortedDI G.calm) hg hm hv' (pa_cons (pe_var hN hv hd hcd) pa_nil rfl)) fun σ H Q ⟨Z, H0, F, ρ, s, w, en, g⟩ => by
    obtain ⟨kd, hk, g⟩ := Goal.lift2 g
    obtain ⟨pa, kvs, h1, h4, h5⟩ := en.at_dct w.sub hk
    obtain ⟨h64, g⟩ := ite_goal g
    refine ⟨_, h1, pa, kvs, kd.map (·.1), rfl, h4, h5.ks, by rw [List.length_map]; exact h64, fun ys q hp ho hq => ?_⟩
    have e : ys = isort (kd.map (·.1)) := sorted_eq (hp.trans (isort_perm _).symm) ho (isort_sorted _)
    subst e
    have rr : Reps Z F ((isort (kd.map (·.1))).map V.int) ((isort (kd.map (·.1))).map D.int) := by
      generalize isort (kd.map (·.1)) = l
      induction l with
      | nil => exact .nil
      | cons a l ih => exact .cons (.int a) ih
    exact Kc.lst (s := s) (fun v F' H' a b c => g v F' H' a b c) w rr q hq
/-- x, y = ({}, []) by a tuple that is made -/
theorem ds_newK2 (i j : Nat) {px py pt pd pl pv : Pos} {kt k2 : Nat} (G : Good X E k) (hi : X.N[i]? = some x) (hj : X.N[j]? = some y) (hx : L2.Loc X.env.scope x) (hy : L2.Loc X.env.scope y) (hfx : X.fn x = true ∨ X.env.scope.names.lookup x = some .local) (hfy : X.fn y = true ∨ X.env.scope.names.lookup y = some .local)
    (hs : swapsWithSole [.Tuple [.Name x px, .Name y py] kt pt] (.Tuple [.Dict [] [] pd, .List [] pl] k2 pv) pos.line X.env = pure false := by rfl) (hw : swappedStores [.Tuple [.Name x px, .Name y py] kt pt] (.Tuple [.Dict [] [] pd, .List [] pl] k2 pv) X.env = pure none := by rfl)
    (h1 : (assignEach [.Tuple [.Name x px, .Name y py] kt pt] X.env).map (·.2) = [assign (.Tuple [.Name x px, .Name y py] kt pt) X.env] := by rfl) :
    PS X (.Assign [.Tuple [.Name x px, .Name y py] kt pt] (.Tuple [.Dict [] [] pd, .List [] pl] k2 pv) pos) (tS X.mg E (sNewK2 i j)) :=
  PS.imp (ps_asg (pe_tup (pa_cons pe_dnewK (pa_cons (pe_lst (pa_nil (X := X))) pa_nil rfl) rfl)) (pg_tup (n := 2) G.calm (pgs_cons (pg_name G.nd hi hx hfx) (pgs_cons (pg_name G.nd hj hy hfy) pgs_nil))) hs hw h1) fun Ds σ H ⟨Z, F0, H0, F, ρ, s, a, g⟩ => by
    intro pa hp
    refine ⟨by show 0 ≤ _; exact Nat.zero_le _, fun q hq => ⟨by show 2 ≤ sizeLine; decide, fun T hT => ?_⟩⟩
    have hpH0 : H0 pa = none := a.g.free hp
    have w1 : Wd Z s F (upd H pa (.dK [])) := a.w.newO hp
    have g1 : Grow Z F0 H0 F (upd H pa (.dK [])) := a.g.trans (Grow.newO hp)
    have hqH0 : H0 q = none := g1.free hq
    have w2 := w1.newO (o := .lst []) hq
    have g2 : Grow Z F0 H0 F (upd (upd H pa (.dK [])) q (.lst [])) := g1.trans (Grow.newO hq)
    have w3 := w2.newO (o := .tup [.ref pa, .ref q]) hT
    have g3 : Grow Z F0 H0 F (upd (upd (upd H pa (.dK [])) q (.lst [])) T (.tup [.ref pa, .ref q])) := g2.trans (Grow.newO hT)
    refine ⟨T, _, rfl, SqT.of upd_same, rfl, _, _, rfl, _, _, rfl, rfl, ?_⟩
    have e1 := a.en.setK (i := i) hpH0 hp (a.w.notZ hp) a.w.sub
    have e2 := e1.setO (i := j) hqH0 hq (w1.notZ hq) w1.sub .nil
    exact g.next ⟨g3, w3, e2.grow (Grow.newO hT)⟩
/-- x[e1] = e2 -/
theorem ds_kput (i : Nat) (G : Good X E k) (hN : X.N[i]? = some x) (hv : Vis X.env.scope x) (ha : PE X e (tD X.mg E fa)) (hb : PE X e2 (tD X.mg E fb)) (hs : swapsWith e2 (some (.Subscript (.Name x p) e pos')) pos.line X.env = pure false := by rfl) (hd : (x == ("__debug__" : Str)) = false := by decide) (hcd : (x == ("__classdict__" : Str)) = false := by decide) :
    PS X (.Assign [.Subscript (.Name x p) e pos'] e2 pos) (tS X.mg E (sKput i fa fb)) :=
  PS.imp (ps_dput (by have := G.room.units; omega) (pe_var hN hv hd hcd) ha hb hs) fun Ds σ H ⟨Z, F0, H0, F, ρ, s, at', g⟩ => by
    obtain ⟨kd, hk, g⟩ := g.lift
    have hk' := isDO_of hk
    obtain ⟨pa, kvs, h1, h0, h2, h3, h4, h5⟩ := at'.en.dct i kd hk'
    refine ⟨Z, H0, F, ρ, s, at'.w, at'.en, g.bind (rel' := relD Z) at' fun d1 s1 v F1 H1 a1 g1 r1 q1 => ?_⟩
    refine ⟨_, h1, Z, H0, F1, ρ, s1, a1.w, a1.en, q1.bind (rel' := relD Z) a1 fun d2 s2 u F2 H2 a2 g2 r2 q2 => ?_⟩
    obtain ⟨kd', e, q3⟩ := q2.lift
    obtain ⟨pa', kvs', z1, _, z2, _, z4, z5⟩ := a2.en.dct i kd hk'
    rw [h1] at z1
    cases z1
    cases d2 with
    | int n =>
      cases r2
      obtain ⟨hl, e⟩ := ite_some (show (if kd.length < big then some (kput kd n d1) else none) = some kd' from e)
      subst e
      refine ⟨pa, _, rfl, DPut.k (k := .inl n) z4 (by rw [z5.length]; exact hl), q3.next ⟨⟨a2.g.f, fun b u e nz => ?_, a2.g.k, fun b e => ?_⟩, ⟨fun b u e => ?_, a2.w.st.keep (Same.refl _) (fun b u zm e => ?_) fun _ _ => rfl⟩, a2.en.writeK hk' h1 (z5.put (r1.mono g2.f))⟩⟩
      · rw [upd_ne (ne_of_none e h0)]; exact a2.g.h b u e nz
      · have : b ≠ pa := fun q => e (by rw [q]; exact h0)
        rw [upd_ne this]; exact a2.g.a b e
      · rw [upd_ne (ne_of_none e z2)]; exact a2.w.sub b u e
      · have : b ≠ pa := fun q => h3 (q ▸ zm)
        rw [upd_ne this]; exact e
    | _ => cases e
end
end DL

set_option Elab.async false
set_option linter.all false
set_option maxRecDepth 100000
set_option maxHeartbeats 4000000
/-! D layer 12: a dict of one's own, locked for a statement. -/
namespace DL
open PySem PySem.Spec PyProof.Rows L2

def remF (F : Hp) (d : Addr) : Hp := fun b => if b = d then none else F b
theorem remF_ne {F : Hp} {d b : Addr} (h : b ≠ d) : remF F d b = F b := if_neg h
theorem remF_same {F : Hp} {d : Addr} : remF F d d = none := if_pos rfl
section
variable {Z : Zt} {F : Hp} {d : Addr} {o : Obj} {u : HO}
theorem rem_at (hd : F d = some (.frz o u)) {b : Addr} {x : HO} (h : F b = some x) (hx : ∀ o u, x ≠ .frz o u) : remF F d b = some x := by
  have : b ≠ d := fun e => by subst e; rw [hd] at h; exact hx _ _ (Option.some.inj h).symm
  rw [remF_ne this]; exact h
mutual
theorem Rep.rem (hd : F d = some (.frz o u)) : ∀ {v : V} {x : D}, Rep Z F v x → Rep Z (remF F d) v x
  | _, _, .non => .non
  | _, _, .bl b => .bl b
  | _, _, .int i => .int i
  | _, _, .str z => .str z
  | _, _, .lst h r => .lst (rem_at hd h (fun _ _ => nofun)) (Reps.rem hd r)
  | _, _, .tup h r => .tup (rem_at hd h (fun _ _ => nofun)) (Reps.rem hd r)
  | _, _, .st h => .st h
  | _, _, .opq v => .opq v
theorem Reps.rem (hd : F d = some (.frz o u)) : ∀ {vs : List V} {xs : List D}, Reps Z F vs xs → Reps Z (remF F d) vs xs
  | _, _, .nil => .nil
  | _, _, .cons h r => .cons (Rep.rem hd h) (Reps.rem hd r)
end
theorem RepK.rem (hd : F d = some (.frz o u)) : ∀ {kvs : List (Key × V)} {kd : KD}, RepK Z F kvs kd → RepK Z (remF F d) kvs kd
  | _, _, .nil => .nil
  | _, _, .cons h r => .cons (h.rem hd) (r.rem hd)
end
section
variable {Z : Zt} {F0 H0 F H F' H' : Hp} {σ : L2.St} {ρ : Ev} {s : DS} {d : Addr} {i : Nat} {kd : KD}
theorem upd_none {H : Hp} {a b : Addr} {o : HO} (h : upd H a o b = none) : b ≠ a ∧ H b = none := by
  by_cases e : b = a
  · subst e; rw [upd_same] at h; cases h
  · rw [upd_ne e] at h; exact ⟨e, h⟩
theorem Same.upd {F F' : Hp} {d : Addr} {z : HO} (h : Same F F') : Same (upd F d z) (upd F' d z) := fun b u e => by
  by_cases hb : b = d
  · subst hb; rw [upd_same] at e ⊢; exact e
  · rw [upd_ne hb] at e ⊢; exact h b u e
theorem At.lock (a : At Z F0 H0 F H σ ρ s) (hk : ρ[i]? = some (some (B.dct kd))) : ∃ d kvs, σ[i]? = some (some (V.ref d)) ∧ H d = some (.dK kvs) ∧ H0 d = none ∧ F0 d = none ∧ ¬ Zm Z d ∧ RepK Z F kvs kd ∧ Same F0 F ∧ F d = none ∧
    ∀ od, At Z (upd F0 d (.frz od (.dK kvs))) (upd H0 d (.frz od (.dK kvs))) (upd F d (.frz od (.dK kvs))) (upd H d (.frz od (.dK kvs))) σ (ρ.set i (some (B.dcf kd))) s := by
  obtain ⟨d, kvs, h1, h0, h2, h3, h4, h5⟩ := a.en.dct i kd hk
  have f0 : F0 d = none := a.g.f.free h2
  refine ⟨d, kvs, h1, h4, h0, f0, h3, h5, a.g.f, h2, fun od => ?_⟩
  generalize hz : HO.frz od (.dK kvs) = z
  have smF : Same F (upd F d z) := fun b u e => by rw [upd_ne (ne_of_none e h2)]; exact e
  have lst : ∀ {b : Addr} {xs : List V}, H b = some (.lst xs) → b ≠ d := fun {b xs} e => ne_of e h4 (fun q => by cases q)
  refine ⟨⟨Same.upd a.g.f, fun b u e n => ?_, fun b e => ?_, fun b e => ?_⟩, ⟨Same.upd a.w.sub, ?_⟩, ⟨⟨by rw [List.length_set]; exact a.en.len, fun j x h => ?_, fun j ds h => ?_, fun j k ds es q1 q2 hs => ?_⟩, ⟨fun j ke h => ?_, fun j ke h => ?_, fun j k ke kf q1 q2 hs => ?_⟩⟩⟩
  · by_cases hb : b = d
    · subst hb; rw [upd_same] at e ⊢; exact e
    · rw [upd_ne hb] at e ⊢; exact a.g.h b u e n
  · by_cases hb : b = d
    · subst hb; rw [upd_same, upd_same]
    · rw [upd_ne hb] at e ⊢; rw [upd_ne hb]; exact a.g.k b e
  · by_cases hb : b = d
    · subst hb; rw [upd_same]; exact fun q => nomatch q
    · rw [upd_ne hb] at e ⊢; exact a.g.a b e
  · have st := a.w.st
    cases Z with
    | none => trivial
    | some pl =>
      obtain ⟨p, l⟩ := pl
      obtain ⟨n, f1, f2, c, k1, k2, k3⟩ := st
      have n1 : p ≠ d := fun q => h3 ⟨p, l, rfl, .inl q.symm⟩
      have n2 : l ≠ d := fun q => h3 ⟨p, l, rfl, .inr q.symm⟩
      exact ⟨n, by rw [upd_ne n1]; exact f1, by rw [upd_ne n2]; exact f2, c, by rw [upd_ne n1]; exact k1, by rw [upd_ne n2]; exact k2, smF _ _ k3⟩
  · rcases getset h with ⟨_, h, _⟩ | ⟨_, h⟩
    · cases h
    · obtain ⟨v, z1, z2⟩ := a.en.val j x h
      exact ⟨v, z1, z2.mono smF⟩
  · rcases getset h with ⟨_, h, _⟩ | ⟨_, h⟩
    · cases h
    · obtain ⟨p, xs, z1, z0, z2, z3, z4, z5⟩ := a.en.own j ds h
      have hp := lst z4
      exact ⟨p, xs, z1, by rw [upd_ne hp]; exact z0, by rw [upd_ne hp]; exact z2, z3, by rw [upd_ne hp]; exact z4, z5.mono smF⟩
  · rcases getset q1 with ⟨_, q1, _⟩ | ⟨_, q1⟩
    · cases q1
    · rcases getset q2 with ⟨_, q2, _⟩ | ⟨_, q2⟩
      · cases q2
      · exact a.en.apart j k ds es q1 q2 hs
  · rcases getset h with ⟨_, h, _⟩ | ⟨n, h⟩
    · cases h
    · obtain ⟨p, kvs2, z1, z0, z2, z3, z4, z5⟩ := a.en.dct j ke h
      have hp : p ≠ d := fun q => by
        subst q
        exact n (a.en.apartK i j kd ke hk h (h1.trans z1.symm))
      exact ⟨p, kvs2, z1, by rw [upd_ne hp]; exact z0, by rw [upd_ne hp]; exact z2, z3, by rw [upd_ne hp]; exact z4, z5.mono smF⟩
  · rcases getset h with ⟨e, h9, _⟩ | ⟨n, h⟩
    · subst e
      have : kd = ke := by injection h9 with h9; injection h9 with h9; exact h9.symm
      subst this
      exact ⟨d, kvs, od, h1, by rw [hz]; exact upd_same, h5.mono smF⟩
    · obtain ⟨p, kvs2, o2, z1, z2, z3⟩ := a.en.dcf j ke h
      exact ⟨p, kvs2, o2, z1, smF _ _ z2, z3.mono smF⟩
  · rcases getset q1 with ⟨_, q1, _⟩ | ⟨_, q1⟩
    · cases q1
    · rcases getset q2 with ⟨_, q2, _⟩ | ⟨_, q2⟩
      · cases q2
      · exact a.en.apartK j k ke kf q1 q2 hs
theorem Grow.under {z : HO} (g : Grow Z (upd F0 d z) (upd H0 d z) F' H') (h0 : H0 d = none) (f0 : F0 d = none) : Grow Z F0 H0 F' H' :=
  ⟨fun b u e => g.f b u (by rw [upd_ne (ne_of_none e f0)]; exact e), fun b u e n => g.h b u (by rw [upd_ne (ne_of_none e h0)]; exact e) n,
    fun b e => by
      have hb : b ≠ d := fun q => e (by rw [q]; exact h0)
      rw [g.k b (by rw [upd_ne hb]; exact e), upd_ne hb],
    fun b e => by
      have hb : b ≠ d := fun q => e (by rw [q]; exact h0)
      exact g.a b (by rw [upd_ne hb]; exact e)⟩
theorem Grow.there {z : HO} (g : Grow Z (upd F0 d z) (upd H0 d z) F' H') (hz : ¬ Zm Z d) : H' d = some z ∧ F' d = some z := ⟨g.h d z upd_same hz, g.f d z upd_same⟩
theorem Grow.unlock {z u : HO} (g : Grow Z (upd F0 d z) (upd H0 d z) F' H') (h0 : H0 d = none) (f0 : F0 d = none) : Grow Z F0 H0 (remF F' d) (upd H' d u) := by
  have g2 := g.under h0 f0
  refine ⟨fun b u e => ?_, fun b u e n => ?_, fun b e => ?_, fun b e => ?_⟩
  · rw [remF_ne (ne_of_none e f0)]; exact g2.f b u e
  · rw [upd_ne (ne_of_none e h0)]; exact g2.h b u e n
  · have hb : b ≠ d := fun q => e (by rw [q]; exact h0)
    rw [remF_ne hb]; exact g2.k b e
  · have hb : b ≠ d := fun q => e (by rw [q]; exact h0)
    rw [upd_ne hb]; exact g2.a b e
theorem Wd.unlock {od : Obj} {v u : HO} (w : Wd Z s F' H') (hz : ¬ Zm Z d) (hf : F' d = some (.frz od v)) : Wd Z s (remF F' d) (upd H' d u) := by
  refine ⟨fun b x e => ?_, ?_⟩
  · have hb : b ≠ d := fun q => by subst q; rw [remF_same] at e; cases e
    rw [remF_ne hb] at e
    rw [upd_ne hb]; exact w.sub b x e
  · have st := w.st
    cases Z with
    | none => trivial
    | some pl =>
      obtain ⟨p, l⟩ := pl
      obtain ⟨n, f1, f2, c, k1, k2, k3⟩ := st
      have n1 : p ≠ d := fun q => hz ⟨p, l, rfl, .inl q.symm⟩
      have n2 : l ≠ d := fun q => hz ⟨p, l, rfl, .inr q.symm⟩
      exact ⟨n, by rw [remF_ne n1]; exact f1, by rw [remF_ne n2]; exact f2, c, by rw [upd_ne n1]; exact k1, by rw [upd_ne n2]; exact k2, rem_at hf k3 (fun _ _ => nofun)⟩
def noDcf : Option B → Option B
  | some (.dcf _) => none
  | x => x
def unl (i : Nat) (kd : KD) (ρ : Ev) : Ev := (ρ.map noDcf).set i (some (B.dct kd))
theorem noDcf_get {ρ : Ev} {i : Nat} {b : B} (h : (ρ.map noDcf)[i]? = some (some b)) : ρ[i]? = some (some b) ∧ ∀ ds, b ≠ .dcf ds := by
  rw [List.getElem?_map] at h
  cases hi : ρ[i]? with
  | none => rw [hi] at h; cases h
  | some o =>
    rw [hi] at h
    match o, h with
    | none, h => cases h
    | some (.dcf _), h => cases h
    | some (.dct d), h =>
      have h2 : B.dct d = b := Option.some.inj (Option.some.inj h)
      subst h2
      exact ⟨rfl, fun _ => nofun⟩
    | some (.val d), h =>
      have h2 : B.val d = b := Option.some.inj (Option.some.inj h)
      subst h2
      exact ⟨rfl, fun _ => nofun⟩
    | some (.own d), h =>
      have h2 : B.own d = b := Option.some.inj (Option.some.inj h)
      subst h2
      exact ⟨rfl, fun _ => nofun⟩
theorem At.unlock {od : Obj} {kvs : List (Key × V)} (a : At Z (upd F0 d (.frz od (.dK kvs))) (upd H0 d (.frz od (.dK kvs))) F' H' σ ρ s) (h0 : H0 d = none) (f0 : F0 d = none) (hz : ¬ Zm Z d) (hs : σ[i]? = some (some (V.ref d))) (r : RepK Z F' kvs kd) :
    At Z F0 H0 (remF F' d) (upd H' d (.dK kvs)) σ (unl i kd ρ) s := by
  obtain ⟨hd, fd⟩ := a.g.there hz
  have lst : ∀ {b : Addr} {xs : List V}, H' b = some (.lst xs) → b ≠ d := fun {b xs} e => ne_of e hd (fun q => by cases q)
  have dkn : ∀ {b : Addr} {ks : List (Key × V)}, H' b = some (.dK ks) → b ≠ d := fun {b xs} e => ne_of e hd (fun q => by cases q)
  refine ⟨a.g.unlock h0 f0, a.w.unlock hz fd, ⟨⟨by unfold unl; rw [List.length_set, List.length_map]; exact a.en.len, fun j x h => ?_, fun j ds h => ?_, fun j k ds es q1 q2 hss => ?_⟩, ⟨fun j ke h => ?_, fun j ke h => ?_, fun j k ke kf q1 q2 hss => ?_⟩⟩⟩
  · rcases getset h with ⟨_, h, _⟩ | ⟨_, h⟩
    · cases h
    · obtain ⟨v, z1, z2⟩ := a.en.val j x (noDcf_get h).1
      exact ⟨v, z1, z2.rem fd⟩
  · rcases getset h with ⟨_, h, _⟩ | ⟨_, h⟩
    · cases h
    · obtain ⟨p, xs, z1, z0, z2, z3, z4, z5⟩ := a.en.own j ds (noDcf_get h).1
      have hp := lst z4
      exact ⟨p, xs, z1, by rw [upd_ne hp] at z0; exact z0, by rw [remF_ne hp]; exact z2, z3, by rw [upd_ne hp]; exact z4, z5.rem fd⟩
  · rcases getset q1 with ⟨_, q1, _⟩ | ⟨_, q1⟩
    · cases q1
    · rcases getset q2 with ⟨_, q2, _⟩ | ⟨_, q2⟩
      · cases q2
      · exact a.en.apart j k ds es (noDcf_get q1).1 (noDcf_get q2).1 hss
  · rcases getset h with ⟨e, h9, _⟩ | ⟨n, h⟩
    · subst e
      have : kd = ke := by injection h9 with h9; injection h9 with h9; exact h9.symm
      subst this
      exact ⟨d, kvs, hs, h0, remF_same, hz, upd_same, r.rem fd⟩
    · obtain ⟨p, kvs2, z1, z0, z2, z3, z4, z5⟩ := a.en.dct j ke (noDcf_get h).1
      have hp := dkn z4
      exact ⟨p, kvs2, z1, by rw [upd_ne hp] at z0; exact z0, by rw [remF_ne hp]; exact z2, z3, by rw [upd_ne hp]; exact z4, z5.rem fd⟩
  · rcases getset h with ⟨_, h, _⟩ | ⟨n, h⟩
    · cases h
    · exact absurd rfl ((noDcf_get h).2 ke)
  · have other : ∀ {j : Nat} {ke : KD}, (ρ.map noDcf)[j]? = some (some (B.dct ke)) → σ[j]? ≠ some (some (V.ref d)) := fun {j ke} h q => by
      obtain ⟨p, kvs2, z1, z0, z2, z3, z4, z5⟩ := a.en.dct j ke (noDcf_get h).1
      rw [z1] at q
      cases q
      exact dkn z4 rfl
    rcases getset q1 with ⟨e1, _, _⟩ | ⟨n1, q1⟩
    · rcases getset q2 with ⟨e2, _, _⟩ | ⟨n2, q2⟩
      · exact e1.symm.trans e2
      · subst e1
        exact absurd (hss.symm.trans hs) (other q2)
    · rcases getset q2 with ⟨e2, _, _⟩ | ⟨n2, q2⟩
      · subst e2
        exact absurd (hss.trans hs) (other q1)
      · exact a.en.apartK j k ke kf (noDcf_get q1).1 (noDcf_get q2).1 hss
end

/-- the statement ends the body; the dict at i is locked while it runs -/
def sLockR (i : Nat) (f : Sm) : Sm := fun ρ => M.lift (isDO ρ[i]?) >>= fun kd => f (ρ.set i (some (B.dcf kd))) >>= fun o => match o with
  | .rt d => pure (.rt d)
  | _ => M.fail
/-- for x in the dict at i: if t: a, b = .. -/
def exitK (i : Nat) (kd : KD) : Fl → M Fl
  | .nx ρ' => pure (.nx (unl i kd ρ'))
  | _ => M.fail
theorem kkeys_get {kd : KD} {n : Nat} (h : n < kd.length) : (kkeys kd).drop n = D.int (kd[n].1) :: (kkeys kd).drop (n + 1) := by
  have hn3 : n < (kkeys kd).length := by unfold kkeys; rw [List.length_map]; exact h
  rw [List.drop_eq_getElem_cons hn3]
  congr 1
  simp [kkeys]
def sForK (i l : Nat) (t : Ev → M Bool) (jr jt : Nat) (fs : Ev → M (List D)) : Sm := fun ρ => M.lift (isDO ρ[i]?) >>= fun kd => forL (gN l) (sIf t (sPar jr jt fs) sNil) (kkeys kd) (ρ.set i (some (B.dcf kd))) >>= exitK i kd
section
variable {X : Cx} {E : XK} {k : Nat} {st : Stmt} {f1 : Sm} {pos p p2 : Pos} {x y : Str}
theorem ds_lockR (i : Nat) (h : PS X st (tS X.mg E f1)) : PS X st (tS X.mg E (sLockR i f1)) :=
  PS.imp (ps_lock h) fun Ds σ H ⟨Z, F0, H0, F, ρ, s, at', g⟩ => by
    obtain ⟨kd, hk, g⟩ := GoalS.lift g
    obtain ⟨d, kvs, h1, h4, h0, f0, hz, _, _, _, lk⟩ := at'.lock (isDO_of hk)
    refine ⟨d, .dK kvs, h4, trivial, fun od => ⟨Z, _, _, _, _, s, lk od, ?_⟩⟩
    have g' : GoalS X.mg E Z F0 H0 Ds (M.bind (f1 (ρ.set i (some (B.dcf kd)))) (fun o => match o with
      | .rt d => pure (.rt d)
      | _ => M.fail) s) := g
    unfold M.bind at g'
    match hm : f1 (ρ.set i (some (B.dcf kd))) s, g' with
    | some (.ok (.rt x), s1), g' =>
      intro v F' H' gr w r
      obtain ⟨hd, fd⟩ := gr.there hz
      exact ⟨hd, g' v _ _ (gr.unlock h0 f0) (w.unlock hz fd) (r.rem fd)⟩
    | some (.error e, s1), g' =>
      exact fun cls dd F' H' gr w r => g' cls dd F' H' (gr.under h0 f0) w r
theorem ds_forK (i l jr jt : Nat) {tg' : Pos} {c a1 a2 : Expr} {t : Ev → M Bool} {fs : Ev → M (List D)} {z1 z2 z3 : Str} {px py pt pv ps pf : Pos} {kt k2 : Nat} (G : Good X E k) (hil : i ≠ l) (hir : i ≠ jr) (hit : i ≠ jt) (hN : X.N[i]? = some x) (hv : Vis X.env.scope x)
    (hl : X.N[l]? = some z1) (hll : L2.Loc X.env.scope z1) (hlf : X.fn z1 = true ∨ X.env.scope.names.lookup z1 = some .local) (hr : X.N[jr]? = some z2) (ht : X.N[jt]? = some z3) (hrt : jr ≠ jt) (hlr : X.env.scope.names.lookup z2 = some .local) (hlt : X.env.scope.names.lookup z3 = some .local)
    (hc : PT X c (tB' X.mg E t)) (ha : PA X [a1, a2] (tA' X.mg E fs)) (hw : swappedStores [.Tuple [.Name z2 px, .Name z3 py] kt pt] (.Tuple [a1, a2] k2 pv) X.env = pure (some [z2, z3]))
    (hs : swapsWithSole [.Tuple [.Name z2 px, .Name z3 py] kt pt] (.Tuple [a1, a2] k2 pv) ps.line X.env = pure false := by rfl) (hd : (x == ("__debug__" : Str)) = false := by decide) (hcd : (x == ("__classdict__" : Str)) = false := by decide)
    (hfs : ∀ y, foldedSetIterable (.Name x p) X.env y = pure y := by intro _; rfl) :
    PS X (.For (.Name z1 tg') (.Name x p) [.If c [.Assign [.Tuple [.Name z2 px, .Name z3 py] kt pt] (.Tuple [a1, a2] k2 pv) ps] [] pf] [] pos) (tS X.mg E (sForK i l t jr jt fs)) :=
  PS.imp (ps_lock (ps_for G.own G.calm (pi_keys (pe_var hN hv hd hcd)) (pg_name G.nd hl hll hlf) (pss_one (ps_if hc (pss_one (ps_par G.calm G.nd hr ht hrt hlr hlt ha hw hs)) pss_nil)) hfs)) fun Ds σ H ⟨Z, F0, H0, F, ρ, s, at', g⟩ => by
    obtain ⟨kd, hk, g⟩ := GoalS.lift g
    obtain ⟨d, kvs, h1, h4, h0, f0, hz, rk, _, hfd, lk⟩ := at'.lock (isDO_of hk)
    refine ⟨d, .dK kvs, h4, trivial, fun od => ?_⟩
    have a0 := lk od
    have rk0 : RepK Z (upd F d (.frz od (.dK kvs))) kvs kd := rk.mono fun b u e => by rw [upd_ne (ne_of_none e hfd)]; exact e
    refine ⟨_, h1, d, od, rfl, .inl ⟨kvs, upd_same, ?_⟩⟩
    have hlen : kvs.length = kd.length := rk.length
    refine for_it walk_keys (fun n σ H => ∃ F ρ s, At Z (upd F0 d (.frz od (.dK kvs))) (upd H0 d (.frz od (.dK kvs))) F H σ ρ s ∧ σ[i]? = some (some (V.ref d)) ∧ RepK Z F kvs kd ∧
      GoalS X.mg E Z F0 H0 Ds ((forL (gN l) (sIf t (sPar jr jt fs) sNil) ((kkeys kd).drop n) ρ >>= exitK i kd) s)) ⟨_, _, s, a0, h1, rk0, g⟩ (fun n σ H _ ⟨F, ρ, s, a, _⟩ => (a.g.there hz).1) (fun n v σ H H' hn ⟨F, ρ, s, a, hσ, rk, gl⟩ y => ?_) (fun σ H ⟨F, ρ, s, a, hσ, rk, gl⟩ => ?_)
    · obtain ⟨rfl, kk, vv, hkv, rfl⟩ := y
      have hn2 : n < kd.length := by rw [← hlen]; exact hn
      have hdr := kkeys_get hn2
      have hkey : kk = Sum.inl (kd[n].1) := by
        have e := rk.ks
        have e2 : (kvs.map (·.1))[n]? = some kk := by rw [List.getElem?_map, hkv]; rfl
        rw [e, List.getElem?_map, List.getElem?_map, List.getElem?_eq_getElem hn2] at e2
        exact (Option.some.inj e2).symm
      subst hkey
      rw [hdr] at gl
      have gl1 : GoalS X.mg E Z F0 H0 Ds ((t (ρ.set l (some (B.val (.int kd[n].1)))) >>= fun c => ((if c = true then sPar jr jt fs (ρ.set l (some (B.val (.int kd[n].1)))) else sNil (ρ.set l (some (B.val (.int kd[n].1))))) >>= fun o => forT (forL (gN l) (sIf t (sPar jr jt fs) sNil) ((kkeys kd).drop (n + 1))) o >>= exitK i kd)) s) := by
        have e : (forL (gN l) (sIf t (sPar jr jt fs) sNil) (D.int kd[n].1 :: (kkeys kd).drop (n + 1)) ρ >>= exitK i kd) = (t (ρ.set l (some (B.val (.int kd[n].1)))) >>= fun c => ((if c = true then sPar jr jt fs (ρ.set l (some (B.val (.int kd[n].1)))) else sNil (ρ.set l (some (B.val (.int kd[n].1))))) >>= fun o => forT (forL (gN l) (sIf t (sPar jr jt fs) sNil) ((kkeys kd).drop (n + 1))) o >>= exitK i kd)) := by
          show ((M.lift (some (ρ.set l (some (B.val (.int kd[n].1))))) >>= fun ρ' => (t ρ' >>= fun c => if c = true then sPar jr jt fs ρ' else sNil ρ') >>= forT (forL (gN l) (sIf t (sPar jr jt fs) sNil) ((kkeys kd).drop (n + 1)))) >>= exitK i kd) = _
          rw [M.lift_some, M.bind_pure, M.bind_assoc, M.bind_assoc]
        rw [e] at gl
        exact gl
      have en1 : EnvR Z (upd H0 d (.frz od (.dK kvs))) F H' (σ.set l (some (V.int kd[n].1))) (ρ.set l (some (B.val (.int kd[n].1)))) := a.en.setV (.int _)
      have hσ1 : (σ.set l (some (V.int kd[n].1)))[i]? = some (some (V.ref d)) := (List.getElem?_set_ne (Ne.symm hil)).trans hσ
      show tIfS (tB' X.mg E t) (tPar jr jt (tA' X.mg E fs)) tNext _ (σ.set l (some (V.int kd[n].1))) H'
      -- the test
      have key : ∀ {γ : Type} {m : M γ} {f : γ → M Fl} {β : Type} {rel' : Hp → β → γ → Prop} {P : β → Hp → Prop} {F1 H1 : Hp} {σ1 : L2.St} {ρ1 : Ev} {s1 : DS}, At Z (upd F0 d (.frz od (.dK kvs))) (upd H0 d (.frz od (.dK kvs))) F1 H1 σ1 ρ1 s1 → GoalS X.mg E Z F0 H0 Ds ((m >>= f) s1) →
          (∀ d1 s2 v F2 H2, At Z (upd F0 d (.frz od (.dK kvs))) (upd H0 d (.frz od (.dK kvs))) F2 H2 σ1 ρ1 s2 → Grow Z F1 H1 F2 H2 → rel' F2 v d1 → GoalS X.mg E Z F0 H0 Ds (f d1 s2) → P v H2) → Goal rel' X.mg E Z F1 H1 P (m s1) := by
        intro γ m f β rel' P F1 H1 σ1 ρ1 s1 a1 g1 kk
        have h' : GoalS X.mg E Z F0 H0 Ds (M.bind m f s1) := g1
        unfold M.bind at h'
        match hm : m s1, h' with
        | some (.ok x, s2), h' => exact fun v F' H' g w r => kk x s2 v F' H' (a1.grow g w) g r h'
        | some (.error e, s2), h' => exact fun cls x F' H' g w r => h' cls x F' H' ((a1.g.trans g).under h0 f0) w r
      have a1 : At Z (upd F0 d (.frz od (.dK kvs))) (upd H0 d (.frz od (.dK kvs))) F H' (σ.set l (some (V.int kd[n].1))) (ρ.set l (some (B.val (.int kd[n].1)))) s := ⟨a.g, a.w, en1⟩
      refine ⟨Z, _, F, _, s, a1.w, a1.en, key (rel' := relB) a1 gl1 fun c s2 c' F2 H2 a2 g2 r2 q2 => ?_⟩
      obtain rfl : c' = c := r2
      cases c' with
      | false =>
        rw [if_neg Bool.false_ne_true] at q2 ⊢
        exact ⟨F2, _, s2, a2, hσ1, rk.mono g2.f, q2⟩
      | true =>
        rw [if_pos rfl] at q2 ⊢
        have q2' : GoalS X.mg E Z F0 H0 Ds ((fs (ρ.set l (some (B.val (.int kd[n].1)))) >>= fun xs => M.lift (par2 jr jt (ρ.set l (some (B.val (.int kd[n].1)))) xs) >>= fun ρ' => forL (gN l) (sIf t (sPar jr jt fs) sNil) ((kkeys kd).drop (n + 1)) ρ' >>= exitK i kd) s2) := by
          have e : (sPar jr jt fs (ρ.set l (some (B.val (.int kd[n].1)))) >>= fun o => forT (forL (gN l) (sIf t (sPar jr jt fs) sNil) ((kkeys kd).drop (n + 1))) o >>= exitK i kd) = (fs (ρ.set l (some (B.val (.int kd[n].1)))) >>= fun xs => M.lift (par2 jr jt (ρ.set l (some (B.val (.int kd[n].1)))) xs) >>= fun ρ' => forL (gN l) (sIf t (sPar jr jt fs) sNil) ((kkeys kd).drop (n + 1)) ρ' >>= exitK i kd) := by
            show ((fs _ >>= fun xs => M.lift (par2 jr jt _ xs) >>= fun ρ' => (pure (Fl.nx ρ') : M Fl)) >>= fun o => _) = _
            rw [M.bind_assoc]
            congr 1
            funext xs
            rw [M.bind_assoc]
            rfl
          rw [e] at q2
          exact q2
        refine ⟨Z, _, F2, _, s2, a2.w, a2.en, key (rel' := relL Z) a2 q2' fun ds s3 vs F3 H3 a3 g3 r3 q3 => ?_⟩
        obtain ⟨ρ', e, q4⟩ := q3.lift
        match ds, r3, e with
        | [d1, d2], .cons r1 (.cons r2 .nil), e =>
          cases e
          refine ⟨_, _, rfl, F3, _, s3, ⟨a3.g, a3.w, (a3.en.setV r1).setV r2⟩, ?_, (rk.mono g2.f).mono g3.f, q4⟩
          exact (List.getElem?_set_ne (Ne.symm hit)).trans ((List.getElem?_set_ne (Ne.symm hir)).trans hσ1)
        | [], _, e => cases e
        | [_], _, e => cases e
        | _ :: _ :: _ :: _, _, e => cases e
    · have hd : (kkeys kd).drop kvs.length = [] := by
        unfold kkeys
        rw [hlen]
        simp
      rw [hd] at gl
      refine ⟨(a.g.there hz).1, ?_⟩
      have gl' : GoalS X.mg E Z F0 H0 Ds ((pure (Fl.nx (unl i kd ρ)) : M Fl) s) := gl
      exact gl'.next (a.unlock h0 f0 hz hσ rk)
end
end DL

set_option Elab.async false
set_option linter.all false
set_option maxRecDepth 100000
set_option maxHeartbeats 4000000
/-! D layer 13: the draws of a law. -/
namespace DL
open PySem PySem.Spec PyProof.Rows L2

def isSt : Option (Option B) → Option Unit
  | some (some (.val .st)) => some ()
  | _ => none
theorem isSt_of {o : Option (Option B)} (h : isSt o = some ()) : o = some (some (.val .st)) := by
  match o, h with
  | some (some (.val .st)), _ => rfl
  | none, h => cases h
  | some none, h => cases h
  | some (some (.val .non)), h => cases h
  | some (some (.val (.bl _))), h => cases h
  | some (some (.val (.int _))), h => cases h
  | some (some (.val (.str _))), h => cases h
  | some (some (.val (.lst _))), h => cases h
  | some (some (.val (.tup _))), h => cases h
  | some (some (.val (.opq _))), h => cases h
  | some (some (.own _)), h => cases h
  | some (some (.dct _)), h => cases h
  | some (some (.dcf _)), h => cases h
def M.get {α : Type} (f : DS → α) : M α := fun s => some (.ok (f s), s)
def dLeft (i : Nat) : Ev → M D := fun ρ => M.lift (isSt ρ[i]?) >>= fun _ => M.get fun s => .int (s.left : Nat)
def dTurn (i : Nat) : Ev → M D := fun ρ => M.lift (isSt ρ[i]?) >>= fun _ => M.get fun s => .int (s.turn : Nat)
def dCells (i : Nat) : Ev → M D := fun ρ => M.lift (isSt ρ[i]?) >>= fun _ => M.get fun s => .lst (s.cells.map fun n => .int (n : Nat))
def bLarge (i : Nat) : Ev → M Bool := fun ρ => M.lift (isSt ρ[i]?) >>= fun _ => M.get fun s => !s.large.isEmpty
def natD : D → Option Nat
  | .int i => if 0 ≤ i then some i.toNat else none
  | _ => none
def M.put (f : DS → DS) : M Unit := fun s => some (.ok (), f s)
def sPutLeft (i : Nat) (a : Ev → M D) : Sm := fun ρ => M.lift (isSt ρ[i]?) >>= fun _ => a ρ >>= fun x => M.lift (natD x) >>= fun n => M.put (fun s => { s with left := n }) >>= fun _ => pure (.nx ρ)
def sPutTurn (i : Nat) (a : Ev → M D) : Sm := fun ρ => M.lift (isSt ρ[i]?) >>= fun _ => a ρ >>= fun x => M.lift (natD x) >>= fun n => M.put (fun s => { s with turn := n }) >>= fun _ => pure (.nx ρ)
def popL : M Unit := fun s => match s.large with
  | n :: r => some (.ok (), { s with large := r, left := n })
  | [] => none
def sPop (i : Nat) : Sm := fun ρ => M.lift (isSt ρ[i]?) >>= fun _ => popL >>= fun _ => pure (.nx ρ)
/-- the state of draws in the heap -/
structure InSt (Z : Zt) (s : DS) (F H : Hp) (v : V) (p l c : Addr) : Prop where
  z : Z = some (p, l)
  v : v = .ref p
  ne : p ≠ l
  f1 : F p = none
  f2 : F l = none
  h1 : H p = some (.dK (kvDS l c s))
  h2 : H l = some (.lst (s.large.map nV))
  h3 : F c = some (.lst (s.cells.map nV))
section
variable {Z : Zt} {H0 F H : Hp} {σ : L2.St} {ρ : Ev} {s s' : DS} {i : Nat} {v : V} {p l c : Addr}
theorem inSt (w : Wd Z s F H) (en : EnvR Z H0 F H σ ρ) (h : isSt ρ[i]? = some ()) : ∃ v p l c, σ[i]? = some (some v) ∧ InSt Z s F H v p l c := by
  obtain ⟨v, h1, h2⟩ := en.val i .st (isSt_of h)
  match v, h2 with
  | _, .st (p := p) (l := l) hz =>
    subst hz
    obtain ⟨n, f1, f2, c, k1, k2, k3⟩ := w.st
    exact ⟨_, p, l, c, h1, rfl, rfl, n, f1, f2, k1, k2, k3⟩
theorem InSt.get (a : InSt Z s F H v p l c) {k : Str} {u : V} (h : valV (kvDS l c s) (Sum.inr k : Key) = some u) : DGet H p (V.str k) (some u) := by
  rw [← h]
  exact DGet.k (k := .inr k) a.h1
/-- the state is written -/
theorem InSt.put (a : InSt Z s F H v p l c) (w : Wd Z s F H) (hl : s'.large = s.large) (hc : s'.cells = s.cells) : Grow Z F H F (upd H p (.dK (kvDS l c s'))) ∧ Wd Z s' F (upd H p (.dK (kvDS l c s'))) := by
  have zm : Zm Z p := ⟨p, l, a.z, .inl rfl⟩
  refine ⟨⟨Same.refl _, fun b u e n => ?_, fun _ _ => rfl, fun b e => ?_⟩, ⟨fun b u e => ?_, ?_⟩⟩
  · have : b ≠ p := fun q => n (q ▸ zm)
    rw [upd_ne this]; exact e
  · by_cases hb : b = p
    · subst hb; rw [upd_same]; exact fun q => nomatch q
    · rw [upd_ne hb]; exact e
  · rw [upd_ne (ne_of_none e a.f1)]; exact w.sub b u e
  · have hz := a.z
    subst hz
    exact ⟨a.ne, a.f1, a.f2, c, upd_same, by rw [upd_ne (Ne.symm a.ne), hl]; exact a.h2, by rw [hc]; exact a.h3⟩
theorem InSt.putL (a : InSt Z s F H v p l c) (w : Wd Z s F H) (hc : s'.cells = s.cells) :
    Grow Z F H F (upd (upd H l (.lst (s'.large.map nV))) p (.dK (kvDS l c s'))) ∧ Wd Z s' F (upd (upd H l (.lst (s'.large.map nV))) p (.dK (kvDS l c s'))) := by
  have zm : Zm Z p := ⟨p, l, a.z, .inl rfl⟩
  have zl : Zm Z l := ⟨p, l, a.z, .inr rfl⟩
  refine ⟨⟨Same.refl _, fun b u e n => ?_, fun _ _ => rfl, fun b e => ?_⟩, ⟨fun b u e => ?_, ?_⟩⟩
  · have n1 : b ≠ p := fun q => n (q ▸ zm)
    have n2 : b ≠ l := fun q => n (q ▸ zl)
    rw [upd_ne n1, upd_ne n2]; exact e
  · by_cases hb : b = p
    · subst hb; rw [upd_same]; exact fun q => nomatch q
    · rw [upd_ne hb]
      by_cases hb2 : b = l
      · subst hb2; rw [upd_same]; exact fun q => nomatch q
      · rw [upd_ne hb2]; exact e
  · rw [upd_ne (ne_of_none e a.f1), upd_ne (ne_of_none e a.f2)]; exact w.sub b u e
  · have hz := a.z
    subst hz
    exact ⟨a.ne, a.f1, a.f2, c, upd_same, by rw [upd_ne (Ne.symm a.ne), upd_same], by rw [hc]; exact a.h3⟩
end
theorem kv_left {l c : Addr} {s : DS} : valV (kvDS l c s) (Sum.inr "left" : Key) = some (.int (s.left : Nat)) := by kernel_rfl
theorem kv_turn {l c : Addr} {s : DS} : valV (kvDS l c s) (Sum.inr "turn" : Key) = some (.int (s.turn : Nat)) := by kernel_rfl
theorem kv_cells {l c : Addr} {s : DS} : valV (kvDS l c s) (Sum.inr "cells" : Key) = some (.ref c) := by kernel_rfl
theorem kv_large {l c : Addr} {s : DS} : valV (kvDS l c s) (Sum.inr "large" : Key) = some (.ref l) := by kernel_rfl
theorem pk_left {l c : Addr} {s : DS} {n : Nat} : putK (kvDS l c s) (Sum.inr "left" : Key) (.int (n : Nat)) = kvDS l c { s with left := n } := by kernel_rfl
theorem pk_turn {l c : Addr} {s : DS} {n : Nat} : putK (kvDS l c s) (Sum.inr "turn" : Key) (.int (n : Nat)) = kvDS l c { s with turn := n } := by kernel_rfl
section
variable {X : Cx} {E : XK} {k : Nat} {e : Expr} {pos p p2 p3 p4 p5 p6 p7 p8 : Pos} {fa fb : Ev → M D} {x : Str} {j j2 j3 : Nat}
theorem reps_nat {Z : Zt} {F : Hp} : ∀ ns : List Nat, Reps Z F (ns.map nV) (ns.map fun n => .int (n : Nat))
  | [] => .nil
  | n :: ns => .cons (.int _) (reps_nat ns)
theorem st_read (i : Nat) (key : Str) {f : DS → D} (hf : ∀ {Z : Zt} {s : DS} {F H : Hp} {v : V} {p l c : Addr}, InSt Z s F H v p l c → ∃ u, valV (kvDS l c s) (Sum.inr key : Key) = some u ∧ Rep Z F u (f s)) (G : Good X E k) (hN : X.N[i]? = some x) (hv : Vis X.env.scope x)
    (hd : (x == ("__debug__" : Str)) = false := by decide) (hcd : (x == ("__classdict__" : Str)) = false := by decide) :
    PE X (.Subscript (.Name x p) (.Constant (.str key) j p2) pos) (tD X.mg E fun ρ => M.lift (isSt ρ[i]?) >>= fun _ => M.get f) :=
  PE.imp (pe_dget (by have := G.room.units; omega) (pe_var hN hv hd hcd) pe_str (fun _ _ => rfl)) fun σ H Q ⟨Z, H0, F, ρ, s, w, en, g⟩ => by
    obtain ⟨u, hu, g⟩ := Goal.lift2 g
    obtain ⟨v, pa, l, c, h1, a⟩ := inSt w en hu
    obtain ⟨y, hy, ry⟩ := hf a
    exact ⟨v, h1, pa, y, a.v, a.get hy, g y F H Grow.refl w ry⟩
theorem de_left (i : Nat) (G : Good X E k) (hN : X.N[i]? = some x) (hv : Vis X.env.scope x) (hd : (x == ("__debug__" : Str)) = false := by decide) (hcd : (x == ("__classdict__" : Str)) = false := by decide) :
    PE X (.Subscript (.Name x p) (.Constant (.str "left") j p2) pos) (tD X.mg E (dLeft i)) := st_read i "left" (fun _ => ⟨_, kv_left, .int _⟩) G hN hv hd hcd
theorem de_turn (i : Nat) (G : Good X E k) (hN : X.N[i]? = some x) (hv : Vis X.env.scope x) (hd : (x == ("__debug__" : Str)) = false := by decide) (hcd : (x == ("__classdict__" : Str)) = false := by decide) :
    PE X (.Subscript (.Name x p) (.Constant (.str "turn") j p2) pos) (tD X.mg E (dTurn i)) := st_read i "turn" (fun _ => ⟨_, kv_turn, .int _⟩) G hN hv hd hcd
theorem de_cells (i : Nat) (G : Good X E k) (hN : X.N[i]? = some x) (hv : Vis X.env.scope x) (hd : (x == ("__debug__" : Str)) = false := by decide) (hcd : (x == ("__classdict__" : Str)) = false := by decide) :
    PE X (.Subscript (.Name x p) (.Constant (.str "cells") j p2) pos) (tD X.mg E (dCells i)) := st_read i "cells" (fun a => ⟨_, kv_cells, .lst a.h3 (reps_nat _)⟩) G hN hv hd hcd
/-- a comparison of things that stand in the heap, whatever is frozen of them -/
theorem Wd.other {Z : Zt} {s s' : DS} {F G H F' H' : Hp} (w : Wd Z s F H) (g : Grow none G H F' H') : Grow Z F H F H' ∧ Wd Z s F H' := by
  have nz : ∀ b, ¬ Zm none b := fun b ⟨_, _, e, _⟩ => by cases e
  have up : ∀ b o, H b = some o → H' b = some o := fun b o e => g.h b o e (nz b)
  exact ⟨⟨Same.refl _, fun b o e _ => up b o e, fun _ _ => rfl, g.a⟩, ⟨fun b u e => up b u (w.sub b u e), w.st.keep (Same.refl _) (fun b u _ e => up b u e) fun _ _ => rfl⟩⟩
theorem dt_large (i : Nat) (G : Good X E k) (hN : X.N[i]? = some x) (hv : Vis X.env.scope x) (hd : (x == ("__debug__" : Str)) = false := by decide) (hcd : (x == ("__classdict__" : Str)) = false := by decide) :
    PT X (.Compare (.Subscript (.Name x p) (.Constant (.str "large") j p2) p3) [.NotEq] [.List [] p4] pos) (tB' X.mg E (bLarge i)) :=
  PT.imp (pt_cmpR (od_ne G.room.units) (pe_dget (by have := G.room.units; omega) (pe_var hN hv hd hcd) pe_str (fun _ _ => rfl)) (pe_lst (pa_nil (X := X))) rfl) fun σ H Q ⟨Z, H0, F, ρ, s, w, en, g⟩ => by
    obtain ⟨u, hu, g⟩ := Goal.lift2 g
    obtain ⟨v, pa, l, c, h1, a⟩ := inSt w en hu
    refine ⟨v, h1, pa, .ref l, a.v, a.get kv_large, ?_⟩
    refine ⟨by show 0 ≤ _; exact Nat.zero_le _, fun q hq => ?_⟩
    have w1 : Wd Z s F (upd H q (.lst [])) := w.newO hq
    have g1 : Grow Z F H F (upd H q (.lst [])) := Grow.newO hq
    have hql : l ≠ q := fun e => by rw [← e, a.h2] at hq; cases hq
    have e1 : upd H q (.lst []) l = some (.lst (s.large.map nV)) := by rw [upd_ne hql]; exact a.h2
    let G' : Hp := upd (upd (fun _ => none) l (.lst (s.large.map nV))) q (.lst [])
    have hG : Same G' (upd H q (.lst [])) := fun b u e => by
      by_cases hb : b = q
      · subst hb; rw [show G' b = some (.lst []) from upd_same] at e; rw [upd_same]; exact e
      · rw [show G' b = upd (fun _ => none) l (.lst (s.large.map nV)) b from upd_ne hb] at e
        by_cases hb2 : b = l
        · subst hb2; rw [upd_same] at e; cases e; exact e1
        · rw [upd_ne hb2] at e; cases e
    have r1 : Rep none G' (.ref l) (.lst (s.large.map fun n => .int (n : Nat))) := .lst (show G' l = _ by show upd _ _ _ _ = _; rw [upd_ne hql, upd_same]) (reps_nat _)
    have r2 : Rep none G' (.ref q) (.lst []) := .lst upd_same .nil
    have hne : ∀ ns : List Nat, neD (.lst (ns.map fun n => .int (n : Nat))) (.lst []) = some (.bl (!ns.isEmpty)) := by
      intro ns
      have h1 : D.fit 64 (.lst (ns.map fun n => .int (n : Nat))) = true := by
        show ((ns.map fun n => D.int (n : Nat)).all (D.fit 63)) = true
        rw [List.all_map]
        exact List.all_eq_true.mpr fun n _ => rfl
      unfold neD
      rw [if_pos ⟨h1, rfl⟩]
      cases ns with
      | nil => rfl
      | cons n ns => rfl
    refine ⟨none, G', s, _, _, _, ⟨hG, trivial⟩, r1, r2, hne s.large, fun v' F' H' gr w' r' => ?_⟩
    cases r'
    obtain ⟨g2, w2⟩ := Wd.other (s' := s) w1 gr
    exact ⟨_, rfl, g _ F H' (g1.trans g2) w2 rfl⟩
theorem ds_putSt (i : Nat) (key : Str) {f : Nat → DS → DS} (hl : ∀ n s, (f n s).large = s.large) (hc : ∀ n s, (f n s).cells = s.cells) (hk : ∀ {l c : Addr} {s : DS} {n : Nat}, putK (kvDS l c s) (Sum.inr key : Key) (.int (n : Nat)) = kvDS l c (f n s)) (G : Good X E k) (hN : X.N[i]? = some x) (hv : Vis X.env.scope x) (he : PE X e (tD X.mg E fa))
    (hs : swapsWith e (some (.Subscript (.Name x p) (.Constant (.str key) j p2) p3)) pos.line X.env = pure false) (hd : (x == ("__debug__" : Str)) = false := by decide) (hcd : (x == ("__classdict__" : Str)) = false := by decide) :
    PS X (.Assign [.Subscript (.Name x p) (.Constant (.str key) j p2) p3] e pos) (tS X.mg E fun ρ => M.lift (isSt ρ[i]?) >>= fun _ => fa ρ >>= fun x => M.lift (natD x) >>= fun n => M.put (f n) >>= fun _ => pure (.nx ρ)) :=
  PS.imp (ps_dput (by have := G.room.units; omega) (pe_var hN hv hd hcd) pe_str he hs) fun Ds σ H ⟨Z, F0, H0, F, ρ, s, at', g⟩ => by
    obtain ⟨u, hu, g⟩ := g.lift
    refine ⟨Z, H0, F, ρ, s, at'.w, at'.en, g.bind (rel' := relD Z) at' fun d1 s1 v F1 H1 a1 g1 r1 q1 => ?_⟩
    obtain ⟨n, en, q⟩ := q1.lift
    obtain ⟨w, pa, l, c, h1, a⟩ := inSt a1.w a1.en hu
    cases d1 with
    | int m =>
      cases r1
      obtain ⟨hm, e⟩ := ite_some (show (if 0 ≤ m then some m.toNat else none) = some n from en)
      have em : V.int m = .int (n : Nat) := by rw [← e, Int.toNat_of_nonneg hm]
      obtain ⟨g2, w2⟩ := a.put a1.w (hl n s1) (hc n s1)
      refine ⟨w, h1, pa, _, a.v, DPut.k (k := .inr key) a.h1 (by show 4 < sizeLine; decide), ?_⟩
      rw [em, hk]
      exact GoalS.next (s := f n s1) q ⟨a1.g.trans g2, w2, a1.en.grow g2⟩
    | _ => cases en
theorem ds_putLeft (i : Nat) (G : Good X E k) (hN : X.N[i]? = some x) (hv : Vis X.env.scope x) (he : PE X e (tD X.mg E fa)) (hs : swapsWith e (some (.Subscript (.Name x p) (.Constant (.str "left") j p2) p3)) pos.line X.env = pure false := by rfl) (hd : (x == ("__debug__" : Str)) = false := by decide) (hcd : (x == ("__classdict__" : Str)) = false := by decide) :
    PS X (.Assign [.Subscript (.Name x p) (.Constant (.str "left") j p2) p3] e pos) (tS X.mg E (sPutLeft i fa)) := ds_putSt i "left" (fun _ _ => rfl) (fun _ _ => rfl) pk_left G hN hv he hs hd hcd
theorem ds_putTurn (i : Nat) (G : Good X E k) (hN : X.N[i]? = some x) (hv : Vis X.env.scope x) (he : PE X e (tD X.mg E fa)) (hs : swapsWith e (some (.Subscript (.Name x p) (.Constant (.str "turn") j p2) p3)) pos.line X.env = pure false := by rfl) (hd : (x == ("__debug__" : Str)) = false := by decide) (hcd : (x == ("__classdict__" : Str)) = false := by decide) :
    PS X (.Assign [.Subscript (.Name x p) (.Constant (.str "turn") j p2) p3] e pos) (tS X.mg E (sPutTurn i fa)) := ds_putSt i "turn" (fun _ _ => rfl) (fun _ _ => rfl) pk_turn G hN hv he hs hd hcd
theorem ds_pop (i : Nat) {pa' pc : Pos} (G : Good X E k) (hN : X.N[i]? = some x) (hv : Vis X.env.scope x) (hd : (x == ("__debug__" : Str)) = false := by decide) (hcd : (x == ("__classdict__" : Str)) = false := by decide)
    (hs : swapsWith (.Call (.Attribute (.Subscript (.Name x p5) (.Constant (.str "large") j2 p6) p7) "pop" pa') [.Constant (.int 0) j3 p8] [] pc) (some (.Subscript (.Name x p) (.Constant (.str "left") j p2) p3)) pos.line X.env = pure false := by rfl)
    (hbase : attributeBase (.Subscript (.Name x p5) (.Constant (.str "large") j2 p6) p7) "pop" X.env (eval (.Subscript (.Name x p5) (.Constant (.str "large") j2 p6) p7) X.env) = eval (.Subscript (.Name x p5) (.Constant (.str "large") j2 p6) p7) X.env := by rfl)
    (hfew : ((backTo pc (starEach [(.Constant (.int 0) j3 p8 : Expr)] X.env)).all (fun x => !x.1) && (backToKw pc (keywordEach [] X.env)).all (fun x => x.1.isSome)
      && decide ([(.Constant (.int 0) j3 p8 : Expr)].length + ([] : List Keyword).length + (if ([] : List Keyword).isEmpty then 0 else 1) < 30)) = true := by rfl)
    (hline : (pa'.endLine == pc.line) = true := by rfl) (hst : starEach [(.Constant (.int 0) j3 p8 : Expr)] X.env = (false, eval (.Constant (.int 0) j3 p8) X.env) :: starEach [] X.env := by rfl) :
    PS X (.Assign [.Subscript (.Name x p) (.Constant (.str "left") j p2) p3] (.Call (.Attribute (.Subscript (.Name x p5) (.Constant (.str "large") j2 p6) p7) "pop" pa') [.Constant (.int 0) j3 p8] [] pc) pos) (tS X.mg E (sPop i)) :=
  PS.imp (ps_dput (by have := G.room.units; omega) (pe_var hN hv hd hcd) pe_str (pe_bm PySem.F.plainAttrs_list PySem.F.slot_list_pop PySem.F.type_list_pop mt_popAt (pe_dget (by have := G.room.units; omega) (pe_var hN hv hd hcd) pe_str (fun _ _ => rfl)) (pa_cons pe_int pa_nil hst) hbase hfew hline hst rfl) hs) fun Ds σ H ⟨Z, F0, H0, F, ρ, s, at', g⟩ => by
    obtain ⟨u, hu, g⟩ := g.lift
    obtain ⟨w, pa, l, c, h1, a⟩ := inSt at'.w at'.en hu
    have g' : GoalS X.mg E Z F0 H0 Ds (M.bind popL (fun _ => pure (.nx ρ)) s) := g
    unfold M.bind popL at g'
    cases hl : s.large with
    | nil => simp only [hl] at g'; exact (g' : False).elim
    | cons n r =>
      simp only [hl] at g'
      obtain ⟨g2, w2⟩ := a.putL (s' := { s with large := r, left := n }) at'.w rfl
      have e2 := a.h2
      rw [hl] at e2
      refine ⟨w, h1, pa, .ref l, a.v, a.get kv_large, .inl ⟨rfl, _, SqL.of a.h2⟩, ?_⟩
      refine ⟨l, _, 0, 0, nV n, rfl, rfl, e2, by decide, by decide, ?_, rfl, ?_⟩
      · unfold seqIndex?
        simp
      · refine ⟨w, h1, pa, _, a.v, DPut.k (k := .inr "left") (kvs := kvDS l c s) ?_ (by show 4 < sizeLine; decide), ?_⟩
        · rw [upd_ne a.ne]; exact a.h1
        · show Ds.nx σ (upd (upd H l (.lst (r.map nV))) pa (.dK (putK (kvDS l c s) (Sum.inr "left") (.int (n : Nat)))))
          rw [pk_left]
          exact GoalS.next (s := { s with large := r, left := n }) g' ⟨at'.g.trans g2, w2, at'.en.grow g2⟩
end
end DL

set_option Elab.async false
set_option linter.all false
set_option maxRecDepth 100000
set_option maxHeartbeats 4000000
/-! D layer 14: the table of the turning letters: its facts, its subscript; a Hook that sees the keys of tables. -/
namespace DL
open PySem PySem.Spec PyProof.Rows L2

def pairHash (i j : Int) : Int := reduceHash (Builtin.Tuple.tupleHashOf [hashInt i, hashInt j])
def pairAt (K : PySem.W.Frag) (k : Addr) (i j : Int) : Bool := match K.lookup k with
  | some ⟨.type c, _, .seq its _, _⟩ => decide (c = "tuple") && (match its.toList with
    | [.int a _, .int b _] => decide (a = i) && decide (b = j)
    | _ => false)
  | _ => false
def pairE (K : PySem.W.Frag) (e : DictEntry) (i j : Int) (z : Str) : Bool := match e with
  | ⟨h, .ref k, .str y _⟩ => decide (y = z) && (decide (h = pairHash i j) && pairAt K k i j)
  | _ => false
def turnB (K : PySem.W.Frag) (a : Addr) : Bool := match K.lookup a with
  | some ⟨.type c, none, .dict es _, sl⟩ => decide (c = "dict") && (decide (sl = #[]) && (match es.toList with
    | [e1, e2, e3, e4] => pairE K e1 1 1 "1" && (pairE K e2 (-1) 1 "b" && (pairE K e3 1 (-1) "a" && pairE K e4 (-1) (-1) "c"))
    | _ => false))
  | _ => false
theorem ba2 {a b : Bool} (h : (a && b) = true) : a = true ∧ b = true := Bool.and_eq_true_iff.mp h
section
variable {K : PySem.W.Frag} {P : Program} {w : World} {h : Heap}
theorem pairAt_ok {k : Addr} {i j : Int} (X : K.In h) (c : pairAt K k i j = true) : (tupleKind (mixKind P w)).is h [.inl i, .inl j] k := by
  unfold pairAt at c
  cases e : K.lookup k with
  | none => rw [e] at c; cases c
  | some o =>
    obtain ⟨oc, od, dt, osl⟩ := o
    rw [e] at c
    cases oc with
    | type c' =>
      cases dt with
      | seq its n =>
        have c2 : (decide (c' = "tuple") && (match its.toList with
          | [.int a _, .int b _] => decide (a = i) && decide (b = j)
          | _ => false)) = true := c
        obtain ⟨h1, h2⟩ := ba2 c2
        have e1 : c' = "tuple" := of_decide_eq_true h1
        subst e1
        refine ⟨_, its, n, X _ _ e, rfl, rfl, ?_⟩
        split at h2
        · rename_i a t b t' hl
          obtain ⟨h3, h4⟩ := ba2 h2
          have e3 : a = i := of_decide_eq_true h3
          have e4 : b = j := of_decide_eq_true h4
          subst e3 e4
          rw [hl]
          exact .cons (keyIs_int _ t) (.cons (keyIs_int _ t') .nil)
        · cases h2
      | _ => cases c
    | _ => cases c
theorem pairE_ok {e : DictEntry} {i j : Int} {z : Str} (X : K.In h) (c : pairE K e i j z = true) : ∃ k t, e = entryOfKey (tupleKind (mixKind P w)) ([.inl i, .inl j], k, .str z t) ∧ (tupleKind (mixKind P w)).is h [.inl i, .inl j] k := by
  obtain ⟨hh, key, val⟩ := e
  cases key with
  | ref k =>
    cases val with
    | str y t =>
      have c2 : (decide (y = z) && (decide (hh = pairHash i j) && pairAt K k i j)) = true := c
      obtain ⟨h1, h2⟩ := ba2 c2
      obtain ⟨h3, h4⟩ := ba2 h2
      have e1 : y = z := of_decide_eq_true h1
      have e2 : hh = pairHash i j := of_decide_eq_true h3
      subst e1 e2
      exact ⟨k, t, rfl, pairAt_ok X h4⟩
    | _ => cases c
  | _ => cases c
def turnK (i j : Int) : Option Str := if i = 1 ∧ j = 1 then some "1" else if i = -1 ∧ j = 1 then some "b" else if i = 1 ∧ j = -1 then some "a" else if i = -1 ∧ j = -1 then some "c" else none
theorem turnB_ok {a : Addr} (X : K.In h) (c : turnB K a = true) : ∃ xs, h.DictOfH (tupleKind (mixKind P w)) a xs ∧ ∀ i j z, turnK i j = some z → ∃ k t, atKey xs [.inl i, .inl j] = some (k, .str z t) := by
  unfold turnB at c
  cases e : K.lookup a with
  | none => rw [e] at c; cases c
  | some o =>
    obtain ⟨oc, od, dt, osl⟩ := o
    rw [e] at c
    cases oc with
    | type c' =>
      cases od with
      | none =>
        cases dt with
        | dict es n =>
          have c2 : (decide (c' = "dict") && (decide (osl = #[]) && (match es.toList with
            | [e1, e2, e3, e4] => pairE K e1 1 1 "1" && (pairE K e2 (-1) 1 "b" && (pairE K e3 1 (-1) "a" && pairE K e4 (-1) (-1) "c"))
            | _ => false))) = true := c
          obtain ⟨h1, h2⟩ := ba2 c2
          obtain ⟨h3, h4⟩ := ba2 h2
          have z1 : c' = "dict" := of_decide_eq_true h1
          have z2 : osl = #[] := of_decide_eq_true h3
          subst z1 z2
          split at h4
          · rename_i e1 e2 e3 e4 hl
            obtain ⟨p1, h5⟩ := ba2 h4
            obtain ⟨p2, h6⟩ := ba2 h5
            obtain ⟨p3, p4⟩ := ba2 h6
            obtain ⟨k1, t1, q1, r1⟩ := pairE_ok (P := P) (w := w) X p1
            obtain ⟨k2, t2, q2, r2⟩ := pairE_ok (P := P) (w := w) X p2
            obtain ⟨k3, t3, q3, r3⟩ := pairE_ok (P := P) (w := w) X p3
            obtain ⟨k4, t4, q4, r4⟩ := pairE_ok (P := P) (w := w) X p4
            refine ⟨[([.inl 1, .inl 1], k1, .str "1" t1), ([.inl (-1), .inl 1], k2, .str "b" t2), ([.inl 1, .inl (-1)], k3, .str "a" t3), ([.inl (-1), .inl (-1)], k4, .str "c" t4)], ⟨_, es, n, X _ _ e, ⟨rfl, rfl, rfl⟩, rfl, ?_, ?_, ?_⟩, ?_⟩
            · rw [hl, q1, q2, q3, q4]
              rfl
            · intro x hx
              simp only [List.mem_cons, List.not_mem_nil, or_false] at hx
              rcases hx with rfl | rfl | rfl | rfl
              · exact r1
              · exact r2
              · exact r3
              · exact r4
            · show List.Nodup [([.inl 1, .inl 1] : List Key), [.inl (-1), .inl 1], [.inl 1, .inl (-1)], [.inl (-1), .inl (-1)]]
              decide
            · intro i j z hz
              unfold turnK at hz
              split at hz
              · rename_i hc; obtain ⟨rfl, rfl⟩ := hc; cases hz; exact ⟨k1, t1, rfl⟩
              · split at hz
                · rename_i hc; obtain ⟨rfl, rfl⟩ := hc; cases hz; exact ⟨k2, t2, rfl⟩
                · split at hz
                  · rename_i hc; obtain ⟨rfl, rfl⟩ := hc; cases hz; exact ⟨k3, t3, rfl⟩
                  · split at hz
                    · rename_i hc; obtain ⟨rfl, rfl⟩ := hc; cases hz; exact ⟨k4, t4, rfl⟩
                    · cases hz
          · cases h4
        | _ => cases c
      | some _ => cases dt <;> cases c
    | _ => cases od <;> cases dt <;> cases c
end
def turnD : D → Option D
  | .tup [.int i, .int j] => (turnK i j).map D.str
  | _ => none
section
variable {X : Cx} {E : XK} {k : Nat} {e : Expr} {pos p : Pos} {fa : Ev → M D} {x : Str} {a : Addr}
theorem de_turning (G : Good X E k) (hg : Gl X x) (hm : X.mg x = some (.ref a)) (hK : turnB X.K a = true) (he : PE X e (tD X.mg E fa)) (hs : NoSl e) (hd : (x == ("__debug__" : Str)) = false := by decide) : PE X (.Subscript (.Name x p) e pos) (tD X.mg E (un1 turnD fa)) := by
  refine ⟨fun pins s σ H Q I ⟨Z, H0, F, ρ, ds, w, en, g⟩ => ?_⟩
  refine subD_of PySem.F.slot_dict_getitem.lookup hs (ld_glob I hg hm ?_ hd)
  refine thn2 (he.run pins s σ H (fun v H1 => ∃ F1 s1 d1, Wd Z s1 F1 H1 ∧ Rep Z F1 v d1 ∧ Goal (relD Z) X.mg E Z F1 H1 Q ((M.lift (turnD d1) : M D) s1)) I ⟨Z, H0, F, ρ, ds, w, en, g.bind (rel' := relD Z) fun d1 s1 v F1 H1 g1 w1 r1 q1 => ⟨F1, s1, d1, w1, r1, q1⟩⟩) fun v s1 ⟨y, H1, I1, rv, F1, s2, d1, w1, r1, q1⟩ => ?_
  obtain ⟨d, ed, q⟩ := q1.lift
  obtain ⟨xs, dd, hat⟩ := turnB_ok (P := X.prog) (w := X.w) I1.kIn hK
  match d1, r1, ed with
  | .tup [.int i, .int j], .tup ha (.cons (.int _) (.cons (.int _) .nil)), ed =>
    obtain ⟨z, hz, ez⟩ := map_some (show (turnK i j).map D.str = some d from ed)
    subst ez
    obtain ⟨kk, t, hk⟩ := hat i j z hz
    cases rv
    obtain ⟨o, es, ep, h1, h2, h3, _⟩ := id dd
    refine ⟨⟨o, h1, h2.1⟩, ?_⟩
    refine wpAny_getItem_heap (tupleKind_room_in1 (by have := G.room.units; omega)) (key_of (ks := [.inl i, .inl j]) I1.hok (w1.sub _ _ ha)) dd hk ?_
    exact ⟨.str z, H1, I1.tok _, ⟨t, rfl⟩, q _ F1 H1 Grow.refl w1 (.str z)⟩
end

/-! ### the Hook: the keys of the table, too -/
def keysO (o : Option Obj) : List Addr := match o with
  | some ⟨_, _, .dict es _, _⟩ => es.toList.flatMap fun e => He.refV e.key
  | _ => []
/-- the addresses looked at -/
def asK (x : Str) (n : Nat) (g : Addr → Option Obj) : List Addr := He.asD g n ++ keysO (g (He.ga (He.frG g (He.asD g n)) x))
abbrev AlK : Type := He.AlD × Bool
def obsK (x : Str) (fa : List He.Fa) (fn : List He.DefD) (K : PySem.W.Frag) : AlK := (He.obsD fa fn K, turnB K (He.ga K x))
def obsKG (x : Str) (n : Nat) (fa : List He.Fa) (fn : List He.DefD) (g : Addr → Option Obj) : AlK := obsK x fa fn (He.frG g (asK x n g))
def SaysK (x : Str) (fa : List He.Fa) (fn : List He.DefD) (K : PySem.W.Frag) : Prop := He.SaysD fa fn K ∧ turnB K (He.ga K x) = true
def hookK (x : Str) (n : Nat) (fa : List He.Fa) (fn : List He.DefD) : PySem.W.Hook where
  α := AlK
  obs := fun s => obsKG x n fa fn s.heap.get?
  val := fun _ => (He.valD fn, true)
  says := fun _ h => ∃ K : PySem.W.Frag, K.In h ∧ SaysK x fa fn K
  of := fun _ _ e => ⟨_, He.frG_in, congrArg (fun z : AlK => z.1) e, congrArg (fun z : AlK => z.2) e⟩
  keeps := fun _ _ _ ⟨K, hK, c⟩ k => ⟨K, PySem.W.Frag.In.keeps hK k, c⟩
theorem obsKG_eq {x : Str} {n : Nat} {fa : List He.Fa} {fn : List He.DefD} {g : Addr → Option Obj} {s : Shared} (h : ∀ a, g a = s.heap.get? a) : obsKG x n fa fn g = (hookK x n fa fn).obs s := by
  have e : g = s.heap.get? := funext h
  rw [e] <;> rfl
end DL

set_option Elab.async false
set_option linter.all false
set_option maxRecDepth 100000
set_option maxHeartbeats 4000000
/-! D layer 15: how a law begins: the draws from the script. -/
namespace DL
open PySem PySem.Spec PyProof.Rows L2

def scrF (H : Hp) (a : Addr) : Hp := fun b => if b = a then H a else none
theorem scrF_same (H : Hp) (a : Addr) : Same (scrF H a) H := fun b u e => by
  unfold scrF at e
  by_cases hb : b = a
  · subst hb; rw [if_pos rfl] at e; exact e
  · rw [if_neg hb] at e; cases e
theorem scrF_sq {K : PySem.W.Frag} {H : Hp} {a : Addr} {xs : List V} (h : SqL K H a xs) : SqL K (scrF H a) a xs := by
  have e : scrF H a a = H a := if_pos rfl
  rcases h with (h | ⟨o, h⟩) | h
  · exact .inl (.inl (e.trans h))
  · exact .inl (.inr ⟨o, e.trans h⟩)
  · exact .inr h
theorem sql_mono {K : PySem.W.Frag} {F H : Hp} {a : Addr} {xs : List V} (sm : Same F H) (h : SqL K F a xs) : SqL K H a xs := by
  rcases h with (h | ⟨o, h⟩) | h
  · exact .inl (.inl (sm _ _ h))
  · exact .inl (.inr ⟨o, sm _ _ h⟩)
  · exact .inr h
/-- of one list known by its K, too -/
theorem ItD.sq {Z : Zt} {F : Hp} {K : PySem.W.Frag} {a : Addr} {xs : List V} {ds : List D} (h : SqL K F a xs) (r : Reps Z F xs ds) : ItD Z F (Itl K a) ds where
  go := fun i H hi e => by
    have hi' : i < xs.length := by rw [r.length]; exact hi
    exact ⟨xs, xs[i], (sql_mono e h), by simp [hi']⟩
  stop := fun H e => ⟨xs, (sql_mono e h), Nat.le_of_eq r.length⟩
  yld := fun i H x H' hi e y => by
    obtain ⟨d, h1, h2⟩ := r.getV (y.2 xs ((sql_mono e h)))
    exact .inl ⟨y.1, d, h1, h2⟩
def begunS (ns : List Int) : DS := ⟨((ns.map Int.natAbs).filter fun n => decide (1000000000000000000 ≤ n)).map (· - 1000000000000000000), ns.map Int.natAbs, 0, 0⟩
/-- _law_begun(script) -/
def spB (K : PySem.W.Frag) : Sp := fun vs H Q E => ∃ a ns, vs = [.ref a] ∧ SqL K H a (ns.map V.int) ∧ ns.length ≤ 63 ∧ ∀ p l F' H', Grow none (scrF H a) H F' H' → Wd (some (p, l)) (begunS ns) F' H' → Q (.ref p) H'
structure BegOk (P : Program) (w : World) (K : PySem.W.Frag) (mg : Str → Option Value) (base : Heap) (k : Nat) (x : Str) : Prop where
  ex : ∃ f fd, FnOk P w K mg base (L2.CX P w) k f fd ["script"] (spB K) ∧ mg x = some (.ref f) ∧ PySem.W.keepIn K (.ref f) = true ∧ Binds K fd ["script"] []
def eAbs : Ev → M D := dBi absD (aCons (dVar 3) aNil)
def tBig : Ev → M Bool := bTst (bin2 geD (dVar 3) (bin2 powD (dC (.int 10)) (dC (.int 18))))
def eLess : Ev → M D := bin2 subD (dVar 3) (bin2 powD (dC (.int 10)) (dC (.int 18)))
theorem lc_abs {b0 b1 b2 : Option B} {s : DS} : ∀ (ns : List Int) (acc : List D), acc.length + ns.length ≤ 1000 → lcL (gN 3) bYes eAbs [b0, b1, b2, none] (ns.map D.int) acc s = some (.ok (acc ++ (ns.map Int.natAbs).map fun n => D.int (n : Nat)), s)
  | [], acc, _ => by rw [List.map_nil, List.map_nil, List.map_nil, List.append_nil]; rfl
  | n :: ns, acc, h => by
    have hl : acc.length < big := by rw [List.length_cons] at h; show acc.length < 16777216; omega
    have step : lcL (gN 3) bYes eAbs [b0, b1, b2, none] (D.int n :: ns.map D.int) acc s = (if acc.length < big then lcL (gN 3) bYes eAbs [b0, b1, b2, none] (ns.map D.int) (acc ++ [D.int (n.natAbs : Nat)]) else M.fail) s := by
      have e : ((n.natAbs : Nat) : Int) = if n < 0 then -n else n := by split <;> omega
      rw [e]
      rfl
    rw [List.map_cons, step, if_pos hl, lc_abs ns _ (by rw [List.length_append, List.length_cons] at *; simp at *; omega)]
    simp
theorem lc_big {b0 b1 b2 : Option B} {s : DS} : ∀ (ns : List Nat) (acc : List D), acc.length + ns.length ≤ 1000 → lcL (gN 3) tBig eLess [b0, b1, b2, none] (ns.map fun n => D.int (n : Nat)) acc s =
    some (.ok (acc ++ ((ns.filter fun n => decide (1000000000000000000 ≤ n)).map (· - 1000000000000000000)).map fun n => D.int (n : Nat)), s)
  | [], acc, _ => by simp [lcL]; rfl
  | n :: ns, acc, h => by
    have hl : acc.length < big := by rw [List.length_cons] at h; show acc.length < 16777216; omega
    have step : lcL (gN 3) tBig eLess [b0, b1, b2, none] (D.int (n : Nat) :: ns.map fun n => D.int (n : Nat)) acc s =
        (if (decide ((10 : Int) ^ 18 ≤ (n : Int))) = true then (if acc.length < big then lcL (gN 3) tBig eLess [b0, b1, b2, none] (ns.map fun n => D.int (n : Nat)) (acc ++ [D.int ((n : Int) - 10 ^ 18)]) else M.fail) else lcL (gN 3) tBig eLess [b0, b1, b2, none] (ns.map fun n => D.int (n : Nat)) acc) s := rfl
    rw [List.map_cons, step]
    by_cases hb : 1000000000000000000 ≤ n
    · have hb' : (10 : Int) ^ 18 ≤ (n : Int) := by have : (10 : Int) ^ 18 = ((1000000000000000000 : Nat) : Int) := by decide
                                                   rw [this]; exact_mod_cast hb
      rw [if_pos (decide_eq_true hb'), if_pos hl, lc_big ns _ (by rw [List.length_append, List.length_cons] at *; simp at *; omega), List.filter_cons, if_pos (decide_eq_true hb)]
      have e : (n : Int) - 10 ^ 18 = ((n - 1000000000000000000 : Nat) : Int) := by
        have : (10 : Int) ^ 18 = ((1000000000000000000 : Nat) : Int) := by decide
        rw [this]; omega
      rw [e]
      simp
    · have hb' : ¬ (10 : Int) ^ 18 ≤ (n : Int) := by have : (10 : Int) ^ 18 = ((1000000000000000000 : Nat) : Int) := by decide
                                                     rw [this]; intro z; exact hb (by exact_mod_cast z)
      rw [if_neg (by rw [decide_eq_false hb']; exact Bool.false_ne_true), lc_big ns acc (by rw [List.length_cons] at h; omega), List.filter_cons, if_neg (by rw [decide_eq_false hb]; exact Bool.false_ne_true)]
theorem merge_kv {l c : Addr} {s : DS} : mergeK [] (kvDS l c s) = kvDS l c s := by kernel_rfl
section
variable {P : Program} {w : World} {K : PySem.W.Frag} {mg : Str → Option Value} {base : Heap}
/-- the two lists, then the dict -/
theorem begun_read {F H Hs : Hp} {a l c : Addr} {ns : List Int} {Q : VK} (hK : SqL K Hs a (ns.map V.int)) (hsub : Same (scrF Hs a) F) (g : Grow none (scrF Hs a) Hs F H) (wd : Wd none (begunS ns) F H)
    (hl : H l = some (.lst ((begunS ns).large.map nV))) (hs0 : Hs l = none) (hc : F c = some (.lst ((begunS ns).cells.map nV))) (hcl : c ≠ l)
    (q : ∀ p l F' H', Grow none (scrF Hs a) Hs F' H' → Wd (some (p, l)) (begunS ns) F' H' → Q (.ref p) H') {p : Addr} (hp : H p = none) : Q (.ref p) (upd H p (.dK (kvDS l c (begunS ns)))) := by
  have nz : ∀ b, ¬ Zm none b := fun b ⟨_, _, e, _⟩ => by cases e
  have f0 : scrF Hs a l = none := (scrF_same Hs a).free hs0
  have hpl : p ≠ l := fun e => by subst e; rw [hl] at hp; cases hp
  have hpH : Hs p = none := g.free hp
  refine q p l (fun b => if b = l then none else F b) _ ⟨fun b u e => ?_, fun b u e n => ?_, fun b e => ?_, fun b e => ?_⟩ ⟨fun b u e => ?_, hpl, ?_, if_pos rfl, c, upd_same, by rw [upd_ne (Ne.symm hpl)]; exact hl, by show (if c = l then none else F c) = _; rw [if_neg hcl]; exact hc⟩
  · show (if b = l then none else F b) = _
    rw [if_neg (ne_of_none e f0)]; exact g.f b u e
  · rw [upd_ne (ne_of_none e hpH)]; exact g.h b u e (nz b)
  · show (if b = l then none else F b) = _
    have : b ≠ l := fun z => e (by rw [z]; exact hs0)
    rw [if_neg this]; exact g.k b e
  · have : b ≠ p := fun z => e (by rw [z]; exact hpH)
    rw [upd_ne this]; exact g.a b e
  · have e' : (if b = l then none else F b) = some u := e
    by_cases hb : b = l
    · rw [if_pos hb] at e'; cases e'
    · rw [if_neg hb] at e'
      have := wd.sub b u e'
      rw [upd_ne (ne_of_none this hp)]; exact this
  · show (if p = l then none else F p) = none
    rw [if_neg hpl]; exact wd.sub.free hp
end
theorem reps_nat_inv {Z : Zt} {F : Hp} : ∀ {ns : List Nat} {xs : List V}, Reps Z F xs (ns.map fun n => .int (n : Nat)) → xs = ns.map nV
  | [], _, .nil => rfl
  | n :: ns, _, .cons (.int _) r => by rw [List.map_cons, ← reps_nat_inv r]; rfl
theorem EnvR.bare0 {Z : Zt} {H0 F H : Hp} {σ : L2.St} {ρ : Ev} (hl : σ.length = ρ.length) (h : ∀ (i : Nat) b, ρ[i]? ≠ some (some b)) : EnvR Z H0 F H σ ρ :=
  ⟨⟨hl, fun i d q => absurd q (h i _), fun i d q => absurd q (h i _), fun i j d e q _ _ => absurd q (h i _)⟩, ⟨fun i d q => absurd q (h i _), fun i d q => absurd q (h i _), fun i j d e q _ _ => absurd q (h i _)⟩⟩
theorem dLc_abs {ns : List Int} {s : DS} (h : ns.length ≤ 63) : dLc [3] (fun _ => pure (ns.map D.int)) (gN 3) bYes eAbs [none, none, none, none] s = some (.ok (.lst ((ns.map Int.natAbs).map fun n => D.int (n : Nat))), s) := by
  have e := lc_abs (b0 := none) (b1 := none) (b2 := none) (s := s) ns [] (by rw [List.length_nil]; omega)
  show M.bind (lcL (gN 3) bYes eAbs [none, none, none, none] (ns.map D.int) []) (fun xs => pure (D.lst xs)) s = _
  unfold M.bind
  rw [e]
  rfl
theorem dLc_big {ns : List Nat} {s : DS} (h : ns.length ≤ 63) : dLc [3] (iSeq (dVar 1)) (gN 3) tBig eLess [none, some (.val (.lst (ns.map fun n => D.int (n : Nat)))), none, none] s =
    some (.ok (.lst (((ns.filter fun n => decide (1000000000000000000 ≤ n)).map (· - 1000000000000000000)).map fun n => D.int (n : Nat))), s) := by
  have e := lc_big (b0 := none) (b1 := some (.val (.lst (ns.map fun n => D.int (n : Nat))))) (b2 := none) (s := s) ns [] (by rw [List.length_nil]; omega)
  show M.bind (lcL (gN 3) tBig eLess [none, some (.val (.lst (ns.map fun n => D.int (n : Nat)))), none, none] (ns.map fun n => D.int (n : Nat)) []) (fun xs => pure (D.lst xs)) s = _
  unfold M.bind
  rw [e]
  rfl
theorem lc_tLc {X : Cx} {E : XK} {own : List (Str × Nat)} {src : Ev → M (List D)} {g : Tgt} {ix : List Nat} {t : Ev → M Bool} {e : Ev → M D} {Z : Zt} {H0 F H : Hp} {σ : L2.St} {ρ : Ev} {s : DS} {rel : Hp → V → D → Prop} {Q : VK} {wi : TI} (hix : ∀ i ∈ ix, i ∈ own.map (·.2)) (w : Wd Z s F H) (en : EnvR Z H0 F H σ ρ)
    (hrel : ∀ F' A acc, H A = none → Rep Z F' (.ref A) (.lst acc) → rel F' (.ref A) (.lst acc)) (hwi : ∀ R, Goal (fun F' J ds => ItD Z F' J ds) X.mg E Z F H R (src ρ s) → wi σ H R) (gl : Goal rel X.mg E Z F H Q (dLc (own.map (·.2)) src g t e ρ s)) :
    tLc wi (tG ix g) (tB' X.mg DL.E0 t) (tD X.mg DL.E0 e) (own.map (·.2)) σ H Q := hwi _ (lc_at hix w en hrel gl)
theorem asg_in {te : TE} {g : TG} {D : Ends} {σ : L2.St} {H : Hp} (h : te σ H (fun x H1 => g x σ H1 D.nx)) : tAsg te g D σ H := h
theorem seq_in {t u : TS} {D : Ends} {σ : L2.St} {H : Hp} (h : t { D with nx := u D } σ H) : tSeq t u D σ H := h
theorem name_in {i : Nat} {v : V} {σ : L2.St} {H : Hp} {Q : L2.St → Hp → Prop} (h : Q (σ.set i (some v)) H) : gName i v σ H Q := h
theorem ret_in {te : TE} {D : Ends} {σ : L2.St} {H : Hp} (h : te σ H D.rt) : tRet te D σ H := h
end DL

set_option Elab.async false
set_option linter.all false
set_option maxRecDepth 100000
set_option maxHeartbeats 4000000
/-! D layer 16: a law: its draws, its laps. -/
namespace DL
open PySem PySem.Spec PyProof.Rows L2

structure Sh (n st : Nat) (ρ : Ev) : Prop where
  len : ρ.length = n
  st : ρ[st]? = some (some (.val .st))
structure DsOk (c : Nat) (s : DS) : Prop where
  t : s.turn ≤ c
  l : s.large.length ≤ 63
  c : s.cells.length ≤ 63
def LapOk (n st : Nat) (f : Sm) : Prop := ∀ (c : Nat) (ρ : Ev) (s : DS), Sh n st ρ → c ≤ 100 → DsOk (10000 * c) s → ∃ ρ' s', f ρ s = some (.ok (.nx ρ'), s') ∧ Sh n st ρ' ∧ DsOk (10000 * (c + 1)) s'
theorem laps {n st lap : Nat} {f : Sm} (h : LapOk n st f) (hl : lap ≠ st) : ∀ (ds : List D) (c : Nat) (ρ : Ev) (s : DS), c + ds.length ≤ 100 → Sh n st ρ → DsOk (10000 * c) s →
    ∃ ρ' s', forL (gN lap) f ds ρ s = some (.ok (.nx ρ'), s')
  | [], c, ρ, s, _, _, _ => ⟨ρ, s, rfl⟩
  | d :: ds, c, ρ, s, hc, sh, ok => by
    rw [List.length_cons] at hc
    obtain ⟨ρ1, s1, e, sh1, ok1⟩ := h c (ρ.set lap (some (.val d))) s ⟨by rw [List.length_set]; exact sh.len, by rw [List.getElem?_set_ne hl]; exact sh.st⟩ (by omega) ok
    obtain ⟨ρ2, s2, e2⟩ := laps h hl ds (c + 1) ρ1 s1 (by omega) sh1 ok1
    refine ⟨ρ2, s2, ?_⟩
    show M.bind (f (ρ.set lap (some (.val d)))) (forT (forL (gN lap) f ds)) s = _
    unfold M.bind
    rw [e]
    exact e2
def spLaw (K : PySem.W.Frag) : Sp := fun vs H Q E => ∃ (a : Addr) (ns : List Int), vs = [.ref a] ∧ SqL K H a (ns.map V.int) ∧ ns.length ≤ 63 ∧ ∀ H', Q (.bl true) H'
theorem law_ok {P : Program} {w : World} {K : PySem.W.Frag} {mg : Str → Option Value} {base : Heap} {params : Arguments} {scope : Scope} {f : Addr} {fd : FuncData} {N : List Str} {k : Nat} {fl : Sm} {A B : Int} {xs xl : Str} {lapb : List Stmt} {j1 j2 j3 : Nat} {p1 p2 p3 p4 p5 p6 p7 p8 p9 p10 p11 p12 p13 p14 p15 p16 p17 p18 p19 : Pos} {st lp : Nat}
    (F : FunD K "law" "law" params (.Assign [.Name xs p1] (.Call (.Name "_law_begun" p2) [.Name "script" p3] [] p4) p5 :: .For (.Name xl p6) (.Call (.Name "range" p7) [.BinOp (.Constant (.int A) j1 p8) .Add (.Call (.Name "min" p9) [.Call (.Name "len" p10) [.Name "script" p11] [] p12, .Constant (.int B) j2 p13] [] p14) p15] [] p16) lapb [] p17 :: [.Return (some (.Constant (.bool true) j3 p18)) p19]) scope [] [] f fd)
    (S : FnScope N ["script"] scope) (hN : 0 < N.length) (h0 : N[0]? = some ("script" : Str)) (hs : N[st]? = some xs) (hl : N[lp]? = some xl) (hst : st ≠ 0) (hlp : lp ≠ 0) (hsl : lp ≠ st) (v0 : Vis scope "script") (ls : L2.Loc scope xs) (ll : L2.Loc scope xl)
    (g1 : scope.names.lookup ("_law_begun" : Str) = some .globalImplicit) (g2 : scope.names.lookup ("range" : Str) = some .globalImplicit) (g3 : scope.names.lookup ("min" : Str) = some .globalImplicit) (g4 : scope.names.lookup ("len" : Str) = some .globalImplicit)
    (m2 : mg ("range" : Str) = none) (m3 : mg ("min" : Str) = none) (m4 : mg ("len" : Str) = none) (b3 : bootBuiltins ("min" : Str) = some (.builtin "min")) (b4 : bootBuiltins ("len" : Str) = some (.builtin "len")) (BO : BegOk P w K mg base 1 "_law_begun") (hk : 1 ≤ k)
    (hA : 0 ≤ A ∧ A ≤ 20 ∧ 0 ≤ B ∧ B ≤ 20) (hlap : LapOk N.length st fl) (hsw : ∀ env : Env, swapsWith (.Call (.Name "_law_begun" p2) [.Name "script" p3] [] p4) (some (.Name xs p1)) p5.line env = pure false)
    (hbody : ∀ (cdv : Value) (A : Around) (outer : List Env) (s : Shared) (H : Hp) (E : XK), Good (cxOf (L2.CX P w) P w K mg base N "law" scope f cdv A outer s H E) E k → PSs (cxOf (L2.CX P w) P w K mg base N "law" scope f cdv A outer s H E) lapb (tS mg E fl)) :
    FnOk P w K mg base (L2.CX P w) (k + 1) f fd ["script"] (spLaw K) := by
  refine FunD.ok F S (fun vs H Q E h => by obtain ⟨a, ns, rfl, _⟩ := h; rfl) (fun cdv Ar outer s H vs Q E hr h => ?_)
  obtain ⟨a, ns, rfl, hS, hlen, q⟩ := h
  have G : Good (cxOf (L2.CX P w) P w K mg base N "law" scope f cdv Ar outer s H E) E k := ⟨rfl, hr, S.nd, takes_of rfl rfl rfl rfl, passes_of rfl⟩
  obtain ⟨fb, fdb, FB, mb, kb, bb⟩ := BO.ex
  refine ⟨_, pss_cons (ps_set (i := st) G.nd hs ls (pe_call (FB.mono hk) G.room g1 mb kb bb .nil (passes_call G.tk fun _ _ _ _ h => h) (pa_cons (pe_var (i := 0) h0 v0) pa_nil)) (hsw _) (.inl rfl))
    (pss_cons (ps_for (g := tG [lp] (gN lp)) (tb := tS mg E fl) G.own G.calm (pi_range1 g2 m2 (pa_cons (pe_op od_add pe_int (pe_callB (cd_min G.calm) g3 m3 b3 (pa_cons (pe_callB call_len_seq g4 m4 b4 (pa_cons (pe_var (i := 0) h0 v0) pa_nil)) (pa_cons pe_int pa_nil)))) pa_nil)) (dg_name lp G.nd hl ll (.inl rfl)) (hbody cdv Ar outer s H E G)) (pss_one (ps_ret pe_bl))), ?_⟩
  have hst0 : (L2.start N [.ref a])[0]? = some (some (.ref a)) := rfl
  have hlenS : (L2.start N [.ref a]).length = N.length := by unfold L2.start; rw [List.length_append, List.length_map, List.length_replicate]; show 1 + (N.length - 1) = _; omega
  have hstN : st < N.length := by
    cases h : decide (st < N.length) with
    | true => exact of_decide_eq_true h
    | false => rw [List.getElem?_eq_none (Nat.le_of_not_lt (of_decide_eq_false h))] at hs; cases hs
  refine ⟨.ref a, hst0, a, ns, rfl, hS, hlen, fun p l F1 H1 gr wd => ?_⟩
  show tSeq _ _ _ ((L2.start N [.ref a]).set st (some (V.ref p))) H1
  have hσ0 : ((L2.start N [.ref a]).set st (some (V.ref p)))[0]? = some (some (.ref a)) := by rw [List.getElem?_set_ne hst]; exact hst0
  have sq1 : SqL K H1 a (ns.map V.int) := sql_mono (gr.f.trans wd.sub) (scrF_sq hS)
  have nz : ∀ b, ¬ Zm none b := fun b ⟨_, _, e, _⟩ => by cases e
  have nw : ∀ {X : Hp}, Wd none (begunS ns) (fun _ => none) X := fun {X} => ⟨(fun _ _ e => nomatch e), trivial⟩
  -- the number of laps
  have hB : ∃ m : Int, minD [.int (ns.length : Nat), .int B] = some (.int m) ∧ 0 ≤ m ∧ m ≤ 20 := by
    refine ⟨_, rfl, ?_, ?_⟩
    · split <;> omega
    · split <;> omega
  obtain ⟨m, hm, hm0, hm20⟩ := hB
  have hm' : minD [.int ((ns.map V.int).length : Nat), .int B] = some (.int m) := by rw [List.length_map]; exact hm
  refine ⟨.ref a, hσ0, a, _, rfl, .inl sq1, ?_⟩
  refine ⟨none, fun _ => none, begunS ns, [.int ((ns.map V.int).length : Nat), .int B], .int m, nw, .cons (.int _) (.cons (.int _) .nil), hm', fun v F2 H2 gr2 w2 r2 => ?_⟩
  cases r2
  refine ⟨none, fun _ => none, begunS ns, .int A, .int m, .int (A + m), nw, .int _, .int _, rfl, fun v F3 H3 gr3 w3 r3 => ?_⟩
  cases r3
  refine ⟨A + m, rfl, by omega, by omega, ?_⟩
  obtain ⟨ga, wa⟩ := Wd.other (s' := begunS ns) wd gr2
  obtain ⟨gb, wb⟩ := Wd.other (s' := begunS ns) wa gr3
  have g0 : Grow (some (p, l)) (scrF H a) H F1 H1 := ⟨gr.f, fun b o e _ => gr.h b o e (nz b), gr.k, gr.a⟩
  have en0 : EnvR (some (p, l)) H F1 H3 (L2.start N [.ref a]) (List.replicate N.length none) := EnvR.bare0 (by rw [hlenS, List.length_replicate]) fun i b h => by
    rw [List.getElem?_replicate] at h
    split at h <;> cases h
  have en1 := en0.setV (i := st) (Rep.st (F := F1) rfl)
  have sh : Sh N.length st ((List.replicate N.length none).set st (some (DL.B.val .st))) := ⟨by rw [List.length_set, List.length_replicate], by rw [List.getElem?_set_self (by rw [List.length_replicate]; exact hstN)]⟩
  have hL : (begunS ns).large.length ≤ 63 := by
    show (((ns.map Int.natAbs).filter _).map _).length ≤ 63
    rw [List.length_map]
    exact Nat.le_trans (List.length_filter_le _ _) (by rw [List.length_map]; exact hlen)
  obtain ⟨ρ', s', e⟩ := laps hlap hsl (rngL 0 1 (A + m).toNat) 0 _ (begunS ns) (by rw [rngL_length]; omega) sh ⟨Nat.zero_le _, hL, by show (ns.map Int.natAbs).length ≤ 63; rw [List.length_map]; exact hlen⟩
  refine for_at (F1 := F1) (ds := rngL 0 1 (A + m).toNat) (s1 := begunS ns) ⟨(g0.trans ga).trans gb, wb, en1⟩ ItD.rng ?_
  rw [e]
  exact fun _ _ H' _ _ _ => q H'
end DL

set_option Elab.async false
set_option linter.all false
set_option maxRecDepth 100000
set_option maxHeartbeats 4000000
/-! D layer 17: functions on data that make no draws. -/
namespace DL
open PySem PySem.Spec PyProof.Rows L2

/-- it makes no draws -/
def Pu {α : Type} (x : M α) : Prop := ∃ o : Option (Except Ex α), x = fun s => o.map fun r => (r, s)
section
variable {α β : Type}
theorem pu_pure (a : α) : Pu (pure a : M α) := ⟨some (.ok a), rfl⟩
theorem pu_fail : Pu (M.fail : M α) := ⟨none, rfl⟩
theorem pu_lift (o : Option α) : Pu (M.lift o) := by
  cases o with
  | none => exact ⟨none, rfl⟩
  | some a => exact ⟨some (.ok a), rfl⟩
theorem pu_bind {x : M α} {f : α → M β} (h : Pu x) (k : ∀ a, Pu (f a)) : Pu (x >>= f) := by
  obtain ⟨o, rfl⟩ := h
  cases o with
  | none => exact ⟨none, rfl⟩
  | some r =>
    cases r with
    | error e => exact ⟨some (.error e), rfl⟩
    | ok a => exact k a
theorem pu_noErr {x : M α} (h : Pu x) : Pu (M.noErr x) := by
  obtain ⟨o, rfl⟩ := h
  cases o with
  | none => exact ⟨none, rfl⟩
  | some r =>
    cases r with
    | error e => exact ⟨none, rfl⟩
    | ok a => exact ⟨some (.ok a), rfl⟩
theorem pu_ite {c : Prop} [Decidable c] {x y : M α} (h : Pu x) (k : Pu y) : Pu (if c then x else y) := by
  split
  · exact h
  · exact k
theorem Pu.at {x : M α} (h : Pu x) {a : α} {s0 s1 : DS} (e : x s0 = some (.ok a, s1)) (s : DS) : x s = some (.ok a, s) := by
  obtain ⟨o, rfl⟩ := h
  cases o with
  | none => cases e
  | some r =>
    have e' : some (r, s0) = some (.ok a, s1) := e
    injection e' with e'
    injection e' with e1 e2
    subst e1
    rfl
end
section
variable {a b c : Ev → M D} {fs r : Ev → M (List D)} {t u : Ev → M Bool} {f g h : Sm} {l hh : Pt}
abbrev PuF {α : Type} (a : Ev → M α) : Prop := ∀ ρ, Pu (a ρ)
theorem pu_dVar (i : Nat) : PuF (dVar i) := fun ρ => by
  unfold dVar
  split
  · exact pu_pure _
  · exact pu_fail
theorem pu_dC (d : D) : PuF (dC d) := fun _ => pu_pure d
theorem pu_bin2 {k : D → D → Option D} (ha : PuF a) (hb : PuF b) : PuF (bin2 k a b) := fun ρ => pu_bind (ha ρ) fun _ => pu_bind (hb ρ) fun _ => pu_lift _
theorem pu_un1 {k : D → Option D} (ha : PuF a) : PuF (un1 k a) := fun ρ => pu_bind (ha ρ) fun _ => pu_lift _
theorem pu_aNil : PuF aNil := fun _ => pu_pure _
theorem pu_aCons (ha : PuF a) (hr : PuF r) : PuF (aCons a r) := fun ρ => pu_bind (ha ρ) fun _ => pu_bind (hr ρ) fun _ => pu_pure _
theorem pu_aStar (ha : PuF a) (hr : PuF r) : PuF (aStar a r) := fun ρ => pu_bind (ha ρ) fun _ => pu_bind (pu_lift _) fun _ => pu_bind (hr ρ) fun _ => pu_pure _
theorem pu_dTup (hr : PuF r) : PuF (dTup r) := fun ρ => pu_bind (hr ρ) fun _ => pu_ite (pu_pure _) pu_fail
theorem pu_dLst (hr : PuF r) : PuF (dLst r) := fun ρ => pu_bind (hr ρ) fun _ => pu_ite (pu_pure _) pu_fail
theorem pu_dBi {k : List D → Option D} (hr : PuF r) : PuF (dBi k r) := fun ρ => pu_bind (hr ρ) fun _ => pu_lift _
theorem pu_dFnN {n : Nat} {m : List D → M D} (hm : ∀ ds, Pu (m ds)) (hr : PuF r) : PuF (dFnN n m r) := fun ρ => pu_bind (hr ρ) fun _ => pu_ite (hm _) pu_fail
theorem pu_dIf (ht : PuF t) (ha : PuF a) (hb : PuF b) : PuF (dIf t a b) := fun ρ => pu_bind (ht ρ) fun _ => pu_ite (ha ρ) (hb ρ)
theorem pu_dAnd (ha : PuF a) (hb : PuF b) : PuF (dAnd a b) := fun ρ => pu_bind (ha ρ) fun _ => pu_bind (pu_lift _) fun _ => pu_ite (hb ρ) (pu_pure _)
theorem pu_dOr (ha : PuF a) (hb : PuF b) : PuF (dOr a b) := fun ρ => pu_bind (ha ρ) fun _ => pu_bind (pu_lift _) fun _ => pu_ite (pu_pure _) (hb ρ)
theorem pu_dNot (ha : PuF a) : PuF (dNot a) := fun ρ => pu_bind (ha ρ) fun _ => pu_bind (pu_lift _) fun _ => pu_pure _
theorem pu_dChain {k k' : D → D → Option D} (ha : PuF a) (hb : PuF b) (hc : PuF c) : PuF (dChain k k' a b c) := fun ρ => pu_bind (ha ρ) fun _ => pu_bind (hb ρ) fun _ => pu_bind (pu_lift _) fun _ => pu_ite (pu_bind (hc ρ) fun _ => pu_lift _) (pu_pure _)
theorem pu_bTst (ha : PuF a) : PuF (bTst a) := fun ρ => pu_bind (ha ρ) fun _ => pu_lift _
theorem pu_bTru (ha : PuF a) : PuF (bTru a) := fun ρ => pu_bind (ha ρ) fun _ => pu_lift _
theorem pu_bAnd (ha : PuF t) (hb : PuF u) : PuF (bAnd t u) := fun ρ => pu_bind (ha ρ) fun _ => pu_ite (hb ρ) (pu_pure _)
theorem pu_bOr (ha : PuF t) (hb : PuF u) : PuF (bOr t u) := fun ρ => pu_bind (ha ρ) fun _ => pu_ite (pu_pure _) (hb ρ)
theorem pu_bNot (ha : PuF t) : PuF (bNot t) := fun ρ => pu_bind (ha ρ) fun _ => pu_pure _
theorem pu_bYes : PuF bYes := fun _ => pu_pure _
theorem pu_pNo : PuF pNo := fun _ => pu_pure _
theorem pu_pAt (ha : PuF a) : PuF (pAt a) := fun ρ => pu_bind (ha ρ) fun x => by
  split
  · exact pu_pure _
  · exact pu_fail
theorem pu_dSl (ha : PuF a) (hl : PuF l) (hr : PuF hh) : PuF (dSl a l hh) := fun ρ => pu_bind (ha ρ) fun _ => pu_bind (hl ρ) fun _ => pu_bind (hr ρ) fun _ => pu_lift _
theorem pu_dMtS {k : Str → List D → Option D} (ha : PuF a) (hr : PuF r) : PuF (dMtS k a r) := fun ρ => pu_bind (ha ρ) fun _ => pu_bind (pu_lift _) fun _ => pu_bind (hr ρ) fun _ => pu_lift _
theorem pu_dIsi {T : Ty} (ha : PuF a) : PuF (dIsi T a) := fun ρ => pu_bind (ha ρ) fun _ => pu_lift _
theorem pu_dIsiR (ha : PuF a) : PuF (dIsiR a) := fun ρ => pu_bind (ha ρ) fun _ => pu_lift _
theorem pu_iSeq (ha : PuF a) : PuF (iSeq a) := fun ρ => pu_bind (ha ρ) fun _ => pu_lift _
theorem pu_iArgs {k : List D → Option (List D)} (hr : PuF r) : PuF (iArgs k r) := fun ρ => pu_bind (hr ρ) fun _ => pu_lift _
theorem pu_iEnm (ha : PuF a) : PuF (iEnm a) := fun ρ => pu_bind (ha ρ) fun _ => pu_bind (pu_lift _) fun _ => pu_pure _
theorem pu_lcL {k : Tgt} (ht : PuF t) (ha : PuF a) (ρ : Ev) : ∀ (ds acc : List D), Pu (lcL k t a ρ ds acc)
  | [], acc => pu_pure _
  | d :: ds, acc => by
    unfold lcL
    split
    · exact pu_fail
    · exact pu_bind (pu_noErr (ht _)) fun _ => pu_ite (pu_bind (pu_noErr (ha _)) fun _ => pu_ite (pu_lcL ht ha ρ ds _) pu_fail) (pu_lcL ht ha ρ ds _)
theorem pu_dLc {vs : List Nat} {k : Tgt} (hr : PuF r) (ht : PuF t) (ha : PuF a) : PuF (dLc vs r k t a) := fun ρ => pu_bind (hr ρ) fun _ => pu_bind (pu_lcL ht ha _ _ _) fun _ => pu_pure _
theorem pu_lc2L {vs : List Nat} {k k1 : Tgt} {r1 : Ev → M (List D)} (ht : PuF t) (hr : PuF r1) (hu : PuF u) (ha : PuF a) (ρ : Ev) : ∀ (ds acc : List D), Pu (lc2L vs k t r1 k1 u a ρ ds acc)
  | [], acc => pu_pure _
  | d :: ds, acc => by
    unfold lc2L
    split
    · exact pu_fail
    · exact pu_bind (pu_noErr (ht _)) fun _ => pu_ite (pu_bind (pu_noErr (hr _)) fun _ => pu_bind (pu_lcL hu ha _ _ _) fun _ => pu_lc2L ht hr hu ha ρ ds _) (pu_lc2L ht hr hu ha ρ ds _)
theorem pu_dLc2 {vs vs1 : List Nat} {k k1 : Tgt} {r1 : Ev → M (List D)} (hr : PuF r) (ht : PuF t) (hr1 : PuF r1) (hu : PuF u) (ha : PuF a) : PuF (dLc2 vs vs1 r k t r1 k1 u a) := fun ρ => pu_bind (hr ρ) fun _ => pu_bind (pu_lc2L ht hr1 hu ha _ _ _) fun _ => pu_pure _
theorem pu_dKget (i : Nat) (ha : PuF a) : PuF (dKget i a) := fun ρ => pu_bind (pu_lift _) fun _ => pu_bind (ha ρ) fun _ => pu_lift _
theorem pu_dKlist (i : Nat) : PuF (dKlist i) := fun ρ => pu_bind (pu_lift _) fun _ => pu_pure _
theorem pu_dKsort (i : Nat) : PuF (dKsort i) := fun ρ => pu_bind (pu_lift _) fun _ => pu_ite (pu_pure _) pu_fail
theorem pu_sSet (i : Nat) (ha : PuF a) : PuF (sSet i a) := fun ρ => pu_bind (ha ρ) fun _ => pu_pure _
theorem pu_sAsg {k : Tgt} (ha : PuF a) : PuF (sAsg k a) := fun ρ => pu_bind (ha ρ) fun _ => pu_bind (pu_lift _) fun _ => pu_pure _
theorem pu_sOwn (i : Nat) : PuF (sOwn i) := fun _ => pu_pure _
theorem pu_sPar (i j : Nat) (hr : PuF r) : PuF (sPar i j r) := fun ρ => pu_bind (hr ρ) fun _ => pu_bind (pu_lift _) fun _ => pu_pure _
theorem pu_sPar2o (i j : Nat) (ha : PuF a) : PuF (sPar2o i j a) := fun ρ => pu_bind (ha ρ) fun _ => pu_pure _
theorem pu_sPar3o (i j k : Nat) (ha : PuF a) (hb : PuF b) : PuF (sPar3o i j k a b) := fun ρ => pu_bind (ha ρ) fun _ => pu_bind (hb ρ) fun _ => pu_pure _
theorem pu_sRet (ha : PuF a) : PuF (sRet a) := fun ρ => pu_bind (ha ρ) fun _ => pu_pure _
theorem pu_sRetN : PuF sRetN := fun _ => pu_pure _
theorem pu_sExp (ha : PuF a) : PuF (sExp a) := fun ρ => pu_bind (ha ρ) fun _ => pu_pure _
theorem pu_sIf (ht : PuF t) (hf : PuF f) (hg : PuF g) : PuF (sIf t f g) := fun ρ => pu_bind (ht ρ) fun _ => pu_ite (hf ρ) (hg ρ)
theorem pu_sNil : PuF sNil := fun _ => pu_pure _
theorem pu_sSeq (hf : PuF f) (hg : PuF g) : PuF (sSeq f g) := fun ρ => pu_bind (hf ρ) fun o => by
  unfold sThen
  split
  · exact hg _
  · exact pu_pure _
theorem pu_sNever : PuF sNever := fun _ => pu_fail
theorem pu_sApp (i : Nat) (ha : PuF a) : PuF (sApp i a) := fun ρ => pu_bind (pu_lift _) fun _ => pu_bind (ha ρ) fun _ => pu_ite (pu_pure _) pu_fail
theorem pu_sFrz (i : Nat) (hf : PuF f) : PuF (sFrz i f) := fun ρ => by
  unfold sFrz
  split
  · exact hf _
  · exact hf _
theorem pu_forT {k : Ev → M Fl} (hk : PuF k) : ∀ o, Pu (forT k o)
  | .nx ρ => hk ρ
  | .ct ρ => hk ρ
  | .bk _ => pu_pure _
  | .rt _ => pu_pure _
theorem pu_forL {k : Tgt} (hf : PuF f) : ∀ (ds : List D), PuF (forL k f ds)
  | [], _ => pu_pure _
  | d :: ds, ρ => pu_bind (pu_lift _) fun ρ' => pu_bind (hf ρ') (pu_forT (pu_forL hf ds))
theorem pu_sFor {k : Tgt} (hr : PuF r) (hf : PuF f) : PuF (sFor k r f) := fun ρ => pu_bind (hr ρ) fun ds => pu_forL hf ds ρ
theorem pu_whL (ht : PuF t) (hf : PuF f) : ∀ n : Nat, PuF (whL t f n)
  | 0, _ => pu_fail
  | n + 1, ρ => pu_bind (ht ρ) fun _ => pu_ite (pu_bind (hf ρ) (pu_forT (pu_whL ht hf n))) (pu_pure _)
theorem pu_sNewK2 (i j : Nat) : PuF (sNewK2 i j) := fun _ => pu_pure _
theorem pu_sKput (i : Nat) (ha : PuF a) (hb : PuF b) : PuF (sKput i a b) := fun ρ => pu_bind (pu_lift _) fun _ => pu_bind (hb ρ) fun _ => pu_bind (ha ρ) fun _ => pu_bind (pu_lift _) fun _ => pu_pure _
theorem pu_sLockR (i : Nat) (hf : PuF f) : PuF (sLockR i f) := fun ρ => pu_bind (pu_lift _) fun _ => pu_bind (hf _) fun o => by
  split
  · exact pu_pure _
  · exact pu_fail
theorem pu_sForK (i l j k : Nat) (ht : PuF t) (hr : PuF r) : PuF (sForK i l t j k r) := fun ρ => pu_bind (pu_lift _) fun _ => pu_bind (pu_forL (pu_sIf ht (pu_sPar j k hr) pu_sNil) _ _) fun o => by
  unfold exitK
  split
  · exact pu_pure _
  · exact pu_fail
def sDrop (ix : List Nat) (f : Sm) : Sm := fun ρ => f (ix.foldl (fun ρ i => ρ.set i none) ρ)
theorem pu_sDrop (ix : List Nat) (hf : PuF f) : PuF (sDrop ix f) := fun ρ => hf _
theorem pu_outM {n : Nat} (hf : PuF f) (ds : List D) : Pu (outM f n ds) := pu_bind (hf _) fun o => by
  split
  · exact pu_pure _
  · exact pu_pure _
  · exact pu_fail
end
theorem EnvR.drops {Z : Zt} {H0 F H : Hp} {σ : L2.St} : ∀ (ix : List Nat) {ρ : Ev}, EnvR Z H0 F H σ ρ → EnvR Z H0 F H σ (ix.foldl (fun ρ i => ρ.set i none) ρ)
  | [], _, e => e
  | i :: ix, ρ, e => EnvR.drops ix (EnvR.drop (i := i) e)
theorem ds_drop {X : Cx} {E : XK} {sts : List Stmt} {f : Sm} (ix : List Nat) (h : PSs X sts (tS X.mg E f)) : PSs X sts (tS X.mg E (sDrop ix f)) :=
  PSs.imp h fun Ds σ H ⟨Z, F0, H0, F, ρ, s, a, g⟩ => ⟨Z, F0, H0, F, _, s, ⟨a.g, a.w, a.en.drops ix⟩, g⟩
end DL

set_option Elab.async false
set_option linter.all false
set_option maxRecDepth 100000
set_option maxHeartbeats 4000000
/-! D layer 18: what a draw gives. -/
namespace DL
open PySem PySem.Spec PyProof.Rows L2

def drawF : Sm := sSeq (whL (bAnd (bTst (bin2 eqD (dLeft 0) (dC (.int 0)))) (bLarge 0)) (sPop 0) 100) (sSeq (sIf (bTst (bin2 gtD (dLeft 0) (dC (.int 0)))) (sSeq (sSet 2 (bin2 modD (dBi intD (aCons (dLeft 0) (aNil))) (dVar 1))) (sSeq (sPutLeft 0 (bin2 fdivD (dLeft 0) (dVar 1))) (sRet (dVar 2)))) (sNil)) (sSeq (sSet 3 (bin2 addD (dTurn 0) (dC (.int 1)))) (sSeq (sPutTurn 0 (dVar 3)) (sSeq (sSet 4 (dIf (bTst (bin2 neD (dCells 0) (dLst (aNil)))) (bin2 ixD (dCells 0) (bin2 modD (dBi intD (aCons (dVar 3) (aNil))) (dBi lenD (aCons (dCells 0) (aNil))))) (dC (.int 0)))) (sSeq (sSet 5 (bin2 modD (dBi intD (aCons (bin2 powD (bin2 addD (bin2 addD (bin2 modD (dBi intD (aCons (dVar 4) (aNil))) (dC (.int 2147483563))) (bin2 mulD (dC (.int 40692)) (dVar 3))) (dC (.int 24681))) (dC (.int 3))) (aNil))) (dC (.int 2147483629)))) (sRet (bin2 modD (dBi intD (aCons (bin2 fdivD (bin2 modD (dBi intD (aCons (bin2 powD (bin2 addD (dVar 5) (bin2 mulD (dC (.int 104917)) (dVar 3))) (dC (.int 5))) (aNil))) (dC (.int 2147483579))) (dC (.int 29))) (aNil))) (dVar 1))))))))
section
variable {ρ ρ1 : Ev} {s s1 s2 s3 : DS} {a b : Ev → M D} {x y d : D} {f g : Sm} {t : Ev → M Bool}
theorem bind_ok {α β : Type} {x : M α} {k : α → M β} {v : α} (h : x s = some (.ok v, s1)) : (x >>= k) s = k v s1 := by
  show M.bind x k s = _
  unfold M.bind
  rw [h]
theorem ev_lift {α : Type} {o : Option α} {v : α} (h : o = some v) : M.lift o s = some (.ok v, s) := by rw [h]; rfl
theorem ev_bin2 {k : D → D → Option D} (ha : a ρ s = some (.ok x, s1)) (hb : b ρ s1 = some (.ok y, s2)) (hd : k x y = some d) : bin2 k a b ρ s = some (.ok d, s2) :=
  (bind_ok (x := a ρ) ha).trans ((bind_ok (x := b ρ) hb).trans (ev_lift hd))
theorem ev_bi1 {k : List D → Option D} (ha : a ρ s = some (.ok x, s1)) (hd : k [x] = some d) : dBi k (aCons a aNil) ρ s = some (.ok d, s1) := by
  have e : aCons a aNil ρ s = some (.ok [x], s1) := by
    show M.bind (a ρ) (fun x => M.bind (aNil ρ) fun xs => M.pure (x :: xs)) s = _
    unfold M.bind
    rw [ha]
    rfl
  show M.bind (aCons a aNil ρ) (fun xs => M.lift (k xs)) s = _
  unfold M.bind
  rw [e]
  show M.lift (k [x]) s1 = _
  rw [hd]
  rfl
theorem ev_seq (h : f ρ s = some (.ok (.nx ρ1), s1)) : sSeq f g ρ s = g ρ1 s1 := by
  show M.bind (f ρ) (sThen g) s = _
  unfold M.bind
  rw [h]
  rfl
theorem ev_seqR (h : f ρ s = some (.ok (.rt d), s1)) : sSeq f g ρ s = some (.ok (.rt d), s1) := by
  show M.bind (f ρ) (sThen g) s = _
  unfold M.bind
  rw [h]
  rfl
theorem ev_set (i : Nat) (h : a ρ s = some (.ok d, s1)) : sSet i a ρ s = some (.ok (.nx (ρ.set i (some (.val d)))), s1) := by
  show M.bind (a ρ) (fun x => M.pure (Fl.nx (ρ.set i (some (.val x))))) s = _
  unfold M.bind
  rw [h]
  rfl
theorem ev_ret (h : a ρ s = some (.ok d, s1)) : sRet a ρ s = some (.ok (.rt d), s1) := by
  show M.bind (a ρ) (fun x => M.pure (Fl.rt x)) s = _
  unfold M.bind
  rw [h]
  rfl
theorem ev_sIf {c : Bool} (h : t ρ s = some (.ok c, s1)) : sIf t f g ρ s = (if c = true then f ρ else g ρ) s1 := by
  show M.bind (t ρ) (fun c => if c = true then f ρ else g ρ) s = _
  unfold M.bind
  rw [h]
theorem ev_dIf {c : Bool} (h : t ρ s = some (.ok c, s1)) : dIf t a b ρ s = (if c = true then a ρ else b ρ) s1 := by
  show M.bind (t ρ) (fun c => if c = true then a ρ else b ρ) s = _
  unfold M.bind
  rw [h]
theorem ev_bTst {c : Bool} (h : a ρ s = some (.ok (.bl c), s1)) : bTst a ρ s = some (.ok c, s1) := by
  show M.bind (a ρ) (fun x => M.lift (asB x)) s = _
  unfold M.bind
  rw [h]
  rfl
end
theorem neD_nat (ns : List Nat) : neD (.lst (ns.map fun n => .int (n : Nat))) (.lst []) = some (.bl (!ns.isEmpty)) := by
  have h1 : D.fit 64 (.lst (ns.map fun n => .int (n : Nat))) = true := by
    show ((ns.map fun n => D.int (n : Nat)).all (D.fit 63)) = true
    rw [List.all_map]
    exact List.all_eq_true.mpr fun n _ => rfl
  unfold neD
  rw [if_pos ⟨h1, rfl⟩]
  cases ns with
  | nil => rfl
  | cons n ns => rfl
abbrev dEv (n : Int) (x y z w : Option B) : Ev := [some (.val .st), some (.val (.int n)), x, y, z, w]
theorem draw_wh {n : Int} : ∀ (k : Nat) (s : DS), s.large.length < k → ∃ s1, whL (bAnd (bTst (bin2 eqD (dLeft 0) (dC (.int 0)))) (bLarge 0)) (sPop 0) k (dEv n none none none none) s = some (.ok (.nx (dEv n none none none none)), s1) ∧
    s1.turn = s.turn ∧ s1.cells = s.cells ∧ s1.large.length ≤ s.large.length
  | 0, s, h => absurd h (Nat.not_lt_zero _)
  | k + 1, ⟨large, cells, left, turn⟩, h => by
    cases left with
    | succ m => exact ⟨_, rfl, rfl, rfl, Nat.le_refl _⟩
    | zero =>
      cases large with
      | nil => exact ⟨_, rfl, rfl, rfl, Nat.le_refl _⟩
      | cons a r =>
        have hr : r.length < k := by rw [List.length_cons] at h; omega
        obtain ⟨s1, e, h1, h2, h3⟩ := draw_wh (n := n) k ⟨r, cells, a, turn⟩ hr
        exact ⟨s1, e, h1, h2, by rw [List.length_cons]; exact Nat.le_succ_of_le h3⟩
theorem modD_pos {i n : Int} (h : 0 < n) : modD (.int i) (.int n) = some (.int (i % n)) := if_pos h
/-- what a draw gives -/
def drawR (n : Int) (o : Option (Except Ex Fl × DS)) (c : Nat) : Prop := ∃ r s', o = some (.ok (.rt (.int r)), s') ∧ 0 ≤ r ∧ r < n ∧ DsOk (c + 1) s'
theorem draw_okF {n : Int} (hn : 0 < n) (hn2 : n < 1073741824) {c : Nat} (hc : c ≤ 1048576) {s : DS} (ok : DsOk c s) : drawR n (drawF (dEv n none none none none) s) c := by
  obtain ⟨s1, e1, t1, c1, l1⟩ := draw_wh (n := n) 100 s (by have := ok.l; omega)
  have ok1 : DsOk c s1 := ⟨by rw [t1]; exact ok.t, Nat.le_trans l1 ok.l, by rw [c1]; exact ok.c⟩
  have e2 : drawF (dEv n none none none none) s = (sSeq (sIf (bTst (bin2 gtD (dLeft 0) (dC (.int 0)))) (sSeq (sSet 2 (bin2 modD (dBi intD (aCons (dLeft 0) (aNil))) (dVar 1))) (sSeq (sPutLeft 0 (bin2 fdivD (dLeft 0) (dVar 1))) (sRet (dVar 2)))) (sNil)) _) (dEv n none none none none) s1 := ev_seq e1
  rw [e2]
  clear e1 t1 c1 l1 e2 ok
  obtain ⟨large, cells, left, turn⟩ := s1
  have e3 : bTst (bin2 gtD (dLeft 0) (dC (.int 0))) (dEv n none none none none) ⟨large, cells, left, turn⟩ = some (.ok (decide ((0 : Int) < (left : Nat))), ⟨large, cells, left, turn⟩) := rfl
  by_cases hl : (0 : Int) < (left : Nat)
  · -- the number at hand
    rw [decide_eq_true hl] at e3
    have e4 : sSet 2 (bin2 modD (dBi intD (aCons (dLeft 0) (aNil))) (dVar 1)) (dEv n none none none none) ⟨large, cells, left, turn⟩ = some (.ok (.nx (dEv n (some (.val (.int ((left : Nat) % n)))) none none none)), ⟨large, cells, left, turn⟩) :=
      ev_set 2 (ev_bin2 (x := .int (left : Nat)) (y := .int n) (s1 := ⟨large, cells, left, turn⟩) rfl rfl (modD_pos hn))
    have hq : (0 : Int) ≤ (left : Nat) / n := Int.ediv_nonneg (Int.natCast_nonneg _) (Int.le_of_lt hn)
    have e5 : sPutLeft 0 (bin2 fdivD (dLeft 0) (dVar 1)) (dEv n (some (.val (.int ((left : Nat) % n)))) none none none) ⟨large, cells, left, turn⟩ = some (.ok (.nx (dEv n (some (.val (.int ((left : Nat) % n)))) none none none)), ⟨large, cells, ((left : Int) / n).toNat, turn⟩) := by
      refine (bind_ok (v := ()) (s1 := ⟨large, cells, left, turn⟩) rfl).trans ?_
      refine (bind_ok (v := D.int ((left : Nat) / n)) (s1 := ⟨large, cells, left, turn⟩) (ev_bin2 (x := .int (left : Nat)) (y := .int n) (s1 := ⟨large, cells, left, turn⟩) rfl rfl (if_pos ⟨hn, hn2⟩))).trans ?_
      refine (bind_ok (v := ((left : Int) / n).toNat) (s1 := ⟨large, cells, left, turn⟩) (ev_lift (if_pos hq))).trans ?_
      rfl
    refine ⟨(left : Nat) % n, ⟨large, cells, ((left : Int) / n).toNat, turn⟩, ?_, Int.emod_nonneg _ (by omega), Int.emod_lt_of_pos _ hn, ⟨Nat.le_succ_of_le ok1.t, ok1.l, ok1.c⟩⟩
    refine ev_seqR ((ev_sIf e3).trans ?_)
    rw [if_pos rfl]
    exact (ev_seq e4).trans ((ev_seq e5).trans (ev_ret rfl))
  · -- the counter
    rw [decide_eq_false hl] at e3
    have e4 : sIf (bTst (bin2 gtD (dLeft 0) (dC (.int 0)))) (sSeq (sSet 2 (bin2 modD (dBi intD (aCons (dLeft 0) (aNil))) (dVar 1))) (sSeq (sPutLeft 0 (bin2 fdivD (dLeft 0) (dVar 1))) (sRet (dVar 2)))) sNil (dEv n none none none none) ⟨large, cells, left, turn⟩ = some (.ok (.nx (dEv n none none none none)), ⟨large, cells, left, turn⟩) := by
      refine (ev_sIf e3).trans ?_
      rw [if_neg Bool.false_ne_true]
      rfl
    rw [ev_seq e4]
    have ht : turn ≤ c := ok1.t
    -- the turn
    refine (?_ : drawR n (sSeq _ _ (dEv n none none none none) ⟨large, cells, left, turn⟩) c)
    rw [ev_seq (ρ1 := dEv n none (some (.val (.int ((turn + 1 : Nat) : Int)))) none none) (s1 := ⟨large, cells, left, turn⟩) rfl]
    rw [ev_seq (ρ1 := dEv n none (some (.val (.int ((turn + 1 : Nat) : Int)))) none none) (s1 := ⟨large, cells, left, turn + 1⟩) rfl]
    -- the cell
    have ecell : ∃ z : Nat, dIf (bTst (bin2 neD (dCells 0) (dLst (aNil)))) (bin2 ixD (dCells 0) (bin2 modD (dBi intD (aCons (dVar 3) (aNil))) (dBi lenD (aCons (dCells 0) (aNil))))) (dC (.int 0)) (dEv n none (some (.val (.int ((turn + 1 : Nat) : Int)))) none none) ⟨large, cells, left, turn + 1⟩ = some (.ok (.int (z : Nat)), ⟨large, cells, left, turn + 1⟩) := by
      have h1 : bTst (bin2 neD (dCells 0) (dLst (aNil))) (dEv n none (some (.val (.int ((turn + 1 : Nat) : Int)))) none none) ⟨large, cells, left, turn + 1⟩ = some (.ok (!cells.isEmpty), ⟨large, cells, left, turn + 1⟩) :=
        ev_bTst (ev_bin2 (x := .lst (cells.map fun n => .int (n : Nat))) (y := .lst []) (s1 := ⟨large, cells, left, turn + 1⟩) rfl rfl (neD_nat cells))
      cases cells with
      | nil => exact ⟨0, ev_dIf h1⟩
      | cons a r =>
        have hlen : 0 < (((a :: r).map fun n => D.int (n : Nat)).length : Int) := by rw [List.length_map, List.length_cons]; omega
        have hj : ((turn + 1 : Nat) : Int) % (((a :: r).map fun n => D.int (n : Nat)).length : Nat) < (((a :: r).map fun n => D.int (n : Nat)).length : Nat) := Int.emod_lt_of_pos _ hlen
        have hj0 : 0 ≤ ((turn + 1 : Nat) : Int) % (((a :: r).map fun n => D.int (n : Nat)).length : Nat) := Int.emod_nonneg _ (by omega)
        obtain ⟨z, hz⟩ : ∃ z : Nat, atI ((a :: r).map fun n => D.int (n : Nat)) (((turn + 1 : Nat) : Int) % (((a :: r).map fun n => D.int (n : Nat)).length : Nat)) = some (.int (z : Nat)) := by
          generalize ((turn + 1 : Nat) : Int) % (((a :: r).map fun n => D.int (n : Nat)).length : Nat) = j at hj hj0
          have hjn : j.toNat < (a :: r).length := by rw [List.length_map] at hj; omega
          refine ⟨(a :: r)[j.toNat], ?_⟩
          unfold atI ixN
          rw [if_pos hj0, if_pos hj]
          show ((a :: r).map fun n => D.int (n : Nat))[j.toNat]? = _
          rw [List.getElem?_map, List.getElem?_eq_getElem hjn]
          rfl
        refine ⟨z, (ev_dIf h1).trans ?_⟩
        exact ev_bin2 (x := .lst ((a :: r).map fun n => .int (n : Nat))) (y := .int (((turn + 1 : Nat) : Int) % (((a :: r).map fun n => D.int (n : Nat)).length : Nat))) (s1 := ⟨large, a :: r, left, turn + 1⟩) rfl
          (ev_bin2 (x := .int ((turn + 1 : Nat) : Int)) (y := .int (((a :: r).map fun n => D.int (n : Nat)).length : Nat)) (s1 := ⟨large, a :: r, left, turn + 1⟩) rfl rfl (modD_pos hlen)) hz
    obtain ⟨z, hz⟩ := ecell
    rw [ev_seq (ρ1 := dEv n none (some (.val (.int ((turn + 1 : Nat) : Int)))) (some (.val (.int (z : Nat)))) none) (ev_set 4 hz)]
    -- the mix
    have hb1 : 0 ≤ (z : Int) % 2147483563 := Int.emod_nonneg _ (by decide)
    have hb2 : (z : Int) % 2147483563 < 2147483563 := Int.emod_lt_of_pos _ (by decide)
    have emix : ∃ m : Int, 0 ≤ m ∧ m < 2147483629 ∧ bin2 modD (dBi intD (aCons (bin2 powD (bin2 addD (bin2 addD (bin2 modD (dBi intD (aCons (dVar 4) (aNil))) (dC (.int 2147483563))) (bin2 mulD (dC (.int 40692)) (dVar 3))) (dC (.int 24681))) (dC (.int 3))) (aNil))) (dC (.int 2147483629))
        (dEv n none (some (.val (.int ((turn + 1 : Nat) : Int)))) (some (.val (.int (z : Nat)))) none) ⟨large, cells, left, turn + 1⟩ = some (.ok (.int m), ⟨large, cells, left, turn + 1⟩) := by
      refine ⟨(((z : Int) % 2147483563 + 40692 * ((turn + 1 : Nat) : Int) + 24681) ^ 3) % 2147483629, Int.emod_nonneg _ (by decide), Int.emod_lt_of_pos _ (by decide), ?_⟩
      refine ev_bin2 (x := .int (((z : Int) % 2147483563 + 40692 * ((turn + 1 : Nat) : Int) + 24681) ^ 3)) (y := .int 2147483629) (s1 := ⟨large, cells, left, turn + 1⟩) ?_ rfl rfl
      refine ev_bi1 (x := .int (((z : Int) % 2147483563 + 40692 * ((turn + 1 : Nat) : Int) + 24681) ^ 3)) ?_ rfl
      refine ev_bin2 (x := .int ((z : Int) % 2147483563 + 40692 * ((turn + 1 : Nat) : Int) + 24681)) (y := .int 3) (s1 := ⟨large, cells, left, turn + 1⟩) rfl rfl (if_pos ⟨by decide, by decide, ?_⟩)
      omega
    obtain ⟨m, hm0, hm1, hm⟩ := emix
    rw [ev_seq (ρ1 := dEv n none (some (.val (.int ((turn + 1 : Nat) : Int)))) (some (.val (.int (z : Nat)))) (some (.val (.int m)))) (ev_set 5 hm)]
    have efin : ∃ y : Int, bin2 modD (dBi intD (aCons (bin2 fdivD (bin2 modD (dBi intD (aCons (bin2 powD (bin2 addD (dVar 5) (bin2 mulD (dC (.int 104917)) (dVar 3))) (dC (.int 5))) (aNil))) (dC (.int 2147483579))) (dC (.int 29))) (aNil))) (dVar 1)
        (dEv n none (some (.val (.int ((turn + 1 : Nat) : Int)))) (some (.val (.int (z : Nat)))) (some (.val (.int m)))) ⟨large, cells, left, turn + 1⟩ = some (.ok (.int (y % n)), ⟨large, cells, left, turn + 1⟩) := by
      refine ⟨((m + 104917 * ((turn + 1 : Nat) : Int)) ^ 5) % 2147483579 / 29, ?_⟩
      refine ev_bin2 (x := .int (((m + 104917 * ((turn + 1 : Nat) : Int)) ^ 5) % 2147483579 / 29)) (y := .int n) (s1 := ⟨large, cells, left, turn + 1⟩) ?_ rfl (modD_pos hn)
      refine ev_bi1 (x := .int (((m + 104917 * ((turn + 1 : Nat) : Int)) ^ 5) % 2147483579 / 29)) ?_ rfl
      refine ev_bin2 (x := .int (((m + 104917 * ((turn + 1 : Nat) : Int)) ^ 5) % 2147483579)) (y := .int 29) (s1 := ⟨large, cells, left, turn + 1⟩) ?_ rfl rfl
      refine ev_bin2 (x := .int ((m + 104917 * ((turn + 1 : Nat) : Int)) ^ 5)) (y := .int 2147483579) (s1 := ⟨large, cells, left, turn + 1⟩) ?_ rfl rfl
      refine ev_bi1 (x := .int ((m + 104917 * ((turn + 1 : Nat) : Int)) ^ 5)) ?_ rfl
      refine ev_bin2 (x := .int (m + 104917 * ((turn + 1 : Nat) : Int))) (y := .int 5) (s1 := ⟨large, cells, left, turn + 1⟩) rfl rfl (if_pos ⟨by decide, by decide, ?_⟩)
      omega
    obtain ⟨y, hy⟩ := efin
    exact ⟨y % n, _, ev_ret hy, Int.emod_nonneg _ (by omega), Int.emod_lt_of_pos _ hn, ⟨Nat.succ_le_succ ht, ok1.l, ok1.c⟩⟩
theorem draw_ok {n : Int} (hn : 0 < n) (hn2 : n < 1073741824) {c : Nat} (hc : c ≤ 1048576) {s : DS} (ok : DsOk c s) : ∃ r s', outM drawF 6 [.st, .int n] s = some (.ok (.int r), s') ∧ 0 ≤ r ∧ r < n ∧ DsOk (c + 1) s' := by
  obtain ⟨r, s', e, h1, h2, h3⟩ := draw_okF hn hn2 hc ok
  refine ⟨r, s', ?_, h1, h2, h3⟩
  exact bind_ok (x := drawF (dEv n none none none none)) e
end DL

set_option Elab.async false
set_option linter.all false
set_option maxRecDepth 100000
set_option maxHeartbeats 4000000
namespace DL
open PySem PySem.Spec PyProof.Rows L2
theorem law_cx0 {P : Program} {w : World} {K : PySem.W.Frag} {mg : Str → Option Value} {base : Heap} {k : Nat} {f : Addr} {fd : FuncData} (F : FnOk P w K mg base (L2.CX P w) k f fd ["script"] (spLaw K)) : FnOk P w K mg base L2.CX0 k f fd ["script"] (spLaw K) :=
  ⟨F.len, fun A outer s H args us vs Q E hr he hb hv hs => codeAny_mono (F.run A outer s H args us vs Q (fun _ _ _ => False) hr he hb hv hs) fun r s' h => by
    match r, h with
    | .ok (.ret u), h => exact h
    | .ok .next, h => exact h
    | .ok .brk, h => exact h
    | .ok .cont, h => exact h
    | .error e, ⟨_, _, _, _, _, _, _, _, _, _, _, _, hE⟩ => exact hE.elim⟩
end DL

set_option Elab.async false
set_option linter.all false
set_option maxRecDepth 100000
set_option maxHeartbeats 0
namespace Hd
open PySem PySem.Spec PyProof.Rows L2
def top (i : Nat) : Stmt := PySem.Challenge.pw_turncrowds_k45_whole_shared_crowds_joine.main.body.getD i (.Pass ⟨0, 0, 0, 0⟩)
abbrev s_items_of : Stmt := top 1
abbrev s_is_odd : Stmt := top 2
abbrev s_reduced : Stmt := top 3
abbrev s_brought : Stmt := top 4
abbrev s_is_number : Stmt := top 6
abbrev s_is_between : Stmt := top 7
abbrev s_is_sign : Stmt := top 8
abbrev s_is_row : Stmt := top 9
abbrev s_is_rising : Stmt := top 10
abbrev s_is_word : Stmt := top 28
abbrev s_need_word : Stmt := top 29
abbrev s_need_words : Stmt := top 30
abbrev s_code_of : Stmt := top 31
abbrev s_letters_of : Stmt := top 32
abbrev s_is_crossed : Stmt := top 33
abbrev s_is_past : Stmt := top 34
abbrev s_put_of : Stmt := top 35
abbrev s_product_of : Stmt := top 36
abbrev s_past_of : Stmt := top 37
abbrev s_is_turning : Stmt := top 38
abbrev s_need_length : Stmt := top 41
abbrev s_plain_of : Stmt := top 43
abbrev s_made_of : Stmt := top 45
abbrev s_is_crowd : Stmt := top 47
abbrev s_need_crowd : Stmt := top 48
abbrev s_length_of : Stmt := top 49
abbrev s_need_own : Stmt := top 50
abbrev s_part_for : Stmt := top 51
abbrev s_says_of : Stmt := top 52
abbrev s_says : Stmt := top 53
abbrev s_plain_crowd_of : Stmt := top 54
abbrev s_need_size : Stmt := top 55
abbrev s_plain_crowd : Stmt := top 56
abbrev s_rank_on : Stmt := top 58
abbrev s_need_full_one : Stmt := top 60
abbrev s_need_places : Stmt := top 62
abbrev s_places_beside : Stmt := top 63
abbrev s_within_many : Stmt := top 64
abbrev s_masks_within : Stmt := top 65
abbrev s_three_bonds : Stmt := top 66
abbrev s_behind : Stmt := top 68
abbrev s_asked : Stmt := top 69
abbrev s_need_row : Stmt := top 70
abbrev s_told_by : Stmt := top 71
abbrev s_state_behind : Stmt := top 72
abbrev s_followed : Stmt := top 73
abbrev s_told_sign : Stmt := top 74
abbrev s_row_chance : Stmt := top 75
abbrev s_need_half : Stmt := top 78
abbrev s_shared_crowd : Stmt := top 79
abbrev s_are_answers : Stmt := top 82
abbrev s_letters_told : Stmt := top 83
abbrev s_need_answers : Stmt := top 84
abbrev s_turn_letters : Stmt := top 85
abbrev s__law_begun : Stmt := top 87
abbrev s__law_draw : Stmt := top 88
abbrev s__law_pick : Stmt := top 89
abbrev s__law_two : Stmt := top 90
abbrev s__law_past : Stmt := top 91
abbrev s__law_lettered : Stmt := top 92
abbrev s__law_moved : Stmt := top 93
abbrev s__law_led : Stmt := top 94
abbrev s__law_cd_beside : Stmt := top 95
abbrev s_law : Stmt := top 96
def d_items_of : He.DefD := ⟨("items_of", none), "items_of", "items_of", defArgs s_items_of, defBody s_items_of, defScope s_items_of, [], []⟩
def d_is_odd : He.DefD := ⟨("is_odd", none), "is_odd", "is_odd", defArgs s_is_odd, defBody s_is_odd, defScope s_is_odd, [], []⟩
def d_reduced : He.DefD := ⟨("reduced", none), "reduced", "reduced", defArgs s_reduced, defBody s_reduced, defScope s_reduced, [], []⟩
def d_brought : He.DefD := ⟨("brought", none), "brought", "brought", defArgs s_brought, defBody s_brought, defScope s_brought, [], []⟩
def d_is_number : He.DefD := ⟨("is_number", none), "is_number", "is_number", defArgs s_is_number, defBody s_is_number, defScope s_is_number, [], []⟩
def d_is_between : He.DefD := ⟨("is_between", none), "is_between", "is_between", defArgs s_is_between, defBody s_is_between, defScope s_is_between, [], []⟩
def d_is_sign : He.DefD := ⟨("is_sign", none), "is_sign", "is_sign", defArgs s_is_sign, defBody s_is_sign, defScope s_is_sign, [], []⟩
def d_is_row : He.DefD := ⟨("is_row", none), "is_row", "is_row", defArgs s_is_row, defBody s_is_row, defScope s_is_row, [], []⟩
def d_is_rising : He.DefD := ⟨("is_rising", none), "is_rising", "is_rising", defArgs s_is_rising, defBody s_is_rising, defScope s_is_rising, [], []⟩
def d_is_word : He.DefD := ⟨("is_word", none), "is_word", "is_word", defArgs s_is_word, defBody s_is_word, defScope s_is_word, [], []⟩
def d_need_word : He.DefD := ⟨("need_word", none), "need_word", "need_word", defArgs s_need_word, defBody s_need_word, defScope s_need_word, [], []⟩
def d_need_words : He.DefD := ⟨("need_words", none), "need_words", "need_words", defArgs s_need_words, defBody s_need_words, defScope s_need_words, [], []⟩
def d_code_of : He.DefD := ⟨("code_of", none), "code_of", "code_of", defArgs s_code_of, defBody s_code_of, defScope s_code_of, [], []⟩
def d_letters_of : He.DefD := ⟨("letters_of", none), "letters_of", "letters_of", defArgs s_letters_of, defBody s_letters_of, defScope s_letters_of, [], []⟩
def d_is_crossed : He.DefD := ⟨("is_crossed", none), "is_crossed", "is_crossed", defArgs s_is_crossed, defBody s_is_crossed, defScope s_is_crossed, [], []⟩
def d_is_past : He.DefD := ⟨("is_past", none), "is_past", "is_past", defArgs s_is_past, defBody s_is_past, defScope s_is_past, [], []⟩
def d_put_of : He.DefD := ⟨("put_of", none), "put_of", "put_of", defArgs s_put_of, defBody s_put_of, defScope s_put_of, [], []⟩
def d_product_of : He.DefD := ⟨("product_of", none), "product_of", "product_of", defArgs s_product_of, defBody s_product_of, defScope s_product_of, [], []⟩
def d_past_of : He.DefD := ⟨("past_of", none), "past_of", "past_of", defArgs s_past_of, defBody s_past_of, defScope s_past_of, [], []⟩
def d_is_turning : He.DefD := ⟨("is_turning", none), "is_turning", "is_turning", defArgs s_is_turning, defBody s_is_turning, defScope s_is_turning, [], []⟩
def d_need_length : He.DefD := ⟨("need_length", none), "need_length", "need_length", defArgs s_need_length, defBody s_need_length, defScope s_need_length, [], []⟩
def d_plain_of : He.DefD := ⟨("plain_of", none), "plain_of", "plain_of", defArgs s_plain_of, defBody s_plain_of, defScope s_plain_of, [], []⟩
def d_made_of : He.DefD := ⟨("made_of", none), "made_of", "made_of", defArgs s_made_of, defBody s_made_of, defScope s_made_of, [], []⟩
def d_is_crowd : He.DefD := ⟨("is_crowd", none), "is_crowd", "is_crowd", defArgs s_is_crowd, defBody s_is_crowd, defScope s_is_crowd, [], []⟩
def d_need_crowd : He.DefD := ⟨("need_crowd", none), "need_crowd", "need_crowd", defArgs s_need_crowd, defBody s_need_crowd, defScope s_need_crowd, [], []⟩
def d_length_of : He.DefD := ⟨("length_of", none), "length_of", "length_of", defArgs s_length_of, defBody s_length_of, defScope s_length_of, [], []⟩
def d_need_own : He.DefD := ⟨("need_own", none), "need_own", "need_own", defArgs s_need_own, defBody s_need_own, defScope s_need_own, [], []⟩
def d_part_for : He.DefD := ⟨("part_for", none), "part_for", "part_for", defArgs s_part_for, defBody s_part_for, defScope s_part_for, [], []⟩
def d_says_of : He.DefD := ⟨("says_of", none), "says_of", "says_of", defArgs s_says_of, defBody s_says_of, defScope s_says_of, [], []⟩
def d_says : He.DefD := ⟨("says", none), "says", "says", defArgs s_says, defBody s_says, defScope s_says, [], []⟩
def d_plain_crowd_of : He.DefD := ⟨("plain_crowd_of", none), "plain_crowd_of", "plain_crowd_of", defArgs s_plain_crowd_of, defBody s_plain_crowd_of, defScope s_plain_crowd_of, [], []⟩
def d_need_size : He.DefD := ⟨("need_size", none), "need_size", "need_size", defArgs s_need_size, defBody s_need_size, defScope s_need_size, [], []⟩
def d_plain_crowd : He.DefD := ⟨("plain_crowd", none), "plain_crowd", "plain_crowd", defArgs s_plain_crowd, defBody s_plain_crowd, defScope s_plain_crowd, [], []⟩
def d_rank_on : He.DefD := ⟨("rank_on", none), "rank_on", "rank_on", defArgs s_rank_on, defBody s_rank_on, defScope s_rank_on, [], []⟩
def d_need_full_one : He.DefD := ⟨("need_full_one", none), "need_full_one", "need_full_one", defArgs s_need_full_one, defBody s_need_full_one, defScope s_need_full_one, [], []⟩
def d_need_places : He.DefD := ⟨("need_places", none), "need_places", "need_places", defArgs s_need_places, defBody s_need_places, defScope s_need_places, [], []⟩
def d_places_beside : He.DefD := ⟨("places_beside", none), "places_beside", "places_beside", defArgs s_places_beside, defBody s_places_beside, defScope s_places_beside, [], []⟩
def d_within_many : He.DefD := ⟨("within_many", none), "within_many", "within_many", defArgs s_within_many, defBody s_within_many, defScope s_within_many, [], []⟩
def d_masks_within : He.DefD := ⟨("masks_within", none), "masks_within", "masks_within", defArgs s_masks_within, defBody s_masks_within, defScope s_masks_within, [], []⟩
def d_three_bonds : He.DefD := ⟨("three_bonds", none), "three_bonds", "three_bonds", defArgs s_three_bonds, defBody s_three_bonds, defScope s_three_bonds, [], []⟩
def d_behind : He.DefD := ⟨("behind", none), "behind", "behind", defArgs s_behind, defBody s_behind, defScope s_behind, [], []⟩
def d_asked : He.DefD := ⟨("asked", none), "asked", "asked", defArgs s_asked, defBody s_asked, defScope s_asked, [], []⟩
def d_need_row : He.DefD := ⟨("need_row", none), "need_row", "need_row", defArgs s_need_row, defBody s_need_row, defScope s_need_row, [], []⟩
def d_told_by : He.DefD := ⟨("told_by", none), "told_by", "told_by", defArgs s_told_by, defBody s_told_by, defScope s_told_by, [], []⟩
def d_state_behind : He.DefD := ⟨("state_behind", none), "state_behind", "state_behind", defArgs s_state_behind, defBody s_state_behind, defScope s_state_behind, [], []⟩
def d_followed : He.DefD := ⟨("followed", none), "followed", "followed", defArgs s_followed, defBody s_followed, defScope s_followed, [], []⟩
def d_told_sign : He.DefD := ⟨("told_sign", none), "told_sign", "told_sign", defArgs s_told_sign, defBody s_told_sign, defScope s_told_sign, [], []⟩
def d_row_chance : He.DefD := ⟨("row_chance", none), "row_chance", "row_chance", defArgs s_row_chance, defBody s_row_chance, defScope s_row_chance, [], []⟩
def d_need_half : He.DefD := ⟨("need_half", none), "need_half", "need_half", defArgs s_need_half, defBody s_need_half, defScope s_need_half, [], []⟩
def d_shared_crowd : He.DefD := ⟨("shared_crowd", none), "shared_crowd", "shared_crowd", defArgs s_shared_crowd, defBody s_shared_crowd, defScope s_shared_crowd, [], []⟩
def d_are_answers : He.DefD := ⟨("are_answers", none), "are_answers", "are_answers", defArgs s_are_answers, defBody s_are_answers, defScope s_are_answers, [], []⟩
def d_letters_told : He.DefD := ⟨("letters_told", none), "letters_told", "letters_told", defArgs s_letters_told, defBody s_letters_told, defScope s_letters_told, [], []⟩
def d_need_answers : He.DefD := ⟨("need_answers", none), "need_answers", "need_answers", defArgs s_need_answers, defBody s_need_answers, defScope s_need_answers, [], []⟩
def d_turn_letters : He.DefD := ⟨("turn_letters", none), "turn_letters", "turn_letters", defArgs s_turn_letters, defBody s_turn_letters, defScope s_turn_letters, [], []⟩
def d__law_begun : He.DefD := ⟨("_law_begun", none), "_law_begun", "_law_begun", defArgs s__law_begun, defBody s__law_begun, defScope s__law_begun, [], []⟩
def d__law_draw : He.DefD := ⟨("_law_draw", none), "_law_draw", "_law_draw", defArgs s__law_draw, defBody s__law_draw, defScope s__law_draw, [], []⟩
def d__law_pick : He.DefD := ⟨("_law_pick", none), "_law_pick", "_law_pick", defArgs s__law_pick, defBody s__law_pick, defScope s__law_pick, [], []⟩
def d__law_two : He.DefD := ⟨("_law_two", none), "_law_two", "_law_two", defArgs s__law_two, defBody s__law_two, defScope s__law_two, [], []⟩
def d__law_past : He.DefD := ⟨("_law_past", none), "_law_past", "_law_past", defArgs s__law_past, defBody s__law_past, defScope s__law_past, [], []⟩
def d__law_lettered : He.DefD := ⟨("_law_lettered", none), "_law_lettered", "_law_lettered", defArgs s__law_lettered, defBody s__law_lettered, defScope s__law_lettered, [], []⟩
def d__law_moved : He.DefD := ⟨("_law_moved", none), "_law_moved", "_law_moved", defArgs s__law_moved, defBody s__law_moved, defScope s__law_moved, [], []⟩
def d__law_led : He.DefD := ⟨("_law_led", none), "_law_led", "_law_led", defArgs s__law_led, defBody s__law_led, defScope s__law_led, [], []⟩
def d__law_cd_beside : He.DefD := ⟨("_law_cd_beside", none), "_law_cd_beside", "_law_cd_beside", defArgs s__law_cd_beside, defBody s__law_cd_beside, defScope s__law_cd_beside, [], []⟩
def d_law : He.DefD := ⟨("law", none), "law", "law", defArgs s_law, defBody s_law, defScope s_law, [], []⟩
def fn0 : List He.DefD := [d_items_of, d_is_odd, d_reduced, d_brought, d_is_number, d_is_between, d_is_sign, d_is_row, d_is_rising, d_is_word, d_need_word, d_need_words, d_code_of, d_letters_of, d_is_crossed, d_is_past, d_put_of, d_product_of, d_past_of, d_is_turning, d_need_length, d_plain_of, d_made_of, d_is_crowd, d_need_crowd, d_length_of, d_need_own, d_part_for, d_says_of, d_says]
def fn1 : List He.DefD := [d_plain_crowd_of, d_need_size, d_plain_crowd, d_rank_on, d_need_full_one, d_need_places, d_places_beside, d_within_many, d_masks_within, d_three_bonds, d_behind, d_asked, d_need_row, d_told_by, d_state_behind, d_followed, d_told_sign, d_row_chance, d_need_half, d_shared_crowd, d_are_answers, d_letters_told, d_need_answers, d_turn_letters, d__law_begun, d__law_draw, d__law_pick, d__law_two, d__law_past, d__law_lettered]
def fn2 : List He.DefD := [d__law_moved, d__law_led, d__law_cd_beside, d_law]
def fn : List He.DefD := fn0 ++ fn1 ++ fn2
def fa0 : List He.Fa := [.glo "items_of", .glo "is_odd", .glo "reduced", .glo "brought", .glo "is_number", .glo "is_between", .glo "is_sign", .glo "is_row", .glo "is_rising", .glo "is_word", .glo "need_word", .glo "need_words", .glo "code_of", .glo "letters_of", .glo "is_crossed", .glo "is_past", .glo "put_of", .glo "product_of", .glo "past_of", .glo "is_turning", .glo "need_length", .glo "plain_of", .glo "made_of", .glo "is_crowd", .glo "need_crowd", .glo "length_of", .glo "need_own", .glo "part_for", .glo "says_of", .glo "says"]
def fa1 : List He.Fa := [.glo "plain_crowd_of", .glo "need_size", .glo "plain_crowd", .glo "rank_on", .glo "need_full_one", .glo "need_places", .glo "places_beside", .glo "within_many", .glo "masks_within", .glo "three_bonds", .glo "behind", .glo "asked", .glo "need_row", .glo "told_by", .glo "state_behind", .glo "followed", .glo "told_sign", .glo "row_chance", .glo "need_half", .glo "shared_crowd", .glo "are_answers", .glo "letters_told", .glo "need_answers", .glo "turn_letters", .glo "_law_begun", .glo "_law_draw", .glo "_law_pick", .glo "_law_two", .glo "_law_past", .glo "_law_lettered"]
def fa2 : List He.Fa := [.glo "_law_moved", .glo "_law_led", .glo "_law_cd_beside", .glo "law", .glo "TurnError", .glo "BadCrowd", .glo "BadLength", .glo "BadSigns", .glo "BadSize", .glo "BadSpots", .glo "BadWord", .glo "BadWords", .glo "NoTurner", .glo "NotFull", .glo "OtherLength", .glo "TURNING", .str "LETTERS" "1abc", .int "MOST_LENGTH" 12, .int "MOST_WORDS" 15, .int "A_FIGURES" 5592405, .int "MOST_LETTERS" 12, .int "MOST_SHARED" 6, .free "len", .free "range", .free "tuple", .free "list", .free "isinstance", .free "int", .free "bool", .free "str"]
def fa3 : List He.Fa := [.free "all", .free "any", .free "sum", .free "enumerate", .free "zip", .free "sorted", .free "min", .free "abs"]
def fa : List He.Fa := fa0 ++ fa1 ++ fa2 ++ fa3
def loose0 : List Str := ["items_of", "is_odd", "reduced", "brought", "is_number", "is_between", "is_sign", "is_row", "is_rising", "TurnError", "BadCrowd", "BadLength", "BadSigns", "BadSize", "BadSpots", "BadWord", "BadWords", "NoTurner", "NotFull", "OtherLength", "LETTERS", "MOST_LENGTH", "MOST_WORDS", "A_FIGURES", "is_word", "need_word", "need_words", "code_of", "letters_of", "is_crossed"]
def loose1 : List Str := ["is_past", "put_of", "product_of", "past_of", "is_turning", "MOST_LETTERS", "need_length", "plain_of", "made_of", "is_crowd", "need_crowd", "length_of", "need_own", "part_for", "says_of", "says", "plain_crowd_of", "need_size", "plain_crowd", "rank_on", "need_full_one", "need_places", "places_beside", "within_many", "masks_within", "three_bonds", "behind", "asked", "need_row", "told_by"]
def loose2 : List Str := ["state_behind", "followed", "told_sign", "row_chance", "MOST_SHARED", "need_half", "shared_crowd", "TURNING", "are_answers", "letters_told", "need_answers", "turn_letters", "_law_begun", "_law_draw", "_law_pick", "_law_two", "_law_past", "_law_lettered", "_law_moved", "_law_led", "_law_cd_beside"]
def loose : List Str := loose0 ++ loose1 ++ loose2
end Hd

set_option Elab.async false
set_option linter.all false
set_option maxRecDepth 100000
set_option maxHeartbeats 0
namespace Hd
open PySem PySem.Spec PyProof.Rows L2
abbrev hk : PySem.W.Hook := DL.hookK "TURNING" 4 fa fn
def ob (s : PySem.W.SharedT) : DL.AlK := DL.obsKG "TURNING" 4 fa fn (HandSHeadRun.getT s)
theorem ob_eq (s : PySem.W.SharedT) : ob s = hk.obs s.abs := DL.obsKG_eq (HandSHeadRun.getT_eq s)
abbrev R : PySem.W.OpenRow := PySem.W.OpenLaw.row PySem.Challenge.rw_turncrowds_k45_whole_shared_crowds_joine
theorem runF (w : World) : HandSHeadRun.RunEq R (PySem.W.view R.prog [96]) hk ob 20000 loose (w.withFollow "special-get-raises" false) := by
  intro os
  kernel_rfl
theorem runT (w : World) : HandSHeadRun.RunEq R (PySem.W.view R.prog [96]) hk ob 20000 loose (w.withFollow "special-get-raises" true) := by
  intro os
  kernel_rfl
theorem run (w : World) : HandSHeadRun.RunEq R (PySem.W.view R.prog [96]) hk ob 20000 loose w := PySem.W.byRow2 "special-get-raises" runF runT w
end Hd

set_option Elab.async false
set_option linter.all false
set_option maxRecDepth 100000
set_option maxHeartbeats 4000000
namespace Hd
open PySem PySem.Spec PyProof.Rows L2 DL
def visC (sc : Scope) (x : Str) : Bool := match sc.names.lookup x with
  | some .local => true
  | some .cell => true
  | some .free => true
  | _ => false
theorem vis_of {sc : Scope} {x : Str} (h : visC sc x = true) : Vis sc x := by
  unfold visC at h
  unfold Vis
  split at h <;> first | exact .inl (by assumption) | exact .inr (.inl (by assumption)) | exact .inr (.inr (by assumption)) | cases h
def locC (sc : Scope) (x : Str) : Bool := match sc.names.lookup x with
  | some .local => true
  | some .cell => true
  | _ => false
theorem loc_of {sc : Scope} {x : Str} (h : locC sc x = true) : L2.Loc sc x := by
  unfold locC at h
  unfold L2.Loc
  split at h <;> first | exact .inl (by assumption) | exact .inr (by assumption) | cases h
theorem gl_of {X : Cx} {x : Str} (h : X.env.kindOf x = some .globalImplicit) : Gl X x := h
/-- a def of the row's top is there -/
def DefN (K : PySem.W.Frag) (mg : Str → Option Value) (x : Str) (st : Stmt) (ps : List Str) : Prop := ∃ f fd, FunD K x x (defArgs st) (defBody st) (defScope st) [] [] f fd ∧ mg x = some (.ref f) ∧ Binds K fd ps []

theorem bt_len : bootBuiltins "len" = some (.builtin "len") := by decide +kernel
theorem bt_sum : bootBuiltins "sum" = some (.builtin "sum") := by decide +kernel
theorem bt_all : bootBuiltins "all" = some (.builtin "all") := by decide +kernel
theorem bt_any : bootBuiltins "any" = some (.builtin "any") := by decide +kernel
theorem bt_abs : bootBuiltins "abs" = some (.builtin "abs") := by decide +kernel
theorem bt_min : bootBuiltins "min" = some (.builtin "min") := by decide +kernel
theorem bt_max : bootBuiltins "max" = some (.builtin "max") := by decide +kernel
theorem bt_sorted : bootBuiltins "sorted" = some (.builtin "sorted") := by decide +kernel
theorem bt_tuple : bootBuiltins "tuple" = some (.type "tuple") := by decide +kernel
theorem bt_list : bootBuiltins "list" = some (.type "list") := by decide +kernel
theorem bt_int : bootBuiltins "int" = some (.type "int") := by decide +kernel
theorem bt_bool : bootBuiltins "bool" = some (.type "bool") := by decide +kernel
theorem bt_str : bootBuiltins "str" = some (.type "str") := by decide +kernel
/-- what is known of the module -/
structure Hy (K : PySem.W.Frag) (mg : Str → Option Value) : Prop where
  d_items_of : DefN K mg "items_of" s_items_of ["mask"]
  d_is_odd : DefN K mg "is_odd" s_is_odd ["mask"]
  d_reduced : DefN K mg "reduced" s_reduced ["pairs"]
  d_brought : DefN K mg "brought" s_brought ["kept", "row"]
  d_is_number : DefN K mg "is_number" s_is_number ["thing"]
  d_is_between : DefN K mg "is_between" s_is_between ["thing", "least", "most"]
  d_is_sign : DefN K mg "is_sign" s_is_sign ["thing"]
  d_is_row : DefN K mg "is_row" s_is_row ["thing"]
  d_is_rising : DefN K mg "is_rising" s_is_rising ["thing", "many"]
  d_is_word : DefN K mg "is_word" s_is_word ["thing"]
  d_need_word : DefN K mg "need_word" s_need_word ["word"]
  d_need_words : DefN K mg "need_words" s_need_words ["words"]
  d_code_of : DefN K mg "code_of" s_code_of ["word"]
  d_letters_of : DefN K mg "letters_of" s_letters_of ["code", "length"]
  d_is_crossed : DefN K mg "is_crossed" s_is_crossed ["one", "other"]
  d_is_past : DefN K mg "is_past" s_is_past ["one", "other"]
  d_put_of : DefN K mg "put_of" s_put_of ["one", "other"]
  d_product_of : DefN K mg "product_of" s_product_of ["words"]
  d_past_of : DefN K mg "past_of" s_past_of ["one", "other"]
  d_is_turning : DefN K mg "is_turning" s_is_turning ["word"]
  d_need_length : DefN K mg "need_length" s_need_length ["length"]
  d_plain_of : DefN K mg "plain_of" s_plain_of ["length"]
  d_made_of : DefN K mg "made_of" s_made_of ["words", "part"]
  d_is_crowd : DefN K mg "is_crowd" s_is_crowd ["thing"]
  d_need_crowd : DefN K mg "need_crowd" s_need_crowd ["crowd"]
  d_length_of : DefN K mg "length_of" s_length_of ["crowd"]
  d_need_own : DefN K mg "need_own" s_need_own ["crowd", "word"]
  d_part_for : DefN K mg "part_for" s_part_for ["crowd", "word"]
  d_says_of : DefN K mg "says_of" s_says_of ["crowd", "word"]
  d_says : DefN K mg "says" s_says ["crowd", "word"]
  d_plain_crowd_of : DefN K mg "plain_crowd_of" s_plain_crowd_of ["length", "size"]
  d_need_size : DefN K mg "need_size" s_need_size ["length", "size"]
  d_plain_crowd : DefN K mg "plain_crowd" s_plain_crowd ["length", "size"]
  d_rank_on : DefN K mg "rank_on" s_rank_on ["crowd", "spots"]
  d_need_full_one : DefN K mg "need_full_one" s_need_full_one ["crowd"]
  d_need_places : DefN K mg "need_places" s_need_places ["crowd", "spots"]
  d_places_beside : DefN K mg "places_beside" s_places_beside ["crowd", "spots"]
  d_within_many : DefN K mg "within_many" s_within_many ["crowd", "spots"]
  d_masks_within : DefN K mg "masks_within" s_masks_within ["crowd", "spots"]
  d_three_bonds : DefN K mg "three_bonds" s_three_bonds ["crowd", "one", "other"]
  d_behind : DefN K mg "behind" s_behind ["crowd", "word"]
  d_asked : DefN K mg "asked" s_asked ["crowd", "word"]
  d_need_row : DefN K mg "need_row" s_need_row ["crowd", "words"]
  d_told_by : DefN K mg "told_by" s_told_by ["state", "word"]
  d_state_behind : DefN K mg "state_behind" s_state_behind ["state", "word", "ask"]
  d_followed : DefN K mg "followed" s_followed ["crowd", "words"]
  d_told_sign : DefN K mg "told_sign" s_told_sign ["told", "answers"]
  d_row_chance : DefN K mg "row_chance" s_row_chance ["crowd", "words", "answers"]
  d_need_half : DefN K mg "need_half" s_need_half ["length"]
  d_shared_crowd : DefN K mg "shared_crowd" s_shared_crowd ["length"]
  d_are_answers : DefN K mg "are_answers" s_are_answers ["length", "answers"]
  d_letters_told : DefN K mg "letters_told" s_letters_told ["answers"]
  d_need_answers : DefN K mg "need_answers" s_need_answers ["crowd", "answers"]
  d_turn_letters : DefN K mg "turn_letters" s_turn_letters ["crowd", "answers"]
  d__law_begun : DefN K mg "_law_begun" s__law_begun ["script"]
  d__law_draw : DefN K mg "_law_draw" s__law_draw ["state", "size_here"]
  d__law_pick : DefN K mg "_law_pick" s__law_pick ["state", "several"]
  d__law_two : DefN K mg "_law_two" s__law_two ["one", "other"]
  d__law_past : DefN K mg "_law_past" s__law_past ["one", "other"]
  d__law_lettered : DefN K mg "_law_lettered" s__law_lettered ["letters_here", "spot", "letter"]
  d__law_moved : DefN K mg "_law_moved" s__law_moved ["each", "move"]
  d__law_led : DefN K mg "_law_led" s__law_led ["several", "moves_here"]
  d__law_cd_beside : DefN K mg "_law_cd_beside" s__law_cd_beside ["one", "other"]
  d_law : DefN K mg "law" s_law ["script"]
  b_len : mg "len" = none
  b_range : mg "range" = none
  b_tuple : mg "tuple" = none
  b_list : mg "list" = none
  b_isinstance : mg "isinstance" = none
  b_int : mg "int" = none
  b_bool : mg "bool" = none
  b_str : mg "str" = none
  b_all : mg "all" = none
  b_any : mg "any" = none
  b_sum : mg "sum" = none
  b_enumerate : mg "enumerate" = none
  b_zip : mg "zip" = none
  b_sorted : mg "sorted" = none
  b_min : mg "min" = none
  b_abs : mg "abs" = none
  c_LETTERS : ∃ t, mg "LETTERS" = some (.str "1abc" t)
  c_MOST_LENGTH : ∃ t, mg "MOST_LENGTH" = some (.int 12 t)
  c_MOST_WORDS : ∃ t, mg "MOST_WORDS" = some (.int 15 t)
  c_A_FIGURES : ∃ t, mg "A_FIGURES" = some (.int 5592405 t)
  c_MOST_LETTERS : ∃ t, mg "MOST_LETTERS" = some (.int 12 t)
  c_MOST_SHARED : ∃ t, mg "MOST_SHARED" = some (.int 6 t)
  t_TURNING : ∃ a, mg "TURNING" = some (.ref a) ∧ turnB K a = true
variable {P : Program} {w : World} {K : PySem.W.Frag} {mg : Str → Option Value} {base : Heap}
def n_items_of : List Str := ["mask", "at"]
def f_items_of : Sm := sRet (dBi tupleD (aCons (dLc [1] (iArgs rng1 (aCons (un1 bitsD (dVar 0)) (aNil))) (gN 1) (bTst (bin2 eqD (bin2 andD (bin2 shrD (dVar 0) (dVar 1)) (dC (.int 1))) (dC (.int 1)))) (dVar 1)) (aNil)))
def m_items_of : List D → M D := outM f_items_of 2
theorem sc_items_of : FnScope n_items_of ["mask"] (defScope s_items_of) := ⟨(by kernel_rfl), (by kernel_rfl), (by kernel_rfl), by decide +kernel, rfl, by decide +kernel, by decide +kernel⟩
theorem pu_m_items_of (ds : List D) : Pu (m_items_of ds) := pu_outM (f := f_items_of) (n := 2) (pu_sRet (pu_dBi (pu_aCons (pu_dLc (pu_iArgs (pu_aCons (pu_un1 (pu_dVar 0)) (pu_aNil))) (pu_bTst (pu_bin2 (pu_bin2 (pu_bin2 (pu_dVar 0) (pu_dVar 1)) (pu_dC (.int 1))) (pu_dC (.int 1)))) (pu_dVar 1)) (pu_aNil)))) ds
theorem ok_items_of (Y : Hy K mg) : DefOk P w K mg base 1 "items_of" 1 m_items_of := by
  obtain ⟨f, fd, F, hm, hb⟩ := Y.d_items_of
  exact def_ok F hm hb sc_items_of 1 rfl (by decide) fun cdv A outer s H E G => (dss_one (ds_ret (de_ty cd_tuple (gl_of (by kernel_rfl)) Y.b_tuple bt_tuple (da_cons (de_lc (own := [("at", 1)]) G (di_rng1 (gl_of (by kernel_rfl)) Y.b_range (da_cons (de_bits (de_var 0 rfl (vis_of (by kernel_rfl)) (by kernel_rfl) (by kernel_rfl))) (da_nil))) (by kernel_rfl) rfl (fun _ _ _ _ _ => dg_name 1 (Good.blk G _ _ _ _ _).nd rfl (loc_of (by kernel_rfl)) (.inr (by kernel_rfl))) (fun _ _ _ _ _ => dts_one (dt_cmp (od_eq (Good.blk G _ _ _ _ _).room.units) (de_op od_and (de_op od_shr (de_var 0 rfl (vis_of (by kernel_rfl)) (by kernel_rfl) (by kernel_rfl)) (de_var 1 rfl (vis_of (by kernel_rfl)) (by kernel_rfl) (by kernel_rfl))) (de_int)) (de_int) rfl)) (fun _ _ _ _ _ => de_var 1 rfl (vis_of (by kernel_rfl)) (by kernel_rfl) (by kernel_rfl))) (da_nil)) (by decide) (by kernel_rfl))))
def n_is_odd : List Str := ["mask", "odd"]
def f_is_odd : Sm := sSeq (sSet 1 (dC (.bl false))) (sSeq (whL (bTst (bin2 gtD (dVar 0) (dC (.int 0)))) (sPar 0 1 (aCons (bin2 andD (dVar 0) (bin2 subD (dVar 0) (dC (.int 1)))) (aCons (dNot (dVar 1)) (aNil)))) 100) (sRet (dVar 1)))
def m_is_odd : List D → M D := outM f_is_odd 2
theorem sc_is_odd : FnScope n_is_odd ["mask"] (defScope s_is_odd) := ⟨(by kernel_rfl), (by kernel_rfl), (by kernel_rfl), by decide +kernel, rfl, by decide +kernel, by decide +kernel⟩
theorem pu_m_is_odd (ds : List D) : Pu (m_is_odd ds) := pu_outM (f := f_is_odd) (n := 2) (pu_sSeq (pu_sSet 1 (pu_dC (.bl false))) (pu_sSeq (pu_whL (pu_bTst (pu_bin2 (pu_dVar 0) (pu_dC (.int 0)))) (pu_sPar 0 1 (pu_aCons (pu_bin2 (pu_dVar 0) (pu_bin2 (pu_dVar 0) (pu_dC (.int 1)))) (pu_aCons (pu_dNot (pu_dVar 1)) (pu_aNil)))) 100) (pu_sRet (pu_dVar 1)))) ds
theorem ok_is_odd (Y : Hy K mg) : DefOk P w K mg base 1 "is_odd" 1 m_is_odd := by
  obtain ⟨f, fd, F, hm, hb⟩ := Y.d_is_odd
  exact def_ok F hm hb sc_is_odd 1 rfl (by decide) fun cdv A outer s H E G => (dss_cons (ds_set 1 G.nd rfl (loc_of (by kernel_rfl)) (de_bl)) (dss_cons (ds_while 100 G (dt_cmp od_gt (de_var 0 rfl (vis_of (by kernel_rfl)) (by kernel_rfl) (by kernel_rfl)) (de_int) rfl) (dss_one (ds_par 0 1 G rfl rfl (by decide) (by kernel_rfl) (by kernel_rfl) (da_cons (de_op od_and (de_var 0 rfl (vis_of (by kernel_rfl)) (by kernel_rfl) (by kernel_rfl)) (de_op od_sub (de_var 0 rfl (vis_of (by kernel_rfl)) (by kernel_rfl) (by kernel_rfl)) (de_int))) (da_cons (de_not (de_var 1 rfl (vis_of (by kernel_rfl)) (by kernel_rfl) (by kernel_rfl))) (da_nil))) (by kernel_rfl)))) (dss_one (ds_ret (de_var 1 rfl (vis_of (by kernel_rfl)) (by kernel_rfl) (by kernel_rfl))))))
def n_reduced : List Str := ["pairs", "kept", "idle", "row", "tag", "last", "at"]
def f_reduced : Sm := sSeq (sNewK2 1 2) (sSeq (sFor (gTp 2 (gsCons (gN 3) (gsCons (gN 4) (gsNil)))) (iSeq (dVar 0)) (sSeq (sForK 1 5 (bTst (bin2 eqD (bin2 andD (bin2 shrD (dVar 3) (dVar 5)) (dC (.int 1))) (dC (.int 1)))) 3 4 (aCons (bin2 xorD (dVar 3) (bin2 ixD (dKget 1 (dVar 5)) (dC (.int 0)))) (aCons (bin2 xorD (dVar 4) (bin2 ixD (dKget 1 (dVar 5)) (dC (.int 1)))) (aNil)))) (sIf (bTst (bin2 eqD (dVar 3) (dC (.int 0)))) (sApp 2 (dVar 4)) (sSeq (sSet 6 (bin2 subD (un1 bitsD (dVar 3)) (dC (.int 1)))) (sSeq (sFor (gN 5) (iSeq (dKlist 1)) (sIf (bTst (bin2 eqD (bin2 andD (bin2 shrD (bin2 ixD (dKget 1 (dVar 5)) (dC (.int 0))) (dVar 6)) (dC (.int 1))) (dC (.int 1)))) (sKput 1 (dVar 5) (dTup (aCons (bin2 xorD (bin2 ixD (dKget 1 (dVar 5)) (dC (.int 0))) (dVar 3)) (aCons (bin2 xorD (bin2 ixD (dKget 1 (dVar 5)) (dC (.int 1))) (dVar 4)) (aNil))))) (sNil))) (sKput 1 (dVar 6) (dTup (aCons (dVar 3) (aCons (dVar 4) (aNil)))))))))) (sFrz 2 (sLockR 1 (sRet (dTup (aCons (dLc [5] (iSeq (dKsort 1)) (gN 5) (bYes) (dKget 1 (dVar 5))) (aCons (dVar 2) (aNil))))))))
def m_reduced : List D → M D := outM f_reduced 7
theorem sc_reduced : FnScope n_reduced ["pairs"] (defScope s_reduced) := ⟨(by kernel_rfl), (by kernel_rfl), (by kernel_rfl), by decide +kernel, rfl, by decide +kernel, by decide +kernel⟩
theorem pu_m_reduced (ds : List D) : Pu (m_reduced ds) := pu_outM (f := f_reduced) (n := 7) (pu_sSeq (pu_sNewK2 1 2) (pu_sSeq (pu_sFor (pu_iSeq (pu_dVar 0)) (pu_sSeq (pu_sForK 1 5 3 4 (pu_bTst (pu_bin2 (pu_bin2 (pu_bin2 (pu_dVar 3) (pu_dVar 5)) (pu_dC (.int 1))) (pu_dC (.int 1)))) (pu_aCons (pu_bin2 (pu_dVar 3) (pu_bin2 (pu_dKget 1 (pu_dVar 5)) (pu_dC (.int 0)))) (pu_aCons (pu_bin2 (pu_dVar 4) (pu_bin2 (pu_dKget 1 (pu_dVar 5)) (pu_dC (.int 1)))) (pu_aNil)))) (pu_sIf (pu_bTst (pu_bin2 (pu_dVar 3) (pu_dC (.int 0)))) (pu_sApp 2 (pu_dVar 4)) (pu_sSeq (pu_sSet 6 (pu_bin2 (pu_un1 (pu_dVar 3)) (pu_dC (.int 1)))) (pu_sSeq (pu_sFor (pu_iSeq (pu_dKlist 1)) (pu_sIf (pu_bTst (pu_bin2 (pu_bin2 (pu_bin2 (pu_bin2 (pu_dKget 1 (pu_dVar 5)) (pu_dC (.int 0))) (pu_dVar 6)) (pu_dC (.int 1))) (pu_dC (.int 1)))) (pu_sKput 1 (pu_dVar 5) (pu_dTup (pu_aCons (pu_bin2 (pu_bin2 (pu_dKget 1 (pu_dVar 5)) (pu_dC (.int 0))) (pu_dVar 3)) (pu_aCons (pu_bin2 (pu_bin2 (pu_dKget 1 (pu_dVar 5)) (pu_dC (.int 1))) (pu_dVar 4)) (pu_aNil))))) (pu_sNil))) (pu_sKput 1 (pu_dVar 6) (pu_dTup (pu_aCons (pu_dVar 3) (pu_aCons (pu_dVar 4) (pu_aNil)))))))))) (pu_sFrz 2 (pu_sLockR 1 (pu_sRet (pu_dTup (pu_aCons (pu_dLc (pu_iSeq (pu_dKsort 1)) (pu_bYes) (pu_dKget 1 (pu_dVar 5))) (pu_aCons (pu_dVar 2) (pu_aNil))))))))) ds
theorem ok_reduced (Y : Hy K mg) : DefOk P w K mg base 1 "reduced" 1 m_reduced := by
  obtain ⟨f, fd, F, hm, hb⟩ := Y.d_reduced
  exact def_ok F hm hb sc_reduced 1 rfl (by decide) fun cdv A outer s H E G => (dss_cons (ds_newK2 1 2 G rfl rfl (loc_of (by kernel_rfl)) (loc_of (by kernel_rfl)) (.inl rfl) (.inl rfl)) (dss_cons (ds_for G (di_seq (de_var 0 rfl (vis_of (by kernel_rfl)) (by kernel_rfl) (by kernel_rfl))) (dg_tup 2 G.calm (dgs_cons (dg_name 3 G.nd rfl (loc_of (by kernel_rfl)) (.inl rfl)) (dgs_cons (dg_name 4 G.nd rfl (loc_of (by kernel_rfl)) (.inl rfl)) (dgs_nil)))) (dss_cons (ds_forK 1 5 3 4 G (by decide) (by decide) (by decide) rfl (vis_of (by kernel_rfl)) rfl (loc_of (by kernel_rfl)) (.inl rfl) rfl rfl (by decide) (by kernel_rfl) (by kernel_rfl) (dt_cmp (od_eq G.room.units) (de_op od_and (de_op od_shr (de_var 3 rfl (vis_of (by kernel_rfl)) (by kernel_rfl) (by kernel_rfl)) (de_var 5 rfl (vis_of (by kernel_rfl)) (by kernel_rfl) (by kernel_rfl))) (de_int)) (de_int) rfl) (da_cons (de_op od_xor (de_var 3 rfl (vis_of (by kernel_rfl)) (by kernel_rfl) (by kernel_rfl)) (de_ix (de_kget 1 G rfl (vis_of (by kernel_rfl)) (de_var 5 rfl (vis_of (by kernel_rfl)) (by kernel_rfl) (by kernel_rfl)) (fun _ _ => rfl) (by kernel_rfl) (by kernel_rfl)) (de_int) (fun _ _ => rfl))) (da_cons (de_op od_xor (de_var 4 rfl (vis_of (by kernel_rfl)) (by kernel_rfl) (by kernel_rfl)) (de_ix (de_kget 1 G rfl (vis_of (by kernel_rfl)) (de_var 5 rfl (vis_of (by kernel_rfl)) (by kernel_rfl) (by kernel_rfl)) (fun _ _ => rfl) (by kernel_rfl) (by kernel_rfl)) (de_int) (fun _ _ => rfl))) (da_nil))) (by kernel_rfl) rfl (by kernel_rfl) (by kernel_rfl)) (dss_one (ds_if (dt_cmp (od_eq G.room.units) (de_var 3 rfl (vis_of (by kernel_rfl)) (by kernel_rfl) (by kernel_rfl)) (de_int) rfl) (dss_one (ds_app 2 rfl (vis_of (by kernel_rfl)) (de_var 4 rfl (vis_of (by kernel_rfl)) (by kernel_rfl) (by kernel_rfl)) (by kernel_rfl) (by kernel_rfl))) (dss_cons (ds_set 6 G.nd rfl (loc_of (by kernel_rfl)) (de_op od_sub (de_bits (de_var 3 rfl (vis_of (by kernel_rfl)) (by kernel_rfl) (by kernel_rfl))) (de_int))) (dss_cons (ds_for G (di_seq (de_klist 1 G (gl_of (by kernel_rfl)) Y.b_list rfl (vis_of (by kernel_rfl)) (by kernel_rfl) (by kernel_rfl))) (dg_name 5 G.nd rfl (loc_of (by kernel_rfl)) (.inl rfl)) (dss_one (ds_if (dt_cmp (od_eq G.room.units) (de_op od_and (de_op od_shr (de_ix (de_kget 1 G rfl (vis_of (by kernel_rfl)) (de_var 5 rfl (vis_of (by kernel_rfl)) (by kernel_rfl) (by kernel_rfl)) (fun _ _ => rfl) (by kernel_rfl) (by kernel_rfl)) (de_int) (fun _ _ => rfl)) (de_var 6 rfl (vis_of (by kernel_rfl)) (by kernel_rfl) (by kernel_rfl))) (de_int)) (de_int) rfl) (dss_one (ds_kput 1 G rfl (vis_of (by kernel_rfl)) (de_var 5 rfl (vis_of (by kernel_rfl)) (by kernel_rfl) (by kernel_rfl)) (de_tup (da_cons (de_op od_xor (de_ix (de_kget 1 G rfl (vis_of (by kernel_rfl)) (de_var 5 rfl (vis_of (by kernel_rfl)) (by kernel_rfl) (by kernel_rfl)) (fun _ _ => rfl) (by kernel_rfl) (by kernel_rfl)) (de_int) (fun _ _ => rfl)) (de_var 3 rfl (vis_of (by kernel_rfl)) (by kernel_rfl) (by kernel_rfl))) (da_cons (de_op od_xor (de_ix (de_kget 1 G rfl (vis_of (by kernel_rfl)) (de_var 5 rfl (vis_of (by kernel_rfl)) (by kernel_rfl) (by kernel_rfl)) (fun _ _ => rfl) (by kernel_rfl) (by kernel_rfl)) (de_int) (fun _ _ => rfl)) (de_var 4 rfl (vis_of (by kernel_rfl)) (by kernel_rfl) (by kernel_rfl))) (da_nil)))) rfl (by kernel_rfl) (by kernel_rfl))) (dss_nil)))) (dss_one (ds_kput 1 G rfl (vis_of (by kernel_rfl)) (de_var 6 rfl (vis_of (by kernel_rfl)) (by kernel_rfl) (by kernel_rfl)) (de_tup (da_cons (de_var 3 rfl (vis_of (by kernel_rfl)) (by kernel_rfl) (by kernel_rfl)) (da_cons (de_var 4 rfl (vis_of (by kernel_rfl)) (by kernel_rfl) (by kernel_rfl)) (da_nil)))) rfl (by kernel_rfl) (by kernel_rfl))))))))) (ds_frz 2 (dss_one (ds_lockR 1 (ds_ret (de_tup (da_cons (de_lc (own := [("last", 5)]) G (di_seq (de_ksort 1 G (gl_of (by kernel_rfl)) Y.b_sorted bt_sorted rfl (vis_of (by kernel_rfl)) (by kernel_rfl) (by kernel_rfl))) (by kernel_rfl) rfl (fun _ _ _ _ _ => dg_name 5 (Good.blk G _ _ _ _ _).nd rfl (loc_of (by kernel_rfl)) (.inr (by kernel_rfl))) (fun _ _ _ _ _ => dts_nil) (fun _ _ _ _ _ => de_kget 1 (Good.blk G _ _ _ _ _) rfl (vis_of (by kernel_rfl)) (de_var 5 rfl (vis_of (by kernel_rfl)) (by kernel_rfl) (by kernel_rfl)) (fun _ _ => rfl) (by kernel_rfl) (by kernel_rfl))) (da_cons (de_var 2 rfl (vis_of (by kernel_rfl)) (by kernel_rfl) (by kernel_rfl)) (da_nil))))))))))
def n_brought : List Str := ["kept", "row", "tag", "other", "own"]
def f_brought : Sm := sSeq (sSet 2 (dC (.int 0))) (sSeq (sFor (gTp 2 (gsCons (gN 3) (gsCons (gN 4) (gsNil)))) (iSeq (dVar 0)) (sIf (bTst (bin2 eqD (bin2 andD (bin2 shrD (dVar 1) (bin2 subD (un1 bitsD (dVar 3)) (dC (.int 1)))) (dC (.int 1))) (dC (.int 1)))) (sPar 1 2 (aCons (bin2 xorD (dVar 1) (dVar 3)) (aCons (bin2 xorD (dVar 2) (dVar 4)) (aNil)))) (sNil))) (sRet (dTup (aCons (dVar 1) (aCons (dVar 2) (aNil))))))
def m_brought : List D → M D := outM f_brought 5
theorem sc_brought : FnScope n_brought ["kept", "row"] (defScope s_brought) := ⟨(by kernel_rfl), (by kernel_rfl), (by kernel_rfl), by decide +kernel, rfl, by decide +kernel, by decide +kernel⟩
theorem pu_m_brought (ds : List D) : Pu (m_brought ds) := pu_outM (f := f_brought) (n := 5) (pu_sSeq (pu_sSet 2 (pu_dC (.int 0))) (pu_sSeq (pu_sFor (pu_iSeq (pu_dVar 0)) (pu_sIf (pu_bTst (pu_bin2 (pu_bin2 (pu_bin2 (pu_dVar 1) (pu_bin2 (pu_un1 (pu_dVar 3)) (pu_dC (.int 1)))) (pu_dC (.int 1))) (pu_dC (.int 1)))) (pu_sPar 1 2 (pu_aCons (pu_bin2 (pu_dVar 1) (pu_dVar 3)) (pu_aCons (pu_bin2 (pu_dVar 2) (pu_dVar 4)) (pu_aNil)))) (pu_sNil))) (pu_sRet (pu_dTup (pu_aCons (pu_dVar 1) (pu_aCons (pu_dVar 2) (pu_aNil))))))) ds
theorem ok_brought (Y : Hy K mg) : DefOk P w K mg base 1 "brought" 2 m_brought := by
  obtain ⟨f, fd, F, hm, hb⟩ := Y.d_brought
  exact def_ok F hm hb sc_brought 2 rfl (by decide) fun cdv A outer s H E G => (dss_cons (ds_set 2 G.nd rfl (loc_of (by kernel_rfl)) (de_int)) (dss_cons (ds_for G (di_seq (de_var 0 rfl (vis_of (by kernel_rfl)) (by kernel_rfl) (by kernel_rfl))) (dg_tup 2 G.calm (dgs_cons (dg_name 3 G.nd rfl (loc_of (by kernel_rfl)) (.inl rfl)) (dgs_cons (dg_name 4 G.nd rfl (loc_of (by kernel_rfl)) (.inl rfl)) (dgs_nil)))) (dss_one (ds_if (dt_cmp (od_eq G.room.units) (de_op od_and (de_op od_shr (de_var 1 rfl (vis_of (by kernel_rfl)) (by kernel_rfl) (by kernel_rfl)) (de_op od_sub (de_bits (de_var 3 rfl (vis_of (by kernel_rfl)) (by kernel_rfl) (by kernel_rfl))) (de_int))) (de_int)) (de_int) rfl) (dss_one (ds_par 1 2 G rfl rfl (by decide) (by kernel_rfl) (by kernel_rfl) (da_cons (de_op od_xor (de_var 1 rfl (vis_of (by kernel_rfl)) (by kernel_rfl) (by kernel_rfl)) (de_var 3 rfl (vis_of (by kernel_rfl)) (by kernel_rfl) (by kernel_rfl))) (da_cons (de_op od_xor (de_var 2 rfl (vis_of (by kernel_rfl)) (by kernel_rfl) (by kernel_rfl)) (de_var 4 rfl (vis_of (by kernel_rfl)) (by kernel_rfl) (by kernel_rfl))) (da_nil))) (by kernel_rfl))) (dss_nil)))) (dss_one (ds_ret (de_tup (da_cons (de_var 1 rfl (vis_of (by kernel_rfl)) (by kernel_rfl) (by kernel_rfl)) (da_cons (de_var 2 rfl (vis_of (by kernel_rfl)) (by kernel_rfl) (by kernel_rfl)) (da_nil))))))))
def n_is_number : List Str := ["thing"]
def f_is_number : Sm := sRet (dAnd (dIsi .int (dVar 0)) (dNot (dIsi .bool (dVar 0))))
def m_is_number : List D → M D := outM f_is_number 1
theorem sc_is_number : FnScope n_is_number ["thing"] (defScope s_is_number) := ⟨(by kernel_rfl), (by kernel_rfl), (by kernel_rfl), by decide +kernel, rfl, by decide +kernel, by decide +kernel⟩
theorem pu_m_is_number (ds : List D) : Pu (m_is_number ds) := pu_outM (f := f_is_number) (n := 1) (pu_sRet (pu_dAnd (pu_dIsi (pu_dVar 0)) (pu_dNot (pu_dIsi (pu_dVar 0))))) ds
theorem ok_is_number (Y : Hy K mg) : DefOk P w K mg base 1 "is_number" 1 m_is_number := by
  obtain ⟨f, fd, F, hm, hb⟩ := Y.d_is_number
  exact def_ok F hm hb sc_is_number 1 rfl (by decide) fun cdv A outer s H E G => (dss_one (ds_ret (de_and (de_isi .int (gl_of (by kernel_rfl)) Y.b_isinstance (de_var 0 rfl (vis_of (by kernel_rfl)) (by kernel_rfl) (by kernel_rfl)) (gl_of (by kernel_rfl)) Y.b_int bt_int (by decide) (by kernel_rfl)) (de_one (de_not (de_isi .bool (gl_of (by kernel_rfl)) Y.b_isinstance (de_var 0 rfl (vis_of (by kernel_rfl)) (by kernel_rfl) (by kernel_rfl)) (gl_of (by kernel_rfl)) Y.b_bool bt_bool (by decide) (by kernel_rfl)))))))
def n_is_between : List Str := ["thing", "least", "most"]
def f_is_between : Sm := sRet (dAnd (dFnN 1 m_is_number (aCons (dVar 0) (aNil))) (dChain leD leD (dVar 1) (dVar 0) (dVar 2)))
def m_is_between : List D → M D := outM f_is_between 3
theorem sc_is_between : FnScope n_is_between ["thing", "least", "most"] (defScope s_is_between) := ⟨(by kernel_rfl), (by kernel_rfl), (by kernel_rfl), by decide +kernel, rfl, by decide +kernel, by decide +kernel⟩
theorem pu_m_is_between (ds : List D) : Pu (m_is_between ds) := pu_outM (f := f_is_between) (n := 3) (pu_sRet (pu_dAnd (pu_dFnN pu_m_is_number (pu_aCons (pu_dVar 0) (pu_aNil))) (pu_dChain (pu_dVar 1) (pu_dVar 0) (pu_dVar 2)))) ds
theorem ok_is_between (Y : Hy K mg) : DefOk P w K mg base 2 "is_between" 3 m_is_between := by
  obtain ⟨f, fd, F, hm, hb⟩ := Y.d_is_between
  exact def_ok F hm hb sc_is_between 3 rfl (by decide) fun cdv A outer s H E G => (dss_one (ds_ret (de_and (de_call G (ok_is_number Y) (by decide) (gl_of (by kernel_rfl)) (da_cons (de_var 0 rfl (vis_of (by kernel_rfl)) (by kernel_rfl) (by kernel_rfl)) (da_nil)) (by kernel_rfl)) (de_one (de_chain od_le od_le (de_var 1 rfl (vis_of (by kernel_rfl)) (by kernel_rfl) (by kernel_rfl)) (de_var 0 rfl (vis_of (by kernel_rfl)) (by kernel_rfl) (by kernel_rfl)) (de_var 2 rfl (vis_of (by kernel_rfl)) (by kernel_rfl) (by kernel_rfl)))))))
def n_is_sign : List Str := ["thing"]
def f_is_sign : Sm := sRet (dAnd (dFnN 1 m_is_number (aCons (dVar 0) (aNil))) (bin2 inD (dVar 0) (dTup (aCons (dC (.int 1)) (aCons (un1 negD (dC (.int 1))) (aNil))))))
def m_is_sign : List D → M D := outM f_is_sign 1
theorem sc_is_sign : FnScope n_is_sign ["thing"] (defScope s_is_sign) := ⟨(by kernel_rfl), (by kernel_rfl), (by kernel_rfl), by decide +kernel, rfl, by decide +kernel, by decide +kernel⟩
theorem pu_m_is_sign (ds : List D) : Pu (m_is_sign ds) := pu_outM (f := f_is_sign) (n := 1) (pu_sRet (pu_dAnd (pu_dFnN pu_m_is_number (pu_aCons (pu_dVar 0) (pu_aNil))) (pu_bin2 (pu_dVar 0) (pu_dTup (pu_aCons (pu_dC (.int 1)) (pu_aCons (pu_un1 (pu_dC (.int 1))) (pu_aNil))))))) ds
theorem ok_is_sign (Y : Hy K mg) : DefOk P w K mg base 2 "is_sign" 1 m_is_sign := by
  obtain ⟨f, fd, F, hm, hb⟩ := Y.d_is_sign
  exact def_ok F hm hb sc_is_sign 1 rfl (by decide) fun cdv A outer s H E G => (dss_one (ds_ret (de_and (de_call G (ok_is_number Y) (by decide) (gl_of (by kernel_rfl)) (da_cons (de_var 0 rfl (vis_of (by kernel_rfl)) (by kernel_rfl) (by kernel_rfl)) (da_nil)) (by kernel_rfl)) (de_one (de_cmp od_in (de_var 0 rfl (vis_of (by kernel_rfl)) (by kernel_rfl) (by kernel_rfl)) (de_tup (da_cons (de_int) (da_cons (de_neg (de_int)) (da_nil)))) rfl)))))
def n_is_row : List Str := ["thing"]
def f_is_row : Sm := sRet (dIsiR (dVar 0))
def m_is_row : List D → M D := outM f_is_row 1
theorem sc_is_row : FnScope n_is_row ["thing"] (defScope s_is_row) := ⟨(by kernel_rfl), (by kernel_rfl), (by kernel_rfl), by decide +kernel, rfl, by decide +kernel, by decide +kernel⟩
theorem pu_m_is_row (ds : List D) : Pu (m_is_row ds) := pu_outM (f := f_is_row) (n := 1) (pu_sRet (pu_dIsiR (pu_dVar 0))) ds
theorem ok_is_row (Y : Hy K mg) : DefOk P w K mg base 1 "is_row" 1 m_is_row := by
  obtain ⟨f, fd, F, hm, hb⟩ := Y.d_is_row
  exact def_ok F hm hb sc_is_row 1 rfl (by decide) fun cdv A outer s H E G => (dss_one (ds_ret (de_isiR (gl_of (by kernel_rfl)) Y.b_isinstance (de_var 0 rfl (vis_of (by kernel_rfl)) (by kernel_rfl) (by kernel_rfl)) (gl_of (by kernel_rfl)) Y.b_list (gl_of (by kernel_rfl)) Y.b_tuple)))
def n_is_rising : List Str := ["thing", "many", "one", "other", "item"]
def f_is_rising : Sm := sSeq (sIf (bOr (bNot (bTru (dIsi .tuple (dVar 0)))) (bNot (bTru (dBi allD (aCons (dLc [4] (iSeq (dVar 0)) (gN 4) (bYes) (dFnN 3 m_is_between (aCons (dVar 4) (aCons (dC (.int 0)) (aCons (bin2 subD (dVar 1) (dC (.int 1))) (aNil)))))) (aNil)))))) (sRet (dC (.bl false))) (sNil)) (sRet (dBi allD (aCons (dLc [2, 3] (iArgs zipA (aCons (dVar 0) (aCons (dSl (dVar 0) (pAt (dC (.int 1))) (pNo)) (aNil)))) (gTp 2 (gsCons (gN 2) (gsCons (gN 3) (gsNil)))) (bYes) (bin2 ltD (dVar 2) (dVar 3))) (aNil))))
def m_is_rising : List D → M D := outM f_is_rising 5
theorem sc_is_rising : FnScope n_is_rising ["thing", "many"] (defScope s_is_rising) := ⟨(by kernel_rfl), (by kernel_rfl), (by kernel_rfl), by decide +kernel, rfl, by decide +kernel, by decide +kernel⟩
theorem pu_m_is_rising (ds : List D) : Pu (m_is_rising ds) := pu_outM (f := f_is_rising) (n := 5) (pu_sSeq (pu_sIf (pu_bOr (pu_bNot (pu_bTru (pu_dIsi (pu_dVar 0)))) (pu_bNot (pu_bTru (pu_dBi (pu_aCons (pu_dLc (pu_iSeq (pu_dVar 0)) (pu_bYes) (pu_dFnN pu_m_is_between (pu_aCons (pu_dVar 4) (pu_aCons (pu_dC (.int 0)) (pu_aCons (pu_bin2 (pu_dVar 1) (pu_dC (.int 1))) (pu_aNil)))))) (pu_aNil)))))) (pu_sRet (pu_dC (.bl false))) (pu_sNil)) (pu_sRet (pu_dBi (pu_aCons (pu_dLc (pu_iArgs (pu_aCons (pu_dVar 0) (pu_aCons (pu_dSl (pu_dVar 0) (pu_pAt (pu_dC (.int 1))) (pu_pNo)) (pu_aNil)))) (pu_bYes) (pu_bin2 (pu_dVar 2) (pu_dVar 3))) (pu_aNil))))) ds
theorem ok_is_rising (Y : Hy K mg) : DefOk P w K mg base 3 "is_rising" 2 m_is_rising := by
  obtain ⟨f, fd, F, hm, hb⟩ := Y.d_is_rising
  exact def_ok F hm hb sc_is_rising 2 rfl (by decide) fun cdv A outer s H E G => (dss_cons (ds_if (PW.pt (dw_or (dt_not (dt_val (de_isi .tuple (gl_of (by kernel_rfl)) Y.b_isinstance (de_var 0 rfl (vis_of (by kernel_rfl)) (by kernel_rfl) (by kernel_rfl)) (gl_of (by kernel_rfl)) Y.b_tuple bt_tuple (by decide) (by kernel_rfl)))) (dw_or1 (dt_not (dt_val (de_bi (cd_all G.calm) (gl_of (by kernel_rfl)) Y.b_all bt_all (da_cons (de_lc (own := [("item", 4)]) G (di_seq (de_var 0 rfl (vis_of (by kernel_rfl)) (by kernel_rfl) (by kernel_rfl))) (by kernel_rfl) rfl (fun _ _ _ _ _ => dg_name 4 (Good.blk G _ _ _ _ _).nd rfl (loc_of (by kernel_rfl)) (.inr (by kernel_rfl))) (fun _ _ _ _ _ => dts_nil) (fun _ _ _ _ _ => de_call (Good.blk G _ _ _ _ _) (ok_is_between Y) (by decide) (gl_of (by kernel_rfl)) (da_cons (de_var 4 rfl (vis_of (by kernel_rfl)) (by kernel_rfl) (by kernel_rfl)) (da_cons (de_int) (da_cons (de_op od_sub (de_var 1 rfl (vis_of (by kernel_rfl)) (by kernel_rfl) (by kernel_rfl)) (de_int)) (da_nil)))) (by kernel_rfl))) (da_nil)) (by decide) (by kernel_rfl))))))) (dss_one (ds_ret (de_bl))) (dss_nil)) (dss_one (ds_ret (de_bi (cd_all G.calm) (gl_of (by kernel_rfl)) Y.b_all bt_all (da_cons (de_lc (own := [("one", 2), ("other", 3)]) G (di_zip (gl_of (by kernel_rfl)) Y.b_zip (da_cons (de_var 0 rfl (vis_of (by kernel_rfl)) (by kernel_rfl) (by kernel_rfl)) (da_cons (de_slice (de_var 0 rfl (vis_of (by kernel_rfl)) (by kernel_rfl) (by kernel_rfl)) (dp_at (de_int)) (dp_no)) (da_nil)))) (by kernel_rfl) rfl (fun _ _ _ _ _ => dg_tup 2 (Good.blk G _ _ _ _ _).calm (dgs_cons (dg_name 2 (Good.blk G _ _ _ _ _).nd rfl (loc_of (by kernel_rfl)) (.inr (by kernel_rfl))) (dgs_cons (dg_name 3 (Good.blk G _ _ _ _ _).nd rfl (loc_of (by kernel_rfl)) (.inr (by kernel_rfl))) (dgs_nil)))) (fun _ _ _ _ _ => dts_nil) (fun _ _ _ _ _ => de_cmp od_lt (de_var 2 rfl (vis_of (by kernel_rfl)) (by kernel_rfl) (by kernel_rfl)) (de_var 3 rfl (vis_of (by kernel_rfl)) (by kernel_rfl) (by kernel_rfl)) rfl)) (da_nil)) (by decide) (by kernel_rfl)))))
def n_is_word : List Str := ["thing", "letters", "one"]
def f_is_word : Sm := sSeq (sIf (bOr (bNot (bTru (dIsi .tuple (dVar 0)))) (bOr (bTst (bin2 neD (dBi lenD (aCons (dVar 0) (aNil))) (dC (.int 2)))) (bNot (bTru (dFnN 1 m_is_sign (aCons (bin2 ixD (dVar 0) (dC (.int 0))) (aNil))))))) (sRet (dC (.bl false))) (sNil)) (sSeq (sSet 1 (bin2 ixD (dVar 0) (dC (.int 1)))) (sRet (dAnd (dIsi .str (dVar 1)) (dAnd (dChain leD leD (dC (.int 1)) (dBi lenD (aCons (dVar 1) (aNil))) (dC (.int 12))) (dBi allD (aCons (dLc [2] (iSeq (dVar 1)) (gN 2) (bYes) (bin2 inD (dVar 2) (dC (.str "1abc")))) (aNil)))))))
def m_is_word : List D → M D := outM f_is_word 3
theorem sc_is_word : FnScope n_is_word ["thing"] (defScope s_is_word) := ⟨(by kernel_rfl), (by kernel_rfl), (by kernel_rfl), by decide +kernel, rfl, by decide +kernel, by decide +kernel⟩
theorem pu_m_is_word (ds : List D) : Pu (m_is_word ds) := pu_outM (f := f_is_word) (n := 3) (pu_sSeq (pu_sIf (pu_bOr (pu_bNot (pu_bTru (pu_dIsi (pu_dVar 0)))) (pu_bOr (pu_bTst (pu_bin2 (pu_dBi (pu_aCons (pu_dVar 0) (pu_aNil))) (pu_dC (.int 2)))) (pu_bNot (pu_bTru (pu_dFnN pu_m_is_sign (pu_aCons (pu_bin2 (pu_dVar 0) (pu_dC (.int 0))) (pu_aNil))))))) (pu_sRet (pu_dC (.bl false))) (pu_sNil)) (pu_sSeq (pu_sSet 1 (pu_bin2 (pu_dVar 0) (pu_dC (.int 1)))) (pu_sRet (pu_dAnd (pu_dIsi (pu_dVar 1)) (pu_dAnd (pu_dChain (pu_dC (.int 1)) (pu_dBi (pu_aCons (pu_dVar 1) (pu_aNil))) (pu_dC (.int 12))) (pu_dBi (pu_aCons (pu_dLc (pu_iSeq (pu_dVar 1)) (pu_bYes) (pu_bin2 (pu_dVar 2) (pu_dC (.str "1abc")))) (pu_aNil)))))))) ds
theorem ok_is_word (Y : Hy K mg) : DefOk P w K mg base 3 "is_word" 1 m_is_word := by
  obtain ⟨f, fd, F, hm, hb⟩ := Y.d_is_word
  exact def_ok F hm hb sc_is_word 1 rfl (by decide) fun cdv A outer s H E G => (dss_cons (ds_if (PW.pt (dw_or (dt_not (dt_val (de_isi .tuple (gl_of (by kernel_rfl)) Y.b_isinstance (de_var 0 rfl (vis_of (by kernel_rfl)) (by kernel_rfl) (by kernel_rfl)) (gl_of (by kernel_rfl)) Y.b_tuple bt_tuple (by decide) (by kernel_rfl)))) (dw_or (dt_cmp (od_ne G.room.units) (de_bi cd_len (gl_of (by kernel_rfl)) Y.b_len bt_len (da_cons (de_var 0 rfl (vis_of (by kernel_rfl)) (by kernel_rfl) (by kernel_rfl)) (da_nil)) (by decide) (by kernel_rfl)) (de_int) rfl) (dw_or1 (dt_not (dt_val (de_call G (ok_is_sign Y) (by decide) (gl_of (by kernel_rfl)) (da_cons (de_ix (de_var 0 rfl (vis_of (by kernel_rfl)) (by kernel_rfl) (by kernel_rfl)) (de_int) (fun _ _ => rfl)) (da_nil)) (by kernel_rfl)))))))) (dss_one (ds_ret (de_bl))) (dss_nil)) (dss_cons (ds_set 1 G.nd rfl (loc_of (by kernel_rfl)) (de_ix (de_var 0 rfl (vis_of (by kernel_rfl)) (by kernel_rfl) (by kernel_rfl)) (de_int) (fun _ _ => rfl))) (dss_one (ds_ret (de_and (de_isi .str (gl_of (by kernel_rfl)) Y.b_isinstance (de_var 1 rfl (vis_of (by kernel_rfl)) (by kernel_rfl) (by kernel_rfl)) (gl_of (by kernel_rfl)) Y.b_str bt_str (by decide) (by kernel_rfl)) (de_and (de_chain od_le od_le (de_int) (de_bi cd_len (gl_of (by kernel_rfl)) Y.b_len bt_len (da_cons (de_var 1 rfl (vis_of (by kernel_rfl)) (by kernel_rfl) (by kernel_rfl)) (da_nil)) (by decide) (by kernel_rfl)) (de_gint (gl_of (by kernel_rfl)) Y.c_MOST_LENGTH (by kernel_rfl))) (de_one (de_bi (cd_all G.calm) (gl_of (by kernel_rfl)) Y.b_all bt_all (da_cons (de_lc (own := [("one", 2)]) G (di_seq (de_var 1 rfl (vis_of (by kernel_rfl)) (by kernel_rfl) (by kernel_rfl))) (by kernel_rfl) rfl (fun _ _ _ _ _ => dg_name 2 (Good.blk G _ _ _ _ _).nd rfl (loc_of (by kernel_rfl)) (.inr (by kernel_rfl))) (fun _ _ _ _ _ => dts_nil) (fun _ _ _ _ _ => de_cmp od_in (de_var 2 rfl (vis_of (by kernel_rfl)) (by kernel_rfl) (by kernel_rfl)) (de_gstr (gl_of (by kernel_rfl)) Y.c_LETTERS (by kernel_rfl)) rfl)) (da_nil)) (by decide) (by kernel_rfl)))))))))
def n_need_word : List Str := ["word"]
def f_need_word : Sm := sIf (bNot (bTru (dFnN 1 m_is_word (aCons (dVar 0) (aNil))))) (sNever) (sNil)
def m_need_word : List D → M D := outM f_need_word 1
theorem sc_need_word : FnScope n_need_word ["word"] (defScope s_need_word) := ⟨(by kernel_rfl), (by kernel_rfl), (by kernel_rfl), by decide +kernel, rfl, by decide +kernel, by decide +kernel⟩
theorem pu_m_need_word (ds : List D) : Pu (m_need_word ds) := pu_outM (f := f_need_word) (n := 1) (pu_sIf (pu_bNot (pu_bTru (pu_dFnN pu_m_is_word (pu_aCons (pu_dVar 0) (pu_aNil))))) (pu_sNever) (pu_sNil)) ds
theorem ok_need_word (Y : Hy K mg) : DefOk P w K mg base 4 "need_word" 1 m_need_word := by
  obtain ⟨f, fd, F, hm, hb⟩ := Y.d_need_word
  exact def_ok F hm hb sc_need_word 1 rfl (by decide) fun cdv A outer s H E G => (dss_one (ds_if (dt_not (dt_val (de_call G (ok_is_word Y) (by decide) (gl_of (by kernel_rfl)) (da_cons (de_var 0 rfl (vis_of (by kernel_rfl)) (by kernel_rfl) (by kernel_rfl)) (da_nil)) (by kernel_rfl)))) (dss_one (ds_never)) (dss_nil)))
def n_need_words : List Str := ["words", "word"]
def f_need_words : Sm := sSeq (sIf (bOr (bNot (bTru (dFnN 1 m_is_row (aCons (dVar 0) (aNil))))) (bOr (bNot (bTst (dChain leD leD (dC (.int 1)) (dBi lenD (aCons (dVar 0) (aNil))) (dC (.int 15))))) (bNot (bTru (dBi allD (aCons (dLc [1] (iSeq (dVar 0)) (gN 1) (bYes) (dFnN 1 m_is_word (aCons (dVar 1) (aNil)))) (aNil))))))) (sNever) (sNil)) (sIf (bTru (dBi anyD (aCons (dLc [1] (iSeq (dVar 0)) (gN 1) (bYes) (bin2 neD (dBi lenD (aCons (bin2 ixD (dVar 1) (dC (.int 1))) (aNil))) (dBi lenD (aCons (bin2 ixD (bin2 ixD (dVar 0) (dC (.int 0))) (dC (.int 1))) (aNil))))) (aNil)))) (sNever) (sNil))
def m_need_words : List D → M D := outM f_need_words 2
theorem sc_need_words : FnScope n_need_words ["words"] (defScope s_need_words) := ⟨(by kernel_rfl), (by kernel_rfl), (by kernel_rfl), by decide +kernel, rfl, by decide +kernel, by decide +kernel⟩
theorem pu_m_need_words (ds : List D) : Pu (m_need_words ds) := pu_outM (f := f_need_words) (n := 2) (pu_sSeq (pu_sIf (pu_bOr (pu_bNot (pu_bTru (pu_dFnN pu_m_is_row (pu_aCons (pu_dVar 0) (pu_aNil))))) (pu_bOr (pu_bNot (pu_bTst (pu_dChain (pu_dC (.int 1)) (pu_dBi (pu_aCons (pu_dVar 0) (pu_aNil))) (pu_dC (.int 15))))) (pu_bNot (pu_bTru (pu_dBi (pu_aCons (pu_dLc (pu_iSeq (pu_dVar 0)) (pu_bYes) (pu_dFnN pu_m_is_word (pu_aCons (pu_dVar 1) (pu_aNil)))) (pu_aNil))))))) (pu_sNever) (pu_sNil)) (pu_sIf (pu_bTru (pu_dBi (pu_aCons (pu_dLc (pu_iSeq (pu_dVar 0)) (pu_bYes) (pu_bin2 (pu_dBi (pu_aCons (pu_bin2 (pu_dVar 1) (pu_dC (.int 1))) (pu_aNil))) (pu_dBi (pu_aCons (pu_bin2 (pu_bin2 (pu_dVar 0) (pu_dC (.int 0))) (pu_dC (.int 1))) (pu_aNil))))) (pu_aNil)))) (pu_sNever) (pu_sNil))) ds
theorem ok_need_words (Y : Hy K mg) : DefOk P w K mg base 4 "need_words" 1 m_need_words := by
  obtain ⟨f, fd, F, hm, hb⟩ := Y.d_need_words
  exact def_ok F hm hb sc_need_words 1 rfl (by decide) fun cdv A outer s H E G => (dss_cons (ds_if (PW.pt (dw_or (dt_not (dt_val (de_call G (ok_is_row Y) (by decide) (gl_of (by kernel_rfl)) (da_cons (de_var 0 rfl (vis_of (by kernel_rfl)) (by kernel_rfl) (by kernel_rfl)) (da_nil)) (by kernel_rfl)))) (dw_or (dt_not (dt_chain od_le od_le (de_int) (de_bi cd_len (gl_of (by kernel_rfl)) Y.b_len bt_len (da_cons (de_var 0 rfl (vis_of (by kernel_rfl)) (by kernel_rfl) (by kernel_rfl)) (da_nil)) (by decide) (by kernel_rfl)) (de_gint (gl_of (by kernel_rfl)) Y.c_MOST_WORDS (by kernel_rfl)))) (dw_or1 (dt_not (dt_val (de_bi (cd_all G.calm) (gl_of (by kernel_rfl)) Y.b_all bt_all (da_cons (de_lc (own := [("word", 1)]) G (di_seq (de_var 0 rfl (vis_of (by kernel_rfl)) (by kernel_rfl) (by kernel_rfl))) (by kernel_rfl) rfl (fun _ _ _ _ _ => dg_name 1 (Good.blk G _ _ _ _ _).nd rfl (loc_of (by kernel_rfl)) (.inr (by kernel_rfl))) (fun _ _ _ _ _ => dts_nil) (fun _ _ _ _ _ => de_call (Good.blk G _ _ _ _ _) (ok_is_word Y) (by decide) (gl_of (by kernel_rfl)) (da_cons (de_var 1 rfl (vis_of (by kernel_rfl)) (by kernel_rfl) (by kernel_rfl)) (da_nil)) (by kernel_rfl))) (da_nil)) (by decide) (by kernel_rfl)))))))) (dss_one (ds_never)) (dss_nil)) (dss_one (ds_if (dt_val (de_bi (cd_any G.calm) (gl_of (by kernel_rfl)) Y.b_any bt_any (da_cons (de_lc (own := [("word", 1)]) G (di_seq (de_var 0 rfl (vis_of (by kernel_rfl)) (by kernel_rfl) (by kernel_rfl))) (by kernel_rfl) rfl (fun _ _ _ _ _ => dg_name 1 (Good.blk G _ _ _ _ _).nd rfl (loc_of (by kernel_rfl)) (.inr (by kernel_rfl))) (fun _ _ _ _ _ => dts_nil) (fun _ _ _ _ _ => de_cmp (od_ne (Good.blk G _ _ _ _ _).room.units) (de_bi cd_len (gl_of (by kernel_rfl)) Y.b_len bt_len (da_cons (de_ix (de_var 1 rfl (vis_of (by kernel_rfl)) (by kernel_rfl) (by kernel_rfl)) (de_int) (fun _ _ => rfl)) (da_nil)) (by decide) (by kernel_rfl)) (de_bi cd_len (gl_of (by kernel_rfl)) Y.b_len bt_len (da_cons (de_ix (de_ix (de_var 0 rfl (vis_of (by kernel_rfl)) (by kernel_rfl) (by kernel_rfl)) (de_int) (fun _ _ => rfl)) (de_int) (fun _ _ => rfl)) (da_nil)) (by decide) (by kernel_rfl)) rfl)) (da_nil)) (by decide) (by kernel_rfl))) (dss_one (ds_never)) (dss_nil))))
def n_code_of : List Str := ["word", "at", "letter"]
def f_code_of : Sm := sRet (dBi sumD (aCons (dLc [1, 2] (iEnm (bin2 ixD (dVar 0) (dC (.int 1)))) (gTp 2 (gsCons (gN 1) (gsCons (gN 2) (gsNil)))) (bYes) (bin2 shlD (dMtS (fun z xs => idx1abc (.str z) xs) (dC (.str "1abc")) (aCons (dVar 2) aNil)) (bin2 mulD (dC (.int 2)) (dVar 1)))) (aNil)))
def m_code_of : List D → M D := outM f_code_of 3
theorem sc_code_of : FnScope n_code_of ["word"] (defScope s_code_of) := ⟨(by kernel_rfl), (by kernel_rfl), (by kernel_rfl), by decide +kernel, rfl, by decide +kernel, by decide +kernel⟩
theorem pu_m_code_of (ds : List D) : Pu (m_code_of ds) := pu_outM (f := f_code_of) (n := 3) (pu_sRet (pu_dBi (pu_aCons (pu_dLc (pu_iEnm (pu_bin2 (pu_dVar 0) (pu_dC (.int 1)))) (pu_bYes) (pu_bin2 (pu_dMtS (pu_dC (.str "1abc")) (pu_aCons (pu_dVar 2) (pu_aNil))) (pu_bin2 (pu_dC (.int 2)) (pu_dVar 1)))) (pu_aNil)))) ds
theorem ok_code_of (Y : Hy K mg) : DefOk P w K mg base 1 "code_of" 1 m_code_of := by
  obtain ⟨f, fd, F, hm, hb⟩ := Y.d_code_of
  exact def_ok F hm hb sc_code_of 1 rfl (by decide) fun cdv A outer s H E G => (dss_one (ds_ret (de_bi (cd_sum G.calm) (gl_of (by kernel_rfl)) Y.b_sum bt_sum (da_cons (de_lc (own := [("at", 1), ("letter", 2)]) G (di_enum (gl_of (by kernel_rfl)) Y.b_enumerate (de_ix (de_var 0 rfl (vis_of (by kernel_rfl)) (by kernel_rfl) (by kernel_rfl)) (de_int) (fun _ _ => rfl))) (by kernel_rfl) rfl (fun _ _ _ _ _ => dg_tup 2 (Good.blk G _ _ _ _ _).calm (dgs_cons (dg_name 1 (Good.blk G _ _ _ _ _).nd rfl (loc_of (by kernel_rfl)) (.inr (by kernel_rfl))) (dgs_cons (dg_name 2 (Good.blk G _ _ _ _ _).nd rfl (loc_of (by kernel_rfl)) (.inr (by kernel_rfl))) (dgs_nil)))) (fun _ _ _ _ _ => dts_nil) (fun _ _ _ _ _ => de_op od_shl (de_index (Good.blk G _ _ _ _ _) (de_gstr (gl_of (by kernel_rfl)) Y.c_LETTERS (by kernel_rfl)) (de_var 2 rfl (vis_of (by kernel_rfl)) (by kernel_rfl) (by kernel_rfl))) (de_op od_mul (de_int) (de_var 1 rfl (vis_of (by kernel_rfl)) (by kernel_rfl) (by kernel_rfl))))) (da_nil)) (by decide) (by kernel_rfl))))
def n_letters_of : List Str := ["code", "length", "at"]
def f_letters_of : Sm := sRet (dMtS joinS (dC (.str "")) (aCons (dLc [2] (iArgs rng1 (aCons (dVar 1) (aNil))) (gN 2) (bYes) (bin2 ixD (dC (.str "1abc")) (bin2 andD (bin2 shrD (dVar 0) (bin2 mulD (dC (.int 2)) (dVar 2))) (dC (.int 3))))) aNil))
def m_letters_of : List D → M D := outM f_letters_of 3
theorem sc_letters_of : FnScope n_letters_of ["code", "length"] (defScope s_letters_of) := ⟨(by kernel_rfl), (by kernel_rfl), (by kernel_rfl), by decide +kernel, rfl, by decide +kernel, by decide +kernel⟩
theorem pu_m_letters_of (ds : List D) : Pu (m_letters_of ds) := pu_outM (f := f_letters_of) (n := 3) (pu_sRet (pu_dMtS (pu_dC (.str "")) (pu_aCons (pu_dLc (pu_iArgs (pu_aCons (pu_dVar 1) (pu_aNil))) (pu_bYes) (pu_bin2 (pu_dC (.str "1abc")) (pu_bin2 (pu_bin2 (pu_dVar 0) (pu_bin2 (pu_dC (.int 2)) (pu_dVar 2))) (pu_dC (.int 3))))) (pu_aNil)))) ds
theorem ok_letters_of (Y : Hy K mg) : DefOk P w K mg base 1 "letters_of" 2 m_letters_of := by
  obtain ⟨f, fd, F, hm, hb⟩ := Y.d_letters_of
  exact def_ok F hm hb sc_letters_of 2 rfl (by decide) fun cdv A outer s H E G => (dss_one (ds_ret (de_join (de_str) (de_lc (own := [("at", 2)]) G (di_rng1 (gl_of (by kernel_rfl)) Y.b_range (da_cons (de_var 1 rfl (vis_of (by kernel_rfl)) (by kernel_rfl) (by kernel_rfl)) (da_nil))) (by kernel_rfl) rfl (fun _ _ _ _ _ => dg_name 2 (Good.blk G _ _ _ _ _).nd rfl (loc_of (by kernel_rfl)) (.inr (by kernel_rfl))) (fun _ _ _ _ _ => dts_nil) (fun _ _ _ _ _ => de_ix (de_gstr (gl_of (by kernel_rfl)) Y.c_LETTERS (by kernel_rfl)) (de_op od_and (de_op od_shr (de_var 0 rfl (vis_of (by kernel_rfl)) (by kernel_rfl) (by kernel_rfl)) (de_op od_mul (de_int) (de_var 2 rfl (vis_of (by kernel_rfl)) (by kernel_rfl) (by kernel_rfl)))) (de_int)) (fun _ _ => rfl))))))
def n_is_crossed : List Str := ["one", "other"]
def f_is_crossed : Sm := sRet (dFnN 1 m_is_odd (aCons (bin2 andD (bin2 andD (bin2 shrD (dVar 0) (dC (.int 1))) (dVar 1)) (dC (.int 5592405))) (aNil)))
def m_is_crossed : List D → M D := outM f_is_crossed 2
theorem sc_is_crossed : FnScope n_is_crossed ["one", "other"] (defScope s_is_crossed) := ⟨(by kernel_rfl), (by kernel_rfl), (by kernel_rfl), by decide +kernel, rfl, by decide +kernel, by decide +kernel⟩
theorem pu_m_is_crossed (ds : List D) : Pu (m_is_crossed ds) := pu_outM (f := f_is_crossed) (n := 2) (pu_sRet (pu_dFnN pu_m_is_odd (pu_aCons (pu_bin2 (pu_bin2 (pu_bin2 (pu_dVar 0) (pu_dC (.int 1))) (pu_dVar 1)) (pu_dC (.int 5592405))) (pu_aNil)))) ds
theorem ok_is_crossed (Y : Hy K mg) : DefOk P w K mg base 2 "is_crossed" 2 m_is_crossed := by
  obtain ⟨f, fd, F, hm, hb⟩ := Y.d_is_crossed
  exact def_ok F hm hb sc_is_crossed 2 rfl (by decide) fun cdv A outer s H E G => (dss_one (ds_ret (de_call G (ok_is_odd Y) (by decide) (gl_of (by kernel_rfl)) (da_cons (de_op od_and (de_op od_and (de_op od_shr (de_var 0 rfl (vis_of (by kernel_rfl)) (by kernel_rfl) (by kernel_rfl)) (de_int)) (de_var 1 rfl (vis_of (by kernel_rfl)) (by kernel_rfl) (by kernel_rfl))) (de_gint (gl_of (by kernel_rfl)) Y.c_A_FIGURES (by kernel_rfl))) (da_nil)) (by kernel_rfl))))
def n_is_past : List Str := ["one", "other"]
def f_is_past : Sm := sRet (bin2 eqD (dFnN 2 m_is_crossed (aCons (dVar 0) (aCons (dVar 1) (aNil)))) (dFnN 2 m_is_crossed (aCons (dVar 1) (aCons (dVar 0) (aNil)))))
def m_is_past : List D → M D := outM f_is_past 2
theorem sc_is_past : FnScope n_is_past ["one", "other"] (defScope s_is_past) := ⟨(by kernel_rfl), (by kernel_rfl), (by kernel_rfl), by decide +kernel, rfl, by decide +kernel, by decide +kernel⟩
theorem pu_m_is_past (ds : List D) : Pu (m_is_past ds) := pu_outM (f := f_is_past) (n := 2) (pu_sRet (pu_bin2 (pu_dFnN pu_m_is_crossed (pu_aCons (pu_dVar 0) (pu_aCons (pu_dVar 1) (pu_aNil)))) (pu_dFnN pu_m_is_crossed (pu_aCons (pu_dVar 1) (pu_aCons (pu_dVar 0) (pu_aNil)))))) ds
theorem ok_is_past (Y : Hy K mg) : DefOk P w K mg base 3 "is_past" 2 m_is_past := by
  obtain ⟨f, fd, F, hm, hb⟩ := Y.d_is_past
  exact def_ok F hm hb sc_is_past 2 rfl (by decide) fun cdv A outer s H E G => (dss_one (ds_ret (de_cmp (od_eq G.room.units) (de_call G (ok_is_crossed Y) (by decide) (gl_of (by kernel_rfl)) (da_cons (de_var 0 rfl (vis_of (by kernel_rfl)) (by kernel_rfl) (by kernel_rfl)) (da_cons (de_var 1 rfl (vis_of (by kernel_rfl)) (by kernel_rfl) (by kernel_rfl)) (da_nil))) (by kernel_rfl)) (de_call G (ok_is_crossed Y) (by decide) (gl_of (by kernel_rfl)) (da_cons (de_var 1 rfl (vis_of (by kernel_rfl)) (by kernel_rfl) (by kernel_rfl)) (da_cons (de_var 0 rfl (vis_of (by kernel_rfl)) (by kernel_rfl) (by kernel_rfl)) (da_nil))) (by kernel_rfl)) rfl)))
def n_put_of : List Str := ["one", "other", "first", "second", "sign"]
def f_put_of : Sm := sSeq (sPar 2 3 (aCons (dFnN 1 m_code_of (aCons (dVar 0) (aNil))) (aCons (dFnN 1 m_code_of (aCons (dVar 1) (aNil))) (aNil)))) (sSeq (sSet 4 (dIf (bTru (dFnN 2 m_is_crossed (aCons (dVar 2) (aCons (dVar 3) (aNil))))) (bin2 mulD (un1 negD (bin2 ixD (dVar 0) (dC (.int 0)))) (bin2 ixD (dVar 1) (dC (.int 0)))) (bin2 mulD (bin2 ixD (dVar 0) (dC (.int 0))) (bin2 ixD (dVar 1) (dC (.int 0)))))) (sRet (dTup (aCons (dVar 4) (aCons (dFnN 2 m_letters_of (aCons (bin2 xorD (dVar 2) (dVar 3)) (aCons (dBi lenD (aCons (bin2 ixD (dVar 0) (dC (.int 1))) (aNil))) (aNil)))) (aNil))))))
def m_put_of : List D → M D := outM f_put_of 5
theorem sc_put_of : FnScope n_put_of ["one", "other"] (defScope s_put_of) := ⟨(by kernel_rfl), (by kernel_rfl), (by kernel_rfl), by decide +kernel, rfl, by decide +kernel, by decide +kernel⟩
theorem pu_m_put_of (ds : List D) : Pu (m_put_of ds) := pu_outM (f := f_put_of) (n := 5) (pu_sSeq (pu_sPar 2 3 (pu_aCons (pu_dFnN pu_m_code_of (pu_aCons (pu_dVar 0) (pu_aNil))) (pu_aCons (pu_dFnN pu_m_code_of (pu_aCons (pu_dVar 1) (pu_aNil))) (pu_aNil)))) (pu_sSeq (pu_sSet 4 (pu_dIf (pu_bTru (pu_dFnN pu_m_is_crossed (pu_aCons (pu_dVar 2) (pu_aCons (pu_dVar 3) (pu_aNil))))) (pu_bin2 (pu_un1 (pu_bin2 (pu_dVar 0) (pu_dC (.int 0)))) (pu_bin2 (pu_dVar 1) (pu_dC (.int 0)))) (pu_bin2 (pu_bin2 (pu_dVar 0) (pu_dC (.int 0))) (pu_bin2 (pu_dVar 1) (pu_dC (.int 0)))))) (pu_sRet (pu_dTup (pu_aCons (pu_dVar 4) (pu_aCons (pu_dFnN pu_m_letters_of (pu_aCons (pu_bin2 (pu_dVar 2) (pu_dVar 3)) (pu_aCons (pu_dBi (pu_aCons (pu_bin2 (pu_dVar 0) (pu_dC (.int 1))) (pu_aNil))) (pu_aNil)))) (pu_aNil))))))) ds
theorem ok_put_of (Y : Hy K mg) : DefOk P w K mg base 3 "put_of" 2 m_put_of := by
  obtain ⟨f, fd, F, hm, hb⟩ := Y.d_put_of
  exact def_ok F hm hb sc_put_of 2 rfl (by decide) fun cdv A outer s H E G => (dss_cons (ds_par 2 3 G rfl rfl (by decide) (by kernel_rfl) (by kernel_rfl) (da_cons (de_call G (ok_code_of Y) (by decide) (gl_of (by kernel_rfl)) (da_cons (de_var 0 rfl (vis_of (by kernel_rfl)) (by kernel_rfl) (by kernel_rfl)) (da_nil)) (by kernel_rfl)) (da_cons (de_call G (ok_code_of Y) (by decide) (gl_of (by kernel_rfl)) (da_cons (de_var 1 rfl (vis_of (by kernel_rfl)) (by kernel_rfl) (by kernel_rfl)) (da_nil)) (by kernel_rfl)) (da_nil))) (by kernel_rfl)) (dss_cons (ds_set 4 G.nd rfl (loc_of (by kernel_rfl)) (de_if (dt_val (de_call G (ok_is_crossed Y) (by decide) (gl_of (by kernel_rfl)) (da_cons (de_var 2 rfl (vis_of (by kernel_rfl)) (by kernel_rfl) (by kernel_rfl)) (da_cons (de_var 3 rfl (vis_of (by kernel_rfl)) (by kernel_rfl) (by kernel_rfl)) (da_nil))) (by kernel_rfl))) (de_op od_mul (de_neg (de_ix (de_var 0 rfl (vis_of (by kernel_rfl)) (by kernel_rfl) (by kernel_rfl)) (de_int) (fun _ _ => rfl))) (de_ix (de_var 1 rfl (vis_of (by kernel_rfl)) (by kernel_rfl) (by kernel_rfl)) (de_int) (fun _ _ => rfl))) (de_op od_mul (de_ix (de_var 0 rfl (vis_of (by kernel_rfl)) (by kernel_rfl) (by kernel_rfl)) (de_int) (fun _ _ => rfl)) (de_ix (de_var 1 rfl (vis_of (by kernel_rfl)) (by kernel_rfl) (by kernel_rfl)) (de_int) (fun _ _ => rfl))))) (dss_one (ds_ret (de_tup (da_cons (de_var 4 rfl (vis_of (by kernel_rfl)) (by kernel_rfl) (by kernel_rfl)) (da_cons (de_call G (ok_letters_of Y) (by decide) (gl_of (by kernel_rfl)) (da_cons (de_op od_xor (de_var 2 rfl (vis_of (by kernel_rfl)) (by kernel_rfl) (by kernel_rfl)) (de_var 3 rfl (vis_of (by kernel_rfl)) (by kernel_rfl) (by kernel_rfl))) (da_cons (de_bi cd_len (gl_of (by kernel_rfl)) Y.b_len bt_len (da_cons (de_ix (de_var 0 rfl (vis_of (by kernel_rfl)) (by kernel_rfl) (by kernel_rfl)) (de_int) (fun _ _ => rfl)) (da_nil)) (by decide) (by kernel_rfl)) (da_nil))) (by kernel_rfl)) (da_nil))))))))
def n_product_of : List Str := ["words", "found", "word"]
def f_product_of : Sm := sSeq (sSet 1 (bin2 ixD (dVar 0) (dC (.int 0)))) (sSeq (sFor (gN 2) (iSeq (dSl (dVar 0) (pAt (dC (.int 1))) (pNo))) (sSet 1 (dFnN 2 m_put_of (aCons (dVar 1) (aCons (dVar 2) (aNil)))))) (sRet (dVar 1)))
def m_product_of : List D → M D := outM f_product_of 3
theorem sc_product_of : FnScope n_product_of ["words"] (defScope s_product_of) := ⟨(by kernel_rfl), (by kernel_rfl), (by kernel_rfl), by decide +kernel, rfl, by decide +kernel, by decide +kernel⟩
theorem pu_m_product_of (ds : List D) : Pu (m_product_of ds) := pu_outM (f := f_product_of) (n := 3) (pu_sSeq (pu_sSet 1 (pu_bin2 (pu_dVar 0) (pu_dC (.int 0)))) (pu_sSeq (pu_sFor (pu_iSeq (pu_dSl (pu_dVar 0) (pu_pAt (pu_dC (.int 1))) (pu_pNo))) (pu_sSet 1 (pu_dFnN pu_m_put_of (pu_aCons (pu_dVar 1) (pu_aCons (pu_dVar 2) (pu_aNil)))))) (pu_sRet (pu_dVar 1)))) ds
theorem ok_product_of (Y : Hy K mg) : DefOk P w K mg base 4 "product_of" 1 m_product_of := by
  obtain ⟨f, fd, F, hm, hb⟩ := Y.d_product_of
  exact def_ok F hm hb sc_product_of 1 rfl (by decide) fun cdv A outer s H E G => (dss_cons (ds_set 1 G.nd rfl (loc_of (by kernel_rfl)) (de_ix (de_var 0 rfl (vis_of (by kernel_rfl)) (by kernel_rfl) (by kernel_rfl)) (de_int) (fun _ _ => rfl))) (dss_cons (ds_for G (di_seq (de_slice (de_var 0 rfl (vis_of (by kernel_rfl)) (by kernel_rfl) (by kernel_rfl)) (dp_at (de_int)) (dp_no))) (dg_name 2 G.nd rfl (loc_of (by kernel_rfl)) (.inl rfl)) (dss_one (ds_set 1 G.nd rfl (loc_of (by kernel_rfl)) (de_call G (ok_put_of Y) (by decide) (gl_of (by kernel_rfl)) (da_cons (de_var 1 rfl (vis_of (by kernel_rfl)) (by kernel_rfl) (by kernel_rfl)) (da_cons (de_var 2 rfl (vis_of (by kernel_rfl)) (by kernel_rfl) (by kernel_rfl)) (da_nil))) (by kernel_rfl))))) (dss_one (ds_ret (de_var 1 rfl (vis_of (by kernel_rfl)) (by kernel_rfl) (by kernel_rfl))))))
def n_past_of : List Str := ["one", "other"]
def f_past_of : Sm := sRet (dFnN 2 m_is_past (aCons (dFnN 1 m_code_of (aCons (dVar 0) (aNil))) (aCons (dFnN 1 m_code_of (aCons (dVar 1) (aNil))) (aNil))))
def m_past_of : List D → M D := outM f_past_of 2
theorem sc_past_of : FnScope n_past_of ["one", "other"] (defScope s_past_of) := ⟨(by kernel_rfl), (by kernel_rfl), (by kernel_rfl), by decide +kernel, rfl, by decide +kernel, by decide +kernel⟩
theorem pu_m_past_of (ds : List D) : Pu (m_past_of ds) := pu_outM (f := f_past_of) (n := 2) (pu_sRet (pu_dFnN pu_m_is_past (pu_aCons (pu_dFnN pu_m_code_of (pu_aCons (pu_dVar 0) (pu_aNil))) (pu_aCons (pu_dFnN pu_m_code_of (pu_aCons (pu_dVar 1) (pu_aNil))) (pu_aNil))))) ds
theorem ok_past_of (Y : Hy K mg) : DefOk P w K mg base 4 "past_of" 2 m_past_of := by
  obtain ⟨f, fd, F, hm, hb⟩ := Y.d_past_of
  exact def_ok F hm hb sc_past_of 2 rfl (by decide) fun cdv A outer s H E G => (dss_one (ds_ret (de_call G (ok_is_past Y) (by decide) (gl_of (by kernel_rfl)) (da_cons (de_call G (ok_code_of Y) (by decide) (gl_of (by kernel_rfl)) (da_cons (de_var 0 rfl (vis_of (by kernel_rfl)) (by kernel_rfl) (by kernel_rfl)) (da_nil)) (by kernel_rfl)) (da_cons (de_call G (ok_code_of Y) (by decide) (gl_of (by kernel_rfl)) (da_cons (de_var 1 rfl (vis_of (by kernel_rfl)) (by kernel_rfl) (by kernel_rfl)) (da_nil)) (by kernel_rfl)) (da_nil))) (by kernel_rfl))))
def n_is_turning : List Str := ["word"]
def f_is_turning : Sm := sRet (bin2 eqD (bin2 modD (dMtS cntS (bin2 ixD (dVar 0) (dC (.int 1))) (aCons (dC (.str "c")) aNil)) (dC (.int 2))) (dC (.int 0)))
def m_is_turning : List D → M D := outM f_is_turning 1
theorem sc_is_turning : FnScope n_is_turning ["word"] (defScope s_is_turning) := ⟨(by kernel_rfl), (by kernel_rfl), (by kernel_rfl), by decide +kernel, rfl, by decide +kernel, by decide +kernel⟩
theorem pu_m_is_turning (ds : List D) : Pu (m_is_turning ds) := pu_outM (f := f_is_turning) (n := 1) (pu_sRet (pu_bin2 (pu_bin2 (pu_dMtS (pu_bin2 (pu_dVar 0) (pu_dC (.int 1))) (pu_aCons (pu_dC (.str "c")) (pu_aNil))) (pu_dC (.int 2))) (pu_dC (.int 0)))) ds
theorem ok_is_turning (Y : Hy K mg) : DefOk P w K mg base 1 "is_turning" 1 m_is_turning := by
  obtain ⟨f, fd, F, hm, hb⟩ := Y.d_is_turning
  exact def_ok F hm hb sc_is_turning 1 rfl (by decide) fun cdv A outer s H E G => (dss_one (ds_ret (de_cmp (od_eq G.room.units) (de_op od_mod (de_count (de_ix (de_var 0 rfl (vis_of (by kernel_rfl)) (by kernel_rfl) (by kernel_rfl)) (de_int) (fun _ _ => rfl)) (de_str)) (de_int)) (de_int) rfl)))
def n_need_length : List Str := ["length"]
def f_need_length : Sm := sIf (bNot (bTru (dFnN 3 m_is_between (aCons (dVar 0) (aCons (dC (.int 1)) (aCons (dC (.int 12)) (aNil))))))) (sNever) (sNil)
def m_need_length : List D → M D := outM f_need_length 1
theorem sc_need_length : FnScope n_need_length ["length"] (defScope s_need_length) := ⟨(by kernel_rfl), (by kernel_rfl), (by kernel_rfl), by decide +kernel, rfl, by decide +kernel, by decide +kernel⟩
theorem pu_m_need_length (ds : List D) : Pu (m_need_length ds) := pu_outM (f := f_need_length) (n := 1) (pu_sIf (pu_bNot (pu_bTru (pu_dFnN pu_m_is_between (pu_aCons (pu_dVar 0) (pu_aCons (pu_dC (.int 1)) (pu_aCons (pu_dC (.int 12)) (pu_aNil))))))) (pu_sNever) (pu_sNil)) ds
theorem ok_need_length (Y : Hy K mg) : DefOk P w K mg base 3 "need_length" 1 m_need_length := by
  obtain ⟨f, fd, F, hm, hb⟩ := Y.d_need_length
  exact def_ok F hm hb sc_need_length 1 rfl (by decide) fun cdv A outer s H E G => (dss_one (ds_if (dt_not (dt_val (de_call G (ok_is_between Y) (by decide) (gl_of (by kernel_rfl)) (da_cons (de_var 0 rfl (vis_of (by kernel_rfl)) (by kernel_rfl) (by kernel_rfl)) (da_cons (de_int) (da_cons (de_gint (gl_of (by kernel_rfl)) Y.c_MOST_LETTERS (by kernel_rfl)) (da_nil)))) (by kernel_rfl)))) (dss_one (ds_never)) (dss_nil)))
def n_plain_of : List Str := ["length", "spots", "place", "letter"]
def f_plain_of : Sm := sSeq (sSet 1 (dLc2 [2, 3] [3] (iArgs rng1 (aCons (dVar 0) (aNil))) (gN 2) (bYes) (iSeq (dC (.str "ab"))) (gN 3) (bYes) (dTup (aCons (dVar 2) (aCons (dVar 3) (aNil)))))) (sRet (dLc [2, 3] (iSeq (dVar 1)) (gTp 2 (gsCons (gN 2) (gsCons (gN 3) (gsNil)))) (bYes) (dTup (aCons (dC (.int 1)) (aCons (bin2 addD (bin2 addD (bin2 mulD (dC (.str "1")) (dVar 2)) (dVar 3)) (bin2 mulD (dC (.str "1")) (bin2 subD (bin2 subD (dVar 0) (dVar 2)) (dC (.int 1))))) (aNil))))))
def m_plain_of : List D → M D := outM f_plain_of 4
theorem sc_plain_of : FnScope n_plain_of ["length"] (defScope s_plain_of) := ⟨(by kernel_rfl), (by kernel_rfl), (by kernel_rfl), by decide +kernel, rfl, by decide +kernel, by decide +kernel⟩
theorem pu_m_plain_of (ds : List D) : Pu (m_plain_of ds) := pu_outM (f := f_plain_of) (n := 4) (pu_sSeq (pu_sSet 1 (pu_dLc2 (pu_iArgs (pu_aCons (pu_dVar 0) (pu_aNil))) (pu_bYes) (pu_iSeq (pu_dC (.str "ab"))) (pu_bYes) (pu_dTup (pu_aCons (pu_dVar 2) (pu_aCons (pu_dVar 3) (pu_aNil)))))) (pu_sRet (pu_dLc (pu_iSeq (pu_dVar 1)) (pu_bYes) (pu_dTup (pu_aCons (pu_dC (.int 1)) (pu_aCons (pu_bin2 (pu_bin2 (pu_bin2 (pu_dC (.str "1")) (pu_dVar 2)) (pu_dVar 3)) (pu_bin2 (pu_dC (.str "1")) (pu_bin2 (pu_bin2 (pu_dVar 0) (pu_dVar 2)) (pu_dC (.int 1))))) (pu_aNil))))))) ds
theorem ok_plain_of (Y : Hy K mg) : DefOk P w K mg base 1 "plain_of" 1 m_plain_of := by
  obtain ⟨f, fd, F, hm, hb⟩ := Y.d_plain_of
  exact def_ok F hm hb sc_plain_of 1 rfl (by decide) fun cdv A outer s H E G => (dss_cons (ds_setLc2 1 (own := [("place", 2), ("letter", 3)]) G rfl (by kernel_rfl) (sw_true rfl (by kernel_rfl) (by kernel_rfl) (by kernel_rfl)) (vs1 := [3]) (di_rng1 (gl_of (by kernel_rfl)) Y.b_range (da_cons (de_var 0 rfl (vis_of (by kernel_rfl)) (by kernel_rfl) (by kernel_rfl)) (da_nil))) (by kernel_rfl) rfl rfl rfl (fun _ _ _ _ _ => dg_name 2 (Good.blk G _ _ _ _ _).nd rfl (loc_of (by kernel_rfl)) (.inr (by kernel_rfl))) (fun _ _ _ _ _ => dts_nil) (fun _ _ _ _ _ => di_seq (de_str)) (fun _ _ _ _ _ => dg_name 3 (Good.blk G _ _ _ _ _).nd rfl (loc_of (by kernel_rfl)) (.inr (by kernel_rfl))) (fun _ _ _ _ _ => dts_nil) (fun _ _ _ _ _ => de_tup (da_cons (de_var 2 rfl (vis_of (by kernel_rfl)) (by kernel_rfl) (by kernel_rfl)) (da_cons (de_var 3 rfl (vis_of (by kernel_rfl)) (by kernel_rfl) (by kernel_rfl)) (da_nil))))) (dss_one (ds_ret (de_lc (own := [("place", 2), ("letter", 3)]) G (di_seq (de_var 1 rfl (vis_of (by kernel_rfl)) (by kernel_rfl) (by kernel_rfl))) (by kernel_rfl) rfl (fun _ _ _ _ _ => dg_tup 2 (Good.blk G _ _ _ _ _).calm (dgs_cons (dg_name 2 (Good.blk G _ _ _ _ _).nd rfl (loc_of (by kernel_rfl)) (.inr (by kernel_rfl))) (dgs_cons (dg_name 3 (Good.blk G _ _ _ _ _).nd rfl (loc_of (by kernel_rfl)) (.inr (by kernel_rfl))) (dgs_nil)))) (fun _ _ _ _ _ => dts_nil) (fun _ _ _ _ _ => de_tup (da_cons (de_int) (da_cons (de_op od_add (de_op od_add (de_op od_mul (de_str) (de_var 2 rfl (vis_of (by kernel_rfl)) (by kernel_rfl) (by kernel_rfl))) (de_var 3 rfl (vis_of (by kernel_rfl)) (by kernel_rfl) (by kernel_rfl))) (de_op od_mul (de_str) (de_op od_sub (de_op od_sub (de_var 0 rfl (vis_of (by kernel_rfl)) (by kernel_rfl) (by kernel_rfl)) (de_var 2 rfl (vis_of (by kernel_rfl)) (by kernel_rfl) (by kernel_rfl))) (de_int)))) (da_nil))))))))
def n_made_of : List Str := ["words", "part", "nothing", "at"]
def f_made_of : Sm := sSeq (sSet 2 (dTup (aCons (dC (.int 1)) (aCons (bin2 mulD (dC (.str "1")) (dBi lenD (aCons (bin2 ixD (bin2 ixD (dVar 0) (dC (.int 0))) (dC (.int 1))) (aNil)))) (aNil))))) (sRet (dFnN 1 m_product_of (aCons (dLst (aCons (dVar 2) (aStar (dLc [3] (iSeq (dVar 1)) (gN 3) (bYes) (bin2 ixD (dVar 0) (dVar 3))) (aNil)))) (aNil))))
def m_made_of : List D → M D := outM f_made_of 4
theorem sc_made_of : FnScope n_made_of ["words", "part"] (defScope s_made_of) := ⟨(by kernel_rfl), (by kernel_rfl), (by kernel_rfl), by decide +kernel, rfl, by decide +kernel, by decide +kernel⟩
theorem pu_m_made_of (ds : List D) : Pu (m_made_of ds) := pu_outM (f := f_made_of) (n := 4) (pu_sSeq (pu_sSet 2 (pu_dTup (pu_aCons (pu_dC (.int 1)) (pu_aCons (pu_bin2 (pu_dC (.str "1")) (pu_dBi (pu_aCons (pu_bin2 (pu_bin2 (pu_dVar 0) (pu_dC (.int 0))) (pu_dC (.int 1))) (pu_aNil)))) (pu_aNil))))) (pu_sRet (pu_dFnN pu_m_product_of (pu_aCons (pu_dLst (pu_aCons (pu_dVar 2) (pu_aStar (pu_dLc (pu_iSeq (pu_dVar 1)) (pu_bYes) (pu_bin2 (pu_dVar 0) (pu_dVar 3))) (pu_aNil)))) (pu_aNil))))) ds
theorem ok_made_of (Y : Hy K mg) : DefOk P w K mg base 5 "made_of" 2 m_made_of := by
  obtain ⟨f, fd, F, hm, hb⟩ := Y.d_made_of
  exact def_ok F hm hb sc_made_of 2 rfl (by decide) fun cdv A outer s H E G => (dss_cons (ds_set 2 G.nd rfl (loc_of (by kernel_rfl)) (de_tup (da_cons (de_int) (da_cons (de_op od_mul (de_str) (de_bi cd_len (gl_of (by kernel_rfl)) Y.b_len bt_len (da_cons (de_ix (de_ix (de_var 0 rfl (vis_of (by kernel_rfl)) (by kernel_rfl) (by kernel_rfl)) (de_int) (fun _ _ => rfl)) (de_int) (fun _ _ => rfl)) (da_nil)) (by decide) (by kernel_rfl))) (da_nil))))) (dss_one (ds_ret (de_call G (ok_product_of Y) (by decide) (gl_of (by kernel_rfl)) (da_cons (de_lst (da_cons (de_var 2 rfl (vis_of (by kernel_rfl)) (by kernel_rfl) (by kernel_rfl)) (da_star (de_lc (own := [("at", 3)]) G (di_seq (de_var 1 rfl (vis_of (by kernel_rfl)) (by kernel_rfl) (by kernel_rfl))) (by kernel_rfl) rfl (fun _ _ _ _ _ => dg_name 3 (Good.blk G _ _ _ _ _).nd rfl (loc_of (by kernel_rfl)) (.inr (by kernel_rfl))) (fun _ _ _ _ _ => dts_nil) (fun _ _ _ _ _ => de_ix (de_var 0 rfl (vis_of (by kernel_rfl)) (by kernel_rfl) (by kernel_rfl)) (de_var 3 rfl (vis_of (by kernel_rfl)) (by kernel_rfl) (by kernel_rfl)) (fun _ _ => rfl))) (da_nil)))) (da_nil)) (by kernel_rfl)))))
def n_is_crowd : List Str := ["thing", "_", "idle", "word", "at", "other"]
def f_is_crowd : Sm := sSeq (sIf (bOr (bNot (bTru (dFnN 1 m_is_row (aCons (dVar 0) (aNil))))) (bOr (bTst (bin2 eqD (dBi lenD (aCons (dVar 0) (aNil))) (dC (.int 0)))) (bNot (bTru (dBi allD (aCons (dLc [3] (iSeq (dVar 0)) (gN 3) (bYes) (dAnd (dFnN 1 m_is_word (aCons (dVar 3) (aNil))) (dFnN 1 m_is_turning (aCons (dVar 3) (aNil))))) (aNil))))))) (sRet (dC (.bl false))) (sNil)) (sSeq (sIf (bTru (dBi anyD (aCons (dLc [3] (iSeq (dVar 0)) (gN 3) (bYes) (bin2 neD (dBi lenD (aCons (bin2 ixD (dVar 3) (dC (.int 1))) (aNil))) (dBi lenD (aCons (bin2 ixD (bin2 ixD (dVar 0) (dC (.int 0))) (dC (.int 1))) (aNil))))) (aNil)))) (sRet (dC (.bl false))) (sNil)) (sSeq (sIf (bNot (bTru (dBi allD (aCons (dLc2 [4, 3, 5] [5] (iEnm (dVar 0)) (gTp 2 (gsCons (gN 4) (gsCons (gN 3) (gsNil)))) (bYes) (iSeq (dSl (dVar 0) (pNo) (pAt (dVar 4)))) (gN 5) (bYes) (dFnN 2 m_past_of (aCons (dVar 3) (aCons (dVar 5) (aNil))))) (aNil))))) (sRet (dC (.bl false))) (sNil)) (sSeq (sAsg (gTp 2 (gsCons (gN 1) (gsCons (gN 2) (gsNil)))) (dFnN 1 m_reduced (aCons (dLc [3] (iSeq (dVar 0)) (gN 3) (bYes) (dTup (aCons (dFnN 1 m_code_of (aCons (dVar 3) (aNil))) (aCons (dC (.int 0)) (aNil))))) (aNil)))) (sRet (bin2 eqD (dVar 2) (dLst (aNil)))))))
def m_is_crowd : List D → M D := outM f_is_crowd 6
theorem sc_is_crowd : FnScope n_is_crowd ["thing"] (defScope s_is_crowd) := ⟨(by kernel_rfl), (by kernel_rfl), (by kernel_rfl), by decide +kernel, rfl, by decide +kernel, by decide +kernel⟩
theorem pu_m_is_crowd (ds : List D) : Pu (m_is_crowd ds) := pu_outM (f := f_is_crowd) (n := 6) (pu_sSeq (pu_sIf (pu_bOr (pu_bNot (pu_bTru (pu_dFnN pu_m_is_row (pu_aCons (pu_dVar 0) (pu_aNil))))) (pu_bOr (pu_bTst (pu_bin2 (pu_dBi (pu_aCons (pu_dVar 0) (pu_aNil))) (pu_dC (.int 0)))) (pu_bNot (pu_bTru (pu_dBi (pu_aCons (pu_dLc (pu_iSeq (pu_dVar 0)) (pu_bYes) (pu_dAnd (pu_dFnN pu_m_is_word (pu_aCons (pu_dVar 3) (pu_aNil))) (pu_dFnN pu_m_is_turning (pu_aCons (pu_dVar 3) (pu_aNil))))) (pu_aNil))))))) (pu_sRet (pu_dC (.bl false))) (pu_sNil)) (pu_sSeq (pu_sIf (pu_bTru (pu_dBi (pu_aCons (pu_dLc (pu_iSeq (pu_dVar 0)) (pu_bYes) (pu_bin2 (pu_dBi (pu_aCons (pu_bin2 (pu_dVar 3) (pu_dC (.int 1))) (pu_aNil))) (pu_dBi (pu_aCons (pu_bin2 (pu_bin2 (pu_dVar 0) (pu_dC (.int 0))) (pu_dC (.int 1))) (pu_aNil))))) (pu_aNil)))) (pu_sRet (pu_dC (.bl false))) (pu_sNil)) (pu_sSeq (pu_sIf (pu_bNot (pu_bTru (pu_dBi (pu_aCons (pu_dLc2 (pu_iEnm (pu_dVar 0)) (pu_bYes) (pu_iSeq (pu_dSl (pu_dVar 0) (pu_pNo) (pu_pAt (pu_dVar 4)))) (pu_bYes) (pu_dFnN pu_m_past_of (pu_aCons (pu_dVar 3) (pu_aCons (pu_dVar 5) (pu_aNil))))) (pu_aNil))))) (pu_sRet (pu_dC (.bl false))) (pu_sNil)) (pu_sSeq (pu_sAsg (pu_dFnN pu_m_reduced (pu_aCons (pu_dLc (pu_iSeq (pu_dVar 0)) (pu_bYes) (pu_dTup (pu_aCons (pu_dFnN pu_m_code_of (pu_aCons (pu_dVar 3) (pu_aNil))) (pu_aCons (pu_dC (.int 0)) (pu_aNil))))) (pu_aNil)))) (pu_sRet (pu_bin2 (pu_dVar 2) (pu_dLst (pu_aNil)))))))) ds
theorem ok_is_crowd (Y : Hy K mg) : DefOk P w K mg base 5 "is_crowd" 1 m_is_crowd := by
  obtain ⟨f, fd, F, hm, hb⟩ := Y.d_is_crowd
  exact def_ok F hm hb sc_is_crowd 1 rfl (by decide) fun cdv A outer s H E G => (dss_cons (ds_if (PW.pt (dw_or (dt_not (dt_val (de_call G (ok_is_row Y) (by decide) (gl_of (by kernel_rfl)) (da_cons (de_var 0 rfl (vis_of (by kernel_rfl)) (by kernel_rfl) (by kernel_rfl)) (da_nil)) (by kernel_rfl)))) (dw_or (dt_cmp (od_eq G.room.units) (de_bi cd_len (gl_of (by kernel_rfl)) Y.b_len bt_len (da_cons (de_var 0 rfl (vis_of (by kernel_rfl)) (by kernel_rfl) (by kernel_rfl)) (da_nil)) (by decide) (by kernel_rfl)) (de_int) rfl) (dw_or1 (dt_not (dt_val (de_bi (cd_all G.calm) (gl_of (by kernel_rfl)) Y.b_all bt_all (da_cons (de_lc (own := [("word", 3)]) G (di_seq (de_var 0 rfl (vis_of (by kernel_rfl)) (by kernel_rfl) (by kernel_rfl))) (by kernel_rfl) rfl (fun _ _ _ _ _ => dg_name 3 (Good.blk G _ _ _ _ _).nd rfl (loc_of (by kernel_rfl)) (.inr (by kernel_rfl))) (fun _ _ _ _ _ => dts_nil) (fun _ _ _ _ _ => de_and (de_call (Good.blk G _ _ _ _ _) (ok_is_word Y) (by decide) (gl_of (by kernel_rfl)) (da_cons (de_var 3 rfl (vis_of (by kernel_rfl)) (by kernel_rfl) (by kernel_rfl)) (da_nil)) (by kernel_rfl)) (de_one (de_call (Good.blk G _ _ _ _ _) (ok_is_turning Y) (by decide) (gl_of (by kernel_rfl)) (da_cons (de_var 3 rfl (vis_of (by kernel_rfl)) (by kernel_rfl) (by kernel_rfl)) (da_nil)) (by kernel_rfl))))) (da_nil)) (by decide) (by kernel_rfl)))))))) (dss_one (ds_ret (de_bl))) (dss_nil)) (dss_cons (ds_if (dt_val (de_bi (cd_any G.calm) (gl_of (by kernel_rfl)) Y.b_any bt_any (da_cons (de_lc (own := [("word", 3)]) G (di_seq (de_var 0 rfl (vis_of (by kernel_rfl)) (by kernel_rfl) (by kernel_rfl))) (by kernel_rfl) rfl (fun _ _ _ _ _ => dg_name 3 (Good.blk G _ _ _ _ _).nd rfl (loc_of (by kernel_rfl)) (.inr (by kernel_rfl))) (fun _ _ _ _ _ => dts_nil) (fun _ _ _ _ _ => de_cmp (od_ne (Good.blk G _ _ _ _ _).room.units) (de_bi cd_len (gl_of (by kernel_rfl)) Y.b_len bt_len (da_cons (de_ix (de_var 3 rfl (vis_of (by kernel_rfl)) (by kernel_rfl) (by kernel_rfl)) (de_int) (fun _ _ => rfl)) (da_nil)) (by decide) (by kernel_rfl)) (de_bi cd_len (gl_of (by kernel_rfl)) Y.b_len bt_len (da_cons (de_ix (de_ix (de_var 0 rfl (vis_of (by kernel_rfl)) (by kernel_rfl) (by kernel_rfl)) (de_int) (fun _ _ => rfl)) (de_int) (fun _ _ => rfl)) (da_nil)) (by decide) (by kernel_rfl)) rfl)) (da_nil)) (by decide) (by kernel_rfl))) (dss_one (ds_ret (de_bl))) (dss_nil)) (dss_cons (ds_if (dt_not (dt_val (de_bi (cd_all G.calm) (gl_of (by kernel_rfl)) Y.b_all bt_all (da_cons (de_lc2 (vs1 := [5]) (own := [("at", 4), ("word", 3), ("other", 5)]) G (di_enum (gl_of (by kernel_rfl)) Y.b_enumerate (de_var 0 rfl (vis_of (by kernel_rfl)) (by kernel_rfl) (by kernel_rfl))) (by kernel_rfl) rfl rfl rfl (fun _ _ _ _ _ => dg_tup 2 (Good.blk G _ _ _ _ _).calm (dgs_cons (dg_name 4 (Good.blk G _ _ _ _ _).nd rfl (loc_of (by kernel_rfl)) (.inr (by kernel_rfl))) (dgs_cons (dg_name 3 (Good.blk G _ _ _ _ _).nd rfl (loc_of (by kernel_rfl)) (.inr (by kernel_rfl))) (dgs_nil)))) (fun _ _ _ _ _ => dts_nil) (fun _ _ _ _ _ => di_seq (de_slice (de_var 0 rfl (vis_of (by kernel_rfl)) (by kernel_rfl) (by kernel_rfl)) (dp_no) (dp_at (de_var 4 rfl (vis_of (by kernel_rfl)) (by kernel_rfl) (by kernel_rfl))))) (fun _ _ _ _ _ => dg_name 5 (Good.blk G _ _ _ _ _).nd rfl (loc_of (by kernel_rfl)) (.inr (by kernel_rfl))) (fun _ _ _ _ _ => dts_nil) (fun _ _ _ _ _ => de_call (Good.blk G _ _ _ _ _) (ok_past_of Y) (by decide) (gl_of (by kernel_rfl)) (da_cons (de_var 3 rfl (vis_of (by kernel_rfl)) (by kernel_rfl) (by kernel_rfl)) (da_cons (de_var 5 rfl (vis_of (by kernel_rfl)) (by kernel_rfl) (by kernel_rfl)) (da_nil))) (by kernel_rfl))) (da_nil)) (by decide) (by kernel_rfl)))) (dss_one (ds_ret (de_bl))) (dss_nil)) (dss_cons (ds_asg (de_call G (ok_reduced Y) (by decide) (gl_of (by kernel_rfl)) (da_cons (de_lc (own := [("word", 3)]) G (di_seq (de_var 0 rfl (vis_of (by kernel_rfl)) (by kernel_rfl) (by kernel_rfl))) (by kernel_rfl) rfl (fun _ _ _ _ _ => dg_name 3 (Good.blk G _ _ _ _ _).nd rfl (loc_of (by kernel_rfl)) (.inr (by kernel_rfl))) (fun _ _ _ _ _ => dts_nil) (fun _ _ _ _ _ => de_tup (da_cons (de_call (Good.blk G _ _ _ _ _) (ok_code_of Y) (by decide) (gl_of (by kernel_rfl)) (da_cons (de_var 3 rfl (vis_of (by kernel_rfl)) (by kernel_rfl) (by kernel_rfl)) (da_nil)) (by kernel_rfl)) (da_cons (de_int) (da_nil))))) (da_nil)) (by kernel_rfl)) (dg_tup 2 G.calm (dgs_cons (dg_name 1 G.nd rfl (loc_of (by kernel_rfl)) (.inl rfl)) (dgs_cons (dg_name 2 G.nd rfl (loc_of (by kernel_rfl)) (.inl rfl)) (dgs_nil))))) (dss_one (ds_ret (de_cmp (od_eq G.room.units) (de_var 2 rfl (vis_of (by kernel_rfl)) (by kernel_rfl) (by kernel_rfl)) (de_lst (da_nil)) rfl)))))))
def n_need_crowd : List Str := ["crowd"]
def f_need_crowd : Sm := sIf (bNot (bTru (dFnN 1 m_is_crowd (aCons (dVar 0) (aNil))))) (sNever) (sNil)
def m_need_crowd : List D → M D := outM f_need_crowd 1
theorem sc_need_crowd : FnScope n_need_crowd ["crowd"] (defScope s_need_crowd) := ⟨(by kernel_rfl), (by kernel_rfl), (by kernel_rfl), by decide +kernel, rfl, by decide +kernel, by decide +kernel⟩
theorem pu_m_need_crowd (ds : List D) : Pu (m_need_crowd ds) := pu_outM (f := f_need_crowd) (n := 1) (pu_sIf (pu_bNot (pu_bTru (pu_dFnN pu_m_is_crowd (pu_aCons (pu_dVar 0) (pu_aNil))))) (pu_sNever) (pu_sNil)) ds
theorem ok_need_crowd (Y : Hy K mg) : DefOk P w K mg base 6 "need_crowd" 1 m_need_crowd := by
  obtain ⟨f, fd, F, hm, hb⟩ := Y.d_need_crowd
  exact def_ok F hm hb sc_need_crowd 1 rfl (by decide) fun cdv A outer s H E G => (dss_one (ds_if (dt_not (dt_val (de_call G (ok_is_crowd Y) (by decide) (gl_of (by kernel_rfl)) (da_cons (de_var 0 rfl (vis_of (by kernel_rfl)) (by kernel_rfl) (by kernel_rfl)) (da_nil)) (by kernel_rfl)))) (dss_one (ds_never)) (dss_nil)))
def n_length_of : List Str := ["crowd"]
def f_length_of : Sm := sRet (dBi lenD (aCons (bin2 ixD (bin2 ixD (dVar 0) (dC (.int 0))) (dC (.int 1))) (aNil)))
def m_length_of : List D → M D := outM f_length_of 1
theorem sc_length_of : FnScope n_length_of ["crowd"] (defScope s_length_of) := ⟨(by kernel_rfl), (by kernel_rfl), (by kernel_rfl), by decide +kernel, rfl, by decide +kernel, by decide +kernel⟩
theorem pu_m_length_of (ds : List D) : Pu (m_length_of ds) := pu_outM (f := f_length_of) (n := 1) (pu_sRet (pu_dBi (pu_aCons (pu_bin2 (pu_bin2 (pu_dVar 0) (pu_dC (.int 0))) (pu_dC (.int 1))) (pu_aNil)))) ds
theorem ok_length_of (Y : Hy K mg) : DefOk P w K mg base 1 "length_of" 1 m_length_of := by
  obtain ⟨f, fd, F, hm, hb⟩ := Y.d_length_of
  exact def_ok F hm hb sc_length_of 1 rfl (by decide) fun cdv A outer s H E G => (dss_one (ds_ret (de_bi cd_len (gl_of (by kernel_rfl)) Y.b_len bt_len (da_cons (de_ix (de_ix (de_var 0 rfl (vis_of (by kernel_rfl)) (by kernel_rfl) (by kernel_rfl)) (de_int) (fun _ _ => rfl)) (de_int) (fun _ _ => rfl)) (da_nil)) (by decide) (by kernel_rfl))))
def n_need_own : List Str := ["crowd", "word"]
def f_need_own : Sm := sSeq (sExp (dFnN 1 m_need_crowd (aCons (dVar 0) (aNil)))) (sSeq (sExp (dFnN 1 m_need_word (aCons (dVar 1) (aNil)))) (sIf (bTst (bin2 neD (dBi lenD (aCons (bin2 ixD (dVar 1) (dC (.int 1))) (aNil))) (dFnN 1 m_length_of (aCons (dVar 0) (aNil))))) (sNever) (sNil)))
def m_need_own : List D → M D := outM f_need_own 2
theorem sc_need_own : FnScope n_need_own ["crowd", "word"] (defScope s_need_own) := ⟨(by kernel_rfl), (by kernel_rfl), (by kernel_rfl), by decide +kernel, rfl, by decide +kernel, by decide +kernel⟩
theorem pu_m_need_own (ds : List D) : Pu (m_need_own ds) := pu_outM (f := f_need_own) (n := 2) (pu_sSeq (pu_sExp (pu_dFnN pu_m_need_crowd (pu_aCons (pu_dVar 0) (pu_aNil)))) (pu_sSeq (pu_sExp (pu_dFnN pu_m_need_word (pu_aCons (pu_dVar 1) (pu_aNil)))) (pu_sIf (pu_bTst (pu_bin2 (pu_dBi (pu_aCons (pu_bin2 (pu_dVar 1) (pu_dC (.int 1))) (pu_aNil))) (pu_dFnN pu_m_length_of (pu_aCons (pu_dVar 0) (pu_aNil))))) (pu_sNever) (pu_sNil)))) ds
theorem ok_need_own (Y : Hy K mg) : DefOk P w K mg base 7 "need_own" 2 m_need_own := by
  obtain ⟨f, fd, F, hm, hb⟩ := Y.d_need_own
  exact def_ok F hm hb sc_need_own 2 rfl (by decide) fun cdv A outer s H E G => (dss_cons (ds_expr (de_call G (ok_need_crowd Y) (by decide) (gl_of (by kernel_rfl)) (da_cons (de_var 0 rfl (vis_of (by kernel_rfl)) (by kernel_rfl) (by kernel_rfl)) (da_nil)) (by kernel_rfl))) (dss_cons (ds_expr (de_call G (ok_need_word Y) (by decide) (gl_of (by kernel_rfl)) (da_cons (de_var 1 rfl (vis_of (by kernel_rfl)) (by kernel_rfl) (by kernel_rfl)) (da_nil)) (by kernel_rfl))) (dss_one (ds_if (dt_cmp (od_ne G.room.units) (de_bi cd_len (gl_of (by kernel_rfl)) Y.b_len bt_len (da_cons (de_ix (de_var 1 rfl (vis_of (by kernel_rfl)) (by kernel_rfl) (by kernel_rfl)) (de_int) (fun _ _ => rfl)) (da_nil)) (by decide) (by kernel_rfl)) (de_call G (ok_length_of Y) (by decide) (gl_of (by kernel_rfl)) (da_cons (de_var 0 rfl (vis_of (by kernel_rfl)) (by kernel_rfl) (by kernel_rfl)) (da_nil)) (by kernel_rfl)) rfl) (dss_one (ds_never)) (dss_nil)))))
def n_part_for : List Str := ["crowd", "word", "kept", "_", "left", "tag", "at", "one"]
def f_part_for : Sm := sSeq (sAsg (gTp 2 (gsCons (gN 2) (gsCons (gN 3) (gsNil)))) (dFnN 1 m_reduced (aCons (dLc [6, 7] (iEnm (dVar 0)) (gTp 2 (gsCons (gN 6) (gsCons (gN 7) (gsNil)))) (bYes) (dTup (aCons (dFnN 1 m_code_of (aCons (dVar 7) (aNil))) (aCons (bin2 shlD (dC (.int 1)) (dVar 6)) (aNil))))) (aNil)))) (sSeq (sAsg (gTp 2 (gsCons (gN 4) (gsCons (gN 5) (gsNil)))) (dFnN 2 m_brought (aCons (dVar 2) (aCons (dFnN 1 m_code_of (aCons (dVar 1) (aNil))) (aNil))))) (sRet (dIf (bTst (bin2 eqD (dVar 4) (dC (.int 0)))) (dFnN 1 m_items_of (aCons (dVar 5) (aNil))) (dC .non))))
def m_part_for : List D → M D := outM f_part_for 8
theorem sc_part_for : FnScope n_part_for ["crowd", "word"] (defScope s_part_for) := ⟨(by kernel_rfl), (by kernel_rfl), (by kernel_rfl), by decide +kernel, rfl, by decide +kernel, by decide +kernel⟩
theorem pu_m_part_for (ds : List D) : Pu (m_part_for ds) := pu_outM (f := f_part_for) (n := 8) (pu_sSeq (pu_sAsg (pu_dFnN pu_m_reduced (pu_aCons (pu_dLc (pu_iEnm (pu_dVar 0)) (pu_bYes) (pu_dTup (pu_aCons (pu_dFnN pu_m_code_of (pu_aCons (pu_dVar 7) (pu_aNil))) (pu_aCons (pu_bin2 (pu_dC (.int 1)) (pu_dVar 6)) (pu_aNil))))) (pu_aNil)))) (pu_sSeq (pu_sAsg (pu_dFnN pu_m_brought (pu_aCons (pu_dVar 2) (pu_aCons (pu_dFnN pu_m_code_of (pu_aCons (pu_dVar 1) (pu_aNil))) (pu_aNil))))) (pu_sRet (pu_dIf (pu_bTst (pu_bin2 (pu_dVar 4) (pu_dC (.int 0)))) (pu_dFnN pu_m_items_of (pu_aCons (pu_dVar 5) (pu_aNil))) (pu_dC .non))))) ds
theorem ok_part_for (Y : Hy K mg) : DefOk P w K mg base 2 "part_for" 2 m_part_for := by
  obtain ⟨f, fd, F, hm, hb⟩ := Y.d_part_for
  exact def_ok F hm hb sc_part_for 2 rfl (by decide) fun cdv A outer s H E G => (dss_cons (ds_asg (de_call G (ok_reduced Y) (by decide) (gl_of (by kernel_rfl)) (da_cons (de_lc (own := [("at", 6), ("one", 7)]) G (di_enum (gl_of (by kernel_rfl)) Y.b_enumerate (de_var 0 rfl (vis_of (by kernel_rfl)) (by kernel_rfl) (by kernel_rfl))) (by kernel_rfl) rfl (fun _ _ _ _ _ => dg_tup 2 (Good.blk G _ _ _ _ _).calm (dgs_cons (dg_name 6 (Good.blk G _ _ _ _ _).nd rfl (loc_of (by kernel_rfl)) (.inr (by kernel_rfl))) (dgs_cons (dg_name 7 (Good.blk G _ _ _ _ _).nd rfl (loc_of (by kernel_rfl)) (.inr (by kernel_rfl))) (dgs_nil)))) (fun _ _ _ _ _ => dts_nil) (fun _ _ _ _ _ => de_tup (da_cons (de_call (Good.blk G _ _ _ _ _) (ok_code_of Y) (by decide) (gl_of (by kernel_rfl)) (da_cons (de_var 7 rfl (vis_of (by kernel_rfl)) (by kernel_rfl) (by kernel_rfl)) (da_nil)) (by kernel_rfl)) (da_cons (de_op od_shl (de_int) (de_var 6 rfl (vis_of (by kernel_rfl)) (by kernel_rfl) (by kernel_rfl))) (da_nil))))) (da_nil)) (by kernel_rfl)) (dg_tup 2 G.calm (dgs_cons (dg_name 2 G.nd rfl (loc_of (by kernel_rfl)) (.inl rfl)) (dgs_cons (dg_name 3 G.nd rfl (loc_of (by kernel_rfl)) (.inl rfl)) (dgs_nil))))) (dss_cons (ds_asg (de_call G (ok_brought Y) (by decide) (gl_of (by kernel_rfl)) (da_cons (de_var 2 rfl (vis_of (by kernel_rfl)) (by kernel_rfl) (by kernel_rfl)) (da_cons (de_call G (ok_code_of Y) (by decide) (gl_of (by kernel_rfl)) (da_cons (de_var 1 rfl (vis_of (by kernel_rfl)) (by kernel_rfl) (by kernel_rfl)) (da_nil)) (by kernel_rfl)) (da_nil))) (by kernel_rfl)) (dg_tup 2 G.calm (dgs_cons (dg_name 4 G.nd rfl (loc_of (by kernel_rfl)) (.inl rfl)) (dgs_cons (dg_name 5 G.nd rfl (loc_of (by kernel_rfl)) (.inl rfl)) (dgs_nil))))) (dss_one (ds_ret (de_if (dt_cmp (od_eq G.room.units) (de_var 4 rfl (vis_of (by kernel_rfl)) (by kernel_rfl) (by kernel_rfl)) (de_int) rfl) (de_call G (ok_items_of Y) (by decide) (gl_of (by kernel_rfl)) (da_cons (de_var 5 rfl (vis_of (by kernel_rfl)) (by kernel_rfl) (by kernel_rfl)) (da_nil)) (by kernel_rfl)) (de_non))))))
def n_says_of : List Str := ["crowd", "word", "part", "one"]
def f_says_of : Sm := sSeq (sIf (bNot (bTru (dBi allD (aCons (dLc [3] (iSeq (dVar 0)) (gN 3) (bYes) (dFnN 2 m_past_of (aCons (dVar 3) (aCons (dVar 1) (aNil))))) (aNil))))) (sRet (dC .non)) (sNil)) (sSeq (sSet 2 (dFnN 2 m_part_for (aCons (dVar 0) (aCons (dVar 1) (aNil))))) (sRet (dIf (bTst (bin2 isND (dVar 2) (dC .non))) (dC (.int 0)) (bin2 mulD (bin2 ixD (dFnN 2 m_made_of (aCons (dVar 0) (aCons (dVar 2) (aNil)))) (dC (.int 0))) (bin2 ixD (dVar 1) (dC (.int 0)))))))
def m_says_of : List D → M D := outM f_says_of 4
theorem sc_says_of : FnScope n_says_of ["crowd", "word"] (defScope s_says_of) := ⟨(by kernel_rfl), (by kernel_rfl), (by kernel_rfl), by decide +kernel, rfl, by decide +kernel, by decide +kernel⟩
theorem pu_m_says_of (ds : List D) : Pu (m_says_of ds) := pu_outM (f := f_says_of) (n := 4) (pu_sSeq (pu_sIf (pu_bNot (pu_bTru (pu_dBi (pu_aCons (pu_dLc (pu_iSeq (pu_dVar 0)) (pu_bYes) (pu_dFnN pu_m_past_of (pu_aCons (pu_dVar 3) (pu_aCons (pu_dVar 1) (pu_aNil))))) (pu_aNil))))) (pu_sRet (pu_dC .non)) (pu_sNil)) (pu_sSeq (pu_sSet 2 (pu_dFnN pu_m_part_for (pu_aCons (pu_dVar 0) (pu_aCons (pu_dVar 1) (pu_aNil))))) (pu_sRet (pu_dIf (pu_bTst (pu_bin2 (pu_dVar 2) (pu_dC .non))) (pu_dC (.int 0)) (pu_bin2 (pu_bin2 (pu_dFnN pu_m_made_of (pu_aCons (pu_dVar 0) (pu_aCons (pu_dVar 2) (pu_aNil)))) (pu_dC (.int 0))) (pu_bin2 (pu_dVar 1) (pu_dC (.int 0)))))))) ds
theorem ok_says_of (Y : Hy K mg) : DefOk P w K mg base 6 "says_of" 2 m_says_of := by
  obtain ⟨f, fd, F, hm, hb⟩ := Y.d_says_of
  exact def_ok F hm hb sc_says_of 2 rfl (by decide) fun cdv A outer s H E G => (dss_cons (ds_if (dt_not (dt_val (de_bi (cd_all G.calm) (gl_of (by kernel_rfl)) Y.b_all bt_all (da_cons (de_lc (own := [("one", 3)]) G (di_seq (de_var 0 rfl (vis_of (by kernel_rfl)) (by kernel_rfl) (by kernel_rfl))) (by kernel_rfl) rfl (fun _ _ _ _ _ => dg_name 3 (Good.blk G _ _ _ _ _).nd rfl (loc_of (by kernel_rfl)) (.inr (by kernel_rfl))) (fun _ _ _ _ _ => dts_nil) (fun _ _ _ _ _ => de_call (Good.blk G _ _ _ _ _) (ok_past_of Y) (by decide) (gl_of (by kernel_rfl)) (da_cons (de_var 3 rfl (vis_of (by kernel_rfl)) (by kernel_rfl) (by kernel_rfl)) (da_cons (de_var 1 rfl (vis_of (by kernel_rfl)) (by kernel_rfl) (by kernel_rfl)) (da_nil))) (by kernel_rfl))) (da_nil)) (by decide) (by kernel_rfl)))) (dss_one (ds_ret (de_non))) (dss_nil)) (dss_cons (ds_set 2 G.nd rfl (loc_of (by kernel_rfl)) (de_call G (ok_part_for Y) (by decide) (gl_of (by kernel_rfl)) (da_cons (de_var 0 rfl (vis_of (by kernel_rfl)) (by kernel_rfl) (by kernel_rfl)) (da_cons (de_var 1 rfl (vis_of (by kernel_rfl)) (by kernel_rfl) (by kernel_rfl)) (da_nil))) (by kernel_rfl))) (dss_one (ds_ret (de_if (dt_cmp od_isN (de_var 2 rfl (vis_of (by kernel_rfl)) (by kernel_rfl) (by kernel_rfl)) (de_non) rfl) (de_int) (de_op od_mul (de_ix (de_call G (ok_made_of Y) (by decide) (gl_of (by kernel_rfl)) (da_cons (de_var 0 rfl (vis_of (by kernel_rfl)) (by kernel_rfl) (by kernel_rfl)) (da_cons (de_var 2 rfl (vis_of (by kernel_rfl)) (by kernel_rfl) (by kernel_rfl)) (da_nil))) (by kernel_rfl)) (de_int) (fun _ _ => rfl)) (de_ix (de_var 1 rfl (vis_of (by kernel_rfl)) (by kernel_rfl) (by kernel_rfl)) (de_int) (fun _ _ => rfl))))))))
def n_says : List Str := ["crowd", "word"]
def f_says : Sm := sSeq (sExp (dFnN 2 m_need_own (aCons (dVar 0) (aCons (dVar 1) (aNil))))) (sRet (dFnN 2 m_says_of (aCons (dVar 0) (aCons (dVar 1) (aNil)))))
def m_says : List D → M D := outM f_says 2
theorem sc_says : FnScope n_says ["crowd", "word"] (defScope s_says) := ⟨(by kernel_rfl), (by kernel_rfl), (by kernel_rfl), by decide +kernel, rfl, by decide +kernel, by decide +kernel⟩
theorem pu_m_says (ds : List D) : Pu (m_says ds) := pu_outM (f := f_says) (n := 2) (pu_sSeq (pu_sExp (pu_dFnN pu_m_need_own (pu_aCons (pu_dVar 0) (pu_aCons (pu_dVar 1) (pu_aNil))))) (pu_sRet (pu_dFnN pu_m_says_of (pu_aCons (pu_dVar 0) (pu_aCons (pu_dVar 1) (pu_aNil)))))) ds
theorem ok_says (Y : Hy K mg) : DefOk P w K mg base 8 "says" 2 m_says := by
  obtain ⟨f, fd, F, hm, hb⟩ := Y.d_says
  exact def_ok F hm hb sc_says 2 rfl (by decide) fun cdv A outer s H E G => (dss_cons (ds_expr (de_call G (ok_need_own Y) (by decide) (gl_of (by kernel_rfl)) (da_cons (de_var 0 rfl (vis_of (by kernel_rfl)) (by kernel_rfl) (by kernel_rfl)) (da_cons (de_var 1 rfl (vis_of (by kernel_rfl)) (by kernel_rfl) (by kernel_rfl)) (da_nil))) (by kernel_rfl))) (dss_one (ds_ret (de_call G (ok_says_of Y) (by decide) (gl_of (by kernel_rfl)) (da_cons (de_var 0 rfl (vis_of (by kernel_rfl)) (by kernel_rfl) (by kernel_rfl)) (da_cons (de_var 1 rfl (vis_of (by kernel_rfl)) (by kernel_rfl) (by kernel_rfl)) (da_nil))) (by kernel_rfl)))))
def n_plain_crowd_of : List Str := ["length", "size", "place"]
def f_plain_crowd_of : Sm := sRet (dLc [2] (iArgs rng1 (aCons (dVar 1) (aNil))) (gN 2) (bYes) (bin2 ixD (dFnN 1 m_plain_of (aCons (dVar 0) (aNil))) (bin2 mulD (dC (.int 2)) (dVar 2))))
def m_plain_crowd_of : List D → M D := outM f_plain_crowd_of 3
theorem sc_plain_crowd_of : FnScope n_plain_crowd_of ["length", "size"] (defScope s_plain_crowd_of) := ⟨(by kernel_rfl), (by kernel_rfl), (by kernel_rfl), by decide +kernel, rfl, by decide +kernel, by decide +kernel⟩
theorem pu_m_plain_crowd_of (ds : List D) : Pu (m_plain_crowd_of ds) := pu_outM (f := f_plain_crowd_of) (n := 3) (pu_sRet (pu_dLc (pu_iArgs (pu_aCons (pu_dVar 1) (pu_aNil))) (pu_bYes) (pu_bin2 (pu_dFnN pu_m_plain_of (pu_aCons (pu_dVar 0) (pu_aNil))) (pu_bin2 (pu_dC (.int 2)) (pu_dVar 2))))) ds
theorem ok_plain_crowd_of (Y : Hy K mg) : DefOk P w K mg base 2 "plain_crowd_of" 2 m_plain_crowd_of := by
  obtain ⟨f, fd, F, hm, hb⟩ := Y.d_plain_crowd_of
  exact def_ok F hm hb sc_plain_crowd_of 2 rfl (by decide) fun cdv A outer s H E G => (dss_one (ds_ret (de_lc (own := [("place", 2)]) G (di_rng1 (gl_of (by kernel_rfl)) Y.b_range (da_cons (de_var 1 rfl (vis_of (by kernel_rfl)) (by kernel_rfl) (by kernel_rfl)) (da_nil))) (by kernel_rfl) rfl (fun _ _ _ _ _ => dg_name 2 (Good.blk G _ _ _ _ _).nd rfl (loc_of (by kernel_rfl)) (.inr (by kernel_rfl))) (fun _ _ _ _ _ => dts_nil) (fun _ _ _ _ _ => de_ix (de_call (Good.blk G _ _ _ _ _) (ok_plain_of Y) (by decide) (gl_of (by kernel_rfl)) (da_cons (de_var 0 rfl (vis_of (by kernel_rfl)) (by kernel_rfl) (by kernel_rfl)) (da_nil)) (by kernel_rfl)) (de_op od_mul (de_int) (de_var 2 rfl (vis_of (by kernel_rfl)) (by kernel_rfl) (by kernel_rfl))) (fun _ _ => rfl)))))
def n_need_size : List Str := ["length", "size"]
def f_need_size : Sm := sSeq (sExp (dFnN 1 m_need_length (aCons (dVar 0) (aNil)))) (sIf (bNot (bTru (dFnN 3 m_is_between (aCons (dVar 1) (aCons (dC (.int 1)) (aCons (dVar 0) (aNil))))))) (sNever) (sNil))
def m_need_size : List D → M D := outM f_need_size 2
theorem sc_need_size : FnScope n_need_size ["length", "size"] (defScope s_need_size) := ⟨(by kernel_rfl), (by kernel_rfl), (by kernel_rfl), by decide +kernel, rfl, by decide +kernel, by decide +kernel⟩
theorem pu_m_need_size (ds : List D) : Pu (m_need_size ds) := pu_outM (f := f_need_size) (n := 2) (pu_sSeq (pu_sExp (pu_dFnN pu_m_need_length (pu_aCons (pu_dVar 0) (pu_aNil)))) (pu_sIf (pu_bNot (pu_bTru (pu_dFnN pu_m_is_between (pu_aCons (pu_dVar 1) (pu_aCons (pu_dC (.int 1)) (pu_aCons (pu_dVar 0) (pu_aNil))))))) (pu_sNever) (pu_sNil))) ds
theorem ok_need_size (Y : Hy K mg) : DefOk P w K mg base 4 "need_size" 2 m_need_size := by
  obtain ⟨f, fd, F, hm, hb⟩ := Y.d_need_size
  exact def_ok F hm hb sc_need_size 2 rfl (by decide) fun cdv A outer s H E G => (dss_cons (ds_expr (de_call G (ok_need_length Y) (by decide) (gl_of (by kernel_rfl)) (da_cons (de_var 0 rfl (vis_of (by kernel_rfl)) (by kernel_rfl) (by kernel_rfl)) (da_nil)) (by kernel_rfl))) (dss_one (ds_if (dt_not (dt_val (de_call G (ok_is_between Y) (by decide) (gl_of (by kernel_rfl)) (da_cons (de_var 1 rfl (vis_of (by kernel_rfl)) (by kernel_rfl) (by kernel_rfl)) (da_cons (de_int) (da_cons (de_var 0 rfl (vis_of (by kernel_rfl)) (by kernel_rfl) (by kernel_rfl)) (da_nil)))) (by kernel_rfl)))) (dss_one (ds_never)) (dss_nil))))
def n_plain_crowd : List Str := ["length", "size"]
def f_plain_crowd : Sm := sSeq (sExp (dFnN 2 m_need_size (aCons (dVar 0) (aCons (dVar 1) (aNil))))) (sRet (dFnN 2 m_plain_crowd_of (aCons (dVar 0) (aCons (dVar 1) (aNil)))))
def m_plain_crowd : List D → M D := outM f_plain_crowd 2
theorem sc_plain_crowd : FnScope n_plain_crowd ["length", "size"] (defScope s_plain_crowd) := ⟨(by kernel_rfl), (by kernel_rfl), (by kernel_rfl), by decide +kernel, rfl, by decide +kernel, by decide +kernel⟩
theorem pu_m_plain_crowd (ds : List D) : Pu (m_plain_crowd ds) := pu_outM (f := f_plain_crowd) (n := 2) (pu_sSeq (pu_sExp (pu_dFnN pu_m_need_size (pu_aCons (pu_dVar 0) (pu_aCons (pu_dVar 1) (pu_aNil))))) (pu_sRet (pu_dFnN pu_m_plain_crowd_of (pu_aCons (pu_dVar 0) (pu_aCons (pu_dVar 1) (pu_aNil)))))) ds
theorem ok_plain_crowd (Y : Hy K mg) : DefOk P w K mg base 5 "plain_crowd" 2 m_plain_crowd := by
  obtain ⟨f, fd, F, hm, hb⟩ := Y.d_plain_crowd
  exact def_ok F hm hb sc_plain_crowd 2 rfl (by decide) fun cdv A outer s H E G => (dss_cons (ds_expr (de_call G (ok_need_size Y) (by decide) (gl_of (by kernel_rfl)) (da_cons (de_var 0 rfl (vis_of (by kernel_rfl)) (by kernel_rfl) (by kernel_rfl)) (da_cons (de_var 1 rfl (vis_of (by kernel_rfl)) (by kernel_rfl) (by kernel_rfl)) (da_nil))) (by kernel_rfl))) (dss_one (ds_ret (de_call G (ok_plain_crowd_of Y) (by decide) (gl_of (by kernel_rfl)) (da_cons (de_var 0 rfl (vis_of (by kernel_rfl)) (by kernel_rfl) (by kernel_rfl)) (da_cons (de_var 1 rfl (vis_of (by kernel_rfl)) (by kernel_rfl) (by kernel_rfl)) (da_nil))) (by kernel_rfl)))))
def n_rank_on : List Str := ["crowd", "spots", "mask", "kept", "_", "spot", "word"]
def f_rank_on : Sm := sSeq (sSet 2 (dBi sumD (aCons (dLc [5] (iSeq (dVar 1)) (gN 5) (bYes) (bin2 shlD (dC (.int 3)) (bin2 mulD (dC (.int 2)) (dVar 5)))) (aNil)))) (sSeq (sAsg (gTp 2 (gsCons (gN 3) (gsCons (gN 4) (gsNil)))) (dFnN 1 m_reduced (aCons (dLc [6] (iSeq (dVar 0)) (gN 6) (bYes) (dTup (aCons (bin2 andD (dFnN 1 m_code_of (aCons (dVar 6) (aNil))) (dVar 2)) (aCons (dC (.int 0)) (aNil))))) (aNil)))) (sRet (dBi lenD (aCons (dVar 3) (aNil)))))
def m_rank_on : List D → M D := outM f_rank_on 7
theorem sc_rank_on : FnScope n_rank_on ["crowd", "spots"] (defScope s_rank_on) := ⟨(by kernel_rfl), (by kernel_rfl), (by kernel_rfl), by decide +kernel, rfl, by decide +kernel, by decide +kernel⟩
theorem pu_m_rank_on (ds : List D) : Pu (m_rank_on ds) := pu_outM (f := f_rank_on) (n := 7) (pu_sSeq (pu_sSet 2 (pu_dBi (pu_aCons (pu_dLc (pu_iSeq (pu_dVar 1)) (pu_bYes) (pu_bin2 (pu_dC (.int 3)) (pu_bin2 (pu_dC (.int 2)) (pu_dVar 5)))) (pu_aNil)))) (pu_sSeq (pu_sAsg (pu_dFnN pu_m_reduced (pu_aCons (pu_dLc (pu_iSeq (pu_dVar 0)) (pu_bYes) (pu_dTup (pu_aCons (pu_bin2 (pu_dFnN pu_m_code_of (pu_aCons (pu_dVar 6) (pu_aNil))) (pu_dVar 2)) (pu_aCons (pu_dC (.int 0)) (pu_aNil))))) (pu_aNil)))) (pu_sRet (pu_dBi (pu_aCons (pu_dVar 3) (pu_aNil)))))) ds
theorem ok_rank_on (Y : Hy K mg) : DefOk P w K mg base 2 "rank_on" 2 m_rank_on := by
  obtain ⟨f, fd, F, hm, hb⟩ := Y.d_rank_on
  exact def_ok F hm hb sc_rank_on 2 rfl (by decide) fun cdv A outer s H E G => (dss_cons (ds_set 2 G.nd rfl (loc_of (by kernel_rfl)) (de_bi (cd_sum G.calm) (gl_of (by kernel_rfl)) Y.b_sum bt_sum (da_cons (de_lc (own := [("spot", 5)]) G (di_seq (de_var 1 rfl (vis_of (by kernel_rfl)) (by kernel_rfl) (by kernel_rfl))) (by kernel_rfl) rfl (fun _ _ _ _ _ => dg_name 5 (Good.blk G _ _ _ _ _).nd rfl (loc_of (by kernel_rfl)) (.inr (by kernel_rfl))) (fun _ _ _ _ _ => dts_nil) (fun _ _ _ _ _ => de_op od_shl (de_int) (de_op od_mul (de_int) (de_var 5 rfl (vis_of (by kernel_rfl)) (by kernel_rfl) (by kernel_rfl))))) (da_nil)) (by decide) (by kernel_rfl))) (dss_cons (ds_asg (de_call G (ok_reduced Y) (by decide) (gl_of (by kernel_rfl)) (da_cons (de_lc (own := [("word", 6)]) G (di_seq (de_var 0 rfl (vis_of (by kernel_rfl)) (by kernel_rfl) (by kernel_rfl))) (by kernel_rfl) rfl (fun _ _ _ _ _ => dg_name 6 (Good.blk G _ _ _ _ _).nd rfl (loc_of (by kernel_rfl)) (.inr (by kernel_rfl))) (fun _ _ _ _ _ => dts_nil) (fun _ _ _ _ _ => de_tup (da_cons (de_op od_and (de_call (Good.blk G _ _ _ _ _) (ok_code_of Y) (by decide) (gl_of (by kernel_rfl)) (da_cons (de_var 6 rfl (vis_of (by kernel_rfl)) (by kernel_rfl) (by kernel_rfl)) (da_nil)) (by kernel_rfl)) (de_var 2 rfl (vis_of (by kernel_rfl)) (by kernel_rfl) (by kernel_rfl))) (da_cons (de_int) (da_nil))))) (da_nil)) (by kernel_rfl)) (dg_tup 2 G.calm (dgs_cons (dg_name 3 G.nd rfl (loc_of (by kernel_rfl)) (.inl rfl)) (dgs_cons (dg_name 4 G.nd rfl (loc_of (by kernel_rfl)) (.inl rfl)) (dgs_nil))))) (dss_one (ds_ret (de_bi cd_len (gl_of (by kernel_rfl)) Y.b_len bt_len (da_cons (de_var 3 rfl (vis_of (by kernel_rfl)) (by kernel_rfl) (by kernel_rfl)) (da_nil)) (by decide) (by kernel_rfl))))))
def n_need_full_one : List Str := ["crowd"]
def f_need_full_one : Sm := sSeq (sExp (dFnN 1 m_need_crowd (aCons (dVar 0) (aNil)))) (sIf (bTst (bin2 ltD (dBi lenD (aCons (dVar 0) (aNil))) (dFnN 1 m_length_of (aCons (dVar 0) (aNil))))) (sNever) (sNil))
def m_need_full_one : List D → M D := outM f_need_full_one 1
theorem sc_need_full_one : FnScope n_need_full_one ["crowd"] (defScope s_need_full_one) := ⟨(by kernel_rfl), (by kernel_rfl), (by kernel_rfl), by decide +kernel, rfl, by decide +kernel, by decide +kernel⟩
theorem pu_m_need_full_one (ds : List D) : Pu (m_need_full_one ds) := pu_outM (f := f_need_full_one) (n := 1) (pu_sSeq (pu_sExp (pu_dFnN pu_m_need_crowd (pu_aCons (pu_dVar 0) (pu_aNil)))) (pu_sIf (pu_bTst (pu_bin2 (pu_dBi (pu_aCons (pu_dVar 0) (pu_aNil))) (pu_dFnN pu_m_length_of (pu_aCons (pu_dVar 0) (pu_aNil))))) (pu_sNever) (pu_sNil))) ds
theorem ok_need_full_one (Y : Hy K mg) : DefOk P w K mg base 7 "need_full_one" 1 m_need_full_one := by
  obtain ⟨f, fd, F, hm, hb⟩ := Y.d_need_full_one
  exact def_ok F hm hb sc_need_full_one 1 rfl (by decide) fun cdv A outer s H E G => (dss_cons (ds_expr (de_call G (ok_need_crowd Y) (by decide) (gl_of (by kernel_rfl)) (da_cons (de_var 0 rfl (vis_of (by kernel_rfl)) (by kernel_rfl) (by kernel_rfl)) (da_nil)) (by kernel_rfl))) (dss_one (ds_if (dt_cmp od_lt (de_bi cd_len (gl_of (by kernel_rfl)) Y.b_len bt_len (da_cons (de_var 0 rfl (vis_of (by kernel_rfl)) (by kernel_rfl) (by kernel_rfl)) (da_nil)) (by decide) (by kernel_rfl)) (de_call G (ok_length_of Y) (by decide) (gl_of (by kernel_rfl)) (da_cons (de_var 0 rfl (vis_of (by kernel_rfl)) (by kernel_rfl) (by kernel_rfl)) (da_nil)) (by kernel_rfl)) rfl) (dss_one (ds_never)) (dss_nil))))
def n_need_places : List Str := ["crowd", "spots"]
def f_need_places : Sm := sIf (bNot (bTru (dFnN 2 m_is_rising (aCons (dVar 1) (aCons (dFnN 1 m_length_of (aCons (dVar 0) (aNil))) (aNil)))))) (sNever) (sNil)
def m_need_places : List D → M D := outM f_need_places 2
theorem sc_need_places : FnScope n_need_places ["crowd", "spots"] (defScope s_need_places) := ⟨(by kernel_rfl), (by kernel_rfl), (by kernel_rfl), by decide +kernel, rfl, by decide +kernel, by decide +kernel⟩
theorem pu_m_need_places (ds : List D) : Pu (m_need_places ds) := pu_outM (f := f_need_places) (n := 2) (pu_sIf (pu_bNot (pu_bTru (pu_dFnN pu_m_is_rising (pu_aCons (pu_dVar 1) (pu_aCons (pu_dFnN pu_m_length_of (pu_aCons (pu_dVar 0) (pu_aNil))) (pu_aNil)))))) (pu_sNever) (pu_sNil)) ds
theorem ok_need_places (Y : Hy K mg) : DefOk P w K mg base 4 "need_places" 2 m_need_places := by
  obtain ⟨f, fd, F, hm, hb⟩ := Y.d_need_places
  exact def_ok F hm hb sc_need_places 2 rfl (by decide) fun cdv A outer s H E G => (dss_one (ds_if (dt_not (dt_val (de_call G (ok_is_rising Y) (by decide) (gl_of (by kernel_rfl)) (da_cons (de_var 1 rfl (vis_of (by kernel_rfl)) (by kernel_rfl) (by kernel_rfl)) (da_cons (de_call G (ok_length_of Y) (by decide) (gl_of (by kernel_rfl)) (da_cons (de_var 0 rfl (vis_of (by kernel_rfl)) (by kernel_rfl) (by kernel_rfl)) (da_nil)) (by kernel_rfl)) (da_nil))) (by kernel_rfl)))) (dss_one (ds_never)) (dss_nil)))
def n_places_beside : List Str := ["crowd", "spots", "spot"]
def f_places_beside : Sm := sRet (dBi tupleD (aCons (dLc [2] (iArgs rng1 (aCons (dFnN 1 m_length_of (aCons (dVar 0) (aNil))) (aNil))) (gN 2) (bTst (bin2 notInD (dVar 2) (dVar 1))) (dVar 2)) (aNil)))
def m_places_beside : List D → M D := outM f_places_beside 3
theorem sc_places_beside : FnScope n_places_beside ["crowd", "spots"] (defScope s_places_beside) := ⟨(by kernel_rfl), (by kernel_rfl), (by kernel_rfl), by decide +kernel, rfl, by decide +kernel, by decide +kernel⟩
theorem pu_m_places_beside (ds : List D) : Pu (m_places_beside ds) := pu_outM (f := f_places_beside) (n := 3) (pu_sRet (pu_dBi (pu_aCons (pu_dLc (pu_iArgs (pu_aCons (pu_dFnN pu_m_length_of (pu_aCons (pu_dVar 0) (pu_aNil))) (pu_aNil))) (pu_bTst (pu_bin2 (pu_dVar 2) (pu_dVar 1))) (pu_dVar 2)) (pu_aNil)))) ds
theorem ok_places_beside (Y : Hy K mg) : DefOk P w K mg base 2 "places_beside" 2 m_places_beside := by
  obtain ⟨f, fd, F, hm, hb⟩ := Y.d_places_beside
  exact def_ok F hm hb sc_places_beside 2 rfl (by decide) fun cdv A outer s H E G => (dss_one (ds_ret (de_ty cd_tuple (gl_of (by kernel_rfl)) Y.b_tuple bt_tuple (da_cons (de_lc (own := [("spot", 2)]) G (di_rng1 (gl_of (by kernel_rfl)) Y.b_range (da_cons (de_call G (ok_length_of Y) (by decide) (gl_of (by kernel_rfl)) (da_cons (de_var 0 rfl (vis_of (by kernel_rfl)) (by kernel_rfl) (by kernel_rfl)) (da_nil)) (by kernel_rfl)) (da_nil))) (by kernel_rfl) rfl (fun _ _ _ _ _ => dg_name 2 (Good.blk G _ _ _ _ _).nd rfl (loc_of (by kernel_rfl)) (.inr (by kernel_rfl))) (fun _ _ _ _ _ => dts_one (dt_cmp od_notIn (de_var 2 rfl (vis_of (by kernel_rfl)) (by kernel_rfl) (by kernel_rfl)) (de_var 1 rfl (vis_of (by kernel_rfl)) (by kernel_rfl) (by kernel_rfl)) rfl)) (fun _ _ _ _ _ => de_var 2 rfl (vis_of (by kernel_rfl)) (by kernel_rfl) (by kernel_rfl))) (da_nil)) (by decide) (by kernel_rfl))))
def n_within_many : List Str := ["crowd", "spots"]
def f_within_many : Sm := sRet (bin2 subD (dBi lenD (aCons (dVar 0) (aNil))) (dFnN 2 m_rank_on (aCons (dVar 0) (aCons (dFnN 2 m_places_beside (aCons (dVar 0) (aCons (dVar 1) (aNil)))) (aNil)))))
def m_within_many : List D → M D := outM f_within_many 2
theorem sc_within_many : FnScope n_within_many ["crowd", "spots"] (defScope s_within_many) := ⟨(by kernel_rfl), (by kernel_rfl), (by kernel_rfl), by decide +kernel, rfl, by decide +kernel, by decide +kernel⟩
theorem pu_m_within_many (ds : List D) : Pu (m_within_many ds) := pu_outM (f := f_within_many) (n := 2) (pu_sRet (pu_bin2 (pu_dBi (pu_aCons (pu_dVar 0) (pu_aNil))) (pu_dFnN pu_m_rank_on (pu_aCons (pu_dVar 0) (pu_aCons (pu_dFnN pu_m_places_beside (pu_aCons (pu_dVar 0) (pu_aCons (pu_dVar 1) (pu_aNil)))) (pu_aNil)))))) ds
theorem ok_within_many (Y : Hy K mg) : DefOk P w K mg base 3 "within_many" 2 m_within_many := by
  obtain ⟨f, fd, F, hm, hb⟩ := Y.d_within_many
  exact def_ok F hm hb sc_within_many 2 rfl (by decide) fun cdv A outer s H E G => (dss_one (ds_ret (de_op od_sub (de_bi cd_len (gl_of (by kernel_rfl)) Y.b_len bt_len (da_cons (de_var 0 rfl (vis_of (by kernel_rfl)) (by kernel_rfl) (by kernel_rfl)) (da_nil)) (by decide) (by kernel_rfl)) (de_call G (ok_rank_on Y) (by decide) (gl_of (by kernel_rfl)) (da_cons (de_var 0 rfl (vis_of (by kernel_rfl)) (by kernel_rfl) (by kernel_rfl)) (da_cons (de_call G (ok_places_beside Y) (by decide) (gl_of (by kernel_rfl)) (da_cons (de_var 0 rfl (vis_of (by kernel_rfl)) (by kernel_rfl) (by kernel_rfl)) (da_cons (de_var 1 rfl (vis_of (by kernel_rfl)) (by kernel_rfl) (by kernel_rfl)) (da_nil))) (by kernel_rfl)) (da_nil))) (by kernel_rfl)))))
def n_masks_within : List Str := ["crowd", "spots", "outside", "_", "idle", "spot", "at", "word"]
def f_masks_within : Sm := sSeq (sSet 2 (dBi sumD (aCons (dLc [5] (iSeq (dFnN 2 m_places_beside (aCons (dVar 0) (aCons (dVar 1) (aNil))))) (gN 5) (bYes) (bin2 shlD (dC (.int 3)) (bin2 mulD (dC (.int 2)) (dVar 5)))) (aNil)))) (sSeq (sAsg (gTp 2 (gsCons (gN 3) (gsCons (gN 4) (gsNil)))) (dFnN 1 m_reduced (aCons (dLc [6, 7] (iEnm (dVar 0)) (gTp 2 (gsCons (gN 6) (gsCons (gN 7) (gsNil)))) (bYes) (dTup (aCons (bin2 andD (dFnN 1 m_code_of (aCons (dVar 7) (aNil))) (dVar 2)) (aCons (bin2 shlD (dC (.int 1)) (dVar 6)) (aNil))))) (aNil)))) (sRet (dVar 4)))
def m_masks_within : List D → M D := outM f_masks_within 8
theorem sc_masks_within : FnScope n_masks_within ["crowd", "spots"] (defScope s_masks_within) := ⟨(by kernel_rfl), (by kernel_rfl), (by kernel_rfl), by decide +kernel, rfl, by decide +kernel, by decide +kernel⟩
theorem pu_m_masks_within (ds : List D) : Pu (m_masks_within ds) := pu_outM (f := f_masks_within) (n := 8) (pu_sSeq (pu_sSet 2 (pu_dBi (pu_aCons (pu_dLc (pu_iSeq (pu_dFnN pu_m_places_beside (pu_aCons (pu_dVar 0) (pu_aCons (pu_dVar 1) (pu_aNil))))) (pu_bYes) (pu_bin2 (pu_dC (.int 3)) (pu_bin2 (pu_dC (.int 2)) (pu_dVar 5)))) (pu_aNil)))) (pu_sSeq (pu_sAsg (pu_dFnN pu_m_reduced (pu_aCons (pu_dLc (pu_iEnm (pu_dVar 0)) (pu_bYes) (pu_dTup (pu_aCons (pu_bin2 (pu_dFnN pu_m_code_of (pu_aCons (pu_dVar 7) (pu_aNil))) (pu_dVar 2)) (pu_aCons (pu_bin2 (pu_dC (.int 1)) (pu_dVar 6)) (pu_aNil))))) (pu_aNil)))) (pu_sRet (pu_dVar 4)))) ds
theorem ok_masks_within (Y : Hy K mg) : DefOk P w K mg base 3 "masks_within" 2 m_masks_within := by
  obtain ⟨f, fd, F, hm, hb⟩ := Y.d_masks_within
  exact def_ok F hm hb sc_masks_within 2 rfl (by decide) fun cdv A outer s H E G => (dss_cons (ds_set 2 G.nd rfl (loc_of (by kernel_rfl)) (de_bi (cd_sum G.calm) (gl_of (by kernel_rfl)) Y.b_sum bt_sum (da_cons (de_lc (own := [("spot", 5)]) G (di_seq (de_call G (ok_places_beside Y) (by decide) (gl_of (by kernel_rfl)) (da_cons (de_var 0 rfl (vis_of (by kernel_rfl)) (by kernel_rfl) (by kernel_rfl)) (da_cons (de_var 1 rfl (vis_of (by kernel_rfl)) (by kernel_rfl) (by kernel_rfl)) (da_nil))) (by kernel_rfl))) (by kernel_rfl) rfl (fun _ _ _ _ _ => dg_name 5 (Good.blk G _ _ _ _ _).nd rfl (loc_of (by kernel_rfl)) (.inr (by kernel_rfl))) (fun _ _ _ _ _ => dts_nil) (fun _ _ _ _ _ => de_op od_shl (de_int) (de_op od_mul (de_int) (de_var 5 rfl (vis_of (by kernel_rfl)) (by kernel_rfl) (by kernel_rfl))))) (da_nil)) (by decide) (by kernel_rfl))) (dss_cons (ds_asg (de_call G (ok_reduced Y) (by decide) (gl_of (by kernel_rfl)) (da_cons (de_lc (own := [("at", 6), ("word", 7)]) G (di_enum (gl_of (by kernel_rfl)) Y.b_enumerate (de_var 0 rfl (vis_of (by kernel_rfl)) (by kernel_rfl) (by kernel_rfl))) (by kernel_rfl) rfl (fun _ _ _ _ _ => dg_tup 2 (Good.blk G _ _ _ _ _).calm (dgs_cons (dg_name 6 (Good.blk G _ _ _ _ _).nd rfl (loc_of (by kernel_rfl)) (.inr (by kernel_rfl))) (dgs_cons (dg_name 7 (Good.blk G _ _ _ _ _).nd rfl (loc_of (by kernel_rfl)) (.inr (by kernel_rfl))) (dgs_nil)))) (fun _ _ _ _ _ => dts_nil) (fun _ _ _ _ _ => de_tup (da_cons (de_op od_and (de_call (Good.blk G _ _ _ _ _) (ok_code_of Y) (by decide) (gl_of (by kernel_rfl)) (da_cons (de_var 7 rfl (vis_of (by kernel_rfl)) (by kernel_rfl) (by kernel_rfl)) (da_nil)) (by kernel_rfl)) (de_var 2 rfl (vis_of (by kernel_rfl)) (by kernel_rfl) (by kernel_rfl))) (da_cons (de_op od_shl (de_int) (de_var 6 rfl (vis_of (by kernel_rfl)) (by kernel_rfl) (by kernel_rfl))) (da_nil))))) (da_nil)) (by kernel_rfl)) (dg_tup 2 G.calm (dgs_cons (dg_name 3 G.nd rfl (loc_of (by kernel_rfl)) (.inl rfl)) (dgs_cons (dg_name 4 G.nd rfl (loc_of (by kernel_rfl)) (.inl rfl)) (dgs_nil))))) (dss_one (ds_ret (de_var 4 rfl (vis_of (by kernel_rfl)) (by kernel_rfl) (by kernel_rfl))))))
def n_three_bonds : List Str := ["crowd", "one", "other", "third", "lots", "lot", "kept", "_", "threes", "found", "first", "second", "own", "spot", "mask"]
def f_three_bonds : Sm := sSeq (sExp (dFnN 1 m_need_full_one (aCons (dVar 0) (aNil)))) (sSeq (sExp (dFnN 2 m_need_places (aCons (dVar 0) (aCons (dVar 1) (aNil))))) (sSeq (sExp (dFnN 2 m_need_places (aCons (dVar 0) (aCons (dVar 2) (aNil))))) (sSeq (sIf (bTru (dBi anyD (aCons (dLc [13] (iSeq (dVar 2)) (gN 13) (bYes) (bin2 inD (dVar 13) (dVar 1))) (aNil)))) (sNever) (sNil)) (sSeq (sSet 3 (dFnN 2 m_places_beside (aCons (dVar 0) (aCons (bin2 addD (dVar 1) (dVar 2)) (aNil))))) (sSeq (sSet 4 (dLst (aCons (dBi tupleD (aCons (dBi sortedD (aCons (bin2 addD (dVar 1) (dVar 2)) (aNil))) (aNil))) (aCons (dBi tupleD (aCons (dBi sortedD (aCons (bin2 addD (dVar 1) (dVar 3)) (aNil))) (aNil))) (aCons (dBi tupleD (aCons (dBi sortedD (aCons (bin2 addD (dVar 2) (dVar 3)) (aNil))) (aNil))) (aNil)))))) (sSeq (sAsg (gTp 2 (gsCons (gN 6) (gsCons (gN 7) (gsNil)))) (dFnN 1 m_reduced (aCons (dLc2 [5, 14] [14] (iSeq (dVar 4)) (gN 5) (bYes) (iSeq (dFnN 2 m_masks_within (aCons (dVar 0) (aCons (dVar 5) (aNil))))) (gN 14) (bYes) (dTup (aCons (dVar 14) (aCons (dC (.int 0)) (aNil))))) (aNil)))) (sSeq (sSet 8 (bin2 subD (dBi lenD (aCons (dVar 0) (aNil))) (dBi lenD (aCons (dVar 6) (aNil))))) (sSeq (sOwn 9) (sSeq (sFor (gTp 3 (gsCons (gN 5) (gsCons (gN 10) (gsCons (gN 11) (gsNil))))) (iSeq (dLst (aCons (dTup (aCons (bin2 ixD (dVar 4) (dC (.int 0))) (aCons (dVar 1) (aCons (dVar 2) (aNil))))) (aCons (dTup (aCons (bin2 ixD (dVar 4) (dC (.int 1))) (aCons (dVar 1) (aCons (dVar 3) (aNil))))) (aCons (dTup (aCons (bin2 ixD (dVar 4) (dC (.int 2))) (aCons (dVar 2) (aCons (dVar 3) (aNil))))) (aNil)))))) (sSeq (sSet 12 (bin2 subD (bin2 subD (dFnN 2 m_within_many (aCons (dVar 0) (aCons (dVar 5) (aNil)))) (dFnN 2 m_within_many (aCons (dVar 0) (aCons (dVar 10) (aNil))))) (dFnN 2 m_within_many (aCons (dVar 0) (aCons (dVar 11) (aNil)))))) (sApp 9 (bin2 fdivD (bin2 subD (dVar 12) (dVar 8)) (dC (.int 2)))))) (sFrz 9 (sRet (dTup (aCons (bin2 ixD (dVar 9) (dC (.int 0))) (aCons (bin2 ixD (dVar 9) (dC (.int 1))) (aCons (bin2 ixD (dVar 9) (dC (.int 2))) (aCons (dVar 8) (aNil)))))))))))))))))
def m_three_bonds : List D → M D := outM f_three_bonds 15
theorem sc_three_bonds : FnScope n_three_bonds ["crowd", "one", "other"] (defScope s_three_bonds) := ⟨(by kernel_rfl), (by kernel_rfl), (by kernel_rfl), by decide +kernel, rfl, by decide +kernel, by decide +kernel⟩
theorem pu_m_three_bonds (ds : List D) : Pu (m_three_bonds ds) := pu_outM (f := f_three_bonds) (n := 15) (pu_sSeq (pu_sExp (pu_dFnN pu_m_need_full_one (pu_aCons (pu_dVar 0) (pu_aNil)))) (pu_sSeq (pu_sExp (pu_dFnN pu_m_need_places (pu_aCons (pu_dVar 0) (pu_aCons (pu_dVar 1) (pu_aNil))))) (pu_sSeq (pu_sExp (pu_dFnN pu_m_need_places (pu_aCons (pu_dVar 0) (pu_aCons (pu_dVar 2) (pu_aNil))))) (pu_sSeq (pu_sIf (pu_bTru (pu_dBi (pu_aCons (pu_dLc (pu_iSeq (pu_dVar 2)) (pu_bYes) (pu_bin2 (pu_dVar 13) (pu_dVar 1))) (pu_aNil)))) (pu_sNever) (pu_sNil)) (pu_sSeq (pu_sSet 3 (pu_dFnN pu_m_places_beside (pu_aCons (pu_dVar 0) (pu_aCons (pu_bin2 (pu_dVar 1) (pu_dVar 2)) (pu_aNil))))) (pu_sSeq (pu_sSet 4 (pu_dLst (pu_aCons (pu_dBi (pu_aCons (pu_dBi (pu_aCons (pu_bin2 (pu_dVar 1) (pu_dVar 2)) (pu_aNil))) (pu_aNil))) (pu_aCons (pu_dBi (pu_aCons (pu_dBi (pu_aCons (pu_bin2 (pu_dVar 1) (pu_dVar 3)) (pu_aNil))) (pu_aNil))) (pu_aCons (pu_dBi (pu_aCons (pu_dBi (pu_aCons (pu_bin2 (pu_dVar 2) (pu_dVar 3)) (pu_aNil))) (pu_aNil))) (pu_aNil)))))) (pu_sSeq (pu_sAsg (pu_dFnN pu_m_reduced (pu_aCons (pu_dLc2 (pu_iSeq (pu_dVar 4)) (pu_bYes) (pu_iSeq (pu_dFnN pu_m_masks_within (pu_aCons (pu_dVar 0) (pu_aCons (pu_dVar 5) (pu_aNil))))) (pu_bYes) (pu_dTup (pu_aCons (pu_dVar 14) (pu_aCons (pu_dC (.int 0)) (pu_aNil))))) (pu_aNil)))) (pu_sSeq (pu_sSet 8 (pu_bin2 (pu_dBi (pu_aCons (pu_dVar 0) (pu_aNil))) (pu_dBi (pu_aCons (pu_dVar 6) (pu_aNil))))) (pu_sSeq (pu_sOwn 9) (pu_sSeq (pu_sFor (pu_iSeq (pu_dLst (pu_aCons (pu_dTup (pu_aCons (pu_bin2 (pu_dVar 4) (pu_dC (.int 0))) (pu_aCons (pu_dVar 1) (pu_aCons (pu_dVar 2) (pu_aNil))))) (pu_aCons (pu_dTup (pu_aCons (pu_bin2 (pu_dVar 4) (pu_dC (.int 1))) (pu_aCons (pu_dVar 1) (pu_aCons (pu_dVar 3) (pu_aNil))))) (pu_aCons (pu_dTup (pu_aCons (pu_bin2 (pu_dVar 4) (pu_dC (.int 2))) (pu_aCons (pu_dVar 2) (pu_aCons (pu_dVar 3) (pu_aNil))))) (pu_aNil)))))) (pu_sSeq (pu_sSet 12 (pu_bin2 (pu_bin2 (pu_dFnN pu_m_within_many (pu_aCons (pu_dVar 0) (pu_aCons (pu_dVar 5) (pu_aNil)))) (pu_dFnN pu_m_within_many (pu_aCons (pu_dVar 0) (pu_aCons (pu_dVar 10) (pu_aNil))))) (pu_dFnN pu_m_within_many (pu_aCons (pu_dVar 0) (pu_aCons (pu_dVar 11) (pu_aNil)))))) (pu_sApp 9 (pu_bin2 (pu_bin2 (pu_dVar 12) (pu_dVar 8)) (pu_dC (.int 2)))))) (pu_sFrz 9 (pu_sRet (pu_dTup (pu_aCons (pu_bin2 (pu_dVar 9) (pu_dC (.int 0))) (pu_aCons (pu_bin2 (pu_dVar 9) (pu_dC (.int 1))) (pu_aCons (pu_bin2 (pu_dVar 9) (pu_dC (.int 2))) (pu_aCons (pu_dVar 8) (pu_aNil)))))))))))))))))) ds
theorem ok_three_bonds (Y : Hy K mg) : DefOk P w K mg base 8 "three_bonds" 3 m_three_bonds := by
  obtain ⟨f, fd, F, hm, hb⟩ := Y.d_three_bonds
  exact def_ok F hm hb sc_three_bonds 3 rfl (by decide) fun cdv A outer s H E G => (dss_cons (ds_expr (de_call G (ok_need_full_one Y) (by decide) (gl_of (by kernel_rfl)) (da_cons (de_var 0 rfl (vis_of (by kernel_rfl)) (by kernel_rfl) (by kernel_rfl)) (da_nil)) (by kernel_rfl))) (dss_cons (ds_expr (de_call G (ok_need_places Y) (by decide) (gl_of (by kernel_rfl)) (da_cons (de_var 0 rfl (vis_of (by kernel_rfl)) (by kernel_rfl) (by kernel_rfl)) (da_cons (de_var 1 rfl (vis_of (by kernel_rfl)) (by kernel_rfl) (by kernel_rfl)) (da_nil))) (by kernel_rfl))) (dss_cons (ds_expr (de_call G (ok_need_places Y) (by decide) (gl_of (by kernel_rfl)) (da_cons (de_var 0 rfl (vis_of (by kernel_rfl)) (by kernel_rfl) (by kernel_rfl)) (da_cons (de_var 2 rfl (vis_of (by kernel_rfl)) (by kernel_rfl) (by kernel_rfl)) (da_nil))) (by kernel_rfl))) (dss_cons (ds_if (dt_val (de_bi (cd_any G.calm) (gl_of (by kernel_rfl)) Y.b_any bt_any (da_cons (de_lc (own := [("spot", 13)]) G (di_seq (de_var 2 rfl (vis_of (by kernel_rfl)) (by kernel_rfl) (by kernel_rfl))) (by kernel_rfl) rfl (fun _ _ _ _ _ => dg_name 13 (Good.blk G _ _ _ _ _).nd rfl (loc_of (by kernel_rfl)) (.inr (by kernel_rfl))) (fun _ _ _ _ _ => dts_nil) (fun _ _ _ _ _ => de_cmp od_in (de_var 13 rfl (vis_of (by kernel_rfl)) (by kernel_rfl) (by kernel_rfl)) (de_var 1 rfl (vis_of (by kernel_rfl)) (by kernel_rfl) (by kernel_rfl)) rfl)) (da_nil)) (by decide) (by kernel_rfl))) (dss_one (ds_never)) (dss_nil)) (dss_cons (ds_set 3 G.nd rfl (loc_of (by kernel_rfl)) (de_call G (ok_places_beside Y) (by decide) (gl_of (by kernel_rfl)) (da_cons (de_var 0 rfl (vis_of (by kernel_rfl)) (by kernel_rfl) (by kernel_rfl)) (da_cons (de_op od_add (de_var 1 rfl (vis_of (by kernel_rfl)) (by kernel_rfl) (by kernel_rfl)) (de_var 2 rfl (vis_of (by kernel_rfl)) (by kernel_rfl) (by kernel_rfl))) (da_nil))) (by kernel_rfl))) (dss_cons (ds_set 4 G.nd rfl (loc_of (by kernel_rfl)) (de_lst (da_cons (de_ty cd_tuple (gl_of (by kernel_rfl)) Y.b_tuple bt_tuple (da_cons (de_bi cd_sorted (gl_of (by kernel_rfl)) Y.b_sorted bt_sorted (da_cons (de_op od_add (de_var 1 rfl (vis_of (by kernel_rfl)) (by kernel_rfl) (by kernel_rfl)) (de_var 2 rfl (vis_of (by kernel_rfl)) (by kernel_rfl) (by kernel_rfl))) (da_nil)) (by decide) (by kernel_rfl)) (da_nil)) (by decide) (by kernel_rfl)) (da_cons (de_ty cd_tuple (gl_of (by kernel_rfl)) Y.b_tuple bt_tuple (da_cons (de_bi cd_sorted (gl_of (by kernel_rfl)) Y.b_sorted bt_sorted (da_cons (de_op od_add (de_var 1 rfl (vis_of (by kernel_rfl)) (by kernel_rfl) (by kernel_rfl)) (de_var 3 rfl (vis_of (by kernel_rfl)) (by kernel_rfl) (by kernel_rfl))) (da_nil)) (by decide) (by kernel_rfl)) (da_nil)) (by decide) (by kernel_rfl)) (da_cons (de_ty cd_tuple (gl_of (by kernel_rfl)) Y.b_tuple bt_tuple (da_cons (de_bi cd_sorted (gl_of (by kernel_rfl)) Y.b_sorted bt_sorted (da_cons (de_op od_add (de_var 2 rfl (vis_of (by kernel_rfl)) (by kernel_rfl) (by kernel_rfl)) (de_var 3 rfl (vis_of (by kernel_rfl)) (by kernel_rfl) (by kernel_rfl))) (da_nil)) (by decide) (by kernel_rfl)) (da_nil)) (by decide) (by kernel_rfl)) (da_nil)))))) (dss_cons (ds_asg (de_call G (ok_reduced Y) (by decide) (gl_of (by kernel_rfl)) (da_cons (de_lc2 (vs1 := [14]) (own := [("lot", 5), ("mask", 14)]) G (di_seq (de_var 4 rfl (vis_of (by kernel_rfl)) (by kernel_rfl) (by kernel_rfl))) (by kernel_rfl) rfl rfl rfl (fun _ _ _ _ _ => dg_name 5 (Good.blk G _ _ _ _ _).nd rfl (loc_of (by kernel_rfl)) (.inr (by kernel_rfl))) (fun _ _ _ _ _ => dts_nil) (fun _ _ _ _ _ => di_seq (de_call (Good.blk G _ _ _ _ _) (ok_masks_within Y) (by decide) (gl_of (by kernel_rfl)) (da_cons (de_var 0 rfl (vis_of (by kernel_rfl)) (by kernel_rfl) (by kernel_rfl)) (da_cons (de_var 5 rfl (vis_of (by kernel_rfl)) (by kernel_rfl) (by kernel_rfl)) (da_nil))) (by kernel_rfl))) (fun _ _ _ _ _ => dg_name 14 (Good.blk G _ _ _ _ _).nd rfl (loc_of (by kernel_rfl)) (.inr (by kernel_rfl))) (fun _ _ _ _ _ => dts_nil) (fun _ _ _ _ _ => de_tup (da_cons (de_var 14 rfl (vis_of (by kernel_rfl)) (by kernel_rfl) (by kernel_rfl)) (da_cons (de_int) (da_nil))))) (da_nil)) (by kernel_rfl)) (dg_tup 2 G.calm (dgs_cons (dg_name 6 G.nd rfl (loc_of (by kernel_rfl)) (.inl rfl)) (dgs_cons (dg_name 7 G.nd rfl (loc_of (by kernel_rfl)) (.inl rfl)) (dgs_nil))))) (dss_cons (ds_set 8 G.nd rfl (loc_of (by kernel_rfl)) (de_op od_sub (de_bi cd_len (gl_of (by kernel_rfl)) Y.b_len bt_len (da_cons (de_var 0 rfl (vis_of (by kernel_rfl)) (by kernel_rfl) (by kernel_rfl)) (da_nil)) (by decide) (by kernel_rfl)) (de_bi cd_len (gl_of (by kernel_rfl)) Y.b_len bt_len (da_cons (de_var 6 rfl (vis_of (by kernel_rfl)) (by kernel_rfl) (by kernel_rfl)) (da_nil)) (by decide) (by kernel_rfl)))) (dss_cons (ds_own 9 G.nd rfl (loc_of (by kernel_rfl))) (dss_cons (ds_for G (di_seq (de_lst (da_cons (de_tup (da_cons (de_ix (de_var 4 rfl (vis_of (by kernel_rfl)) (by kernel_rfl) (by kernel_rfl)) (de_int) (fun _ _ => rfl)) (da_cons (de_var 1 rfl (vis_of (by kernel_rfl)) (by kernel_rfl) (by kernel_rfl)) (da_cons (de_var 2 rfl (vis_of (by kernel_rfl)) (by kernel_rfl) (by kernel_rfl)) (da_nil))))) (da_cons (de_tup (da_cons (de_ix (de_var 4 rfl (vis_of (by kernel_rfl)) (by kernel_rfl) (by kernel_rfl)) (de_int) (fun _ _ => rfl)) (da_cons (de_var 1 rfl (vis_of (by kernel_rfl)) (by kernel_rfl) (by kernel_rfl)) (da_cons (de_var 3 rfl (vis_of (by kernel_rfl)) (by kernel_rfl) (by kernel_rfl)) (da_nil))))) (da_cons (de_tup (da_cons (de_ix (de_var 4 rfl (vis_of (by kernel_rfl)) (by kernel_rfl) (by kernel_rfl)) (de_int) (fun _ _ => rfl)) (da_cons (de_var 2 rfl (vis_of (by kernel_rfl)) (by kernel_rfl) (by kernel_rfl)) (da_cons (de_var 3 rfl (vis_of (by kernel_rfl)) (by kernel_rfl) (by kernel_rfl)) (da_nil))))) (da_nil)))))) (dg_tup 3 G.calm (dgs_cons (dg_name 5 G.nd rfl (loc_of (by kernel_rfl)) (.inl rfl)) (dgs_cons (dg_name 10 G.nd rfl (loc_of (by kernel_rfl)) (.inl rfl)) (dgs_cons (dg_name 11 G.nd rfl (loc_of (by kernel_rfl)) (.inl rfl)) (dgs_nil))))) (dss_cons (ds_set 12 G.nd rfl (loc_of (by kernel_rfl)) (de_op od_sub (de_op od_sub (de_call G (ok_within_many Y) (by decide) (gl_of (by kernel_rfl)) (da_cons (de_var 0 rfl (vis_of (by kernel_rfl)) (by kernel_rfl) (by kernel_rfl)) (da_cons (de_var 5 rfl (vis_of (by kernel_rfl)) (by kernel_rfl) (by kernel_rfl)) (da_nil))) (by kernel_rfl)) (de_call G (ok_within_many Y) (by decide) (gl_of (by kernel_rfl)) (da_cons (de_var 0 rfl (vis_of (by kernel_rfl)) (by kernel_rfl) (by kernel_rfl)) (da_cons (de_var 10 rfl (vis_of (by kernel_rfl)) (by kernel_rfl) (by kernel_rfl)) (da_nil))) (by kernel_rfl))) (de_call G (ok_within_many Y) (by decide) (gl_of (by kernel_rfl)) (da_cons (de_var 0 rfl (vis_of (by kernel_rfl)) (by kernel_rfl) (by kernel_rfl)) (da_cons (de_var 11 rfl (vis_of (by kernel_rfl)) (by kernel_rfl) (by kernel_rfl)) (da_nil))) (by kernel_rfl)))) (dss_one (ds_app 9 rfl (vis_of (by kernel_rfl)) (de_op od_fdiv (de_op od_sub (de_var 12 rfl (vis_of (by kernel_rfl)) (by kernel_rfl) (by kernel_rfl)) (de_var 8 rfl (vis_of (by kernel_rfl)) (by kernel_rfl) (by kernel_rfl))) (de_int)) (by kernel_rfl) (by kernel_rfl))))) (ds_frz 9 (dss_one (ds_ret (de_tup (da_cons (de_ix (de_var 9 rfl (vis_of (by kernel_rfl)) (by kernel_rfl) (by kernel_rfl)) (de_int) (fun _ _ => rfl)) (da_cons (de_ix (de_var 9 rfl (vis_of (by kernel_rfl)) (by kernel_rfl) (by kernel_rfl)) (de_int) (fun _ _ => rfl)) (da_cons (de_ix (de_var 9 rfl (vis_of (by kernel_rfl)) (by kernel_rfl) (by kernel_rfl)) (de_int) (fun _ _ => rfl)) (da_cons (de_var 8 rfl (vis_of (by kernel_rfl)) (by kernel_rfl) (by kernel_rfl)) (da_nil)))))))))))))))))))
def n_behind : List Str := ["crowd", "word", "at", "one", "crossing", "first", "found"]
def f_behind : Sm := sSeq (sSet 4 (dLc [2, 3] (iEnm (dVar 0)) (gTp 2 (gsCons (gN 2) (gsCons (gN 3) (gsNil)))) (bNot (bTru (dFnN 2 m_past_of (aCons (dVar 3) (aCons (dVar 1) (aNil)))))) (dVar 2))) (sSeq (sIf (bTst (bin2 eqD (dVar 4) (dLst (aNil)))) (sRet (bin2 addD (dBi listD (aCons (dVar 0) (aNil))) (dLst (aCons (dVar 1) (aNil))))) (sNil)) (sSeq (sPar2o 5 6 (bin2 ixD (dVar 0) (bin2 ixD (dVar 4) (dC (.int 0))))) (sSeq (sFor (gTp 2 (gsCons (gN 2) (gsCons (gN 3) (gsNil)))) (iEnm (dVar 0)) (sIf (bTst (bin2 neD (dVar 2) (bin2 ixD (dVar 4) (dC (.int 0))))) (sApp 6 (dIf (bTst (bin2 inD (dVar 2) (dVar 4))) (dFnN 2 m_put_of (aCons (dVar 5) (aCons (dVar 3) (aNil)))) (dVar 3))) (sNil))) (sFrz 6 (sRet (bin2 addD (dVar 6) (dLst (aCons (dVar 1) (aNil)))))))))
def m_behind : List D → M D := outM f_behind 7
theorem sc_behind : FnScope n_behind ["crowd", "word"] (defScope s_behind) := ⟨(by kernel_rfl), (by kernel_rfl), (by kernel_rfl), by decide +kernel, rfl, by decide +kernel, by decide +kernel⟩
theorem pu_m_behind (ds : List D) : Pu (m_behind ds) := pu_outM (f := f_behind) (n := 7) (pu_sSeq (pu_sSet 4 (pu_dLc (pu_iEnm (pu_dVar 0)) (pu_bNot (pu_bTru (pu_dFnN pu_m_past_of (pu_aCons (pu_dVar 3) (pu_aCons (pu_dVar 1) (pu_aNil)))))) (pu_dVar 2))) (pu_sSeq (pu_sIf (pu_bTst (pu_bin2 (pu_dVar 4) (pu_dLst (pu_aNil)))) (pu_sRet (pu_bin2 (pu_dBi (pu_aCons (pu_dVar 0) (pu_aNil))) (pu_dLst (pu_aCons (pu_dVar 1) (pu_aNil))))) (pu_sNil)) (pu_sSeq (pu_sPar2o 5 6 (pu_bin2 (pu_dVar 0) (pu_bin2 (pu_dVar 4) (pu_dC (.int 0))))) (pu_sSeq (pu_sFor (pu_iEnm (pu_dVar 0)) (pu_sIf (pu_bTst (pu_bin2 (pu_dVar 2) (pu_bin2 (pu_dVar 4) (pu_dC (.int 0))))) (pu_sApp 6 (pu_dIf (pu_bTst (pu_bin2 (pu_dVar 2) (pu_dVar 4))) (pu_dFnN pu_m_put_of (pu_aCons (pu_dVar 5) (pu_aCons (pu_dVar 3) (pu_aNil)))) (pu_dVar 3))) (pu_sNil))) (pu_sFrz 6 (pu_sRet (pu_bin2 (pu_dVar 6) (pu_dLst (pu_aCons (pu_dVar 1) (pu_aNil)))))))))) ds
theorem ok_behind (Y : Hy K mg) : DefOk P w K mg base 5 "behind" 2 m_behind := by
  obtain ⟨f, fd, F, hm, hb⟩ := Y.d_behind
  exact def_ok F hm hb sc_behind 2 rfl (by decide) fun cdv A outer s H E G => (dss_cons (ds_setLc 4 (own := [("at", 2), ("one", 3)]) G rfl (by kernel_rfl) (sw_true rfl (by kernel_rfl) (by kernel_rfl) (by kernel_rfl)) (di_enum (gl_of (by kernel_rfl)) Y.b_enumerate (de_var 0 rfl (vis_of (by kernel_rfl)) (by kernel_rfl) (by kernel_rfl))) (by kernel_rfl) rfl (fun _ _ _ _ _ => dg_tup 2 (Good.blk G _ _ _ _ _).calm (dgs_cons (dg_name 2 (Good.blk G _ _ _ _ _).nd rfl (loc_of (by kernel_rfl)) (.inr (by kernel_rfl))) (dgs_cons (dg_name 3 (Good.blk G _ _ _ _ _).nd rfl (loc_of (by kernel_rfl)) (.inr (by kernel_rfl))) (dgs_nil)))) (fun _ _ _ _ _ => dts_one (dt_not (dt_val (de_call (Good.blk G _ _ _ _ _) (ok_past_of Y) (by decide) (gl_of (by kernel_rfl)) (da_cons (de_var 3 rfl (vis_of (by kernel_rfl)) (by kernel_rfl) (by kernel_rfl)) (da_cons (de_var 1 rfl (vis_of (by kernel_rfl)) (by kernel_rfl) (by kernel_rfl)) (da_nil))) (by kernel_rfl))))) (fun _ _ _ _ _ => de_var 2 rfl (vis_of (by kernel_rfl)) (by kernel_rfl) (by kernel_rfl))) (dss_cons (ds_if (dt_cmp (od_eq G.room.units) (de_var 4 rfl (vis_of (by kernel_rfl)) (by kernel_rfl) (by kernel_rfl)) (de_lst (da_nil)) rfl) (dss_one (ds_ret (de_op od_add (de_ty cd_list (gl_of (by kernel_rfl)) Y.b_list bt_list (da_cons (de_var 0 rfl (vis_of (by kernel_rfl)) (by kernel_rfl) (by kernel_rfl)) (da_nil)) (by decide) (by kernel_rfl)) (de_lst (da_cons (de_var 1 rfl (vis_of (by kernel_rfl)) (by kernel_rfl) (by kernel_rfl)) (da_nil)))))) (dss_nil)) (dss_cons (ds_par2o 5 6 G rfl rfl (by decide) (by kernel_rfl) (by kernel_rfl) (de_ix (de_var 0 rfl (vis_of (by kernel_rfl)) (by kernel_rfl) (by kernel_rfl)) (de_ix (de_var 4 rfl (vis_of (by kernel_rfl)) (by kernel_rfl) (by kernel_rfl)) (de_int) (fun _ _ => rfl)) (fun _ _ => rfl)) (by kernel_rfl)) (dss_cons (ds_for G (di_enum (gl_of (by kernel_rfl)) Y.b_enumerate (de_var 0 rfl (vis_of (by kernel_rfl)) (by kernel_rfl) (by kernel_rfl))) (dg_tup 2 G.calm (dgs_cons (dg_name 2 G.nd rfl (loc_of (by kernel_rfl)) (.inl rfl)) (dgs_cons (dg_name 3 G.nd rfl (loc_of (by kernel_rfl)) (.inl rfl)) (dgs_nil)))) (dss_one (ds_if (dt_cmp (od_ne G.room.units) (de_var 2 rfl (vis_of (by kernel_rfl)) (by kernel_rfl) (by kernel_rfl)) (de_ix (de_var 4 rfl (vis_of (by kernel_rfl)) (by kernel_rfl) (by kernel_rfl)) (de_int) (fun _ _ => rfl)) rfl) (dss_one (ds_app 6 rfl (vis_of (by kernel_rfl)) (de_if (dt_cmp od_in (de_var 2 rfl (vis_of (by kernel_rfl)) (by kernel_rfl) (by kernel_rfl)) (de_var 4 rfl (vis_of (by kernel_rfl)) (by kernel_rfl) (by kernel_rfl)) rfl) (de_call G (ok_put_of Y) (by decide) (gl_of (by kernel_rfl)) (da_cons (de_var 5 rfl (vis_of (by kernel_rfl)) (by kernel_rfl) (by kernel_rfl)) (da_cons (de_var 3 rfl (vis_of (by kernel_rfl)) (by kernel_rfl) (by kernel_rfl)) (da_nil))) (by kernel_rfl)) (de_var 3 rfl (vis_of (by kernel_rfl)) (by kernel_rfl) (by kernel_rfl))) (by kernel_rfl) (by kernel_rfl))) (dss_nil)))) (ds_frz 6 (dss_one (ds_ret (de_op od_add (de_var 6 rfl (vis_of (by kernel_rfl)) (by kernel_rfl) (by kernel_rfl)) (de_lst (da_cons (de_var 1 rfl (vis_of (by kernel_rfl)) (by kernel_rfl) (by kernel_rfl)) (da_nil)))))))))))
def n_asked : List Str := ["crowd", "word", "told"]
def f_asked : Sm := sSeq (sExp (dFnN 2 m_need_own (aCons (dVar 0) (aCons (dVar 1) (aNil))))) (sSeq (sIf (bNot (bTru (dFnN 1 m_is_turning (aCons (dVar 1) (aNil))))) (sNever) (sNil)) (sSeq (sSet 2 (dFnN 2 m_says_of (aCons (dVar 0) (aCons (dVar 1) (aNil))))) (sSeq (sIf (bTst (bin2 inD (dVar 2) (dTup (aCons (dC (.int 1)) (aCons (un1 negD (dC (.int 1))) (aNil)))))) (sRet (dTup (aCons (dC (.str "told")) (aCons (dVar 2) (aNil))))) (sNil)) (sRet (dTup (aCons (dC (.str "open")) (aCons (dFnN 2 m_behind (aCons (dVar 0) (aCons (dVar 1) (aNil)))) (aCons (dFnN 2 m_behind (aCons (dVar 0) (aCons (dTup (aCons (un1 negD (bin2 ixD (dVar 1) (dC (.int 0)))) (aCons (bin2 ixD (dVar 1) (dC (.int 1))) (aNil)))) (aNil)))) (aNil)))))))))
def m_asked : List D → M D := outM f_asked 3
theorem sc_asked : FnScope n_asked ["crowd", "word"] (defScope s_asked) := ⟨(by kernel_rfl), (by kernel_rfl), (by kernel_rfl), by decide +kernel, rfl, by decide +kernel, by decide +kernel⟩
theorem pu_m_asked (ds : List D) : Pu (m_asked ds) := pu_outM (f := f_asked) (n := 3) (pu_sSeq (pu_sExp (pu_dFnN pu_m_need_own (pu_aCons (pu_dVar 0) (pu_aCons (pu_dVar 1) (pu_aNil))))) (pu_sSeq (pu_sIf (pu_bNot (pu_bTru (pu_dFnN pu_m_is_turning (pu_aCons (pu_dVar 1) (pu_aNil))))) (pu_sNever) (pu_sNil)) (pu_sSeq (pu_sSet 2 (pu_dFnN pu_m_says_of (pu_aCons (pu_dVar 0) (pu_aCons (pu_dVar 1) (pu_aNil))))) (pu_sSeq (pu_sIf (pu_bTst (pu_bin2 (pu_dVar 2) (pu_dTup (pu_aCons (pu_dC (.int 1)) (pu_aCons (pu_un1 (pu_dC (.int 1))) (pu_aNil)))))) (pu_sRet (pu_dTup (pu_aCons (pu_dC (.str "told")) (pu_aCons (pu_dVar 2) (pu_aNil))))) (pu_sNil)) (pu_sRet (pu_dTup (pu_aCons (pu_dC (.str "open")) (pu_aCons (pu_dFnN pu_m_behind (pu_aCons (pu_dVar 0) (pu_aCons (pu_dVar 1) (pu_aNil)))) (pu_aCons (pu_dFnN pu_m_behind (pu_aCons (pu_dVar 0) (pu_aCons (pu_dTup (pu_aCons (pu_un1 (pu_bin2 (pu_dVar 1) (pu_dC (.int 0)))) (pu_aCons (pu_bin2 (pu_dVar 1) (pu_dC (.int 1))) (pu_aNil)))) (pu_aNil)))) (pu_aNil)))))))))) ds
theorem ok_asked (Y : Hy K mg) : DefOk P w K mg base 8 "asked" 2 m_asked := by
  obtain ⟨f, fd, F, hm, hb⟩ := Y.d_asked
  exact def_ok F hm hb sc_asked 2 rfl (by decide) fun cdv A outer s H E G => (dss_cons (ds_expr (de_call G (ok_need_own Y) (by decide) (gl_of (by kernel_rfl)) (da_cons (de_var 0 rfl (vis_of (by kernel_rfl)) (by kernel_rfl) (by kernel_rfl)) (da_cons (de_var 1 rfl (vis_of (by kernel_rfl)) (by kernel_rfl) (by kernel_rfl)) (da_nil))) (by kernel_rfl))) (dss_cons (ds_if (dt_not (dt_val (de_call G (ok_is_turning Y) (by decide) (gl_of (by kernel_rfl)) (da_cons (de_var 1 rfl (vis_of (by kernel_rfl)) (by kernel_rfl) (by kernel_rfl)) (da_nil)) (by kernel_rfl)))) (dss_one (ds_never)) (dss_nil)) (dss_cons (ds_set 2 G.nd rfl (loc_of (by kernel_rfl)) (de_call G (ok_says_of Y) (by decide) (gl_of (by kernel_rfl)) (da_cons (de_var 0 rfl (vis_of (by kernel_rfl)) (by kernel_rfl) (by kernel_rfl)) (da_cons (de_var 1 rfl (vis_of (by kernel_rfl)) (by kernel_rfl) (by kernel_rfl)) (da_nil))) (by kernel_rfl))) (dss_cons (ds_if (dt_cmp od_in (de_var 2 rfl (vis_of (by kernel_rfl)) (by kernel_rfl) (by kernel_rfl)) (de_tup (da_cons (de_int) (da_cons (de_neg (de_int)) (da_nil)))) rfl) (dss_one (ds_ret (de_tup (da_cons (de_str) (da_cons (de_var 2 rfl (vis_of (by kernel_rfl)) (by kernel_rfl) (by kernel_rfl)) (da_nil)))))) (dss_nil)) (dss_one (ds_ret (de_tup (da_cons (de_str) (da_cons (de_call G (ok_behind Y) (by decide) (gl_of (by kernel_rfl)) (da_cons (de_var 0 rfl (vis_of (by kernel_rfl)) (by kernel_rfl) (by kernel_rfl)) (da_cons (de_var 1 rfl (vis_of (by kernel_rfl)) (by kernel_rfl) (by kernel_rfl)) (da_nil))) (by kernel_rfl)) (da_cons (de_call G (ok_behind Y) (by decide) (gl_of (by kernel_rfl)) (da_cons (de_var 0 rfl (vis_of (by kernel_rfl)) (by kernel_rfl) (by kernel_rfl)) (da_cons (de_tup (da_cons (de_neg (de_ix (de_var 1 rfl (vis_of (by kernel_rfl)) (by kernel_rfl) (by kernel_rfl)) (de_int) (fun _ _ => rfl))) (da_cons (de_ix (de_var 1 rfl (vis_of (by kernel_rfl)) (by kernel_rfl) (by kernel_rfl)) (de_int) (fun _ _ => rfl)) (da_nil)))) (da_nil))) (by kernel_rfl)) (da_nil)))))))))))
def n_need_row : List Str := ["crowd", "words", "word"]
def f_need_row : Sm := sSeq (sExp (dFnN 1 m_need_crowd (aCons (dVar 0) (aNil)))) (sSeq (sExp (dFnN 1 m_need_words (aCons (dVar 1) (aNil)))) (sSeq (sIf (bNot (bTru (dBi allD (aCons (dLc [2] (iSeq (dVar 1)) (gN 2) (bYes) (dFnN 1 m_is_turning (aCons (dVar 2) (aNil)))) (aNil))))) (sNever) (sNil)) (sIf (bTst (bin2 neD (dBi lenD (aCons (bin2 ixD (bin2 ixD (dVar 1) (dC (.int 0))) (dC (.int 1))) (aNil))) (dFnN 1 m_length_of (aCons (dVar 0) (aNil))))) (sNever) (sNil))))
def m_need_row : List D → M D := outM f_need_row 3
theorem sc_need_row : FnScope n_need_row ["crowd", "words"] (defScope s_need_row) := ⟨(by kernel_rfl), (by kernel_rfl), (by kernel_rfl), by decide +kernel, rfl, by decide +kernel, by decide +kernel⟩
theorem pu_m_need_row (ds : List D) : Pu (m_need_row ds) := pu_outM (f := f_need_row) (n := 3) (pu_sSeq (pu_sExp (pu_dFnN pu_m_need_crowd (pu_aCons (pu_dVar 0) (pu_aNil)))) (pu_sSeq (pu_sExp (pu_dFnN pu_m_need_words (pu_aCons (pu_dVar 1) (pu_aNil)))) (pu_sSeq (pu_sIf (pu_bNot (pu_bTru (pu_dBi (pu_aCons (pu_dLc (pu_iSeq (pu_dVar 1)) (pu_bYes) (pu_dFnN pu_m_is_turning (pu_aCons (pu_dVar 2) (pu_aNil)))) (pu_aNil))))) (pu_sNever) (pu_sNil)) (pu_sIf (pu_bTst (pu_bin2 (pu_dBi (pu_aCons (pu_bin2 (pu_bin2 (pu_dVar 1) (pu_dC (.int 0))) (pu_dC (.int 1))) (pu_aNil))) (pu_dFnN pu_m_length_of (pu_aCons (pu_dVar 0) (pu_aNil))))) (pu_sNever) (pu_sNil))))) ds
theorem ok_need_row (Y : Hy K mg) : DefOk P w K mg base 7 "need_row" 2 m_need_row := by
  obtain ⟨f, fd, F, hm, hb⟩ := Y.d_need_row
  exact def_ok F hm hb sc_need_row 2 rfl (by decide) fun cdv A outer s H E G => (dss_cons (ds_expr (de_call G (ok_need_crowd Y) (by decide) (gl_of (by kernel_rfl)) (da_cons (de_var 0 rfl (vis_of (by kernel_rfl)) (by kernel_rfl) (by kernel_rfl)) (da_nil)) (by kernel_rfl))) (dss_cons (ds_expr (de_call G (ok_need_words Y) (by decide) (gl_of (by kernel_rfl)) (da_cons (de_var 1 rfl (vis_of (by kernel_rfl)) (by kernel_rfl) (by kernel_rfl)) (da_nil)) (by kernel_rfl))) (dss_cons (ds_if (dt_not (dt_val (de_bi (cd_all G.calm) (gl_of (by kernel_rfl)) Y.b_all bt_all (da_cons (de_lc (own := [("word", 2)]) G (di_seq (de_var 1 rfl (vis_of (by kernel_rfl)) (by kernel_rfl) (by kernel_rfl))) (by kernel_rfl) rfl (fun _ _ _ _ _ => dg_name 2 (Good.blk G _ _ _ _ _).nd rfl (loc_of (by kernel_rfl)) (.inr (by kernel_rfl))) (fun _ _ _ _ _ => dts_nil) (fun _ _ _ _ _ => de_call (Good.blk G _ _ _ _ _) (ok_is_turning Y) (by decide) (gl_of (by kernel_rfl)) (da_cons (de_var 2 rfl (vis_of (by kernel_rfl)) (by kernel_rfl) (by kernel_rfl)) (da_nil)) (by kernel_rfl))) (da_nil)) (by decide) (by kernel_rfl)))) (dss_one (ds_never)) (dss_nil)) (dss_one (ds_if (dt_cmp (od_ne G.room.units) (de_bi cd_len (gl_of (by kernel_rfl)) Y.b_len bt_len (da_cons (de_ix (de_ix (de_var 1 rfl (vis_of (by kernel_rfl)) (by kernel_rfl) (by kernel_rfl)) (de_int) (fun _ _ => rfl)) (de_int) (fun _ _ => rfl)) (da_nil)) (by decide) (by kernel_rfl)) (de_call G (ok_length_of Y) (by decide) (gl_of (by kernel_rfl)) (da_cons (de_var 0 rfl (vis_of (by kernel_rfl)) (by kernel_rfl) (by kernel_rfl)) (da_nil)) (by kernel_rfl)) rfl) (dss_one (ds_never)) (dss_nil))))))
def n_told_by : List Str := ["state", "word", "_", "at", "kept", "left", "tag", "part", "asks", "one"]
def f_told_by : Sm := sSeq (sIf (bNot (bTru (dBi allD (aCons (dLc [9, 2] (iSeq (dVar 0)) (gTp 2 (gsCons (gN 9) (gsCons (gN 2) (gsNil)))) (bYes) (dFnN 2 m_past_of (aCons (dVar 9) (aCons (dVar 1) (aNil))))) (aNil))))) (sRet (dC .non)) (sNil)) (sSeq (sAsg (gTp 2 (gsCons (gN 4) (gsCons (gN 2) (gsNil)))) (dFnN 1 m_reduced (aCons (dLc [3, 9, 2] (iEnm (dVar 0)) (gTp 2 (gsCons (gN 3) (gsCons (gTp 2 (gsCons (gN 9) (gsCons (gN 2) (gsNil)))) (gsNil)))) (bYes) (dTup (aCons (dFnN 1 m_code_of (aCons (dVar 9) (aNil))) (aCons (bin2 shlD (dC (.int 1)) (dVar 3)) (aNil))))) (aNil)))) (sSeq (sAsg (gTp 2 (gsCons (gN 5) (gsCons (gN 6) (gsNil)))) (dFnN 2 m_brought (aCons (dVar 4) (aCons (dFnN 1 m_code_of (aCons (dVar 1) (aNil))) (aNil))))) (sSeq (sIf (bTst (bin2 neD (dVar 5) (dC (.int 0)))) (sRet (dC .non)) (sNil)) (sSeq (sPar 7 8 (aCons (dFnN 1 m_items_of (aCons (dVar 6) (aNil))) (aCons (dC (.int 0)) (aNil)))) (sSeq (sFor (gN 3) (iSeq (dVar 7)) (sSet 8 (bin2 xorD (dVar 8) (bin2 ixD (bin2 ixD (dVar 0) (dVar 3)) (dC (.int 1)))))) (sRet (dTup (aCons (bin2 mulD (bin2 ixD (dFnN 2 m_made_of (aCons (dLc [9, 2] (iSeq (dVar 0)) (gTp 2 (gsCons (gN 9) (gsCons (gN 2) (gsNil)))) (bYes) (dVar 9)) (aCons (dVar 7) (aNil)))) (dC (.int 0))) (bin2 ixD (dVar 1) (dC (.int 0)))) (aCons (dVar 8) (aNil))))))))))
def m_told_by : List D → M D := outM f_told_by 10
theorem sc_told_by : FnScope n_told_by ["state", "word"] (defScope s_told_by) := ⟨(by kernel_rfl), (by kernel_rfl), (by kernel_rfl), by decide +kernel, rfl, by decide +kernel, by decide +kernel⟩
theorem pu_m_told_by (ds : List D) : Pu (m_told_by ds) := pu_outM (f := f_told_by) (n := 10) (pu_sSeq (pu_sIf (pu_bNot (pu_bTru (pu_dBi (pu_aCons (pu_dLc (pu_iSeq (pu_dVar 0)) (pu_bYes) (pu_dFnN pu_m_past_of (pu_aCons (pu_dVar 9) (pu_aCons (pu_dVar 1) (pu_aNil))))) (pu_aNil))))) (pu_sRet (pu_dC .non)) (pu_sNil)) (pu_sSeq (pu_sAsg (pu_dFnN pu_m_reduced (pu_aCons (pu_dLc (pu_iEnm (pu_dVar 0)) (pu_bYes) (pu_dTup (pu_aCons (pu_dFnN pu_m_code_of (pu_aCons (pu_dVar 9) (pu_aNil))) (pu_aCons (pu_bin2 (pu_dC (.int 1)) (pu_dVar 3)) (pu_aNil))))) (pu_aNil)))) (pu_sSeq (pu_sAsg (pu_dFnN pu_m_brought (pu_aCons (pu_dVar 4) (pu_aCons (pu_dFnN pu_m_code_of (pu_aCons (pu_dVar 1) (pu_aNil))) (pu_aNil))))) (pu_sSeq (pu_sIf (pu_bTst (pu_bin2 (pu_dVar 5) (pu_dC (.int 0)))) (pu_sRet (pu_dC .non)) (pu_sNil)) (pu_sSeq (pu_sPar 7 8 (pu_aCons (pu_dFnN pu_m_items_of (pu_aCons (pu_dVar 6) (pu_aNil))) (pu_aCons (pu_dC (.int 0)) (pu_aNil)))) (pu_sSeq (pu_sFor (pu_iSeq (pu_dVar 7)) (pu_sSet 8 (pu_bin2 (pu_dVar 8) (pu_bin2 (pu_bin2 (pu_dVar 0) (pu_dVar 3)) (pu_dC (.int 1)))))) (pu_sRet (pu_dTup (pu_aCons (pu_bin2 (pu_bin2 (pu_dFnN pu_m_made_of (pu_aCons (pu_dLc (pu_iSeq (pu_dVar 0)) (pu_bYes) (pu_dVar 9)) (pu_aCons (pu_dVar 7) (pu_aNil)))) (pu_dC (.int 0))) (pu_bin2 (pu_dVar 1) (pu_dC (.int 0)))) (pu_aCons (pu_dVar 8) (pu_aNil))))))))))) ds
theorem ok_told_by (Y : Hy K mg) : DefOk P w K mg base 6 "told_by" 2 m_told_by := by
  obtain ⟨f, fd, F, hm, hb⟩ := Y.d_told_by
  exact def_ok F hm hb sc_told_by 2 rfl (by decide) fun cdv A outer s H E G => (dss_cons (ds_if (dt_not (dt_val (de_bi (cd_all G.calm) (gl_of (by kernel_rfl)) Y.b_all bt_all (da_cons (de_lc (own := [("one", 9), ("_", 2)]) G (di_seq (de_var 0 rfl (vis_of (by kernel_rfl)) (by kernel_rfl) (by kernel_rfl))) (by kernel_rfl) rfl (fun _ _ _ _ _ => dg_tup 2 (Good.blk G _ _ _ _ _).calm (dgs_cons (dg_name 9 (Good.blk G _ _ _ _ _).nd rfl (loc_of (by kernel_rfl)) (.inr (by kernel_rfl))) (dgs_cons (dg_name 2 (Good.blk G _ _ _ _ _).nd rfl (loc_of (by kernel_rfl)) (.inr (by kernel_rfl))) (dgs_nil)))) (fun _ _ _ _ _ => dts_nil) (fun _ _ _ _ _ => de_call (Good.blk G _ _ _ _ _) (ok_past_of Y) (by decide) (gl_of (by kernel_rfl)) (da_cons (de_var 9 rfl (vis_of (by kernel_rfl)) (by kernel_rfl) (by kernel_rfl)) (da_cons (de_var 1 rfl (vis_of (by kernel_rfl)) (by kernel_rfl) (by kernel_rfl)) (da_nil))) (by kernel_rfl))) (da_nil)) (by decide) (by kernel_rfl)))) (dss_one (ds_ret (de_non))) (dss_nil)) (dss_cons (ds_asg (de_call G (ok_reduced Y) (by decide) (gl_of (by kernel_rfl)) (da_cons (de_lc (own := [("at", 3), ("one", 9), ("_", 2)]) G (di_enum (gl_of (by kernel_rfl)) Y.b_enumerate (de_var 0 rfl (vis_of (by kernel_rfl)) (by kernel_rfl) (by kernel_rfl))) (by kernel_rfl) rfl (fun _ _ _ _ _ => dg_tup 2 (Good.blk G _ _ _ _ _).calm (dgs_cons (dg_name 3 (Good.blk G _ _ _ _ _).nd rfl (loc_of (by kernel_rfl)) (.inr (by kernel_rfl))) (dgs_cons (dg_tup 2 (Good.blk G _ _ _ _ _).calm (dgs_cons (dg_name 9 (Good.blk G _ _ _ _ _).nd rfl (loc_of (by kernel_rfl)) (.inr (by kernel_rfl))) (dgs_cons (dg_name 2 (Good.blk G _ _ _ _ _).nd rfl (loc_of (by kernel_rfl)) (.inr (by kernel_rfl))) (dgs_nil)))) (dgs_nil)))) (fun _ _ _ _ _ => dts_nil) (fun _ _ _ _ _ => de_tup (da_cons (de_call (Good.blk G _ _ _ _ _) (ok_code_of Y) (by decide) (gl_of (by kernel_rfl)) (da_cons (de_var 9 rfl (vis_of (by kernel_rfl)) (by kernel_rfl) (by kernel_rfl)) (da_nil)) (by kernel_rfl)) (da_cons (de_op od_shl (de_int) (de_var 3 rfl (vis_of (by kernel_rfl)) (by kernel_rfl) (by kernel_rfl))) (da_nil))))) (da_nil)) (by kernel_rfl)) (dg_tup 2 G.calm (dgs_cons (dg_name 4 G.nd rfl (loc_of (by kernel_rfl)) (.inl rfl)) (dgs_cons (dg_name 2 G.nd rfl (loc_of (by kernel_rfl)) (.inl rfl)) (dgs_nil))))) (dss_cons (ds_asg (de_call G (ok_brought Y) (by decide) (gl_of (by kernel_rfl)) (da_cons (de_var 4 rfl (vis_of (by kernel_rfl)) (by kernel_rfl) (by kernel_rfl)) (da_cons (de_call G (ok_code_of Y) (by decide) (gl_of (by kernel_rfl)) (da_cons (de_var 1 rfl (vis_of (by kernel_rfl)) (by kernel_rfl) (by kernel_rfl)) (da_nil)) (by kernel_rfl)) (da_nil))) (by kernel_rfl)) (dg_tup 2 G.calm (dgs_cons (dg_name 5 G.nd rfl (loc_of (by kernel_rfl)) (.inl rfl)) (dgs_cons (dg_name 6 G.nd rfl (loc_of (by kernel_rfl)) (.inl rfl)) (dgs_nil))))) (dss_cons (ds_if (dt_cmp (od_ne G.room.units) (de_var 5 rfl (vis_of (by kernel_rfl)) (by kernel_rfl) (by kernel_rfl)) (de_int) rfl) (dss_one (ds_ret (de_non))) (dss_nil)) (dss_cons (ds_par 7 8 G rfl rfl (by decide) (by kernel_rfl) (by kernel_rfl) (da_cons (de_call G (ok_items_of Y) (by decide) (gl_of (by kernel_rfl)) (da_cons (de_var 6 rfl (vis_of (by kernel_rfl)) (by kernel_rfl) (by kernel_rfl)) (da_nil)) (by kernel_rfl)) (da_cons (de_int) (da_nil))) (by kernel_rfl)) (dss_cons (ds_for G (di_seq (de_var 7 rfl (vis_of (by kernel_rfl)) (by kernel_rfl) (by kernel_rfl))) (dg_name 3 G.nd rfl (loc_of (by kernel_rfl)) (.inl rfl)) (dss_one (ds_set 8 G.nd rfl (loc_of (by kernel_rfl)) (de_op od_xor (de_var 8 rfl (vis_of (by kernel_rfl)) (by kernel_rfl) (by kernel_rfl)) (de_ix (de_ix (de_var 0 rfl (vis_of (by kernel_rfl)) (by kernel_rfl) (by kernel_rfl)) (de_var 3 rfl (vis_of (by kernel_rfl)) (by kernel_rfl) (by kernel_rfl)) (fun _ _ => rfl)) (de_int) (fun _ _ => rfl)))))) (dss_one (ds_ret (de_tup (da_cons (de_op od_mul (de_ix (de_call G (ok_made_of Y) (by decide) (gl_of (by kernel_rfl)) (da_cons (de_lc (own := [("one", 9), ("_", 2)]) G (di_seq (de_var 0 rfl (vis_of (by kernel_rfl)) (by kernel_rfl) (by kernel_rfl))) (by kernel_rfl) rfl (fun _ _ _ _ _ => dg_tup 2 (Good.blk G _ _ _ _ _).calm (dgs_cons (dg_name 9 (Good.blk G _ _ _ _ _).nd rfl (loc_of (by kernel_rfl)) (.inr (by kernel_rfl))) (dgs_cons (dg_name 2 (Good.blk G _ _ _ _ _).nd rfl (loc_of (by kernel_rfl)) (.inr (by kernel_rfl))) (dgs_nil)))) (fun _ _ _ _ _ => dts_nil) (fun _ _ _ _ _ => de_var 9 rfl (vis_of (by kernel_rfl)) (by kernel_rfl) (by kernel_rfl))) (da_cons (de_var 7 rfl (vis_of (by kernel_rfl)) (by kernel_rfl) (by kernel_rfl)) (da_nil))) (by kernel_rfl)) (de_int) (fun _ _ => rfl)) (de_ix (de_var 1 rfl (vis_of (by kernel_rfl)) (by kernel_rfl) (by kernel_rfl)) (de_int) (fun _ _ => rfl))) (da_cons (de_var 8 rfl (vis_of (by kernel_rfl)) (by kernel_rfl) (by kernel_rfl)) (da_nil))))))))))))
def n_state_behind : List Str := ["state", "word", "ask", "at", "one", "crossing", "first", "own", "found", "asks", "_"]
def f_state_behind : Sm := sSeq (sSet 5 (dLc [3, 4, 10] (iEnm (dVar 0)) (gTp 2 (gsCons (gN 3) (gsCons (gTp 2 (gsCons (gN 4) (gsCons (gN 10) (gsNil)))) (gsNil)))) (bNot (bTru (dFnN 2 m_past_of (aCons (dVar 4) (aCons (dVar 1) (aNil)))))) (dVar 3))) (sSeq (sIf (bTst (bin2 eqD (dVar 5) (dLst (aNil)))) (sRet (bin2 addD (dVar 0) (dLst (aCons (dTup (aCons (dVar 1) (aCons (dVar 2) (aNil)))) (aNil))))) (sNil)) (sSeq (sAsg (gTp 2 (gsCons (gN 6) (gsCons (gN 7) (gsNil)))) (bin2 ixD (dVar 0) (bin2 ixD (dVar 5) (dC (.int 0))))) (sSeq (sOwn 8) (sSeq (sFor (gTp 2 (gsCons (gN 3) (gsCons (gTp 2 (gsCons (gN 4) (gsCons (gN 9) (gsNil)))) (gsNil)))) (iEnm (dVar 0)) (sIf (bTst (bin2 neD (dVar 3) (bin2 ixD (dVar 5) (dC (.int 0))))) (sApp 8 (dIf (bTst (bin2 inD (dVar 3) (dVar 5))) (dTup (aCons (dFnN 2 m_put_of (aCons (dVar 6) (aCons (dVar 4) (aNil)))) (aCons (bin2 xorD (dVar 7) (dVar 9)) (aNil)))) (dTup (aCons (dVar 4) (aCons (dVar 9) (aNil)))))) (sNil))) (sFrz 8 (sRet (bin2 addD (dVar 8) (dLst (aCons (dTup (aCons (dVar 1) (aCons (dVar 2) (aNil)))) (aNil))))))))))
def m_state_behind : List D → M D := outM f_state_behind 11
theorem sc_state_behind : FnScope n_state_behind ["state", "word", "ask"] (defScope s_state_behind) := ⟨(by kernel_rfl), (by kernel_rfl), (by kernel_rfl), by decide +kernel, rfl, by decide +kernel, by decide +kernel⟩
theorem pu_m_state_behind (ds : List D) : Pu (m_state_behind ds) := pu_outM (f := f_state_behind) (n := 11) (pu_sSeq (pu_sSet 5 (pu_dLc (pu_iEnm (pu_dVar 0)) (pu_bNot (pu_bTru (pu_dFnN pu_m_past_of (pu_aCons (pu_dVar 4) (pu_aCons (pu_dVar 1) (pu_aNil)))))) (pu_dVar 3))) (pu_sSeq (pu_sIf (pu_bTst (pu_bin2 (pu_dVar 5) (pu_dLst (pu_aNil)))) (pu_sRet (pu_bin2 (pu_dVar 0) (pu_dLst (pu_aCons (pu_dTup (pu_aCons (pu_dVar 1) (pu_aCons (pu_dVar 2) (pu_aNil)))) (pu_aNil))))) (pu_sNil)) (pu_sSeq (pu_sAsg (pu_bin2 (pu_dVar 0) (pu_bin2 (pu_dVar 5) (pu_dC (.int 0))))) (pu_sSeq (pu_sOwn 8) (pu_sSeq (pu_sFor (pu_iEnm (pu_dVar 0)) (pu_sIf (pu_bTst (pu_bin2 (pu_dVar 3) (pu_bin2 (pu_dVar 5) (pu_dC (.int 0))))) (pu_sApp 8 (pu_dIf (pu_bTst (pu_bin2 (pu_dVar 3) (pu_dVar 5))) (pu_dTup (pu_aCons (pu_dFnN pu_m_put_of (pu_aCons (pu_dVar 6) (pu_aCons (pu_dVar 4) (pu_aNil)))) (pu_aCons (pu_bin2 (pu_dVar 7) (pu_dVar 9)) (pu_aNil)))) (pu_dTup (pu_aCons (pu_dVar 4) (pu_aCons (pu_dVar 9) (pu_aNil)))))) (pu_sNil))) (pu_sFrz 8 (pu_sRet (pu_bin2 (pu_dVar 8) (pu_dLst (pu_aCons (pu_dTup (pu_aCons (pu_dVar 1) (pu_aCons (pu_dVar 2) (pu_aNil)))) (pu_aNil))))))))))) ds
theorem ok_state_behind (Y : Hy K mg) : DefOk P w K mg base 5 "state_behind" 3 m_state_behind := by
  obtain ⟨f, fd, F, hm, hb⟩ := Y.d_state_behind
  exact def_ok F hm hb sc_state_behind 3 rfl (by decide) fun cdv A outer s H E G => (dss_cons (ds_setLc 5 (own := [("at", 3), ("one", 4), ("_", 10)]) G rfl (by kernel_rfl) (sw_true rfl (by kernel_rfl) (by kernel_rfl) (by kernel_rfl)) (di_enum (gl_of (by kernel_rfl)) Y.b_enumerate (de_var 0 rfl (vis_of (by kernel_rfl)) (by kernel_rfl) (by kernel_rfl))) (by kernel_rfl) rfl (fun _ _ _ _ _ => dg_tup 2 (Good.blk G _ _ _ _ _).calm (dgs_cons (dg_name 3 (Good.blk G _ _ _ _ _).nd rfl (loc_of (by kernel_rfl)) (.inr (by kernel_rfl))) (dgs_cons (dg_tup 2 (Good.blk G _ _ _ _ _).calm (dgs_cons (dg_name 4 (Good.blk G _ _ _ _ _).nd rfl (loc_of (by kernel_rfl)) (.inr (by kernel_rfl))) (dgs_cons (dg_name 10 (Good.blk G _ _ _ _ _).nd rfl (loc_of (by kernel_rfl)) (.inr (by kernel_rfl))) (dgs_nil)))) (dgs_nil)))) (fun _ _ _ _ _ => dts_one (dt_not (dt_val (de_call (Good.blk G _ _ _ _ _) (ok_past_of Y) (by decide) (gl_of (by kernel_rfl)) (da_cons (de_var 4 rfl (vis_of (by kernel_rfl)) (by kernel_rfl) (by kernel_rfl)) (da_cons (de_var 1 rfl (vis_of (by kernel_rfl)) (by kernel_rfl) (by kernel_rfl)) (da_nil))) (by kernel_rfl))))) (fun _ _ _ _ _ => de_var 3 rfl (vis_of (by kernel_rfl)) (by kernel_rfl) (by kernel_rfl))) (dss_cons (ds_if (dt_cmp (od_eq G.room.units) (de_var 5 rfl (vis_of (by kernel_rfl)) (by kernel_rfl) (by kernel_rfl)) (de_lst (da_nil)) rfl) (dss_one (ds_ret (de_op od_add (de_var 0 rfl (vis_of (by kernel_rfl)) (by kernel_rfl) (by kernel_rfl)) (de_lst (da_cons (de_tup (da_cons (de_var 1 rfl (vis_of (by kernel_rfl)) (by kernel_rfl) (by kernel_rfl)) (da_cons (de_var 2 rfl (vis_of (by kernel_rfl)) (by kernel_rfl) (by kernel_rfl)) (da_nil)))) (da_nil)))))) (dss_nil)) (dss_cons (ds_asg (de_ix (de_var 0 rfl (vis_of (by kernel_rfl)) (by kernel_rfl) (by kernel_rfl)) (de_ix (de_var 5 rfl (vis_of (by kernel_rfl)) (by kernel_rfl) (by kernel_rfl)) (de_int) (fun _ _ => rfl)) (fun _ _ => rfl)) (dg_tup 2 G.calm (dgs_cons (dg_name 6 G.nd rfl (loc_of (by kernel_rfl)) (.inl rfl)) (dgs_cons (dg_name 7 G.nd rfl (loc_of (by kernel_rfl)) (.inl rfl)) (dgs_nil))))) (dss_cons (ds_own 8 G.nd rfl (loc_of (by kernel_rfl))) (dss_cons (ds_for G (di_enum (gl_of (by kernel_rfl)) Y.b_enumerate (de_var 0 rfl (vis_of (by kernel_rfl)) (by kernel_rfl) (by kernel_rfl))) (dg_tup 2 G.calm (dgs_cons (dg_name 3 G.nd rfl (loc_of (by kernel_rfl)) (.inl rfl)) (dgs_cons (dg_tup 2 G.calm (dgs_cons (dg_name 4 G.nd rfl (loc_of (by kernel_rfl)) (.inl rfl)) (dgs_cons (dg_name 9 G.nd rfl (loc_of (by kernel_rfl)) (.inl rfl)) (dgs_nil)))) (dgs_nil)))) (dss_one (ds_if (dt_cmp (od_ne G.room.units) (de_var 3 rfl (vis_of (by kernel_rfl)) (by kernel_rfl) (by kernel_rfl)) (de_ix (de_var 5 rfl (vis_of (by kernel_rfl)) (by kernel_rfl) (by kernel_rfl)) (de_int) (fun _ _ => rfl)) rfl) (dss_one (ds_app 8 rfl (vis_of (by kernel_rfl)) (de_if (dt_cmp od_in (de_var 3 rfl (vis_of (by kernel_rfl)) (by kernel_rfl) (by kernel_rfl)) (de_var 5 rfl (vis_of (by kernel_rfl)) (by kernel_rfl) (by kernel_rfl)) rfl) (de_tup (da_cons (de_call G (ok_put_of Y) (by decide) (gl_of (by kernel_rfl)) (da_cons (de_var 6 rfl (vis_of (by kernel_rfl)) (by kernel_rfl) (by kernel_rfl)) (da_cons (de_var 4 rfl (vis_of (by kernel_rfl)) (by kernel_rfl) (by kernel_rfl)) (da_nil))) (by kernel_rfl)) (da_cons (de_op od_xor (de_var 7 rfl (vis_of (by kernel_rfl)) (by kernel_rfl) (by kernel_rfl)) (de_var 9 rfl (vis_of (by kernel_rfl)) (by kernel_rfl) (by kernel_rfl))) (da_nil)))) (de_tup (da_cons (de_var 4 rfl (vis_of (by kernel_rfl)) (by kernel_rfl) (by kernel_rfl)) (da_cons (de_var 9 rfl (vis_of (by kernel_rfl)) (by kernel_rfl) (by kernel_rfl)) (da_nil))))) (by kernel_rfl) (by kernel_rfl))) (dss_nil)))) (ds_frz 8 (dss_one (ds_ret (de_op od_add (de_var 8 rfl (vis_of (by kernel_rfl)) (by kernel_rfl) (by kernel_rfl)) (de_lst (da_cons (de_tup (da_cons (de_var 1 rfl (vis_of (by kernel_rfl)) (by kernel_rfl) (by kernel_rfl)) (da_cons (de_var 2 rfl (vis_of (by kernel_rfl)) (by kernel_rfl) (by kernel_rfl)) (da_nil)))) (da_nil))))))))))))
def n_followed : List Str := ["crowd", "words", "word", "state", "found", "at", "told"]
def f_followed : Sm := sSeq (sPar2o 3 4 (dLc [2] (iSeq (dVar 0)) (gN 2) (bYes) (dTup (aCons (dVar 2) (aCons (dC (.int 0)) (aNil)))))) (sSeq (sFor (gTp 2 (gsCons (gN 5) (gsCons (gN 2) (gsNil)))) (iEnm (dVar 1)) (sSeq (sSet 6 (dFnN 2 m_told_by (aCons (dVar 3) (aCons (dVar 2) (aNil))))) (sSeq (sApp 4 (dVar 6)) (sIf (bTst (bin2 isND (dVar 6) (dC .non))) (sSet 3 (dFnN 3 m_state_behind (aCons (dVar 3) (aCons (dVar 2) (aCons (bin2 shlD (dC (.int 1)) (dVar 5)) (aNil)))))) (sNil))))) (sFrz 4 (sRet (dVar 4))))
def m_followed : List D → M D := outM f_followed 7
theorem sc_followed : FnScope n_followed ["crowd", "words"] (defScope s_followed) := ⟨(by kernel_rfl), (by kernel_rfl), (by kernel_rfl), by decide +kernel, rfl, by decide +kernel, by decide +kernel⟩
theorem pu_m_followed (ds : List D) : Pu (m_followed ds) := pu_outM (f := f_followed) (n := 7) (pu_sSeq (pu_sPar2o 3 4 (pu_dLc (pu_iSeq (pu_dVar 0)) (pu_bYes) (pu_dTup (pu_aCons (pu_dVar 2) (pu_aCons (pu_dC (.int 0)) (pu_aNil)))))) (pu_sSeq (pu_sFor (pu_iEnm (pu_dVar 1)) (pu_sSeq (pu_sSet 6 (pu_dFnN pu_m_told_by (pu_aCons (pu_dVar 3) (pu_aCons (pu_dVar 2) (pu_aNil))))) (pu_sSeq (pu_sApp 4 (pu_dVar 6)) (pu_sIf (pu_bTst (pu_bin2 (pu_dVar 6) (pu_dC .non))) (pu_sSet 3 (pu_dFnN pu_m_state_behind (pu_aCons (pu_dVar 3) (pu_aCons (pu_dVar 2) (pu_aCons (pu_bin2 (pu_dC (.int 1)) (pu_dVar 5)) (pu_aNil)))))) (pu_sNil))))) (pu_sFrz 4 (pu_sRet (pu_dVar 4))))) ds
theorem ok_followed (Y : Hy K mg) : DefOk P w K mg base 7 "followed" 2 m_followed := by
  obtain ⟨f, fd, F, hm, hb⟩ := Y.d_followed
  exact def_ok F hm hb sc_followed 2 rfl (by decide) fun cdv A outer s H E G => (dss_cons (ds_par2o 3 4 G rfl rfl (by decide) (by kernel_rfl) (by kernel_rfl) (de_lc (own := [("word", 2)]) G (di_seq (de_var 0 rfl (vis_of (by kernel_rfl)) (by kernel_rfl) (by kernel_rfl))) (by kernel_rfl) rfl (fun _ _ _ _ _ => dg_name 2 (Good.blk G _ _ _ _ _).nd rfl (loc_of (by kernel_rfl)) (.inr (by kernel_rfl))) (fun _ _ _ _ _ => dts_nil) (fun _ _ _ _ _ => de_tup (da_cons (de_var 2 rfl (vis_of (by kernel_rfl)) (by kernel_rfl) (by kernel_rfl)) (da_cons (de_int) (da_nil))))) (by kernel_rfl)) (dss_cons (ds_for G (di_enum (gl_of (by kernel_rfl)) Y.b_enumerate (de_var 1 rfl (vis_of (by kernel_rfl)) (by kernel_rfl) (by kernel_rfl))) (dg_tup 2 G.calm (dgs_cons (dg_name 5 G.nd rfl (loc_of (by kernel_rfl)) (.inl rfl)) (dgs_cons (dg_name 2 G.nd rfl (loc_of (by kernel_rfl)) (.inl rfl)) (dgs_nil)))) (dss_cons (ds_set 6 G.nd rfl (loc_of (by kernel_rfl)) (de_call G (ok_told_by Y) (by decide) (gl_of (by kernel_rfl)) (da_cons (de_var 3 rfl (vis_of (by kernel_rfl)) (by kernel_rfl) (by kernel_rfl)) (da_cons (de_var 2 rfl (vis_of (by kernel_rfl)) (by kernel_rfl) (by kernel_rfl)) (da_nil))) (by kernel_rfl))) (dss_cons (ds_app 4 rfl (vis_of (by kernel_rfl)) (de_var 6 rfl (vis_of (by kernel_rfl)) (by kernel_rfl) (by kernel_rfl)) (by kernel_rfl) (by kernel_rfl)) (dss_one (ds_if (dt_cmp od_isN (de_var 6 rfl (vis_of (by kernel_rfl)) (by kernel_rfl) (by kernel_rfl)) (de_non) rfl) (dss_one (ds_set 3 G.nd rfl (loc_of (by kernel_rfl)) (de_call G (ok_state_behind Y) (by decide) (gl_of (by kernel_rfl)) (da_cons (de_var 3 rfl (vis_of (by kernel_rfl)) (by kernel_rfl) (by kernel_rfl)) (da_cons (de_var 2 rfl (vis_of (by kernel_rfl)) (by kernel_rfl) (by kernel_rfl)) (da_cons (de_op od_shl (de_int) (de_var 5 rfl (vis_of (by kernel_rfl)) (by kernel_rfl) (by kernel_rfl))) (da_nil)))) (by kernel_rfl)))) (dss_nil)))))) (ds_frz 4 (dss_one (ds_ret (de_var 4 rfl (vis_of (by kernel_rfl)) (by kernel_rfl) (by kernel_rfl)))))))
def n_told_sign : List Str := ["told", "answers", "sign", "asks", "at"]
def f_told_sign : Sm := sSeq (sAsg (gTp 2 (gsCons (gN 2) (gsCons (gN 3) (gsNil)))) (dVar 0)) (sSeq (sFor (gN 4) (iSeq (dFnN 1 m_items_of (aCons (dVar 3) (aNil)))) (sSet 2 (bin2 mulD (dVar 2) (bin2 ixD (dVar 1) (dVar 4))))) (sRet (dVar 2)))
def m_told_sign : List D → M D := outM f_told_sign 5
theorem sc_told_sign : FnScope n_told_sign ["told", "answers"] (defScope s_told_sign) := ⟨(by kernel_rfl), (by kernel_rfl), (by kernel_rfl), by decide +kernel, rfl, by decide +kernel, by decide +kernel⟩
theorem pu_m_told_sign (ds : List D) : Pu (m_told_sign ds) := pu_outM (f := f_told_sign) (n := 5) (pu_sSeq (pu_sAsg (pu_dVar 0)) (pu_sSeq (pu_sFor (pu_iSeq (pu_dFnN pu_m_items_of (pu_aCons (pu_dVar 3) (pu_aNil)))) (pu_sSet 2 (pu_bin2 (pu_dVar 2) (pu_bin2 (pu_dVar 1) (pu_dVar 4))))) (pu_sRet (pu_dVar 2)))) ds
theorem ok_told_sign (Y : Hy K mg) : DefOk P w K mg base 2 "told_sign" 2 m_told_sign := by
  obtain ⟨f, fd, F, hm, hb⟩ := Y.d_told_sign
  exact def_ok F hm hb sc_told_sign 2 rfl (by decide) fun cdv A outer s H E G => (dss_cons (ds_asg (de_var 0 rfl (vis_of (by kernel_rfl)) (by kernel_rfl) (by kernel_rfl)) (dg_tup 2 G.calm (dgs_cons (dg_name 2 G.nd rfl (loc_of (by kernel_rfl)) (.inl rfl)) (dgs_cons (dg_name 3 G.nd rfl (loc_of (by kernel_rfl)) (.inl rfl)) (dgs_nil))))) (dss_cons (ds_for G (di_seq (de_call G (ok_items_of Y) (by decide) (gl_of (by kernel_rfl)) (da_cons (de_var 3 rfl (vis_of (by kernel_rfl)) (by kernel_rfl) (by kernel_rfl)) (da_nil)) (by kernel_rfl))) (dg_name 4 G.nd rfl (loc_of (by kernel_rfl)) (.inl rfl)) (dss_one (ds_set 2 G.nd rfl (loc_of (by kernel_rfl)) (de_op od_mul (de_var 2 rfl (vis_of (by kernel_rfl)) (by kernel_rfl) (by kernel_rfl)) (de_ix (de_var 1 rfl (vis_of (by kernel_rfl)) (by kernel_rfl) (by kernel_rfl)) (de_var 4 rfl (vis_of (by kernel_rfl)) (by kernel_rfl) (by kernel_rfl)) (fun _ _ => rfl)))))) (dss_one (ds_ret (de_var 2 rfl (vis_of (by kernel_rfl)) (by kernel_rfl) (by kernel_rfl))))))
def n_row_chance : List Str := ["crowd", "words", "answers", "found", "at", "told", "sign"]
def f_row_chance : Sm := sSeq (sExp (dFnN 2 m_need_row (aCons (dVar 0) (aCons (dVar 1) (aNil))))) (sSeq (sIf (bOr (bNot (bTru (dIsi .tuple (dVar 2)))) (bOr (bTst (bin2 neD (dBi lenD (aCons (dVar 2) (aNil))) (dBi lenD (aCons (dVar 1) (aNil))))) (bNot (bTru (dBi allD (aCons (dLc [6] (iSeq (dVar 2)) (gN 6) (bYes) (dFnN 1 m_is_sign (aCons (dVar 6) (aNil)))) (aNil))))))) (sNever) (sNil)) (sSeq (sSet 3 (dC (.int 0))) (sSeq (sFor (gTp 2 (gsCons (gN 4) (gsCons (gN 5) (gsNil)))) (iEnm (dFnN 2 m_followed (aCons (dVar 0) (aCons (dVar 1) (aNil))))) (sIf (bTst (bin2 isND (dVar 5) (dC .non))) (sSet 3 (bin2 addD (dVar 3) (dC (.int 1)))) (sIf (bTst (bin2 neD (dFnN 2 m_told_sign (aCons (dVar 5) (aCons (dVar 2) (aNil)))) (bin2 ixD (dVar 2) (dVar 4)))) (sRet (dC .non)) (sNil)))) (sRet (dVar 3)))))
def m_row_chance : List D → M D := outM f_row_chance 7
theorem sc_row_chance : FnScope n_row_chance ["crowd", "words", "answers"] (defScope s_row_chance) := ⟨(by kernel_rfl), (by kernel_rfl), (by kernel_rfl), by decide +kernel, rfl, by decide +kernel, by decide +kernel⟩
theorem pu_m_row_chance (ds : List D) : Pu (m_row_chance ds) := pu_outM (f := f_row_chance) (n := 7) (pu_sSeq (pu_sExp (pu_dFnN pu_m_need_row (pu_aCons (pu_dVar 0) (pu_aCons (pu_dVar 1) (pu_aNil))))) (pu_sSeq (pu_sIf (pu_bOr (pu_bNot (pu_bTru (pu_dIsi (pu_dVar 2)))) (pu_bOr (pu_bTst (pu_bin2 (pu_dBi (pu_aCons (pu_dVar 2) (pu_aNil))) (pu_dBi (pu_aCons (pu_dVar 1) (pu_aNil))))) (pu_bNot (pu_bTru (pu_dBi (pu_aCons (pu_dLc (pu_iSeq (pu_dVar 2)) (pu_bYes) (pu_dFnN pu_m_is_sign (pu_aCons (pu_dVar 6) (pu_aNil)))) (pu_aNil))))))) (pu_sNever) (pu_sNil)) (pu_sSeq (pu_sSet 3 (pu_dC (.int 0))) (pu_sSeq (pu_sFor (pu_iEnm (pu_dFnN pu_m_followed (pu_aCons (pu_dVar 0) (pu_aCons (pu_dVar 1) (pu_aNil))))) (pu_sIf (pu_bTst (pu_bin2 (pu_dVar 5) (pu_dC .non))) (pu_sSet 3 (pu_bin2 (pu_dVar 3) (pu_dC (.int 1)))) (pu_sIf (pu_bTst (pu_bin2 (pu_dFnN pu_m_told_sign (pu_aCons (pu_dVar 5) (pu_aCons (pu_dVar 2) (pu_aNil)))) (pu_bin2 (pu_dVar 2) (pu_dVar 4)))) (pu_sRet (pu_dC .non)) (pu_sNil)))) (pu_sRet (pu_dVar 3)))))) ds
theorem ok_row_chance (Y : Hy K mg) : DefOk P w K mg base 8 "row_chance" 3 m_row_chance := by
  obtain ⟨f, fd, F, hm, hb⟩ := Y.d_row_chance
  exact def_ok F hm hb sc_row_chance 3 rfl (by decide) fun cdv A outer s H E G => (dss_cons (ds_expr (de_call G (ok_need_row Y) (by decide) (gl_of (by kernel_rfl)) (da_cons (de_var 0 rfl (vis_of (by kernel_rfl)) (by kernel_rfl) (by kernel_rfl)) (da_cons (de_var 1 rfl (vis_of (by kernel_rfl)) (by kernel_rfl) (by kernel_rfl)) (da_nil))) (by kernel_rfl))) (dss_cons (ds_if (PW.pt (dw_or (dt_not (dt_val (de_isi .tuple (gl_of (by kernel_rfl)) Y.b_isinstance (de_var 2 rfl (vis_of (by kernel_rfl)) (by kernel_rfl) (by kernel_rfl)) (gl_of (by kernel_rfl)) Y.b_tuple bt_tuple (by decide) (by kernel_rfl)))) (dw_or (dt_cmp (od_ne G.room.units) (de_bi cd_len (gl_of (by kernel_rfl)) Y.b_len bt_len (da_cons (de_var 2 rfl (vis_of (by kernel_rfl)) (by kernel_rfl) (by kernel_rfl)) (da_nil)) (by decide) (by kernel_rfl)) (de_bi cd_len (gl_of (by kernel_rfl)) Y.b_len bt_len (da_cons (de_var 1 rfl (vis_of (by kernel_rfl)) (by kernel_rfl) (by kernel_rfl)) (da_nil)) (by decide) (by kernel_rfl)) rfl) (dw_or1 (dt_not (dt_val (de_bi (cd_all G.calm) (gl_of (by kernel_rfl)) Y.b_all bt_all (da_cons (de_lc (own := [("sign", 6)]) G (di_seq (de_var 2 rfl (vis_of (by kernel_rfl)) (by kernel_rfl) (by kernel_rfl))) (by kernel_rfl) rfl (fun _ _ _ _ _ => dg_name 6 (Good.blk G _ _ _ _ _).nd rfl (loc_of (by kernel_rfl)) (.inr (by kernel_rfl))) (fun _ _ _ _ _ => dts_nil) (fun _ _ _ _ _ => de_call (Good.blk G _ _ _ _ _) (ok_is_sign Y) (by decide) (gl_of (by kernel_rfl)) (da_cons (de_var 6 rfl (vis_of (by kernel_rfl)) (by kernel_rfl) (by kernel_rfl)) (da_nil)) (by kernel_rfl))) (da_nil)) (by decide) (by kernel_rfl)))))))) (dss_one (ds_never)) (dss_nil)) (dss_cons (ds_set 3 G.nd rfl (loc_of (by kernel_rfl)) (de_int)) (dss_cons (ds_for G (di_enum (gl_of (by kernel_rfl)) Y.b_enumerate (de_call G (ok_followed Y) (by decide) (gl_of (by kernel_rfl)) (da_cons (de_var 0 rfl (vis_of (by kernel_rfl)) (by kernel_rfl) (by kernel_rfl)) (da_cons (de_var 1 rfl (vis_of (by kernel_rfl)) (by kernel_rfl) (by kernel_rfl)) (da_nil))) (by kernel_rfl))) (dg_tup 2 G.calm (dgs_cons (dg_name 4 G.nd rfl (loc_of (by kernel_rfl)) (.inl rfl)) (dgs_cons (dg_name 5 G.nd rfl (loc_of (by kernel_rfl)) (.inl rfl)) (dgs_nil)))) (dss_one (ds_if (dt_cmp od_isN (de_var 5 rfl (vis_of (by kernel_rfl)) (by kernel_rfl) (by kernel_rfl)) (de_non) rfl) (dss_one (ds_set 3 G.nd rfl (loc_of (by kernel_rfl)) (de_op od_add (de_var 3 rfl (vis_of (by kernel_rfl)) (by kernel_rfl) (by kernel_rfl)) (de_int)))) (dss_one (ds_if (dt_cmp (od_ne G.room.units) (de_call G (ok_told_sign Y) (by decide) (gl_of (by kernel_rfl)) (da_cons (de_var 5 rfl (vis_of (by kernel_rfl)) (by kernel_rfl) (by kernel_rfl)) (da_cons (de_var 2 rfl (vis_of (by kernel_rfl)) (by kernel_rfl) (by kernel_rfl)) (da_nil))) (by kernel_rfl)) (de_ix (de_var 2 rfl (vis_of (by kernel_rfl)) (by kernel_rfl) (by kernel_rfl)) (de_var 4 rfl (vis_of (by kernel_rfl)) (by kernel_rfl) (by kernel_rfl)) (fun _ _ => rfl)) rfl) (dss_one (ds_ret (de_non))) (dss_nil)))))) (dss_one (ds_ret (de_var 3 rfl (vis_of (by kernel_rfl)) (by kernel_rfl) (by kernel_rfl))))))))
def n_need_half : List Str := ["length"]
def f_need_half : Sm := sIf (bNot (bTru (dFnN 3 m_is_between (aCons (dVar 0) (aCons (dC (.int 1)) (aCons (dC (.int 6)) (aNil))))))) (sNever) (sNil)
def m_need_half : List D → M D := outM f_need_half 1
theorem sc_need_half : FnScope n_need_half ["length"] (defScope s_need_half) := ⟨(by kernel_rfl), (by kernel_rfl), (by kernel_rfl), by decide +kernel, rfl, by decide +kernel, by decide +kernel⟩
theorem pu_m_need_half (ds : List D) : Pu (m_need_half ds) := pu_outM (f := f_need_half) (n := 1) (pu_sIf (pu_bNot (pu_bTru (pu_dFnN pu_m_is_between (pu_aCons (pu_dVar 0) (pu_aCons (pu_dC (.int 1)) (pu_aCons (pu_dC (.int 6)) (pu_aNil))))))) (pu_sNever) (pu_sNil)) ds
theorem ok_need_half (Y : Hy K mg) : DefOk P w K mg base 3 "need_half" 1 m_need_half := by
  obtain ⟨f, fd, F, hm, hb⟩ := Y.d_need_half
  exact def_ok F hm hb sc_need_half 1 rfl (by decide) fun cdv A outer s H E G => (dss_one (ds_if (dt_not (dt_val (de_call G (ok_is_between Y) (by decide) (gl_of (by kernel_rfl)) (da_cons (de_var 0 rfl (vis_of (by kernel_rfl)) (by kernel_rfl) (by kernel_rfl)) (da_cons (de_int) (da_cons (de_gint (gl_of (by kernel_rfl)) Y.c_MOST_SHARED (by kernel_rfl)) (da_nil)))) (by kernel_rfl)))) (dss_one (ds_never)) (dss_nil)))
def n_shared_crowd : List Str := ["length", "_", "letters"]
def f_shared_crowd : Sm := sSeq (sExp (dFnN 1 m_need_half (aCons (dVar 0) (aNil)))) (sRet (dLc [1, 2] (iSeq (dFnN 1 m_plain_of (aCons (dVar 0) (aNil)))) (gTp 2 (gsCons (gN 1) (gsCons (gN 2) (gsNil)))) (bYes) (dTup (aCons (dC (.int 1)) (aCons (bin2 addD (dVar 2) (dVar 2)) (aNil))))))
def m_shared_crowd : List D → M D := outM f_shared_crowd 3
theorem sc_shared_crowd : FnScope n_shared_crowd ["length"] (defScope s_shared_crowd) := ⟨(by kernel_rfl), (by kernel_rfl), (by kernel_rfl), by decide +kernel, rfl, by decide +kernel, by decide +kernel⟩
theorem pu_m_shared_crowd (ds : List D) : Pu (m_shared_crowd ds) := pu_outM (f := f_shared_crowd) (n := 3) (pu_sSeq (pu_sExp (pu_dFnN pu_m_need_half (pu_aCons (pu_dVar 0) (pu_aNil)))) (pu_sRet (pu_dLc (pu_iSeq (pu_dFnN pu_m_plain_of (pu_aCons (pu_dVar 0) (pu_aNil)))) (pu_bYes) (pu_dTup (pu_aCons (pu_dC (.int 1)) (pu_aCons (pu_bin2 (pu_dVar 2) (pu_dVar 2)) (pu_aNil))))))) ds
theorem ok_shared_crowd (Y : Hy K mg) : DefOk P w K mg base 4 "shared_crowd" 1 m_shared_crowd := by
  obtain ⟨f, fd, F, hm, hb⟩ := Y.d_shared_crowd
  exact def_ok F hm hb sc_shared_crowd 1 rfl (by decide) fun cdv A outer s H E G => (dss_cons (ds_expr (de_call G (ok_need_half Y) (by decide) (gl_of (by kernel_rfl)) (da_cons (de_var 0 rfl (vis_of (by kernel_rfl)) (by kernel_rfl) (by kernel_rfl)) (da_nil)) (by kernel_rfl))) (dss_one (ds_ret (de_lc (own := [("_", 1), ("letters", 2)]) G (di_seq (de_call G (ok_plain_of Y) (by decide) (gl_of (by kernel_rfl)) (da_cons (de_var 0 rfl (vis_of (by kernel_rfl)) (by kernel_rfl) (by kernel_rfl)) (da_nil)) (by kernel_rfl))) (by kernel_rfl) rfl (fun _ _ _ _ _ => dg_tup 2 (Good.blk G _ _ _ _ _).calm (dgs_cons (dg_name 1 (Good.blk G _ _ _ _ _).nd rfl (loc_of (by kernel_rfl)) (.inr (by kernel_rfl))) (dgs_cons (dg_name 2 (Good.blk G _ _ _ _ _).nd rfl (loc_of (by kernel_rfl)) (.inr (by kernel_rfl))) (dgs_nil)))) (fun _ _ _ _ _ => dts_nil) (fun _ _ _ _ _ => de_tup (da_cons (de_int) (da_cons (de_op od_add (de_var 2 rfl (vis_of (by kernel_rfl)) (by kernel_rfl) (by kernel_rfl)) (de_var 2 rfl (vis_of (by kernel_rfl)) (by kernel_rfl) (by kernel_rfl))) (da_nil))))))))
def n_are_answers : List Str := ["length", "answers", "sign"]
def f_are_answers : Sm := sRet (dAnd (dIsi .tuple (dVar 1)) (dAnd (bin2 eqD (dBi lenD (aCons (dVar 1) (aNil))) (bin2 mulD (dC (.int 2)) (dVar 0))) (dBi allD (aCons (dLc [2] (iSeq (dVar 1)) (gN 2) (bYes) (dFnN 1 m_is_sign (aCons (dVar 2) (aNil)))) (aNil)))))
def m_are_answers : List D → M D := outM f_are_answers 3
theorem sc_are_answers : FnScope n_are_answers ["length", "answers"] (defScope s_are_answers) := ⟨(by kernel_rfl), (by kernel_rfl), (by kernel_rfl), by decide +kernel, rfl, by decide +kernel, by decide +kernel⟩
theorem pu_m_are_answers (ds : List D) : Pu (m_are_answers ds) := pu_outM (f := f_are_answers) (n := 3) (pu_sRet (pu_dAnd (pu_dIsi (pu_dVar 1)) (pu_dAnd (pu_bin2 (pu_dBi (pu_aCons (pu_dVar 1) (pu_aNil))) (pu_bin2 (pu_dC (.int 2)) (pu_dVar 0))) (pu_dBi (pu_aCons (pu_dLc (pu_iSeq (pu_dVar 1)) (pu_bYes) (pu_dFnN pu_m_is_sign (pu_aCons (pu_dVar 2) (pu_aNil)))) (pu_aNil)))))) ds
theorem ok_are_answers (Y : Hy K mg) : DefOk P w K mg base 3 "are_answers" 2 m_are_answers := by
  obtain ⟨f, fd, F, hm, hb⟩ := Y.d_are_answers
  exact def_ok F hm hb sc_are_answers 2 rfl (by decide) fun cdv A outer s H E G => (dss_one (ds_ret (de_and (de_isi .tuple (gl_of (by kernel_rfl)) Y.b_isinstance (de_var 1 rfl (vis_of (by kernel_rfl)) (by kernel_rfl) (by kernel_rfl)) (gl_of (by kernel_rfl)) Y.b_tuple bt_tuple (by decide) (by kernel_rfl)) (de_and (de_cmp (od_eq G.room.units) (de_bi cd_len (gl_of (by kernel_rfl)) Y.b_len bt_len (da_cons (de_var 1 rfl (vis_of (by kernel_rfl)) (by kernel_rfl) (by kernel_rfl)) (da_nil)) (by decide) (by kernel_rfl)) (de_op od_mul (de_int) (de_var 0 rfl (vis_of (by kernel_rfl)) (by kernel_rfl) (by kernel_rfl))) rfl) (de_one (de_bi (cd_all G.calm) (gl_of (by kernel_rfl)) Y.b_all bt_all (da_cons (de_lc (own := [("sign", 2)]) G (di_seq (de_var 1 rfl (vis_of (by kernel_rfl)) (by kernel_rfl) (by kernel_rfl))) (by kernel_rfl) rfl (fun _ _ _ _ _ => dg_name 2 (Good.blk G _ _ _ _ _).nd rfl (loc_of (by kernel_rfl)) (.inr (by kernel_rfl))) (fun _ _ _ _ _ => dts_nil) (fun _ _ _ _ _ => de_call (Good.blk G _ _ _ _ _) (ok_is_sign Y) (by decide) (gl_of (by kernel_rfl)) (da_cons (de_var 2 rfl (vis_of (by kernel_rfl)) (by kernel_rfl) (by kernel_rfl)) (da_nil)) (by kernel_rfl))) (da_nil)) (by decide) (by kernel_rfl)))))))
def n_letters_told : List Str := ["answers", "at"]
def f_letters_told : Sm := sRet (dMtS joinS (dC (.str "")) (aCons (dLc [1] (iArgs rng3 (aCons (dC (.int 0)) (aCons (dBi lenD (aCons (dVar 0) (aNil))) (aCons (dC (.int 2)) (aNil))))) (gN 1) (bYes) (un1 turnD (dTup (aCons (bin2 ixD (dVar 0) (dVar 1)) (aCons (bin2 ixD (dVar 0) (bin2 addD (dVar 1) (dC (.int 1)))) (aNil)))))) aNil))
def m_letters_told : List D → M D := outM f_letters_told 2
theorem sc_letters_told : FnScope n_letters_told ["answers"] (defScope s_letters_told) := ⟨(by kernel_rfl), (by kernel_rfl), (by kernel_rfl), by decide +kernel, rfl, by decide +kernel, by decide +kernel⟩
theorem pu_m_letters_told (ds : List D) : Pu (m_letters_told ds) := pu_outM (f := f_letters_told) (n := 2) (pu_sRet (pu_dMtS (pu_dC (.str "")) (pu_aCons (pu_dLc (pu_iArgs (pu_aCons (pu_dC (.int 0)) (pu_aCons (pu_dBi (pu_aCons (pu_dVar 0) (pu_aNil))) (pu_aCons (pu_dC (.int 2)) (pu_aNil))))) (pu_bYes) (pu_un1 (pu_dTup (pu_aCons (pu_bin2 (pu_dVar 0) (pu_dVar 1)) (pu_aCons (pu_bin2 (pu_dVar 0) (pu_bin2 (pu_dVar 1) (pu_dC (.int 1)))) (pu_aNil)))))) (pu_aNil)))) ds
theorem ok_letters_told (Y : Hy K mg) : DefOk P w K mg base 1 "letters_told" 1 m_letters_told := by
  obtain ⟨f, fd, F, hm, hb⟩ := Y.d_letters_told
  exact def_ok F hm hb sc_letters_told 1 rfl (by decide) fun cdv A outer s H E G => (dss_one (ds_ret (de_join (de_str) (de_lc (own := [("at", 1)]) G (di_rng3 (gl_of (by kernel_rfl)) Y.b_range (da_cons (de_int) (da_cons (de_bi cd_len (gl_of (by kernel_rfl)) Y.b_len bt_len (da_cons (de_var 0 rfl (vis_of (by kernel_rfl)) (by kernel_rfl) (by kernel_rfl)) (da_nil)) (by decide) (by kernel_rfl)) (da_cons (de_int) (da_nil))))) (by kernel_rfl) rfl (fun _ _ _ _ _ => dg_name 1 (Good.blk G _ _ _ _ _).nd rfl (loc_of (by kernel_rfl)) (.inr (by kernel_rfl))) (fun _ _ _ _ _ => dts_nil) (fun _ _ _ _ _ => de_turning (Good.blk G _ _ _ _ _) (gl_of (by kernel_rfl)) Y.t_TURNING.choose_spec.1 Y.t_TURNING.choose_spec.2 (de_tup (da_cons (de_ix (de_var 0 rfl (vis_of (by kernel_rfl)) (by kernel_rfl) (by kernel_rfl)) (de_var 1 rfl (vis_of (by kernel_rfl)) (by kernel_rfl) (by kernel_rfl)) (fun _ _ => rfl)) (da_cons (de_ix (de_var 0 rfl (vis_of (by kernel_rfl)) (by kernel_rfl) (by kernel_rfl)) (de_op od_add (de_var 1 rfl (vis_of (by kernel_rfl)) (by kernel_rfl) (by kernel_rfl)) (de_int)) (fun _ _ => rfl)) (da_nil)))) (fun _ _ => rfl) (by kernel_rfl))))))
def n_need_answers : List Str := ["crowd", "answers"]
def f_need_answers : Sm := sSeq (sExp (dFnN 1 m_need_crowd (aCons (dVar 0) (aNil)))) (sIf (bNot (bTru (dFnN 2 m_are_answers (aCons (dFnN 1 m_length_of (aCons (dVar 0) (aNil))) (aCons (dVar 1) (aNil)))))) (sNever) (sNil))
def m_need_answers : List D → M D := outM f_need_answers 2
theorem sc_need_answers : FnScope n_need_answers ["crowd", "answers"] (defScope s_need_answers) := ⟨(by kernel_rfl), (by kernel_rfl), (by kernel_rfl), by decide +kernel, rfl, by decide +kernel, by decide +kernel⟩
theorem pu_m_need_answers (ds : List D) : Pu (m_need_answers ds) := pu_outM (f := f_need_answers) (n := 2) (pu_sSeq (pu_sExp (pu_dFnN pu_m_need_crowd (pu_aCons (pu_dVar 0) (pu_aNil)))) (pu_sIf (pu_bNot (pu_bTru (pu_dFnN pu_m_are_answers (pu_aCons (pu_dFnN pu_m_length_of (pu_aCons (pu_dVar 0) (pu_aNil))) (pu_aCons (pu_dVar 1) (pu_aNil)))))) (pu_sNever) (pu_sNil))) ds
theorem ok_need_answers (Y : Hy K mg) : DefOk P w K mg base 7 "need_answers" 2 m_need_answers := by
  obtain ⟨f, fd, F, hm, hb⟩ := Y.d_need_answers
  exact def_ok F hm hb sc_need_answers 2 rfl (by decide) fun cdv A outer s H E G => (dss_cons (ds_expr (de_call G (ok_need_crowd Y) (by decide) (gl_of (by kernel_rfl)) (da_cons (de_var 0 rfl (vis_of (by kernel_rfl)) (by kernel_rfl) (by kernel_rfl)) (da_nil)) (by kernel_rfl))) (dss_one (ds_if (dt_not (dt_val (de_call G (ok_are_answers Y) (by decide) (gl_of (by kernel_rfl)) (da_cons (de_call G (ok_length_of Y) (by decide) (gl_of (by kernel_rfl)) (da_cons (de_var 0 rfl (vis_of (by kernel_rfl)) (by kernel_rfl) (by kernel_rfl)) (da_nil)) (by kernel_rfl)) (da_cons (de_var 1 rfl (vis_of (by kernel_rfl)) (by kernel_rfl) (by kernel_rfl)) (da_nil))) (by kernel_rfl)))) (dss_one (ds_never)) (dss_nil))))
def n_turn_letters : List Str := ["crowd", "answers"]
def f_turn_letters : Sm := sSeq (sExp (dFnN 2 m_need_answers (aCons (dVar 0) (aCons (dVar 1) (aNil))))) (sRet (dFnN 1 m_letters_told (aCons (dVar 1) (aNil))))
def m_turn_letters : List D → M D := outM f_turn_letters 2
theorem sc_turn_letters : FnScope n_turn_letters ["crowd", "answers"] (defScope s_turn_letters) := ⟨(by kernel_rfl), (by kernel_rfl), (by kernel_rfl), by decide +kernel, rfl, by decide +kernel, by decide +kernel⟩
theorem pu_m_turn_letters (ds : List D) : Pu (m_turn_letters ds) := pu_outM (f := f_turn_letters) (n := 2) (pu_sSeq (pu_sExp (pu_dFnN pu_m_need_answers (pu_aCons (pu_dVar 0) (pu_aCons (pu_dVar 1) (pu_aNil))))) (pu_sRet (pu_dFnN pu_m_letters_told (pu_aCons (pu_dVar 1) (pu_aNil))))) ds
theorem ok_turn_letters (Y : Hy K mg) : DefOk P w K mg base 8 "turn_letters" 2 m_turn_letters := by
  obtain ⟨f, fd, F, hm, hb⟩ := Y.d_turn_letters
  exact def_ok F hm hb sc_turn_letters 2 rfl (by decide) fun cdv A outer s H E G => (dss_cons (ds_expr (de_call G (ok_need_answers Y) (by decide) (gl_of (by kernel_rfl)) (da_cons (de_var 0 rfl (vis_of (by kernel_rfl)) (by kernel_rfl) (by kernel_rfl)) (da_cons (de_var 1 rfl (vis_of (by kernel_rfl)) (by kernel_rfl) (by kernel_rfl)) (da_nil))) (by kernel_rfl))) (dss_one (ds_ret (de_call G (ok_letters_told Y) (by decide) (gl_of (by kernel_rfl)) (da_cons (de_var 1 rfl (vis_of (by kernel_rfl)) (by kernel_rfl) (by kernel_rfl)) (da_nil)) (by kernel_rfl)))))
def n__law_begun : List Str := ["script", "cells_here", "large", "cell"]
theorem sc__law_begun : FnScope n__law_begun ["script"] (defScope s__law_begun) := ⟨(by kernel_rfl), (by kernel_rfl), (by kernel_rfl), by decide +kernel, rfl, by decide +kernel, by decide +kernel⟩
theorem ok__law_begun (Y : Hy K mg) : BegOk P w K mg base 1 "_law_begun" := by
  obtain ⟨f, fd, F, hm, hb⟩ := Y.d__law_begun
  refine ⟨f, fd, FunD.ok F sc__law_begun (fun vs H Q E h => by obtain ⟨a, ns, rfl, _⟩ := h; rfl) (fun cdv A outer s H vs Q E hr h => ?_), hm, F.kp, hb⟩
  obtain ⟨a, ns, rfl, hS, hlen, q⟩ := h
  have G : Good (cxOf (L2.CX P w) P w K mg base n__law_begun "_law_begun" (defScope s__law_begun) f cdv A outer s H E) E 0 := ⟨rfl, hr, sc__law_begun.nd, takes_of rfl rfl rfl rfl, passes_of rfl⟩
  refine ⟨_, pss_cons (ps_setLc (i := 1) (own := [("cell", 3)]) (g := tG [3] (gN 3)) (tt := tB' mg DL.E0 bYes) (te := tD mg DL.E0 eAbs) G.calm G.nd rfl (by kernel_rfl) (sw_true rfl (by kernel_rfl) (by kernel_rfl) (by kernel_rfl)) (pi_list (pe_var (i := 0) rfl (vis_of (by kernel_rfl)) (by kernel_rfl) (by kernel_rfl))) (blkOk_by (by kernel_rfl))
      (fun _ _ _ _ _ => dg_name 3 (Good.blk G _ _ _ _ _).nd rfl (loc_of (by kernel_rfl)) (.inr (by kernel_rfl))) (fun _ _ _ _ _ => dts_nil) (fun _ _ _ _ _ => de_bi cd_abs (gl_of (by kernel_rfl)) Y.b_abs bt_abs (da_cons (de_var 3 rfl (vis_of (by kernel_rfl)) (by kernel_rfl) (by kernel_rfl)) da_nil) (by decide) (by kernel_rfl)))
    (pss_cons (ps_setLc (i := 2) (own := [("cell", 3)]) (wi := tI mg E (iSeq (dVar 1))) (g := tG [3] (gN 3)) (tt := tB' mg DL.E0 tBig) (te := tD mg DL.E0 eLess) G.calm G.nd rfl (by kernel_rfl) (sw_true rfl (by kernel_rfl) (by kernel_rfl) (by kernel_rfl)) (di_seq (de_var 1 rfl (vis_of (by kernel_rfl)) (by kernel_rfl) (by kernel_rfl))) (blkOk_by (by kernel_rfl))
      (fun _ _ _ _ _ => dg_name 3 (Good.blk G _ _ _ _ _).nd rfl (loc_of (by kernel_rfl)) (.inr (by kernel_rfl))) (fun _ _ _ _ _ => dts_one (dt_cmp od_ge (de_var 3 rfl (vis_of (by kernel_rfl)) (by kernel_rfl) (by kernel_rfl)) (de_op od_pow de_int de_int) rfl))
      (fun _ _ _ _ _ => de_op od_sub (de_var 3 rfl (vis_of (by kernel_rfl)) (by kernel_rfl) (by kernel_rfl)) (de_op od_pow de_int de_int)))
    (pss_one (ps_ret (pe_disp (pps_cons pe_str (pe_var (i := 2) rfl (vis_of (by kernel_rfl)) (by kernel_rfl) (by kernel_rfl)) (pps_cons pe_str (pe_var (i := 1) rfl (vis_of (by kernel_rfl)) (by kernel_rfl) (by kernel_rfl)) (pps_cons pe_str pe_int (pps_cons pe_str pe_int pps_nil)))) rfl rfl (fun z => nomatch z) (by decide))))), ?_⟩
  have w0 : Wd none (begunS ns) (scrF H a) H := ⟨scrF_same H a, trivial⟩
  have en0 : EnvR none H (scrF H a) H (L2.start n__law_begun [.ref a]) [none, none, none, none] := EnvR.bare0 rfl fun i b h => by
    match i, h with
    | 0, h => cases h
    | 1, h => cases h
    | 2, h => cases h
    | 3, h => cases h
    | (_ + 4), h => cases h
  have sqF := scrF_sq hS
  refine seq_in (asg_in ?_)
  refine lc_tLc (X := cxOf (L2.CX P w) P w K mg base n__law_begun "_law_begun" (defScope s__law_begun) f cdv A outer s H E) (E := E) (own := [("cell", 3)]) (src := fun _ => pure (ns.map D.int)) (g := gN 3) (ix := [3]) (t := bYes) (e := eAbs) (rel := fun F' v d => Rep none F' v d ∧ ∃ A, v = .ref A ∧ H A = none) (all_mem rfl) w0 en0 (fun F' A acc hA r => ⟨r, A, rfl, hA⟩)
    (fun R gR => ⟨.ref a, rfl, a, rfl, ⟨_, hS⟩, gR (Itl K a) (scrF H a) H Grow.refl w0 (ItD.sq sqF (reps_ints ns))⟩) ?_
  show Goal _ _ _ _ _ _ _ (dLc [3] (fun _ => pure (ns.map D.int)) (gN 3) bYes eAbs [none, none, none, none] (begunS ns))
  rw [dLc_abs hlen]
  intro v1 F1 H1 g1 w1 ⟨r1, A1, e1, hA1⟩
  subst e1
  have c1 : F1 A1 = some (.lst ((begunS ns).cells.map nV)) := by
    cases r1 with
    | lst hp r => rw [reps_nat_inv r] at hp; exact hp
  have en1 := (en0.grow g1).setV (i := 1) r1
  refine name_in ?_
  dsimp only
  refine seq_in (asg_in ?_)
  refine lc_tLc (X := cxOf (L2.CX P w) P w K mg base n__law_begun "_law_begun" (defScope s__law_begun) f cdv A outer s H E) (E := E) (own := [("cell", 3)]) (src := iSeq (dVar 1)) (ix := [3]) (rel := fun F' v d => Rep none F' v d ∧ ∃ A, v = .ref A ∧ H1 A = none) (all_mem rfl) w1 en1 (fun F' A acc hA r => ⟨r, A, rfl, hA⟩)
    (fun R gR => ⟨none, H, F1, _, begunS ns, w1, en1, gR⟩) ?_
  show Goal _ _ _ _ _ _ _ (dLc [3] (iSeq (dVar 1)) (gN 3) tBig eLess [none, some (.val (.lst ((ns.map Int.natAbs).map fun n => D.int (n : Nat)))), none, none] (begunS ns))
  rw [dLc_big (by rw [List.length_map]; exact hlen)]
  intro v2 F2 H2 g2 w2 ⟨r2, A2, e2, hA2⟩
  subst e2
  have c2 : F2 A2 = some (.lst ((begunS ns).large.map nV)) := by
    cases r2 with
    | lst hp r => rw [reps_nat_inv r] at hp; exact hp
  have hne : A1 ≠ A2 := fun e => by rw [← e, w1.sub _ _ c1] at hA2; cases hA2
  refine name_in ?_
  dsimp only
  refine ret_in ?_
  intro p hp
  refine ⟨.ref A2, rfl, .ref A1, rfl, ?_⟩
  refine ⟨upd_same, kvDS A2 A1 (begunS ns), rfl, (by show 4 ≤ 15; decide), ?_⟩
  rw [merge_kv, upd_upd]
  exact begun_read hS (g1.f.trans g2.f) (g1.trans g2) w2 (w2.sub _ _ c2) (g1.free hA2) (g2.f _ _ c1) hne q hp

def n__law_draw : List Str := ["state", "size_here", "found", "turn", "cell", "mixed"]
def f__law_draw : Sm := sSeq (whL (bAnd (bTst (bin2 eqD (dLeft 0) (dC (.int 0)))) (bLarge 0)) (sPop 0) 100) (sSeq (sIf (bTst (bin2 gtD (dLeft 0) (dC (.int 0)))) (sSeq (sSet 2 (bin2 modD (dBi intD (aCons (dLeft 0) (aNil))) (dVar 1))) (sSeq (sPutLeft 0 (bin2 fdivD (dLeft 0) (dVar 1))) (sRet (dVar 2)))) (sNil)) (sSeq (sSet 3 (bin2 addD (dTurn 0) (dC (.int 1)))) (sSeq (sPutTurn 0 (dVar 3)) (sSeq (sSet 4 (dIf (bTst (bin2 neD (dCells 0) (dLst (aNil)))) (bin2 ixD (dCells 0) (bin2 modD (dBi intD (aCons (dVar 3) (aNil))) (dBi lenD (aCons (dCells 0) (aNil))))) (dC (.int 0)))) (sSeq (sSet 5 (bin2 modD (dBi intD (aCons (bin2 powD (bin2 addD (bin2 addD (bin2 modD (dBi intD (aCons (dVar 4) (aNil))) (dC (.int 2147483563))) (bin2 mulD (dC (.int 40692)) (dVar 3))) (dC (.int 24681))) (dC (.int 3))) (aNil))) (dC (.int 2147483629)))) (sRet (bin2 modD (dBi intD (aCons (bin2 fdivD (bin2 modD (dBi intD (aCons (bin2 powD (bin2 addD (dVar 5) (bin2 mulD (dC (.int 104917)) (dVar 3))) (dC (.int 5))) (aNil))) (dC (.int 2147483579))) (dC (.int 29))) (aNil))) (dVar 1))))))))
def m__law_draw : List D → M D := outM f__law_draw 6
theorem sc__law_draw : FnScope n__law_draw ["state", "size_here"] (defScope s__law_draw) := ⟨(by kernel_rfl), (by kernel_rfl), (by kernel_rfl), by decide +kernel, rfl, by decide +kernel, by decide +kernel⟩
theorem ok__law_draw (Y : Hy K mg) : DefOk P w K mg base 1 "_law_draw" 2 m__law_draw := by
  obtain ⟨f, fd, F, hm, hb⟩ := Y.d__law_draw
  exact def_ok F hm hb sc__law_draw 2 rfl (by decide) fun cdv A outer s H E G => (dss_cons (ds_while 100 G (PW.pt (dw_and (dt_cmp (od_eq G.room.units) (de_left 0 G rfl (vis_of (by kernel_rfl)) (by kernel_rfl) (by kernel_rfl)) (de_int) rfl) (dw_and1 (dt_large 0 G rfl (vis_of (by kernel_rfl)) (by kernel_rfl) (by kernel_rfl))))) (dss_one (ds_pop 0 G rfl (vis_of (by kernel_rfl)) (by kernel_rfl) (by kernel_rfl)))) (dss_cons (ds_if (dt_cmp od_gt (de_left 0 G rfl (vis_of (by kernel_rfl)) (by kernel_rfl) (by kernel_rfl)) (de_int) rfl) (dss_cons (ds_set 2 G.nd rfl (loc_of (by kernel_rfl)) (de_op od_mod (de_ty cd_int (gl_of (by kernel_rfl)) Y.b_int bt_int (da_cons (de_left 0 G rfl (vis_of (by kernel_rfl)) (by kernel_rfl) (by kernel_rfl)) (da_nil)) (by decide) (by kernel_rfl)) (de_var 1 rfl (vis_of (by kernel_rfl)) (by kernel_rfl) (by kernel_rfl)))) (dss_cons (ds_putLeft 0 G rfl (vis_of (by kernel_rfl)) (de_op od_fdiv (de_left 0 G rfl (vis_of (by kernel_rfl)) (by kernel_rfl) (by kernel_rfl)) (de_var 1 rfl (vis_of (by kernel_rfl)) (by kernel_rfl) (by kernel_rfl))) rfl (by kernel_rfl) (by kernel_rfl)) (dss_one (ds_ret (de_var 2 rfl (vis_of (by kernel_rfl)) (by kernel_rfl) (by kernel_rfl)))))) (dss_nil)) (dss_cons (ds_set 3 G.nd rfl (loc_of (by kernel_rfl)) (de_op od_add (de_turn 0 G rfl (vis_of (by kernel_rfl)) (by kernel_rfl) (by kernel_rfl)) (de_int))) (dss_cons (ds_putTurn 0 G rfl (vis_of (by kernel_rfl)) (de_var 3 rfl (vis_of (by kernel_rfl)) (by kernel_rfl) (by kernel_rfl)) rfl (by kernel_rfl) (by kernel_rfl)) (dss_cons (ds_set 4 G.nd rfl (loc_of (by kernel_rfl)) (de_if (dt_cmp (od_ne G.room.units) (de_cells 0 G rfl (vis_of (by kernel_rfl)) (by kernel_rfl) (by kernel_rfl)) (de_lst (da_nil)) rfl) (de_ix (de_cells 0 G rfl (vis_of (by kernel_rfl)) (by kernel_rfl) (by kernel_rfl)) (de_op od_mod (de_ty cd_int (gl_of (by kernel_rfl)) Y.b_int bt_int (da_cons (de_var 3 rfl (vis_of (by kernel_rfl)) (by kernel_rfl) (by kernel_rfl)) (da_nil)) (by decide) (by kernel_rfl)) (de_bi cd_len (gl_of (by kernel_rfl)) Y.b_len bt_len (da_cons (de_cells 0 G rfl (vis_of (by kernel_rfl)) (by kernel_rfl) (by kernel_rfl)) (da_nil)) (by decide) (by kernel_rfl))) (fun _ _ => rfl)) (de_int))) (dss_cons (ds_set 5 G.nd rfl (loc_of (by kernel_rfl)) (de_op od_mod (de_ty cd_int (gl_of (by kernel_rfl)) Y.b_int bt_int (da_cons (de_op od_pow (de_op od_add (de_op od_add (de_op od_mod (de_ty cd_int (gl_of (by kernel_rfl)) Y.b_int bt_int (da_cons (de_var 4 rfl (vis_of (by kernel_rfl)) (by kernel_rfl) (by kernel_rfl)) (da_nil)) (by decide) (by kernel_rfl)) (de_int)) (de_op od_mul (de_int) (de_var 3 rfl (vis_of (by kernel_rfl)) (by kernel_rfl) (by kernel_rfl)))) (de_int)) (de_int)) (da_nil)) (by decide) (by kernel_rfl)) (de_int))) (dss_one (ds_ret (de_op od_mod (de_ty cd_int (gl_of (by kernel_rfl)) Y.b_int bt_int (da_cons (de_op od_fdiv (de_op od_mod (de_ty cd_int (gl_of (by kernel_rfl)) Y.b_int bt_int (da_cons (de_op od_pow (de_op od_add (de_var 5 rfl (vis_of (by kernel_rfl)) (by kernel_rfl) (by kernel_rfl)) (de_op od_mul (de_int) (de_var 3 rfl (vis_of (by kernel_rfl)) (by kernel_rfl) (by kernel_rfl)))) (de_int)) (da_nil)) (by decide) (by kernel_rfl)) (de_int)) (de_int)) (da_nil)) (by decide) (by kernel_rfl)) (de_var 1 rfl (vis_of (by kernel_rfl)) (by kernel_rfl) (by kernel_rfl)))))))))))
def n__law_pick : List Str := ["state", "several"]
def f__law_pick : Sm := sRet (bin2 ixD (dVar 1) (dFnN 2 m__law_draw (aCons (dVar 0) (aCons (dBi lenD (aCons (dVar 1) (aNil))) (aNil)))))
def m__law_pick : List D → M D := outM f__law_pick 2
theorem sc__law_pick : FnScope n__law_pick ["state", "several"] (defScope s__law_pick) := ⟨(by kernel_rfl), (by kernel_rfl), (by kernel_rfl), by decide +kernel, rfl, by decide +kernel, by decide +kernel⟩
theorem ok__law_pick (Y : Hy K mg) : DefOk P w K mg base 2 "_law_pick" 2 m__law_pick := by
  obtain ⟨f, fd, F, hm, hb⟩ := Y.d__law_pick
  exact def_ok F hm hb sc__law_pick 2 rfl (by decide) fun cdv A outer s H E G => (dss_one (ds_ret (de_ix (de_var 1 rfl (vis_of (by kernel_rfl)) (by kernel_rfl) (by kernel_rfl)) (de_call G (ok__law_draw Y) (by decide) (gl_of (by kernel_rfl)) (da_cons (de_var 0 rfl (vis_of (by kernel_rfl)) (by kernel_rfl) (by kernel_rfl)) (da_cons (de_bi cd_len (gl_of (by kernel_rfl)) Y.b_len bt_len (da_cons (de_var 1 rfl (vis_of (by kernel_rfl)) (by kernel_rfl) (by kernel_rfl)) (da_nil)) (by decide) (by kernel_rfl)) (da_nil))) (by kernel_rfl)) (fun _ _ => rfl))))
def n__law_two : List Str := ["one", "other", "sign", "letters_here", "first", "second", "here", "there"]
def f__law_two : Sm := sSeq (sPar 2 3 (aCons (bin2 mulD (bin2 ixD (dVar 0) (dC (.int 0))) (bin2 ixD (dVar 1) (dC (.int 0)))) (aCons (dC (.str "")) (aNil)))) (sSeq (sFor (gTp 2 (gsCons (gN 4) (gsCons (gN 5) (gsNil)))) (iArgs zipA (aCons (bin2 ixD (dVar 0) (dC (.int 1))) (aCons (bin2 ixD (dVar 1) (dC (.int 1))) (aNil)))) (sSeq (sPar 6 7 (aCons (dMtS (fun z xs => idx1abc (.str z) xs) (dC (.str "1abc")) (aCons (dVar 4) aNil)) (aCons (dMtS (fun z xs => idx1abc (.str z) xs) (dC (.str "1abc")) (aCons (dVar 5) aNil)) (aNil)))) (sSeq (sIf (bAnd (bTst (bin2 gtD (dVar 6) (dC (.int 1)))) (bTst (bin2 eqD (bin2 modD (dBi intD (aCons (dVar 7) (aNil))) (dC (.int 2))) (dC (.int 1))))) (sSet 2 (un1 negD (dVar 2))) (sNil)) (sSet 3 (bin2 addD (dVar 3) (bin2 ixD (dC (.str "1abc")) (bin2 xorD (dVar 6) (dVar 7)))))))) (sRet (dTup (aCons (dVar 2) (aCons (dVar 3) (aNil))))))
def m__law_two : List D → M D := outM f__law_two 8
theorem sc__law_two : FnScope n__law_two ["one", "other"] (defScope s__law_two) := ⟨(by kernel_rfl), (by kernel_rfl), (by kernel_rfl), by decide +kernel, rfl, by decide +kernel, by decide +kernel⟩
theorem pu_m__law_two (ds : List D) : Pu (m__law_two ds) := pu_outM (f := f__law_two) (n := 8) (pu_sSeq (pu_sPar 2 3 (pu_aCons (pu_bin2 (pu_bin2 (pu_dVar 0) (pu_dC (.int 0))) (pu_bin2 (pu_dVar 1) (pu_dC (.int 0)))) (pu_aCons (pu_dC (.str "")) (pu_aNil)))) (pu_sSeq (pu_sFor (pu_iArgs (pu_aCons (pu_bin2 (pu_dVar 0) (pu_dC (.int 1))) (pu_aCons (pu_bin2 (pu_dVar 1) (pu_dC (.int 1))) (pu_aNil)))) (pu_sSeq (pu_sPar 6 7 (pu_aCons (pu_dMtS (pu_dC (.str "1abc")) (pu_aCons (pu_dVar 4) (pu_aNil))) (pu_aCons (pu_dMtS (pu_dC (.str "1abc")) (pu_aCons (pu_dVar 5) (pu_aNil))) (pu_aNil)))) (pu_sSeq (pu_sIf (pu_bAnd (pu_bTst (pu_bin2 (pu_dVar 6) (pu_dC (.int 1)))) (pu_bTst (pu_bin2 (pu_bin2 (pu_dBi (pu_aCons (pu_dVar 7) (pu_aNil))) (pu_dC (.int 2))) (pu_dC (.int 1))))) (pu_sSet 2 (pu_un1 (pu_dVar 2))) (pu_sNil)) (pu_sSet 3 (pu_bin2 (pu_dVar 3) (pu_bin2 (pu_dC (.str "1abc")) (pu_bin2 (pu_dVar 6) (pu_dVar 7)))))))) (pu_sRet (pu_dTup (pu_aCons (pu_dVar 2) (pu_aCons (pu_dVar 3) (pu_aNil))))))) ds
theorem ok__law_two (Y : Hy K mg) : DefOk P w K mg base 1 "_law_two" 2 m__law_two := by
  obtain ⟨f, fd, F, hm, hb⟩ := Y.d__law_two
  exact def_ok F hm hb sc__law_two 2 rfl (by decide) fun cdv A outer s H E G => (dss_cons (ds_par 2 3 G rfl rfl (by decide) (by kernel_rfl) (by kernel_rfl) (da_cons (de_op od_mul (de_ix (de_var 0 rfl (vis_of (by kernel_rfl)) (by kernel_rfl) (by kernel_rfl)) (de_int) (fun _ _ => rfl)) (de_ix (de_var 1 rfl (vis_of (by kernel_rfl)) (by kernel_rfl) (by kernel_rfl)) (de_int) (fun _ _ => rfl))) (da_cons (de_str) (da_nil))) (by kernel_rfl)) (dss_cons (ds_for G (di_zip (gl_of (by kernel_rfl)) Y.b_zip (da_cons (de_ix (de_var 0 rfl (vis_of (by kernel_rfl)) (by kernel_rfl) (by kernel_rfl)) (de_int) (fun _ _ => rfl)) (da_cons (de_ix (de_var 1 rfl (vis_of (by kernel_rfl)) (by kernel_rfl) (by kernel_rfl)) (de_int) (fun _ _ => rfl)) (da_nil)))) (dg_tup 2 G.calm (dgs_cons (dg_name 4 G.nd rfl (loc_of (by kernel_rfl)) (.inl rfl)) (dgs_cons (dg_name 5 G.nd rfl (loc_of (by kernel_rfl)) (.inl rfl)) (dgs_nil)))) (dss_cons (ds_par 6 7 G rfl rfl (by decide) (by kernel_rfl) (by kernel_rfl) (da_cons (de_index G (de_str) (de_var 4 rfl (vis_of (by kernel_rfl)) (by kernel_rfl) (by kernel_rfl))) (da_cons (de_index G (de_str) (de_var 5 rfl (vis_of (by kernel_rfl)) (by kernel_rfl) (by kernel_rfl))) (da_nil))) (by kernel_rfl)) (dss_cons (ds_if (PW.pt (dw_and (dt_cmp od_gt (de_var 6 rfl (vis_of (by kernel_rfl)) (by kernel_rfl) (by kernel_rfl)) (de_int) rfl) (dw_and1 (dt_cmp (od_eq G.room.units) (de_op od_mod (de_ty cd_int (gl_of (by kernel_rfl)) Y.b_int bt_int (da_cons (de_var 7 rfl (vis_of (by kernel_rfl)) (by kernel_rfl) (by kernel_rfl)) (da_nil)) (by decide) (by kernel_rfl)) (de_int)) (de_int) rfl)))) (dss_one (ds_set 2 G.nd rfl (loc_of (by kernel_rfl)) (de_neg (de_var 2 rfl (vis_of (by kernel_rfl)) (by kernel_rfl) (by kernel_rfl))))) (dss_nil)) (dss_one (ds_set 3 G.nd rfl (loc_of (by kernel_rfl)) (de_op od_add (de_var 3 rfl (vis_of (by kernel_rfl)) (by kernel_rfl) (by kernel_rfl)) (de_ix (de_str) (de_op od_xor (de_var 6 rfl (vis_of (by kernel_rfl)) (by kernel_rfl) (by kernel_rfl)) (de_var 7 rfl (vis_of (by kernel_rfl)) (by kernel_rfl) (by kernel_rfl))) (fun _ _ => rfl)))))))) (dss_one (ds_ret (de_tup (da_cons (de_var 2 rfl (vis_of (by kernel_rfl)) (by kernel_rfl) (by kernel_rfl)) (da_cons (de_var 3 rfl (vis_of (by kernel_rfl)) (by kernel_rfl) (by kernel_rfl)) (da_nil))))))))
def n__law_past : List Str := ["one", "other"]
def f__law_past : Sm := sRet (bin2 eqD (dFnN 2 m__law_two (aCons (dVar 0) (aCons (dVar 1) (aNil)))) (dFnN 2 m__law_two (aCons (dVar 1) (aCons (dVar 0) (aNil)))))
def m__law_past : List D → M D := outM f__law_past 2
theorem sc__law_past : FnScope n__law_past ["one", "other"] (defScope s__law_past) := ⟨(by kernel_rfl), (by kernel_rfl), (by kernel_rfl), by decide +kernel, rfl, by decide +kernel, by decide +kernel⟩
theorem pu_m__law_past (ds : List D) : Pu (m__law_past ds) := pu_outM (f := f__law_past) (n := 2) (pu_sRet (pu_bin2 (pu_dFnN pu_m__law_two (pu_aCons (pu_dVar 0) (pu_aCons (pu_dVar 1) (pu_aNil)))) (pu_dFnN pu_m__law_two (pu_aCons (pu_dVar 1) (pu_aCons (pu_dVar 0) (pu_aNil)))))) ds
theorem ok__law_past (Y : Hy K mg) : DefOk P w K mg base 2 "_law_past" 2 m__law_past := by
  obtain ⟨f, fd, F, hm, hb⟩ := Y.d__law_past
  exact def_ok F hm hb sc__law_past 2 rfl (by decide) fun cdv A outer s H E G => (dss_one (ds_ret (de_cmp (od_eq G.room.units) (de_call G (ok__law_two Y) (by decide) (gl_of (by kernel_rfl)) (da_cons (de_var 0 rfl (vis_of (by kernel_rfl)) (by kernel_rfl) (by kernel_rfl)) (da_cons (de_var 1 rfl (vis_of (by kernel_rfl)) (by kernel_rfl) (by kernel_rfl)) (da_nil))) (by kernel_rfl)) (de_call G (ok__law_two Y) (by decide) (gl_of (by kernel_rfl)) (da_cons (de_var 1 rfl (vis_of (by kernel_rfl)) (by kernel_rfl) (by kernel_rfl)) (da_cons (de_var 0 rfl (vis_of (by kernel_rfl)) (by kernel_rfl) (by kernel_rfl)) (da_nil))) (by kernel_rfl)) rfl)))
def n__law_lettered : List Str := ["letters_here", "spot", "letter"]
def f__law_lettered : Sm := sRet (bin2 addD (bin2 addD (dSl (dVar 0) (pNo) (pAt (dVar 1))) (dVar 2)) (dSl (dVar 0) (pAt (bin2 addD (dVar 1) (dC (.int 1)))) (pNo)))
def m__law_lettered : List D → M D := outM f__law_lettered 3
theorem sc__law_lettered : FnScope n__law_lettered ["letters_here", "spot", "letter"] (defScope s__law_lettered) := ⟨(by kernel_rfl), (by kernel_rfl), (by kernel_rfl), by decide +kernel, rfl, by decide +kernel, by decide +kernel⟩
theorem pu_m__law_lettered (ds : List D) : Pu (m__law_lettered ds) := pu_outM (f := f__law_lettered) (n := 3) (pu_sRet (pu_bin2 (pu_bin2 (pu_dSl (pu_dVar 0) (pu_pNo) (pu_pAt (pu_dVar 1))) (pu_dVar 2)) (pu_dSl (pu_dVar 0) (pu_pAt (pu_bin2 (pu_dVar 1) (pu_dC (.int 1)))) (pu_pNo)))) ds
theorem ok__law_lettered (Y : Hy K mg) : DefOk P w K mg base 1 "_law_lettered" 3 m__law_lettered := by
  obtain ⟨f, fd, F, hm, hb⟩ := Y.d__law_lettered
  exact def_ok F hm hb sc__law_lettered 3 rfl (by decide) fun cdv A outer s H E G => (dss_one (ds_ret (de_op od_add (de_op od_add (de_slice (de_var 0 rfl (vis_of (by kernel_rfl)) (by kernel_rfl) (by kernel_rfl)) (dp_no) (dp_at (de_var 1 rfl (vis_of (by kernel_rfl)) (by kernel_rfl) (by kernel_rfl)))) (de_var 2 rfl (vis_of (by kernel_rfl)) (by kernel_rfl) (by kernel_rfl))) (de_slice (de_var 0 rfl (vis_of (by kernel_rfl)) (by kernel_rfl) (by kernel_rfl)) (dp_at (de_op od_add (de_var 1 rfl (vis_of (by kernel_rfl)) (by kernel_rfl) (by kernel_rfl)) (de_int))) (dp_no)))))
def n__law_moved : List Str := ["each", "move", "sign", "letters_here", "spot", "own", "fresh", "other", "first", "second"]
def f__law_moved : Sm := sSeq (sAsg (gTp 2 (gsCons (gN 2) (gsCons (gN 3) (gsNil)))) (dVar 0)) (sSeq (sIf (bTst (bin2 eqD (bin2 ixD (dVar 1) (dC (.int 0))) (dC (.str "turn")))) (sRet (dIf (bTru (dFnN 2 m__law_past (aCons (dVar 0) (aCons (dTup (aCons (dC (.int 1)) (aCons (bin2 ixD (dVar 1) (dC (.int 1))) (aNil)))) (aNil))))) (dVar 0) (dTup (aCons (un1 negD (dVar 2)) (aCons (dVar 3) (aNil)))))) (sNil)) (sSeq (sSet 4 (bin2 ixD (dVar 1) (dC (.int 1)))) (sSeq (sSet 5 (bin2 ixD (dVar 3) (dVar 4))) (sSeq (sIf (bTst (bin2 eqD (bin2 ixD (dVar 1) (dC (.int 0))) (dC (.str "swap")))) (sSeq (sSet 6 (bin2 ixD (dC (.str "1bac")) (dMtS (fun z xs => idx1abc (.str z) xs) (dC (.str "1abc")) (aCons (dVar 5) aNil)))) (sRet (dTup (aCons (dIf (bTst (bin2 eqD (dVar 5) (dC (.str "c")))) (un1 negD (dVar 2)) (dVar 2)) (aCons (dFnN 3 m__law_lettered (aCons (dVar 3) (aCons (dVar 4) (aCons (dVar 6) (aNil))))) (aNil)))))) (sNil)) (sSeq (sSet 7 (bin2 ixD (dVar 3) (bin2 ixD (dVar 1) (dC (.int 2))))) (sSeq (sIf (bTst (bin2 eqD (bin2 ixD (dVar 1) (dC (.int 0))) (dC (.str "trade")))) (sRet (dTup (aCons (dVar 2) (aCons (dFnN 3 m__law_lettered (aCons (dFnN 3 m__law_lettered (aCons (dVar 3) (aCons (dVar 4) (aCons (dVar 7) (aNil))))) (aCons (bin2 ixD (dVar 1) (dC (.int 2))) (aCons (dVar 5) (aNil))))) (aNil))))) (sNil)) (sSeq (sSet 8 (dFnN 2 m__law_two (aCons (dTup (aCons (dVar 2) (aCons (dVar 5) (aNil)))) (aCons (dTup (aCons (dC (.int 1)) (aCons (dIf (bTst (bin2 inD (dVar 7) (dC (.str "bc")))) (dC (.str "b")) (dC (.str "1"))) (aNil)))) (aNil))))) (sSeq (sSet 9 (dFnN 2 m__law_two (aCons (dTup (aCons (dC (.int 1)) (aCons (dIf (bTst (bin2 inD (dVar 5) (dC (.str "ac")))) (dC (.str "a")) (dC (.str "1"))) (aNil)))) (aCons (dTup (aCons (dC (.int 1)) (aCons (dVar 7) (aNil)))) (aNil))))) (sRet (dTup (aCons (bin2 mulD (bin2 ixD (dVar 8) (dC (.int 0))) (bin2 ixD (dVar 9) (dC (.int 0)))) (aCons (dFnN 3 m__law_lettered (aCons (dFnN 3 m__law_lettered (aCons (dVar 3) (aCons (dVar 4) (aCons (bin2 ixD (dVar 8) (dC (.int 1))) (aNil))))) (aCons (bin2 ixD (dVar 1) (dC (.int 2))) (aCons (bin2 ixD (dVar 9) (dC (.int 1))) (aNil))))) (aNil)))))))))))))
def m__law_moved : List D → M D := outM f__law_moved 10
theorem sc__law_moved : FnScope n__law_moved ["each", "move"] (defScope s__law_moved) := ⟨(by kernel_rfl), (by kernel_rfl), (by kernel_rfl), by decide +kernel, rfl, by decide +kernel, by decide +kernel⟩
theorem pu_m__law_moved (ds : List D) : Pu (m__law_moved ds) := pu_outM (f := f__law_moved) (n := 10) (pu_sSeq (pu_sAsg (pu_dVar 0)) (pu_sSeq (pu_sIf (pu_bTst (pu_bin2 (pu_bin2 (pu_dVar 1) (pu_dC (.int 0))) (pu_dC (.str "turn")))) (pu_sRet (pu_dIf (pu_bTru (pu_dFnN pu_m__law_past (pu_aCons (pu_dVar 0) (pu_aCons (pu_dTup (pu_aCons (pu_dC (.int 1)) (pu_aCons (pu_bin2 (pu_dVar 1) (pu_dC (.int 1))) (pu_aNil)))) (pu_aNil))))) (pu_dVar 0) (pu_dTup (pu_aCons (pu_un1 (pu_dVar 2)) (pu_aCons (pu_dVar 3) (pu_aNil)))))) (pu_sNil)) (pu_sSeq (pu_sSet 4 (pu_bin2 (pu_dVar 1) (pu_dC (.int 1)))) (pu_sSeq (pu_sSet 5 (pu_bin2 (pu_dVar 3) (pu_dVar 4))) (pu_sSeq (pu_sIf (pu_bTst (pu_bin2 (pu_bin2 (pu_dVar 1) (pu_dC (.int 0))) (pu_dC (.str "swap")))) (pu_sSeq (pu_sSet 6 (pu_bin2 (pu_dC (.str "1bac")) (pu_dMtS (pu_dC (.str "1abc")) (pu_aCons (pu_dVar 5) (pu_aNil))))) (pu_sRet (pu_dTup (pu_aCons (pu_dIf (pu_bTst (pu_bin2 (pu_dVar 5) (pu_dC (.str "c")))) (pu_un1 (pu_dVar 2)) (pu_dVar 2)) (pu_aCons (pu_dFnN pu_m__law_lettered (pu_aCons (pu_dVar 3) (pu_aCons (pu_dVar 4) (pu_aCons (pu_dVar 6) (pu_aNil))))) (pu_aNil)))))) (pu_sNil)) (pu_sSeq (pu_sSet 7 (pu_bin2 (pu_dVar 3) (pu_bin2 (pu_dVar 1) (pu_dC (.int 2))))) (pu_sSeq (pu_sIf (pu_bTst (pu_bin2 (pu_bin2 (pu_dVar 1) (pu_dC (.int 0))) (pu_dC (.str "trade")))) (pu_sRet (pu_dTup (pu_aCons (pu_dVar 2) (pu_aCons (pu_dFnN pu_m__law_lettered (pu_aCons (pu_dFnN pu_m__law_lettered (pu_aCons (pu_dVar 3) (pu_aCons (pu_dVar 4) (pu_aCons (pu_dVar 7) (pu_aNil))))) (pu_aCons (pu_bin2 (pu_dVar 1) (pu_dC (.int 2))) (pu_aCons (pu_dVar 5) (pu_aNil))))) (pu_aNil))))) (pu_sNil)) (pu_sSeq (pu_sSet 8 (pu_dFnN pu_m__law_two (pu_aCons (pu_dTup (pu_aCons (pu_dVar 2) (pu_aCons (pu_dVar 5) (pu_aNil)))) (pu_aCons (pu_dTup (pu_aCons (pu_dC (.int 1)) (pu_aCons (pu_dIf (pu_bTst (pu_bin2 (pu_dVar 7) (pu_dC (.str "bc")))) (pu_dC (.str "b")) (pu_dC (.str "1"))) (pu_aNil)))) (pu_aNil))))) (pu_sSeq (pu_sSet 9 (pu_dFnN pu_m__law_two (pu_aCons (pu_dTup (pu_aCons (pu_dC (.int 1)) (pu_aCons (pu_dIf (pu_bTst (pu_bin2 (pu_dVar 5) (pu_dC (.str "ac")))) (pu_dC (.str "a")) (pu_dC (.str "1"))) (pu_aNil)))) (pu_aCons (pu_dTup (pu_aCons (pu_dC (.int 1)) (pu_aCons (pu_dVar 7) (pu_aNil)))) (pu_aNil))))) (pu_sRet (pu_dTup (pu_aCons (pu_bin2 (pu_bin2 (pu_dVar 8) (pu_dC (.int 0))) (pu_bin2 (pu_dVar 9) (pu_dC (.int 0)))) (pu_aCons (pu_dFnN pu_m__law_lettered (pu_aCons (pu_dFnN pu_m__law_lettered (pu_aCons (pu_dVar 3) (pu_aCons (pu_dVar 4) (pu_aCons (pu_bin2 (pu_dVar 8) (pu_dC (.int 1))) (pu_aNil))))) (pu_aCons (pu_bin2 (pu_dVar 1) (pu_dC (.int 2))) (pu_aCons (pu_bin2 (pu_dVar 9) (pu_dC (.int 1))) (pu_aNil))))) (pu_aNil)))))))))))))) ds
theorem ok__law_moved (Y : Hy K mg) : DefOk P w K mg base 3 "_law_moved" 2 m__law_moved := by
  obtain ⟨f, fd, F, hm, hb⟩ := Y.d__law_moved
  exact def_ok F hm hb sc__law_moved 2 rfl (by decide) fun cdv A outer s H E G => (dss_cons (ds_asg (de_var 0 rfl (vis_of (by kernel_rfl)) (by kernel_rfl) (by kernel_rfl)) (dg_tup 2 G.calm (dgs_cons (dg_name 2 G.nd rfl (loc_of (by kernel_rfl)) (.inl rfl)) (dgs_cons (dg_name 3 G.nd rfl (loc_of (by kernel_rfl)) (.inl rfl)) (dgs_nil))))) (dss_cons (ds_if (dt_cmp (od_eq G.room.units) (de_ix (de_var 1 rfl (vis_of (by kernel_rfl)) (by kernel_rfl) (by kernel_rfl)) (de_int) (fun _ _ => rfl)) (de_str) rfl) (dss_one (ds_ret (de_if (dt_val (de_call G (ok__law_past Y) (by decide) (gl_of (by kernel_rfl)) (da_cons (de_var 0 rfl (vis_of (by kernel_rfl)) (by kernel_rfl) (by kernel_rfl)) (da_cons (de_tup (da_cons (de_int) (da_cons (de_ix (de_var 1 rfl (vis_of (by kernel_rfl)) (by kernel_rfl) (by kernel_rfl)) (de_int) (fun _ _ => rfl)) (da_nil)))) (da_nil))) (by kernel_rfl))) (de_var 0 rfl (vis_of (by kernel_rfl)) (by kernel_rfl) (by kernel_rfl)) (de_tup (da_cons (de_neg (de_var 2 rfl (vis_of (by kernel_rfl)) (by kernel_rfl) (by kernel_rfl))) (da_cons (de_var 3 rfl (vis_of (by kernel_rfl)) (by kernel_rfl) (by kernel_rfl)) (da_nil))))))) (dss_nil)) (dss_cons (ds_set 4 G.nd rfl (loc_of (by kernel_rfl)) (de_ix (de_var 1 rfl (vis_of (by kernel_rfl)) (by kernel_rfl) (by kernel_rfl)) (de_int) (fun _ _ => rfl))) (dss_cons (ds_set 5 G.nd rfl (loc_of (by kernel_rfl)) (de_ix (de_var 3 rfl (vis_of (by kernel_rfl)) (by kernel_rfl) (by kernel_rfl)) (de_var 4 rfl (vis_of (by kernel_rfl)) (by kernel_rfl) (by kernel_rfl)) (fun _ _ => rfl))) (dss_cons (ds_if (dt_cmp (od_eq G.room.units) (de_ix (de_var 1 rfl (vis_of (by kernel_rfl)) (by kernel_rfl) (by kernel_rfl)) (de_int) (fun _ _ => rfl)) (de_str) rfl) (dss_cons (ds_set 6 G.nd rfl (loc_of (by kernel_rfl)) (de_ix (de_str) (de_index G (de_str) (de_var 5 rfl (vis_of (by kernel_rfl)) (by kernel_rfl) (by kernel_rfl))) (fun _ _ => rfl))) (dss_one (ds_ret (de_tup (da_cons (de_if (dt_cmp (od_eq G.room.units) (de_var 5 rfl (vis_of (by kernel_rfl)) (by kernel_rfl) (by kernel_rfl)) (de_str) rfl) (de_neg (de_var 2 rfl (vis_of (by kernel_rfl)) (by kernel_rfl) (by kernel_rfl))) (de_var 2 rfl (vis_of (by kernel_rfl)) (by kernel_rfl) (by kernel_rfl))) (da_cons (de_call G (ok__law_lettered Y) (by decide) (gl_of (by kernel_rfl)) (da_cons (de_var 3 rfl (vis_of (by kernel_rfl)) (by kernel_rfl) (by kernel_rfl)) (da_cons (de_var 4 rfl (vis_of (by kernel_rfl)) (by kernel_rfl) (by kernel_rfl)) (da_cons (de_var 6 rfl (vis_of (by kernel_rfl)) (by kernel_rfl) (by kernel_rfl)) (da_nil)))) (by kernel_rfl)) (da_nil))))))) (dss_nil)) (dss_cons (ds_set 7 G.nd rfl (loc_of (by kernel_rfl)) (de_ix (de_var 3 rfl (vis_of (by kernel_rfl)) (by kernel_rfl) (by kernel_rfl)) (de_ix (de_var 1 rfl (vis_of (by kernel_rfl)) (by kernel_rfl) (by kernel_rfl)) (de_int) (fun _ _ => rfl)) (fun _ _ => rfl))) (dss_cons (ds_if (dt_cmp (od_eq G.room.units) (de_ix (de_var 1 rfl (vis_of (by kernel_rfl)) (by kernel_rfl) (by kernel_rfl)) (de_int) (fun _ _ => rfl)) (de_str) rfl) (dss_one (ds_ret (de_tup (da_cons (de_var 2 rfl (vis_of (by kernel_rfl)) (by kernel_rfl) (by kernel_rfl)) (da_cons (de_call G (ok__law_lettered Y) (by decide) (gl_of (by kernel_rfl)) (da_cons (de_call G (ok__law_lettered Y) (by decide) (gl_of (by kernel_rfl)) (da_cons (de_var 3 rfl (vis_of (by kernel_rfl)) (by kernel_rfl) (by kernel_rfl)) (da_cons (de_var 4 rfl (vis_of (by kernel_rfl)) (by kernel_rfl) (by kernel_rfl)) (da_cons (de_var 7 rfl (vis_of (by kernel_rfl)) (by kernel_rfl) (by kernel_rfl)) (da_nil)))) (by kernel_rfl)) (da_cons (de_ix (de_var 1 rfl (vis_of (by kernel_rfl)) (by kernel_rfl) (by kernel_rfl)) (de_int) (fun _ _ => rfl)) (da_cons (de_var 5 rfl (vis_of (by kernel_rfl)) (by kernel_rfl) (by kernel_rfl)) (da_nil)))) (by kernel_rfl)) (da_nil)))))) (dss_nil)) (dss_cons (ds_set 8 G.nd rfl (loc_of (by kernel_rfl)) (de_call G (ok__law_two Y) (by decide) (gl_of (by kernel_rfl)) (da_cons (de_tup (da_cons (de_var 2 rfl (vis_of (by kernel_rfl)) (by kernel_rfl) (by kernel_rfl)) (da_cons (de_var 5 rfl (vis_of (by kernel_rfl)) (by kernel_rfl) (by kernel_rfl)) (da_nil)))) (da_cons (de_tup (da_cons (de_int) (da_cons (de_if (dt_cmp od_in (de_var 7 rfl (vis_of (by kernel_rfl)) (by kernel_rfl) (by kernel_rfl)) (de_str) rfl) (de_str) (de_str)) (da_nil)))) (da_nil))) (by kernel_rfl))) (dss_cons (ds_set 9 G.nd rfl (loc_of (by kernel_rfl)) (de_call G (ok__law_two Y) (by decide) (gl_of (by kernel_rfl)) (da_cons (de_tup (da_cons (de_int) (da_cons (de_if (dt_cmp od_in (de_var 5 rfl (vis_of (by kernel_rfl)) (by kernel_rfl) (by kernel_rfl)) (de_str) rfl) (de_str) (de_str)) (da_nil)))) (da_cons (de_tup (da_cons (de_int) (da_cons (de_var 7 rfl (vis_of (by kernel_rfl)) (by kernel_rfl) (by kernel_rfl)) (da_nil)))) (da_nil))) (by kernel_rfl))) (dss_one (ds_ret (de_tup (da_cons (de_op od_mul (de_ix (de_var 8 rfl (vis_of (by kernel_rfl)) (by kernel_rfl) (by kernel_rfl)) (de_int) (fun _ _ => rfl)) (de_ix (de_var 9 rfl (vis_of (by kernel_rfl)) (by kernel_rfl) (by kernel_rfl)) (de_int) (fun _ _ => rfl))) (da_cons (de_call G (ok__law_lettered Y) (by decide) (gl_of (by kernel_rfl)) (da_cons (de_call G (ok__law_lettered Y) (by decide) (gl_of (by kernel_rfl)) (da_cons (de_var 3 rfl (vis_of (by kernel_rfl)) (by kernel_rfl) (by kernel_rfl)) (da_cons (de_var 4 rfl (vis_of (by kernel_rfl)) (by kernel_rfl) (by kernel_rfl)) (da_cons (de_ix (de_var 8 rfl (vis_of (by kernel_rfl)) (by kernel_rfl) (by kernel_rfl)) (de_int) (fun _ _ => rfl)) (da_nil)))) (by kernel_rfl)) (da_cons (de_ix (de_var 1 rfl (vis_of (by kernel_rfl)) (by kernel_rfl) (by kernel_rfl)) (de_int) (fun _ _ => rfl)) (da_cons (de_ix (de_var 9 rfl (vis_of (by kernel_rfl)) (by kernel_rfl) (by kernel_rfl)) (de_int) (fun _ _ => rfl)) (da_nil)))) (by kernel_rfl)) (da_nil)))))))))))))))
def n__law_led : List Str := ["several", "moves_here", "found", "move", "each"]
def f__law_led : Sm := sSeq (sSet 2 (dBi listD (aCons (dVar 0) (aNil)))) (sSeq (sFor (gN 3) (iSeq (dVar 1)) (sSet 2 (dLc [4] (iSeq (dVar 2)) (gN 4) (bYes) (dFnN 2 m__law_moved (aCons (dVar 4) (aCons (dVar 3) (aNil))))))) (sRet (dVar 2)))
def m__law_led : List D → M D := outM f__law_led 5
theorem sc__law_led : FnScope n__law_led ["several", "moves_here"] (defScope s__law_led) := ⟨(by kernel_rfl), (by kernel_rfl), (by kernel_rfl), by decide +kernel, rfl, by decide +kernel, by decide +kernel⟩
theorem pu_m__law_led (ds : List D) : Pu (m__law_led ds) := pu_outM (f := f__law_led) (n := 5) (pu_sSeq (pu_sSet 2 (pu_dBi (pu_aCons (pu_dVar 0) (pu_aNil)))) (pu_sSeq (pu_sFor (pu_iSeq (pu_dVar 1)) (pu_sSet 2 (pu_dLc (pu_iSeq (pu_dVar 2)) (pu_bYes) (pu_dFnN pu_m__law_moved (pu_aCons (pu_dVar 4) (pu_aCons (pu_dVar 3) (pu_aNil))))))) (pu_sRet (pu_dVar 2)))) ds
theorem ok__law_led (Y : Hy K mg) : DefOk P w K mg base 4 "_law_led" 2 m__law_led := by
  obtain ⟨f, fd, F, hm, hb⟩ := Y.d__law_led
  exact def_ok F hm hb sc__law_led 2 rfl (by decide) fun cdv A outer s H E G => (dss_cons (ds_set 2 G.nd rfl (loc_of (by kernel_rfl)) (de_ty cd_list (gl_of (by kernel_rfl)) Y.b_list bt_list (da_cons (de_var 0 rfl (vis_of (by kernel_rfl)) (by kernel_rfl) (by kernel_rfl)) (da_nil)) (by decide) (by kernel_rfl))) (dss_cons (ds_for G (di_seq (de_var 1 rfl (vis_of (by kernel_rfl)) (by kernel_rfl) (by kernel_rfl))) (dg_name 3 G.nd rfl (loc_of (by kernel_rfl)) (.inl rfl)) (dss_one (ds_setLc 2 (own := [("each", 4)]) G rfl (by kernel_rfl) (sw_true rfl (by kernel_rfl) (by kernel_rfl) (by kernel_rfl)) (di_seq (de_var 2 rfl (vis_of (by kernel_rfl)) (by kernel_rfl) (by kernel_rfl))) (by kernel_rfl) rfl (fun _ _ _ _ _ => dg_name 4 (Good.blk G _ _ _ _ _).nd rfl (loc_of (by kernel_rfl)) (.inr (by kernel_rfl))) (fun _ _ _ _ _ => dts_nil) (fun _ _ _ _ _ => de_call (Good.blk G _ _ _ _ _) (ok__law_moved Y) (by decide) (gl_of (by kernel_rfl)) (da_cons (de_var 4 rfl (vis_of (by kernel_rfl)) (by kernel_rfl) (by kernel_rfl)) (da_cons (de_var 3 rfl (vis_of (by kernel_rfl)) (by kernel_rfl) (by kernel_rfl)) (da_nil))) (by kernel_rfl))))) (dss_one (ds_ret (de_var 2 rfl (vis_of (by kernel_rfl)) (by kernel_rfl) (by kernel_rfl))))))
def n__law_cd_beside : List Str := ["one", "other", "first", "second", "sign", "letters_here"]
def f__law_cd_beside : Sm := sSeq (sAsg (gTp 2 (gsCons (gN 2) (gsCons (gN 3) (gsNil)))) (dTup (aCons (dBi lenD (aCons (bin2 ixD (bin2 ixD (dVar 0) (dC (.int 0))) (dC (.int 1))) (aNil))) (aCons (dBi lenD (aCons (bin2 ixD (bin2 ixD (dVar 1) (dC (.int 0))) (dC (.int 1))) (aNil))) (aNil))))) (sRet (bin2 addD (dLc [4, 5] (iSeq (dVar 0)) (gTp 2 (gsCons (gN 4) (gsCons (gN 5) (gsNil)))) (bYes) (dTup (aCons (dVar 4) (aCons (bin2 addD (dVar 5) (bin2 mulD (dC (.str "1")) (dVar 3))) (aNil))))) (dLc [4, 5] (iSeq (dVar 1)) (gTp 2 (gsCons (gN 4) (gsCons (gN 5) (gsNil)))) (bYes) (dTup (aCons (dVar 4) (aCons (bin2 addD (bin2 mulD (dC (.str "1")) (dVar 2)) (dVar 5)) (aNil)))))))
def m__law_cd_beside : List D → M D := outM f__law_cd_beside 6
theorem sc__law_cd_beside : FnScope n__law_cd_beside ["one", "other"] (defScope s__law_cd_beside) := ⟨(by kernel_rfl), (by kernel_rfl), (by kernel_rfl), by decide +kernel, rfl, by decide +kernel, by decide +kernel⟩
theorem pu_m__law_cd_beside (ds : List D) : Pu (m__law_cd_beside ds) := pu_outM (f := f__law_cd_beside) (n := 6) (pu_sSeq (pu_sAsg (pu_dTup (pu_aCons (pu_dBi (pu_aCons (pu_bin2 (pu_bin2 (pu_dVar 0) (pu_dC (.int 0))) (pu_dC (.int 1))) (pu_aNil))) (pu_aCons (pu_dBi (pu_aCons (pu_bin2 (pu_bin2 (pu_dVar 1) (pu_dC (.int 0))) (pu_dC (.int 1))) (pu_aNil))) (pu_aNil))))) (pu_sRet (pu_bin2 (pu_dLc (pu_iSeq (pu_dVar 0)) (pu_bYes) (pu_dTup (pu_aCons (pu_dVar 4) (pu_aCons (pu_bin2 (pu_dVar 5) (pu_bin2 (pu_dC (.str "1")) (pu_dVar 3))) (pu_aNil))))) (pu_dLc (pu_iSeq (pu_dVar 1)) (pu_bYes) (pu_dTup (pu_aCons (pu_dVar 4) (pu_aCons (pu_bin2 (pu_bin2 (pu_dC (.str "1")) (pu_dVar 2)) (pu_dVar 5)) (pu_aNil)))))))) ds
theorem ok__law_cd_beside (Y : Hy K mg) : DefOk P w K mg base 1 "_law_cd_beside" 2 m__law_cd_beside := by
  obtain ⟨f, fd, F, hm, hb⟩ := Y.d__law_cd_beside
  exact def_ok F hm hb sc__law_cd_beside 2 rfl (by decide) fun cdv A outer s H E G => (dss_cons (ds_asg (de_tup (da_cons (de_bi cd_len (gl_of (by kernel_rfl)) Y.b_len bt_len (da_cons (de_ix (de_ix (de_var 0 rfl (vis_of (by kernel_rfl)) (by kernel_rfl) (by kernel_rfl)) (de_int) (fun _ _ => rfl)) (de_int) (fun _ _ => rfl)) (da_nil)) (by decide) (by kernel_rfl)) (da_cons (de_bi cd_len (gl_of (by kernel_rfl)) Y.b_len bt_len (da_cons (de_ix (de_ix (de_var 1 rfl (vis_of (by kernel_rfl)) (by kernel_rfl) (by kernel_rfl)) (de_int) (fun _ _ => rfl)) (de_int) (fun _ _ => rfl)) (da_nil)) (by decide) (by kernel_rfl)) (da_nil)))) (dg_tup 2 G.calm (dgs_cons (dg_name 2 G.nd rfl (loc_of (by kernel_rfl)) (.inl rfl)) (dgs_cons (dg_name 3 G.nd rfl (loc_of (by kernel_rfl)) (.inl rfl)) (dgs_nil))))) (dss_one (ds_ret (de_op od_add (de_lc (own := [("sign", 4), ("letters_here", 5)]) G (di_seq (de_var 0 rfl (vis_of (by kernel_rfl)) (by kernel_rfl) (by kernel_rfl))) (by kernel_rfl) rfl (fun _ _ _ _ _ => dg_tup 2 (Good.blk G _ _ _ _ _).calm (dgs_cons (dg_name 4 (Good.blk G _ _ _ _ _).nd rfl (loc_of (by kernel_rfl)) (.inr (by kernel_rfl))) (dgs_cons (dg_name 5 (Good.blk G _ _ _ _ _).nd rfl (loc_of (by kernel_rfl)) (.inr (by kernel_rfl))) (dgs_nil)))) (fun _ _ _ _ _ => dts_nil) (fun _ _ _ _ _ => de_tup (da_cons (de_var 4 rfl (vis_of (by kernel_rfl)) (by kernel_rfl) (by kernel_rfl)) (da_cons (de_op od_add (de_var 5 rfl (vis_of (by kernel_rfl)) (by kernel_rfl) (by kernel_rfl)) (de_op od_mul (de_str) (de_var 3 rfl (vis_of (by kernel_rfl)) (by kernel_rfl) (by kernel_rfl)))) (da_nil))))) (de_lc (own := [("sign", 4), ("letters_here", 5)]) G (di_seq (de_var 1 rfl (vis_of (by kernel_rfl)) (by kernel_rfl) (by kernel_rfl))) (by kernel_rfl) rfl (fun _ _ _ _ _ => dg_tup 2 (Good.blk G _ _ _ _ _).calm (dgs_cons (dg_name 4 (Good.blk G _ _ _ _ _).nd rfl (loc_of (by kernel_rfl)) (.inr (by kernel_rfl))) (dgs_cons (dg_name 5 (Good.blk G _ _ _ _ _).nd rfl (loc_of (by kernel_rfl)) (.inr (by kernel_rfl))) (dgs_nil)))) (fun _ _ _ _ _ => dts_nil) (fun _ _ _ _ _ => de_tup (da_cons (de_var 4 rfl (vis_of (by kernel_rfl)) (by kernel_rfl) (by kernel_rfl)) (da_cons (de_op od_add (de_op od_mul (de_str) (de_var 2 rfl (vis_of (by kernel_rfl)) (by kernel_rfl) (by kernel_rfl))) (de_var 5 rfl (vis_of (by kernel_rfl)) (by kernel_rfl) (by kernel_rfl))) (da_nil)))))))))
def n_law : List Str := ["script", "state", "lap", "size_here", "one", "here", "row", "answers", "first", "last", "place_here", "letter", "text", "start", "each", "told", "sign", "letters_here", "at"]
-- fl_0: size_here = 1 + _law_draw(state, 2)
-- fl_1: one = shared_crowd(size_here)
-- fl_2: here, row, answers = (_law_cd_beside(one, one), [], ())
-- fl_3: first, last = (tuple(range(size_here)), tuple(range(3 * size_here, 4 * size_here)))
-- fl_4: return False
-- fl_5: if three_bonds(here, first, last) != (0, size_here, size_here, 0):
-- fl_6: text = ''.join([letter if at in (size_here + place_here, 2 * size_here + place_here) else 
-- fl_7: row.append((1, text))
-- fl_8: for letter in 'ab':
-- fl_9: for place_here in range(size_here):
-- fl_10: start = here
-- fl_11: told, sign = (asked(here, each), _law_pick(state, [1, -1]))
-- fl_12: return False
-- fl_13: if told[0] != 'open':
-- fl_14: here, answers = (told[1 if sign == 1 else 2], answers + (sign,))
-- fl_15: for each in row:
-- fl_16: return False
-- fl_17: if row_chance(start, row, answers) != 2 * size_here or three_bonds(here, first, last) != (
-- fl_18: letters_here = '1' * size_here + turn_letters(plain_crowd(size_here, size_here), answers)
-- fl_19: text = each[1][:size_here] + '1' * (2 * size_here) + each[1][size_here:]
-- fl_20: return False
-- fl_21: if says(here, (each[0], text)) != 1:
-- fl_22: for each in _law_led(list(one), [('turn', letters_here)]):
def fl_0 : Sm := sSet 3 (bin2 addD (dC (.int 1)) (dFnN 2 m__law_draw (aCons (dVar 1) (aCons (dC (.int 2)) (aNil)))))
def fl_1 : Sm := sSet 4 (dFnN 1 m_shared_crowd (aCons (dVar 3) (aNil)))
theorem pu_fl_1 : PuF fl_1 := pu_sSet 4 (pu_dFnN pu_m_shared_crowd (pu_aCons (pu_dVar 3) (pu_aNil)))
def fl_2 : Sm := sPar3o 5 6 7 (dFnN 2 m__law_cd_beside (aCons (dVar 4) (aCons (dVar 4) (aNil)))) (dTup (aNil))
theorem pu_fl_2 : PuF fl_2 := pu_sPar3o 5 6 7 (pu_dFnN pu_m__law_cd_beside (pu_aCons (pu_dVar 4) (pu_aCons (pu_dVar 4) (pu_aNil)))) (pu_dTup (pu_aNil))
def fl_3 : Sm := sPar 8 9 (aCons (un1 (tupRgD (.int 0)) (dVar 3)) (aCons (bin2 tupRgD (bin2 mulD (dC (.int 3)) (dVar 3)) (bin2 mulD (dC (.int 4)) (dVar 3))) (aNil)))
theorem pu_fl_3 : PuF fl_3 := pu_sPar 8 9 (pu_aCons (pu_un1 (pu_dVar 3)) (pu_aCons (pu_bin2 (pu_bin2 (pu_dC (.int 3)) (pu_dVar 3)) (pu_bin2 (pu_dC (.int 4)) (pu_dVar 3))) (pu_aNil)))
def fl_4 : Sm := sRet (dC (.bl false))
theorem pu_fl_4 : PuF fl_4 := pu_sRet (pu_dC (.bl false))
def fl_5 : Sm := sIf (bTst (bin2 neD (dFnN 3 m_three_bonds (aCons (dVar 5) (aCons (dVar 8) (aCons (dVar 9) (aNil))))) (dTup (aCons (dC (.int 0)) (aCons (dVar 3) (aCons (dVar 3) (aCons (dC (.int 0)) (aNil)))))))) (fl_4) (sNil)
theorem pu_fl_5 : PuF fl_5 := pu_sIf (pu_bTst (pu_bin2 (pu_dFnN pu_m_three_bonds (pu_aCons (pu_dVar 5) (pu_aCons (pu_dVar 8) (pu_aCons (pu_dVar 9) (pu_aNil))))) (pu_dTup (pu_aCons (pu_dC (.int 0)) (pu_aCons (pu_dVar 3) (pu_aCons (pu_dVar 3) (pu_aCons (pu_dC (.int 0)) (pu_aNil)))))))) (pu_fl_4) (pu_sNil)
def fl_6 : Sm := sSet 12 (dMtS joinS (dC (.str "")) (aCons (dLc [18] (iArgs rng1 (aCons (bin2 mulD (dC (.int 4)) (dVar 3)) (aNil))) (gN 18) (bYes) (dIf (bTst (bin2 inD (dVar 18) (dTup (aCons (bin2 addD (dVar 3) (dVar 10)) (aCons (bin2 addD (bin2 mulD (dC (.int 2)) (dVar 3)) (dVar 10)) (aNil)))))) (dVar 11) (dC (.str "1")))) aNil))
theorem pu_fl_6 : PuF fl_6 := pu_sSet 12 (pu_dMtS (pu_dC (.str "")) (pu_aCons (pu_dLc (pu_iArgs (pu_aCons (pu_bin2 (pu_dC (.int 4)) (pu_dVar 3)) (pu_aNil))) (pu_bYes) (pu_dIf (pu_bTst (pu_bin2 (pu_dVar 18) (pu_dTup (pu_aCons (pu_bin2 (pu_dVar 3) (pu_dVar 10)) (pu_aCons (pu_bin2 (pu_bin2 (pu_dC (.int 2)) (pu_dVar 3)) (pu_dVar 10)) (pu_aNil)))))) (pu_dVar 11) (pu_dC (.str "1")))) (pu_aNil)))
def fl_7 : Sm := sApp 6 (dTup (aCons (dC (.int 1)) (aCons (dVar 12) (aNil))))
theorem pu_fl_7 : PuF fl_7 := pu_sApp 6 (pu_dTup (pu_aCons (pu_dC (.int 1)) (pu_aCons (pu_dVar 12) (pu_aNil))))
def fl_8 : Sm := sFor (gN 11) (iSeq (dC (.str "ab"))) (sSeq (fl_6) (fl_7))
theorem pu_fl_8 : PuF fl_8 := pu_sFor (pu_iSeq (pu_dC (.str "ab"))) (pu_sSeq (pu_fl_6) (pu_fl_7))
def fl_9 : Sm := sFor (gN 10) (iArgs rng1 (aCons (dVar 3) (aNil))) (fl_8)
theorem pu_fl_9 : PuF fl_9 := pu_sFor (pu_iArgs (pu_aCons (pu_dVar 3) (pu_aNil))) (pu_fl_8)
def fl_10 : Sm := sSet 13 (dVar 5)
theorem pu_fl_10 : PuF fl_10 := pu_sSet 13 (pu_dVar 5)
def fl_11 : Sm := sPar 15 16 (aCons (dFnN 2 m_asked (aCons (dVar 5) (aCons (dVar 14) (aNil)))) (aCons (dFnN 2 m__law_pick (aCons (dVar 1) (aCons (dLst (aCons (dC (.int 1)) (aCons (un1 negD (dC (.int 1))) (aNil)))) (aNil)))) (aNil)))
def fl_12 : Sm := sRet (dC (.bl false))
theorem pu_fl_12 : PuF fl_12 := pu_sRet (pu_dC (.bl false))
def fl_13 : Sm := sIf (bTst (bin2 neD (bin2 ixD (dVar 15) (dC (.int 0))) (dC (.str "open")))) (fl_12) (sNil)
theorem pu_fl_13 : PuF fl_13 := pu_sIf (pu_bTst (pu_bin2 (pu_bin2 (pu_dVar 15) (pu_dC (.int 0))) (pu_dC (.str "open")))) (pu_fl_12) (pu_sNil)
def fl_14 : Sm := sPar 5 7 (aCons (bin2 ixD (dVar 15) (dIf (bTst (bin2 eqD (dVar 16) (dC (.int 1)))) (dC (.int 1)) (dC (.int 2)))) (aCons (bin2 addD (dVar 7) (dTup (aCons (dVar 16) (aNil)))) (aNil)))
theorem pu_fl_14 : PuF fl_14 := pu_sPar 5 7 (pu_aCons (pu_bin2 (pu_dVar 15) (pu_dIf (pu_bTst (pu_bin2 (pu_dVar 16) (pu_dC (.int 1)))) (pu_dC (.int 1)) (pu_dC (.int 2)))) (pu_aCons (pu_bin2 (pu_dVar 7) (pu_dTup (pu_aCons (pu_dVar 16) (pu_aNil)))) (pu_aNil)))
def fl_15 : Sm := sFor (gN 14) (iSeq (dVar 6)) (sSeq (fl_11) (sSeq (fl_13) (fl_14)))
def fl_16 : Sm := sRet (dC (.bl false))
theorem pu_fl_16 : PuF fl_16 := pu_sRet (pu_dC (.bl false))
def fl_17 : Sm := sIf (bOr (bTst (bin2 neD (dFnN 3 m_row_chance (aCons (dVar 13) (aCons (dVar 6) (aCons (dVar 7) (aNil))))) (bin2 mulD (dC (.int 2)) (dVar 3)))) (bTst (bin2 neD (dFnN 3 m_three_bonds (aCons (dVar 5) (aCons (dVar 8) (aCons (dVar 9) (aNil))))) (dTup (aCons (dVar 3) (aCons (dC (.int 0)) (aCons (dC (.int 0)) (aCons (dC (.int 0)) (aNil))))))))) (fl_16) (sNil)
theorem pu_fl_17 : PuF fl_17 := pu_sIf (pu_bOr (pu_bTst (pu_bin2 (pu_dFnN pu_m_row_chance (pu_aCons (pu_dVar 13) (pu_aCons (pu_dVar 6) (pu_aCons (pu_dVar 7) (pu_aNil))))) (pu_bin2 (pu_dC (.int 2)) (pu_dVar 3)))) (pu_bTst (pu_bin2 (pu_dFnN pu_m_three_bonds (pu_aCons (pu_dVar 5) (pu_aCons (pu_dVar 8) (pu_aCons (pu_dVar 9) (pu_aNil))))) (pu_dTup (pu_aCons (pu_dVar 3) (pu_aCons (pu_dC (.int 0)) (pu_aCons (pu_dC (.int 0)) (pu_aCons (pu_dC (.int 0)) (pu_aNil))))))))) (pu_fl_16) (pu_sNil)
def fl_18 : Sm := sSet 17 (bin2 addD (bin2 mulD (dC (.str "1")) (dVar 3)) (dFnN 2 m_turn_letters (aCons (dFnN 2 m_plain_crowd (aCons (dVar 3) (aCons (dVar 3) (aNil)))) (aCons (dVar 7) (aNil)))))
theorem pu_fl_18 : PuF fl_18 := pu_sSet 17 (pu_bin2 (pu_bin2 (pu_dC (.str "1")) (pu_dVar 3)) (pu_dFnN pu_m_turn_letters (pu_aCons (pu_dFnN pu_m_plain_crowd (pu_aCons (pu_dVar 3) (pu_aCons (pu_dVar 3) (pu_aNil)))) (pu_aCons (pu_dVar 7) (pu_aNil)))))
def fl_19 : Sm := sSet 12 (bin2 addD (bin2 addD (dSl (bin2 ixD (dVar 14) (dC (.int 1))) (pNo) (pAt (dVar 3))) (bin2 mulD (dC (.str "1")) (bin2 mulD (dC (.int 2)) (dVar 3)))) (dSl (bin2 ixD (dVar 14) (dC (.int 1))) (pAt (dVar 3)) (pNo)))
theorem pu_fl_19 : PuF fl_19 := pu_sSet 12 (pu_bin2 (pu_bin2 (pu_dSl (pu_bin2 (pu_dVar 14) (pu_dC (.int 1))) (pu_pNo) (pu_pAt (pu_dVar 3))) (pu_bin2 (pu_dC (.str "1")) (pu_bin2 (pu_dC (.int 2)) (pu_dVar 3)))) (pu_dSl (pu_bin2 (pu_dVar 14) (pu_dC (.int 1))) (pu_pAt (pu_dVar 3)) (pu_pNo)))
def fl_20 : Sm := sRet (dC (.bl false))
theorem pu_fl_20 : PuF fl_20 := pu_sRet (pu_dC (.bl false))
def fl_21 : Sm := sIf (bTst (bin2 neD (dFnN 2 m_says (aCons (dVar 5) (aCons (dTup (aCons (bin2 ixD (dVar 14) (dC (.int 0))) (aCons (dVar 12) (aNil)))) (aNil)))) (dC (.int 1)))) (fl_20) (sNil)
theorem pu_fl_21 : PuF fl_21 := pu_sIf (pu_bTst (pu_bin2 (pu_dFnN pu_m_says (pu_aCons (pu_dVar 5) (pu_aCons (pu_dTup (pu_aCons (pu_bin2 (pu_dVar 14) (pu_dC (.int 0))) (pu_aCons (pu_dVar 12) (pu_aNil)))) (pu_aNil)))) (pu_dC (.int 1)))) (pu_fl_20) (pu_sNil)
def fl_22 : Sm := sFor (gN 14) (iSeq (dFnN 2 m__law_led (aCons (dBi listD (aCons (dVar 4) (aNil))) (aCons (dLst (aCons (dTup (aCons (dC (.str "turn")) (aCons (dVar 17) (aNil)))) (aNil))) (aNil))))) (sSeq (fl_19) (fl_21))
theorem pu_fl_22 : PuF fl_22 := pu_sFor (pu_iSeq (pu_dFnN pu_m__law_led (pu_aCons (pu_dBi (pu_aCons (pu_dVar 4) (pu_aNil))) (pu_aCons (pu_dLst (pu_aCons (pu_dTup (pu_aCons (pu_dC (.str "turn")) (pu_aCons (pu_dVar 17) (pu_aNil)))) (pu_aNil))) (pu_aNil))))) (pu_sSeq (pu_fl_19) (pu_fl_21))
def fl : Sm := sDrop [0, 2, 3, 4, 5, 6, 7, 8, 9, 10, 11, 12, 13, 14, 15, 16, 17, 18] (sSeq (fl_0) (sSeq (fl_1) (sSeq (fl_2) (sSeq (fl_3) (sSeq (fl_5) (sSeq (fl_9) (sSeq (fl_10) (sFrz 6 (sSeq (fl_15) (sFrz 6 (sSeq (fl_17) (sSeq (fl_18) (fl_22)))))))))))))
theorem sc_law : FnScope n_law ["script"] (defScope s_law) := ⟨(by kernel_rfl), (by kernel_rfl), (by kernel_rfl), by decide +kernel, rfl, by decide +kernel, by decide +kernel⟩
theorem ok_law {f : Addr} {fd : FuncData} (Y : Hy K mg) (F : FunD K "law" "law" (defArgs s_law) (defBody s_law) (defScope s_law) [] [] f fd) (hlap : LapOk 19 1 fl) : FnOk P w K mg base (L2.CX P w) 9 f fd ["script"] (spLaw K) := by
  exact law_ok (A := 2) (B := 4) (N := n_law) (st := 1) (lp := 2) (k := 8) (fl := fl) F sc_law (by decide) rfl rfl rfl (by decide) (by decide) (by decide) (vis_of (by kernel_rfl)) (loc_of (by kernel_rfl)) (loc_of (by kernel_rfl)) (by kernel_rfl) (by kernel_rfl) (by kernel_rfl) (by kernel_rfl) Y.b_range Y.b_min Y.b_len bt_min bt_len (ok__law_begun Y) (by decide) (by decide) hlap (fun _ => rfl) fun cdv A outer s H E G => (ds_drop [0, 2, 3, 4, 5, 6, 7, 8, 9, 10, 11, 12, 13, 14, 15, 16, 17, 18] (dss_cons (ds_set 3 G.nd rfl (loc_of (by kernel_rfl)) (de_op od_add (de_int) (de_call G (ok__law_draw Y) (by decide) (gl_of (by kernel_rfl)) (da_cons (de_var 1 rfl (vis_of (by kernel_rfl)) (by kernel_rfl) (by kernel_rfl)) (da_cons (de_int) (da_nil))) (by kernel_rfl)))) (dss_cons (ds_set 4 G.nd rfl (loc_of (by kernel_rfl)) (de_call G (ok_shared_crowd Y) (by decide) (gl_of (by kernel_rfl)) (da_cons (de_var 3 rfl (vis_of (by kernel_rfl)) (by kernel_rfl) (by kernel_rfl)) (da_nil)) (by kernel_rfl))) (dss_cons (ds_par3o 5 6 7 G rfl rfl rfl (by decide) (by decide) (by decide) (by kernel_rfl) (by kernel_rfl) (by kernel_rfl) (de_call G (ok__law_cd_beside Y) (by decide) (gl_of (by kernel_rfl)) (da_cons (de_var 4 rfl (vis_of (by kernel_rfl)) (by kernel_rfl) (by kernel_rfl)) (da_cons (de_var 4 rfl (vis_of (by kernel_rfl)) (by kernel_rfl) (by kernel_rfl)) (da_nil))) (by kernel_rfl)) (de_tup (da_nil)) (by kernel_rfl)) (dss_cons (ds_par 8 9 G rfl rfl (by decide) (by kernel_rfl) (by kernel_rfl) (da_cons (de_tupRg1 G (gl_of (by kernel_rfl)) Y.b_tuple (gl_of (by kernel_rfl)) Y.b_range (de_var 3 rfl (vis_of (by kernel_rfl)) (by kernel_rfl) (by kernel_rfl))) (da_cons (de_tupRg2 G (gl_of (by kernel_rfl)) Y.b_tuple (gl_of (by kernel_rfl)) Y.b_range (de_op od_mul (de_int) (de_var 3 rfl (vis_of (by kernel_rfl)) (by kernel_rfl) (by kernel_rfl))) (de_op od_mul (de_int) (de_var 3 rfl (vis_of (by kernel_rfl)) (by kernel_rfl) (by kernel_rfl)))) (da_nil))) (by kernel_rfl)) (dss_cons (ds_if (dt_cmp (od_ne G.room.units) (de_call G (ok_three_bonds Y) (by decide) (gl_of (by kernel_rfl)) (da_cons (de_var 5 rfl (vis_of (by kernel_rfl)) (by kernel_rfl) (by kernel_rfl)) (da_cons (de_var 8 rfl (vis_of (by kernel_rfl)) (by kernel_rfl) (by kernel_rfl)) (da_cons (de_var 9 rfl (vis_of (by kernel_rfl)) (by kernel_rfl) (by kernel_rfl)) (da_nil)))) (by kernel_rfl)) (de_tup (da_cons (de_int) (da_cons (de_var 3 rfl (vis_of (by kernel_rfl)) (by kernel_rfl) (by kernel_rfl)) (da_cons (de_var 3 rfl (vis_of (by kernel_rfl)) (by kernel_rfl) (by kernel_rfl)) (da_cons (de_int) (da_nil)))))) rfl) (dss_one (ds_ret (de_bl))) (dss_nil)) (dss_cons (ds_for G (di_rng1 (gl_of (by kernel_rfl)) Y.b_range (da_cons (de_var 3 rfl (vis_of (by kernel_rfl)) (by kernel_rfl) (by kernel_rfl)) (da_nil))) (dg_name 10 G.nd rfl (loc_of (by kernel_rfl)) (.inl rfl)) (dss_one (ds_for G (di_seq (de_str)) (dg_name 11 G.nd rfl (loc_of (by kernel_rfl)) (.inl rfl)) (dss_cons (ds_set 12 G.nd rfl (loc_of (by kernel_rfl)) (de_join (de_str) (de_lc (own := [("at", 18)]) G (di_rng1 (gl_of (by kernel_rfl)) Y.b_range (da_cons (de_op od_mul (de_int) (de_var 3 rfl (vis_of (by kernel_rfl)) (by kernel_rfl) (by kernel_rfl))) (da_nil))) (by kernel_rfl) rfl (fun _ _ _ _ _ => dg_name 18 (Good.blk G _ _ _ _ _).nd rfl (loc_of (by kernel_rfl)) (.inr (by kernel_rfl))) (fun _ _ _ _ _ => dts_nil) (fun _ _ _ _ _ => de_if (dt_cmp od_in (de_var 18 rfl (vis_of (by kernel_rfl)) (by kernel_rfl) (by kernel_rfl)) (de_tup (da_cons (de_op od_add (de_var 3 rfl (vis_of (by kernel_rfl)) (by kernel_rfl) (by kernel_rfl)) (de_var 10 rfl (vis_of (by kernel_rfl)) (by kernel_rfl) (by kernel_rfl))) (da_cons (de_op od_add (de_op od_mul (de_int) (de_var 3 rfl (vis_of (by kernel_rfl)) (by kernel_rfl) (by kernel_rfl))) (de_var 10 rfl (vis_of (by kernel_rfl)) (by kernel_rfl) (by kernel_rfl))) (da_nil)))) rfl) (de_var 11 rfl (vis_of (by kernel_rfl)) (by kernel_rfl) (by kernel_rfl)) (de_str))))) (dss_one (ds_app 6 rfl (vis_of (by kernel_rfl)) (de_tup (da_cons (de_int) (da_cons (de_var 12 rfl (vis_of (by kernel_rfl)) (by kernel_rfl) (by kernel_rfl)) (da_nil)))) (by kernel_rfl) (by kernel_rfl))))))) (dss_cons (ds_set 13 G.nd rfl (loc_of (by kernel_rfl)) (de_var 5 rfl (vis_of (by kernel_rfl)) (by kernel_rfl) (by kernel_rfl))) (ds_frz 6 (dss_cons (ds_for G (di_seq (de_var 6 rfl (vis_of (by kernel_rfl)) (by kernel_rfl) (by kernel_rfl))) (dg_name 14 G.nd rfl (loc_of (by kernel_rfl)) (.inl rfl)) (dss_cons (ds_par 15 16 G rfl rfl (by decide) (by kernel_rfl) (by kernel_rfl) (da_cons (de_call G (ok_asked Y) (by decide) (gl_of (by kernel_rfl)) (da_cons (de_var 5 rfl (vis_of (by kernel_rfl)) (by kernel_rfl) (by kernel_rfl)) (da_cons (de_var 14 rfl (vis_of (by kernel_rfl)) (by kernel_rfl) (by kernel_rfl)) (da_nil))) (by kernel_rfl)) (da_cons (de_call G (ok__law_pick Y) (by decide) (gl_of (by kernel_rfl)) (da_cons (de_var 1 rfl (vis_of (by kernel_rfl)) (by kernel_rfl) (by kernel_rfl)) (da_cons (de_lst (da_cons (de_int) (da_cons (de_neg (de_int)) (da_nil)))) (da_nil))) (by kernel_rfl)) (da_nil))) (by kernel_rfl)) (dss_cons (ds_if (dt_cmp (od_ne G.room.units) (de_ix (de_var 15 rfl (vis_of (by kernel_rfl)) (by kernel_rfl) (by kernel_rfl)) (de_int) (fun _ _ => rfl)) (de_str) rfl) (dss_one (ds_ret (de_bl))) (dss_nil)) (dss_one (ds_par 5 7 G rfl rfl (by decide) (by kernel_rfl) (by kernel_rfl) (da_cons (de_ix (de_var 15 rfl (vis_of (by kernel_rfl)) (by kernel_rfl) (by kernel_rfl)) (de_if (dt_cmp (od_eq G.room.units) (de_var 16 rfl (vis_of (by kernel_rfl)) (by kernel_rfl) (by kernel_rfl)) (de_int) rfl) (de_int) (de_int)) (fun _ _ => rfl)) (da_cons (de_op od_add (de_var 7 rfl (vis_of (by kernel_rfl)) (by kernel_rfl) (by kernel_rfl)) (de_tup (da_cons (de_var 16 rfl (vis_of (by kernel_rfl)) (by kernel_rfl) (by kernel_rfl)) (da_nil)))) (da_nil))) (by kernel_rfl)))))) (ds_frz 6 (dss_cons (ds_if (PW.pt (dw_or (dt_cmp (od_ne G.room.units) (de_call G (ok_row_chance Y) (by decide) (gl_of (by kernel_rfl)) (da_cons (de_var 13 rfl (vis_of (by kernel_rfl)) (by kernel_rfl) (by kernel_rfl)) (da_cons (de_var 6 rfl (vis_of (by kernel_rfl)) (by kernel_rfl) (by kernel_rfl)) (da_cons (de_var 7 rfl (vis_of (by kernel_rfl)) (by kernel_rfl) (by kernel_rfl)) (da_nil)))) (by kernel_rfl)) (de_op od_mul (de_int) (de_var 3 rfl (vis_of (by kernel_rfl)) (by kernel_rfl) (by kernel_rfl))) rfl) (dw_or1 (dt_cmp (od_ne G.room.units) (de_call G (ok_three_bonds Y) (by decide) (gl_of (by kernel_rfl)) (da_cons (de_var 5 rfl (vis_of (by kernel_rfl)) (by kernel_rfl) (by kernel_rfl)) (da_cons (de_var 8 rfl (vis_of (by kernel_rfl)) (by kernel_rfl) (by kernel_rfl)) (da_cons (de_var 9 rfl (vis_of (by kernel_rfl)) (by kernel_rfl) (by kernel_rfl)) (da_nil)))) (by kernel_rfl)) (de_tup (da_cons (de_var 3 rfl (vis_of (by kernel_rfl)) (by kernel_rfl) (by kernel_rfl)) (da_cons (de_int) (da_cons (de_int) (da_cons (de_int) (da_nil)))))) rfl)))) (dss_one (ds_ret (de_bl))) (dss_nil)) (dss_cons (ds_set 17 G.nd rfl (loc_of (by kernel_rfl)) (de_op od_add (de_op od_mul (de_str) (de_var 3 rfl (vis_of (by kernel_rfl)) (by kernel_rfl) (by kernel_rfl))) (de_call G (ok_turn_letters Y) (by decide) (gl_of (by kernel_rfl)) (da_cons (de_call G (ok_plain_crowd Y) (by decide) (gl_of (by kernel_rfl)) (da_cons (de_var 3 rfl (vis_of (by kernel_rfl)) (by kernel_rfl) (by kernel_rfl)) (da_cons (de_var 3 rfl (vis_of (by kernel_rfl)) (by kernel_rfl) (by kernel_rfl)) (da_nil))) (by kernel_rfl)) (da_cons (de_var 7 rfl (vis_of (by kernel_rfl)) (by kernel_rfl) (by kernel_rfl)) (da_nil))) (by kernel_rfl)))) (dss_one (ds_for G (di_seq (de_call G (ok__law_led Y) (by decide) (gl_of (by kernel_rfl)) (da_cons (de_ty cd_list (gl_of (by kernel_rfl)) Y.b_list bt_list (da_cons (de_var 4 rfl (vis_of (by kernel_rfl)) (by kernel_rfl) (by kernel_rfl)) (da_nil)) (by decide) (by kernel_rfl)) (da_cons (de_lst (da_cons (de_tup (da_cons (de_str) (da_cons (de_var 17 rfl (vis_of (by kernel_rfl)) (by kernel_rfl) (by kernel_rfl)) (da_nil)))) (da_nil))) (da_nil))) (by kernel_rfl))) (dg_name 14 G.nd rfl (loc_of (by kernel_rfl)) (.inl rfl)) (dss_cons (ds_set 12 G.nd rfl (loc_of (by kernel_rfl)) (de_op od_add (de_op od_add (de_slice (de_ix (de_var 14 rfl (vis_of (by kernel_rfl)) (by kernel_rfl) (by kernel_rfl)) (de_int) (fun _ _ => rfl)) (dp_no) (dp_at (de_var 3 rfl (vis_of (by kernel_rfl)) (by kernel_rfl) (by kernel_rfl)))) (de_op od_mul (de_str) (de_op od_mul (de_int) (de_var 3 rfl (vis_of (by kernel_rfl)) (by kernel_rfl) (by kernel_rfl))))) (de_slice (de_ix (de_var 14 rfl (vis_of (by kernel_rfl)) (by kernel_rfl) (by kernel_rfl)) (de_int) (fun _ _ => rfl)) (dp_at (de_var 3 rfl (vis_of (by kernel_rfl)) (by kernel_rfl) (by kernel_rfl))) (dp_no)))) (dss_one (ds_if (dt_cmp (od_ne G.room.units) (de_call G (ok_says Y) (by decide) (gl_of (by kernel_rfl)) (da_cons (de_var 5 rfl (vis_of (by kernel_rfl)) (by kernel_rfl) (by kernel_rfl)) (da_cons (de_tup (da_cons (de_ix (de_var 14 rfl (vis_of (by kernel_rfl)) (by kernel_rfl) (by kernel_rfl)) (de_int) (fun _ _ => rfl)) (da_cons (de_var 12 rfl (vis_of (by kernel_rfl)) (by kernel_rfl) (by kernel_rfl)) (da_nil)))) (da_nil))) (by kernel_rfl)) (de_int) rfl) (dss_one (ds_ret (de_bl))) (dss_nil)))))))))))))))))))
end Hd

set_option Elab.async false
set_option linter.all false
set_option maxRecDepth 1000000
set_option maxHeartbeats 0
namespace Hd
open PySem PySem.Spec PyProof.Rows L2 DL
/-! ### the finite check: every way of drawing in a lap -/
def s0 : DS := ⟨[], [], 0, 0⟩
def nxOf (o : Option (Except Ex Fl × DS)) : Option Ev := match o with
  | some (.ok (.nx ρ), _) => some ρ
  | _ => none
def resOf (o : Option (Except Ex D × DS)) : Option D := match o with
  | some (.ok d, _) => some d
  | _ => none
theorem nxOf_of {o : Option (Except Ex Fl × DS)} {ρ : Ev} (h : nxOf o = some ρ) : ∃ s, o = some (.ok (.nx ρ), s) := by
  match o, h with
  | some (.ok (.nx ρ'), s), h => cases h; exact ⟨s, rfl⟩
  | none, h => cases h
  | some (.error _, _), h => cases h
  | some (.ok (.rt _), _), h => cases h
  | some (.ok (.bk _), _), h => cases h
  | some (.ok (.ct _), _), h => cases h
theorem resOf_of {o : Option (Except Ex D × DS)} {d : D} (h : resOf o = some d) : ∃ s, o = some (.ok d, s) := by
  match o, h with
  | some (.ok d', s), h => cases h; exact ⟨s, rfl⟩
  | none, h => cases h
  | some (.error _, _), h => cases h
theorem sSeq_assoc (a b c : Sm) : sSeq (sSeq a b) c = sSeq a (sSeq b c) := by
  funext ρ
  show (a ρ >>= sThen b) >>= sThen c = a ρ >>= sThen (sSeq b c)
  rw [M.bind_assoc]
  congr 1
  funext o
  cases o <;> rfl
theorem sFrz_seq (i : Nat) (g : Sm) : sFrz i g = sSeq (sFrz i sNil) g := by
  funext ρ
  show sFrz i g ρ = sFrz i sNil ρ >>= sThen g
  unfold sFrz
  split <;> rfl
def ask : Ev → M D := dFnN 2 m_asked (aCons (dVar 5) (aCons (dVar 14) aNil))
theorem pu_ask : PuF ask := pu_dFnN pu_m_asked (pu_aCons (pu_dVar 5) (pu_aCons (pu_dVar 14) pu_aNil))
def pick : Ev → M D := dFnN 2 m__law_pick (aCons (dVar 1) (aCons (dLst (aCons (dC (.int 1)) (aCons (un1 negD (dC (.int 1))) (aNil)))) (aNil)))
def tail : Sm := sSeq fl_13 fl_14
theorem pu_tail : PuF tail := pu_sSeq pu_fl_13 pu_fl_14
def body : Sm := sSeq fl_11 tail
def partA : Sm := sSeq fl_1 (sSeq fl_2 (sSeq fl_3 (sSeq fl_5 (sSeq fl_9 (sSeq fl_10 (sFrz 6 sNil))))))
theorem pu_partA : PuF partA := pu_sSeq pu_fl_1 (pu_sSeq pu_fl_2 (pu_sSeq pu_fl_3 (pu_sSeq pu_fl_5 (pu_sSeq pu_fl_9 (pu_sSeq pu_fl_10 (pu_sFrz 6 pu_sNil))))))
def partB : Sm := sFrz 6 (sSeq fl_17 (sSeq fl_18 fl_22))
theorem pu_partB : PuF partB := pu_sFrz 6 (pu_sSeq pu_fl_17 (pu_sSeq pu_fl_18 pu_fl_22))
def stB (ρ : Ev) : Bool := match ρ[1]? with
  | some (some (DL.B.val DL.D.st)) => true
  | _ => false
theorem stB_of {ρ : Ev} (h : stB ρ = true) : ρ[1]? = some (some (.val .st)) := by
  unfold stB at h
  split at h
  · assumption
  · cases h
def okEv (ρ : Ev) : Bool := decide (ρ.length = 19) && stB ρ
def askR (w : D) (ρ : Ev) : Option D := resOf (ask (ρ.set 14 (some (.val w))) s0)
def stepR (sg : Int) (t w : D) (ρ : Ev) : Option Ev := nxOf (tail (((ρ.set 14 (some (.val w))).set 15 (some (.val t))).set 16 (some (.val (.int sg)))) s0)
def fin (ρ : Ev) : Bool := match nxOf (partB ρ s0) with
  | some ρ' => okEv ρ'
  | none => false
def rowT : List D → Ev → Bool
  | [], ρ => fin ρ
  | w :: ws, ρ => match askR w ρ with
    | some t => (match stepR 1 t w ρ with
      | some ρ1 => stB ρ1 && rowT ws ρ1
      | none => false) && (match stepR (-1) t w ρ with
      | some ρ2 => stB ρ2 && rowT ws ρ2
      | none => false)
    | none => false
def eN (n : Int) : Ev := [none, some (.val .st), none, some (.val (.int n)), none, none, none, none, none, none, none, none, none, none, none, none, none, none, none]
def tree (n : Int) : Bool := match nxOf (partA (eN n) s0) with
  | some ρ => (match ρ[6]? with
    | some (some (DL.B.val (DL.D.lst ws))) => decide (ws.length ≤ 4) && (stB ρ && rowT ws ρ)
    | _ => false)
  | none => false
theorem and2 {a b : Bool} (h : (a && b) = true) : a = true ∧ b = true := Bool.and_eq_true_iff.mp h
theorem draw2 {c : Nat} (hc : c ≤ 1048576) {s : DS} (ok : DsOk c s) : ∃ r s', m__law_draw [.st, .int 2] s = some (.ok (.int r), s') ∧ (r = 0 ∨ r = 1) ∧ DsOk (c + 1) s' := by
  obtain ⟨r, s', e, h1, h2, h3⟩ := draw_ok (n := 2) (by decide) (by decide) hc ok
  exact ⟨r, s', e, by omega, h3⟩
theorem pick_ok {c : Nat} (hc : c ≤ 1048576) {s : DS} (ok : DsOk c s) {ρ : Ev} (hst : ρ[1]? = some (some (.val .st))) : ∃ sg s', pick ρ s = some (.ok (.int sg), s') ∧ (sg = 1 ∨ sg = -1) ∧ DsOk (c + 1) s' := by
  obtain ⟨r, s', e, hr, ok'⟩ := draw2 hc ok
  have hv : dVar 1 ρ s = some (.ok .st, s) := by unfold dVar; rw [hst]; rfl
  have ha : (aCons (dVar 1) (aCons (dLst (aCons (dC (.int 1)) (aCons (un1 negD (dC (.int 1))) (aNil)))) (aNil))) ρ s = some (.ok [.st, .lst [.int 1, .int (-1)]], s) := (bind_ok (x := dVar 1 ρ) hv).trans rfl
  have hm : ∀ sg, ixD (.lst [.int 1, .int (-1)]) (.int r) = some (.int sg) → m__law_pick [.st, .lst [.int 1, .int (-1)]] s = some (.ok (.int sg), s') := fun sg hi => by
    refine bind_ok (x := f__law_pick [some (.val .st), some (.val (.lst [.int 1, .int (-1)]))]) (v := Fl.rt (.int sg)) (s1 := s') ?_
    refine ev_ret (ev_bin2 (x := .lst [.int 1, .int (-1)]) (y := .int r) (s1 := s) rfl ?_ hi)
    exact (bind_ok (v := [D.st, D.int 2]) (s1 := s) rfl).trans e
  have fin : ∀ sg, ixD (.lst [.int 1, .int (-1)]) (.int r) = some (.int sg) → pick ρ s = some (.ok (.int sg), s') := fun sg hi => (bind_ok (x := (aCons (dVar 1) (aCons (dLst (aCons (dC (.int 1)) (aCons (un1 negD (dC (.int 1))) (aNil)))) (aNil))) ρ) ha).trans (hm sg hi)
  rcases hr with rfl | rfl
  · exact ⟨1, s', fin 1 rfl, .inl rfl, ok'⟩
  · exact ⟨-1, s', fin (-1) rfl, .inr rfl, ok'⟩
theorem step_ok {c : Nat} (hc : c ≤ 1048576) {s : DS} (ok : DsOk c s) {w t : D} {ρ ρ1 ρ2 : Ev} (hst : ρ[1]? = some (some (.val .st))) (ha : askR w ρ = some t) (h1 : stepR 1 t w ρ = some ρ1) (h2 : stepR (-1) t w ρ = some ρ2) :
    ∃ ρ' s', body (ρ.set 14 (some (.val w))) s = some (.ok (.nx ρ'), s') ∧ (ρ' = ρ1 ∨ ρ' = ρ2) ∧ DsOk (c + 1) s' := by
  obtain ⟨sa, ea⟩ := resOf_of ha
  have ea' := (pu_ask _).at ea s
  have hst' : (ρ.set 14 (some (DL.B.val w)))[1]? = some (some (.val .st)) := by rw [List.getElem?_set_ne (by decide)]; exact hst
  obtain ⟨sg, s', ep, hsg, ok'⟩ := pick_ok hc ok hst'
  have e11 : fl_11 (ρ.set 14 (some (.val w))) s = some (.ok (.nx (((ρ.set 14 (some (.val w))).set 15 (some (.val t))).set 16 (some (.val (.int sg))))), s') := by
    refine bind_ok (x := aCons ask (aCons pick aNil) (ρ.set 14 (some (.val w)))) (v := [t, .int sg]) (s1 := s') ?_
    exact (bind_ok (x := ask _) ea').trans ((bind_ok (x := aCons pick aNil _) (v := [.int sg]) (s1 := s') ((bind_ok (x := pick _) ep).trans rfl)).trans rfl)
  have fin : ∀ ρ', stepR sg t w ρ = some ρ' → body (ρ.set 14 (some (.val w))) s = some (.ok (.nx ρ'), s') := fun ρ' h => by
    obtain ⟨sx, ex⟩ := nxOf_of h
    exact (ev_seq e11).trans ((pu_tail _).at ex s')
  rcases hsg with rfl | rfl
  · exact ⟨ρ1, s', fin _ h1, .inl rfl, ok'⟩
  · exact ⟨ρ2, s', fin _ h2, .inr rfl, ok'⟩
theorem rows_ok : ∀ (ws : List D) (ρ : Ev) (c : Nat) (s : DS), rowT ws ρ = true → stB ρ = true → c + ws.length ≤ 1048576 → DsOk c s →
    ∃ ρ' s', forL (gN 14) body ws ρ s = some (.ok (.nx ρ'), s') ∧ fin ρ' = true ∧ DsOk (c + ws.length) s'
  | [], ρ, c, s, h, _, _, ok => ⟨ρ, s, rfl, h, ok⟩
  | w :: ws, ρ, c, s, h, hst, hc, ok => by
    rw [List.length_cons] at hc
    unfold rowT at h
    cases ha : askR w ρ with
    | none => simp only [ha] at h; cases h
    | some t =>
      simp only [ha] at h
      obtain ⟨ha1, ha2⟩ := and2 h
      cases h1 : stepR 1 t w ρ with
      | none => simp only [h1] at ha1; cases ha1
      | some ρ1 =>
        cases h2 : stepR (-1) t w ρ with
        | none => simp only [h2] at ha2; cases ha2
        | some ρ2 =>
          simp only [h1] at ha1
          simp only [h2] at ha2
          obtain ⟨ρ', s', e, hρ, ok'⟩ := step_ok (by omega) ok (stB_of hst) ha h1 h2
          have key : stB ρ' = true ∧ rowT ws ρ' = true := by
            rcases hρ with rfl | rfl
            · exact and2 ha1
            · exact and2 ha2
          obtain ⟨ρ'', s'', e2, h3, ok''⟩ := rows_ok ws ρ' (c + 1) s' key.2 key.1 (by omega) ok'
          refine ⟨ρ'', s'', ?_, h3, by rw [List.length_cons]; have : c + (ws.length + 1) = c + 1 + ws.length := by omega
                                       rw [this]; exact ok''⟩
          exact (bind_ok (x := body (ρ.set 14 (some (.val w)))) e).trans e2
theorem lap_ok (h1 : tree 1 = true) (h2 : tree 2 = true) : LapOk 19 1 fl := by
  intro c ρ s sh hc ok
  have hfl : fl = sDrop [0, 2, 3, 4, 5, 6, 7, 8, 9, 10, 11, 12, 13, 14, 15, 16, 17, 18] (sSeq fl_0 (sSeq partA (sSeq fl_15 partB))) := by
    have e : sSeq partA (sSeq fl_15 partB) = sSeq fl_1 (sSeq fl_2 (sSeq fl_3 (sSeq fl_5 (sSeq fl_9 (sSeq fl_10 (sFrz 6 (sSeq fl_15 partB))))))) := by
      unfold partA
      rw [sSeq_assoc, sSeq_assoc, sSeq_assoc, sSeq_assoc, sSeq_assoc, sSeq_assoc, ← sFrz_seq]
    rw [e]
    rfl
  have hdrop : ([0, 2, 3, 4, 5, 6, 7, 8, 9, 10, 11, 12, 13, 14, 15, 16, 17, 18] : List Nat).foldl (fun ρ i => ρ.set i none) ρ = [none, some (.val .st), none, none, none, none, none, none, none, none, none, none, none, none, none, none, none, none, none] := by
    match ρ, sh.len, sh.st with
    | [a0, a1, a2, a3, a4, a5, a6, a7, a8, a9, a10, a11, a12, a13, a14, a15, a16, a17, a18], _, h =>
      have h' : a1 = some (.val .st) := Option.some.inj h
      subst h'
      rfl
  have e0 : fl ρ s = sSeq fl_0 (sSeq partA (sSeq fl_15 partB)) [none, some (.val .st), none, none, none, none, none, none, none, none, none, none, none, none, none, none, none, none, none] s := by
    rw [hfl]
    show sSeq fl_0 _ (([0, 2, 3, 4, 5, 6, 7, 8, 9, 10, 11, 12, 13, 14, 15, 16, 17, 18] : List Nat).foldl (fun ρ i => ρ.set i none) ρ) s = _
    rw [hdrop]
  obtain ⟨r, s1, ed, hr, ok1⟩ := draw2 (by omega) ok
  have ef0 : fl_0 [none, some (.val .st), none, none, none, none, none, none, none, none, none, none, none, none, none, none, none, none, none] s = some (.ok (.nx (eN (1 + r))), s1) :=
    ev_set 3 (ev_bin2 (x := .int 1) (y := .int r) (s1 := s) rfl ((bind_ok (v := [D.st, D.int 2]) (s1 := s) rfl).trans ed) rfl)
  have ht : tree (1 + r) = true := by
    rcases hr with rfl | rfl
    · exact h1
    · exact h2
  unfold tree at ht
  cases hA : nxOf (partA (eN (1 + r)) s0) with
  | none => simp only [hA] at ht; cases ht
  | some ρA =>
    simp only [hA] at ht
    obtain ⟨sx, ex⟩ := nxOf_of hA
    have eA := (pu_partA _).at ex s1
    split at ht
    · rename_i ws hws
      obtain ⟨hl, ht2⟩ := and2 ht
      obtain ⟨hst, hrow⟩ := and2 ht2
      have hl' : ws.length ≤ 4 := of_decide_eq_true hl
      obtain ⟨ρ', s2, e2, hfin, ok2⟩ := rows_ok ws ρA (10000 * c + 1) s1 hrow hst (by omega) ok1
      have hsrc : iSeq (dVar 6) ρA s1 = some (.ok ws, s1) := by
        refine (bind_ok (v := D.lst ws) (s1 := s1) ?_).trans rfl
        unfold dVar
        rw [hws]
        rfl
      have e15 : fl_15 ρA s1 = some (.ok (.nx ρ'), s2) := (bind_ok (x := iSeq (dVar 6) ρA) hsrc).trans e2
      unfold fin at hfin
      cases hB : nxOf (partB ρ' s0) with
      | none => simp only [hB] at hfin; cases hfin
      | some ρB =>
        simp only [hB] at hfin
        obtain ⟨sy, ey⟩ := nxOf_of hB
        have eB := (pu_partB _).at ey s2
        obtain ⟨hB1, hB2⟩ := and2 hfin
        refine ⟨ρB, s2, ?_, ⟨of_decide_eq_true hB1, stB_of hB2⟩, ⟨by have := ok2.t; omega, ok2.l, ok2.c⟩⟩
        rw [e0]
        exact (ev_seq ef0).trans ((ev_seq eA).trans ((ev_seq e15).trans eB))
    · cases ht


theorem tree1 : tree 1 = true := by kernel_rfl
theorem tree2 : tree 2 = true := by kernel_rfl
theorem lapOk : LapOk 19 1 fl := lap_ok tree1 tree2
end Hd

set_option Elab.async false
set_option linter.all false
set_option maxRecDepth 1000000
set_option maxHeartbeats 0
namespace Hd
open PySem PySem.Spec PyProof.Rows L2 DL
theorem hy {K : PySem.W.Frag} {h : Heap} {mg : Str → Option Value} (X : K.In h) (G : h.Ns mainGlobals mg) (c : SaysK "TURNING" fa fn K) : Hy K mg where
  d_items_of := by
    obtain ⟨fd, F⟩ := c.1.def_ 0 (d := d_items_of) (by kernel_rfl)
    exact ⟨_, fd, F, He.glo_ok X G (c.1.fact 0 (f := .glo "items_of") (by kernel_rfl)), FunD.bindsN F fun _ _ _ _ _ _ us hl => match us, hl with | [_], _ => rfl⟩
  d_is_odd := by
    obtain ⟨fd, F⟩ := c.1.def_ 1 (d := d_is_odd) (by kernel_rfl)
    exact ⟨_, fd, F, He.glo_ok X G (c.1.fact 1 (f := .glo "is_odd") (by kernel_rfl)), FunD.bindsN F fun _ _ _ _ _ _ us hl => match us, hl with | [_], _ => rfl⟩
  d_reduced := by
    obtain ⟨fd, F⟩ := c.1.def_ 2 (d := d_reduced) (by kernel_rfl)
    exact ⟨_, fd, F, He.glo_ok X G (c.1.fact 2 (f := .glo "reduced") (by kernel_rfl)), FunD.bindsN F fun _ _ _ _ _ _ us hl => match us, hl with | [_], _ => rfl⟩
  d_brought := by
    obtain ⟨fd, F⟩ := c.1.def_ 3 (d := d_brought) (by kernel_rfl)
    exact ⟨_, fd, F, He.glo_ok X G (c.1.fact 3 (f := .glo "brought") (by kernel_rfl)), FunD.bindsN F fun _ _ _ _ _ _ us hl => match us, hl with | [_, _], _ => rfl⟩
  d_is_number := by
    obtain ⟨fd, F⟩ := c.1.def_ 4 (d := d_is_number) (by kernel_rfl)
    exact ⟨_, fd, F, He.glo_ok X G (c.1.fact 4 (f := .glo "is_number") (by kernel_rfl)), FunD.bindsN F fun _ _ _ _ _ _ us hl => match us, hl with | [_], _ => rfl⟩
  d_is_between := by
    obtain ⟨fd, F⟩ := c.1.def_ 5 (d := d_is_between) (by kernel_rfl)
    exact ⟨_, fd, F, He.glo_ok X G (c.1.fact 5 (f := .glo "is_between") (by kernel_rfl)), FunD.bindsN F fun _ _ _ _ _ _ us hl => match us, hl with | [_, _, _], _ => rfl⟩
  d_is_sign := by
    obtain ⟨fd, F⟩ := c.1.def_ 6 (d := d_is_sign) (by kernel_rfl)
    exact ⟨_, fd, F, He.glo_ok X G (c.1.fact 6 (f := .glo "is_sign") (by kernel_rfl)), FunD.bindsN F fun _ _ _ _ _ _ us hl => match us, hl with | [_], _ => rfl⟩
  d_is_row := by
    obtain ⟨fd, F⟩ := c.1.def_ 7 (d := d_is_row) (by kernel_rfl)
    exact ⟨_, fd, F, He.glo_ok X G (c.1.fact 7 (f := .glo "is_row") (by kernel_rfl)), FunD.bindsN F fun _ _ _ _ _ _ us hl => match us, hl with | [_], _ => rfl⟩
  d_is_rising := by
    obtain ⟨fd, F⟩ := c.1.def_ 8 (d := d_is_rising) (by kernel_rfl)
    exact ⟨_, fd, F, He.glo_ok X G (c.1.fact 8 (f := .glo "is_rising") (by kernel_rfl)), FunD.bindsN F fun _ _ _ _ _ _ us hl => match us, hl with | [_, _], _ => rfl⟩
  d_is_word := by
    obtain ⟨fd, F⟩ := c.1.def_ 9 (d := d_is_word) (by kernel_rfl)
    exact ⟨_, fd, F, He.glo_ok X G (c.1.fact 9 (f := .glo "is_word") (by kernel_rfl)), FunD.bindsN F fun _ _ _ _ _ _ us hl => match us, hl with | [_], _ => rfl⟩
  d_need_word := by
    obtain ⟨fd, F⟩ := c.1.def_ 10 (d := d_need_word) (by kernel_rfl)
    exact ⟨_, fd, F, He.glo_ok X G (c.1.fact 10 (f := .glo "need_word") (by kernel_rfl)), FunD.bindsN F fun _ _ _ _ _ _ us hl => match us, hl with | [_], _ => rfl⟩
  d_need_words := by
    obtain ⟨fd, F⟩ := c.1.def_ 11 (d := d_need_words) (by kernel_rfl)
    exact ⟨_, fd, F, He.glo_ok X G (c.1.fact 11 (f := .glo "need_words") (by kernel_rfl)), FunD.bindsN F fun _ _ _ _ _ _ us hl => match us, hl with | [_], _ => rfl⟩
  d_code_of := by
    obtain ⟨fd, F⟩ := c.1.def_ 12 (d := d_code_of) (by kernel_rfl)
    exact ⟨_, fd, F, He.glo_ok X G (c.1.fact 12 (f := .glo "code_of") (by kernel_rfl)), FunD.bindsN F fun _ _ _ _ _ _ us hl => match us, hl with | [_], _ => rfl⟩
  d_letters_of := by
    obtain ⟨fd, F⟩ := c.1.def_ 13 (d := d_letters_of) (by kernel_rfl)
    exact ⟨_, fd, F, He.glo_ok X G (c.1.fact 13 (f := .glo "letters_of") (by kernel_rfl)), FunD.bindsN F fun _ _ _ _ _ _ us hl => match us, hl with | [_, _], _ => rfl⟩
  d_is_crossed := by
    obtain ⟨fd, F⟩ := c.1.def_ 14 (d := d_is_crossed) (by kernel_rfl)
    exact ⟨_, fd, F, He.glo_ok X G (c.1.fact 14 (f := .glo "is_crossed") (by kernel_rfl)), FunD.bindsN F fun _ _ _ _ _ _ us hl => match us, hl with | [_, _], _ => rfl⟩
  d_is_past := by
    obtain ⟨fd, F⟩ := c.1.def_ 15 (d := d_is_past) (by kernel_rfl)
    exact ⟨_, fd, F, He.glo_ok X G (c.1.fact 15 (f := .glo "is_past") (by kernel_rfl)), FunD.bindsN F fun _ _ _ _ _ _ us hl => match us, hl with | [_, _], _ => rfl⟩
  d_put_of := by
    obtain ⟨fd, F⟩ := c.1.def_ 16 (d := d_put_of) (by kernel_rfl)
    exact ⟨_, fd, F, He.glo_ok X G (c.1.fact 16 (f := .glo "put_of") (by kernel_rfl)), FunD.bindsN F fun _ _ _ _ _ _ us hl => match us, hl with | [_, _], _ => rfl⟩
  d_product_of := by
    obtain ⟨fd, F⟩ := c.1.def_ 17 (d := d_product_of) (by kernel_rfl)
    exact ⟨_, fd, F, He.glo_ok X G (c.1.fact 17 (f := .glo "product_of") (by kernel_rfl)), FunD.bindsN F fun _ _ _ _ _ _ us hl => match us, hl with | [_], _ => rfl⟩
  d_past_of := by
    obtain ⟨fd, F⟩ := c.1.def_ 18 (d := d_past_of) (by kernel_rfl)
    exact ⟨_, fd, F, He.glo_ok X G (c.1.fact 18 (f := .glo "past_of") (by kernel_rfl)), FunD.bindsN F fun _ _ _ _ _ _ us hl => match us, hl with | [_, _], _ => rfl⟩
  d_is_turning := by
    obtain ⟨fd, F⟩ := c.1.def_ 19 (d := d_is_turning) (by kernel_rfl)
    exact ⟨_, fd, F, He.glo_ok X G (c.1.fact 19 (f := .glo "is_turning") (by kernel_rfl)), FunD.bindsN F fun _ _ _ _ _ _ us hl => match us, hl with | [_], _ => rfl⟩
  d_need_length := by
    obtain ⟨fd, F⟩ := c.1.def_ 20 (d := d_need_length) (by kernel_rfl)
    exact ⟨_, fd, F, He.glo_ok X G (c.1.fact 20 (f := .glo "need_length") (by kernel_rfl)), FunD.bindsN F fun _ _ _ _ _ _ us hl => match us, hl with | [_], _ => rfl⟩
  d_plain_of := by
    obtain ⟨fd, F⟩ := c.1.def_ 21 (d := d_plain_of) (by kernel_rfl)
    exact ⟨_, fd, F, He.glo_ok X G (c.1.fact 21 (f := .glo "plain_of") (by kernel_rfl)), FunD.bindsN F fun _ _ _ _ _ _ us hl => match us, hl with | [_], _ => rfl⟩
  d_made_of := by
    obtain ⟨fd, F⟩ := c.1.def_ 22 (d := d_made_of) (by kernel_rfl)
    exact ⟨_, fd, F, He.glo_ok X G (c.1.fact 22 (f := .glo "made_of") (by kernel_rfl)), FunD.bindsN F fun _ _ _ _ _ _ us hl => match us, hl with | [_, _], _ => rfl⟩
  d_is_crowd := by
    obtain ⟨fd, F⟩ := c.1.def_ 23 (d := d_is_crowd) (by kernel_rfl)
    exact ⟨_, fd, F, He.glo_ok X G (c.1.fact 23 (f := .glo "is_crowd") (by kernel_rfl)), FunD.bindsN F fun _ _ _ _ _ _ us hl => match us, hl with | [_], _ => rfl⟩
  d_need_crowd := by
    obtain ⟨fd, F⟩ := c.1.def_ 24 (d := d_need_crowd) (by kernel_rfl)
    exact ⟨_, fd, F, He.glo_ok X G (c.1.fact 24 (f := .glo "need_crowd") (by kernel_rfl)), FunD.bindsN F fun _ _ _ _ _ _ us hl => match us, hl with | [_], _ => rfl⟩
  d_length_of := by
    obtain ⟨fd, F⟩ := c.1.def_ 25 (d := d_length_of) (by kernel_rfl)
    exact ⟨_, fd, F, He.glo_ok X G (c.1.fact 25 (f := .glo "length_of") (by kernel_rfl)), FunD.bindsN F fun _ _ _ _ _ _ us hl => match us, hl with | [_], _ => rfl⟩
  d_need_own := by
    obtain ⟨fd, F⟩ := c.1.def_ 26 (d := d_need_own) (by kernel_rfl)
    exact ⟨_, fd, F, He.glo_ok X G (c.1.fact 26 (f := .glo "need_own") (by kernel_rfl)), FunD.bindsN F fun _ _ _ _ _ _ us hl => match us, hl with | [_, _], _ => rfl⟩
  d_part_for := by
    obtain ⟨fd, F⟩ := c.1.def_ 27 (d := d_part_for) (by kernel_rfl)
    exact ⟨_, fd, F, He.glo_ok X G (c.1.fact 27 (f := .glo "part_for") (by kernel_rfl)), FunD.bindsN F fun _ _ _ _ _ _ us hl => match us, hl with | [_, _], _ => rfl⟩
  d_says_of := by
    obtain ⟨fd, F⟩ := c.1.def_ 28 (d := d_says_of) (by kernel_rfl)
    exact ⟨_, fd, F, He.glo_ok X G (c.1.fact 28 (f := .glo "says_of") (by kernel_rfl)), FunD.bindsN F fun _ _ _ _ _ _ us hl => match us, hl with | [_, _], _ => rfl⟩
  d_says := by
    obtain ⟨fd, F⟩ := c.1.def_ 29 (d := d_says) (by kernel_rfl)
    exact ⟨_, fd, F, He.glo_ok X G (c.1.fact 29 (f := .glo "says") (by kernel_rfl)), FunD.bindsN F fun _ _ _ _ _ _ us hl => match us, hl with | [_, _], _ => rfl⟩
  d_plain_crowd_of := by
    obtain ⟨fd, F⟩ := c.1.def_ 30 (d := d_plain_crowd_of) (by kernel_rfl)
    exact ⟨_, fd, F, He.glo_ok X G (c.1.fact 30 (f := .glo "plain_crowd_of") (by kernel_rfl)), FunD.bindsN F fun _ _ _ _ _ _ us hl => match us, hl with | [_, _], _ => rfl⟩
  d_need_size := by
    obtain ⟨fd, F⟩ := c.1.def_ 31 (d := d_need_size) (by kernel_rfl)
    exact ⟨_, fd, F, He.glo_ok X G (c.1.fact 31 (f := .glo "need_size") (by kernel_rfl)), FunD.bindsN F fun _ _ _ _ _ _ us hl => match us, hl with | [_, _], _ => rfl⟩
  d_plain_crowd := by
    obtain ⟨fd, F⟩ := c.1.def_ 32 (d := d_plain_crowd) (by kernel_rfl)
    exact ⟨_, fd, F, He.glo_ok X G (c.1.fact 32 (f := .glo "plain_crowd") (by kernel_rfl)), FunD.bindsN F fun _ _ _ _ _ _ us hl => match us, hl with | [_, _], _ => rfl⟩
  d_rank_on := by
    obtain ⟨fd, F⟩ := c.1.def_ 33 (d := d_rank_on) (by kernel_rfl)
    exact ⟨_, fd, F, He.glo_ok X G (c.1.fact 33 (f := .glo "rank_on") (by kernel_rfl)), FunD.bindsN F fun _ _ _ _ _ _ us hl => match us, hl with | [_, _], _ => rfl⟩
  d_need_full_one := by
    obtain ⟨fd, F⟩ := c.1.def_ 34 (d := d_need_full_one) (by kernel_rfl)
    exact ⟨_, fd, F, He.glo_ok X G (c.1.fact 34 (f := .glo "need_full_one") (by kernel_rfl)), FunD.bindsN F fun _ _ _ _ _ _ us hl => match us, hl with | [_], _ => rfl⟩
  d_need_places := by
    obtain ⟨fd, F⟩ := c.1.def_ 35 (d := d_need_places) (by kernel_rfl)
    exact ⟨_, fd, F, He.glo_ok X G (c.1.fact 35 (f := .glo "need_places") (by kernel_rfl)), FunD.bindsN F fun _ _ _ _ _ _ us hl => match us, hl with | [_, _], _ => rfl⟩
  d_places_beside := by
    obtain ⟨fd, F⟩ := c.1.def_ 36 (d := d_places_beside) (by kernel_rfl)
    exact ⟨_, fd, F, He.glo_ok X G (c.1.fact 36 (f := .glo "places_beside") (by kernel_rfl)), FunD.bindsN F fun _ _ _ _ _ _ us hl => match us, hl with | [_, _], _ => rfl⟩
  d_within_many := by
    obtain ⟨fd, F⟩ := c.1.def_ 37 (d := d_within_many) (by kernel_rfl)
    exact ⟨_, fd, F, He.glo_ok X G (c.1.fact 37 (f := .glo "within_many") (by kernel_rfl)), FunD.bindsN F fun _ _ _ _ _ _ us hl => match us, hl with | [_, _], _ => rfl⟩
  d_masks_within := by
    obtain ⟨fd, F⟩ := c.1.def_ 38 (d := d_masks_within) (by kernel_rfl)
    exact ⟨_, fd, F, He.glo_ok X G (c.1.fact 38 (f := .glo "masks_within") (by kernel_rfl)), FunD.bindsN F fun _ _ _ _ _ _ us hl => match us, hl with | [_, _], _ => rfl⟩
  d_three_bonds := by
    obtain ⟨fd, F⟩ := c.1.def_ 39 (d := d_three_bonds) (by kernel_rfl)
    exact ⟨_, fd, F, He.glo_ok X G (c.1.fact 39 (f := .glo "three_bonds") (by kernel_rfl)), FunD.bindsN F fun _ _ _ _ _ _ us hl => match us, hl with | [_, _, _], _ => rfl⟩
  d_behind := by
    obtain ⟨fd, F⟩ := c.1.def_ 40 (d := d_behind) (by kernel_rfl)
    exact ⟨_, fd, F, He.glo_ok X G (c.1.fact 40 (f := .glo "behind") (by kernel_rfl)), FunD.bindsN F fun _ _ _ _ _ _ us hl => match us, hl with | [_, _], _ => rfl⟩
  d_asked := by
    obtain ⟨fd, F⟩ := c.1.def_ 41 (d := d_asked) (by kernel_rfl)
    exact ⟨_, fd, F, He.glo_ok X G (c.1.fact 41 (f := .glo "asked") (by kernel_rfl)), FunD.bindsN F fun _ _ _ _ _ _ us hl => match us, hl with | [_, _], _ => rfl⟩
  d_need_row := by
    obtain ⟨fd, F⟩ := c.1.def_ 42 (d := d_need_row) (by kernel_rfl)
    exact ⟨_, fd, F, He.glo_ok X G (c.1.fact 42 (f := .glo "need_row") (by kernel_rfl)), FunD.bindsN F fun _ _ _ _ _ _ us hl => match us, hl with | [_, _], _ => rfl⟩
  d_told_by := by
    obtain ⟨fd, F⟩ := c.1.def_ 43 (d := d_told_by) (by kernel_rfl)
    exact ⟨_, fd, F, He.glo_ok X G (c.1.fact 43 (f := .glo "told_by") (by kernel_rfl)), FunD.bindsN F fun _ _ _ _ _ _ us hl => match us, hl with | [_, _], _ => rfl⟩
  d_state_behind := by
    obtain ⟨fd, F⟩ := c.1.def_ 44 (d := d_state_behind) (by kernel_rfl)
    exact ⟨_, fd, F, He.glo_ok X G (c.1.fact 44 (f := .glo "state_behind") (by kernel_rfl)), FunD.bindsN F fun _ _ _ _ _ _ us hl => match us, hl with | [_, _, _], _ => rfl⟩
  d_followed := by
    obtain ⟨fd, F⟩ := c.1.def_ 45 (d := d_followed) (by kernel_rfl)
    exact ⟨_, fd, F, He.glo_ok X G (c.1.fact 45 (f := .glo "followed") (by kernel_rfl)), FunD.bindsN F fun _ _ _ _ _ _ us hl => match us, hl with | [_, _], _ => rfl⟩
  d_told_sign := by
    obtain ⟨fd, F⟩ := c.1.def_ 46 (d := d_told_sign) (by kernel_rfl)
    exact ⟨_, fd, F, He.glo_ok X G (c.1.fact 46 (f := .glo "told_sign") (by kernel_rfl)), FunD.bindsN F fun _ _ _ _ _ _ us hl => match us, hl with | [_, _], _ => rfl⟩
  d_row_chance := by
    obtain ⟨fd, F⟩ := c.1.def_ 47 (d := d_row_chance) (by kernel_rfl)
    exact ⟨_, fd, F, He.glo_ok X G (c.1.fact 47 (f := .glo "row_chance") (by kernel_rfl)), FunD.bindsN F fun _ _ _ _ _ _ us hl => match us, hl with | [_, _, _], _ => rfl⟩
  d_need_half := by
    obtain ⟨fd, F⟩ := c.1.def_ 48 (d := d_need_half) (by kernel_rfl)
    exact ⟨_, fd, F, He.glo_ok X G (c.1.fact 48 (f := .glo "need_half") (by kernel_rfl)), FunD.bindsN F fun _ _ _ _ _ _ us hl => match us, hl with | [_], _ => rfl⟩
  d_shared_crowd := by
    obtain ⟨fd, F⟩ := c.1.def_ 49 (d := d_shared_crowd) (by kernel_rfl)
    exact ⟨_, fd, F, He.glo_ok X G (c.1.fact 49 (f := .glo "shared_crowd") (by kernel_rfl)), FunD.bindsN F fun _ _ _ _ _ _ us hl => match us, hl with | [_], _ => rfl⟩
  d_are_answers := by
    obtain ⟨fd, F⟩ := c.1.def_ 50 (d := d_are_answers) (by kernel_rfl)
    exact ⟨_, fd, F, He.glo_ok X G (c.1.fact 50 (f := .glo "are_answers") (by kernel_rfl)), FunD.bindsN F fun _ _ _ _ _ _ us hl => match us, hl with | [_, _], _ => rfl⟩
  d_letters_told := by
    obtain ⟨fd, F⟩ := c.1.def_ 51 (d := d_letters_told) (by kernel_rfl)
    exact ⟨_, fd, F, He.glo_ok X G (c.1.fact 51 (f := .glo "letters_told") (by kernel_rfl)), FunD.bindsN F fun _ _ _ _ _ _ us hl => match us, hl with | [_], _ => rfl⟩
  d_need_answers := by
    obtain ⟨fd, F⟩ := c.1.def_ 52 (d := d_need_answers) (by kernel_rfl)
    exact ⟨_, fd, F, He.glo_ok X G (c.1.fact 52 (f := .glo "need_answers") (by kernel_rfl)), FunD.bindsN F fun _ _ _ _ _ _ us hl => match us, hl with | [_, _], _ => rfl⟩
  d_turn_letters := by
    obtain ⟨fd, F⟩ := c.1.def_ 53 (d := d_turn_letters) (by kernel_rfl)
    exact ⟨_, fd, F, He.glo_ok X G (c.1.fact 53 (f := .glo "turn_letters") (by kernel_rfl)), FunD.bindsN F fun _ _ _ _ _ _ us hl => match us, hl with | [_, _], _ => rfl⟩
  d__law_begun := by
    obtain ⟨fd, F⟩ := c.1.def_ 54 (d := d__law_begun) (by kernel_rfl)
    exact ⟨_, fd, F, He.glo_ok X G (c.1.fact 54 (f := .glo "_law_begun") (by kernel_rfl)), FunD.bindsN F fun _ _ _ _ _ _ us hl => match us, hl with | [_], _ => rfl⟩
  d__law_draw := by
    obtain ⟨fd, F⟩ := c.1.def_ 55 (d := d__law_draw) (by kernel_rfl)
    exact ⟨_, fd, F, He.glo_ok X G (c.1.fact 55 (f := .glo "_law_draw") (by kernel_rfl)), FunD.bindsN F fun _ _ _ _ _ _ us hl => match us, hl with | [_, _], _ => rfl⟩
  d__law_pick := by
    obtain ⟨fd, F⟩ := c.1.def_ 56 (d := d__law_pick) (by kernel_rfl)
    exact ⟨_, fd, F, He.glo_ok X G (c.1.fact 56 (f := .glo "_law_pick") (by kernel_rfl)), FunD.bindsN F fun _ _ _ _ _ _ us hl => match us, hl with | [_, _], _ => rfl⟩
  d__law_two := by
    obtain ⟨fd, F⟩ := c.1.def_ 57 (d := d__law_two) (by kernel_rfl)
    exact ⟨_, fd, F, He.glo_ok X G (c.1.fact 57 (f := .glo "_law_two") (by kernel_rfl)), FunD.bindsN F fun _ _ _ _ _ _ us hl => match us, hl with | [_, _], _ => rfl⟩
  d__law_past := by
    obtain ⟨fd, F⟩ := c.1.def_ 58 (d := d__law_past) (by kernel_rfl)
    exact ⟨_, fd, F, He.glo_ok X G (c.1.fact 58 (f := .glo "_law_past") (by kernel_rfl)), FunD.bindsN F fun _ _ _ _ _ _ us hl => match us, hl with | [_, _], _ => rfl⟩
  d__law_lettered := by
    obtain ⟨fd, F⟩ := c.1.def_ 59 (d := d__law_lettered) (by kernel_rfl)
    exact ⟨_, fd, F, He.glo_ok X G (c.1.fact 59 (f := .glo "_law_lettered") (by kernel_rfl)), FunD.bindsN F fun _ _ _ _ _ _ us hl => match us, hl with | [_, _, _], _ => rfl⟩
  d__law_moved := by
    obtain ⟨fd, F⟩ := c.1.def_ 60 (d := d__law_moved) (by kernel_rfl)
    exact ⟨_, fd, F, He.glo_ok X G (c.1.fact 60 (f := .glo "_law_moved") (by kernel_rfl)), FunD.bindsN F fun _ _ _ _ _ _ us hl => match us, hl with | [_, _], _ => rfl⟩
  d__law_led := by
    obtain ⟨fd, F⟩ := c.1.def_ 61 (d := d__law_led) (by kernel_rfl)
    exact ⟨_, fd, F, He.glo_ok X G (c.1.fact 61 (f := .glo "_law_led") (by kernel_rfl)), FunD.bindsN F fun _ _ _ _ _ _ us hl => match us, hl with | [_, _], _ => rfl⟩
  d__law_cd_beside := by
    obtain ⟨fd, F⟩ := c.1.def_ 62 (d := d__law_cd_beside) (by kernel_rfl)
    exact ⟨_, fd, F, He.glo_ok X G (c.1.fact 62 (f := .glo "_law_cd_beside") (by kernel_rfl)), FunD.bindsN F fun _ _ _ _ _ _ us hl => match us, hl with | [_, _], _ => rfl⟩
  d_law := by
    obtain ⟨fd, F⟩ := c.1.def_ 63 (d := d_law) (by kernel_rfl)
    exact ⟨_, fd, F, He.glo_ok X G (c.1.fact 63 (f := .glo "law") (by kernel_rfl)), FunD.bindsN F fun _ _ _ _ _ _ us hl => match us, hl with | [_], _ => rfl⟩
  b_len := He.free_ok X G (c.1.fact 82 (f := .free "len") (by kernel_rfl))
  b_range := He.free_ok X G (c.1.fact 83 (f := .free "range") (by kernel_rfl))
  b_tuple := He.free_ok X G (c.1.fact 84 (f := .free "tuple") (by kernel_rfl))
  b_list := He.free_ok X G (c.1.fact 85 (f := .free "list") (by kernel_rfl))
  b_isinstance := He.free_ok X G (c.1.fact 86 (f := .free "isinstance") (by kernel_rfl))
  b_int := He.free_ok X G (c.1.fact 87 (f := .free "int") (by kernel_rfl))
  b_bool := He.free_ok X G (c.1.fact 88 (f := .free "bool") (by kernel_rfl))
  b_str := He.free_ok X G (c.1.fact 89 (f := .free "str") (by kernel_rfl))
  b_all := He.free_ok X G (c.1.fact 90 (f := .free "all") (by kernel_rfl))
  b_any := He.free_ok X G (c.1.fact 91 (f := .free "any") (by kernel_rfl))
  b_sum := He.free_ok X G (c.1.fact 92 (f := .free "sum") (by kernel_rfl))
  b_enumerate := He.free_ok X G (c.1.fact 93 (f := .free "enumerate") (by kernel_rfl))
  b_zip := He.free_ok X G (c.1.fact 94 (f := .free "zip") (by kernel_rfl))
  b_sorted := He.free_ok X G (c.1.fact 95 (f := .free "sorted") (by kernel_rfl))
  b_min := He.free_ok X G (c.1.fact 96 (f := .free "min") (by kernel_rfl))
  b_abs := He.free_ok X G (c.1.fact 97 (f := .free "abs") (by kernel_rfl))
  c_LETTERS := He.str_ok X G (c.1.fact 76 (f := .str "LETTERS" "1abc") (by kernel_rfl))
  c_MOST_LENGTH := He.int_ok X G (c.1.fact 77 (f := .int "MOST_LENGTH" 12) (by kernel_rfl))
  c_MOST_WORDS := He.int_ok X G (c.1.fact 78 (f := .int "MOST_WORDS" 15) (by kernel_rfl))
  c_A_FIGURES := He.int_ok X G (c.1.fact 79 (f := .int "A_FIGURES" 5592405) (by kernel_rfl))
  c_MOST_LETTERS := He.int_ok X G (c.1.fact 80 (f := .int "MOST_LETTERS" 12) (by kernel_rfl))
  c_MOST_SHARED := He.int_ok X G (c.1.fact 81 (f := .int "MOST_SHARED" 6) (by kernel_rfl))
  t_TURNING := ⟨_, He.glo_ok X G (c.1.fact 75 (f := .glo "TURNING") (by kernel_rfl)), c.2⟩
theorem facts {P : Program} {w : World} {K : PySem.W.Frag} {h : Heap} {mg : Str → Option Value} {f : Addr} (X : K.In h) (G : h.Ns mainGlobals mg) (hfa : mg ("law" : Str) = some (.ref f)) (c : SaysK "TURNING" fa fn K) :
    ∃ fd : FuncData, (∀ (s : Shared) (v : Value), BindsTo s fd ⟨[v], []⟩ [("script", v)]) ∧ ∀ base : Heap, K.In base → base.Ns mainGlobals mg → FnOk P w K mg base L2.CX0 9 f fd ["script"] (spLaw K) := by
  obtain ⟨fd, F⟩ := c.1.def_ 63 (d := d_law) (by kernel_rfl)
  have e := hfa.symm.trans (He.glo_ok X G (c.1.fact 63 (f := .glo "law") (by kernel_rfl)))
  cases e
  have b := FunD.bindsA (ps := ["script"]) F fun _ _ _ _ _ _ us hl => match us, hl with | [_], _ => rfl
  exact ⟨fd, fun s v => b s [v] rfl, fun base _ _ => law_cx0 (ok_law (hy X G c) F lapOk)⟩
end Hd
open PySem PySem.W PySem.Calls PyProof.Rows
theorem PySem.Challenge.cw_turncrowds_k45_whole_shared_crowds_joine_holds : PySem.Challenge.rw_turncrowds_k45_whole_shared_crowds_joine.Holds := by
  w_on; o_law
  refine HandSHeadRun.head_any (r := OpenLaw.row PySem.Challenge.rw_turncrowds_k45_whole_shared_crowds_joine) (q := view (OpenLaw.row PySem.Challenge.rw_turncrowds_k45_whole_shared_crowds_joine).prog [96]) (H := Hd.hk) (ob := Hd.ob) (M := 20000) (loose := Hd.loose) (d := HandSHeadRun.topDef (OpenLaw.row PySem.Challenge.rw_turncrowds_k45_whole_shared_crowds_joine).prog 96) (kwd := []) Hd.ob_eq
    (by kernel_rfl) (fun s => by kernel_rfl) Hd.run (by kernel_rfl) (by kernel_rfl) (by kernel_rfl) (by rfl) (by first | assumption | decide +kernel) (by decide +kernel) ⟨rfl, rfl, rfl, rfl, rfl, by decide +kernel⟩ ?hw ?hc
  case hw => w_witness2
  case hc =>
    refine L2.walk_ofE (l := PySem.Challenge.rw_turncrowds_k45_whole_shared_crowds_joine) (n := 63) (k := 9) (x := "script") (CX := L2.CX0) rfl (by decide) (by kernel_rfl) ⟨rfl, by decide, by decide⟩ ?F (fun _ _ _ _ z => z)
    intro w mg fa h Y G hmg0
    obtain ⟨K, KX, c⟩ := Y
    have hmg : mg ("law" : PySem.Str) = some (.ref fa) := by
      have e : (HandSHeadRun.topDef (OpenLaw.row PySem.Challenge.rw_turncrowds_k45_whole_shared_crowds_joine).prog 96).name = ("law" : PySem.Str) := by kernel_rfl
      rw [← e]
      exact hmg0
    obtain ⟨fd, hb, hF⟩ := Hd.facts (P := (PySem.Challenge.rw_turncrowds_k45_whole_shared_crowds_joine).prog) (w := w) KX G hmg c
    exact ⟨K, fd, DL.spLaw K, KX, hb, fun H a ns hl _ hS => ⟨a, ns, rfl, hS, hl, fun _ => rfl⟩, hF⟩

