import PyProof.Rows.All
import HandS.ForMost
import HandS.Codes
import HandS.TupAny
import HandS.Flow
import HandS.Walk
import HandS.Replace
import HandS.Rindex
import HandS.FStr
import HandS.AnyAll
import HandS.Wide
import HandS.StrMore
import HandS.Steps
import HandS.RaiseMore
import HandS.Deep
import HandS.Conv
import KE.GoesNew
import PyProof.FString3
import PyProof.ReprRoads
import PyProof.P3Eq
import PyProof.StrLawsRepr
import PySem.Challenge.RW_onceorlater_k56_frames_of_any_signs
set_option Elab.async false
set_option linter.all false
set_option maxRecDepth 100000
set_option maxHeartbeats 4000000
/-! Pd: pure data over the hand layer. A def is told by a function on data; what is told is kept as the heap grows. -/
namespace Pd
open PySem PySem.Spec PyProof.Rows L2

abbrev D := PyData

/-- all of H stands in H' as it was -/
def Sub (H H' : Hp) : Prop := ∀ a o, H a = some o → H' a = some o
theorem Sub.refl (H : Hp) : Sub H H := fun _ _ h => h
theorem Sub.trans {H H1 H2 : Hp} (a : Sub H H1) (b : Sub H1 H2) : Sub H H2 := fun c o h => b c o (a c o h)
theorem Sub.up {H : Hp} {p : Addr} {o : HO} (h : H p = none) : Sub H (upd H p o) := fun b x e => by
  rw [upd_ne (ne_of_none e h)]; exact e
theorem Sub.up2 {F H : Hp} {p : Addr} {o : HO} (s : Sub F H) : Sub (upd F p o) (upd H p o) := fun b x e => by
  by_cases hb : b = p
  · subst hb; rw [upd_same] at e ⊢; exact e
  · rw [upd_ne hb] at e ⊢; exact s b x e
theorem Sub.up1 {F H : Hp} {p : Addr} {o : HO} (s : Sub F H) (h : H p = some o) : Sub (upd F p o) H := fun b x e => by
  by_cases hb : b = p
  · subst hb; rw [upd_same] at e; cases e; exact h
  · rw [upd_ne hb] at e; exact s b x e
theorem Sub.mut {F H : Hp} {p : Addr} {o : HO} (s : Sub F H) (h : F p = none) : Sub F (upd H p o) := fun b x e => by
  rw [upd_ne (ne_of_none e h)]; exact s b x e
theorem Sub.free {H H' : Hp} (s : Sub H H') {p : Addr} (h : H' p = none) : H p = none := by
  cases q : H p with
  | none => rfl
  | some o => rw [s p o q] at h; cases h

/-! ### data in the heap -/
mutual
/-- v stands for d in F -/
def Dv (K : PySem.W.Frag) (F : Hp) : D → V → Prop
  | .none, v => v = .non
  | .bool b, v => v = .bl b
  | .int i, v => v = .int i
  | .str s, v => v = .str s
  | .list ds, v => ∃ a xs, v = .ref a ∧ F a = some (.lst xs) ∧ DvA K F ds xs
  | .tuple ds, v => ∃ a xs, v = .ref a ∧ SqT K F a xs ∧ DvA K F ds xs
  | .dict _, _ => False
def DvA (K : PySem.W.Frag) (F : Hp) : List D → List V → Prop
  | [], xs => xs = []
  | d :: ds, xs => ∃ v vs, xs = v :: vs ∧ Dv K F d v ∧ DvA K F ds vs
end
section
variable {K : PySem.W.Frag} {F F' : Hp}
theorem sqt_mono {a : Addr} {xs : List V} (s : Sub F F') (h : SqT K F a xs) : SqT K F' a xs := by
  rcases h with (h | ⟨o, h⟩) | h
  · exact .inl (.inl (s _ _ h))
  · exact .inl (.inr ⟨o, s _ _ h⟩)
  · exact .inr h
mutual
theorem Dv.mono (s : Sub F F') : ∀ {d : D} {v : V}, Dv K F d v → Dv K F' d v
  | .none, _, h => h
  | .bool _, _, h => h
  | .int _, _, h => h
  | .str _, _, h => h
  | .list ds, v, h => by
    obtain ⟨a, xs, e, h1, h2⟩ := h
    exact ⟨a, xs, e, s _ _ h1, DvA.mono s h2⟩
  | .tuple ds, v, h => by
    obtain ⟨a, xs, e, h1, h2⟩ := h
    exact ⟨a, xs, e, sqt_mono s h1, DvA.mono s h2⟩
  | .dict _, _, h => False.elim h
theorem DvA.mono (s : Sub F F') : ∀ {ds : List D} {vs : List V}, DvA K F ds vs → DvA K F' ds vs
  | [], _, h => h
  | d :: ds, _, h => by
    obtain ⟨v, r, e, h1, h2⟩ := h
    exact ⟨v, r, e, Dv.mono s h1, DvA.mono s h2⟩
end
mutual
theorem Dv.dp : ∀ {d : D} {v : V}, Dv K F d v → Dp K F v d
  | .none, _, h => by cases h; exact .non
  | .bool _, _, h => by cases h; exact .bl _
  | .int _, _, h => by cases h; exact .int _
  | .str _, _, h => by cases h; exact .str _
  | .list ds, v, h => by
    obtain ⟨a, xs, e, h1, h2⟩ := h
    subst e
    exact .lst (SqL.of h1) (DvA.dp h2)
  | .tuple ds, v, h => by
    obtain ⟨a, xs, e, h1, h2⟩ := h
    subst e
    exact .tup h1 (DvA.dp h2)
  | .dict _, _, h => False.elim h
theorem DvA.dp : ∀ {ds : List D} {vs : List V}, DvA K F ds vs → DpAll K F vs ds
  | [], _, h => by cases h; exact .nil
  | d :: ds, _, h => by
    obtain ⟨v, r, e, h1, h2⟩ := h
    subst e
    exact .cons (Dv.dp h1) (DvA.dp h2)
end
theorem DvA.len : ∀ {ds : List D} {vs : List V}, DvA K F ds vs → vs.length = ds.length
  | [], _, h => by cases h; rfl
  | d :: ds, _, h => by
    obtain ⟨v, r, e, h1, h2⟩ := h
    subst e
    simp [DvA.len h2]
theorem DvA.at : ∀ {ds : List D} {vs : List V} {i : Nat} {d : D}, DvA K F ds vs → ds[i]? = some d → ∃ v, vs[i]? = some v ∧ Dv K F d v
  | [], _, _, _, _, e => by simp at e
  | d :: ds, _, 0, x, h, e => by
    obtain ⟨v, r, e1, h1, h2⟩ := h
    subst e1
    have e2 : d = x := by simpa using e
    subst e2
    exact ⟨v, rfl, h1⟩
  | d :: ds, _, i + 1, x, h, e => by
    obtain ⟨v, r, e1, h1, h2⟩ := h
    subst e1
    obtain ⟨w, h3, h4⟩ := DvA.at (i := i) h2 (by simpa using e)
    exact ⟨w, by simpa using h3, h4⟩
theorem DvA.at' : ∀ {ds : List D} {vs : List V} {i : Nat} {v : V}, DvA K F ds vs → vs[i]? = some v → ∃ d, ds[i]? = some d ∧ Dv K F d v
  | [], _, i, v, h, e => by cases h; simp at e
  | d :: ds, _, 0, x, h, e => by
    obtain ⟨v, r, e1, h1, h2⟩ := h
    subst e1
    have e2 : v = x := by simpa using e
    subst e2
    exact ⟨d, rfl, h1⟩
  | d :: ds, _, i + 1, x, h, e => by
    obtain ⟨v, r, e1, h1, h2⟩ := h
    subst e1
    obtain ⟨w, h3, h4⟩ := DvA.at' (i := i) h2 (by simpa using e)
    exact ⟨w, by simpa using h3, h4⟩
theorem DvA.app : ∀ {ds es : List D} {vs ws : List V}, DvA K F ds vs → DvA K F es ws → DvA K F (ds ++ es) (vs ++ ws)
  | [], _, _, _, h, q => by cases h; exact q
  | d :: ds, _, _, _, h, q => by
    obtain ⟨v, r, e1, h1, h2⟩ := h
    subst e1
    exact ⟨v, _, rfl, h1, DvA.app h2 q⟩
theorem DvA.one {d : D} {v : V} (h : Dv K F d v) : DvA K F [d] [v] := ⟨v, [], rfl, h, rfl⟩
theorem DvA.take : ∀ {ds : List D} {vs : List V} (n : Nat), DvA K F ds vs → DvA K F (ds.take n) (vs.take n)
  | _, _, 0, _ => by simp [DvA]
  | [], _, n + 1, h => by cases h; simp [DvA]
  | d :: ds, _, n + 1, h => by
    obtain ⟨v, r, e1, h1, h2⟩ := h
    subst e1
    exact ⟨v, _, rfl, h1, DvA.take n h2⟩
theorem DvA.drop : ∀ {ds : List D} {vs : List V} (n : Nat), DvA K F ds vs → DvA K F (ds.drop n) (vs.drop n)
  | _, _, 0, h => h
  | [], _, n + 1, h => by cases h; simp [DvA]
  | d :: ds, _, n + 1, h => by
    obtain ⟨v, r, e1, h1, h2⟩ := h
    subst e1
    exact DvA.drop n h2
theorem DvA.ints : ∀ {ns : List Int} {vs : List V}, DvA K F (ns.map PyData.int) vs ↔ vs = ns.map V.int
  | [], _ => Iff.rfl
  | n :: ns, vs => by
    constructor
    · rintro ⟨v, r, e, h1, h2⟩
      have h1' : v = .int n := h1
      subst e h1'
      rw [DvA.ints.mp h2]; rfl
    · intro e
      subst e
      exact ⟨_, _, rfl, rfl, DvA.ints.mpr rfl⟩
theorem DvA.strs : ∀ {ns : List Str} {vs : List V}, DvA K F (ns.map PyData.str) vs ↔ vs = ns.map V.str
  | [], _ => Iff.rfl
  | n :: ns, vs => by
    constructor
    · rintro ⟨v, r, e, h1, h2⟩
      have h1' : v = .str n := h1
      subst e h1'
      rw [DvA.strs.mp h2]; rfl
    · intro e
      subst e
      exact ⟨_, _, rfl, rfl, DvA.strs.mpr rfl⟩
theorem DvA.rep {ds : List D} {vs : List V} (h : DvA K F ds vs) : ∀ k : Nat, DvA K F (List.replicate k ds).flatten (List.replicate k vs).flatten
  | 0 => rfl
  | k + 1 => by
    rw [List.replicate_succ, List.replicate_succ, List.flatten_cons, List.flatten_cons]
    exact h.app (h.rep k)
theorem sqt_of {a : Addr} {xs : List V} (h : F a = some (.tup xs)) : SqT K F a xs := .inl (.inl h)
end

/-! ### the bag of draws -/
structure Bag where
  c : Int
  s : Int
  at_ : Int
  cs : List Int
  deriving DecidableEq
def RepS (B : Option Addr) (F H : Hp) : Option Bag → Prop
  | none => B = none
  | some g => ∃ b l, B = some b ∧ F b = none ∧ H b = some (.lst [.int g.c, .int g.s, .int g.at_, .ref l]) ∧ F l = some (.lst (g.cs.map V.int))

/-! ### steps of the heap -/
/-- F: data, never changed; H: all that is tracked. An operation that changes nothing -/
structure Stq (F H F' H' : Hp) : Prop where
  ff : Sub F F'
  fh : Sub F' H'
  hh : Sub H H'
  new : ∀ a, F' a ≠ none → F a ≠ none ∨ H a = none
theorem Stq.refl {F H : Hp} (s : Sub F H) : Stq F H F H := ⟨Sub.refl F, s, Sub.refl H, fun _ h => .inl h⟩
theorem Stq.trans {F H F1 H1 F2 H2 : Hp} (a : Stq F H F1 H1) (b : Stq F1 H1 F2 H2) : Stq F H F2 H2 :=
  ⟨a.ff.trans b.ff, b.fh, a.hh.trans b.hh, fun c h => (b.new c h).elim (fun q => a.new c q) fun q => .inr (a.hh.free q)⟩
/-- a new object that is data -/
theorem Stq.data {F H : Hp} {p : Addr} {o : HO} (s : Sub F H) (h : H p = none) : Stq F H (upd F p o) (upd H p o) :=
  ⟨Sub.up (s.free h), s.up2, Sub.up h, fun a q => by
    by_cases e : a = p
    · subst e; exact .inr h
    · rw [upd_ne e] at q; exact .inl q⟩
/-- a new object that isn't (yet) -/
theorem Stq.loose {F H : Hp} {p : Addr} {o : HO} (s : Sub F H) (h : H p = none) : Stq F H F (upd H p o) :=
  ⟨Sub.refl F, s.mut (s.free h), Sub.up h, fun a q => .inl q⟩
/-- an operation that may change the bag -/
structure Stp (B : Option Addr) (F H F' H' : Hp) : Prop where
  ff : Sub F F'
  fh : Sub F' H'
  keep : ∀ a o, some a ≠ B → H a = some o → H' a = some o
  new : ∀ a, F' a ≠ none → F a ≠ none ∨ (H a = none ∧ some a ≠ B)
theorem Stp.refl {B : Option Addr} {F H : Hp} (s : Sub F H) : Stp B F H F H := ⟨Sub.refl F, s, fun _ _ _ h => h, fun _ h => .inl h⟩
theorem Stp.trans {B : Option Addr} {F H F1 H1 F2 H2 : Hp} (a : Stp B F H F1 H1) (b : Stp B F1 H1 F2 H2) : Stp B F H F2 H2 :=
  ⟨a.ff.trans b.ff, b.fh, fun c o n h => b.keep c o n (a.keep c o n h), fun c h => by
    rcases b.new c h with q | ⟨q, n⟩
    · exact a.new c q
    · refine .inr ⟨?_, n⟩
      cases e : H c with
      | none => rfl
      | some o => rw [a.keep c o n e] at q; cases q⟩
theorem RepS.ne {B : Option Addr} {F H : Hp} {S : Option Bag} (r : RepS B F H S) {a : Addr} (h : H a = none) : some a ≠ B := by
  cases S with
  | none => have e : B = none := r; rw [e]; exact fun z => nomatch z
  | some g =>
    obtain ⟨b, l, e, _, h1, _⟩ := r
    rw [e]
    intro z
    cases z
    rw [h] at h1
    cases h1
theorem Stq.stp {B : Option Addr} {F H F' H' : Hp} {S : Option Bag} (q : Stq F H F' H') (r : RepS B F H S) : Stp B F H F' H' :=
  ⟨q.ff, q.fh, fun a o _ h => q.hh a o h, fun a h => (q.new a h).imp id fun z => ⟨z, r.ne z⟩⟩
theorem Stq.bag {B : Option Addr} {F H F' H' : Hp} {S : Option Bag} (q : Stq F H F' H') (r : RepS B F H S) : RepS B F' H' S := by
  cases S with
  | none => exact r
  | some g =>
    obtain ⟨b, l, e, h0, h1, h2⟩ := r
    refine ⟨b, l, e, ?_, q.hh _ _ h1, q.ff _ _ h2⟩
    cases z : F' b with
    | none => rfl
    | some o =>
      rcases q.new b (by rw [z]; simp) with h | h
      · exact absurd h0 h
      · rw [h] at h1; cases h1

/-! ### results: with a bag, perhaps an error -/
structure Exn where
  cls : Str
  fs : List (Str × D)
def M (α : Type) := Option Bag → Option (Except Exn α × Option Bag)
namespace M
def ret {α : Type} (a : α) : M α := fun S => some (.ok a, S)
def bind {α β : Type} (m : M α) (k : α → M β) : M β := fun S => match m S with
  | none => none
  | some (.ok a, S') => k a S'
  | some (.error x, S') => some (.error x, S')
def lift {α : Type} (o : Option α) : M α := fun S => o.map fun a => (.ok a, S)
def fail {α : Type} : M α := fun _ => none

end M
theorem M.bind_eq {α β : Type} (m : M α) (k : α → M β) (S : Option Bag) : M.bind m k S = match m S with
  | none => none
  | some (.ok a, S') => k a S'
  | some (.error x, S') => some (.error x, S') := rfl
end Pd
namespace Pd
open PySem PySem.Spec PyProof.Rows L2

/-! ### names -/
inductive Sl where
  | d (x : D)
  | own (xs : List D)
  | bag
abbrev DE := List (Option Sl)

def RepSl (K : PySem.W.Frag) (B : Option Addr) (F H : Hp) : Sl → V → Prop
  | .d x, v => Dv K F x v
  | .own xs, v => ∃ p vs, v = .ref p ∧ F p = none ∧ some p ≠ B ∧ H p = some (.lst vs) ∧ DvA K F xs vs
  | .bag, v => ∃ b, v = .ref b ∧ B = some b
structure RepE (K : PySem.W.Frag) (B : Option Addr) (G F H : Hp) (σ : L2.St) (δ : DE) : Prop where
  len : δ.length = σ.length
  rep : ∀ (i : Nat) (s : Sl), δ[i]? = some (some s) → ∃ v, σ[i]? = some (some v) ∧ RepSl K B F H s v
  gfr : ∀ (i : Nat) (xs : List D) (p : Addr), δ[i]? = some (some (.own xs)) → σ[i]? = some (some (.ref p)) → G p = none
  dis : ∀ (i j : Nat) (xs ys : List D) (p : Addr), δ[i]? = some (some (.own xs)) → δ[j]? = some (some (.own ys)) → σ[i]? = some (some (.ref p)) → σ[j]? = some (some (.ref p)) → i = j
structure Base (K : PySem.W.Frag) (B : Option Addr) (G F H : Hp) (σ : L2.St) (δ : DE) (S : Option Bag) : Prop where
  fh : Sub F H
  gh : Sub G H
  gB : ∀ b, B = some b → G b = none
  env : RepE K B G F H σ δ
  bag : RepS B F H S

section
variable {K : PySem.W.Frag} {B : Option Addr} {G F H F' H' : Hp} {σ : L2.St} {δ : DE} {S S' : Option Bag}
theorem RepSl.step {s : Sl} {v : V} (t : Stp B F H F' H') (r : RepSl K B F H s v) : RepSl K B F' H' s v := by
  cases s with
  | d x => exact Dv.mono t.ff r
  | bag => exact r
  | own xs =>
    obtain ⟨p, vs, e, h1, h2, h3, h4⟩ := r
    refine ⟨p, vs, e, ?_, h2, t.keep _ _ h2 h3, DvA.mono t.ff h4⟩
    cases z : F' p with
    | none => rfl
    | some o =>
      rcases t.new p (by rw [z]; simp) with q | ⟨q, _⟩
      · exact absurd h1 q
      · rw [q] at h3; cases h3
theorem RepE.step (t : Stp B F H F' H') (r : RepE K B G F H σ δ) : RepE K B G F' H' σ δ :=
  ⟨r.len, fun i s e => let ⟨v, h1, h2⟩ := r.rep i s e; ⟨v, h1, h2.step t⟩, r.gfr, r.dis⟩
theorem Base.step (b : Base K B G F H σ δ S) (t : Stp B F H F' H') (r : RepS B F' H' S') : Base K B G F' H' σ δ S' :=
  ⟨t.fh, fun a o h => t.keep a o (fun z => by rw [b.gB a z.symm] at h; cases h) (b.gh a o h), b.gB, b.env.step t, r⟩
theorem Base.stq (b : Base K B G F H σ δ S) (q : Stq F H F' H') : Base K B G F' H' σ δ S := b.step (q.stp b.bag) (q.bag b.bag)
end

/-! ### what is told of a piece -/
/-- what is wanted of an error (to be said when errors are) -/
def WX (E : XK) (x : Exn) (F H : Hp) : Prop := False
def Aft {α β : Type} (E : XK) (B : Option Addr) (F H : Hp) (R : α → β → Hp → Hp → Prop) (Q : β → Hp → Prop) : Option (Except Exn α × Option Bag) → Prop
  | none => False
  | some (.ok a, S') => ∀ v F' H', Stp B F H F' H' → RepS B F' H' S' → R a v F' H' → Q v H'
  | some (.error x, S') => ∀ F' H', Stp B F H F' H' → RepS B F' H' S' → WX E x F' H'
abbrev Rel (α β : Type) := Option Addr → Hp → α → β → Hp → Hp → Prop
def RBk {α β : Type} (R : Rel α β) : Prop := ∀ B F H F1 H1 a v F' H', Stp B F H F1 H1 → R B H1 a v F' H' → R B H a v F' H'
def tM {α β : Type} (K : PySem.W.Frag) (E : XK) (R : Rel α β) (m : DE → M α) : L2.St → Hp → (β → Hp → Prop) → Prop := fun σ H Q =>
  ∃ B G F δ S, Base K B G F H σ δ S ∧ Aft E B F H (R B H) Q (m δ S)

/-- data -/
def RD (K : PySem.W.Frag) : Rel D V := fun _ _ d v F' _ => Dv K F' d v
/-- a new list -/
def RO (K : PySem.W.Frag) : Rel (List D) V := fun B H ds v F' H' => ∃ p vs, v = .ref p ∧ H p = none ∧ some p ≠ B ∧ F' p = none ∧ H' p = some (.lst vs) ∧ DvA K F' ds vs
/-- a truth -/
def RB : Rel Bool Bool := fun _ _ b c _ _ => b = c
/-- arguments -/
def RepArg (K : PySem.W.Frag) (B : Option Addr) (F : Hp) : Sl → V → Prop
  | .d x, v => Dv K F x v
  | .bag, v => ∃ b, B = some b ∧ v = .ref b
  | .own _, _ => False
def RepAs (K : PySem.W.Frag) (B : Option Addr) (F : Hp) : List Sl → List V → Prop
  | [], vs => vs = []
  | s :: ss, vs => ∃ v r, vs = v :: r ∧ RepArg K B F s v ∧ RepAs K B F ss r
def RA (K : PySem.W.Frag) : Rel (List Sl) (List V) := fun B _ ss vs F' _ => RepAs K B F' ss vs
/-- data, one after another -/
def RDs (K : PySem.W.Frag) : Rel (List D) (List V) := fun _ _ ds vs F' _ => DvA K F' ds vs
/-- what a def hands back -/
def RR (K : PySem.W.Frag) : Rel Sl V := fun B H s v F' H' => match s with
  | .d x => Dv K F' x v
  | .own xs => RO K B H xs v F' H'
  | .bag => False
/-- a part of a slice -/
def ROp : Rel (Option Int) (Option Int) := fun _ _ a b _ _ => a = b

section
variable {K : PySem.W.Frag} {B : Option Addr} {G F H F' H' F1 H1 : Hp} {σ : L2.St} {δ : DE} {S S' : Option Bag} {E : XK}
theorem RO.bk : RBk (RO K) := fun B F H F1 H1 a v F' H' t ⟨p, vs, e, h1, h2, h3⟩ => by
  refine ⟨p, vs, e, ?_, h2, h3⟩
  cases z : H p with
  | none => rfl
  | some o => rw [t.keep p o h2 z] at h1; cases h1
theorem RD.bk : RBk (RD K) := fun _ _ _ _ _ _ _ _ _ _ h => h
theorem RB.bk : RBk RB := fun _ _ _ _ _ _ _ _ _ _ h => h
theorem RA.bk : RBk (RA K) := fun _ _ _ _ _ _ _ _ _ _ h => h
theorem RDs.bk : RBk (RDs K) := fun _ _ _ _ _ _ _ _ _ _ h => h
theorem ROp.bk : RBk ROp := fun _ _ _ _ _ _ _ _ _ _ h => h
theorem RR.bk : RBk (RR K) := fun B F H F1 H1 a v F' H' t h => by
  cases a with
  | d x => exact h
  | own xs => exact RO.bk B F H F1 H1 _ _ _ _ t h
  | bag => exact h
theorem RepAs.mono (s : Sub F F') : ∀ {ss : List Sl} {vs : List V}, RepAs K B F ss vs → RepAs K B F' ss vs
  | [], _, h => h
  | x :: ss, _, h => by
    obtain ⟨v, r, e, h1, h2⟩ := h
    refine ⟨v, r, e, ?_, RepAs.mono s h2⟩
    cases x with
    | d x => exact Dv.mono s h1
    | bag => exact h1
    | own _ => exact h1
theorem RepAs.len : ∀ {ss : List Sl} {vs : List V}, RepAs K B F ss vs → vs.length = ss.length
  | [], _, h => by cases h; rfl
  | x :: ss, _, h => by
    obtain ⟨v, r, e, h1, h2⟩ := h
    subst e
    simp [RepAs.len h2]

/-- later -/
theorem Aft.from {α β : Type} {R : Rel α β} {Q : β → Hp → Prop} (bk : RBk R) (t : Stp B F H F1 H1) : ∀ {o : Option (Except Exn α × Option Bag)}, Aft E B F H (R B H) Q o → Aft E B F1 H1 (R B H1) Q o
  | none, h => h
  | some (.ok a, S'), h => fun v F' H' t' r' q => h v F' H' (t.trans t') r' (bk _ _ _ _ _ _ _ _ _ t q)
  | some (.error x, S'), h => fun F' H' t' r' => h F' H' (t.trans t') r'
/-- THE STEP: first m, then k -/
theorem Aft.bind {α β γ ε : Type} {R1 : Rel α β} {R2 : Rel γ ε} {m : DE → M α} {k : α → M γ} {Q : ε → Hp → Prop} {Q1 : β → Hp → Prop} (b : Base K B G F H σ δ S) (bk : RBk R2)
    (h : Aft E B F H (R2 B H) Q (M.bind (m δ) k S))
    (q : ∀ F1 H1 S1 a v, Stp B F H F1 H1 → Base K B G F1 H1 σ δ S1 → R1 B H a v F1 H1 → Aft E B F1 H1 (R2 B H1) Q (k a S1) → Q1 v H1) : tM K E R1 m σ H Q1 := by
  refine ⟨B, G, F, δ, S, b, ?_⟩
  rw [M.bind_eq] at h
  cases e : m δ S with
  | none => rw [e] at h; exact h
  | some x =>
    obtain ⟨x, S1⟩ := x
    rw [e] at h
    cases x with
    | error x => exact h
    | ok a => exact fun v F1 H1 t r ra => q F1 H1 S1 a v t (b.step t r) ra (h.from bk t)
theorem Aft.ret {α β : Type} {R : Rel α β} {Q : β → Hp → Prop} {a : α} {v : β} (b : Base K B G F H σ δ S) (h : Aft E B F H (R B H) Q (M.ret a S)) (r : R B H a v F H) : Q v H :=
  h v F H (Stp.refl b.fh) b.bag r
/-- a value that an operation lays -/
theorem Aft.lay {α β : Type} {R : Rel α β} {Q : β → Hp → Prop} {a : α} {v : β} (b : Base K B G F H σ δ S) (h : Aft E B F H (R B H) Q (M.ret a S)) (t : Stq F H F' H') (r : R B H a v F' H') : Q v H' :=
  h v F' H' (t.stp b.bag) (t.bag b.bag) r
theorem lift_some {α β : Type} {R : Rel α β} {Q : β → Hp → Prop} {o : Option α} (h : Aft E B F H (R B H) Q (M.lift o S)) : ∃ a, o = some a ∧ Aft E B F H (R B H) Q (M.ret a S) := by
  cases o with
  | none => exact False.elim h
  | some a => exact ⟨a, rfl, h⟩
end

/-! ### weakening -/
section
variable {X : Cx}
theorem PE.wk {e : Expr} {t t' : TE} (h : PE X e t) (w : ∀ σ H Q, t' σ H Q → t σ H Q) : PE X e t' := ⟨fun pins s σ H Q I q => h.run pins s σ H Q I (w σ H Q q)⟩
theorem PT.wk {e : Expr} {t t' : TT} (h : PT X e t) (w : ∀ σ H Q, t' σ H Q → t σ H Q) : PT X e t' := ⟨fun pins s σ H Q I q => h.run pins s σ H Q I (w σ H Q q)⟩
theorem PW.wk {e : Expr} {t t' : TT} (h : PW X e t) (w : ∀ σ H Q, t' σ H Q → t σ H Q) : PW X e t' := ⟨fun wh pins s σ H Q I q => h.run wh pins s σ H Q I (w σ H Q q)⟩
theorem PTs.wk {e : List Expr} {t t' : TT} (h : PTs X e t) (w : ∀ σ H Q, t' σ H Q → t σ H Q) : PTs X e t' := ⟨fun pins s σ H Q I q => h.run pins s σ H Q I (w σ H Q q)⟩
theorem PA.wk {e : List Expr} {t t' : TA} (h : PA X e t) (w : ∀ σ H Q, t' σ H Q → t σ H Q) : PA X e t' := ⟨fun ps pins s σ H Q I q => h.run ps pins s σ H Q I (w σ H Q q)⟩
theorem PO.wk {e : Option Expr} {t t' : TO} (h : PO X e t) (w : ∀ σ H Q, t' σ H Q → t σ H Q) : PO X e t' := ⟨fun pins s σ H Q I q => h.run pins s σ H Q I (w σ H Q q)⟩
theorem PS.wk {e : Stmt} {t t' : TS} (h : PS X e t) (w : ∀ D σ H, t' D σ H → t D σ H) : PS X e t' := ⟨fun pins s σ H D I q => h.run pins s σ H D I (w D σ H q)⟩
theorem PSs.wk {e : List Stmt} {t t' : TS} (h : PSs X e t) (w : ∀ D σ H, t' D σ H → t D σ H) : PSs X e t' := ⟨fun pins s σ H D I q => h.run pins s σ H D I (w D σ H q)⟩
theorem PI.wk {tg e : Expr} {t t' : TI} (h : PI X tg e t) (w : ∀ σ H Q, t' σ H Q → t σ H Q) : PI X tg e t' := ⟨fun pins s σ H Q I q => h.run pins s σ H Q I (w σ H Q q)⟩
end

/-! ### the judgements -/
abbrev tD (K : PySem.W.Frag) (E : XK) (m : DE → M D) : TE := tM K E (RD K) m
abbrev tO (K : PySem.W.Frag) (E : XK) (m : DE → M (List D)) : TE := tM K E (RO K) m
abbrev tT (K : PySem.W.Frag) (E : XK) (m : DE → M Bool) : TT := tM K E RB m
abbrev tR (K : PySem.W.Frag) (E : XK) (m : DE → M Sl) : TE := tM K E (RR K) m
abbrev tAs (K : PySem.W.Frag) (E : XK) (m : DE → M (List Sl)) : TA := tM K E (RA K) m
abbrev tDs (K : PySem.W.Frag) (E : XK) (m : DE → M (List D)) : TA := tM K E (RDs K) m
abbrev tPt (K : PySem.W.Frag) (E : XK) (m : DE → M (Option Int)) : TO := tM K E ROp m

/-! ### names, constants -/
def eVar (i : Nat) : DE → M D := fun δ => M.lift (match δ[i]? with
  | some (some (.d x)) => some x
  | _ => none)
def eC (d : D) : DE → M D := fun _ => M.ret d
section
variable {X : Cx} {E : XK}
theorem pd_var {i : Nat} {e : Expr} (h : PE X e (tVar i)) : PE X e (tD X.K E (eVar i)) := PE.wk h fun σ H Q ⟨B, G, F, δ, S, b, a⟩ => by
  obtain ⟨x, e, a⟩ := lift_some a
  cases e1 : δ[i]? with
  | none => rw [e1] at e; cases e
  | some s =>
    rw [e1] at e
    cases s with
    | none => cases e
    | some s =>
      cases s with
      | d y =>
        cases e
        obtain ⟨v, h1, h2⟩ := b.env.rep i _ e1
        exact ⟨v, h1, a.ret b h2⟩
      | _ => cases e
theorem pd_c {e : Expr} {d : D} {v : V} (h : PE X e (tC v)) (q : ∀ F, Dv X.K F d v) : PE X e (tD X.K E (eC d)) := PE.wk h fun σ H Q ⟨B, G, F, δ, S, b, a⟩ => a.ret b (q F)
theorem pd_int {i j pos} : PE X (.Constant (.int i) j pos) (tD X.K E (eC (.int i))) := pd_c pe_int fun _ => rfl
theorem pd_str {i j pos} : PE X (.Constant (.str i) j pos) (tD X.K E (eC (.str i))) := pd_c pe_str fun _ => rfl
theorem pd_bl {i j pos} : PE X (.Constant (.bool i) j pos) (tD X.K E (eC (.bool i))) := pd_c pe_bl fun _ => rfl
theorem pd_non {j pos} : PE X (.Constant .none j pos) (tD X.K E (eC .none)) := pd_c pe_non fun _ => rfl
/-- a constant of the module -/
theorem pd_glob {x : Str} {v : V} {u : Value} {d : D} {pos : Pos} (hg : Gl X x) (hm : X.mg x = some u) (r : RelV v u) (q : ∀ F, Dv X.K F d v) (hd : (x == ("__debug__" : Str)) = false := by decide) : PE X (.Name x pos) (tD X.K E (eC d)) := pd_c (pe_glob hg hm r hd) q

end

/-! ### a new list becomes data -/
theorem Aft.map {α β γ ε : Type} {E : XK} {B : Option Addr} {F H : Hp} {R1 : α → β → Hp → Hp → Prop} {R2 : γ → ε → Hp → Hp → Prop} {g : α → γ} {Q : ε → Hp → Prop} {Q1 : β → Hp → Prop}
    (q : ∀ a v F' H' S', Stp B F H F' H' → RepS B F' H' S' → R1 a v F' H' → (∀ w F2 H2, Stp B F H F2 H2 → RepS B F2 H2 S' → R2 (g a) w F2 H2 → Q w H2) → Q1 v H') :
    ∀ {o : Option (Except Exn α × Option Bag)}, (∀ {m : M α} {S : Option Bag}, m S = o → Aft E B F H R2 Q (M.bind m (fun a => M.ret (g a)) S) → Aft E B F H R1 Q1 (m S)) := by
  intro o m S e h
  rw [M.bind_eq] at h
  rw [e] at h ⊢
  cases o with
  | none => exact h
  | some x =>
    obtain ⟨x, S1⟩ := x
    cases x with
    | error x => exact h
    | ok a => exact fun v F' H' t r ra => q a v F' H' S1 t r ra h
def eFrz (m : DE → M (List D)) : DE → M D := fun δ => M.bind (m δ) fun ds => M.ret (.list ds)
theorem frz_stp {B : Option Addr} {F H F' H' : Hp} {S : Option Bag} {p : Addr} {vs : List V} (t : Stp B F H F' H') (r : RepS B F' H' S) (h1 : H p = none) (h2 : some p ≠ B) (h3 : F' p = none) (h4 : H' p = some (.lst vs)) :
    Stp B F H (upd F' p (.lst vs)) H' ∧ RepS B (upd F' p (.lst vs)) H' S := by
  refine ⟨⟨t.ff.trans (Sub.up h3), t.fh.up1 h4, t.keep, fun a q => ?_⟩, ?_⟩
  · by_cases e : a = p
    · subst e; exact .inr ⟨h1, h2⟩
    · rw [upd_ne e] at q; exact t.new a q
  · cases S with
    | none => exact r
    | some g =>
      obtain ⟨b, l, e, q0, q1, q2⟩ := r
      refine ⟨b, l, e, ?_, q1, Sub.up h3 _ _ q2⟩
      have n : b ≠ p := fun z => h2 (by rw [← z, e])
      rw [upd_ne n]; exact q0
section
variable {X : Cx} {E : XK}
theorem pd_frz {e : Expr} {m : DE → M (List D)} (h : PE X e (tO X.K E m)) : PE X e (tD X.K E (eFrz m)) := PE.wk h fun σ H Q ⟨B, G, F, δ, S, b, a⟩ => by
  refine ⟨B, G, F, δ, S, b, Aft.map (fun ds v F' H' S' t r ra q => ?_) rfl a⟩
  obtain ⟨p, vs, e, h1, h2, h3, h4, h5⟩ := ra
  subst e
  obtain ⟨t', r'⟩ := frz_stp t r h1 h2 h3 h4
  exact q _ _ _ t' r' ⟨p, vs, rfl, upd_same, DvA.mono (Sub.up h3) h5⟩
end
end Pd
namespace Pd
open PySem PySem.Spec PyProof.Rows L2

theorem line_eq : (sizeLine : Nat) = 16777216 := sizeLine_eq

theorem Aft.mapL {α β γ ε : Type} {E : XK} {B : Option Addr} {F H : Hp} {R1 : α → β → Hp → Hp → Prop} {R2 : γ → ε → Hp → Hp → Prop} {g : α → Option γ} {Q : ε → Hp → Prop} {Q1 : β → Hp → Prop} {m : M α} {S : Option Bag}
    (h : Aft E B F H R2 Q (M.bind m (fun a => M.lift (g a)) S))
    (q : ∀ a v F' H' S' c, Stp B F H F' H' → RepS B F' H' S' → R1 a v F' H' → g a = some c → (∀ w F2 H2, Stp B F H F2 H2 → RepS B F2 H2 S' → R2 c w F2 H2 → Q w H2) → Q1 v H') : Aft E B F H R1 Q1 (m S) := by
  rw [M.bind_eq] at h
  cases o : m S with
  | none => rw [o] at h; exact h
  | some x =>
    rw [o] at h
    obtain ⟨x, S1⟩ := x
    cases x with
    | error x => exact h
    | ok a =>
      intro v F' H' t r ra
      have h' : Aft E B F H R2 Q (M.lift (g a) S1) := h
      cases e : g a with
      | none => rw [e] at h'; exact False.elim h'
      | some c =>
        rw [e] at h'
        exact q a v F' H' S1 c t r ra e h'

/-! ### operations on data, by values -/
def rOp (K : PySem.W.Frag) (g : D → D → Option D) : R2 := fun x y H Q => ∃ F d e r, Sub F H ∧ Dv K F d x ∧ Dv K F e y ∧ g d e = some r ∧ ∀ v F' H', Stq F H F' H' → Dv K F' r v → Q v H'
def rUn (K : PySem.W.Frag) (g : D → Option D) : V → Hp → VK → Prop := fun x H Q => ∃ F d r, Sub F H ∧ Dv K F d x ∧ g d = some r ∧ ∀ v F' H', Stq F H F' H' → Dv K F' r v → Q v H'
def rCl (K : PySem.W.Frag) (g : List D → Option D) : List V → Hp → VK → Prop := fun xs H Q => ∃ F ds r, Sub F H ∧ DvA K F ds xs ∧ g ds = some r ∧ ∀ v F' H', Stq F H F' H' → Dv K F' r v → Q v H'
def rMt (K : PySem.W.Frag) (g : D → List D → Option D) : V → List V → Hp → VK → Prop := fun x xs H Q => ∃ F d ds r, Sub F H ∧ Dv K F d x ∧ DvA K F ds xs ∧ g d ds = some r ∧ ∀ v F' H', Stq F H F' H' → Dv K F' r v → Q v H'
def rTr (K : PySem.W.Frag) (g : D → Option Bool) : V → Hp → (Bool → Hp → Prop) → Prop := fun x H Q => ∃ F d r, Sub F H ∧ Dv K F d x ∧ g d = some r ∧ Q r H

def eOp (g : D → D → Option D) (ma mb : DE → M D) : DE → M D := fun δ => M.bind (ma δ) fun x => M.bind (mb δ) fun y => M.lift (g x y)
def eUn (g : D → Option D) (ma : DE → M D) : DE → M D := fun δ => M.bind (ma δ) fun x => M.lift (g x)
def eCl (g : List D → Option D) (ma : DE → M (List D)) : DE → M D := fun δ => M.bind (ma δ) fun xs => M.lift (g xs)
def eMt (g : D → List D → Option D) (mo : DE → M D) (ma : DE → M (List D)) : DE → M D := fun δ => M.bind (mo δ) fun x => M.bind (ma δ) fun xs => M.lift (g x xs)
def asB (d : D) : Option Bool := match d with
  | .bool b => some b
  | _ => none
def eTr (g : D → Option Bool) (ma : DE → M D) : DE → M Bool := fun δ => M.bind (ma δ) fun x => M.lift (g x)

section
variable {X : Cx} {E : XK} {a b : Expr} {ma mb : DE → M D} {pos : Pos}
/-- the core of a two-place operation -/
theorem op_wk {K : PySem.W.Frag} {g : D → D → Option D} {σ : L2.St} {H : Hp} {Q : VK} (h : tD K E (eOp g ma mb) σ H Q) : tOp (rOp K g) (tD K E ma) (tD K E mb) σ H Q := by
  obtain ⟨B, G, F, δ, S, b, a⟩ := h
  refine a.bind (R1 := RD K) b RD.bk fun F1 H1 S1 x v t1 b1 r1 a1 => ?_
  refine a1.bind (R1 := RD K) b1 RD.bk fun F2 H2 S2 y u t2 b2 r2 a2 => ?_
  obtain ⟨r, e, a3⟩ := lift_some a2
  exact ⟨F2, x, y, r, b2.fh, Dv.mono t2.ff r1, r2, e, fun v F' H' t q => a3.lay b2 t q⟩
theorem pd_op {op : Operator} {g : D → D → Option D} (ho : OpR X (binaryOp op) (rOp X.K g)) (ha : PE X a (tD X.K E ma)) (hb : PE X b (tD X.K E mb)) : PE X (.BinOp a op b pos) (tD X.K E (eOp g ma mb)) := PE.wk (pe_op ho ha hb) fun _ _ _ h => op_wk h
theorem pd_cmp {op : CmpOp} {g : D → D → Option D} (ho : OpR X (compareOp op) (rOp X.K g)) (ha : PE X a (tD X.K E ma)) (hb : PE X b (tD X.K E mb)) (hm : behindInMarks op b = false) : PE X (.Compare a [op] [b] pos) (tD X.K E (eOp g ma mb)) :=
  PE.wk (pe_cmpR ho ha hb hm) fun _ _ _ h => op_wk h
/-- .. as a test -/
theorem pdt_cmp {op : CmpOp} {g : D → D → Option D} (ho : OpR X (compareOp op) (rOp X.K g)) (ha : PE X a (tD X.K E ma)) (hb : PE X b (tD X.K E mb)) (hm : behindInMarks op b = false) : PT X (.Compare a [op] [b] pos) (tT X.K E (eTr asB (eOp g ma mb))) :=
  PT.wk (pt_cmpR ho ha hb hm) fun σ H Q ⟨B, G, F, δ, S, bs, a⟩ => op_wk (E := E) (g := g) (Q := fun x H' => ∃ k, x = .bl k ∧ Q k H') ⟨B, G, F, δ, S, bs, Aft.mapL a fun d v F' H' S' c t r rd e q => by
    cases d <;> first | (cases e; exact ⟨_, rd, q _ _ _ t r rfl⟩) | cases e⟩
theorem pd_un {op : UnaryOp} {g : D → Option D} (ho : UnR X (unaryOp op) (rUn X.K g)) (ha : PE X a (tD X.K E ma)) : PE X (.UnaryOp op a pos) (tD X.K E (eUn g ma)) := PE.wk (pe_un ho ha) fun σ H Q ⟨B, G, F, δ, S, b, a⟩ => by
  refine a.bind (R1 := RD X.K) b RD.bk fun F1 H1 S1 x v t1 b1 r1 a1 => ?_
  obtain ⟨r, e, a3⟩ := lift_some a1
  exact ⟨F1, x, r, b1.fh, r1, e, fun v F' H' t q => a3.lay b1 t q⟩
/-! ### arguments that are data -/
def aNil : DE → M (List D) := fun _ => M.ret []
def aCons (m : DE → M D) (r : DE → M (List D)) : DE → M (List D) := fun δ => M.bind (m δ) fun x => M.bind (r δ) fun xs => M.ret (x :: xs)
variable {e : Expr} {es : List Expr} {me : DE → M D} {mr : DE → M (List D)}
theorem pda_nil : PA X [] (tDs X.K E aNil) := PA.wk pa_nil fun σ H Q ⟨B, G, F, δ, S, b, a⟩ => a.ret b rfl
theorem pda_cons (h : PE X e (tD X.K E me)) (r : PA X es (tDs X.K E mr)) (hs : starEach (e :: es) X.env = (false, eval e X.env) :: starEach es X.env := by rfl) : PA X (e :: es) (tDs X.K E (aCons me mr)) :=
  PA.wk (pa_cons h r hs) fun σ H Q ⟨B, G, F, δ, S, b, a⟩ => by
    refine a.bind (R1 := RD X.K) b RDs.bk fun F1 H1 S1 x v t1 b1 r1 a1 => ?_
    refine a1.bind (R1 := RDs X.K) b1 RDs.bk fun F2 H2 S2 xs us t2 b2 r2 a2 => ?_
    exact a2.ret b2 ⟨v, us, rfl, Dv.mono t2.ff r1, r2⟩
/-! ### displays -/
def eTup (m : DE → M (List D)) : DE → M D := fun δ => M.bind (m δ) fun xs => M.lift (if xs.length ≤ 16777216 then some (.tuple xs) else none)
theorem pd_tup {k} (h : PA X es (tDs X.K E mr)) : PE X (.Tuple es k pos) (tD X.K E (eTup mr)) := PE.wk (pe_tup h) fun σ H Q ⟨B, G, F, δ, S, b, a⟩ => by
  refine a.bind (R1 := RDs X.K) b RD.bk fun F1 H1 S1 xs vs t1 b1 r1 a1 => ?_
  obtain ⟨r, e, a3⟩ := lift_some a1
  split at e
  · rename_i hl
    cases e
    refine ⟨by rw [line_eq, DvA.len r1]; exact hl, fun p hp => ?_⟩
    exact a3.lay b1 (Stq.data b1.fh hp) ⟨p, vs, rfl, sqt_of upd_same, DvA.mono (Sub.up (b1.fh.free hp)) r1⟩
  · cases e
def eLst (m : DE → M (List D)) : DE → M (List D) := fun δ => M.bind (m δ) fun xs => M.lift (if xs.length ≤ 16777216 then some xs else none)
theorem po_lst (h : PA X es (tDs X.K E mr)) : PE X (.List es pos) (tO X.K E (eLst mr)) := PE.wk (pe_lst h) fun σ H Q ⟨B, G, F, δ, S, b, a⟩ => by
  refine a.bind (R1 := RDs X.K) b RO.bk fun F1 H1 S1 xs vs t1 b1 r1 a1 => ?_
  obtain ⟨r, e, a3⟩ := lift_some a1
  split at e
  · rename_i hl
    cases e
    refine ⟨by rw [line_eq, DvA.len r1]; exact hl, fun p hp => ?_⟩
    exact a3.lay b1 (Stq.loose b1.fh hp) ⟨p, vs, rfl, hp, b1.bag.ne hp, b1.fh.free hp, upd_same, r1⟩
  · cases e
/-! ### calls of built-ins -/
variable {x : Str} {p : Pos} {id T : String} {g : List D → Option D}
theorem cl_wk {K : PySem.W.Frag} {σ : L2.St} {H : Hp} {Q : VK} (h : tD K E (eCl g mr) σ H Q) : tCB (rCl K g) (tDs K E mr) σ H Q := by
  obtain ⟨B, G, F, δ, S, b, a⟩ := h
  refine a.bind (R1 := RDs K) b RD.bk fun F1 H1 S1 xs vs t1 b1 r1 a1 => ?_
  obtain ⟨r, e, a3⟩ := lift_some a1
  exact ⟨F1, xs, r, b1.fh, r1, e, fun v F' H' t q => a3.lay b1 t q⟩
theorem pd_callB (hc : CallR X (.builtin id) (rCl X.K g)) (hg : Gl X x) (hm : X.mg x = none) (hv : bootBuiltins x = some (.builtin id)) (ha : PA X (e :: es) (tDs X.K E mr)) (hn : x ≠ "__name__" := by decide) (hdb : (x == ("__debug__" : Str)) = false := by decide)
    (he : starEach (e :: es) X.env = (false, eval e X.env) :: starEach es X.env := by rfl) (hpl : (backTo pos (starEach es X.env)).any (·.1) = false := by rfl) : PE X (.Call (.Name x p) (e :: es) [] pos) (tD X.K E (eCl g mr)) :=
  PE.wk (pe_callB hc hg hm hv ha hn hdb he hpl) fun _ _ _ h => cl_wk h
theorem pd_callTy (hc : CallR X (.type T) (rCl X.K g)) (hg : Gl X x) (hm : X.mg x = none) (hv : bootBuiltins x = some (.type T)) (ha : PA X (e :: es) (tDs X.K E mr)) (hn : x ≠ "__name__" := by decide) (hdb : (x == ("__debug__" : Str)) = false := by decide)
    (he : starEach (e :: es) X.env = (false, eval e X.env) :: starEach es X.env := by rfl) (hpl : (backTo pos (starEach es X.env)).any (·.1) = false := by rfl) : PE X (.Call (.Name x p) (e :: es) [] pos) (tD X.K E (eCl g mr)) :=
  PE.wk (pe_callTy hc hg hm hv ha hn hdb he hpl) fun _ _ _ h => cl_wk h
/-- a new list by a call: list(..), sorted(..) -/
def rClO (K : PySem.W.Frag) (g : List D → Option (List D)) : List V → Hp → VK → Prop := fun xs H Q => ∃ F ds r, Sub F H ∧ DvA K F ds xs ∧ g ds = some r ∧ ∀ p vs F' H', Stq F H F' H' → H p = none → F' p = none → H' p = some (.lst vs) → DvA K F' r vs → Q (.ref p) H'
def eClO (g : List D → Option (List D)) (ma : DE → M (List D)) : DE → M (List D) := fun δ => M.bind (ma δ) fun xs => M.lift (g xs)
theorem clO_wk {K : PySem.W.Frag} {g : List D → Option (List D)} {σ : L2.St} {H : Hp} {Q : VK} (h : tO K E (eClO g mr) σ H Q) : tCB (rClO K g) (tDs K E mr) σ H Q := by
  obtain ⟨B, G, F, δ, S, b, a⟩ := h
  refine a.bind (R1 := RDs K) b RO.bk fun F1 H1 S1 xs vs t1 b1 r1 a1 => ?_
  obtain ⟨r, e, a3⟩ := lift_some a1
  exact ⟨F1, xs, r, b1.fh, r1, e, fun p vs F' H' t h1 h2 h3 h4 => a3.lay b1 t ⟨p, vs, rfl, h1, b1.bag.ne h1, h2, h3, h4⟩⟩
theorem po_callB {g : List D → Option (List D)} (hc : CallR X (.builtin id) (rClO X.K g)) (hg : Gl X x) (hm : X.mg x = none) (hv : bootBuiltins x = some (.builtin id)) (ha : PA X (e :: es) (tDs X.K E mr)) (hn : x ≠ "__name__" := by decide) (hdb : (x == ("__debug__" : Str)) = false := by decide)
    (he : starEach (e :: es) X.env = (false, eval e X.env) :: starEach es X.env := by rfl) (hpl : (backTo pos (starEach es X.env)).any (·.1) = false := by rfl) : PE X (.Call (.Name x p) (e :: es) [] pos) (tO X.K E (eClO g mr)) :=
  PE.wk (pe_callB hc hg hm hv ha hn hdb he hpl) fun _ _ _ h => clO_wk h
theorem po_callTy {g : List D → Option (List D)} (hc : CallR X (.type T) (rClO X.K g)) (hg : Gl X x) (hm : X.mg x = none) (hv : bootBuiltins x = some (.type T)) (ha : PA X (e :: es) (tDs X.K E mr)) (hn : x ≠ "__name__" := by decide) (hdb : (x == ("__debug__" : Str)) = false := by decide)
    (he : starEach (e :: es) X.env = (false, eval e X.env) :: starEach es X.env := by rfl) (hpl : (backTo pos (starEach es X.env)).any (·.1) = false := by rfl) : PE X (.Call (.Name x p) (e :: es) [] pos) (tO X.K E (eClO g mr)) :=
  PE.wk (pe_callTy hc hg hm hv ha hn hdb he hpl) fun _ _ _ h => clO_wk h
/-! ### subscripts, slices, methods -/
theorem pd_ix {gi : D → D → Option D} (hr : IxR X (rOp X.K gi)) (ha : PE X a (tD X.K E ma)) (hb : PE X b (tD X.K E mb)) (hs : PlainIx b) : PE X (.Subscript a b pos) (tD X.K E (eOp gi ma mb)) := PE.wk (pe_ix hr ha hb hs) fun _ _ _ h => op_wk h
def asI (d : D) : Option Int := match d with
  | .int i => some i
  | _ => none
def ptNone : DE → M (Option Int) := fun _ => M.ret none
def ptSome (m : DE → M D) : DE → M (Option Int) := fun δ => M.bind (m δ) fun x => M.lift ((asI x).map some)
theorem pp_none : PO X none (tPt X.K E ptNone) := PO.wk po_none fun σ H Q ⟨B, G, F, δ, S, b, a⟩ => a.ret b rfl
theorem pp_some (h : PE X e (tD X.K E me)) : PO X (some e) (tPt X.K E (ptSome me)) := PO.wk (po_some h) fun σ H Q ⟨B, G, F, δ, S, b, a⟩ => by
  refine ⟨B, G, F, δ, S, b, Aft.mapL a fun d v F' H' S' c t r rd e q => ?_⟩
  cases d <;> first | (cases e; exact ⟨_, rd, q _ _ _ t r rfl⟩) | cases e
def rSl (K : PySem.W.Frag) (g : D → Option Int → Option Int → Option D) : V → Option Int → Option Int → Hp → VK → Prop := fun x lo hi H Q => ∃ F d r, Sub F H ∧ Dv K F d x ∧ g d lo hi = some r ∧ ∀ v F' H', Stq F H F' H' → Dv K F' r v → Q v H'
def eSl (g : D → Option Int → Option Int → Option D) (me : DE → M D) (ml mh : DE → M (Option Int)) : DE → M D := fun δ => M.bind (me δ) fun x => M.bind (ml δ) fun l => M.bind (mh δ) fun h => M.lift (g x l h)
theorem pd_slice {g : D → Option Int → Option Int → Option D} {lo hi : Option Expr} {p2 : Pos} {ml mh : DE → M (Option Int)} (hr : SlR X (rSl X.K g)) (he : PE X e (tD X.K E me)) (hl : PO X lo (tPt X.K E ml)) (hh : PO X hi (tPt X.K E mh)) :
    PE X (.Subscript e (.Slice lo hi none p2) pos) (tD X.K E (eSl g me ml mh)) := PE.wk (pe_slice hr he hl hh) fun σ H Q ⟨B, G, F, δ, S, b, a⟩ => by
  refine a.bind (R1 := RD X.K) b RD.bk fun F1 H1 S1 x v t1 b1 r1 a1 => ?_
  refine a1.bind (R1 := ROp) b1 RD.bk fun F2 H2 S2 l l' t2 b2 r2 a2 => ?_
  refine a2.bind (R1 := ROp) b2 RD.bk fun F3 H3 S3 h h' t3 b3 r3 a3 => ?_
  cases r2
  cases r3
  obtain ⟨r, e, a4⟩ := lift_some a3
  exact ⟨F3, x, r, b3.fh, Dv.mono (t2.ff.trans t3.ff) r1, e, fun v F' H' t q => a4.lay b3 t q⟩
/-- a method of texts -/
def asS (d : D) : Option Str := match d with
  | .str z => some z
  | _ => none
def rSm (K : PySem.W.Frag) (g : Str → List D → Option D) : V → List V → Hp → VK → Prop := fun x xs H Q => ∃ z F ds r, x = .str z ∧ Sub F H ∧ DvA K F ds xs ∧ g z ds = some r ∧ ∀ v F' H', Stq F H F' H' → Dv K F' r v → Q v H'
def eSm (g : Str → List D → Option D) (mo : DE → M D) (ma : DE → M (List D)) : DE → M D := fun δ => M.bind (mo δ) fun x => M.bind (M.lift (asS x)) fun z => M.bind (ma δ) fun xs => M.lift (g z xs)
theorem pd_sm {o : Expr} {mo : DE → M D} {name : Str} {apos cpos : Pos} {g : Str → List D → Option D} (pa : PlainAttrs "str") (slot : Slot "str" name id) (hty : typeOf (.builtin id) = pure (.type "method_descriptor")) (hm : MtR X id (rSm X.K g)) (ho : PE X o (tD X.K E mo)) (ha : PA X (e :: es) (tDs X.K E mr))
    (hbase : attributeBase o name X.env (eval o X.env) = eval o X.env := by rfl)
    (hfew : ((backTo cpos (starEach (e :: es) X.env)).all (fun x => !x.1) && (backToKw cpos (keywordEach [] X.env)).all (fun x => x.1.isSome)
      && decide ((e :: es).length + ([] : List Keyword).length + (if ([] : List Keyword).isEmpty then 0 else 1) < 30)) = true := by rfl)
    (hline : (apos.endLine == cpos.line) = true := by rfl) (hs : starEach (e :: es) X.env = (false, eval e X.env) :: starEach es X.env := by rfl) (hplain : (backTo cpos (starEach es X.env)).any (·.1) = false := by rfl) :
    PE X (.Call (.Attribute o name apos) (e :: es) [] cpos) (tD X.K E (eSm g mo mr)) := PE.wk (pe_bm pa slot hty hm ho ha hbase hfew hline hs hplain) fun σ H Q ⟨B, G, F, δ, S, b, a⟩ => by
  refine a.bind (R1 := RD X.K) b RD.bk fun F1 H1 S1 d v t1 b1 r1 a1 => ?_
  cases d with
  | str z =>
    have r1' : v = .str z := r1
    subst r1'
    refine ⟨rfl, Aft.bind (m := mr) (k := fun xs => M.lift (g z xs)) (R1 := RDs X.K) b1 RD.bk a1 fun F2 H2 S2 xs us t2 b2 r2 a2 => ?_⟩
    obtain ⟨r, e, a3⟩ := lift_some a2
    exact ⟨z, F2, xs, r, rfl, b2.fh, r2, e, fun v F' H' t q => a3.lay b2 t q⟩
  | _ => exact False.elim a1
end
end Pd
namespace Pd
open PySem PySem.Spec PyProof.Rows L2

/-- a test's value: what the answer of a test-like reading must give -/
theorem tr_wk {K : PySem.W.Frag} {E : XK} {g : D → Option Bool} {m : DE → M D} {σ : L2.St} {H : Hp} {Q : Bool → Hp → Prop} {T : V → Hp → (Bool → Hp → Prop) → Prop}
    (hT : ∀ F d v H' k Q, Sub F H' → Dv K F d v → g d = some k → Q k H' → T v H' Q) (h : tT K E (eTr g m) σ H Q) : tD K E m σ H (fun v H' => T v H' Q) := by
  obtain ⟨B, G, F, δ, S, b, a⟩ := h
  refine ⟨B, G, F, δ, S, b, Aft.mapL a fun d v F' H' S' c t r rd e q => ?_⟩
  exact hT F' d v H' c Q t.fh rd e (q _ _ _ t r rfl)

def pyTruth : D → Option Bool
  | .none => some false
  | .bool b => some b
  | .int i => some (i != 0)
  | .str y => if y.length ≤ 16777216 then some ((y.length : Int) != 0) else none
  | .list xs => some (!xs.isEmpty)
  | .tuple xs => some (!xs.isEmpty)
  | .dict _ => none
theorem isEmpty_dva {K : PySem.W.Frag} {F : Hp} {ds : List D} {xs : List V} (h : DvA K F ds xs) : xs.isEmpty = ds.isEmpty := by
  cases ds with
  | nil => cases h; rfl
  | cons d ds => obtain ⟨v, r, e, _⟩ := h; subst e; rfl
theorem truth_v {K : PySem.W.Frag} {F H : Hp} {d : D} {v : V} {k : Bool} (s : Sub F H) (h : Dv K F d v) (e : pyTruth d = some k) : TruV K v H k := by
  cases d with
  | none => cases h; cases e; exact rfl
  | bool b => cases h; cases e; exact rfl
  | int i => cases h; cases e; exact rfl
  | str y =>
    cases h
    have e' : (if y.length ≤ 16777216 then some ((y.length : Int) != 0) else none) = some k := e
    by_cases hl : y.length ≤ 16777216
    · rw [if_pos hl] at e'
      cases e'
      exact ⟨by rw [line_eq]; exact hl, rfl⟩
    · rw [if_neg hl] at e'; cases e'
  | list ds =>
    obtain ⟨a, xs, rfl, h1, h2⟩ := h
    cases e
    exact .inl ⟨xs, SqL.of (s _ _ h1), by rw [isEmpty_dva h2]⟩
  | tuple ds =>
    obtain ⟨a, xs, rfl, h1, h2⟩ := h
    cases e
    exact .inr (.inl ⟨xs, sqt_mono s h1, by rw [isEmpty_dva h2]⟩)
  | dict _ => exact h.elim

section
variable {X : Cx} {E : XK} {a b c e : Expr} {ma mb mc : DE → M D} {mt mu : DE → M Bool} {rest : List Expr} {pos : Pos}
/-- truth of a value, as a test -/
theorem pdt_truth (ha : PE X a (tD X.K E ma)) (he : ∀ whole, isTrue a X.env whole = (do let v ← whole; standAt a.pos; holding [v] (truthy v)) := by intro _; rfl) : PT X a (tT X.K E (eTr pyTruth ma)) :=
  PT.wk (pt_truth ha he) fun σ H Q h => tr_wk (T := fun v H' Q => ∃ k, TruV X.K v H' k ∧ Q k H') (fun F d v H' k Q s h e q => ⟨k, truth_v s h e, q⟩) h
def eNotT (m : DE → M Bool) : DE → M Bool := fun δ => M.bind (m δ) fun b => M.ret (!b)
theorem pdt_not (ha : PT X a (tT X.K E mt)) : PT X (.UnaryOp .Not a pos) (tT X.K E (eNotT mt)) := PT.wk (pt_not ha) fun σ H Q ⟨B, G, F, δ, S, b, a⟩ => by
  refine a.bind (R1 := RB) b RB.bk fun F1 H1 S1 x v t1 b1 r1 a1 => ?_
  cases r1
  exact a1.ret b1 rfl
def eAndT (m k : DE → M Bool) : DE → M Bool := fun δ => M.bind (m δ) fun b => if b = true then k δ else M.ret false
def eOrT (m k : DE → M Bool) : DE → M Bool := fun δ => M.bind (m δ) fun b => if b = true then M.ret true else k δ
theorem pdw_and1 (ha : PT X a (tT X.K E mt)) : PW X (.BoolOp .And [a] pos) (tT X.K E mt) := pw_and1 ha
theorem pdw_or1 (ha : PT X a (tT X.K E mt)) : PW X (.BoolOp .Or [a] pos) (tT X.K E mt) := pw_or1 ha
theorem pdw_and (ha : PT X a (tT X.K E mt)) (hb : PW X (.BoolOp .And (b :: rest) pos) (tT X.K E mu)) : PW X (.BoolOp .And (a :: b :: rest) pos) (tT X.K E (eAndT mt mu)) := PW.wk (pw_and ha hb) fun σ H Q ⟨B, G, F, δ, S, b, a⟩ => by
  refine a.bind (R1 := RB) b RB.bk fun F1 H1 S1 x v t1 b1 r1 a1 => ?_
  cases r1
  cases x with
  | true => exact ⟨B, G, F1, δ, S1, b1, a1⟩
  | false => exact a1.ret b1 rfl
theorem pdw_or (ha : PT X a (tT X.K E mt)) (hb : PW X (.BoolOp .Or (b :: rest) pos) (tT X.K E mu)) : PW X (.BoolOp .Or (a :: b :: rest) pos) (tT X.K E (eOrT mt mu)) := PW.wk (pw_or ha hb) fun σ H Q ⟨B, G, F, δ, S, b, a⟩ => by
  refine a.bind (R1 := RB) b RB.bk fun F1 H1 S1 x v t1 b1 r1 a1 => ?_
  cases r1
  cases x with
  | true => exact a1.ret b1 rfl
  | false => exact ⟨B, G, F1, δ, S1, b1, a1⟩
/-- values by truth -/
def eOr (m k : DE → M D) : DE → M D := fun δ => M.bind (m δ) fun x => M.bind (M.lift (pyTruth x)) fun b => if b = true then M.ret x else k δ
def eAnd (m k : DE → M D) : DE → M D := fun δ => M.bind (m δ) fun x => M.bind (M.lift (pyTruth x)) fun b => if b = true then k δ else M.ret x
theorem bl_some {α β γ : Type} {R : Rel β γ} {B : Option Addr} {F H : Hp} {S : Option Bag} {E : XK} {Q : γ → Hp → Prop} {o : Option α} {k : α → M β} (h : Aft E B F H (R B H) Q (M.bind (M.lift o) k S)) : ∃ a, o = some a ∧ Aft E B F H (R B H) Q (k a S) := by
  cases o with
  | none => exact False.elim h
  | some a => exact ⟨a, rfl, h⟩
theorem pd_one {op} (h : PE X a (tD X.K E ma)) : PE X (.BoolOp op [a] pos) (tD X.K E ma) := pe_one h
theorem pd_or (ha : PE X a (tD X.K E ma)) (hb : PE X (.BoolOp .Or (b :: rest) pos) (tD X.K E mb)) : PE X (.BoolOp .Or (a :: b :: rest) pos) (tD X.K E (eOr ma mb)) := PE.wk (pe_orT ha hb) fun σ H Q ⟨B, G, F, δ, S, b, a⟩ => by
  refine a.bind (R1 := RD X.K) b RD.bk fun F1 H1 S1 x v t1 b1 r1 a1 => ?_
  obtain ⟨k, e, a2⟩ := bl_some a1
  refine ⟨k, truth_v b1.fh r1 e, ?_⟩
  cases k with
  | true => exact a2.ret b1 r1
  | false => exact ⟨B, G, F1, δ, S1, b1, a2⟩
theorem pd_and (ha : PE X a (tD X.K E ma)) (hb : PE X (.BoolOp .And (b :: rest) pos) (tD X.K E mb)) : PE X (.BoolOp .And (a :: b :: rest) pos) (tD X.K E (eAnd ma mb)) := PE.wk (pe_andT ha hb) fun σ H Q ⟨B, G, F, δ, S, b, a⟩ => by
  refine a.bind (R1 := RD X.K) b RD.bk fun F1 H1 S1 x v t1 b1 r1 a1 => ?_
  obtain ⟨k, e, a2⟩ := bl_some a1
  refine ⟨k, truth_v b1.fh r1 e, ?_⟩
  cases k with
  | true => exact ⟨B, G, F1, δ, S1, b1, a2⟩
  | false => exact a2.ret b1 r1
def eNot (m : DE → M D) : DE → M D := fun δ => M.bind (m δ) fun x => M.lift ((pyTruth x).map fun b => .bool (!b))
theorem pd_not (ha : PE X a (tD X.K E ma)) : PE X (.UnaryOp .Not a pos) (tD X.K E (eNot ma)) := PE.wk (pe_notT ha) fun σ H Q ⟨B, G, F, δ, S, b, a⟩ => by
  refine a.bind (R1 := RD X.K) b RD.bk fun F1 H1 S1 x v t1 b1 r1 a1 => ?_
  obtain ⟨r, e, a2⟩ := lift_some a1
  cases e1 : pyTruth x with
  | none => rw [e1] at e; cases e
  | some k =>
    rw [e1] at e
    cases e
    exact ⟨k, truth_v b1.fh r1 e1, a2.ret b1 rfl⟩
/-- a if t else b -/
def eIf (t : DE → M Bool) (m k : DE → M D) : DE → M D := fun δ => M.bind (t δ) fun b => if b = true then m δ else k δ
theorem pd_if (hc : PT X c (tT X.K E mt)) (ha : PE X a (tD X.K E ma)) (hb : PE X b (tD X.K E mb)) : PE X (.IfExp c a b pos) (tD X.K E (eIf mt ma mb)) := PE.wk (pe_ifExp hc ha hb) fun σ H Q ⟨B, G, F, δ, S, b, a⟩ => by
  refine a.bind (R1 := RB) b RD.bk fun F1 H1 S1 x v t1 b1 r1 a1 => ?_
  cases r1
  cases x with
  | true => exact ⟨B, G, F1, δ, S1, b1, a1⟩
  | false => exact ⟨B, G, F1, δ, S1, b1, a1⟩
theorem asB_some {d : D} {k : Bool} (h : asB d = some k) : d = .bool k := by
  cases d <;> first | (cases h; rfl) | cases h
/-- a op b op' c -/
def eCh (g g' : D → D → Option D) (ma mb mc : DE → M D) : DE → M D := fun δ => M.bind (ma δ) fun x => M.bind (mb δ) fun y => M.bind (M.lift (g x y)) fun r => M.bind (M.lift (asB r)) fun k => if k = true then M.bind (mc δ) fun z => M.lift (g' y z) else M.ret (.bool false)
theorem ch_wk {K : PySem.W.Frag} {g g' : D → D → Option D} {σ : L2.St} {H : Hp} {Q : VK} (h : tD K E (eCh g g' ma mb mc) σ H Q) : tChain (rOp K g) (rOp K g') (tD K E ma) (tD K E mb) (tD K E mc) σ H Q := by
  obtain ⟨B, G, F, δ, S, b, a⟩ := h
  refine a.bind (R1 := RD K) b RD.bk fun F1 H1 S1 x v t1 b1 r1 a1 => ?_
  refine a1.bind (R1 := RD K) b1 RD.bk fun F2 H2 S2 y u t2 b2 r2 a2 => ?_
  obtain ⟨r, e, a3⟩ := bl_some a2
  obtain ⟨k, e2, a4⟩ := bl_some a3
  refine ⟨F2, x, y, r, b2.fh, Dv.mono t2.ff r1, r2, e, fun v F3 H3 t q => ?_⟩
  have e3 := asB_some e2
  subst e3
  have q' : v = .bl k := q
  subst q'
  refine ⟨k, rfl, ?_⟩
  have b3 := b2.stq t
  have a5 := a4.from RD.bk (t.stp b2.bag)
  cases k with
  | false => exact a5.ret b3 rfl
  | true =>
    refine Aft.bind (m := mc) (k := fun z => M.lift (g' y z)) (R1 := RD K) b3 RD.bk a5 fun F4 H4 S4 z w t4 b4 r4 a6 => ?_
    obtain ⟨r, e, a7⟩ := lift_some a6
    exact ⟨F4, y, z, r, b4.fh, Dv.mono (t.ff.trans t4.ff) r2, r4, e, fun v F' H' t q => a7.lay b4 t q⟩
theorem pd_chain {op op' : CmpOp} {g g' : D → D → Option D} (ho : OpR X (compareOp op) (rOp X.K g)) (ho' : OpR X (compareOp op') (rOp X.K g')) (ha : PE X a (tD X.K E ma)) (hb : PE X b (tD X.K E mb)) (hc : PE X c (tD X.K E mc))
    (hm : lastMarks [op, op'] [b, c] = false := by with_unfolding_all rfl) : PE X (.Compare a [op, op'] [b, c] pos) (tD X.K E (eCh g g' ma mb mc)) := PE.wk (pe_chain ho ho' ha hb hc hm) fun _ _ _ h => ch_wk h
theorem pdt_chain {op op' : CmpOp} {g g' : D → D → Option D} (ho : OpR X (compareOp op) (rOp X.K g)) (ho' : OpR X (compareOp op') (rOp X.K g')) (ha : PE X a (tD X.K E ma)) (hb : PE X b (tD X.K E mb)) (hc : PE X c (tD X.K E mc))
    (hm : lastMarks [op, op'] [b, c] = false := by with_unfolding_all rfl) : PT X (.Compare a [op, op'] [b, c] pos) (tT X.K E (eTr asB (eCh g g' ma mb mc))) :=
  PT.wk (pt_chain ho ho' ha hb hc hm) fun σ H Q h => ch_wk (tr_wk (T := fun v H' Q => ∃ k, v = .bl k ∧ Q k H') (fun F d v H' k Q s h e q => by
    cases d <;> first | (cases e; exact ⟨_, h, q⟩) | cases e) h)
end

/-! ### what is walked -/
structure Wk (K : PySem.W.Frag) (J : It) (xs : List D) (F : Hp) : Prop where
  go : ∀ i H, i < xs.length → Sub F H → J.go i H
  stop : ∀ H, Sub F H → J.stop xs.length H
  yld : ∀ i H F1 x H', i < xs.length → Sub F F1 → Sub F1 H → J.yld i H x H' → ∃ d F2, xs[i]? = some d ∧ Stq F1 H F2 H' ∧ Dv K F2 d x
def RI (K : PySem.W.Frag) : Rel (List D) It := fun _ _ xs J F' _ => Wk K J xs F'
theorem RI.bk {K : PySem.W.Frag} : RBk (RI K) := fun _ _ _ _ _ _ _ _ _ _ h => h
abbrev tI (K : PySem.W.Frag) (E : XK) (m : DE → M (List D)) : TI := tM K E (RI K) m
theorem Wk.mono {K : PySem.W.Frag} {J : It} {xs : List D} {F F' : Hp} (h : Wk K J xs F) (s : Sub F F') : Wk K J xs F' :=
  ⟨fun i H hi q => h.go i H hi (s.trans q), fun H q => h.stop H (s.trans q), fun i H F1 x H' hi q q' y => h.yld i H F1 x H' hi (s.trans q) q' y⟩
/-- the items of a value that a for walks -/
def signsOf (z : Str) : List D := z.cps.toList.map fun c => .str ⟨#[c]⟩
def itemsOf : D → Option (List D)
  | .list xs => some xs
  | .tuple xs => some xs
  | .str z => some (signsOf z)
  | _ => none
def iSeq (m : DE → M D) : DE → M (List D) := fun δ => M.bind (m δ) fun x => M.lift (itemsOf x)
section
variable {K : PySem.W.Frag} {F H : Hp}
theorem wk_list {a : Addr} {ds : List D} {xs : List V} (h : F a = some (.lst xs)) (q : DvA K F ds xs) : Wk K (Itl K a) ds F := by
  have hl := q.len
  refine ⟨fun i H hi s => ?_, fun H s => ⟨xs, SqL.of (s _ _ h), by omega⟩, fun i H F1 x H' hi s s1 y => ?_⟩
  · obtain ⟨v, e, _⟩ := q.at (List.getElem?_eq_getElem hi)
    exact ⟨xs, v, SqL.of (s _ _ h), e⟩
  · obtain ⟨rfl, y⟩ := y
    obtain ⟨d, e, r⟩ := q.at' (y xs (SqL.of (s1 _ _ (s _ _ h))))
    exact ⟨d, F1, e, Stq.refl s1, Dv.mono s r⟩
theorem wk_tup {a : Addr} {ds : List D} {xs : List V} (h : SqT K F a xs) (q : DvA K F ds xs) : Wk K (Itt K a) ds F := by
  have hl := q.len
  refine ⟨fun i H hi s => ?_, fun H s => ⟨xs, sqt_mono s h, by omega⟩, fun i H F1 x H' hi s s1 y => ?_⟩
  · obtain ⟨v, e, _⟩ := q.at (List.getElem?_eq_getElem hi)
    exact ⟨xs, v, sqt_mono s h, e⟩
  · obtain ⟨rfl, y⟩ := y
    obtain ⟨d, e, r⟩ := q.at' (y xs (sqt_mono (s.trans s1) h))
    exact ⟨d, F1, e, Stq.refl s1, Dv.mono s r⟩
theorem wk_str {z : Str} : Wk K (Its z) (signsOf z) F := by
  refine ⟨fun i H hi s => ?_, fun H s => ?_, fun i H F1 x H' hi s s1 y => ?_⟩
  · simpa [signsOf, Its] using hi
  · simp [signsOf, Its]
  · obtain ⟨rfl, c, e, rfl⟩ := y
    refine ⟨.str ⟨#[c]⟩, F1, ?_, Stq.refl s1, rfl⟩
    simp only [signsOf, List.getElem?_map, Array.getElem?_toList, e]
    rfl
def rangeD (lo : Int) (n : Nat) : List D := (List.range n).map fun i => .int (lo + (i : Nat))
theorem wk_range {lo : Int} {n : Nat} : Wk K (Itr lo n) (rangeD lo n) F := by
  refine ⟨fun i H hi s => ?_, fun H s => ?_, fun i H F1 x H' hi s s1 y => ?_⟩
  · simpa [rangeD, Itr] using hi
  · simp [rangeD, Itr]
  · obtain ⟨rfl, rfl⟩ := y
    have hi' : i < n := by simpa [rangeD] using hi
    refine ⟨.int (lo + i), F1, ?_, Stq.refl s1, rfl⟩
    simp [rangeD, List.getElem?_map, hi']
end
section
variable {X : Cx} {E : XK} {a b tg : Expr} {ma : DE → M D} {mr : DE → M (List D)} {pos p : Pos}
theorem pdi_seq (ha : PE X a (tD X.K E ma)) : PI X tg a (tI X.K E (iSeq ma)) := ⟨fun pins s σ H R I h => by
  obtain ⟨B, G, F, δ, S, b, af⟩ := h
  have af' : Aft E B F H (RI X.K B H) R (M.bind (ma δ) (fun x => M.lift (itemsOf x)) S) := af
  rw [M.bind_eq] at af'
  cases e : ma δ S with
  | none => rw [e] at af'; exact False.elim af'
  | some x =>
    rw [e] at af'
    obtain ⟨x, S1⟩ := x
    cases x with
    | error x => exact (pi_list ha).run pins s σ H R I ⟨B, G, F, δ, S, b, by rw [e]; exact af'⟩
    | ok d =>
      have af2 : Aft E B F H (RI X.K B H) R (M.lift (itemsOf d) S1) := af'
      cases d with
      | list ds =>
        refine (pi_list ha).run pins s σ H R I ⟨B, G, F, δ, S, b, ?_⟩
        rw [e]
        intro v F' H' t r rd
        obtain ⟨a, xs, e, h1, h2⟩ := rd
        exact ⟨a, e, ⟨xs, SqL.of (t.fh _ _ h1)⟩, af2 _ _ _ t r (wk_list h1 h2)⟩
      | tuple ds =>
        refine (pi_tup ha).run pins s σ H R I ⟨B, G, F, δ, S, b, ?_⟩
        rw [e]
        intro v F' H' t r rd
        obtain ⟨a, xs, e, h1, h2⟩ := rd
        exact ⟨a, e, ⟨xs, sqt_mono t.fh h1⟩, af2 _ _ _ t r (wk_tup h1 h2)⟩
      | str z =>
        refine (pi_str ha).run pins s σ H R I ⟨B, G, F, δ, S, b, ?_⟩
        rw [e]
        intro v F' H' t r rd
        exact ⟨z, rd, af2 _ _ _ t r wk_str⟩
      | _ => exact False.elim af2⟩
def asRg (n : Int) : Option Int := if -(2 ^ 62) ≤ n ∧ n < 2 ^ 62 then some n else none
def rg1 (xs : List D) : Option (List D) := match xs with
  | [.int n] => (asRg n).map fun n => rangeD 0 n.toNat
  | _ => none
def rg2 (xs : List D) : Option (List D) := match xs with
  | [.int l, .int n] => (asRg l).bind fun l => (asRg n).map fun n => rangeD l (n - l).toNat
  | _ => none
def iRg1 (m : DE → M (List D)) : DE → M (List D) := fun δ => M.bind (m δ) fun xs => M.lift (rg1 xs)
def iRg2 (m : DE → M (List D)) : DE → M (List D) := fun δ => M.bind (m δ) fun xs => M.lift (rg2 xs)
theorem asRg_some {n k : Int} (h : asRg n = some k) : k = n ∧ -(2 ^ 62) ≤ n ∧ n < 2 ^ 62 := by
  unfold asRg at h
  split at h
  · rename_i q
    exact ⟨(Option.some.inj h).symm, q⟩
  · exact nomatch h
theorem rg1_some {xs c : List D} (h : rg1 xs = some c) : ∃ n, xs = [.int n] ∧ c = rangeD 0 n.toNat ∧ -(2 ^ 62) ≤ n ∧ n < 2 ^ 62 := by
  unfold rg1 at h
  split at h
  · rename_i n
    cases e : asRg n with
    | none => rw [e] at h; exact nomatch h
    | some k =>
      rw [e] at h
      obtain ⟨e1, q⟩ := asRg_some e
      subst e1
      exact ⟨k, rfl, (Option.some.inj h).symm, q⟩
  · exact nomatch h
theorem rg2_some {xs c : List D} (h : rg2 xs = some c) : ∃ l n, xs = [.int l, .int n] ∧ c = rangeD l (n - l).toNat ∧ -(2 ^ 62) ≤ l ∧ l < 2 ^ 62 ∧ -(2 ^ 62) ≤ n ∧ n < 2 ^ 62 := by
  unfold rg2 at h
  split at h
  · rename_i l n
    cases e0 : asRg l with
    | none => rw [e0] at h; exact nomatch h
    | some j =>
      cases e : asRg n with
      | none => rw [e0, e] at h; exact nomatch h
      | some k =>
        rw [e0, e] at h
        obtain ⟨e1, q1, q2⟩ := asRg_some e0
        obtain ⟨e2, q⟩ := asRg_some e
        subst e1
        subst e2
        exact ⟨j, k, rfl, (Option.some.inj h).symm, q1, q2, q⟩
  · exact nomatch h
theorem pdi_range1 (hg : Gl X "range") (hm : X.mg "range" = none) (ha : PA X [a] (tDs X.K E mr)) (hs : starEach [a] X.env = [(false, eval a X.env)] := by rfl) : PI X tg (.Call (.Name "range" p) [a] [] pos) (tI X.K E (iRg1 mr)) :=
  PI.wk (pi_range1 hg hm ha hs) fun σ H Q ⟨B, G, F, δ, S, b, a⟩ => by
    refine ⟨B, G, F, δ, S, b, Aft.mapL (R1 := RDs X.K B H) a fun ds vs F' H' S' c t r rd e q => ?_⟩
    obtain ⟨n, e1, e2, q1, q2⟩ := rg1_some e
    rw [e1] at rd
    obtain ⟨v, r1, e3, h1, h2⟩ := rd
    refine ⟨n, ?_, q1, q2, q _ _ _ t r (e2 ▸ wk_range)⟩
    rw [e3, show v = .int n from h1, show r1 = [] from h2]
theorem pdi_range2 (hg : Gl X "range") (hm : X.mg "range" = none) (ha : PA X [a, b] (tDs X.K E mr)) (hs : starEach [a, b] X.env = [(false, eval a X.env), (false, eval b X.env)] := by rfl) (hs2 : starEach [b] X.env = [(false, eval b X.env)] := by rfl) :
    PI X tg (.Call (.Name "range" p) [a, b] [] pos) (tI X.K E (iRg2 mr)) :=
  PI.wk (pi_range2 hg hm ha hs hs2) fun σ H Q ⟨B, G, F, δ, S, b, a⟩ => by
    refine ⟨B, G, F, δ, S, b, Aft.mapL (R1 := RDs X.K B H) a fun ds vs F' H' S' c t r rd e q => ?_⟩
    obtain ⟨l, n, e1, e2, q1, q2, q3, q4⟩ := rg2_some e
    rw [e1] at rd
    obtain ⟨v, r1, e3, h1, w, r2, e4, h2, h3⟩ := rd
    refine ⟨l, n, ?_, ⟨q1, q2, q3, q4⟩, q _ _ _ t r (e2 ▸ wk_range)⟩
    rw [e3, e4, show v = .int l from h1, show w = .int n from h2, show r2 = [] from h3]
end
end Pd
namespace Pd
open PySem PySem.Spec PyProof.Rows L2

/-! ### slots stored, forgotten -/
theorem get_set {α : Type} {l : List α} {i j : Nat} {x y : α} (h : (l.set i x)[j]? = some y) : (i = j ∧ y = x ∧ j < l.length) ∨ (i ≠ j ∧ l[j]? = some y) := by
  by_cases e : i = j
  · subst e
    by_cases hi : i < l.length
    · rw [List.getElem?_set_self hi] at h
      exact .inl ⟨rfl, (Option.some.inj h).symm, hi⟩
    · rw [List.getElem?_eq_none (by simpa using hi)] at h
      exact nomatch h
  · rw [List.getElem?_set_ne e] at h
    exact .inr ⟨e, h⟩
section
variable {K : PySem.W.Frag} {B : Option Addr} {G F H : Hp} {σ : L2.St} {δ : DE} {S : Option Bag}
theorem RepE.set_d {i : Nat} {x : D} {v : V} (r : RepE K B G F H σ δ) (h : Dv K F x v) : RepE K B G F H (σ.set i (some v)) (δ.set i (some (.d x))) := by
  refine ⟨by rw [List.length_set, List.length_set, r.len], fun j s e => ?_, fun j xs p e e' => ?_, fun j k xs ys p e1 e2 e3 e4 => ?_⟩
  · rcases get_set e with ⟨rfl, e1, hl⟩ | ⟨n, e1⟩
    · cases e1
      exact ⟨v, by rw [List.getElem?_set_self (by rw [← r.len]; exact hl)], h⟩
    · obtain ⟨w, e2, q⟩ := r.rep j s e1
      exact ⟨w, by rw [List.getElem?_set_ne n]; exact e2, q⟩
  · rcases get_set e with ⟨rfl, e1, hl⟩ | ⟨n, e1⟩
    · cases e1
    · rw [List.getElem?_set_ne n] at e'
      exact r.gfr j xs p e1 e'
  · rcases get_set e1 with ⟨rfl, q, _⟩ | ⟨n1, q1⟩
    · cases q
    · rcases get_set e2 with ⟨rfl, q, _⟩ | ⟨n2, q2⟩
      · cases q
      · rw [List.getElem?_set_ne n1] at e3
        rw [List.getElem?_set_ne n2] at e4
        exact r.dis j k xs ys p q1 q2 e3 e4
/-- a list that is no other slot's -/
theorem RepE.set_o {i : Nat} {xs : List D} {p : Addr} {vs : List V} (r : RepE K B G F H σ δ) (h1 : F p = none) (h2 : some p ≠ B) (h3 : H p = some (.lst vs)) (h4 : DvA K F xs vs) (h5 : G p = none)
    (h6 : ∀ (j : Nat) (ys : List D), j ≠ i → δ[j]? = some (some (.own ys)) → σ[j]? ≠ some (some (.ref p))) : RepE K B G F H (σ.set i (some (.ref p))) (δ.set i (some (.own xs))) := by
  refine ⟨by rw [List.length_set, List.length_set, r.len], fun j s e => ?_, fun j xs q e e' => ?_, fun j k xs ys q e1 e2 e3 e4 => ?_⟩
  · rcases get_set e with ⟨rfl, e1, hl⟩ | ⟨n, e1⟩
    · cases e1
      exact ⟨.ref p, by rw [List.getElem?_set_self (by rw [← r.len]; exact hl)], p, vs, rfl, h1, h2, h3, h4⟩
    · obtain ⟨w, e2, q⟩ := r.rep j s e1
      exact ⟨w, by rw [List.getElem?_set_ne n]; exact e2, q⟩
  · rcases get_set e with ⟨rfl, e1, hl⟩ | ⟨n, e1⟩
    · rw [List.getElem?_set_self (by rw [← r.len]; exact hl)] at e'
      cases e'
      exact h5
    · rw [List.getElem?_set_ne n] at e'
      exact r.gfr j xs q e1 e'
  · rcases get_set e1 with ⟨rfl, q1, hl⟩ | ⟨n1, q1⟩
    · rw [List.getElem?_set_self (by rw [← r.len]; exact hl)] at e3
      cases e3
      rcases get_set e2 with ⟨rfl, q2, _⟩ | ⟨n2, q2⟩
      · rfl
      · rw [List.getElem?_set_ne n2] at e4
        exact absurd e4 (h6 k ys (Ne.symm n2) q2)
    · rw [List.getElem?_set_ne n1] at e3
      rcases get_set e2 with ⟨rfl, q2, hl⟩ | ⟨n2, q2⟩
      · rw [List.getElem?_set_self (by rw [← r.len]; exact hl)] at e4
        cases e4
        exact absurd e3 (h6 j xs (Ne.symm n1) q1)
      · rw [List.getElem?_set_ne n2] at e4
        exact r.dis j k xs ys q q1 q2 e3 e4
theorem Base.set_d {i : Nat} {x : D} {v : V} (b : Base K B G F H σ δ S) (h : Dv K F x v) : Base K B G F H (σ.set i (some v)) (δ.set i (some (.d x))) S := ⟨b.fh, b.gh, b.gB, b.env.set_d h, b.bag⟩
theorem wipe_set (σ : L2.St) {i : Nat} {x : Option V} : ∀ {vs : List Nat}, i ∈ vs → wipe (σ.set i x) vs = wipe σ vs
  | [], h => by simp at h
  | v :: vs, h => by
    show (wipe (σ.set i x) vs).set v none = (wipe σ vs).set v none
    by_cases hv : i ∈ vs
    · rw [wipe_set σ hv]
    · have e : i = v := by
        rcases List.mem_cons.mp h with e | e
        · exact e
        · exact absurd e hv
      subst e
      have key : ∀ (ws : List Nat), i ∉ ws → wipe (σ.set i x) ws = (wipe σ ws).set i x := by
        intro ws
        induction ws with
        | nil => intro _; rfl
        | cons w ws ih =>
          intro hn
          have hn' : i ≠ w ∧ i ∉ ws := by simpa using hn
          show (wipe (σ.set i x) ws).set w none = ((wipe σ ws).set w none).set i x
          rw [ih hn'.2, List.set_comm _ _ hn'.1]
      rw [key vs hv, List.set_set]
theorem wipe_wipe (σ : L2.St) (us : List Nat) : ∀ (vs : List Nat), (∀ i ∈ vs, i ∈ us) → wipe (wipe σ vs) us = wipe σ us
  | [], _ => rfl
  | v :: vs, h => by
    show wipe ((wipe σ vs).set v none) us = wipe σ us
    rw [wipe_set _ (h v (by simp)), wipe_wipe σ us vs fun i hi => h i (List.mem_cons_of_mem _ hi)]
def wipeD (δ : DE) : List Nat → DE
  | [] => δ
  | v :: vs => (wipeD δ vs).set v none
theorem RepE.wipe (r : RepE K B G F H σ δ) : ∀ vs : List Nat, RepE K B G F H (wipe σ vs) (wipeD δ vs)
  | [] => r
  | v :: vs => by
    have q := RepE.wipe r vs
    show RepE K B G F H ((L2.wipe σ vs).set v none) ((wipeD δ vs).set v none)
    refine ⟨by rw [List.length_set, List.length_set, q.len], fun j s e => ?_, fun j xs p e e' => ?_, fun j k xs ys p e1 e2 e3 e4 => ?_⟩
    · rcases get_set e with ⟨rfl, e1, hl⟩ | ⟨n, e1⟩
      · cases e1
      · rw [List.getElem?_set_ne n]; exact q.rep j s e1
    · rcases get_set e with ⟨rfl, e1, hl⟩ | ⟨n, e1⟩
      · cases e1
      · rw [List.getElem?_set_ne n] at e'; exact q.gfr j xs p e1 e'
    · rcases get_set e1 with ⟨rfl, z, _⟩ | ⟨n1, q1⟩
      · cases z
      · rcases get_set e2 with ⟨rfl, z, _⟩ | ⟨n2, q2⟩
        · cases z
        · rw [List.getElem?_set_ne n1] at e3
          rw [List.getElem?_set_ne n2] at e4
          exact q.dis j k xs ys p q1 q2 e3 e4
theorem Base.wipe (b : Base K B G F H σ δ S) (vs : List Nat) : Base K B G F H (L2.wipe σ vs) (wipeD δ vs) S := ⟨b.fh, b.gh, b.gB, b.env.wipe vs, b.bag⟩
end

/-! ### targets -/
def TgOk (K : PySem.W.Frag) (g : TG) (t : D → DE → Option DE) (ixs : List Nat) : Prop :=
  ∀ B G F H σ δ S x v δ', Base K B G F H σ δ S → Dv K F x v → t x δ = some δ' → ∀ Q : L2.St → Hp → Prop, (∀ σ', Base K B G F H σ' δ' S → (∀ vs, (∀ i ∈ ixs, i ∈ vs) → wipe σ' vs = wipe σ vs) → Q σ' H) → g v σ H Q
def TgsOk (K : PySem.W.Frag) (g : TGs) (t : List D → DE → Option DE) (ixs : List Nat) : Prop :=
  ∀ B G F H σ δ S xs vs δ', Base K B G F H σ δ S → DvA K F xs vs → t xs δ = some δ' → ∀ Q : L2.St → Hp → Prop, (∀ σ', Base K B G F H σ' δ' S → (∀ vs, (∀ i ∈ ixs, i ∈ vs) → wipe σ' vs = wipe σ vs) → Q σ' H) → g vs σ H Q
def gN (i : Nat) : D → DE → Option DE := fun x δ => some (δ.set i (some (.d x)))
def gsNil : List D → DE → Option DE := fun xs δ => match xs with
  | [] => some δ
  | _ => none
def gsCons (t : D → DE → Option DE) (ts : List D → DE → Option DE) : List D → DE → Option DE := fun xs δ => match xs with
  | x :: xs => (t x δ).bind fun δ1 => ts xs δ1
  | [] => none
def gT (n : Nat) (ts : List D → DE → Option DE) : D → DE → Option DE := fun x δ => match x with
  | .tuple xs => if xs.length = n then ts xs δ else none
  | _ => none
section
variable {K : PySem.W.Frag}
theorem tg_name {i : Nat} : TgOk K (gName i) (gN i) [i] := by
  intro B G F H σ δ S x v δ' b r e Q q
  cases e
  exact q _ (b.set_d r) fun vs hv => wipe_set σ (hv i (by simp))
theorem tgs_nil : TgsOk K gNil gsNil [] := by
  intro B G F H σ δ S xs vs δ' b r e Q q
  cases xs with
  | nil => cases r; cases e; exact ⟨rfl, q σ b fun _ _ => rfl⟩
  | cons _ _ => cases e
theorem tgs_cons {g : TG} {t : D → DE → Option DE} {i1 i2 : List Nat} {gs : TGs} {ts : List D → DE → Option DE} (h : TgOk K g t i1) (hs : TgsOk K gs ts i2) : TgsOk K (gCons g gs) (gsCons t ts) (i1 ++ i2) := by
  intro B G F H σ δ S xs vs δ' b r e Q q
  cases xs with
  | nil => cases e
  | cons x xs =>
    obtain ⟨v, vr, rfl, r1, r2⟩ := r
    have e' : (t x δ).bind (fun δ1 => ts xs δ1) = some δ' := e
    cases e1 : t x δ with
    | none => rw [e1] at e'; cases e'
    | some δ1 =>
      rw [e1] at e'
      refine ⟨v, vr, rfl, h B G F H σ δ S x v δ1 b r1 e1 _ fun σ1 b1 w1 => ?_⟩
      refine hs B G F H σ1 δ1 S xs vr δ' b1 r2 e' _ fun σ2 b2 w2 => q σ2 b2 fun vs hv => ?_
      rw [w2 vs fun i hi => hv i (List.mem_append_right _ hi), w1 vs fun i hi => hv i (List.mem_append_left _ hi)]
theorem tg_tup {gs : TGs} {ts : List D → DE → Option DE} {ix : List Nat} {n : Nat} (hs : TgsOk K gs ts ix) : TgOk K (gTup K n gs) (gT n ts) ix := by
  intro B G F H σ δ S x v δ' b r e Q q
  cases x with
  | tuple xs =>
    obtain ⟨a, vs, rfl, h1, h2⟩ := r
    have e' : (if xs.length = n then ts xs δ else none) = some δ' := e
    by_cases hl : xs.length = n
    · rw [if_pos hl] at e'
      exact ⟨a, vs, rfl, sqt_mono b.fh h1, by rw [h2.len, hl], hs B G F H σ δ S xs vs δ' b h2 e' Q q⟩
    · rw [if_neg hl] at e'; cases e'
  | _ => cases e
end

/-! ### a step whose end is anchored earlier -/
section
variable {K : PySem.W.Frag} {B : Option Addr} {G F H F' H' F1 H1 F0 H0 : Hp} {σ : L2.St} {δ : DE} {S S' : Option Bag} {E : XK}
theorem Aft.bindAt {α β γ ε : Type} {R1 : Rel α β} {R2 : γ → ε → Hp → Hp → Prop} {m : DE → M α} {k : α → M γ} {Q : ε → Hp → Prop} {Q1 : β → Hp → Prop} (b : Base K B G F H σ δ S) (t0 : Stp B F0 H0 F H)
    (h : Aft E B F0 H0 R2 Q (M.bind (m δ) k S))
    (q : ∀ F1 H1 S1 a v, Stp B F H F1 H1 → Base K B G F1 H1 σ δ S1 → R1 B H a v F1 H1 → Aft E B F0 H0 R2 Q (k a S1) → Q1 v H1) : tM K E R1 m σ H Q1 := by
  refine ⟨B, G, F, δ, S, b, ?_⟩
  rw [M.bind_eq] at h
  cases e : m δ S with
  | none => rw [e] at h; exact h
  | some x =>
    obtain ⟨x, S1⟩ := x
    rw [e] at h
    cases x with
    | error x => exact fun F' H' t r => h F' H' (t0.trans t) r
    | ok a => exact fun v F1 H1 t r ra => q F1 H1 S1 a v t (b.step t r) ra h
theorem bl_some' {α β γ : Type} {R : β → γ → Hp → Hp → Prop} {Q : γ → Hp → Prop} {o : Option α} {k : α → M β} (h : Aft E B F H R Q (M.bind (M.lift o) k S)) : ∃ a, o = some a ∧ Aft E B F H R Q (k a S) := by
  cases o with
  | none => exact False.elim h
  | some a => exact ⟨a, rfl, h⟩
theorem lift_some' {α β : Type} {R : α → β → Hp → Hp → Prop} {Q : β → Hp → Prop} {o : Option α} (h : Aft E B F H R Q (M.lift o S)) : ∃ a, o = some a ∧ Aft E B F H R Q (M.ret a S) := by
  cases o with
  | none => exact False.elim h
  | some a => exact ⟨a, rfl, h⟩
end

/-! ### comprehensions -/
def lcD (t : D → DE → Option DE) (mt : DE → M Bool) (me : DE → M D) (δ : DE) : List D → List D → M (List D)
  | [], acc => M.lift (if acc.length ≤ 16777216 then some acc else none)
  | x :: xs, acc => M.bind (M.lift (t x δ)) fun δ1 => M.bind (mt δ1) fun b => if b = true then M.bind (me δ1) fun y => M.bind (M.lift (if acc.length < 16777216 then some () else none)) fun _ => lcD t mt me δ xs (acc ++ [y]) else lcD t mt me δ xs acc
def eLc (mi : DE → M (List D)) (t : D → DE → Option DE) (mt : DE → M Bool) (me : DE → M D) (vs : List Nat) : DE → M (List D) := fun δ => M.bind (mi δ) fun xs => lcD t mt me (wipeD δ vs) xs []
def mYes : DE → M Bool := fun _ => M.ret true
section
variable {X : Cx} {E : XK} {K : PySem.W.Frag}
theorem pts_yes : PTs X [] (tT X.K E mYes) := PTs.wk pts_nil fun σ H Q ⟨B, G, F, δ, S, b, a⟩ => a.ret b rfl
theorem drop_cons {α : Type} {xs : List α} {i : Nat} {d : α} (h : xs[i]? = some d) : xs.drop i = d :: xs.drop (i + 1) := by
  obtain ⟨h1, h2⟩ := List.getElem?_eq_some_iff.mp h
  rw [List.drop_eq_getElem_cons h1, h2]
theorem lc_wk {mi : DE → M (List D)} {g : TG} {t : D → DE → Option DE} {ix : List Nat} {mt : DE → M Bool} {me : DE → M D} {vs : List Nat} {σ : L2.St} {H : Hp} {Q : VK} (hg : TgOk K g t ix) (hi : ∀ i ∈ ix, i ∈ vs)
    (h : tO K E (eLc mi t mt me vs) σ H Q) : tLc (tI K E mi) g (tT K E mt) (tD K E me) vs σ H Q := by
  obtain ⟨B, G, F, δ, S, b, a⟩ := h
  refine a.bind (R1 := RI K) b RO.bk fun F1 H1 S1 xs J t1 b1 wk a1 => ?_
  intro L hL
  have hLB : some L ≠ B := b1.bag.ne hL
  have hLF : F1 L = none := b1.fh.free hL
  refine ⟨fun i m H => m = xs.length - i ∧ i ≤ xs.length ∧ ∃ F acc accd S, Base K B G F H (wipe σ vs) (wipeD δ vs) S ∧ Stp B F1 H1 F H ∧ F L = none ∧ H L = some (.lst acc) ∧ DvA K F accd acc ∧
    Aft E B F1 H1 (RO K B H1) Q (lcD t mt me (wipeD δ vs) (xs.drop i) accd S), ⟨_, rfl, Nat.zero_le _, F1, [], [], S1, ?_, ?_, hLF, upd_same, rfl, a1⟩, ?_⟩
  · exact (b1.stq (Stq.loose b1.fh hL)).wipe vs
  · exact (Stq.loose b1.fh hL).stp b1.bag
  · rintro i m H2 ⟨rfl, hi2, F2, acc, accd, S2, b2, t2, h1, h2, h3, a2⟩
    by_cases hlt : i < xs.length
    · refine .inr ⟨wk.go i H2 hlt (t2.ff.trans b2.fh), fun H' => i + 1 ≤ xs.length ∧ ∃ F acc accd S, Base K B G F H' (wipe σ vs) (wipeD δ vs) S ∧ Stp B F1 H1 F H' ∧ F L = none ∧ H' L = some (.lst acc) ∧ DvA K F accd acc ∧
        Aft E B F1 H1 (RO K B H1) Q (lcD t mt me (wipeD δ vs) (xs.drop (i + 1)) accd S), fun H' q => ⟨_, by omega, rfl, q⟩, fun x H3 y => ?_⟩
      obtain ⟨d, F3, e3, q3, r3⟩ := wk.yld i H2 F2 x H3 hlt t2.ff b2.fh y
      have b3 := b2.stq q3
      have t3 := t2.trans (q3.stp b2.bag)
      have n3 : F3 L = none := by
        cases z : F3 L with
        | none => rfl
        | some o =>
          rcases q3.new L (by rw [z]; simp) with w | w
          · exact absurd h1 w
          · rw [h2] at w; cases w
      have l3 : H3 L = some (.lst acc) := q3.hh _ _ h2
      rw [drop_cons e3] at a2
      obtain ⟨δ1, e4, a4⟩ := bl_some' a2
      refine hg B G F3 H3 _ _ S2 d x δ1 b3 r3 e4 _ fun σ2 b4 w4 => ⟨?_, ?_⟩
      · rw [w4 vs hi, wipe_wipe σ vs vs fun _ h => h]
      refine Aft.bindAt (m := mt) (R1 := RB) b4 t3 a4 fun F5 H5 S5 c c' t5 b5 r5 a5 => ?_
      cases r5
      have n5 : ∀ {F5 H5 : Hp}, Stp B F3 H3 F5 H5 → F5 L = none ∧ H5 L = some (.lst acc) := fun {F5 H5} t5 => by
        refine ⟨?_, t5.keep _ _ hLB l3⟩
        cases z : F5 L with
        | none => rfl
        | some o =>
          rcases t5.new L (by rw [z]; simp) with w | ⟨w, _⟩
          · exact absurd n3 w
          · rw [l3] at w; cases w
      have back : ∀ {F5 H5 : Hp} {S5 : Option Bag}, Stp B F3 H3 F5 H5 → RepS B F5 H5 S5 → Base K B G F5 H5 (wipe σ vs) (wipeD δ vs) S5 := fun t r => b3.step t r
      cases c with
      | false =>
        obtain ⟨z1, z2⟩ := n5 t5
        exact ⟨hlt, F5, acc, accd, S5, back t5 b5.bag, t3.trans t5, z1, z2, DvA.mono (q3.ff.trans t5.ff) h3, a5⟩
      | true =>
        refine Aft.bindAt (m := me) (R1 := RD K) b5 (t3.trans t5) a5 fun F6 H6 S6 dy y t6 b6 r6 a6 => ?_
        obtain ⟨z1, z2⟩ := n5 (t5.trans t6)
        obtain ⟨u, hu, a7⟩ := bl_some' a6
        have hlen : accd.length < 16777216 := by
          by_cases z : accd.length < 16777216
          · exact z
          · rw [if_neg z] at hu; exact nomatch hu
        have da : DvA K F6 accd acc := DvA.mono (q3.ff.trans (t5.ff.trans t6.ff)) h3
        have b7 := back (t5.trans t6) b6.bag
        have s7 : Sub F6 (upd H6 L (.lst (acc ++ [y]))) := b6.fh.mut z1
        have kp : ∀ {G' : Hp}, Sub G' H6 → G' L = none → Sub G' (upd H6 L (.lst (acc ++ [y]))) := fun s n => s.mut n
        have gL : G L = none := b1.gh.free hL
        have t7 : Stp B F1 H1 F6 H6 := t3.trans (t5.trans t6)
        refine ⟨acc, z2, by rw [line_eq, da.len]; exact hlen, hlt, F6, acc ++ [y], accd ++ [dy], S6, ⟨s7, kp b7.gh gL, b7.gB, ⟨b7.env.len, fun j s e => ?_, b7.env.gfr, b7.env.dis⟩, ?_⟩, ⟨t7.ff, s7, fun a o na ha => ?_, t7.new⟩, z1, upd_same, da.app (DvA.one r6), a7⟩
        · obtain ⟨v, e1, e2⟩ := b7.env.rep j s e
          refine ⟨v, e1, ?_⟩
          cases s with
          | d x => exact e2
          | bag => exact e2
          | own ys =>
            obtain ⟨p, ws, e5, k1, k2, k3, k4⟩ := e2
            refine ⟨p, ws, e5, k1, k2, ?_, k4⟩
            have np : p ≠ L := fun z => by
              subst z
              -- the slot's list stood ahead of the comprehension
              obtain ⟨v0, f1, f2⟩ := (b1.wipe vs).env.rep j (.own ys) e
              obtain ⟨p0, ws0, g0, g1, g2, g3, g4⟩ := f2
              rw [f1] at e1
              have e8 : v0 = v := by simpa using e1
              rw [e8, e5] at g0
              cases g0
              rw [hL] at g3; cases g3
            rw [upd_ne np]; exact k3
        · cases S6 with
          | none => exact b7.bag
          | some gg =>
            obtain ⟨bb, l, e, q0, q1, q2⟩ := b7.bag
            refine ⟨bb, l, e, q0, ?_, q2⟩
            rw [upd_ne (fun z => hLB (by rw [← z, e]))]; exact q1
        · rw [upd_ne (ne_of_none ha hL)]
          exact t7.keep a o na ha
    · have e : i = xs.length := by omega
      subst e
      refine .inl ⟨wk.stop H2 (t2.ff.trans b2.fh), ?_⟩
      rw [List.drop_of_length_le (Nat.le_refl _)] at a2
      obtain ⟨ys, e, a3⟩ := lift_some' a2
      have e' : accd = ys := by
        by_cases z : accd.length ≤ 16777216
        · rw [if_pos z] at e; exact Option.some.inj e
        · rw [if_neg z] at e; exact nomatch e
      subst e'
      exact a3 _ F2 H2 t2 b2.bag ⟨L, acc, rfl, hL, hLB, h1, h2, h3⟩
theorem po_lc {elt tg iter : Expr} {ifs : List Expr} {scope : Scope} {own : List (Str × Nat)} {pos : Pos} {mi : DE → M (List D)} {g : TG} {t : D → DE → Option DE} {ix : List Nat} {mt : DE → M Bool} {me : DE → M D} (hc : X.calm = true) (hN : X.N.Nodup) (hi : PI X tg iter (tI X.K E mi)) (ok : BlkOk X.N X.env.scope scope own)
    (hg : ∀ (s : Shared) (H : Hp) (C : Addr) (cl : List (Str × Addr)) (fp : List Addr), PG (X.blk s H scope (compEnvC scope cl C X.env) fp) tg g) (ht : ∀ (s : Shared) (H : Hp) (C : Addr) (cl : List (Str × Addr)) (fp : List Addr), PTs (X.blk s H scope (compEnvC scope cl C X.env) fp) ifs (tT X.K E mt))
    (he : ∀ (s : Shared) (H : Hp) (C : Addr) (cl : List (Str × Addr)) (fp : List Addr), PE (X.blk s H scope (compEnvC scope cl C X.env) fp) elt (tD X.K E me)) (tok : TgOk X.K g t ix) (hix : ∀ i ∈ ix, i ∈ own.map (·.2) := by decide) (hs : ∀ x, foldedSetIterable iter X.env x = pure x := by intro _; rfl) :
    PE X (.ListComp elt [⟨tg, iter, ifs, 0⟩] scope pos) (tO X.K E (eLc mi t mt me (own.map (·.2)))) := PE.wk (pe_lc hc hN hi ok hg ht he hs) fun σ H Q h => lc_wk tok hix h
end
end Pd
namespace Pd
open PySem PySem.Spec PyProof.Rows L2

/-! ### statements -/
inductive Ctl where
  | nx (δ : DE)
  | rt (s : Sl)
  | bk (δ : DE)
  | ct (δ : DE)
structure StS (B : Option Addr) (G F F' : Hp) : Prop where
  ff : Sub F F'
  new : ∀ a, F' a ≠ none → F a ≠ none ∨ (G a = none ∧ some a ≠ B)
def RRt (K : PySem.W.Frag) (B : Option Addr) (G F H : Hp) : Sl → V → Prop
  | .d x, v => Dv K F x v
  | .own xs, v => ∃ p vs, v = .ref p ∧ G p = none ∧ some p ≠ B ∧ F p = none ∧ H p = some (.lst vs) ∧ DvA K F xs vs
  | .bag, _ => False
def AftS (K : PySem.W.Frag) (E : XK) (B : Option Addr) (G F : Hp) (N : Ends) : Option (Except Exn Ctl × Option Bag) → Prop
  | none => False
  | some (.ok (.nx δ), S') => ∀ σ F' H', StS B G F F' → Base K B G F' H' σ δ S' → N.nx σ H'
  | some (.ok (.bk δ), S') => ∀ σ F' H', StS B G F F' → Base K B G F' H' σ δ S' → N.bk σ H'
  | some (.ok (.ct δ), S') => ∀ σ F' H', StS B G F F' → Base K B G F' H' σ δ S' → N.ct σ H'
  | some (.ok (.rt s), S') => ∀ v F' H', StS B G F F' → Sub F' H' → Sub G H' → RepS B F' H' S' → RRt K B G F' H' s v → N.rt v H'
  | some (.error x, S') => ∀ F' H', StS B G F F' → Sub F' H' → Sub G H' → RepS B F' H' S' → WX E x F' H'
def tS (K : PySem.W.Frag) (E : XK) (m : DE → M Ctl) : TS := fun N σ H => ∃ B G F δ S, Base K B G F H σ δ S ∧ AftS K E B G F N (m δ S)

section
variable {K : PySem.W.Frag} {B : Option Addr} {G F H F' H' F1 H1 F0 : Hp} {σ : L2.St} {δ : DE} {S S' : Option Bag} {E : XK} {N : Ends}
theorem StS.refl : StS B G F F := ⟨Sub.refl F, fun _ h => .inl h⟩
theorem StS.trans (a : StS B G F F1) (b : StS B G F1 F') : StS B G F F' := ⟨a.ff.trans b.ff, fun c h => (b.new c h).elim (a.new c) .inr⟩
theorem Stp.sts (b : Base K B G F H σ δ S) (t : Stp B F H F' H') : StS B G F F' := ⟨t.ff, fun a h => (t.new a h).imp id fun q => ⟨b.gh.free q.1, q.2⟩⟩
theorem AftS.from (t : StS B G F F1) : ∀ {o : Option (Except Exn Ctl × Option Bag)}, AftS K E B G F N o → AftS K E B G F1 N o
  | none, h => h
  | some (.ok (.nx δ), S'), h => fun σ F' H' q b => h σ F' H' (t.trans q) b
  | some (.ok (.bk δ), S'), h => fun σ F' H' q b => h σ F' H' (t.trans q) b
  | some (.ok (.ct δ), S'), h => fun σ F' H' q b => h σ F' H' (t.trans q) b
  | some (.ok (.rt s), S'), h => fun v F' H' q a b c d => h v F' H' (t.trans q) a b c d
  | some (.error x, S'), h => fun F' H' q a b c => h F' H' (t.trans q) a b c
/-- an expression, then what becomes of it -/
theorem AftS.bind {α β : Type} {R1 : Rel α β} {m : DE → M α} {k : α → M Ctl} {Q1 : β → Hp → Prop} (b : Base K B G F H σ δ S) (h : AftS K E B G F N (M.bind (m δ) k S))
    (q : ∀ F1 H1 S1 a v, Stp B F H F1 H1 → Base K B G F1 H1 σ δ S1 → R1 B H a v F1 H1 → AftS K E B G F1 N (k a S1) → Q1 v H1) : tM K E R1 m σ H Q1 := by
  refine ⟨B, G, F, δ, S, b, ?_⟩
  rw [M.bind_eq] at h
  cases e : m δ S with
  | none => rw [e] at h; exact h
  | some x =>
    obtain ⟨x, S1⟩ := x
    rw [e] at h
    cases x with
    | error x => exact fun F' H' t r => h F' H' (t.sts b) t.fh (b.step t r).gh r
    | ok a => exact fun v F1 H1 t r ra => q F1 H1 S1 a v t (b.step t r) ra (h.from (t.sts b))
theorem AftS.nx (h : AftS K E B G F N (M.ret (.nx δ) S)) (b : Base K B G F H σ δ S) : N.nx σ H := h σ F H StS.refl b
theorem AftS.rt {s : Sl} {v : V} (h : AftS K E B G F N (M.ret (.rt s) S)) (b : Base K B G F H σ δ S) (r : RRt K B G F H s v) : N.rt v H := h v F H StS.refl b.fh b.gh b.bag r
theorem sl_some {α : Type} {o : Option α} {k : α → M Ctl} (h : AftS K E B G F N (M.bind (M.lift o) k S)) : ∃ a, o = some a ∧ AftS K E B G F N (k a S) := by
  cases o with
  | none => exact False.elim h
  | some a => exact ⟨a, rfl, h⟩
end

section
variable {X : Cx} {E : XK} {e c : Expr} {me : DE → M D} {mo : DE → M (List D)} {mt : DE → M Bool} {mr : DE → M Sl} {pos : Pos} {st : Stmt} {rest : List Stmt} {m1 m2 : DE → M Ctl}
def sNil : DE → M Ctl := fun δ => M.ret (.nx δ)
def sSeq (m k : DE → M Ctl) : DE → M Ctl := fun δ => M.bind (m δ) fun c => match c with
  | .nx δ1 => k δ1
  | c => M.ret c
theorem pss_nil' : PSs X [] (tS X.K E sNil) := PSs.wk pss_nil fun N σ H ⟨B, G, F, δ, S, b, a⟩ => a.nx b
theorem seq_wk {K : PySem.W.Frag} {N : Ends} {σ : L2.St} {H : Hp} (h : tS K E (sSeq m1 m2) N σ H) : tSeq (tS K E m1) (tS K E m2) N σ H := by
  obtain ⟨B, G, F, δ, S, b, a⟩ := h
  refine ⟨B, G, F, δ, S, b, ?_⟩
  have a' : AftS K E B G F N (M.bind (m1 δ) (fun c => match c with
    | .nx δ1 => m2 δ1
    | c => M.ret c) S) := a
  rw [M.bind_eq] at a'
  cases e : m1 δ S with
  | none => rw [e] at a'; exact a'
  | some x =>
    obtain ⟨x, S1⟩ := x
    rw [e] at a'
    cases x with
    | error x => exact a'
    | ok c =>
      cases c with
      | nx δ1 => exact fun σ1 F1 H1 t b1 => ⟨B, G, F1, δ1, S1, b1, AftS.from t a'⟩
      | rt s => exact a'
      | bk δ1 => exact a'
      | ct δ1 => exact a'
theorem pss_cons' (h1 : PS X st (tS X.K E m1)) (h2 : PSs X rest (tS X.K E m2)) : PSs X (st :: rest) (tS X.K E (sSeq m1 m2)) := PSs.wk (pss_cons h1 h2) fun N σ H h => seq_wk h
theorem pss_one' (h1 : PS X st (tS X.K E m1)) : PSs X [st] (tS X.K E m1) := pss_one h1
def sPass : DE → M Ctl := fun δ => M.ret (.nx δ)
def sBrk : DE → M Ctl := fun δ => M.ret (.bk δ)
def sCnt : DE → M Ctl := fun δ => M.ret (.ct δ)
theorem psd_pass : PS X (.Pass pos) (tS X.K E sPass) := PS.wk ps_pass fun N σ H ⟨B, G, F, δ, S, b, a⟩ => a.nx b
theorem psd_break : PS X (.Break pos) (tS X.K E sBrk) := PS.wk ps_break fun N σ H ⟨B, G, F, δ, S, b, a⟩ => a σ F H StS.refl b
theorem psd_continue : PS X (.Continue pos) (tS X.K E sCnt) := PS.wk ps_continue fun N σ H ⟨B, G, F, δ, S, b, a⟩ => a σ F H StS.refl b
/-- return -/
def sRet (m : DE → M D) : DE → M Ctl := fun δ => M.bind (m δ) fun x => M.ret (.rt (.d x))
theorem psd_ret (he : PE X e (tD X.K E me)) : PS X (.Return (some e) pos) (tS X.K E (sRet me)) := PS.wk (ps_ret he) fun N σ H ⟨B, G, F, δ, S, b, a⟩ =>
  AftS.bind (R1 := RD X.K) b a fun F1 H1 S1 x v t b1 r a1 => a1.rt b1 r
def sRetO (m : DE → M (List D)) : DE → M Ctl := fun δ => M.bind (m δ) fun x => M.ret (.rt (.own x))
theorem psd_retO (he : PE X e (tO X.K E mo)) : PS X (.Return (some e) pos) (tS X.K E (sRetO mo)) := PS.wk (ps_ret he) fun N σ H ⟨B, G, F, δ, S, b, a⟩ =>
  AftS.bind (R1 := RO X.K) b a fun F1 H1 S1 x v t b1 ⟨p, vs, e, h1, h2, h3, h4, h5⟩ a1 => a1.rt b1 ⟨p, vs, e, b.gh.free h1, h2, h3, h4, h5⟩
def sRetR (m : DE → M Sl) : DE → M Ctl := fun δ => M.bind (m δ) fun x => M.ret (.rt x)
theorem psd_retR (he : PE X e (tR X.K E mr)) : PS X (.Return (some e) pos) (tS X.K E (sRetR mr)) := PS.wk (ps_ret he) fun N σ H ⟨B, G, F, δ, S, b, a⟩ =>
  AftS.bind (R1 := RR X.K) b a fun F1 H1 S1 x v t b1 r a1 => a1.rt b1 (by
    cases x with
    | d x => exact r
    | bag => exact r
    | own xs =>
      obtain ⟨p, vs, e, h1, h2, h3, h4, h5⟩ := r
      exact ⟨p, vs, e, b.gh.free h1, h2, h3, h4, h5⟩)
def sRetN : DE → M Ctl := fun δ => M.ret (.rt (.d .none))
theorem psd_retN : PS X (.Return none pos) (tS X.K E sRetN) := PS.wk ps_retN fun N σ H ⟨B, G, F, δ, S, b, a⟩ => a.rt b rfl
/-- a local list that is handed back -/
def sRetV (i : Nat) : DE → M Ctl := fun δ => M.bind (M.lift (match δ[i]? with
  | some (some (.own xs)) => some xs
  | _ => none)) fun xs => M.ret (.rt (.own xs))
theorem own_get {K : PySem.W.Frag} {B : Option Addr} {G F H : Hp} {σ : L2.St} {δ : DE} {S : Option Bag} {i : Nat} {xs : List D} (b : Base K B G F H σ δ S) (h : (match δ[i]? with
  | some (some (.own xs)) => some xs
  | _ => none) = some xs) : ∃ p vs, δ[i]? = some (some (.own xs)) ∧ σ[i]? = some (some (.ref p)) ∧ F p = none ∧ some p ≠ B ∧ H p = some (.lst vs) ∧ DvA K F xs vs ∧ G p = none := by
  cases e1 : δ[i]? with
  | none => rw [e1] at h; cases h
  | some s =>
    rw [e1] at h
    cases s with
    | none => cases h
    | some s =>
      cases s with
      | own ys =>
        cases h
        obtain ⟨v, h1, p, vs, h2, h3, h4, h5, h6⟩ := b.env.rep i _ e1
        subst h2
        exact ⟨p, vs, rfl, h1, h3, h4, h5, h6, b.env.gfr i xs p e1 h1⟩
      | _ => cases h
theorem psd_retV {i : Nat} (he : PE X e (tVar i)) : PS X (.Return (some e) pos) (tS X.K E (sRetV i)) := PS.wk (ps_ret he) fun N σ H ⟨B, G, F, δ, S, b, a⟩ => by
  obtain ⟨xs, e, a1⟩ := sl_some a
  obtain ⟨p, vs, h0, h1, h2, h3, h4, h5, h6⟩ := own_get b e
  exact ⟨.ref p, h1, a1.rt b ⟨p, vs, rfl, h6, h3, h2, h4, h5⟩⟩
/-- name = e -/
def sSet (i : Nat) (m : DE → M D) : DE → M Ctl := fun δ => M.bind (m δ) fun x => M.ret (.nx (δ.set i (some (.d x))))
theorem psd_set {i : Nat} {x : Str} {pos' : Pos} (hN : X.N.Nodup) (hi : X.N[i]? = some x) (hx : Loc X.env.scope x) (he : PE X e (tD X.K E me)) (hs : swapsWith e (some (.Name x pos')) pos.line X.env = pure false := by rfl) (hf : X.fn x = true ∨ X.env.scope.names.lookup x = some .local := by first | exact .inl rfl | exact .inr rfl | assumption) :
    PS X (.Assign [.Name x pos'] e pos) (tS X.K E (sSet i me)) := PS.wk (ps_set hN hi hx he hs hf) fun N σ H ⟨B, G, F, δ, S, b, a⟩ =>
  AftS.bind (R1 := RD X.K) b a fun F1 H1 S1 x v t b1 r a1 => a1.nx (b1.set_d r)
/-- name = a new list, that is changed later -/
def sSetO (i : Nat) (m : DE → M (List D)) : DE → M Ctl := fun δ => M.bind (m δ) fun x => M.ret (.nx (δ.set i (some (.own x))))
theorem set_o_of {K : PySem.W.Frag} {B : Option Addr} {G F H F1 H1 : Hp} {σ : L2.St} {δ : DE} {S S1 : Option Bag} {i : Nat} {xs : List D} {p : Addr} {vs : List V} (b : Base K B G F H σ δ S) (b1 : Base K B G F1 H1 σ δ S1) (h1 : H p = none) (h2 : some p ≠ B) (h3 : F1 p = none) (h4 : H1 p = some (.lst vs)) (h5 : DvA K F1 xs vs) :
    Base K B G F1 H1 (σ.set i (some (.ref p))) (δ.set i (some (.own xs))) S1 :=
  ⟨b1.fh, b1.gh, b1.gB, b1.env.set_o h3 h2 h4 h5 (b.gh.free h1) (fun j ys _ e1 e2 => by
    obtain ⟨v, e3, q, ws, e4, _, _, e5, _⟩ := b.env.rep j _ e1
    rw [e2] at e3
    have e6 : V.ref p = v := by simpa using e3
    rw [← e6] at e4
    cases e4
    rw [h1] at e5
    cases e5), b1.bag⟩
theorem psd_setO {i : Nat} {x : Str} {pos' : Pos} (hN : X.N.Nodup) (hi : X.N[i]? = some x) (hx : Loc X.env.scope x) (he : PE X e (tO X.K E mo)) (hs : swapsWith e (some (.Name x pos')) pos.line X.env = pure false := by rfl) (hf : X.fn x = true ∨ X.env.scope.names.lookup x = some .local := by first | exact .inl rfl | exact .inr rfl | assumption) :
    PS X (.Assign [.Name x pos'] e pos) (tS X.K E (sSetO i mo)) := PS.wk (ps_set hN hi hx he hs hf) fun N σ H ⟨B, G, F, δ, S, b, a⟩ =>
  AftS.bind (R1 := RO X.K) b a fun F1 H1 S1 x v t b1 ⟨p, vs, e, h1, h2, h3, h4, h5⟩ a1 => by
    subst e
    exact a1.nx (set_o_of b b1 h1 h2 h3 h4 h5)
/-- name = what a def hands back -/
def sSetR (i : Nat) (m : DE → M Sl) : DE → M Ctl := fun δ => M.bind (m δ) fun x => M.ret (.nx (δ.set i (some x)))
theorem psd_setR {i : Nat} {x : Str} {pos' : Pos} (hN : X.N.Nodup) (hi : X.N[i]? = some x) (hx : Loc X.env.scope x) (he : PE X e (tR X.K E mr)) (hs : swapsWith e (some (.Name x pos')) pos.line X.env = pure false := by rfl) (hf : X.fn x = true ∨ X.env.scope.names.lookup x = some .local := by first | exact .inl rfl | exact .inr rfl | assumption) :
    PS X (.Assign [.Name x pos'] e pos) (tS X.K E (sSetR i mr)) := PS.wk (ps_set hN hi hx he hs hf) fun N σ H ⟨B, G, F, δ, S, b, a⟩ =>
  AftS.bind (R1 := RR X.K) b a fun F1 H1 S1 x v t b1 r a1 => by
    cases x with
    | d x => exact a1.nx (b1.set_d r)
    | bag => exact r.elim
    | own xs =>
      obtain ⟨p, vs, e, h1, h2, h3, h4, h5⟩ := r
      subst e
      exact a1.nx (set_o_of b b1 h1 h2 h3 h4 h5)
/-- name = [..], on one line -/
theorem psd_setLcO {i : Nat} {y : Str} {py : Pos} {elt tg iter : Expr} {ifs : List Expr} {scope : Scope} {own : List (Str × Nat)} {lpos spos : Pos} {mi : DE → M (List D)} {g : TG} {t : D → DE → Option DE} {ix : List Nat} {mt : DE → M Bool} {me : DE → M D} (hc : X.calm = true) (hN : X.N.Nodup) (hy : X.N[i]? = some y) (hyl : X.env.scope.names.lookup y = some .local)
    (hsw : swapsWith (.ListComp elt [⟨tg, iter, ifs, 0⟩] scope lpos) (some (.Name y py)) spos.line X.env = pure true) (hi : PI X tg iter (tI X.K E mi)) (ok : BlkOk X.N X.env.scope scope own)
    (hg : ∀ (s : Shared) (H : Hp) (C : Addr) (cl : List (Str × Addr)) (fp : List Addr), PG (X.blk s H scope (compEnvC scope cl C X.env) fp) tg g) (ht : ∀ (s : Shared) (H : Hp) (C : Addr) (cl : List (Str × Addr)) (fp : List Addr), PTs (X.blk s H scope (compEnvC scope cl C X.env) fp) ifs (tT X.K E mt))
    (he : ∀ (s : Shared) (H : Hp) (C : Addr) (cl : List (Str × Addr)) (fp : List Addr), PE (X.blk s H scope (compEnvC scope cl C X.env) fp) elt (tD X.K E me)) (tok : TgOk X.K g t ix) (hix : ∀ i ∈ ix, i ∈ own.map (·.2) := by decide) (hs : ∀ x, foldedSetIterable iter X.env x = pure x := by intro _; rfl) :
    PS X (.Assign [.Name y py] (.ListComp elt [⟨tg, iter, ifs, 0⟩] scope lpos) spos) (tS X.K E (sSetO i (eLc mi t mt me (own.map (·.2))))) := PS.wk (ps_setLc hc hN hy hyl hsw hi ok hg ht he hs) fun N σ H ⟨B, G, F, δ, S, b, a⟩ => lc_wk tok hix
  (AftS.bind (R1 := RO X.K) b a fun F1 H1 S1 x v t b1 ⟨p, vs, e, h1, h2, h3, h4, h5⟩ a1 => by
    subst e
    exact a1.nx (set_o_of b b1 h1 h2 h3 h4 h5))
theorem psd_setLc {i : Nat} {y : Str} {py : Pos} {elt tg iter : Expr} {ifs : List Expr} {scope : Scope} {own : List (Str × Nat)} {lpos spos : Pos} {mi : DE → M (List D)} {g : TG} {t : D → DE → Option DE} {ix : List Nat} {mt : DE → M Bool} {me : DE → M D} (hc : X.calm = true) (hN : X.N.Nodup) (hy : X.N[i]? = some y) (hyl : X.env.scope.names.lookup y = some .local)
    (hsw : swapsWith (.ListComp elt [⟨tg, iter, ifs, 0⟩] scope lpos) (some (.Name y py)) spos.line X.env = pure true) (hi : PI X tg iter (tI X.K E mi)) (ok : BlkOk X.N X.env.scope scope own)
    (hg : ∀ (s : Shared) (H : Hp) (C : Addr) (cl : List (Str × Addr)) (fp : List Addr), PG (X.blk s H scope (compEnvC scope cl C X.env) fp) tg g) (ht : ∀ (s : Shared) (H : Hp) (C : Addr) (cl : List (Str × Addr)) (fp : List Addr), PTs (X.blk s H scope (compEnvC scope cl C X.env) fp) ifs (tT X.K E mt))
    (he : ∀ (s : Shared) (H : Hp) (C : Addr) (cl : List (Str × Addr)) (fp : List Addr), PE (X.blk s H scope (compEnvC scope cl C X.env) fp) elt (tD X.K E me)) (tok : TgOk X.K g t ix) (hix : ∀ i ∈ ix, i ∈ own.map (·.2) := by decide) (hs : ∀ x, foldedSetIterable iter X.env x = pure x := by intro _; rfl) :
    PS X (.Assign [.Name y py] (.ListComp elt [⟨tg, iter, ifs, 0⟩] scope lpos) spos) (tS X.K E (sSet i (eFrz (eLc mi t mt me (own.map (·.2)))))) := PS.wk (ps_setLc hc hN hy hyl hsw hi ok hg ht he hs) fun N σ H ⟨B, G, F, δ, S, b, a⟩ => lc_wk tok hix (by
    refine ⟨B, G, F, δ, S, b, ?_⟩
    have a' : AftS X.K E B G F N (M.bind (M.bind (eLc mi t mt me (own.map (·.2)) δ) (fun ds => M.ret (.list ds))) (fun x => M.ret (.nx (δ.set i (some (.d x))))) S) := a
    rw [M.bind_eq, M.bind_eq] at a'
    cases e : eLc mi t mt me (own.map (·.2)) δ S with
    | none => rw [e] at a'; exact a'
    | some x =>
      obtain ⟨x, S1⟩ := x
      rw [e] at a'
      cases x with
      | error x => exact fun F' H' t r => a' F' H' (t.sts b) t.fh (b.step t r).gh r
      | ok ds =>
        rintro v F' H' t r ⟨p, vs, e, h1, h2, h3, h4, h5⟩
        subst e
        obtain ⟨t', r'⟩ := frz_stp t r h1 h2 h3 h4
        exact a' _ _ H' (t'.sts b) ((b.step t' r').set_d ⟨p, vs, rfl, upd_same, DvA.mono (Sub.up h3) h5⟩))
/-- any target = e -/
def sAsg (m : DE → M D) (t : D → DE → Option DE) : DE → M Ctl := fun δ => M.bind (m δ) fun x => M.bind (M.lift (t x δ)) fun δ1 => M.ret (.nx δ1)
theorem psd_asg {tg : Expr} {g : TG} {t : D → DE → Option DE} {ix : List Nat} (he : PE X e (tD X.K E me)) (hg : PG X tg g) (tok : TgOk X.K g t ix) (hs : swapsWithSole [tg] e pos.line X.env = pure false := by rfl) (hw : swappedStores [tg] e X.env = pure none := by rfl)
    (h1 : (assignEach [tg] X.env).map (·.2) = [assign tg X.env] := by rfl) : PS X (.Assign [tg] e pos) (tS X.K E (sAsg me t)) := PS.wk (ps_asg he hg hs hw h1) fun N σ H ⟨B, G, F, δ, S, b, a⟩ =>
  AftS.bind (R1 := RD X.K) b a fun F1 H1 S1 x v t b1 r a1 => by
    obtain ⟨δ1, e, a2⟩ := sl_some a1
    exact tok B G F1 H1 σ δ S1 x v δ1 b1 r e _ fun σ' b' _ => a2.nx b'
/-- x, y = e, f -/
def sPar (i j : Nat) (ma mb : DE → M D) : DE → M Ctl := fun δ => M.bind (ma δ) fun x => M.bind (mb δ) fun y => M.ret (.nx ((δ.set i (some (.d x))).set j (some (.d y))))
theorem psd_par {i j : Nat} {x y : Str} {a b : Expr} {ma mb : DE → M D} {px py pt : Pos} {kt k2 pt2} (hc : X.calm = true) (hN : X.N.Nodup) (hi : X.N[i]? = some x) (hj : X.N[j]? = some y) (hij : i ≠ j)
    (hx : X.env.scope.names.lookup x = some .local) (hy : X.env.scope.names.lookup y = some .local) (ha : PE X a (tD X.K E ma)) (hb : PE X b (tD X.K E mb))
    (hw : swappedStores [.Tuple [.Name x px, .Name y py] kt pt] (.Tuple [a, b] k2 pt2) X.env = pure (some [x, y]))
    (hs : swapsWithSole [.Tuple [.Name x px, .Name y py] kt pt] (.Tuple [a, b] k2 pt2) pos.line X.env = pure false := by rfl) (h1 : starEach [a, b] X.env = (false, eval a X.env) :: starEach [b] X.env := by rfl) (h2 : starEach [b] X.env = (false, eval b X.env) :: starEach [] X.env := by rfl) :
    PS X (.Assign [.Tuple [.Name x px, .Name y py] kt pt] (.Tuple [a, b] k2 pt2) pos) (tS X.K E (sPar i j ma mb)) := PS.wk (ps_par hc hN hi hj hij hx hy (pa_cons ha (pa_cons hb pa_nil h2) h1) hw hs) fun N σ H ⟨B, G, F, δ, S, b, a⟩ =>
  AftS.bind (R1 := RD X.K) b a fun F1 H1 S1 x v t b1 r a1 => AftS.bind (R1 := RD X.K) b1 a1 fun F2 H2 S2 y w t2 b2 r2 a2 =>
    ⟨v, w, rfl, a2.nx ((b2.set_d (Dv.mono t2.ff r)).set_d r2)⟩
/-- name op= e -/
def sAug (i : Nat) (g : D → D → Option D) (m : DE → M D) : DE → M Ctl := fun δ => M.bind (eVar i δ) fun x => M.bind (m δ) fun y => M.bind (M.lift (g x y)) fun z => M.ret (.nx (δ.set i (some (.d z))))
theorem psd_aug {i : Nat} {x : Str} {op : Operator} {g : D → D → Option D} {pos' : Pos} (hN : X.N.Nodup) (hi : X.N[i]? = some x) (hx : Loc X.env.scope x) (he : PE X e (tD X.K E me)) (ho : OpR X (inplaceOp op) (rOp X.K g)) (hf : X.fn x = true ∨ X.env.scope.names.lookup x = some .local := by first | exact .inl rfl | exact .inr rfl | assumption) :
    PS X (.AugAssign (.Name x pos') op e pos) (tS X.K E (sAug i g me)) := PS.wk (ps_aug hN hi hx he (ti := rOp X.K g) ho hf) fun N σ H ⟨B, G, F, δ, S, b, a⟩ => by
  obtain ⟨x, e, a1⟩ := sl_some a
  cases e1 : δ[i]? with
  | none => rw [e1] at e; cases e
  | some s =>
    rw [e1] at e
    cases s with
    | none => cases e
    | some s =>
      cases s with
      | d y =>
        cases e
        obtain ⟨v, h1, h2⟩ := b.env.rep i _ e1
        refine ⟨v, h1, AftS.bind (R1 := RD X.K) b a1 fun F1 H1 S1 y w t b1 r a2 => ?_⟩
        obtain ⟨z, e2, a3⟩ := sl_some a2
        refine ⟨F1, _, y, z, b1.fh, Dv.mono t.ff h2, r, e2, fun u F' H' q rz => ?_⟩
        have b2 := b1.stq q
        exact AftS.nx (AftS.from ((q.stp b1.bag).sts b1) a3) (b2.set_d rz)
      | _ => cases e
/-- an expression alone -/
def sDrop (m : DE → M D) : DE → M Ctl := fun δ => M.bind (m δ) fun _ => M.ret (.nx δ)
theorem psd_expr (he : PE X e (tD X.K E me)) (hs : swapsWith e none pos.line X.env = pure false := by rfl) : PS X (.Expr e pos) (tS X.K E (sDrop me)) := PS.wk (ps_expr he hs) fun N σ H ⟨B, G, F, δ, S, b, a⟩ =>
  AftS.bind (R1 := RD X.K) b a fun F1 H1 S1 x v t b1 r a1 => a1.nx b1
/-- x.append(e) -/
def getOwn (δ : DE) (i : Nat) : Option (List D) := match δ[i]? with
  | some (some (.own xs)) => some xs
  | _ => none
def sApp (i : Nat) (m : DE → M D) : DE → M Ctl := fun δ => M.bind (M.lift (getOwn δ i)) fun xs => M.bind (m δ) fun y => M.bind (M.lift (if xs.length < 16777216 then some () else none)) fun _ => M.ret (.nx (δ.set i (some (.own (xs ++ [y])))))
theorem set_own {K : PySem.W.Frag} {B : Option Addr} {G F H : Hp} {σ : L2.St} {δ : DE} {S : Option Bag} {i : Nat} {xs ys : List D} {p : Addr} {vs ws : List V} (b : Base K B G F H σ δ S) (e : δ[i]? = some (some (.own xs))) (h1 : σ[i]? = some (some (.ref p))) (h2 : F p = none) (h3 : some p ≠ B) (h4 : H p = some (.lst vs)) (h6 : G p = none) (h5 : DvA K F ys ws) :
    Base K B G F (upd H p (.lst ws)) σ (δ.set i (some (.own ys))) S := by
  have hi : i < σ.length := (List.getElem?_eq_some_iff.mp h1).1
  refine ⟨b.fh.mut h2, b.gh.mut h6, b.gB, ⟨by rw [List.length_set, b.env.len], fun j s e' => ?_, fun j zs q e' e2 => ?_, fun j k zs us q e1 e2 e3 e4 => ?_⟩, ?_⟩
  · rcases get_set e' with ⟨rfl, q, _⟩ | ⟨n, q⟩
    · cases q
      exact ⟨.ref p, h1, p, ws, rfl, h2, h3, upd_same, h5⟩
    · obtain ⟨v, f1, f2⟩ := b.env.rep j s q
      refine ⟨v, f1, ?_⟩
      cases s with
      | d x => exact f2
      | bag => exact f2
      | own zs =>
        obtain ⟨r, us, f3, g1, g2, g3, g4⟩ := f2
        refine ⟨r, us, f3, g1, g2, ?_, g4⟩
        rw [upd_ne]
        · exact g3
        · intro z
          subst z
          rw [f3] at f1
          exact n (b.env.dis i j xs zs r e q h1 f1)
  · rcases get_set e' with ⟨rfl, _, _⟩ | ⟨n, q'⟩
    · rw [h1] at e2
      have e3 : p = q := by simpa using e2
      rw [← e3]
      exact h6
    · exact b.env.gfr j zs _ q' e2
  · rcases get_set e1 with ⟨rfl, q1, _⟩ | ⟨n1, q1⟩
    · rcases get_set e2 with ⟨rfl, q2, _⟩ | ⟨n2, q2⟩
      · rfl
      · exact b.env.dis _ k xs us q e q2 e3 e4
    · rcases get_set e2 with ⟨rfl, q2, _⟩ | ⟨n2, q2⟩
      · exact b.env.dis j _ zs xs q q1 e e3 e4
      · exact b.env.dis j k zs us q q1 q2 e3 e4
  · cases S with
    | none => exact b.bag
    | some gg =>
      obtain ⟨bb, l, e, q0, q1, q2⟩ := b.bag
      refine ⟨bb, l, e, q0, ?_, q2⟩
      rw [upd_ne (fun z => h3 (by rw [← z, e]))]; exact q1
theorem psd_app {i : Nat} {o : Expr} {apos cpos : Pos} (ho : PE X o (tVar i)) (he : PE X e (tD X.K E me))
    (hbase : attributeBase o "append" X.env (eval o X.env) = eval o X.env := by rfl)
    (hfew : ((backTo cpos (starEach [e] X.env)).all (fun x => !x.1) && (backToKw cpos (keywordEach [] X.env)).all (fun x => x.1.isSome)
      && decide (([e] : List Expr).length + ([] : List Keyword).length + (if ([] : List Keyword).isEmpty then 0 else 1) < 30)) = true := by rfl)
    (hline : (apos.endLine == cpos.line) = true := by rfl) (hs : starEach [e] X.env = (false, eval e X.env) :: starEach [] X.env := by rfl) (hplain : (backTo cpos (starEach [] X.env)).any (·.1) = false := by rfl) (hs2 : swapsWith (.Call (.Attribute o "append" apos) [e] [] cpos) none pos.line X.env = pure false := by rfl) :
    PS X (.Expr (.Call (.Attribute o "append" apos) [e] [] cpos) pos) (tS X.K E (sApp i me)) :=
  PS.wk (ps_expr (pe_bm PySem.F.plainAttrs_list PySem.F.slot_list_append PySem.F.type_list_append mt_append ho (pa_cons he pa_nil hs) hbase hfew hline hs hplain) hs2) fun N σ H ⟨B, G, F, δ, S, b, a⟩ => by
    obtain ⟨xs, e, a⟩ := sl_some a
    obtain ⟨p, vs, h0, h1, h2, h3, h4, h5, h6⟩ := own_get b e
    refine ⟨.ref p, h1, .inl ⟨rfl, vs, SqL.of h4⟩, AftS.bind (R1 := RD X.K) b a fun F1 H1 S1 y v t b1 r a1 => ?_⟩
    obtain ⟨u, hu, a3⟩ := sl_some a1
    have hlen : xs.length < 16777216 := by
      by_cases z : xs.length < 16777216
      · exact z
      · rw [if_neg z] at hu; exact nomatch hu
    obtain ⟨p', vs', k0, k1, k2, k3, k4, k5, k6⟩ := own_get b1 e
    rw [h1] at k1
    have e9 : p = p' := by simpa using k1
    subst e9
    exact ⟨p, vs', v, rfl, rfl, k4, by rw [line_eq, k5.len]; exact hlen, AftS.nx a3 (set_own b1 k0 h1 k2 k3 k4 k6 (k5.app (DvA.one r)))⟩
/-- if -/
def sIf (t : DE → M Bool) (m k : DE → M Ctl) : DE → M Ctl := fun δ => M.bind (t δ) fun b => if b = true then m δ else k δ
theorem psd_if {a b : List Stmt} (hc : PT X c (tT X.K E mt)) (ha : PSs X a (tS X.K E m1)) (hb : PSs X b (tS X.K E m2)) : PS X (.If c a b pos) (tS X.K E (sIf mt m1 m2)) := PS.wk (ps_if hc ha hb) fun N σ H ⟨B, G, F, δ, S, b, a⟩ =>
  AftS.bind (R1 := RB) b a fun F1 H1 S1 x v t b1 r a1 => by
    cases r
    cases x with
    | true => exact ⟨B, G, F1, δ, S1, b1, a1⟩
    | false => exact ⟨B, G, F1, δ, S1, b1, a1⟩
end
end Pd
namespace Pd
open PySem PySem.Spec PyProof.Rows L2

/-! ### for -/
/-- what a loop does with its body's end -/
def loopD (again : DE → M Ctl) : Ctl → M Ctl
  | .nx δ => again δ
  | .ct δ => again δ
  | .bk δ => M.ret (.nx δ)
  | .rt s => M.ret (.rt s)
def forD (t : D → DE → Option DE) (body : DE → M Ctl) : List D → DE → M Ctl
  | [], δ => M.ret (.nx δ)
  | x :: xs, δ => M.bind (M.lift (t x δ)) fun δ1 => M.bind (body δ1) (loopD (forD t body xs))
def sFor (mi : DE → M (List D)) (t : D → DE → Option DE) (body : DE → M Ctl) : DE → M Ctl := fun δ => M.bind (mi δ) fun xs => forD t body xs δ
/-! ### while -/
def whN (t : DE → M Bool) (body : DE → M Ctl) : Nat → DE → M Ctl
  | 0, _ => M.fail
  | n + 1, δ => M.bind (t δ) fun b => if b = true then M.bind (body δ) (loopD (whN t body n)) else M.ret (.nx δ)
open Classical in
noncomputable def whD (t : DE → M Bool) (body : DE → M Ctl) : DE → M Ctl := fun δ S => if h : ∃ n, (whN t body n δ S).isSome = true then whN t body (Classical.choose h) δ S else none
theorem whN_up {t : DE → M Bool} {body : DE → M Ctl} : ∀ (n : Nat) (δ : DE) (S : Option Bag) (r : Except Exn Ctl × Option Bag), whN t body n δ S = some r → whN t body (n + 1) δ S = some r
  | 0, δ, S, r, h => by cases h
  | n + 1, δ, S, r, h => by
    have h' : M.bind (t δ) (fun b => if b = true then M.bind (body δ) (loopD (whN t body n)) else M.ret (.nx δ)) S = some r := h
    show M.bind (t δ) (fun b => if b = true then M.bind (body δ) (loopD (whN t body (n + 1))) else M.ret (.nx δ)) S = some r
    rw [M.bind_eq] at h' ⊢
    cases e : t δ S with
    | none => rw [e] at h'; exact h'
    | some x =>
      obtain ⟨x, S1⟩ := x
      rw [e] at h'
      cases x with
      | error x => exact h'
      | ok b =>
        cases b with
        | false => exact h'
        | true =>
          have h2 : M.bind (body δ) (loopD (whN t body n)) S1 = some r := h'
          show M.bind (body δ) (loopD (whN t body (n + 1))) S1 = some r
          rw [M.bind_eq] at h2 ⊢
          cases e2 : body δ S1 with
          | none => rw [e2] at h2; exact h2
          | some y =>
            obtain ⟨y, S2⟩ := y
            rw [e2] at h2
            cases y with
            | error y => exact h2
            | ok c =>
              cases c with
              | nx δ1 => exact whN_up n δ1 S2 r h2
              | ct δ1 => exact whN_up n δ1 S2 r h2
              | bk δ1 => exact h2
              | rt s => exact h2
theorem whN_le {t : DE → M Bool} {body : DE → M Ctl} {δ : DE} {S : Option Bag} {r : Except Exn Ctl × Option Bag} {n m : Nat} (hm : n ≤ m) (h : whN t body n δ S = some r) : whN t body m δ S = some r := by
  induction hm with
  | refl => exact h
  | step _ ih => exact whN_up _ _ _ _ ih
theorem whD_of {t : DE → M Bool} {body : DE → M Ctl} {δ : DE} {S : Option Bag} {r : Except Exn Ctl × Option Bag} {n : Nat} (h : whN t body n δ S = some r) : whD t body δ S = some r := by
  have hx : ∃ n, (whN t body n δ S).isSome = true := ⟨n, by rw [h]; rfl⟩
  unfold whD
  rw [dif_pos hx]
  have hc := Classical.choose_spec hx
  generalize Classical.choose hx = m at hc ⊢
  cases e : whN t body m δ S with
  | none => rw [e] at hc; cases hc
  | some r' =>
    rcases Nat.le_total n m with q | q
    · rw [whN_le q h] at e; exact e.symm
    · rw [whN_le q e] at h; exact h
theorem whD_some {t : DE → M Bool} {body : DE → M Ctl} {δ : DE} {S : Option Bag} {r : Except Exn Ctl × Option Bag} (h : whD t body δ S = some r) : ∃ n, whN t body n δ S = some r := by
  unfold whD at h
  split at h
  · exact ⟨_, h⟩
  · cases h
section
variable {K : PySem.W.Frag} {B : Option Addr} {G F H F1 : Hp} {σ : L2.St} {δ : DE} {S : Option Bag} {E : XK} {N : Ends}
/-- a body's end under a loop -/
theorem AftS.loop {m : DE → M Ctl} {again : DE → M Ctl} {Nx : L2.St → Hp → Prop} (h : AftS K E B G F N (M.bind (m δ) (loopD again) S))
    (q : ∀ σ' F' H' δ' S', StS B G F F' → Base K B G F' H' σ' δ' S' → AftS K E B G F' N (again δ' S') → Nx σ' H') : AftS K E B G F { N with nx := Nx, ct := Nx, bk := N.nx } (m δ S) := by
  rw [M.bind_eq] at h
  cases e : m δ S with
  | none => rw [e] at h; exact h
  | some x =>
    obtain ⟨x, S1⟩ := x
    rw [e] at h
    cases x with
    | error x => exact h
    | ok c =>
      cases c with
      | nx δ1 => exact fun σ' F' H' t b => q σ' F' H' δ1 S1 t b (AftS.from t h)
      | ct δ1 => exact fun σ' F' H' t b => q σ' F' H' δ1 S1 t b (AftS.from t h)
      | bk δ1 => exact h
      | rt s => exact h
end
section
variable {X : Cx} {E : XK} {tg iter c : Expr} {body : List Stmt} {mi : DE → M (List D)} {g : TG} {t : D → DE → Option DE} {ix : List Nat} {mb : DE → M Ctl} {mt : DE → M Bool} {pos : Pos}
theorem psd_for (hp : PassesOwn (model X.prog X.w) X.A X.env X.xe) (hc : X.calm = true) (hi : PI X tg iter (tI X.K E mi)) (hg : PG X tg g) (tok : TgOk X.K g t ix) (hb : PSs X body (tS X.K E mb)) (hs : ∀ x, foldedSetIterable iter X.env x = pure x := by intro _; rfl) :
    PS X (.For tg iter body [] pos) (tS X.K E (sFor mi t mb)) := PS.wk (ps_for hp hc hi hg hb hs) fun N σ H ⟨B, G, F, δ, S, b, a⟩ => AftS.bind (R1 := RI X.K) b a fun F1 H1 S1 xs J t1 b1 wk a1 => by
  refine ⟨fun i m σ H => m = xs.length - i ∧ i ≤ xs.length ∧ ∃ F δ S, StS B G F1 F ∧ Base X.K B G F H σ δ S ∧ AftS X.K E B G F N (forD t mb (xs.drop i) δ S), ⟨_, rfl, Nat.zero_le _, F1, δ, S1, StS.refl, b1, a1⟩, ?_⟩
  rintro i m σ2 H2 ⟨rfl, hi2, F2, δ2, S2, t2, b2, a2⟩
  by_cases hlt : i < xs.length
  · refine .inr ⟨wk.go i H2 hlt (t2.ff.trans b2.fh), fun σ H => i + 1 ≤ xs.length ∧ ∃ F δ S, StS B G F1 F ∧ Base X.K B G F H σ δ S ∧ AftS X.K E B G F N (forD t mb (xs.drop (i + 1)) δ S), fun σ' H' q => ⟨_, by omega, rfl, q⟩, fun x H3 y => ?_⟩
    obtain ⟨d, F3, e3, q3, r3⟩ := wk.yld i H2 F2 x H3 hlt t2.ff b2.fh y
    have b3 := b2.stq q3
    have t3 := (q3.stp b2.bag).sts b2
    rw [drop_cons e3] at a2
    obtain ⟨δ1, e4, a4⟩ := sl_some (AftS.from t3 a2)
    refine tok B G F3 H3 _ _ S2 d x δ1 b3 r3 e4 _ fun σ4 b4 _ => ⟨B, G, F3, δ1, S2, b4, AftS.loop a4 fun σ' F' H' δ' S' t' b' a' => ?_⟩
    exact ⟨hlt, F', δ', S', (t2.trans t3).trans t', b', a'⟩
  · have e : i = xs.length := by omega
    subst e
    rw [List.drop_of_length_le (Nat.le_refl _)] at a2
    exact .inl ⟨wk.stop H2 (t2.ff.trans b2.fh), a2.nx b2⟩
theorem psd_while (hp : PassesOwn (model X.prog X.w) X.A X.env X.xe) (hc : PT X c (tT X.K E mt)) (hb : PSs X body (tS X.K E mb)) : PS X (.While c body [] pos) (tS X.K E (whD mt mb)) := PS.wk (ps_while hp hc hb) fun N σ H ⟨B, G, F, δ, S, b, a⟩ => by
  have a0 : AftS X.K E B G F N (whD mt mb δ S) := a
  cases e : whD mt mb δ S with
  | none => rw [e] at a0; exact a0.elim
  | some r =>
    obtain ⟨n, hn⟩ := whD_some e
    rw [e, ← hn] at a0
    refine ⟨fun m σ H => ∃ F δ S, Base X.K B G F H σ δ S ∧ AftS X.K E B G F N (whN mt mb m δ S), ⟨n, F, δ, S, b, a0⟩, ?_⟩
    rintro m σ1 H1 ⟨F1, δ1, S1, b1, a1⟩
    cases m with
    | zero => exact a1.elim
    | succ m =>
      refine AftS.bind (R1 := RB) (m := mt) (k := fun b => if b = true then M.bind (mb δ1) (loopD (whN mt mb m)) else M.ret (.nx δ1)) b1 a1 fun F2 H2 S2 x v t2 b2 r a2 => ?_
      cases r
      cases x with
      | true => exact ⟨fun σ H => ∃ F δ S, Base X.K B G F H σ δ S ∧ AftS X.K E B G F N (whN mt mb m δ S), fun σ' H' q => ⟨m, Nat.lt_succ_self m, q⟩, B, G, F2, δ1, S2, b2, AftS.loop a2 fun σ' F' H' δ' S' t' b' a' => ⟨F', δ', S', b', a'⟩⟩
      | false => exact AftS.nx a2 b2
end

/-! ### defs -/
def runF (m : DE → M Ctl) (n : Nat) (ss : List Sl) : M Sl := M.bind (m (ss.map some ++ List.replicate (n - ss.length) none)) fun c => match c with
  | .nx _ => M.ret (.d .none)
  | .rt s => M.ret s
  | _ => M.fail
def spF (K : PySem.W.Frag) (f : List Sl → M Sl) (n : Nat) : Sp := fun vs H Q E => ∃ B F ss S, ss.length = n ∧ Sub F H ∧ RepS B F H S ∧ RepAs K B F ss vs ∧ Aft E B F H (RR K B H) Q (f ss S)
theorem spF_len {K : PySem.W.Frag} {f : List Sl → M Sl} {n : Nat} {vs : List V} {H : Hp} {Q : VK} {E : XK} (h : spF K f n vs H Q E) : vs.length = n := by
  obtain ⟨B, F, ss, S, h1, _, _, h2, _⟩ := h
  rw [h2.len, h1]
theorem repAs_at {K : PySem.W.Frag} {B : Option Addr} {F : Hp} : ∀ {ss : List Sl} {vs : List V} {i : Nat} {s : Sl}, RepAs K B F ss vs → ss[i]? = some s → ∃ v, vs[i]? = some v ∧ RepArg K B F s v
  | [], _, _, _, _, e => by simp at e
  | x :: ss, _, 0, s, h, e => by
    obtain ⟨v, r, e1, h1, h2⟩ := h
    subst e1
    have e2 : x = s := by simpa using e
    subst e2
    exact ⟨v, rfl, h1⟩
  | x :: ss, _, i + 1, s, h, e => by
    obtain ⟨v, r, e1, h1, h2⟩ := h
    subst e1
    obtain ⟨w, h3, h4⟩ := repAs_at (i := i) h2 (by simpa using e)
    exact ⟨w, by simpa using h3, h4⟩
theorem entry_base {K : PySem.W.Frag} {B : Option Addr} {F H : Hp} {ss : List Sl} {vs : List V} {S : Option Bag} {N : List Str} (fh : Sub F H) (bag : RepS B F H S) (r : RepAs K B F ss vs) :
    Base K B (fun a => if some a = B then none else H a) F H (L2.start N vs) (ss.map some ++ List.replicate (N.length - ss.length) none) S := by
  have hl := r.len
  have at1 : ∀ {i : Nat} {s : Sl}, (ss.map some ++ List.replicate (N.length - ss.length) none : DE)[i]? = some (some s) → ∃ v, (L2.start N vs)[i]? = some (some v) ∧ RepArg K B F s v := fun {i s} e => by
    have hi : i < ss.length := by
      by_cases hi : i < ss.length
      · exact hi
      · rw [List.getElem?_append_right (by simpa using hi), List.getElem?_replicate] at e
        split at e <;> cases e
    rw [List.getElem?_append_left (by simpa using hi), List.getElem?_map] at e
    cases e1 : ss[i]? with
    | none => rw [e1] at e; cases e
    | some s' =>
      rw [e1] at e
      cases e
      obtain ⟨v, h1, h2⟩ := repAs_at r e1
      refine ⟨v, ?_, h2⟩
      unfold L2.start
      rw [List.getElem?_append_left (by rw [List.length_map, hl]; exact hi), List.getElem?_map, h1]
      rfl
  have noown : ∀ {i : Nat} {xs : List D}, (ss.map some ++ List.replicate (N.length - ss.length) none : DE)[i]? = some (some (.own xs)) → False := fun {i xs} e => by
    obtain ⟨v, _, h⟩ := at1 e
    exact h
  refine ⟨fh, fun a o h => ?_, fun b e => ?_, ⟨?_, fun i s e => ?_, fun i xs p e => (noown e).elim, fun i j xs ys p e => (noown e).elim⟩, bag⟩
  · have h' : (if some a = B then none else H a) = some o := h
    by_cases z : some a = B
    · rw [if_pos z] at h'; cases h'
    · rw [if_neg z] at h'; exact h'
  · show (if some b = B then none else H b) = none
    rw [if_pos e.symm]
  · unfold L2.start
    rw [List.length_append, List.length_append, List.length_map, List.length_map, List.length_replicate, List.length_replicate, hl]
  · obtain ⟨v, h1, h2⟩ := at1 e
    refine ⟨v, h1, ?_⟩
    cases s with
    | d x => exact h2
    | bag => obtain ⟨b, e1, e2⟩ := h2; exact ⟨b, e2, e1⟩
    | own _ => exact h2.elim
theorem exit_aft {K : PySem.W.Frag} {B : Option Addr} {F H : Hp} {m : DE → M Ctl} {δ : DE} {S : Option Bag} {Q : VK} {E E' : XK}
    (h : Aft E B F H (RR K B H) Q (M.bind (m δ) (fun c => match c with
      | .nx _ => M.ret (.d .none)
      | .rt s => M.ret s
      | _ => M.fail) S)) : AftS K E' B (fun a => if some a = B then none else H a) F { nx := fun _ H' => Q .non H', rt := Q } (m δ S) := by
  have G0 : ∀ {a : Addr}, (if some a = B then none else H a) = none → some a ≠ B → H a = none := fun {a} h n => by rw [if_neg n] at h; exact h
  have stp : ∀ {F' H' : Hp}, StS B (fun a => if some a = B then none else H a) F F' → Sub F' H' → Sub (fun a => if some a = B then none else H a) H' → Stp B F H F' H' := fun {F' H'} t fh gh =>
    ⟨t.ff, fh, fun a o n e => gh a o (by show (if some a = B then none else H a) = some o; rw [if_neg n]; exact e), fun a e => (t.new a e).imp id fun q => ⟨G0 q.1 q.2, q.2⟩⟩
  rw [M.bind_eq] at h
  cases e : m δ S with
  | none => rw [e] at h; exact h
  | some x =>
    obtain ⟨x, S1⟩ := x
    rw [e] at h
    cases x with
    | error x => exact fun F' H' t fh gh r => (h F' H' (stp t fh gh) r).elim
    | ok c =>
      cases c with
      | nx δ1 => exact fun σ F' H' t b => h _ F' H' (stp t b.fh b.gh) b.bag (show Dv K F' .none .non from rfl)
      | bk δ1 => exact h.elim
      | ct δ1 => exact h.elim
      | rt s =>
        intro v F' H' t fh gh r q
        refine h v F' H' (stp t fh gh) r ?_
        cases s with
        | d x => exact q
        | bag => exact q.elim
        | own xs =>
          obtain ⟨p, vs, e, h1, h2, h3, h4, h5⟩ := q
          exact ⟨p, vs, e, G0 h1 h2, h2, h3, h4, h5⟩
section
variable {P : Program} {w : World} {K : PySem.W.Frag} {mg : Str → Option Value} {base : Heap}
/-- THE RULE for a def: its promise is its own function, by its body's derivation -/
theorem fn_pd {x qual : Str} {st : Stmt} {f : Addr} {fd : FuncData} {N ps : List Str} {k : Nat} {m : DE → M Ctl} (F : Fun K x qual st f fd) (S : FnScope N ps (defScope st))
    (hbody : ∀ (cdv : Value) (A : Around) (outer : List Env) (s : Shared) (H : Hp) (E : XK), Room k (A.deeper (envOfC qual (defScope st) s.heap.objs.size f cdv)) →
      PSs (cxOf CX0 P w K mg base N qual (defScope st) f cdv A outer s H E).nox (defBody st) (tS K E0 m)) : FnOk P w K mg base CX0 (k + 1) f fd ps (spF K (runF m N.length) ps.length) := by
  refine F.ok S (fun vs H Q E h => spF_len h) fun cdv A outer s H vs Q E hr h => ⟨_, hbody cdv A outer s H E hr, ?_⟩
  obtain ⟨B, F, ss, S', h1, fh, bag, r, a⟩ := h
  exact ⟨B, _, F, _, S', entry_base fh bag r, exit_aft a⟩
end
/-- a promise told by another function -/
theorem spF_mono {K : PySem.W.Frag} {f g : List Sl → M Sl} {n : Nat} (h : ∀ ss S r, ss.length = n → g ss S = some r → f ss S = some r) : ∀ vs H Q E, spF K g n vs H Q E → spF K f n vs H Q E := by
  rintro vs H Q E ⟨B, F, ss, S, h1, fh, bag, r, a⟩
  refine ⟨B, F, ss, S, h1, fh, bag, r, ?_⟩
  cases e : g ss S with
  | none => rw [e] at a; exact a.elim
  | some x => rw [h ss S x h1 e, ← e]; exact a

/-! ### calls -/
section
variable {X : Cx} {E : XK} {e : Expr} {es : List Expr} {me : DE → M D} {mo : DE → M (List D)} {mr : DE → M Sl} {ma : DE → M (List Sl)} {x : Str} {p pos : Pos}
def asNil : DE → M (List Sl) := fun _ => M.ret []
def asD (m : DE → M D) (r : DE → M (List Sl)) : DE → M (List Sl) := fun δ => M.bind (m δ) fun x => M.bind (r δ) fun xs => M.ret (.d x :: xs)
def isBag (δ : DE) (i : Nat) : Option Unit := match δ[i]? with
  | some (some .bag) => some ()
  | _ => none
def asBag (i : Nat) (r : DE → M (List Sl)) : DE → M (List Sl) := fun δ => M.bind (M.lift (isBag δ i)) fun _ => M.bind (r δ) fun xs => M.ret (.bag :: xs)
theorem pas_nil : PA X [] (tAs X.K E asNil) := PA.wk pa_nil fun σ H Q ⟨B, G, F, δ, S, b, a⟩ => a.ret b rfl
theorem pas_d (h : PE X e (tD X.K E me)) (r : PA X es (tAs X.K E ma)) (hs : starEach (e :: es) X.env = (false, eval e X.env) :: starEach es X.env := by rfl) : PA X (e :: es) (tAs X.K E (asD me ma)) :=
  PA.wk (pa_cons h r hs) fun σ H Q ⟨B, G, F, δ, S, b, a⟩ => by
    refine a.bind (R1 := RD X.K) b RA.bk fun F1 H1 S1 x v t1 b1 r1 a1 => ?_
    refine a1.bind (R1 := RA X.K) b1 RA.bk fun F2 H2 S2 xs us t2 b2 r2 a2 => ?_
    exact a2.ret b2 ⟨v, us, rfl, Dv.mono t2.ff r1, r2⟩
theorem pas_bag {i : Nat} (h : PE X e (tVar i)) (r : PA X es (tAs X.K E ma)) (hs : starEach (e :: es) X.env = (false, eval e X.env) :: starEach es X.env := by rfl) : PA X (e :: es) (tAs X.K E (asBag i ma)) :=
  PA.wk (pa_cons h r hs) fun σ H Q ⟨B, G, F, δ, S, b, a⟩ => by
    obtain ⟨u, e, a0⟩ := bl_some a
    have e1 : δ[i]? = some (some .bag) := by
      unfold isBag at e
      split at e
      · assumption
      · cases e
    obtain ⟨v, h1, bb, h2, h3⟩ := b.env.rep i _ e1
    refine ⟨v, h1, ?_⟩
    refine Aft.bind (m := ma) (k := fun xs => M.ret (.bag :: xs)) (R1 := RA X.K) b RA.bk a0 fun F2 H2 S2 xs us t2 b2 r2 a2 => ?_
    exact a2.ret b2 ⟨v, us, rfl, ⟨bb, h3, h2⟩, r2⟩
def eCall (f : List Sl → M Sl) (ma : DE → M (List Sl)) : DE → M Sl := fun δ => M.bind (ma δ) f
theorem call_wk {K : PySem.W.Frag} {f : List Sl → M Sl} {n : Nat} {σ : L2.St} {H : Hp} {Q : VK} {E : XK} (hn : ∀ ss S r, ss.length ≠ n → f ss S = some r → False) (h : tR K E (eCall f ma) σ H Q) : tCall (spF K f n) [] E (tAs K E ma) σ H Q := by
  obtain ⟨B, G, F, δ, S, b, a⟩ := h
  refine a.bind (R1 := RA K) b RR.bk fun F1 H1 S1 ss vs t1 b1 r1 a1 => ?_
  rw [List.append_nil]
  refine ⟨B, F1, ss, S1, ?_, b1.fh, b1.bag, r1, a1⟩
  by_cases e : ss.length = n
  · exact e
  · cases e2 : f ss S1 with
    | none => rw [e2] at a1; exact a1.elim
    | some r => exact (hn ss S1 r e e2).elim
/-- a function of n arguments alone -/
def onlyN (n : Nat) (f : List Sl → M Sl) : List Sl → M Sl := fun ss => if ss.length = n then f ss else M.fail
theorem onlyN_no {n : Nat} {f : List Sl → M Sl} : ∀ ss S r, ss.length ≠ n → onlyN n f ss S = some r → False := fun ss S r h e => by
  unfold onlyN at e
  rw [if_neg h] at e
  cases e
theorem pr_call {f : List Sl → M Sl} {n k : Nat} {fa : Addr} {fd : FuncData} {ps : List Str} (Fk : FnOk X.prog X.w X.K X.mg X.base CX0 k fa fd ps (spF X.K f n)) (hr : Room k X.A) (hg : Gl X x) (hm : X.mg x = some (.ref fa)) (hk : PySem.W.keepIn X.K (.ref fa) = true) (hb : Binds X.K fd ps [])
    (ha : PA X (e :: es) (tAs X.K E ma)) (hdb : (x == ("__debug__" : Str)) = false := by decide) (he : starEach (e :: es) X.env = (false, eval e X.env) :: starEach es X.env := by rfl) (hpl : (backTo pos (starEach es X.env)).any (·.1) = false := by rfl) :
    PE X (.Call (.Name x p) (e :: es) [] pos) (tR X.K E (eCall (onlyN n f) ma)) := by
  have Fk' := Fk.imp (spF_mono (f := f) (g := onlyN n f) fun ss S r h e => by unfold onlyN at e; rw [if_pos h] at e; exact e)
  exact PE.wk (pe_call Fk' hr hg hm hk hb .nil (fun _ _ _ _ _ _ _ h => h.elim) ha hdb he hpl) fun _ _ _ h => call_wk onlyN_no h
/-- as data -/
def eDat (m : DE → M Sl) : DE → M D := fun δ => M.bind (m δ) fun s => match s with
  | .d x => M.ret x
  | .own xs => M.ret (.list xs)
  | .bag => M.fail
theorem pd_dat (h : PE X e (tR X.K E mr)) : PE X e (tD X.K E (eDat mr)) := PE.wk h fun σ H Q ⟨B, G, F, δ, S, b, a⟩ => by
  refine ⟨B, G, F, δ, S, b, ?_⟩
  have a' : Aft E B F H (RD X.K B H) Q (M.bind (mr δ) (fun s => match s with
    | .d x => M.ret x
    | .own xs => M.ret (.list xs)
    | .bag => M.fail) S) := a
  rw [M.bind_eq] at a'
  cases e : mr δ S with
  | none => rw [e] at a'; exact a'
  | some x =>
    obtain ⟨x, S1⟩ := x
    rw [e] at a'
    cases x with
    | error x => exact a'
    | ok s =>
      cases s with
      | d x => exact a'
      | bag => exact a'.elim
      | own xs =>
        rintro v F' H' t r ⟨p, vs, e, h1, h2, h3, h4, h5⟩
        subst e
        obtain ⟨t', r'⟩ := frz_stp t r h1 h2 h3 h4
        exact a' _ _ _ t' r' ⟨p, vs, rfl, upd_same, DvA.mono (Sub.up h3) h5⟩
end

/-! ### a local list that is read -/
section
variable {X : Cx} {E : XK} {e : Expr} {x : Str} {p pos : Pos}
/-- tuple(xs) -/
def eTupV (i : Nat) : DE → M D := fun δ => M.bind (M.lift (getOwn δ i)) fun xs => M.ret (.tuple xs)
theorem pd_tupV {i : Nat} (hg : Gl X "tuple") (hm : X.mg "tuple" = none) (he : PE X e (tVar i)) (hs : starEach [e] X.env = (false, eval e X.env) :: starEach [] X.env := by rfl) (hpl : (backTo pos (starEach [] X.env)).any (·.1) = false := by rfl) : PE X (.Call (.Name "tuple" p) [e] [] pos) (tD X.K E (eTupV i)) :=
  PE.wk (pe_callTy call_tuple_of hg hm (by decide +kernel) (pa_cons he pa_nil hs) (by decide) (by decide) hs hpl) fun σ H Q ⟨B, G, F, δ, S, b, a⟩ => by
    obtain ⟨xs, e, a1⟩ := bl_some a
    obtain ⟨p, vs, h0, h1, h2, h3, h4, h5, h6⟩ := own_get b e
    refine ⟨.ref p, h1, p, vs, rfl, .inl ⟨SqL.of h4, fun l hl => ?_⟩⟩
    exact a1.lay b (Stq.data b.fh hl) ⟨l, vs, rfl, sqt_of upd_same, DvA.mono (Sub.up (b.fh.free hl)) h5⟩
end
end Pd
namespace Pd
open PySem PySem.Spec PyProof.Rows L2

/-! ### arithmetic and joining -/
def okMul (i j : Int) : Bool := decide (i.natAbs.log2 + j.natAbs.log2 < 1000000) || (decide (-18446744073709551616 < i ∧ i < 18446744073709551616) || decide (-18446744073709551616 < j ∧ j < 18446744073709551616))
def pyAdd : D → D → Option D
  | .int i, .int j => some (.int (i + j))
  | .str a, .str b => if a.length + b.length ≤ 16777216 then some (.str (a ++ b)) else none
  | .list a, .list b => if a.length + b.length ≤ 16777216 then some (.list (a ++ b)) else none
  | .tuple a, .tuple b => if a.length + b.length ≤ 16777216 then some (.tuple (a ++ b)) else none
  | _, _ => none
def pySub : D → D → Option D
  | .int i, .int j => some (.int (i - j))
  | _, _ => none
def repS (a : Str) (n : Nat) : Str := ⟨(List.replicate n a.cps.toList).flatten.toArray⟩
def pyMul : D → D → Option D
  | .int i, .int j => if okMul i j = true then some (.int (i * j)) else none
  | .str a, .int k => if 2 ≤ k ∧ k ≤ 1000000 ∧ 0 < a.length ∧ a.length * k.toNat ≤ 16777216 then some (.str (repS a k.toNat)) else none
  | .list a, .int k => if -1000 ≤ k ∧ k ≤ 1000000 ∧ a.length * k.toNat ≤ 16777216 then some (.list (List.replicate k.toNat a).flatten) else none
  | _, _ => none
def pyMod : D → D → Option D
  | .int i, .int j => if j ≠ 0 then some (.int (i.fmod j)) else none
  | _, _ => none
def pyDiv : D → D → Option D
  | .int i, .int j => if j ≠ 0 ∧ j.natAbs < 1073741824 then some (.int (i.fdiv j)) else none
  | _, _ => none
def pyPow : D → D → Option D
  | .int i, .int j => if 0 ≤ j ∧ j ≤ 1000000 ∧ i.natAbs < 18446744073709551616 then some (.int (i ^ j.toNat)) else none
  | _, _ => none
def pyNeg : D → Option D
  | .int i => some (.int (-i))
  | _ => none
section
variable {X : Cx}
/-- a two-place operation by its own rule, data by data -/
theorem opr_of {f : Value → Value → Sem Value} {r : R2} {g : D → D → Option D} (h : OpR X f r)
    (w : ∀ F d e x y z H Q, Sub F H → Dv X.K F d x → Dv X.K F e y → g d e = some z → (∀ v F' H', Stq F H F' H' → Dv X.K F' z v → Q v H') → r x y H Q) : OpR X f (rOp X.K g) := by
  intro pins s σ H x y v u Q I rx ry ⟨F, d, e, z, fh, hd, he, hz, q⟩
  exact h pins s σ H x y v u Q I rx ry (w F d e x y z H Q fh hd he hz q)
theorem opr_or {f : Value → Value → Sem Value} {g g' : D → D → Option D} (h : OpR X f (rOp X.K g)) (h' : OpR X f (rOp X.K g')) : OpR X f (rOp X.K fun d e => (g d e).orElse fun _ => g' d e) := by
  intro pins s σ H x y v u Q I rx ry ⟨F, d, e, z, fh, hd, he, hz, q⟩
  cases e1 : g d e with
  | some z' =>
    have hz' : z' = z := by
      dsimp only at hz
      rw [e1] at hz
      exact Option.some.inj hz
    exact h pins s σ H x y v u Q I rx ry ⟨F, d, e, z', fh, hd, he, e1, by rw [hz']; exact q⟩
  | none =>
    have hz' : g' d e = some z := by
      dsimp only at hz
      rw [e1] at hz
      exact hz
    exact h' pins s σ H x y v u Q I rx ry ⟨F, d, e, z, fh, hd, he, hz', q⟩
theorem opr_eq {f : Value → Value → Sem Value} {g g' : D → D → Option D} (h : OpR X f (rOp X.K g)) (e : ∀ d e, g' d e = g d e) : OpR X f (rOp X.K g') := by
  have : g' = g := funext fun d => funext fun e' => e d e'
  rw [this]; exact h
/-- two ints -/
def gI (C : Int → Int → Bool) (g : Int → Int → D) : D → D → Option D
  | .int i, .int j => if C i j = true then some (g i j) else none
  | _, _ => none
theorem gI_some {C : Int → Int → Bool} {g : Int → Int → D} {d e z : D} (h : gI C g d e = some z) : ∃ i j, d = .int i ∧ e = .int j ∧ C i j = true ∧ z = g i j := by
  unfold gI at h
  split at h
  · rename_i i j
    by_cases c : C i j = true
    · rw [if_pos c] at h; exact ⟨i, j, rfl, rfl, c, (Option.some.inj h).symm⟩
    · rw [if_neg c] at h; exact nomatch h
  · exact nomatch h
theorem opr_I {f : Value → Value → Sem Value} {C : Int → Int → Prop} {c : Int → Int → Bool} {g : Int → Int → V} {g' : Int → Int → D} (h : OpR X f (rI C g)) (hc : ∀ i j, c i j = true → C i j) (hg : ∀ F i j, Dv X.K F (g' i j) (g i j)) : OpR X f (rOp X.K (gI c g')) :=
  opr_of h fun F d e x y z H Q fh hd he hz q => by
    obtain ⟨i, j, e1, e2, e3, e4⟩ := gI_some hz
    subst e1 e2 e4
    exact ⟨i, j, hd, he, hc i j e3, q _ F H (Stq.refl fh) (hg F i j)⟩
theorem opr_I0 {f : Value → Value → Sem Value} {g : Int → Int → V} {g' : Int → Int → D} (h : OpR X f (rI0 g)) (hg : ∀ F i j, Dv X.K F (g' i j) (g i j)) : OpR X f (rOp X.K (gI (fun _ _ => true) g')) :=
  opr_of h fun F d e x y z H Q fh hd he hz q => by
    obtain ⟨i, j, e1, e2, e3, e4⟩ := gI_some hz
    subst e1 e2 e4
    exact ⟨i, j, hd, he, q _ F H (Stq.refl fh) (hg F i j)⟩
/-- two texts -/
def gS (C : Str → Str → Bool) (g : Str → Str → D) : D → D → Option D
  | .str i, .str j => if C i j = true then some (g i j) else none
  | _, _ => none
theorem gS_some {C : Str → Str → Bool} {g : Str → Str → D} {d e z : D} (h : gS C g d e = some z) : ∃ i j, d = .str i ∧ e = .str j ∧ C i j = true ∧ z = g i j := by
  unfold gS at h
  split at h
  · rename_i i j
    by_cases c : C i j = true
    · rw [if_pos c] at h; exact ⟨i, j, rfl, rfl, c, (Option.some.inj h).symm⟩
    · rw [if_neg c] at h; exact nomatch h
  · exact nomatch h
def gL (C : List D → List D → Bool) (g : List D → List D → D) : D → D → Option D
  | .list i, .list j => if C i j = true then some (g i j) else none
  | _, _ => none
theorem gL_some {C : List D → List D → Bool} {g : List D → List D → D} {d e z : D} (h : gL C g d e = some z) : ∃ i j, d = .list i ∧ e = .list j ∧ C i j = true ∧ z = g i j := by
  unfold gL at h
  split at h
  · rename_i i j
    by_cases c : C i j = true
    · rw [if_pos c] at h; exact ⟨i, j, rfl, rfl, c, (Option.some.inj h).symm⟩
    · rw [if_neg c] at h; exact nomatch h
  · exact nomatch h
def gU (C : List D → List D → Bool) (g : List D → List D → D) : D → D → Option D
  | .tuple i, .tuple j => if C i j = true then some (g i j) else none
  | _, _ => none
theorem gU_some {C : List D → List D → Bool} {g : List D → List D → D} {d e z : D} (h : gU C g d e = some z) : ∃ i j, d = .tuple i ∧ e = .tuple j ∧ C i j = true ∧ z = g i j := by
  unfold gU at h
  split at h
  · rename_i i j
    by_cases c : C i j = true
    · rw [if_pos c] at h; exact ⟨i, j, rfl, rfl, c, (Option.some.inj h).symm⟩
    · rw [if_neg c] at h; exact nomatch h
  · exact nomatch h
theorem add_list : OpR X (binaryOp .Add) (rOp X.K (gL (fun a b => decide (a.length + b.length ≤ 16777216)) fun a b => .list (a ++ b))) := opr_of op_cat fun F d e x y z H Q fh hd he hz q => by
  obtain ⟨i, j, e1, e2, e3, e4⟩ := gL_some hz
  subst e1 e2 e4
  obtain ⟨a, xs, rfl, h1, h2⟩ := hd
  obtain ⟨b, ys, rfl, h3, h4⟩ := he
  refine ⟨a, b, xs, ys, rfl, rfl, fh _ _ h1, fh _ _ h3, by rw [line_eq, h2.len, h4.len]; exact of_decide_eq_true e3, fun p hp => ?_⟩
  have hf := Sub.up (o := .lst (xs ++ ys)) (fh.free hp)
  exact q _ _ _ (Stq.data fh hp) ⟨p, _, rfl, upd_same, (DvA.mono hf h2).app (DvA.mono hf h4)⟩
theorem add_tup : OpR X (binaryOp .Add) (rOp X.K (gU (fun a b => decide (a.length + b.length ≤ 16777216)) fun a b => .tuple (a ++ b))) := opr_of op_catA fun F d e x y z H Q fh hd he hz q => by
  obtain ⟨i, j, e1, e2, e3, e4⟩ := gU_some hz
  subst e1 e2 e4
  obtain ⟨a, xs, rfl, h1, h2⟩ := hd
  obtain ⟨b, ys, rfl, h3, h4⟩ := he
  refine ⟨a, b, xs, ys, rfl, rfl, sqt_mono fh h1, sqt_mono fh h3, by rw [line_eq, h2.len, h4.len]; exact of_decide_eq_true e3, fun e => ?_, fun _ e => ?_, fun _ _ p hp => ?_⟩
  · subst e
    have : i = [] := by cases i with
      | nil => rfl
      | cons _ _ => obtain ⟨_, _, e, _⟩ := h2; cases e
    subst this
    exact q _ F H (Stq.refl fh) ⟨b, ys, rfl, h3, h4⟩
  · subst e
    have : j = [] := by cases j with
      | nil => rfl
      | cons _ _ => obtain ⟨_, _, e, _⟩ := h4; cases e
    subst this
    exact q _ F H (Stq.refl fh) ⟨a, xs, rfl, h1, by rw [List.append_nil]; exact h2⟩
  · have hf := Sub.up (o := .tup (xs ++ ys)) (fh.free hp)
    exact q _ _ _ (Stq.data fh hp) ⟨p, _, rfl, sqt_of upd_same, (DvA.mono hf h2).app (DvA.mono hf h4)⟩
theorem add_str : OpR X (binaryOp .Add) (rOp X.K (gS (fun a b => decide (a.length + b.length ≤ 16777216)) fun a b => .str (a ++ b))) := opr_of op_add_str fun F d e x y z H Q fh hd he hz q => by
  obtain ⟨i, j, e1, e2, e3, e4⟩ := gS_some hz
  subst e1 e2 e4
  exact ⟨i, j, hd, he, by rw [line_eq]; exact of_decide_eq_true e3, q _ F H (Stq.refl fh) rfl⟩
theorem od_add : OpR X (binaryOp .Add) (rOp X.K pyAdd) :=
  opr_eq (opr_or (opr_I0 (g' := fun i j => .int (i + j)) op_add fun _ _ _ => rfl) (opr_or add_str (opr_or add_list add_tup))) fun d e => by
    cases d <;> cases e <;> simp [pyAdd, gI, gS, gL, gU, Option.orElse] <;> split <;> simp_all
theorem iadd_str : OpR X (inplaceOp .Add) (rOp X.K (gS (fun a b => decide (a.length + b.length ≤ 16777216)) fun a b => .str (a ++ b))) := opr_of iop_add_str fun F d e x y z H Q fh hd he hz q => by
  obtain ⟨i, j, e1, e2, e3, e4⟩ := gS_some hz
  subst e1 e2 e4
  exact ⟨i, j, hd, he, by rw [line_eq]; exact of_decide_eq_true e3, q _ F H (Stq.refl fh) rfl⟩
/-- += -/
def pyIAdd : D → D → Option D
  | .int i, .int j => some (.int (i + j))
  | .str a, .str b => if a.length + b.length ≤ 16777216 then some (.str (a ++ b)) else none
  | _, _ => none
theorem od_iadd : OpR X (inplaceOp .Add) (rOp X.K pyIAdd) :=
  opr_eq (opr_or (opr_I0 (g' := fun i j => .int (i + j)) iop_add fun _ _ _ => rfl) iadd_str) fun d e => by
    cases d <;> cases e <;> simp [pyIAdd, gI, gS, gL, gU, Option.orElse] <;> split <;> simp_all
theorem od_isub : OpR X (inplaceOp .Sub) (rOp X.K pySub) :=
  opr_eq (opr_I0 (g' := fun i j => .int (i - j)) iop_sub fun _ _ _ => rfl) fun d e => by cases d <;> cases e <;> rfl
theorem od_sub : OpR X (binaryOp .Sub) (rOp X.K pySub) :=
  opr_eq (opr_I0 (g' := fun i j => .int (i - j)) op_sub fun _ _ _ => rfl) fun d e => by cases d <;> cases e <;> rfl
def gLI (C : List D → Int → Bool) (g : List D → Int → D) : D → D → Option D
  | .list i, .int j => if C i j = true then some (g i j) else none
  | _, _ => none
theorem gLI_some {C : List D → Int → Bool} {g : List D → Int → D} {d e z : D} (h : gLI C g d e = some z) : ∃ i j, d = .list i ∧ e = .int j ∧ C i j = true ∧ z = g i j := by
  unfold gLI at h
  split at h
  · rename_i i j
    by_cases c : C i j = true
    · rw [if_pos c] at h; exact ⟨i, j, rfl, rfl, c, (Option.some.inj h).symm⟩
    · rw [if_neg c] at h; exact nomatch h
  · exact nomatch h
theorem mul_list : OpR X (binaryOp .Mult) (rOp X.K (gLI (fun a k => decide (-1000 ≤ k ∧ k ≤ 1000000 ∧ a.length * k.toNat ≤ 16777216)) fun a k => .list (List.replicate k.toNat a).flatten)) := opr_of op_rep fun F d e x y z H Q fh hd he hz q => by
  obtain ⟨i, j, e1, e2, e3, e4⟩ := gLI_some hz
  subst e1 e2 e4
  obtain ⟨a, xs, rfl, h1, h2⟩ := hd
  obtain ⟨k1, k2, k3⟩ := of_decide_eq_true e3
  refine ⟨a, j, xs, rfl, he, fh _ _ h1, by omega, by omega, by rw [line_eq, h2.len]; exact k3, fun p hp => ?_⟩
  have hf := Sub.up (o := .lst (List.replicate j.toNat xs).flatten) (fh.free hp)
  exact q _ _ _ (Stq.data fh hp) ⟨p, _, rfl, upd_same, (DvA.mono hf h2).rep _⟩
def gSI (C : Str → Int → Bool) (g : Str → Int → D) : D → D → Option D
  | .str i, .int j => if C i j = true then some (g i j) else none
  | _, _ => none
theorem gSI_some {C : Str → Int → Bool} {g : Str → Int → D} {d e z : D} (h : gSI C g d e = some z) : ∃ i j, d = .str i ∧ e = .int j ∧ C i j = true ∧ z = g i j := by
  unfold gSI at h
  split at h
  · rename_i i j
    by_cases c : C i j = true
    · rw [if_pos c] at h; exact ⟨i, j, rfl, rfl, c, (Option.some.inj h).symm⟩
    · rw [if_neg c] at h; exact nomatch h
  · exact nomatch h
theorem foldl_rep' (l : List Nat) : ∀ (k : Nat) (acc : Array Nat), ((List.replicate k l.toArray).foldl (· ++ ·) acc).toList = acc.toList ++ (List.replicate k l).flatten
  | 0, acc => by simp
  | k + 1, acc => by
    rw [List.replicate_succ, List.foldl_cons, foldl_rep' l k, List.replicate_succ, List.flatten_cons, Array.toList_append, List.append_assoc]
theorem rep_small {k : Int} (h : 2 ≤ k) (h1 : k ≤ 1000000) : (decide (k < -(2 ^ 63 : Int)) || decide (k ≥ 2 ^ 63)) = false := by
  rw [decide_eq_false (by omega), decide_eq_false (by omega)]; rfl
theorem mul_str' : OpR X (binaryOp .Mult) (rOp X.K (gSI (fun a k => decide (2 ≤ k ∧ k ≤ 1000000 ∧ 0 < a.length ∧ a.length * k.toNat ≤ 16777216)) fun a k => .str (repS a k.toNat))) := by
  intro pins s σ H x y v u Q I rx ry ⟨F, d, e, z, fh, hd, he, hz, q⟩
  obtain ⟨i, j, e1, e2, e3, e4⟩ := gSI_some hz
  subst e1 e2 e4
  obtain ⟨k1, k2, k3, k4⟩ := of_decide_eq_true e3
  have hd' : x = .str i := hd
  have he' : y = .int j := he
  subst hd' he'
  obtain ⟨t, rfl⟩ := rx
  obtain ⟨t', rfl⟩ := ry
  have n1 : ¬ j < 1 := by omega
  have n2 : (j == 1 || i.length == 0) = false := by
    have a1 : (j == 1) = false := beq_eq_false_iff_ne.mpr (by omega)
    have a2 : (i.length == 0) = false := beq_eq_false_iff_ne.mpr (by omega)
    rw [a1, a2]; rfl
  have ej : j = (j.toNat : Int) := by omega
  refine PySem.P.mul_str (rep_small k1 k2) (fun _ _ => ?_) (fun _ _ => ?_) ?_
  · have hi : (i.length : Int) ≤ 16777216 := by
      have : i.length * 1 ≤ i.length * j.toNat := Nat.mul_le_mul_left _ (by omega)
      omega
    have : (2 ^ 63 - 1 : Int) / j ≥ (2 ^ 63 - 1 : Int) / 1000000 := by
      apply Int.le_ediv_of_mul_le (by omega)
      have h0 : (2 ^ 63 - 1 : Int) / 1000000 * j ≤ (2 ^ 63 - 1 : Int) / 1000000 * 1000000 := Int.mul_le_mul_of_nonneg_left k2 (by decide)
      have h1 : (2 ^ 63 - 1 : Int) / 1000000 * 1000000 ≤ 2 ^ 63 - 1 := by decide
      omega
    have h3 : (2 ^ 63 - 1 : Int) / 1000000 = 9223372036854 := by decide
    omega
  · show decide (i.length * j.toNat > sizeLine) = false
    rw [line_eq]
    exact decide_eq_false (by omega)
  · rw [if_neg n1, if_neg (by rw [n2]; decide)]
    have e5 : (⟨(List.replicate j.toNat i.cps).foldl (· ++ ·) #[]⟩ : Str) = repS i j.toNat := by
      apply TL.ext_tl
      show ((List.replicate j.toNat i.cps).foldl (· ++ ·) #[]).toList = (repS i j.toNat).cps.toList
      have := foldl_rep' i.cps.toList j.toNat #[]
      rw [Array.toArray_toList] at this
      rw [this]
      simp [repS]
    rw [e5]
    refine ⟨?_, .str (repS i j.toNat), H, I.tok _, ⟨_, rfl⟩, q _ F H (Stq.refl fh) rfl⟩
    show (repS i j.toNat).length ≤ sizeLine
    rw [line_eq]
    have : (repS i j.toNat).length = j.toNat * i.length := by simp [repS, Str.length, List.length_flatten]
    rw [this, Nat.mul_comm]
    exact k4
theorem op_mulWM : OpR X (binaryOp .Mult) (rI (fun i j => okMul i j = true) fun i j => .int (i * j)) := opI fun _ _ _ _ _ _ _ hc q => mul_int q (by
  simp only [okMul, Bool.or_eq_true, decide_eq_true_eq] at hc
  rcases hc with h | h | h
  · exact CMulW.ok h
  · exact CMul.ok (Or.inl ⟨by omega, by omega⟩)
  · exact CMul.ok (Or.inr ⟨by omega, by omega⟩))
theorem od_mul : OpR X (binaryOp .Mult) (rOp X.K pyMul) :=
  opr_eq (opr_or (opr_I (c := okMul) (g' := fun i j => .int (i * j)) op_mulWM (fun i j h => h) fun _ _ _ => rfl) (opr_or mul_str' mul_list)) fun d e => by
    cases d <;> cases e <;> simp [pyMul, gI, gLI, gSI, Option.orElse] <;> split <;> simp_all
theorem od_mod : OpR X (binaryOp .Mod) (rOp X.K pyMod) :=
  opr_eq (opr_I (c := fun _ j => decide (j ≠ 0)) (g' := fun i j => .int (i.fmod j)) op_modN (fun i j h => by have h' := of_decide_eq_true h; exact h') fun _ _ _ => rfl) fun d e => by
    cases d <;> cases e <;> simp [pyMod, gI]
theorem od_div : OpR X (binaryOp .FloorDiv) (rOp X.K pyDiv) :=
  opr_eq (opr_I (c := fun _ j => decide (j ≠ 0 ∧ j.natAbs < 1073741824)) (g' := fun i j => .int (i.fdiv j)) op_fdivN (fun i j h => by have h' := of_decide_eq_true h; exact h') fun _ _ _ => rfl) fun d e => by
    cases d <;> cases e <;> simp [pyDiv, gI]
theorem od_pow : OpR X (binaryOp .Pow) (rOp X.K pyPow) :=
  opr_eq (opr_I (c := fun i j => decide (0 ≤ j ∧ j ≤ 1000000 ∧ i.natAbs < 18446744073709551616)) (g' := fun i j => .int (i ^ j.toNat)) op_pow (fun i j h => by have h' := of_decide_eq_true h; exact h') fun _ _ _ => rfl) fun d e => by
    cases d <;> cases e <;> simp [pyPow, gI]
theorem ud_neg : UnR X (unaryOp .USub) (rUn X.K pyNeg) := by
  intro pins s σ H x v Q I rx ⟨F, d, z, fh, hd, hz, q⟩
  cases d <;> first | cases hz | skip
  rename_i i
  exact un_neg pins s σ H x v Q I rx ⟨i, hd, q _ F H (Stq.refl fh) rfl⟩
end
end Pd
namespace Pd
open PySem PySem.Spec PyProof.Rows L2

/-! ### comparisons -/
def okEq (d e : D) : Bool := SeqAt.shaped d && SeqAt.shaped e
/-- flat things are told by themselves, all else where it is data of bounded depth -/
def pyEqB : D → D → Option Bool
  | .int i, .int j => some (i == j)
  | .str a, .str b => some (a == b)
  | .bool a, .bool b => some (a == b)
  | .none, .none => some true
  | d, e => if okEq d e = true then some (PyData.eqv d e) else none
def pyEq (d e : D) : Option D := (pyEqB d e).map .bool
def pyNe (d e : D) : Option D := (pyEqB d e).map fun b => .bool (!b)
section
variable {X : Cx}
theorem dva_v {K : PySem.W.Frag} {F H : Hp} {d : D} {v : V} (s : Sub F H) (h : Dv K F d v) : Dp K H v d := Dv.dp (Dv.mono s h)
theorem od_eq (hu : X.A.units + 64 < cLine) : OpR X (compareOp .Eq) (rOp X.K pyEq) := by
  intro pins s σ H x y v u Q I rx ry ⟨F, d, e, z, fh, hd, he, hz, q⟩
  have deep : ∀ b, okEq d e = true → PyData.eqv d e = b → z = .bool b → wpAny (model X.prog X.w) X.A (compareOp .Eq v u) (EP X pins σ Q) X.xe s := fun b hs hb hz => by
    obtain ⟨s1, s2⟩ := Bool.and_eq_true_iff.mp hs
    subst hz
    refine op_eqD hu pins s σ H x y v u Q I rx ry ⟨d, e, dva_v fh hd, dva_v fh he, s1, s2, ?_⟩
    rw [hb]
    exact q _ F H (Stq.refl fh) rfl
  have flat : ∀ b, scal x y = true → decide (x = y) = b → z = .bool b → wpAny (model X.prog X.w) X.A (compareOp .Eq v u) (EP X pins σ Q) X.xe s := fun b hs hb hz => by
    subst hz
    refine op_eq pins s σ H x y v u Q I rx ry ⟨hs, ?_⟩
    rw [hb]
    exact q _ F H (Stq.refl fh) rfl
  have other : (if okEq d e = true then some (PyData.eqv d e) else none).map PyData.bool = some z → wpAny (model X.prog X.w) X.A (compareOp .Eq v u) (EP X pins σ Q) X.xe s := fun h => by
    by_cases hs : okEq d e = true
    · rw [if_pos hs] at h
      exact deep _ hs rfl (Option.some.inj h).symm
    · rw [if_neg hs] at h; exact nomatch h
  cases d <;> cases e <;> first
    | exact other hz
    | (refine flat _ ?_ ?_ (Option.some.inj hz).symm
       · rw [show x = _ from hd, show y = _ from he]; rfl
       · rw [show x = _ from hd, show y = _ from he]; first | exact dec_int | exact dec_str | exact dec_bl | exact decide_eq_true rfl)
theorem od_ne (hu : X.A.units + 64 < cLine) : OpR X (compareOp .NotEq) (rOp X.K pyNe) := by
  intro pins s σ H x y v u Q I rx ry ⟨F, d, e, z, fh, hd, he, hz, q⟩
  have deep : ∀ b, okEq d e = true → PyData.eqv d e = b → z = .bool (!b) → wpAny (model X.prog X.w) X.A (compareOp .NotEq v u) (EP X pins σ Q) X.xe s := fun b hs hb hz => by
    obtain ⟨s1, s2⟩ := Bool.and_eq_true_iff.mp hs
    subst hz
    refine op_neD hu pins s σ H x y v u Q I rx ry ⟨d, e, dva_v fh hd, dva_v fh he, s1, s2, ?_⟩
    rw [hb]
    exact q _ F H (Stq.refl fh) rfl
  have flat : ∀ b, scal x y = true → decide (x = y) = b → z = .bool (!b) → wpAny (model X.prog X.w) X.A (compareOp .NotEq v u) (EP X pins σ Q) X.xe s := fun b hs hb hz => by
    subst hz
    refine op_ne pins s σ H x y v u Q I rx ry ⟨hs, ?_⟩
    rw [hb]
    exact q _ F H (Stq.refl fh) rfl
  have other : (if okEq d e = true then some (PyData.eqv d e) else none).map (fun b => PyData.bool (!b)) = some z → wpAny (model X.prog X.w) X.A (compareOp .NotEq v u) (EP X pins σ Q) X.xe s := fun h => by
    by_cases hs : okEq d e = true
    · rw [if_pos hs] at h
      exact deep _ hs rfl (Option.some.inj h).symm
    · rw [if_neg hs] at h; exact nomatch h
  cases d <;> cases e <;> first
    | exact other hz
    | (refine flat _ ?_ ?_ (Option.some.inj hz).symm
       · rw [show x = _ from hd, show y = _ from he]; rfl
       · rw [show x = _ from hd, show y = _ from he]; first | exact dec_int | exact dec_str | exact dec_bl | exact decide_eq_true rfl)
/-- order of ints, of texts -/
def pyLt : D → D → Option D
  | .int i, .int j => some (.bool (decide (i < j)))
  | .str a, .str b => some (.bool (decide (a.cps.toList < b.cps.toList)))
  | _, _ => none
def pyLe : D → D → Option D
  | .int i, .int j => some (.bool (decide (i ≤ j)))
  | .str a, .str b => some (.bool (!decide (b.cps.toList < a.cps.toList)))
  | _, _ => none
def pyGt : D → D → Option D
  | .int i, .int j => some (.bool (decide (j < i)))
  | _, _ => none
def pyGe : D → D → Option D
  | .int i, .int j => some (.bool (decide (j ≤ i)))
  | _, _ => none
theorem lt_str : OpR X (compareOp .Lt) (rOp X.K (gS (fun _ _ => true) fun a b => .bool (decide (a.cps.toList < b.cps.toList)))) := opr_of op_lt_str fun F d e x y z H Q fh hd he hz q => by
  obtain ⟨i, j, e1, e2, e3, e4⟩ := gS_some hz
  subst e1 e2 e4
  exact ⟨i, j, hd, he, q _ F H (Stq.refl fh) rfl⟩
theorem od_lt : OpR X (compareOp .Lt) (rOp X.K pyLt) := opr_eq (opr_or (opr_I0 (g' := fun i j => .bool (decide (i < j))) op_lt fun _ _ _ => rfl) lt_str) fun d e => by
  cases d <;> cases e <;> simp [pyLt, gI, gS, Option.orElse]
theorem od_gt : OpR X (compareOp .Gt) (rOp X.K pyGt) := opr_eq (opr_I0 (g' := fun i j => .bool (decide (j < i))) op_gt fun _ _ _ => rfl) fun d e => by
  cases d <;> cases e <;> simp [pyGt, gI]
theorem od_ge : OpR X (compareOp .GtE) (rOp X.K pyGe) := opr_eq (opr_I0 (g' := fun i j => .bool (decide (j ≤ i))) op_ge fun _ _ _ => rfl) fun d e => by
  cases d <;> cases e <;> simp [pyGe, gI]
theorem le_str : OpR X (compareOp .LtE) (rOp X.K (gS (fun _ _ => true) fun a b => .bool (!decide (b.cps.toList < a.cps.toList)))) := opr_of op_le_str fun F d e x y z H Q fh hd he hz q => by
  obtain ⟨i, j, e1, e2, e3, e4⟩ := gS_some hz
  subst e1 e2 e4
  exact ⟨i, j, hd, he, q _ F H (Stq.refl fh) rfl⟩
theorem od_le : OpR X (compareOp .LtE) (rOp X.K pyLe) := opr_eq (opr_or (opr_I0 (g' := fun i j => .bool (decide (i ≤ j))) op_le fun _ _ _ => rfl) le_str) fun d e => by
  cases d <;> cases e <;> simp [pyLe, gI, gS, Option.orElse]
/-- one sign in a text -/
def sgn (a : Str) : Option Nat := match a.cps.toList with
  | [c] => some c
  | _ => none
def pyInS : D → D → Option D
  | .str a, .str b => (sgn a).map fun c => .bool (decide (c ∈ b.cps.toList))
  | _, _ => none
def pyNotInS : D → D → Option D
  | .str a, .str b => (sgn a).map fun c => .bool (!decide (c ∈ b.cps.toList))
  | _, _ => none
theorem sgn_some {a : Str} {c : Nat} (h : sgn a = some c) : a = ⟨#[c]⟩ := by
  unfold sgn at h
  split at h
  · rename_i c' e
    have e2 : c' = c := Option.some.inj h
    subst e2
    exact TL.ext_tl e
  · exact nomatch h
theorem od_inS : OpR X (compareOp .In) (rOp X.K pyInS) := opr_of op_inS fun F d e x y z H Q fh hd he hz q => by
  obtain ⟨a, b, rfl, rfl⟩ : ∃ a b, d = .str a ∧ e = .str b := by
    cases d <;> cases e <;> first | exact ⟨_, _, rfl, rfl⟩ | (exfalso; revert hz; intro hz; cases hz)
  have hz' : (sgn a).map (fun c => PyData.bool (decide (c ∈ b.cps.toList))) = some z := hz
  cases e1 : sgn a with
  | none => rw [e1] at hz'; exact nomatch hz'
  | some c =>
    rw [e1] at hz'
    have e2 := sgn_some e1
    refine ⟨c, b, by rw [show x = .str a from hd, e2], he, ?_⟩
    exact q _ F H (Stq.refl fh) (by rw [← Option.some.inj hz']; rfl)
theorem od_notInS : OpR X (compareOp .NotIn) (rOp X.K pyNotInS) := opr_of op_notInS fun F d e x y z H Q fh hd he hz q => by
  obtain ⟨a, b, rfl, rfl⟩ : ∃ a b, d = .str a ∧ e = .str b := by
    cases d <;> cases e <;> first | exact ⟨_, _, rfl, rfl⟩ | (exfalso; revert hz; intro hz; cases hz)
  have hz' : (sgn a).map (fun c => PyData.bool (!decide (c ∈ b.cps.toList))) = some z := hz
  cases e1 : sgn a with
  | none => rw [e1] at hz'; exact nomatch hz'
  | some c =>
    rw [e1] at hz'
    have e2 := sgn_some e1
    refine ⟨c, b, by rw [show x = .str a from hd, e2], he, ?_⟩
    exact q _ F H (Stq.refl fh) (by rw [← Option.some.inj hz']; rfl)
/-- is None -/
def isNn : D → Bool
  | .none => true
  | _ => false
def pyIsN (d e : D) : Option D := if isNn e = true then some (.bool (isNn d)) else none
def pyNotN (d e : D) : Option D := if isNn e = true then some (.bool (!isNn d)) else none
theorem isNn_v {K : PySem.W.Frag} {F : Hp} {d : D} {v : V} (h : Dv K F d v) : decide (v = .non) = isNn d := by
  cases d with
  | none => rw [show v = .non from h]; rfl
  | bool _ => rw [show v = .bl _ from h]; rfl
  | int _ => rw [show v = .int _ from h]; rfl
  | str _ => rw [show v = .str _ from h]; rfl
  | list _ => obtain ⟨a, xs, e, _⟩ := h; rw [e]; rfl
  | tuple _ => obtain ⟨a, xs, e, _⟩ := h; rw [e]; rfl
  | dict _ => exact h.elim
theorem isNn_some {e : D} (h : isNn e = true) : e = .none := by cases e <;> first | rfl | cases h
theorem od_isN : OpR X (compareOp .Is) (rOp X.K pyIsN) := opr_of op_isN1 fun F d e x y z H Q fh hd he hz q => by
  unfold pyIsN at hz
  by_cases h : isNn e = true
  · rw [if_pos h] at hz
    have e1 := isNn_some h
    subst e1
    refine ⟨he, q _ F H (Stq.refl fh) ?_⟩
    rw [← Option.some.inj hz, isNn_v hd]; rfl
  · rw [if_neg h] at hz; exact nomatch hz
theorem od_notN : OpR X (compareOp .IsNot) (rOp X.K pyNotN) := opr_of op_notN1 fun F d e x y z H Q fh hd he hz q => by
  unfold pyNotN at hz
  by_cases h : isNn e = true
  · rw [if_pos h] at hz
    have e1 := isNn_some h
    subst e1
    refine ⟨he, q _ F H (Stq.refl fh) ?_⟩
    rw [← Option.some.inj hz, isNn_v hd]; rfl
  · rw [if_neg h] at hz; exact nomatch hz

/-! ### subscripts and slices -/
def pyIx : D → D → Option D
  | .list ds, .int i => atI ds i
  | .tuple ds, .int i => atI ds i
  | .str z, .int i => if z.length ≤ 16777216 then (atI z.cps.toList i).map fun c => .str ⟨#[c]⟩ else none
  | _, _ => none
theorem atI_dva {K : PySem.W.Frag} {F : Hp} {ds : List D} {vs : List V} {i : Int} {z : D} (h : DvA K F ds vs) (e : atI ds i = some z) : ∃ v, atI vs i = some v ∧ Dv K F z v := by
  unfold atI at e ⊢
  rw [h.len]
  cases e1 : ixN ds.length i with
  | none => rw [e1] at e; exact nomatch e
  | some j =>
    rw [e1] at e
    obtain ⟨v, e2, e3⟩ := h.at (i := j) e
    exact ⟨v, e2, e3⟩
theorem xd_ix : IxR X (rOp X.K pyIx) := by
  intro value slice pins s σ H x y v u Q I rx ry ⟨F, d, e, z, fh, hd, he, hz, q⟩ hs
  refine ix_seq value slice pins s σ H x y v u Q I rx ry ?_ hs
  obtain ⟨i, rfl⟩ : ∃ i, e = .int i := by
    cases e <;> first | exact ⟨_, rfl⟩ | (exfalso; cases d <;> cases hz)
  cases d with
  | list ds =>
    obtain ⟨a, xs, rfl, h1, h2⟩ := hd
    obtain ⟨w, e1, e2⟩ := atI_dva h2 hz
    exact .inl ⟨a, xs, i, w, rfl, he, SqL.of (fh _ _ h1), e1, q _ F H (Stq.refl fh) e2⟩
  | tuple ds =>
    obtain ⟨a, xs, rfl, h1, h2⟩ := hd
    obtain ⟨w, e1, e2⟩ := atI_dva h2 hz
    exact .inr (.inl ⟨a, xs, i, w, rfl, he, sqt_mono fh h1, e1, q _ F H (Stq.refl fh) e2⟩)
  | str t =>
    have hz' : (if t.length ≤ 16777216 then (atI t.cps.toList i).map (fun c => PyData.str ⟨#[c]⟩) else none) = some z := hz
    by_cases hl : t.length ≤ 16777216
    · rw [if_pos hl] at hz'
      cases e1 : atI t.cps.toList i with
      | none => rw [e1] at hz'; exact nomatch hz'
      | some c =>
        rw [e1] at hz'
        exact .inr (.inr ⟨t, i, c, hd, he, by rw [line_eq]; exact hl, e1, q _ F H (Stq.refl fh) (by rw [← Option.some.inj hz']; rfl)⟩)
    · rw [if_neg hl] at hz'; exact nomatch hz'
  | _ => exact nomatch hz
def cutD (xs : List D) (lo hi : Option Int) : List D := (xs.drop (HT.sIx xs.length 0 lo)).take (HT.sIx xs.length xs.length hi - HT.sIx xs.length 0 lo)
theorem cut_dva {K : PySem.W.Frag} {F : Hp} {ds : List D} {vs : List V} {lo hi : Option Int} (h : DvA K F ds vs) : DvA K F (cutD ds lo hi) (cutV vs lo hi) := by
  unfold cutD cutV
  rw [h.len]
  exact (h.drop _).take _
def pySl (d : D) (lo hi : Option Int) : Option D := match d with
  | .str z => if z.length ≤ 16777216 then some (.str (Txt.slice z lo hi)) else none
  | .list ds => some (.list (cutD ds lo hi))
  | .tuple ds => some (.tuple (cutD ds lo hi))
  | _ => none
theorem xd_sl : SlR X (rSl X.K pySl) := by
  intro pins s σ H x v vl vu lo hi sl Q I rx hs pl pu ⟨F, d, z, fh, hd, hz, q⟩
  cases d with
  | str t =>
    have hz' : (if t.length ≤ 16777216 then some (PyData.str (Txt.slice t lo hi)) else none) = some z := hz
    by_cases hl : t.length ≤ 16777216
    · rw [if_pos hl] at hz'
      exact C8.sl_txt pins s σ H x v vl vu lo hi sl Q I rx hs pl pu ⟨t, hd, by rw [line_eq]; exact hl, q _ F H (Stq.refl fh) (by rw [← Option.some.inj hz']; rfl)⟩
    · rw [if_neg hl] at hz'; exact nomatch hz'
  | list ds =>
    obtain ⟨a, xs, rfl, h1, h2⟩ := hd
    refine sl_list pins s σ H _ v vl vu lo hi sl Q I rx hs pl pu ⟨a, xs, rfl, SqL.of (fh _ _ h1), fun p hp => ?_⟩
    rw [← Option.some.inj hz] at q
    exact q _ _ _ (Stq.data fh hp) ⟨p, _, rfl, upd_same, DvA.mono (Sub.up (fh.free hp)) (cut_dva h2)⟩
  | tuple ds =>
    obtain ⟨a, xs, rfl, h1, h2⟩ := hd
    rw [← Option.some.inj hz] at q
    refine sl_tupA pins s σ H _ v vl vu lo hi sl Q I rx hs pl pu ⟨a, xs, rfl, sqt_mono fh h1, fun e => ?_, fun _ p hp => ?_⟩
    · refine q _ F H (Stq.refl fh) ⟨a, xs, rfl, h1, ?_⟩
      have e' : cutD ds lo hi = ds := by
        unfold cutD
        rw [h2.len] at e
        rw [e.1, e.2, List.drop_zero, Nat.sub_zero, List.take_length]
      rw [e']; exact h2
    · exact q _ _ _ (Stq.data fh hp) ⟨p, _, rfl, sqt_of upd_same, DvA.mono (Sub.up (fh.free hp)) (cut_dva h2)⟩
  | _ => exact nomatch hz
end
end Pd
namespace Pd
open PySem PySem.Spec PyProof.Rows L2

/-! ### built-ins of one argument -/
def on1 (g : D → Option D) (ds : List D) : Option D := match ds with
  | [d] => g d
  | _ => none
theorem on1_some {g : D → Option D} {ds : List D} {z : D} (h : on1 g ds = some z) : ∃ d, ds = [d] ∧ g d = some z := by
  unfold on1 at h
  split at h
  · exact ⟨_, rfl, h⟩
  · exact nomatch h
theorem clr_of {X : Cx} {f : Value} {g : D → Option D} (h : ∀ (pins : List (Addr × Obj)) (s : Shared) (σ : L2.St) (H : Hp) (us : List Value) (Q : VK) F d v z, L2.Inv X pins σ H s → Vals [v] us → Sub F H → Dv X.K F d v → g d = some z →
    (∀ v F' H', Stq F H F' H' → Dv X.K F' z v → Q v H') → wpAny (model X.prog X.w) X.A (call f us) (EP X pins σ Q) X.xe s) : CallR X f (rCl X.K (on1 g)) := by
  intro pins s σ H xs us Q I r ⟨F, ds, z, fh, hd, hz, q⟩
  obtain ⟨d, e1, e2⟩ := on1_some hz
  subst e1
  obtain ⟨v, r1, e3, h1, h2⟩ := hd
  have h2' : r1 = [] := h2
  subst e3 h2'
  exact h pins s σ H us Q F d v z I r fh h1 e2 q
def pyAbs : D → Option D
  | .int i => some (.int (if i < 0 then -i else i))
  | _ => none
def pyLen : D → Option D
  | .str z => if z.length ≤ 16777216 then some (.int z.length) else none
  | .list xs => some (.int xs.length)
  | .tuple xs => some (.int xs.length)
  | _ => none
def pyInt : D → Option D
  | .int i => some (.int i)
  | .bool b => some (.int (if b then 1 else 0))
  | .str s => if s.length ≤ 640 then (PySem.intText? s).map .int else none
  | _ => none
def okStr (i : Int) : Bool := decide (i.natAbs.log2 < 1920)
def pyStr : D → Option D
  | .int i => if okStr i = true then some (.str (toString i : String)) else none
  | .str s => some (.str s)
  | _ => none
def pyOrd : D → Option D
  | .str s => (sgn s).map fun c => .int c
  | _ => none
def pyChr : D → Option D
  | .int i => if 0 ≤ i ∧ i ≤ 1114111 then some (.str ⟨#[i.toNat]⟩) else none
  | _ => none
def ints? : List D → Option (List Int)
  | [] => some []
  | .int i :: r => (ints? r).map (i :: ·)
  | _ => none
def bools? : List D → Option (List Bool)
  | [] => some []
  | .bool i :: r => (bools? r).map (i :: ·)
  | _ => none
def strs? : List D → Option (List Str)
  | [] => some []
  | .str i :: r => (strs? r).map (i :: ·)
  | _ => none
theorem ints?_some : ∀ {ds : List D} {ns : List Int}, ints? ds = some ns → ds = ns.map .int
  | [], _, h => by cases h; rfl
  | d :: r, ns, h => by
    cases d with
    | int i =>
      have h' : (ints? r).map (i :: ·) = some ns := h
      cases e : ints? r with
      | none => rw [e] at h'; exact nomatch h'
      | some ms =>
        rw [e] at h'
        have e2 : i :: ms = ns := Option.some.inj h'
        rw [← e2, List.map_cons, ints?_some e]
    | _ => exact nomatch h
theorem bools?_some : ∀ {ds : List D} {ns : List Bool}, bools? ds = some ns → ds = ns.map .bool
  | [], _, h => by cases h; rfl
  | d :: r, ns, h => by
    cases d with
    | bool i =>
      have h' : (bools? r).map (i :: ·) = some ns := h
      cases e : bools? r with
      | none => rw [e] at h'; exact nomatch h'
      | some ms =>
        rw [e] at h'
        have e2 : i :: ms = ns := Option.some.inj h'
        rw [← e2, List.map_cons, bools?_some e]
    | _ => exact nomatch h
theorem strs?_some : ∀ {ds : List D} {ns : List Str}, strs? ds = some ns → ds = ns.map .str
  | [], _, h => by cases h; rfl
  | d :: r, ns, h => by
    cases d with
    | str i =>
      have h' : (strs? r).map (i :: ·) = some ns := h
      cases e : strs? r with
      | none => rw [e] at h'; exact nomatch h'
      | some ms =>
        rw [e] at h'
        have e2 : i :: ms = ns := Option.some.inj h'
        rw [← e2, List.map_cons, strs?_some e]
    | _ => exact nomatch h
theorem ints?_map (ns : List Int) : ints? (ns.map .int) = some ns := by
  induction ns with
  | nil => rfl
  | cons n ns ih => rw [List.map_cons]; show (ints? (ns.map .int)).map (n :: ·) = _; rw [ih]; rfl
theorem bools?_map (ns : List Bool) : bools? (ns.map .bool) = some ns := by
  induction ns with
  | nil => rfl
  | cons n ns ih => rw [List.map_cons]; show (bools? (ns.map .bool)).map (n :: ·) = _; rw [ih]; rfl
theorem strs?_map (ns : List Str) : strs? (ns.map .str) = some ns := by
  induction ns with
  | nil => rfl
  | cons n ns ih => rw [List.map_cons]; show (strs? (ns.map .str)).map (n :: ·) = _; rw [ih]; rfl
def seqOf : D → Option (List D)
  | .list xs => some xs
  | .tuple xs => some xs
  | _ => none
def pySum (d : D) : Option D := (seqOf d).bind fun xs => (ints? xs).map fun ns => .int ns.sum
def listOf : D → Option (List D)
  | .list xs => some xs
  | _ => none
def pySumL (d : D) : Option D := (listOf d).bind fun xs => (ints? xs).map fun ns => .int ns.sum
def pyAll (d : D) : Option D := (listOf d).bind fun xs => (bools? xs).map fun ns => .bool (ns.all id)
def pyAny (d : D) : Option D := (listOf d).bind fun xs => (bools? xs).map fun ns => .bool (ns.any id)
def pyTup (d : D) : Option D := (seqOf d).map .tuple
theorem DvA.bools {K : PySem.W.Frag} {F : Hp} : ∀ {ns : List Bool} {vs : List V}, DvA K F (ns.map PyData.bool) vs → vs = ns.map V.bl
  | [], _, h => h
  | n :: ns, vs, ⟨v, r, e, h1, h2⟩ => by
    have h1' : v = .bl n := h1
    subst e h1'
    rw [DvA.bools h2]; rfl
section
variable {X : Cx}
theorem cd_abs : CallR X (.builtin "abs") (rCl X.K (on1 pyAbs)) := clr_of fun pins s σ H us Q F d v z I r fh hd hz q => by
  cases d with
  | int i => exact call_abs pins s σ H _ us Q I r ⟨i, by rw [show v = .int i from hd], q _ F H (Stq.refl fh) (by rw [← Option.some.inj hz]; rfl)⟩
  | _ => cases hz
theorem cd_len : CallR X (.builtin "len") (rCl X.K (on1 pyLen)) := clr_of fun pins s σ H us Q F d v z I r fh hd hz q => by
  cases d with
  | str t =>
    have hz' : (if t.length ≤ 16777216 then some (PyData.int t.length) else none) = some z := hz
    by_cases hl : t.length ≤ 16777216
    · rw [if_pos hl] at hz'
      refine call_len pins s σ H _ us Q I r ⟨v, t.length, rfl, ?_, q _ F H (Stq.refl fh) (by rw [← Option.some.inj hz']; rfl)⟩
      rw [show v = .str t from hd]
      exact ⟨by rw [line_eq]; exact hl, rfl⟩
    · rw [if_neg hl] at hz'; exact nomatch hz'
  | list xs =>
    obtain ⟨a, vs, e, h1, h2⟩ := hd
    exact call_len pins s σ H _ us Q I r ⟨v, xs.length, rfl, by rw [e]; exact .inl ⟨vs, SqL.of (fh _ _ h1), h2.len.symm⟩, q _ F H (Stq.refl fh) (by rw [← Option.some.inj hz]; rfl)⟩
  | tuple xs =>
    obtain ⟨a, vs, e, h1, h2⟩ := hd
    exact call_len pins s σ H _ us Q I r ⟨v, xs.length, rfl, by rw [e]; exact .inr ⟨vs, sqt_mono fh h1, h2.len.symm⟩, q _ F H (Stq.refl fh) (by rw [← Option.some.inj hz]; rfl)⟩
  | _ => cases hz
theorem cd_int : CallR X (.type "int") (rCl X.K (on1 pyInt)) := clr_of fun pins s σ H us Q F d v z I r fh hd hz q => by
  cases d with
  | int i => exact call_int1 pins s σ H _ us Q I r (.inl ⟨i, by rw [show v = .int i from hd], q _ F H (Stq.refl fh) (by rw [← Option.some.inj hz]; rfl)⟩)
  | bool b => exact call_int1 pins s σ H _ us Q I r (.inr ⟨b, by rw [show v = .bl b from hd], q _ F H (Stq.refl fh) (by rw [← Option.some.inj hz]; rfl)⟩)
  | str t =>
    have hz' : (if t.length ≤ 640 then (PySem.intText? t).map PyData.int else none) = some z := hz
    by_cases hl : t.length ≤ 640
    · rw [if_pos hl] at hz'
      cases e1 : PySem.intText? t with
      | none => rw [e1] at hz'; exact nomatch hz'
      | some n =>
        rw [e1] at hz'
        exact call_int_str pins s σ H _ us Q I r ⟨t, n, by rw [show v = .str t from hd], e1, hl, q _ F H (Stq.refl fh) (by rw [← Option.some.inj hz']; rfl)⟩
    · rw [if_neg hl] at hz'; exact nomatch hz'
  | _ => cases hz
theorem cd_str : CallR X (.type "str") (rCl X.K (on1 pyStr)) := clr_of fun pins s σ H us Q F d v z I r fh hd hz q => by
  cases d with
  | int i =>
    have hz' : (if okStr i = true then some (PyData.str (toString i : String)) else none) = some z := hz
    by_cases hl : okStr i = true
    · rw [if_pos hl] at hz'
      exact call_str_int pins s σ H _ us Q I r ⟨i, by rw [show v = .int i from hd], of_decide_eq_true hl, q _ F H (Stq.refl fh) (by rw [← Option.some.inj hz']; rfl)⟩
    · rw [if_neg hl] at hz'; exact nomatch hz'
  | str t => exact SkE.call_str_str pins s σ H _ us Q I r ⟨t, by rw [show v = .str t from hd], q _ F H (Stq.refl fh) (by rw [← Option.some.inj hz]; rfl)⟩
  | _ => cases hz
theorem cd_ord : CallR X (.builtin "ord") (rCl X.K (on1 pyOrd)) := clr_of fun pins s σ H us Q F d v z I r fh hd hz q => by
  cases d with
  | str t =>
    have hz' : (sgn t).map (fun c => PyData.int c) = some z := hz
    cases e1 : sgn t with
    | none => rw [e1] at hz'; exact nomatch hz'
    | some c =>
      rw [e1] at hz'
      have e2 := sgn_some e1
      subst e2
      exact call_ord pins s σ H _ us Q I r ⟨_, by rw [show v = .str ⟨#[c]⟩ from hd], rfl, q _ F H (Stq.refl fh) (by rw [← Option.some.inj hz']; rfl)⟩
  | _ => cases hz
theorem cd_chr : CallR X (.builtin "chr") (rCl X.K (on1 pyChr)) := clr_of fun pins s σ H us Q F d v z I r fh hd hz q => by
  cases d with
  | int i =>
    have hz' : (if 0 ≤ i ∧ i ≤ 1114111 then some (PyData.str ⟨#[i.toNat]⟩) else none) = some z := hz
    by_cases hl : 0 ≤ i ∧ i ≤ 1114111
    · rw [if_pos hl] at hz'
      exact call_chr pins s σ H _ us Q I r ⟨i, by rw [show v = .int i from hd], hl.1, hl.2, q _ F H (Stq.refl fh) (by rw [← Option.some.inj hz']; rfl)⟩
    · rw [if_neg hl] at hz'; exact nomatch hz'
  | _ => cases hz
theorem listOf_some {d : D} {xs : List D} (h : listOf d = some xs) : d = .list xs := by
  cases d <;> first | (cases h; rfl) | cases h
theorem bind_map {α β γ : Type} {o : Option α} {f : α → Option β} {g : β → γ} {z : γ} (h : o.bind (fun x => (f x).map g) = some z) : ∃ x y, o = some x ∧ f x = some y ∧ z = g y := by
  cases e : o with
  | none => rw [e] at h; exact nomatch h
  | some x =>
    rw [e] at h
    have h' : (f x).map g = some z := h
    cases e2 : f x with
    | none => rw [e2] at h'; exact nomatch h'
    | some y => rw [e2] at h'; exact ⟨x, y, rfl, e2, (Option.some.inj h').symm⟩
theorem cd_sum (hc : X.calm = true) : CallR X (.builtin "sum") (rCl X.K (on1 pySumL)) := clr_of fun pins s σ H us Q F d v z I r fh hd hz q => by
  obtain ⟨xs, ns, e1, e2, e3⟩ := bind_map hz
  have e4 := listOf_some e1
  subst e4
  obtain ⟨a, vs, e, h1, h2⟩ := hd
  have e5 := ints?_some e2
  subst e5
  have e6 := DvA.ints.mp h2
  subst e6
  exact cr_sum hc pins s σ H _ us Q I r ⟨a, ns, by rw [e], SqL.of (fh _ _ h1), q _ F H (Stq.refl fh) (by rw [e3]; rfl)⟩
theorem cd_all (hc : X.calm = true) : CallR X (.builtin "all") (rCl X.K (on1 pyAll)) := clr_of fun pins s σ H us Q F d v z I r fh hd hz q => by
  obtain ⟨xs, ns, e1, e2, e3⟩ := bind_map hz
  have e4 := listOf_some e1
  subst e4
  obtain ⟨a, vs, e, h1, h2⟩ := hd
  have e5 := bools?_some e2
  subst e5
  have e6 := DvA.bools h2
  subst e6
  exact cr_all hc pins s σ H _ us Q I r ⟨a, ns, by rw [e], SqL.of (fh _ _ h1), q _ F H (Stq.refl fh) (by rw [e3]; rfl)⟩
theorem cd_any (hc : X.calm = true) : CallR X (.builtin "any") (rCl X.K (on1 pyAny)) := clr_of fun pins s σ H us Q F d v z I r fh hd hz q => by
  obtain ⟨xs, ns, e1, e2, e3⟩ := bind_map hz
  have e4 := listOf_some e1
  subst e4
  obtain ⟨a, vs, e, h1, h2⟩ := hd
  have e5 := bools?_some e2
  subst e5
  have e6 := DvA.bools h2
  subst e6
  exact cr_any hc pins s σ H _ us Q I r ⟨a, ns, by rw [e], SqL.of (fh _ _ h1), q _ F H (Stq.refl fh) (by rw [e3]; rfl)⟩
theorem cd_tup : CallR X (.type "tuple") (rCl X.K (on1 pyTup)) := clr_of fun pins s σ H us Q F d v z I r fh hd hz q => by
  cases d with
  | list xs =>
    obtain ⟨a, vs, e, h1, h2⟩ := hd
    have ez : z = .tuple xs := (Option.some.inj hz).symm
    subst ez
    refine call_tuple_of pins s σ H _ us Q I r ⟨a, vs, by rw [e], .inl ⟨SqL.of (fh _ _ h1), fun l hl => ?_⟩⟩
    exact q _ _ _ (Stq.data fh hl) ⟨l, vs, rfl, sqt_of upd_same, DvA.mono (Sub.up (fh.free hl)) h2⟩
  | tuple xs =>
    obtain ⟨a, vs, e, h1, h2⟩ := hd
    have ez : z = .tuple xs := (Option.some.inj hz).symm
    subst ez
    exact call_tuple_of pins s σ H _ us Q I r ⟨a, vs, by rw [e], .inr ⟨sqt_mono fh h1, q _ F H (Stq.refl fh) ⟨a, vs, rfl, h1, h2⟩⟩⟩
  | _ => cases hz
/-- list(x) -/
def on1L (g : D → Option (List D)) (ds : List D) : Option (List D) := match ds with
  | [d] => g d
  | _ => none
def pyListS : D → Option (List D)
  | .str z => if z.length ≤ 16777216 then some (signsOf z) else none
  | .list xs => some xs
  | .tuple xs => some xs
  | _ => none
theorem signs_vals (z : Str) (acc : Array Value) (h : ItemsOf (SignAt z) acc z.cps.size) : Vals ((z.cps.toList.map fun c => V.str ⟨#[c]⟩)) acc.toList := by
  refine vals_of_at (by simp [h.1]) fun j x u hx hu => ?_
  obtain ⟨c, t, hc, e⟩ := h.2 j u (by simpa using hu)
  subst e
  rw [List.getElem?_map] at hx
  simp only [Array.getElem?_toList, hc] at hx
  have e2 : V.str ⟨#[c]⟩ = x := by simpa using hx
  subst e2
  exact ⟨t, rfl⟩
theorem cd_list (hc : X.calm = true) : CallR X (.type "list") (rClO X.K (on1L pyListS)) := by
  intro pins s σ H xs us Q I r ⟨F, ds, z, fh, hd, hz, q⟩
  unfold on1L at hz
  split at hz
  · rename_i d
    obtain ⟨v, r1, e3, h1, h2⟩ := hd
    have h2' : r1 = [] := h2
    subst e3 h2'
    cases d with
    | list ys =>
      obtain ⟨a, vs, e, k1, k2⟩ := h1
      have ez : z = ys := (Option.some.inj hz).symm
      subst ez
      refine call_list_of pins s σ H _ us Q I r ⟨a, vs, by rw [e], .inl (SqL.of (fh _ _ k1)), fun l hl => ?_⟩
      exact q l vs F _ (Stq.loose fh hl) hl (fh.free hl) upd_same k2
    | tuple ys =>
      obtain ⟨a, vs, e, k1, k2⟩ := h1
      have ez : z = ys := (Option.some.inj hz).symm
      subst ez
      refine call_list_of pins s σ H _ us Q I r ⟨a, vs, by rw [e], .inr (sqt_mono fh k1), fun l hl => ?_⟩
      exact q l vs F _ (Stq.loose fh hl) hl (fh.free hl) upd_same k2
    | str t =>
      have hz' : (if t.length ≤ 16777216 then some (signsOf t) else none) = some z := hz
      by_cases hl : t.length ≤ 16777216
      · rw [if_pos hl] at hz'
        have ez : z = signsOf t := (Option.some.inj hz').symm
        subst ez
        have h1' : v = .str t := h1
        subst h1'
        obtain ⟨u, rfl, tk, rfl⟩ := vals1 r
        refine call_list_str (I.ok.hd hc) t tk (hn := by rw [line_eq]; exact hl) fun h' tk' acc c hk hS hacc => ?_
        have hv := signs_vals t acc hacc
        have hf := I.hok.fresh (Nat.le_refl s.heap.objs.size)
        have I1 : L2.Inv X pins σ (upd H s.heap.objs.size (.lst (t.cps.toList.map fun c => V.str ⟨#[c]⟩))) { s with heap := h', toks := tk' } := by
          refine I.laid (t' := tk') hk (Nat.le_refl _) ?_
          refine ⟨by rw [line_eq, List.length_map]; exact hl, acc.toList, c, hv, ?_⟩
          rw [Array.toArray_toList]; exact hS
        refine ⟨.ref s.heap.objs.size, _, I1, rfl, q _ _ F _ (Stq.loose fh hf) hf (fh.free hf) upd_same ?_⟩
        have : ∀ l : List Nat, DvA X.K F (l.map fun c => PyData.str ⟨#[c]⟩) (l.map fun c => V.str ⟨#[c]⟩) := fun l => by
          induction l with
          | nil => rfl
          | cons c l ih => exact ⟨_, _, rfl, rfl, ih⟩
        exact this _
      · rw [if_neg hl] at hz'; exact nomatch hz'
    | _ => cases hz
  · cases hz
/-! ### methods of texts -/
def sJoin (a : Str) (ds : List D) : Option D := match ds with
  | [d] => (seqOf d).bind fun xs => (strs? xs).bind fun ys => if (ys.map fun x => x.length).sum + ys.length * a.length ≤ 16777216 then some (.str (Txt.join a ys)) else none
  | _ => none
def sSplit (a : Str) (ds : List D) : Option D := match ds with
  | [.str b] => if 0 < b.length ∧ a.length ≤ 16777000 then some (.list ((Txt.split a b).map .str)) else none
  | _ => none
def sStarts (a : Str) (ds : List D) : Option D := match ds with
  | [.str b] => some (.bool (Txt.startswith a b))
  | _ => none
def sIndex (a : Str) (ds : List D) : Option D := match ds with
  | [.str b] => (Txt.index0 a b).map fun i => .int (i : Nat)
  | _ => none
theorem dva_one {K : PySem.W.Frag} {F : Hp} {d : D} {vs : List V} (h : DvA K F [d] vs) : ∃ v, vs = [v] ∧ Dv K F d v := by
  obtain ⟨v, r, e, h1, h2⟩ := h
  have h2' : r = [] := h2
  subst e h2'
  exact ⟨v, rfl, h1⟩
theorem md_join : MtR X "str.join" (rSm X.K sJoin) := by
  intro pins s σ H x xs v us Q I rx rs ⟨z, F, ds, r, e, fh, hd, hz, q⟩
  unfold sJoin at hz
  split at hz
  · rename_i d
    obtain ⟨v1, e1, h1⟩ := dva_one hd
    subst e1 e
    cases e2 : seqOf d with
    | none => rw [e2] at hz; cases hz
    | some ys =>
      rw [e2] at hz
      have hz' : (strs? ys).bind (fun ys => if (ys.map fun x => x.length).sum + ys.length * z.length ≤ 16777216 then some (PyData.str (Txt.join z ys)) else none) = some r := hz
      cases e3 : strs? ys with
      | none => rw [e3] at hz'; cases hz'
      | some ts =>
        rw [e3] at hz'
        have hz2 : (if (ts.map fun x => x.length).sum + ts.length * z.length ≤ 16777216 then some (PyData.str (Txt.join z ts)) else none) = some r := hz'
        by_cases hl : (ts.map fun x => x.length).sum + ts.length * z.length ≤ 16777216
        · rw [if_pos hl] at hz2
          have e4 := strs?_some e3
          subst e4
          have fin := q (.str (Txt.join z ts)) F H (Stq.refl fh) (by rw [← Option.some.inj hz2]; rfl)
          cases d with
          | list ds =>
            have e5 : ds = ts.map .str := Option.some.inj e2
            subst e5
            obtain ⟨a, vs, e, k1, k2⟩ := h1
            have e6 := DvA.strs.mp k2
            subst e6
            exact mt_join pins s σ H _ _ v us Q I rx rs ⟨z, a, ts, rfl, by rw [e], .inl (SqL.of (fh _ _ k1)), hl, fin⟩
          | tuple ds =>
            have e5 : ds = ts.map .str := Option.some.inj e2
            subst e5
            obtain ⟨a, vs, e, k1, k2⟩ := h1
            have e6 := DvA.strs.mp k2
            subst e6
            exact mt_join pins s σ H _ _ v us Q I rx rs ⟨z, a, ts, rfl, by rw [e], .inr (sqt_mono fh k1), hl, fin⟩
          | _ => cases e2
        · rw [if_neg hl] at hz2; cases hz2
  · cases hz
theorem md_split : MtR X "str.split" (rSm X.K sSplit) := by
  intro pins s σ H x xs v us Q I rx rs ⟨z, F, ds, r, e, fh, hd, hz, q⟩
  unfold sSplit at hz
  split at hz
  · rename_i b
    obtain ⟨v1, e1, h1⟩ := dva_one hd
    have h1' : v1 = .str b := h1
    subst h1' e1 e
    by_cases hl : 0 < b.length ∧ z.length ≤ 16777000
    · rw [if_pos hl] at hz
      rw [← Option.some.inj hz] at q
      refine mt_split pins s σ H _ _ v us Q I rx rs ⟨z, b, rfl, rfl, beq_eq_false_iff_ne.mpr (by omega), by rw [line_eq]; omega, fun p hp => ?_⟩
      exact q _ _ _ (Stq.data fh hp) ⟨p, _, rfl, upd_same, DvA.strs.mpr rfl⟩
    · rw [if_neg hl] at hz; cases hz
  · cases hz
theorem md_starts : MtR X "str.startswith" (rSm X.K sStarts) := by
  intro pins s σ H x xs v us Q I rx rs ⟨z, F, ds, r, e, fh, hd, hz, q⟩
  unfold sStarts at hz
  split at hz
  · rename_i b
    obtain ⟨v1, e1, h1⟩ := dva_one hd
    have h1' : v1 = .str b := h1
    subst h1' e1 e
    exact mt_startswith pins s σ H _ _ v us Q I rx rs ⟨z, b, rfl, rfl, q _ F H (Stq.refl fh) (by rw [← Option.some.inj hz]; rfl)⟩
  · cases hz
theorem md_index : MtR X "str.index" (rSm X.K sIndex) := by
  intro pins s σ H x xs v us Q I rx rs ⟨z, F, ds, r, e, fh, hd, hz, q⟩
  unfold sIndex at hz
  split at hz
  · rename_i b
    obtain ⟨v1, e1, h1⟩ := dva_one hd
    have h1' : v1 = .str b := h1
    subst h1' e1 e
    cases e2 : Txt.index0 z b with
    | none => rw [e2] at hz; cases hz
    | some i =>
      rw [e2] at hz
      have e3 : (Builtin.Str.occurrences z b 0 z.length 1).head? = some i := e2
      cases e4 : Builtin.Str.occurrences z b 0 z.length 1 with
      | nil => rw [e4] at e3; cases e3
      | cons j rest =>
        rw [e4] at e3
        have e5 : j = i := by simpa using e3
        subst e5
        exact mt_sindex pins s σ H _ _ v us Q I rx rs ⟨z, b, j, rest, rfl, rfl, e4, q _ F H (Stq.refl fh) (by rw [← Option.some.inj hz]; rfl)⟩
  · cases hz
end
end Pd
namespace Pd
open PySem PySem.Spec PyProof.Rows L2

/-! ### enumerate and zip of lists, tuples, texts -/
def signV (z : Str) : List V := z.cps.toList.map fun c => V.str ⟨#[c]⟩
/-- the iterator of a value, whatever its address: its state at turn i; Sq: what the value holds -/
structure IkOk (P : Program) (w : World) (K : PySem.W.Frag) (Sq : Hp → List V → Prop) (IS : Addr → Nat → Heap → Prop) : Prop where
  obj : ∀ it i h, IS it i h → ∃ o, h.get? it = some o ∧ ∀ v, o.data ≠ .cell v
  keep : ∀ it i h h', IS it i h → (∀ o, h.get? it = some o → h'.get? it = some o) → IS it i h'
  one : ∀ (X : Cx) (pins : List (Addr × Obj)) (σ : L2.St) (H : Hp) (s : Shared) (vs ws : List V), X.K = K → L2.Inv X pins σ H s → Sq H vs → Sq H ws → vs = ws
  drw : ∀ (X : Cx), X.prog = P → X.w = w → X.K = K → X.calm = true → ∀ (it : Addr) (pins : List (Addr × Obj)) (σ : L2.St) (H : Hp) (s : Shared) (vs : List V), L2.Inv X pins σ H s → Sq H vs → (∃ i, IS it i s.heap) →
    ∃ (fx : List Addr) (Ex : Heap → Prop) (Pv : Nat → Value → Prop), Draws P w X.A.in1 it (it :: fx) vs.length Pv (fun i h => IS it i h ∧ Ex h) ∧ Ex s.heap ∧ (∀ b ∈ fx, ∃ o, s.heap.get? b = some o ∧ (o.cls = .type "list" ∨ o.cls = .type "tuple")) ∧
      ∀ i u, i < vs.length → Pv i u → ∃ y, vs[i]? = some y ∧ RelV y u
theorem ty_ne {v : Value} {a b : String} (h : v = .type a) (h' : v = .type b) (n : a ≠ b) : False := n (by rw [h] at h'; exact Value.type.inj h')
theorem ik_list {P : Program} {w : World} {K : PySem.W.Frag} {a : Addr} : IkOk P w K (fun H vs => SqL K H a vs) (fun it i h => h.IsListIter it a i) where
  obj := fun it i h st => by
    obtain ⟨o, e, c, d⟩ := st
    exact ⟨o, e, fun v z => by rw [d] at z; cases z⟩
  keep := fun it i h h' st k => st.at fun o e => k o e
  one := fun X pins σ H s vs ws hK I q q' => by subst hK; exact I.list_inj q q'
  drw := by
    intro X hP hw hK hc it pins σ H s vs I q ⟨i0, st⟩
    subst hP hw hK
    obtain ⟨oi, ei, ci, di⟩ := st
    obtain ⟨its, rv, ⟨o, n, e, c, _, d⟩, hz⟩ := I.list q
    have hl := rv.length
    have hne : a ≠ it := fun z => by
      subst z
      rw [e] at ei
      have eo : o = oi := Option.some.inj ei
      subst eo
      exact ty_ne c ci (by decide)
    refine ⟨[a], fun h => h.IsList a its.toArray, fun i v => its.toArray[i]? = some v, ?_, ⟨o, e, c, n, d⟩, fun b hb => ?_, fun i u hi hu => ?_⟩
    · have := Draws.list (prog := X.prog) (w := X.w) (A := X.A.in1) (I.ok.hd hc) it a hne its.toArray
      rw [List.size_toArray, ← hl] at this
      exact this
    · have eb : b = a := by simpa using hb
      subst eb
      exact ⟨o, e, .inl c⟩
    · have hx : vs[i]? = some vs[i] := List.getElem?_eq_getElem hi
      obtain ⟨u', h1, h2⟩ := rv.get hx
      have h3 : its[i]? = some u := by simpa using hu
      rw [h1] at h3
      cases h3
      exact ⟨_, hx, h2⟩
theorem ik_tup {P : Program} {w : World} {K : PySem.W.Frag} {a : Addr} : IkOk P w K (fun H vs => SqT K H a vs) (fun it i h => h.IsTupleIter it a i) where
  obj := fun it i h st => by
    obtain ⟨o, e, c, d⟩ := st
    exact ⟨o, e, fun v z => by rw [d] at z; cases z⟩
  keep := fun it i h h' st k => st.at fun o e => k o e
  one := fun X pins σ H s vs ws hK I q q' => by subst hK; exact I.tuple_inj q q'
  drw := by
    intro X hP hw hK hc it pins σ H s vs I q ⟨i0, st⟩
    subst hP hw hK
    obtain ⟨oi, ei, ci, di⟩ := st
    obtain ⟨its, rv, ⟨o, e, c, n, d⟩, hz⟩ := I.tuple q
    have hl := rv.length
    have hne : a ≠ it := fun z => by
      subst z
      rw [e] at ei
      have eo : o = oi := Option.some.inj ei
      subst eo
      exact ty_ne c ci (by decide)
    refine ⟨[a], fun h => h.IsTuple a its.toArray, fun i v => its.toArray[i]? = some v, ?_, ⟨o, e, c, n, d⟩, fun b hb => ?_, fun i u hi hu => ?_⟩
    · have := Draws.tuple (prog := X.prog) (w := X.w) (A := X.A.in1) (I.ok.hd hc) it a hne its.toArray
      rw [List.size_toArray, ← hl] at this
      exact this
    · have eb : b = a := by simpa using hb
      subst eb
      exact ⟨o, e, .inr c⟩
    · have hx : vs[i]? = some vs[i] := List.getElem?_eq_getElem hi
      obtain ⟨u', h1, h2⟩ := rv.get hx
      have h3 : its[i]? = some u := by simpa using hu
      rw [h1] at h3
      cases h3
      exact ⟨_, hx, h2⟩
theorem ik_str {P : Program} {w : World} {K : PySem.W.Frag} {z : Str} {t : Tok} : IkOk P w K (fun _ vs => vs = signV z) (fun it i h => h.IsStrIter it (strIterType z) z t i) where
  obj := fun it i h st => by
    obtain ⟨o, e, c, d⟩ := st
    exact ⟨o, e, fun v z => by rw [d] at z; cases z⟩
  keep := fun it i h h' ⟨o, e, r⟩ k => ⟨o, k o e, r⟩
  one := fun X pins σ H s vs ws hK I q q' => q.trans q'.symm
  drw := by
    intro X hP hw hK hc it pins σ H s vs I q ⟨i0, st⟩
    subst hP hw hK q
    refine ⟨[], fun _ => True, fun i v => ∃ c u, z.cps[i]? = some c ∧ v = .str ⟨#[c]⟩ u, ?_, trivial, fun b hb => absurd hb (by simp), fun i u hi hu => ?_⟩
    · have hl : (signV z).length = z.cps.size := by simp [signV]
      have := Draws.text (prog := X.prog) (w := X.w) (A := X.A.in1) (I.ok.hd hc) it z t
      rw [hl]
      exact ⟨fun i h st => this.live i h st.1, fun i h h' st k => ⟨this.frame i h h' st.1 k, trivial⟩, fun i s Q E hi st hQ => this.item i s Q E hi st.1 fun x h' tk p st' sb => hQ x h' tk p ⟨st', trivial⟩ sb, fun s Q E st hE => this.done s Q E st.1 hE⟩
    · obtain ⟨c, t', hc', rfl⟩ := hu
      refine ⟨.str ⟨#[c]⟩, ?_, t', rfl⟩
      simp only [signV, List.getElem?_map, Array.getElem?_toList, hc']
      rfl
/-- enumerate: what it yields -/
def Iten (Sq : Hp → List V → Prop) (k : Int) : It :=
  ⟨fun i H => ∃ vs y, Sq H vs ∧ vs[i]? = some y, fun i H v H' => ∃ T y, v = .ref T ∧ H T = none ∧ H' = upd H T (.tup [.int (k + (i : Nat)), y]) ∧ ∀ vs, Sq H vs → vs[i]? = some y, fun i H => ∃ vs, Sq H vs ∧ vs.length = i⟩
theorem turn_en {P : Program} {w : World} {K : PySem.W.Frag} {Sq : Hp → List V → Prop} {IS : Addr → Nat → Heap → Prop} (ik : IkOk P w K Sq IS) {elts : List Expr} {kk : Nat} {tpos : Pos} (k : Int) (e it : Addr) :
    Turn P w K (.Tuple elts kk tpos) (Iten Sq k) [e, it] e (fun i h => (∃ old, IsEnum h e it (k + ((i : Nat) : Int)) old) ∧ IS it i h ∧ e ≠ it) where
  mem := by simp
  obj := fun i h st b hb => by
    obtain ⟨⟨old, he⟩, hi, _⟩ := st
    have e' : b = e ∨ b = it := by simpa using hb
    rcases e' with z | z
    · rw [z]; exact ⟨_, he, fun v q => nomatch q⟩
    · rw [z]; exact ik.obj it i h hi
  keep := fun i h h' st q => let ⟨⟨old, he⟩, hi, hne⟩ := st; ⟨⟨old, q e (by simp) _ he⟩, ik.keep it i h h' hi fun o r => q it (by simp) o r, hne⟩
  item := by
    intro X hP hw hK hc i pins s σ H E I hf st hg
    obtain ⟨⟨old, he⟩, hit, hne⟩ := st
    obtain ⟨vs, y, hq, hy⟩ := hg
    have hi : i < vs.length := (List.getElem?_eq_some_iff.mp hy).1
    obtain ⟨fx, Ex, Pv, D, ex, hfx, hPv⟩ := ik.drw X hP hw hK hc it pins σ H s vs I hq ⟨i, hit⟩
    have hef : e ∉ it :: fx := fun hm => by
      rcases List.mem_cons.mp hm with z | z
      · exact hne z
      · obtain ⟨o, eo, co⟩ := hfx e z
        rw [he] at eo
        have eo' := Option.some.inj eo
        rw [← eo'] at co
        rcases co with co | co
        · exact ty_ne (show (Value.type "enumerate") = .type "enumerate" from rfl) co (by decide)
        · exact ty_ne (show (Value.type "enumerate") = .type "enumerate" from rfl) co (by decide)
    subst hP hw hK
    have G := GoesN.enumFrom (elts := elts) (x1 := kk) (pos := tpos) k D e hne hef (by simp)
    refine G.goes i s (fun v s2 => ∃ x H', L2.Inv X pins σ H' s2 ∧ RelV x v ∧ (Iten Sq k).yld i H x H' ∧ ((∃ old, IsEnum s2.heap e it (k + ((i + 1 : Nat) : Int)) old) ∧ IS it (i + 1) s2.heap ∧ e ≠ it) ∧ ∀ b ∈ [e, it], H' b = none) E hi ⟨⟨old, he⟩, hit, ex⟩ fun v h' tk hY st' hk htk => ?_
    obtain ⟨T, t, u, ev, hT, hP', hTT⟩ := hY
    obtain ⟨y', hy', ru⟩ := hPv i u hi hP'
    rw [hy] at hy'
    cases hy'
    have new : ObjOk X.prog X.w (upd H T (.tup [.int (k + (i : Nat)), y])) h' T (.tup [.int (k + (i : Nat)), y]) :=
      ⟨by show 2 ≤ sizeLine; decide, [.int (k + (i : Int)) t, u], .cons ⟨_, rfl⟩ (.cons ru .nil), hTT⟩
    have I1 := I.turnedNew (t' := tk) (ch := [e, it]) (fun b ob hb q => hk b ob hb q) hf hT new
    have hb : ∀ b ∈ [e, it], b < s.heap.objs.size := fun b hb => by
      have e' : b = e ∨ b = it := by simpa using hb
      rcases e' with z | z
      · rw [z]; exact Heap.lt_size he
      · obtain ⟨o, q, _⟩ := ik.obj it i s.heap hit
        rw [z]; exact Heap.lt_size q
    refine ⟨.ref T, _, I1, by rw [ev]; rfl, ⟨T, y, rfl, I.hok.fresh hT, rfl, fun ws hw => ?_⟩, ⟨st'.1, st'.2.1, hne⟩, fun b hm => ?_⟩
    · rw [← ik.one X pins σ H s vs ws rfl I hq hw]; exact hy
    · rw [upd_ne (Nat.ne_of_lt (Nat.lt_of_lt_of_le (hb b hm) hT))]
      exact (hf b hm).1
  done := by
    intro X hP hw hK hc i pins s σ H E I hf st hg
    obtain ⟨⟨old, he⟩, hit, hne⟩ := st
    obtain ⟨vs, hq, hl⟩ := hg
    subst hl
    obtain ⟨fx, Ex, Pv, D, ex, hfx, hPv⟩ := ik.drw X hP hw hK hc it pins σ H s vs I hq ⟨_, hit⟩
    have hef : e ∉ it :: fx := fun hm => by
      rcases List.mem_cons.mp hm with z | z
      · exact hne z
      · obtain ⟨o, eo, co⟩ := hfx e z
        rw [he] at eo
        have eo' := Option.some.inj eo
        rw [← eo'] at co
        rcases co with co | co
        · exact ty_ne (show (Value.type "enumerate") = .type "enumerate" from rfl) co (by decide)
        · exact ty_ne (show (Value.type "enumerate") = .type "enumerate" from rfl) co (by decide)
    subst hP hw hK
    have G := GoesN.enumFrom (elts := elts) (x1 := kk) (pos := tpos) k D e hne hef (by simp)
    refine G.stops s (fun s1 => L2.Inv X pins σ H s1) E ⟨⟨old, he⟩, hit, ex⟩ fun h' tk hk htk => I.turnedL (ch := [e, it]) hk hf
  self := fun A i s Q E st h => let ⟨⟨_, he⟩, _⟩ := st; wpAny_pyIter_enum he h

/-- a value that is walked: how its iterator begins -/
structure Bg (P : Program) (w : World) (K : PySem.W.Frag) (Sq : Hp → List V → Prop) (u : Value) (s : Shared) (IS : Addr → Nat → Heap → Prop) : Prop where
  ik : IkOk P w K Sq IS
  bg : ∃ (o : Obj) (Hb : Heap → Prop), Begins u o Hb ∧ Hb s.heap ∧ ∀ it h, h.get? it = some o → IS it 0 h
section
variable {X : Cx} {pins : List (Addr × Obj)} {σ : L2.St} {H : Hp} {s : Shared}
theorem bg_list {a : Addr} {vs : List V} (I : L2.Inv X pins σ H s) (q : SqL X.K H a vs) : Bg X.prog X.w X.K (fun H vs => SqL X.K H a vs) (.ref a) s (fun it i h => h.IsListIter it a i) := by
  obtain ⟨its, rv, pl, hz⟩ := I.list q
  exact ⟨ik_list, _, _, begins_list a its.toArray, pl.isList, fun it h e => ⟨_, e, rfl, rfl⟩⟩
theorem bg_tup {a : Addr} {vs : List V} (I : L2.Inv X pins σ H s) (q : SqT X.K H a vs) : Bg X.prog X.w X.K (fun H vs => SqT X.K H a vs) (.ref a) s (fun it i h => h.IsTupleIter it a i) := by
  obtain ⟨its, rv, pl, hz⟩ := I.tuple q
  exact ⟨ik_tup, _, _, begins_tuple a its.toArray, (show s.heap.IsTuple a its.toArray from pl), fun it h e => ⟨_, e, rfl, rfl⟩⟩
theorem bg_str {z : Str} {t : Tok} : Bg X.prog X.w X.K (fun _ vs => vs = signV z) (.str z t) s (fun it i h => h.IsStrIter it (strIterType z) z t i) :=
  ⟨ik_str, _, _, begins_text z t, trivial, fun it h e => ⟨_, e, rfl, rfl⟩⟩
end
/-! #### enumerate of one argument -/
theorem meets_en1 {v : Value} {o : Obj} {H : Heap → Prop} (B : Begins v o H) :
    Meets (Builtin.«enumerate.__new__» ⟨[.type "enumerate", v], []⟩) (fun _ R s => H s.heap ∧
      R (.ok (.ret (.ref (s.heap.push o).objs.size))) { s with heap := (s.heap.push o).push { cls := .type "enumerate", data := .fields #[.none, .bool false, .ref s.heap.objs.size, rawInt 0, .none, .none] } }) :=
  .of_wp fun prog w A R s h => by
    obtain ⟨hp, g, d, tk, os⟩ := s
    obtain ⟨h1, h⟩ := h
    have hsub := sub_enumerate
    have q1 : ∀ {A' : Around} {E : Value → Shared → Prop} {Q : Value → Shared → Prop}, Q (.ref hp.objs.size) ⟨hp.push o, g, d, tk, os⟩ → wpAny (model prog w) A' (pyIter v) Q E ⟨hp, g, d, tk, os⟩ :=
      fun q => B.iter prog w _ _ ⟨hp, g, d, tk, os⟩ _ h1 q
    wp_walk using q1
    refine wpAny_stack_any fun st => wpAny_pure ?_
    split
    · rename_i c _ _ _ _ _
      cases (c == Value.type "enumerate")
      · wp_walk using q1
        exact ⟨_, rfl, h⟩
      · wp_walk using q1
        exact ⟨_, rfl, h⟩
    · wp_walk using q1
      exact ⟨_, rfl, h⟩
theorem en1_begins {prog : Program} {w : World} {A : Around} {E : Value → Shared → Prop} {s : Shared} {v : Value} {o : Obj} {H : Heap → Prop} {Q : Value → Shared → Prop} (B : Begins v o H) (h1 : H s.heap)
    (h : ∀ h', IsEnum h' (s.heap.objs.size + 1) s.heap.objs.size 0 .none → h'.get? s.heap.objs.size = some o → h'.objs.size = s.heap.objs.size + 2 →
      (∀ b o, s.heap.get? b = some o → h'.get? b = some o) → Q (.ref (s.heap.objs.size + 1)) { s with heap := h' }) :
    wpAny (model prog w) A (call (.type "enumerate") [v]) Q E s := by
  refine callType_new PySem.F.called_enumerate (by decide) (PySem.F.typeCall_enumerate_1 _) (PySem.F.newCall_enumerate_1 _) (fun obj => PySem.F.args_object_init_2 obj _) PySem.F.entry_enumerate_new
    (meets_en1 B) ⟨h1, ?_⟩
  have hz : (s.heap.push o).objs.size = s.heap.objs.size + 1 := Heap.size_push ..
  show _ ∧ _
  rw [hz]
  have he : IsEnum ((s.heap.push o).push { cls := .type "enumerate", data := .fields #[.none, .bool false, .ref s.heap.objs.size, rawInt 0, .none, .none] }) (s.heap.objs.size + 1) s.heap.objs.size 0 .none := by
    have := Heap.get?_push_size (s.heap.push o) (o := { cls := .type "enumerate", data := .fields #[.none, .bool false, .ref s.heap.objs.size, rawInt 0, .none, .none] }) rfl
    rw [hz] at this; exact this
  exact ⟨⟨_, he, rfl⟩, h _ he (Heap.get?_push_of_some _ (Heap.get?_push_size _ B.free)) (by rw [Heap.size_push, hz]) fun b o x => Heap.get?_push_of_some _ (Heap.get?_push_of_some _ x)⟩

/-! #### as what is walked -/
/-- the items of a value, as values -/
def SeqQ (K : PySem.W.Frag) (x : V) : (Hp → List V → Prop) → Prop := fun Sq =>
  (∃ a, x = .ref a ∧ Sq = fun H vs => SqL K H a vs) ∨ (∃ a, x = .ref a ∧ Sq = fun H vs => SqT K H a vs) ∨ ∃ z, x = .str z ∧ Sq = fun _ vs => vs = signV z
theorem bg_of {X : Cx} {pins : List (Addr × Obj)} {σ : L2.St} {H : Hp} {s : Shared} {x : V} {u : Value} {Sq : Hp → List V → Prop} {vs : List V} (I : L2.Inv X pins σ H s) (h : SeqQ X.K x Sq) (q : Sq H vs) (r : RelV x u) : ∃ IS, Bg X.prog X.w X.K Sq u s IS := by
  rcases h with ⟨a, rfl, rfl⟩ | ⟨a, rfl, rfl⟩ | ⟨z, rfl, rfl⟩
  · cases r; exact ⟨_, bg_list I q⟩
  · cases r; exact ⟨_, bg_tup I q⟩
  · obtain ⟨t, rfl⟩ := r; exact ⟨_, bg_str⟩
def iEn1 (K : PySem.W.Frag) (ta : TA) : TI := fun σ H R => ta σ H fun ws H1 => ∃ x Sq vs, ws = [x] ∧ SeqQ K x Sq ∧ Sq H1 vs ∧ R (Iten Sq 0) H1
def iEn2 (K : PySem.W.Frag) (ta : TA) : TI := fun σ H R => ta σ H fun ws H1 => ∃ x Sq vs k, ws = [x, .int k] ∧ SeqQ K x Sq ∧ Sq H1 vs ∧ -(2 ^ 62) ≤ k ∧ k < 2 ^ 62 ∧ R (Iten Sq k) H1
theorem pi_en1 {X : Cx} {e : Expr} {ta : TA} {p pos tpos : Pos} {elts : List Expr} {kk : Nat} (hg : Gl X "enumerate") (hm : X.mg "enumerate" = none) (ha : PA X [e] ta) (hs : starEach [e] X.env = [(false, eval e X.env)] := by rfl) :
    PI X (.Tuple elts kk tpos) (.Call (.Name "enumerate" p) [e] [] pos) (iEn1 X.K ta) := by
  refine ⟨fun pins s σ H R I h => ?_⟩
  refine Call_ (ld_blt I hg hm boot_enumerate (PyProof.Rows.callWith_type1 (thn (ha.run pos pins s σ H _ I h) fun us s1 ⟨ws, H1, I1, r1, q1⟩ => ?_) hs rfl))
  obtain ⟨x, Sq, vs, e1, hq, hv, q⟩ := q1
  subst e1
  obtain ⟨u, rfl, rx⟩ := vals1 r1
  obtain ⟨IS, ik, o, Hb, B, hb, st0⟩ := bg_of I1 hq hv rx
  refine en1_begins B hb fun h' he hit hsz hk => wpAny_pyIter_enum he ?_
  have I2 : L2.Inv X pins σ H1 { s1 with heap := h' } := I1.kept (t' := s1.toks) hk
  refine ⟨s1.heap.objs.size + 1, [s1.heap.objs.size + 1, s1.heap.objs.size], _, _, H1, rfl, I2, turn_en ik 0 (s1.heap.objs.size + 1) s1.heap.objs.size, ⟨⟨.none, he⟩, st0 _ _ hit, Nat.succ_ne_self _⟩, fun b hm => ?_, q⟩
  have e' : b = s1.heap.objs.size + 1 ∨ b = s1.heap.objs.size := by simpa using hm
  have hle : s1.heap.objs.size ≤ b := by
    rcases e' with z | z
    · rw [z]; exact Nat.le_add_right _ _
    · rw [z]; exact Nat.le_refl _
  exact I1.fpOk hle (I1.hok.fresh hle)
theorem pi_en2 {X : Cx} {e e2 : Expr} {ta : TA} {p pos tpos : Pos} {elts : List Expr} {kk : Nat} (hg : Gl X "enumerate") (hm : X.mg "enumerate" = none) (ha : PA X [e, e2] ta) (hs : starEach [e, e2] X.env = [(false, eval e X.env), (false, eval e2 X.env)] := by rfl) (hs2 : starEach [e2] X.env = [(false, eval e2 X.env)] := by rfl) :
    PI X (.Tuple elts kk tpos) (.Call (.Name "enumerate" p) [e, e2] [] pos) (iEn2 X.K ta) := by
  refine ⟨fun pins s σ H R I h => ?_⟩
  refine Call_ (ld_blt I hg hm boot_enumerate (PyProof.Rows.callWith_type1 (thn (ha.run pos pins s σ H _ I h) fun us s1 ⟨ws, H1, I1, r1, q1⟩ => ?_) (by rw [hs, hs2]) (by rw [hs2]; rfl)))
  obtain ⟨x, Sq, vs, k, e1, hq, hv, k1, k2, q⟩ := q1
  subst e1
  obtain ⟨u, u2, rfl, rx, t, rfl⟩ := vals2 r1
  obtain ⟨IS, ik, o, Hb, B, hb, st0⟩ := bg_of I1 hq hv rx
  refine enum_begins B hb (by omega) (by omega) fun h' he hit hsz hk => wpAny_pyIter_enum he ?_
  have I2 : L2.Inv X pins σ H1 { s1 with heap := h' } := I1.kept (t' := s1.toks) hk
  refine ⟨s1.heap.objs.size + 1, [s1.heap.objs.size + 1, s1.heap.objs.size], _, _, H1, rfl, I2, turn_en ik k (s1.heap.objs.size + 1) s1.heap.objs.size, ⟨⟨.none, ?_⟩, st0 _ _ hit, Nat.succ_ne_self _⟩, fun b hm => ?_, q⟩
  · have e0 : k + ((0 : Nat) : Int) = k := by omega
    rw [e0]; exact he
  have e' : b = s1.heap.objs.size + 1 ∨ b = s1.heap.objs.size := by simpa using hm
  have hle : s1.heap.objs.size ≤ b := by
    rcases e' with z | z
    · rw [z]; exact Nat.le_add_right _ _
    · rw [z]; exact Nat.le_refl _
  exact I1.fpOk hle (I1.hok.fresh hle)
end Pd
namespace Pd
open PySem PySem.Spec PyProof.Rows L2

/-! ### enumerate over data -/
def enD (k : Int) (xs : List D) : List D := xs.mapIdx fun i d => .tuple [.int (k + (i : Nat)), d]
/-- a value that is walked, by data -/
theorem seqq_of {K : PySem.W.Frag} {F : Hp} {d : D} {x : V} {xs : List D} (h : Dv K F d x) (e : itemsOf d = some xs) : ∃ Sq vs, SeqQ K x Sq ∧ DvA K F xs vs ∧ ∀ H, Sub F H → Sq H vs := by
  cases d with
  | list ds =>
    obtain ⟨a, vs, e1, h1, h2⟩ := h
    have e2 : ds = xs := Option.some.inj e
    subst e2
    exact ⟨_, vs, .inl ⟨a, e1, rfl⟩, h2, fun H s => SqL.of (s _ _ h1)⟩
  | tuple ds =>
    obtain ⟨a, vs, e1, h1, h2⟩ := h
    have e2 : ds = xs := Option.some.inj e
    subst e2
    exact ⟨_, vs, .inr (.inl ⟨a, e1, rfl⟩), h2, fun H s => sqt_mono s h1⟩
  | str z =>
    have e2 : signsOf z = xs := Option.some.inj e
    subst e2
    refine ⟨_, signV z, .inr (.inr ⟨z, h, rfl⟩), ?_, fun H s => rfl⟩
    have : ∀ l : List Nat, DvA K F (l.map fun c => PyData.str ⟨#[c]⟩) (l.map fun c => V.str ⟨#[c]⟩) := fun l => by
      induction l with
      | nil => rfl
      | cons c l ih => exact ⟨_, _, rfl, rfl, ih⟩
    exact this _
  | _ => cases e
theorem wk_en {K : PySem.W.Frag} {F : Hp} {xs : List D} {vs : List V} {Sq : Hp → List V → Prop} {k : Int} (h2 : DvA K F xs vs) (hs : ∀ H, Sub F H → Sq H vs) : Wk K (Iten Sq k) (enD k xs) F := by
  have hl := h2.len
  have el : (enD k xs).length = xs.length := by simp [enD]
  refine ⟨fun i H hi s => ?_, fun H s => ⟨vs, hs H s, by rw [el, hl]⟩, fun i H F1 x H' hi s s1 y => ?_⟩
  · rw [el] at hi
    obtain ⟨v, e, _⟩ := h2.at (List.getElem?_eq_getElem hi)
    exact ⟨vs, v, hs H s, e⟩
  · rw [el] at hi
    obtain ⟨T, y', e1, hT, e2, q⟩ := y
    have hy := q vs (hs H (s.trans s1))
    obtain ⟨d, e3, r⟩ := h2.at' hy
    subst e1 e2
    refine ⟨.tuple [.int (k + (i : Nat)), d], upd F1 T (.tup [.int (k + (i : Nat)), y']), ?_, Stq.data s1 hT, T, _, rfl, sqt_of upd_same, ?_⟩
    · simp only [enD, List.getElem?_mapIdx, e3]; rfl
    · exact ⟨_, _, rfl, rfl, _, _, rfl, Dv.mono (s.trans (Sub.up (s1.free hT))) r, rfl⟩
def en1 (ds : List D) : Option (List D) := match ds with
  | [d] => (itemsOf d).map (enD 0)
  | _ => none
def en2 (ds : List D) : Option (List D) := match ds with
  | [d, .int k] => if -1000000 ≤ k ∧ k ≤ 1000000 then (itemsOf d).map (enD k) else none
  | _ => none
def iEn (g : List D → Option (List D)) (m : DE → M (List D)) : DE → M (List D) := fun δ => M.bind (m δ) fun xs => M.lift (g xs)
section
variable {X : Cx} {E : XK} {a b : Expr} {mr : DE → M (List D)} {pos p tpos : Pos} {elts : List Expr} {kk : Nat}
theorem pdi_en1 (hg : Gl X "enumerate") (hm : X.mg "enumerate" = none) (ha : PA X [a] (tDs X.K E mr)) (hs : starEach [a] X.env = [(false, eval a X.env)] := by rfl) :
    PI X (.Tuple elts kk tpos) (.Call (.Name "enumerate" p) [a] [] pos) (tI X.K E (iEn en1 mr)) := PI.wk (pi_en1 hg hm ha hs) fun σ H Q ⟨B, G, F, δ, S, b, a⟩ => by
  refine ⟨B, G, F, δ, S, b, Aft.mapL (R1 := RDs X.K B H) a fun ds vs F' H' S' c t r rd e q => ?_⟩
  unfold en1 at e
  split at e
  · rename_i d
    obtain ⟨v, e1, h1⟩ := dva_one rd
    cases e2 : itemsOf d with
    | none => rw [e2] at e; cases e
    | some xs =>
      rw [e2] at e
      have e3 : enD 0 xs = c := Option.some.inj e
      obtain ⟨Sq, ws, q1, q2, q3⟩ := seqq_of h1 e2
      exact ⟨v, Sq, ws, e1, q1, q3 _ t.fh, q _ _ _ t r (e3 ▸ wk_en q2 q3)⟩
  · cases e
theorem pdi_en2 (hg : Gl X "enumerate") (hm : X.mg "enumerate" = none) (ha : PA X [a, b] (tDs X.K E mr)) (hs : starEach [a, b] X.env = [(false, eval a X.env), (false, eval b X.env)] := by rfl) (hs2 : starEach [b] X.env = [(false, eval b X.env)] := by rfl) :
    PI X (.Tuple elts kk tpos) (.Call (.Name "enumerate" p) [a, b] [] pos) (tI X.K E (iEn en2 mr)) := PI.wk (pi_en2 hg hm ha hs hs2) fun σ H Q ⟨B, G, F, δ, S, b, a⟩ => by
  refine ⟨B, G, F, δ, S, b, Aft.mapL (R1 := RDs X.K B H) a fun ds vs F' H' S' c t r rd e q => ?_⟩
  unfold en2 at e
  split at e
  · rename_i d k
    obtain ⟨v, r1, e1, h1, h2⟩ := rd
    obtain ⟨w, e4, h3⟩ := dva_one h2
    have h3' : w = .int k := h3
    by_cases hk : -1000000 ≤ k ∧ k ≤ 1000000
    · rw [if_pos hk] at e
      cases e2 : itemsOf d with
      | none => rw [e2] at e; cases e
      | some xs =>
        rw [e2] at e
        have e3 : enD k xs = c := Option.some.inj e
        obtain ⟨Sq, ws, q1, q2, q3⟩ := seqq_of h1 e2
        exact ⟨v, Sq, ws, k, by rw [e1, e4, h3'], q1, q3 _ t.fh, by omega, by omega, q _ _ _ t r (e3 ▸ wk_en q2 q3)⟩
    · rw [if_neg hk] at e; cases e
  · cases e
end

/-! ### f-strings -/
/-- {x} -/
def fmt1 : D → Option D
  | .str z => if z.length ≤ 16777216 then some (.str z) else none
  | .int i => if okStr i = true then some (.str (toString i : String)) else none
  | _ => none
section
variable {X : Cx} {E : XK} {e : Expr} {me : DE → M D} {pos : Pos}
theorem pd_fmt (he : PE X e (tD X.K E me)) : PE X (.FormattedValue e (-1) none pos) (tD X.K E (eUn fmt1 me)) := PE.wk (pe_fmt he) fun σ H Q ⟨B, G, F, δ, S, b, a⟩ => by
  refine a.bind (R1 := RD X.K) b RD.bk fun F1 H1 S1 x v t1 b1 r1 a1 => ?_
  obtain ⟨r, e, a3⟩ := lift_some a1
  cases x with
  | str z =>
    have e' : (if z.length ≤ 16777216 then some (PyData.str z) else none) = some r := e
    by_cases hl : z.length ≤ 16777216
    · rw [if_pos hl] at e'
      exact .inl ⟨z, r1, by rw [line_eq]; exact hl, a3.ret b1 (by rw [← Option.some.inj e']; rfl)⟩
    · rw [if_neg hl] at e'; cases e'
  | int i =>
    have e' : (if okStr i = true then some (PyData.str (toString i : String)) else none) = some r := e
    by_cases hl : okStr i = true
    · rw [if_pos hl] at e'
      exact .inr ⟨i, r1, of_decide_eq_true hl, a3.ret b1 (by rw [← Option.some.inj e']; rfl)⟩
    · rw [if_neg hl] at e'; cases e'
  | _ => cases e
/-- the parts one behind the other -/
inductive PJd (X : Cx) (E : XK) : List Expr → List (DE → M D) → Prop where
  | nil : PJd X E [] []
  | cons {e : Expr} {m : DE → M D} {es : List Expr} {ms : List (DE → M D)} (h : PE X e (tD X.K E m)) (r : PJd X E es ms) : PJd X E (e :: es) (m :: ms)
theorem PJd.pj {es : List Expr} {ms : List (DE → M D)} (h : PJd X E es ms) : PJ X es (ms.map fun m => tD X.K E m) := by
  induction h with
  | nil => exact .nil
  | cons h _ ih => exact .cons h ih
def jD : List (DE → M D) → Str → DE → M D
  | [], acc, _ => M.ret (.str acc)
  | m :: ms, acc, δ => M.bind (m δ) fun x => M.bind (M.lift (asS x)) fun y => M.bind (M.lift (if acc.length + y.length ≤ 16777216 then some () else none)) fun _ => jD ms (acc ++ y) δ
theorem asS_some {d : D} {y : Str} (h : asS d = some y) : d = .str y := by cases d <;> first | (cases h; rfl) | cases h
theorem joined_wk {σ : L2.St} {Q : VK} : ∀ (ms : List (DE → M D)) (acc : Str) (H : Hp), tD X.K E (jD ms acc) σ H Q → tJs (ms.map fun m => tD X.K E m) acc σ H fun out H1 => Q (.str out) H1
  | [], acc, H, ⟨B, G, F, δ, S, b, a⟩ => a.ret b rfl
  | m :: ms, acc, H, ⟨B, G, F, δ, S, b, a⟩ => by
    refine a.bind (R1 := RD X.K) b RD.bk fun F1 H1 S1 x v t1 b1 r1 a1 => ?_
    obtain ⟨y, e, a2⟩ := bl_some a1
    have e' := asS_some e
    subst e'
    obtain ⟨u, hu, a3⟩ := bl_some a2
    have hl : acc.length + y.length ≤ 16777216 := by
      by_cases z : acc.length + y.length ≤ 16777216
      · exact z
      · rw [if_neg z] at hu; exact nomatch hu
    refine ⟨y, r1, ?_, joined_wk ms (acc ++ y) H1 ⟨B, G, F1, δ, S1, b1, a3⟩⟩
    rw [line_eq, TL.len_tl, TL.tl_append, List.length_append, ← TL.len_tl, ← TL.len_tl]
    exact hl
theorem pd_joined {v1 v2 : Expr} {rest : List Expr} {ms : List (DE → M D)} (h : PJd X E (v1 :: v2 :: rest) ms) : PE X (.JoinedStr (v1 :: v2 :: rest) pos) (tD X.K E (jD ms Str.empty)) := PE.wk (pe_joined h.pj) fun σ H Q q => joined_wk ms Str.empty H q
theorem pd_joined1 {m : DE → M D} (h : PE X e (tD X.K E m)) : PE X (.JoinedStr [e] pos) (tD X.K E m) := pe_joined1 h
end
end Pd
/-! {n:03d} -/
namespace Pd
open PySem PySem.Spec PyProof.Rows L2
open Builtin Builtin.Str Builtin.Int Builtin.Float
def fmt03 (n : Nat) : Str := ⟨(List.replicate (3 - (TL.numL n).length) 48 ++ TL.numL n).toArray⟩
theorem gives_cut {v : Value} {T : String} {k : String → Sem PySem.Fin} {m : Made} (hT : ∀ s : Shared, s.TypeIs v T)
    (hn : (Value.type T == Value.type "builtin_function_or_method") = false) (g : ∀ n, Gives (k n) m) : Gives (do let n ← typeNameOfCut 200 v; k n) m :=
  fun prog w A R s hq => wpAny_bind (by
    unfold typeNameOfCut shownTypeOf
    refine wpAny_bind (wpAny_bind (wpAny_typeOf (hT s) ?_))
    simp only [hn, Bool.false_eq_true, if_false]
    exact wpAny_pure (wpAny_pure (g _ prog w A R s hq)))

theorem pbind {α β : Type} (a : α) (k : α → Sem β) : (pure a >>= k) = k a := rfl
theorem gives_03 (n : Nat) (h : n < 1000) (t u : Tok) : Gives («int.__format__» ⟨[.int (n : Int) t, .str ("03d" : Str) u], []⟩) (.str (fmt03 n)) := by
  unfold «int.__format__»
  have e1 : selfAndOne "int.__format__" ⟨[.int (n : Int) t, .str ("03d" : Str) u], []⟩ = pure (.int (n : Int) t, .str ("03d" : Str) u) := rfl
  have e2 : intOfSelf (.int (n : Int) t) = pure (n : Int) := rfl
  rw [e1, pbind]
  dsimp only
  rw [e2, pbind]
  rw [show ((Value.str ("03d" : Str) u) == Value.none) = false from rfl, if_neg Bool.false_ne_true]
  refine gives_after_typeNameOf (v := .str ("03d" : Str) u) (T := "str") (fun s => typeIs_str s _ _) (by decide) fun _ => ?_
  have e3 : asStr? (.str ("03d" : Str) u) = pure (some ("03d" : Str)) := rfl
  rw [e3, pbind]
  dsimp only
  rw [if_neg (show ¬ (((("03d" : Str)).length == 0) = true) by decide), if_neg (by decide)]
  refine gives_cut (v := .int (n : Int) t) (T := "int") (fun s => typeIs_int s _ _) (by decide) fun nm => ?_
  have hp : parseFormatSpec (("03d" : Str)).cps.toList nm 62 = .ok { fill := 48, align := 61, width := some 3, type := some 100 } := rfl
  rw [hp]
  dsimp only
  rw [if_pos (by decide)]
  show Gives (overDigitLimit? (n : Int) >>= _) _
  rw [PySem.overDigitLimit_small (a := (n : Int)) (by
    show (n : Int).natAbs.log2 < 1920
    rw [Int.natAbs_natCast]
    exact Nat.lt_of_le_of_lt (Nat.log2_le_self n) (by omega))]
  have fin : ∀ X : Str, X = fmt03 n → Gives (retStr X) (.str (fmt03 n)) := fun X e => by subst e; exact .of_eq rfl
  refine fin _ ?_
  rw [decide_eq_false (show ¬ ((n : Int) < 0) by omega), Int.natAbs_natCast]
  have hd : List.map (fun c => (if ((some 100).getD (if ((Str.ofString "03d").cps.back? == some 0) = true then 0 else 100) == 88) = true then c.toUpper else c).toNat) (Nat.toDigits 10 n) = TL.numL n := rfl
  rw [hd]
  have hne := TL.numL_ne n
  generalize hl : TL.numL n = l at *
  have l3 : l.length ≤ 3 := by rw [← hl]; exact TL.numL_len (by decide) h
  cases l with
  | nil => exact absurd rfl hne
  | cons c r =>
    apply TL.ext_tl
    show List.replicate (((3 : Int) - (((0 : Nat) : Int) + ((0 : Nat) : Int) + ((0 : Nat) : Int))) - (((List.replicate (3 - (c :: r).length) 48 ++ (c :: r)).length : Nat) : Int)).toNat 48 ++ (List.replicate (3 - (c :: r).length) 48 ++ (c :: r)) ++ [] ++ [] = List.replicate (3 - (TL.numL n).length) 48 ++ TL.numL n
    have e0 : (((3 : Int) - (((0 : Nat) : Int) + ((0 : Nat) : Int) + ((0 : Nat) : Int))) - (((List.replicate (3 - (c :: r).length) 48 ++ (c :: r)).length : Nat) : Int)).toNat = 0 := by
      rw [List.length_append, List.length_replicate]
      omega
    rw [e0, hl, List.append_nil, List.append_nil]
    rfl

def fmt3 : D → Option D
  | .int i => if 0 ≤ i ∧ i < 1000 then some (.str (fmt03 i.toNat)) else none
  | _ => none
theorem fmt03_len {n : Nat} (h : n < 1000) : (fmt03 n).length = 3 := by
  have l3 : (TL.numL n).length ≤ 3 := TL.numL_len (by decide) h
  rw [TL.len_tl]
  show (List.replicate (3 - (TL.numL n).length) 48 ++ TL.numL n).length = 3
  rw [List.length_append, List.length_replicate]
  omega
section
variable {X : Cx} {E : XK} {e : Expr} {me : DE → M D} {pos p1 p2 : Pos} {j : Nat}
def tF3 (te : TE) : TE := fun σ H Q => te σ H fun x H1 => ∃ n : Nat, x = .int n ∧ n < 1000 ∧ Q (.str (fmt03 n)) H1
theorem pe_fmt3 {te : TE} (he : PE X e te) : PE X (.FormattedValue e (-1) (some (.JoinedStr [.Constant (.str ("03d" : Str)) j p1] p2)) pos) (tF3 te) := by
  refine ⟨fun pins s σ H Q I h => ?_⟩
  refine wpAny_FormattedValue_spec (thn (he.run pins s σ H _ I h) fun v s1 ⟨x, H1, I1, r1, n, e1, hn, q⟩ => ?_)
  subst e1
  obtain ⟨t, rfl⟩ := r1
  refine wpAny_JoinedStr_one (Calls.Constant_str ⟨_, _, rfl, ?_⟩)
  have hl := fmt03_len hn
  refine wpAny_formatField_spec (by decide) (fun s' => typeIs_int s' _ _) PySem.F.slot_int_format PySem.F.entry_int_format PySem.F.args_int_format_2 (fun u => gives_03 n hn t u) ⟨.str (fmt03 n), H1, (I1.tok _).tok _, ⟨_, rfl⟩, q⟩ (by decide) (by rw [line_eq, hl]; decide)
theorem pd_fmt3 (he : PE X e (tD X.K E me)) : PE X (.FormattedValue e (-1) (some (.JoinedStr [.Constant (.str ("03d" : Str)) j p1] p2)) pos) (tD X.K E (eUn fmt3 me)) := PE.wk (pe_fmt3 he) fun σ H Q ⟨B, G, F, δ, S, b, a⟩ => by
  refine a.bind (R1 := RD X.K) b RD.bk fun F1 H1 S1 x v t1 b1 r1 a1 => ?_
  obtain ⟨r, e, a3⟩ := lift_some a1
  cases x with
  | int i =>
    have e' : (if 0 ≤ i ∧ i < 1000 then some (PyData.str (fmt03 i.toNat)) else none) = some r := e
    by_cases hl : 0 ≤ i ∧ i < 1000
    · rw [if_pos hl] at e'
      refine ⟨i.toNat, ?_, by omega, a3.ret b1 (by rw [← Option.some.inj e']; rfl)⟩
      rw [show v = .int i from r1, Int.toNat_of_nonneg hl.1]
    · rw [if_neg hl] at e'; cases e'
  | _ => cases e
end
end Pd
namespace Pd
open PySem PySem.Spec PyProof.Rows L2

/-! ### the bag: read, written -/
def bagF (g : Bag) : Nat → Option D
  | 0 => some (.int g.c)
  | 1 => some (.int g.s)
  | 2 => some (.int g.at_)
  | 3 => some (.list (g.cs.map .int))
  | _ => none
def setF (g : Bag) (n : Int) : Nat → Option Bag
  | 0 => some { g with c := n }
  | 1 => some { g with s := n }
  | 2 => some { g with at_ := n }
  | _ => none
def getB (k : Nat) : M D := fun S => match S with
  | some g => (bagF g k).map fun d => (.ok d, some g)
  | none => none
def modB (k : Nat) (n : Int) : M Unit := fun S => match S with
  | some g => (setF g n k).map fun g' => (.ok (), some g')
  | none => none
def eBag (i k : Nat) : DE → M D := fun δ => M.bind (M.lift (isBag δ i)) fun _ => getB k
def sBag (i k : Nat) (m : DE → M D) : DE → M Ctl := fun δ => M.bind (M.lift (isBag δ i)) fun _ => M.bind (m δ) fun x => M.bind (M.lift (asI x)) fun n => M.bind (modB k n) fun _ => M.ret (.nx δ)
def sBagA (i k : Nat) (m : DE → M D) : DE → M Ctl := fun δ => M.bind (M.lift (isBag δ i)) fun _ => M.bind (getB k) fun y => M.bind (M.lift (asI y)) fun z => M.bind (m δ) fun x => M.bind (M.lift (asI x)) fun n => M.bind (modB k (z + n)) fun _ => M.ret (.nx δ)
def vals4 (g : Bag) (l : Addr) : List V := [.int g.c, .int g.s, .int g.at_, .ref l]
section
variable {K : PySem.W.Frag} {B : Option Addr} {G F H : Hp} {σ : L2.St} {δ : DE} {S : Option Bag} {g g' : Bag} {b l : Addr} {i k : Nat}
theorem bag_at (bs : Base K B G F H σ δ (some g)) : ∃ b l, B = some b ∧ F b = none ∧ H b = some (.lst (vals4 g l)) ∧ F l = some (.lst (g.cs.map V.int)) := bs.bag
theorem bag_slot (bs : Base K B G F H σ δ S) (h : isBag δ i = some ()) : ∃ b, B = some b ∧ σ[i]? = some (some (.ref b)) := by
  have e1 : δ[i]? = some (some .bag) := by
    unfold isBag at h
    split at h
    · assumption
    · cases h
  obtain ⟨v, h1, bb, h2, h3⟩ := bs.env.rep i _ e1
  subst h2
  exact ⟨bb, h3, h1⟩
theorem bagF_v {d : D} (h : bagF g k = some d) (hl : F l = some (.lst (g.cs.map V.int))) : ∃ v, (vals4 g l)[k]? = some v ∧ Dv K F d v := by
  match k, h with
  | 0, h => cases h; exact ⟨_, rfl, rfl⟩
  | 1, h => cases h; exact ⟨_, rfl, rfl⟩
  | 2, h => cases h; exact ⟨_, rfl, rfl⟩
  | 3, h => cases h; exact ⟨_, rfl, l, _, rfl, hl, DvA.ints.mpr rfl⟩
theorem setF_v {n : Int} (h : setF g n k = some g') : k < 4 ∧ (vals4 g l).set k (.int n) = vals4 g' l ∧ g'.cs = g.cs := by
  match k, h with
  | 0, h => cases h; exact ⟨by decide, rfl, rfl⟩
  | 1, h => cases h; exact ⟨by decide, rfl, rfl⟩
  | 2, h => cases h; exact ⟨by decide, rfl, rfl⟩
theorem bag_set (bs : Base K B G F H σ δ (some g)) (hB : B = some b) (hb : F b = none) (hl : F l = some (.lst (g.cs.map V.int))) (hc : g'.cs = g.cs) : Base K B G F (upd H b (.lst (vals4 g' l))) σ δ (some g') := by
  refine ⟨bs.fh.mut hb, bs.gh.mut (bs.gB b hB), bs.gB, ⟨bs.env.len, fun j s e => ?_, bs.env.gfr, bs.env.dis⟩, b, l, hB, hb, upd_same, by rw [hc]; exact hl⟩
  obtain ⟨v, e1, e2⟩ := bs.env.rep j s e
  refine ⟨v, e1, ?_⟩
  cases s with
  | d x => exact e2
  | bag => exact e2
  | own ys =>
    obtain ⟨p, ws, e5, k1, k2, k3, k4⟩ := e2
    refine ⟨p, ws, e5, k1, k2, ?_, k4⟩
    rw [upd_ne (fun z => k2 (by rw [hB, z]))]; exact k3
theorem bag_one {b' : Addr} (h : B = some b) (h' : B = some b') : b' = b := by rw [h] at h'; exact (Option.some.inj h').symm
theorem getB_some {d : D} {S' : Option Bag} {r : Except Exn D} (h : getB k S = some (r, S')) : ∃ g d, S = some g ∧ bagF g k = some d ∧ r = .ok d ∧ S' = some g := by
  cases S with
  | none => cases h
  | some g =>
    have h' : (bagF g k).map (fun d => (Except.ok d, some g)) = some (r, S') := h
    cases e : bagF g k with
    | none => rw [e] at h'; cases h'
    | some d =>
      rw [e] at h'
      have e2 : (Except.ok d, some g) = (r, S') := Option.some.inj h'
      exact ⟨g, d, rfl, e, (congrArg Prod.fst e2).symm, (congrArg Prod.snd e2).symm⟩
end
theorem pget_list {X : Cx} : PGet X (rIxL X.K) := by
  intro pins s σ H o i ov iv Q I ro ri h
  obtain ⟨p, xs, i, z, rfl, rfl, hq, he, q⟩ := h
  cases ro
  obtain ⟨t, rfl⟩ := ri
  obtain ⟨its, r, pl, hz⟩ := I.list hq
  obtain ⟨j, h1, h2, h3, h4, h5⟩ := atI_get he
  obtain ⟨w, ew, rw'⟩ := r.get h2
  have hl := r.length
  have hn := line63
  have fin : EP X pins σ Q w s := ⟨z, H, I, rw', q⟩
  by_cases h0 : 0 ≤ i
  · have hj : i.toNat = j := by
      rw [seqIndex_of h0 h5] at h1
      exact Option.some.inj h1
    exact wpAny_getItem_list pl.isList h0 (by omega) (by rw [hj]; simpa using ew) fin
  · have hj : (i + (its.toArray.size : Int)).toNat = j := by
      rw [seqIndex_neg (by omega) h4] at h1
      rw [List.size_toArray, ← hl]
      exact Option.some.inj h1
    exact wpAny_getItem_list_neg pl.isList (by omega) (by rw [List.size_toArray] <;> omega) (by omega) (by rw [hj]; simpa using ew) fin
section
variable {X : Cx} {E : XK} {e o : Expr} {me : DE → M D} {i k : Nat} {j : Nat} {pos p1 p2 : Pos}
theorem pd_bag (ho : PE X o (tVar i)) (hs : PlainIx (.Constant (.int (k : Nat)) j p1)) : PE X (.Subscript o (.Constant (.int (k : Nat)) j p1) pos) (tD X.K E (eBag i k)) := PE.wk (pe_ix ix_list ho (pe_int (i := ((k : Nat) : Int)) (j := j) (pos := p1)) hs) fun σ H Q ⟨B, G, F, δ, S, b, a⟩ => by
  obtain ⟨u, e, a1⟩ := bl_some a
  obtain ⟨bb, hB, h1⟩ := bag_slot b e
  have a2 : Aft E B F H (RD X.K B H) Q (getB k S) := a1
  cases e2 : getB k S with
  | none => rw [e2] at a2; exact a2.elim
  | some r =>
    obtain ⟨r, S'⟩ := r
    obtain ⟨g, d, e3, e4, e5, e6⟩ := getB_some (d := .none) e2
    subst e3
    rw [e2, e5, e6] at a2
    obtain ⟨b', l, k1, k2, k3, k4⟩ := bag_at b
    have := bag_one hB k1
    subst this
    obtain ⟨v, hv, dv⟩ := bagF_v (K := X.K) e4 k4
    exact ⟨.ref b', h1, b', vals4 g l, (k : Nat), v, rfl, rfl, SqL.of k3, atI_nat hv, a2 v F H (Stp.refl b.fh) b.bag dv⟩
theorem sbag_fin {K : PySem.W.Frag} {E : XK} {B : Option Addr} {G F H : Hp} {σ : L2.St} {δ : DE} {S : Option Bag} {N : Ends} {n : Int} {bb : Addr} (b : Base K B G F H σ δ S) (hB : B = some bb) (a : AftS K E B G F N (M.bind (modB k n) (fun _ => M.ret (.nx δ)) S)) :
    ∃ p xs kk j, V.ref bb = .ref p ∧ V.int ((k : Nat) : Int) = .int kk ∧ H p = some (.lst xs) ∧ ixN xs.length kk = some j ∧ N.nx σ (upd H p (.lst (xs.set j (.int n)))) := by
  cases S with
  | none => exact a.elim
  | some g =>
    cases e : setF g n k with
    | none =>
      have em : modB k n (some g) = none := by show (setF g n k).map _ = none; rw [e]; rfl
      rw [M.bind_eq, em] at a
      exact a.elim
    | some g' =>
      have em : modB k n (some g) = some (.ok (), some g') := by show (setF g n k).map _ = _; rw [e]; rfl
      rw [M.bind_eq, em] at a
      obtain ⟨b', l, k1, k2, k3, k4⟩ := bag_at b
      have := bag_one hB k1
      subst this
      obtain ⟨h1, h2, h3⟩ := setF_v (l := l) e
      refine ⟨b', vals4 g l, (k : Nat), k, rfl, rfl, k3, ?_, ?_⟩
      · unfold ixN
        have hk : ((k : Nat) : Int) < ((vals4 g l).length : Nat) := by show (k : Int) < (4 : Nat); omega
        rw [if_pos (by omega), if_pos hk, Int.toNat_natCast]
      · rw [h2]
        exact AftS.nx (S := some g') a (bag_set b hB k2 k4 h3)
theorem psd_bag (ho : PE X o (tVar i)) (he : PE X e (tD X.K E me)) (hs : swapsWithSole [.Subscript o (.Constant (.int ((k : Nat) : Int)) j p1) p2] e pos.line X.env = pure false := by rfl) (hw : swappedStores [.Subscript o (.Constant (.int ((k : Nat) : Int)) j p1) p2] e X.env = pure none := by rfl)
    (h1 : (assignEach [.Subscript o (.Constant (.int ((k : Nat) : Int)) j p1) p2] X.env).map (·.2) = [assign (.Subscript o (.Constant (.int ((k : Nat) : Int)) j p1) p2) X.env] := by rfl)
    (ha : ∀ v, assign (.Subscript o (.Constant (.int ((k : Nat) : Int)) j p1) p2) X.env v = (do
      let ov ← holding [v] (eval o X.env)
      let iv ← holding [v, ov] (eval (.Constant (.int ((k : Nat) : Int)) j p1) X.env)
      standAt p2
      holding [v, ov, iv] (setItem ov iv v)
      release [v, ov, iv] []) := by intro _; rfl) :
    PS X (.Assign [.Subscript o (.Constant (.int ((k : Nat) : Int)) j p1) p2] e pos) (tS X.K E (sBag i k me)) := PS.wk (ps_asg he (pg_sub ho (pe_int (i := ((k : Nat) : Int)) (j := j) (pos := p1)) set_list ha) hs hw h1) fun N σ H ⟨B, G, F, δ, S, b, a⟩ => by
  obtain ⟨u, e, a1⟩ := sl_some a
  obtain ⟨bb, hB, h1⟩ := bag_slot b e
  refine AftS.bind (R1 := RD X.K) (m := me) (k := fun x => M.bind (M.lift (asI x)) fun n => M.bind (modB k n) fun _ => M.ret (.nx δ)) b a1 fun F1 H1 S1 x v t b1 r a2 => ?_
  obtain ⟨n, e2, a3⟩ := sl_some a2
  have e3 : x = .int n := by cases x <;> first | (cases e2; rfl) | cases e2
  subst e3
  have r' : v = .int n := r
  subst r'
  exact ⟨.ref bb, h1, sbag_fin b1 hB a3⟩
theorem psd_bagA (ho : PE X o (tVar i)) (he : PE X e (tD X.K E me)) (ha : ∀ ov iv new, augStore (.Constant (.int ((k : Nat) : Int)) j p1) ov iv new = (do holding [new, ov, iv] (setItem ov iv new); release [new, ov, iv] []; pure .next) := by intros; rfl) :
    PS X (.AugAssign (.Subscript o (.Constant (.int ((k : Nat) : Int)) j p1) p2) .Add e pos) (tS X.K E (sBagA i k me)) := PS.wk (ps_augS ho (pe_int (i := ((k : Nat) : Int)) (j := j) (pos := p1)) pget_list he ip_add set_list ha) fun N σ H ⟨B, G, F, δ, S, b, a⟩ => by
  obtain ⟨u, e, a1⟩ := sl_some a
  obtain ⟨bb, hB, h1⟩ := bag_slot b e
  have a2 : AftS X.K E B G F N (M.bind (getB k) (fun y => M.bind (M.lift (asI y)) fun z => M.bind (me δ) fun x => M.bind (M.lift (asI x)) fun n => M.bind (modB k (z + n)) fun _ => M.ret (.nx δ)) S) := a1
  rw [M.bind_eq] at a2
  cases e2 : getB k S with
  | none => rw [e2] at a2; exact a2.elim
  | some r =>
    obtain ⟨r, S'⟩ := r
    obtain ⟨g, d, e3, e4, e5, e6⟩ := getB_some (d := .none) e2
    subst e3
    rw [e2, e5, e6] at a2
    obtain ⟨z, e7, a3⟩ := sl_some a2
    have e8 : d = .int z := by cases d <;> first | (cases e7; rfl) | cases e7
    subst e8
    obtain ⟨b', l, k1, k2, k3, k4⟩ := bag_at b
    have := bag_one hB k1
    subst this
    obtain ⟨v, hv, dv⟩ := bagF_v (K := X.K) e4 k4
    have dv' : v = .int z := dv
    subst dv'
    refine ⟨.ref b', h1, b', vals4 g l, (k : Nat), _, rfl, rfl, SqL.of k3, atI_nat hv, ?_⟩
    refine AftS.bind (R1 := RD X.K) (m := me) (k := fun x => M.bind (M.lift (asI x)) fun n => M.bind (modB k (z + n)) fun _ => M.ret (.nx δ)) b a3 fun F1 H1 S1 x v t b1 r a4 => ?_
    obtain ⟨n, e9, a5⟩ := sl_some a4
    have e10 : x = .int n := by cases x <;> first | (cases e9; rfl) | cases e9
    subst e10
    have r' : v = .int n := r
    subst r'
    exact ⟨z, n, rfl, rfl, sbag_fin b1 hB a5⟩
end
end Pd
namespace Pd
open PySem PySem.Spec PyProof.Rows L2

/-! ### repr, where no other repr runs -/
def okRepr (d : D) : Bool := SeqAt.shaped d && PyData.showable d && decide (d.shown.length ≤ 16777216)
def pyRepr1 (d : D) : Option D := if okRepr d = true then some (.str d.shown) else none
theorem cd_repr {X : Cx} (hg : X.A.guards = some []) (hu : X.A.units + 100 < cLine) : CallR X (.builtin "repr") (rCl X.K (on1 pyRepr1)) := clr_of fun pins s σ H us Q F d v z I r fh hd hz q => by
  unfold pyRepr1 at hz
  by_cases h : okRepr d = true
  · rw [if_pos h] at hz
    obtain ⟨h12, h3⟩ := Bool.and_eq_true_iff.mp h
    obtain ⟨h1, h2⟩ := Bool.and_eq_true_iff.mp h12
    have hl : d.shown.length ≤ sizeLine := by rw [line_eq]; exact of_decide_eq_true h3
    have hdep := SeqAt.depth_of_shaped h1
    have hno := PyData.hasDict_of_canLay d (SeqAt.canLay_of_shaped h1)
    have fin : ∀ (tk tk' : Nat), EP X pins σ Q (.str d.shown tk) { s with toks := tk' } := fun tk tk' => ⟨.str d.shown, H, I.tok _, ⟨_, rfl⟩, q _ F H (Stq.refl fh) (by rw [← Option.some.inj hz]; rfl)⟩
    obtain ⟨u, rfl, rx⟩ := vals1 r
    have deep : ∀ a, v = .ref a → wpAny (model X.prog X.w) X.A (call (.builtin "repr") [u]) (EP X pins σ Q) X.xe s := fun a e => by
      subst e
      cases rx
      obtain ⟨as, rd⟩ := Dp.reads I d _ _ (dva_v fh hd) rfl
      refine repr_of_reads' rd h2 (fun e => by rw [hno] at e; cases e) hg (by omega) (fun _ _ e => e) (fun h' u tk hk => ?_) hl
      exact ⟨.str d.shown, H, I.kept (t' := tk) hk, ⟨_, rfl⟩, q _ F H (Stq.refl fh) (by rw [← Option.some.inj hz]; rfl)⟩
    cases d with
    | none =>
      rw [show v = .non from hd] at rx
      cases rx
      exact PySem.P.repr_of_none (fin _ _)
    | bool b =>
      rw [show v = .bl b from hd] at rx
      cases rx
      exact PySem.P.repr_of_bool (fin _ _)
    | int i =>
      rw [show v = .int i from hd] at rx
      obtain ⟨t, rfl⟩ := rx
      exact PySem.P.repr_of_int (of_decide_eq_true (show decide (i.natAbs.log2 < 1920) = true from h2)) (fin _ _)
    | str y =>
      rw [show v = .str y from hd] at rx
      obtain ⟨t, rfl⟩ := rx
      exact PySem.P.repr_of_str (fin _ _) hl
    | list ds => obtain ⟨a, xs, e, _⟩ := hd; exact deep a e
    | tuple ds => obtain ⟨a, xs, e, _⟩ := hd; exact deep a e
    | dict _ => exact hd.elim
  · rw [if_neg h] at hz; cases hz

/-! ### a def that is called where no repr runs -/
structure FnG (P : Program) (w : World) (K : PySem.W.Frag) (mg : Str → Option Value) (base : Heap) (k : Nat) (f : Addr) (fd : FuncData) (ps : List Str) (sp : Sp) : Prop where
  len : ∀ vs H Q E, sp vs H Q E → vs.length = ps.length
  run : ∀ (A : Around) (outer : List Env) (s : Shared) (H : Hp) (args : Args) (us : List Value) (vs : List V) (Q : VK) (E : XK), A.guards = some [] → Room k A → Env0 P w K mg base A outer s H → BindsTo s fd args (ps.zip us) → Vals vs us → sp vs H Q E →
    codeAny (model P w) A (.call (.ref f) args) (CR CX0 outer P w H s Q E) s
theorem FnG.imp {P : Program} {w : World} {K : PySem.W.Frag} {mg : Str → Option Value} {base : Heap} {k : Nat} {f : Addr} {fd : FuncData} {ps : List Str} {sp sp' : Sp} (F : FnG P w K mg base k f fd ps sp) (h : ∀ vs H Q E, sp' vs H Q E → sp vs H Q E) : FnG P w K mg base k f fd ps sp' :=
  ⟨fun vs H Q E q => F.len vs H Q E (h _ _ _ _ q), fun A outer s H args us vs Q E hg hr he hb hv hs => F.run A outer s H args us vs Q E hg hr he hb hv (h _ _ _ _ hs)⟩
/-- by its body: as Fun.ok, the guards told -/
theorem fn_g {P : Program} {w : World} {K : PySem.W.Frag} {mg : Str → Option Value} {base : Heap} {x qual : Str} {st : Stmt} {f : Addr} {fd : FuncData} {N ps : List Str} {k : Nat} {sp : Sp} (F : Fun K x qual st f fd) (S : FnScope N ps (defScope st)) (len : ∀ vs H Q E, sp vs H Q E → vs.length = ps.length)
    (hbody : ∀ (cdv : Value) (A : Around) (outer : List Env) (s : Shared) (H : Hp) (vs : List V) (Q : VK) (E : XK), A.guards = some [] → Room k (A.deeper (envOfC qual (defScope st) s.heap.objs.size f cdv)) → sp vs H Q E →
      ∃ t, PSs (cxOf CX0 P w K mg base N qual (defScope st) f cdv A outer s H E).nox (defBody st) t ∧ t { nx := fun _ H' => Q .non H', rt := Q } (L2.start N vs) H) : FnG P w K mg base (k + 1) f fd ps sp := by
  obtain ⟨oc, od, kV, doc, pm, an, cdv, ct, osl, e, lk, hcd⟩ := F.ex
  subst e
  refine ⟨len, fun A outer s H args us vs Q E hg hr e0 hb r hsp => ?_⟩
  have room : Room k (A.deeper (envOfC qual (defScope st) s.heap.objs.size f cdv)) := hr.deeper _
  obtain ⟨t, ht, hq⟩ := hbody cdv A outer s H vs Q E hg room hsp
  -- the promise for this one call alone
  have keyK : K.In s.heap := e0.mod.kin.keeps fun b o e => (e0.bs b o e).1
  have lim : s.heap.NoLimit := e0.mod.nolimit.keeps fun b o e => (e0.bs b o e).1
  have kinds : ∀ y ∈ ps.zip us, (defScope st).names.lookup y.1 = some .local ∨ ((defScope st).names.lookup y.1 = some .cell ∧ ((cellsFrom (s.heap.objs.size + 1) (defScope st).names []).lookup y.1).isSome = true) := by
    intro y hy
    obtain ⟨n, v⟩ := y
    rcases S.par n (List.of_mem_zip hy).1 with q | q
    · exact .inl q
    · exact .inr ⟨q, PySem.W.cellsFrom_some _ _ _ (.inl q)⟩
  refine codeAny_call_function hr.depth (keyK _ _ lk) rfl S.co S.gen rfl (PySem.W.codeRec_of keyK hcd) (hb _ _ _ _ ?_)
  refine wpAny_newFunctionEnv_cells S.kind kinds fun env he s1 hx => ?_
  subst he
  refine ⟨lim.keeps hx.toInCall.keep, codeAny_func ?_⟩
  have I := inv_start (CX := CX0) (P := P) (w := w) (K := K) (mg := mg) (base := base) (E := E) S hr.hd e0 (len _ _ _ _ hsp) r hx
  refine wpAny_mono (ht.nox.run [] s1 (L2.start N vs) H _ I hq) (fun fl s' hs => ?_) fun e s' hs => hs
  cases fl with
  | ret u =>
    obtain ⟨v, σ', H', J, rv, q⟩ := hs
    exact ⟨v, H', J.os, J.bare, J.base, J.hok, rv, q⟩
  | next =>
    obtain ⟨σ', H', J, q⟩ := hs
    exact ⟨.non, H', J.os, J.bare, J.base, J.hok, rfl, q⟩
  | brk => obtain ⟨_, _, _, q⟩ := hs; exact q.elim
  | cont => obtain ⟨_, _, _, q⟩ := hs; exact q.elim
theorem fn_gpd {P : Program} {w : World} {K : PySem.W.Frag} {mg : Str → Option Value} {base : Heap} {x qual : Str} {st : Stmt} {f : Addr} {fd : FuncData} {N ps : List Str} {k : Nat} {m : DE → M Ctl} (F : Fun K x qual st f fd) (S : FnScope N ps (defScope st))
    (hbody : ∀ (cdv : Value) (A : Around) (outer : List Env) (s : Shared) (H : Hp) (E : XK), A.guards = some [] → Room k (A.deeper (envOfC qual (defScope st) s.heap.objs.size f cdv)) →
      PSs (cxOf CX0 P w K mg base N qual (defScope st) f cdv A outer s H E).nox (defBody st) (tS K E0 m)) : FnG P w K mg base (k + 1) f fd ps (spF K (runF m N.length) ps.length) := by
  refine fn_g F S (fun vs H Q E h => spF_len h) fun cdv A outer s H vs Q E hg hr h => ⟨_, hbody cdv A outer s H E hg hr, ?_⟩
  obtain ⟨B, F, ss, S', h1, fh, bag, r, a⟩ := h
  exact ⟨B, _, F, _, S', entry_base fh bag r, exit_aft a⟩
section
variable {X : Cx} {E : XK} {e : Expr} {es : List Expr} {ma : DE → M (List Sl)} {x : Str} {p pos : Pos}
theorem pe_callG {k : Nat} {f : Addr} {fd : FuncData} {ps : List Str} {sp : Sp} {t : TA} (Fk : FnG X.prog X.w X.K X.mg X.base k f fd ps sp) (gd : X.A.guards = some []) (hr : Room k X.A) (hg : Gl X x) (hm : X.mg x = some (.ref f)) (hk : PySem.W.keepIn X.K (.ref f) = true) (hb : Binds X.K fd ps [])
    (ha : PA X (e :: es) t) (hdb : (x == ("__debug__" : Str)) = false := by decide) (he : starEach (e :: es) X.env = (false, eval e X.env) :: starEach es X.env := by rfl) (hpl : (backTo pos (starEach es X.env)).any (·.1) = false := by rfl) :
    PE X (.Call (.Name x p) (e :: es) [] pos) (tCall sp [] E t) := by
  refine ⟨fun pins s σ H Q I h => ?_⟩
  refine wpAny_Call_Name_kw (ld_glob I hg hm ?_ hdb)
  refine PySem.W.callWith_K (h₀ := X.base) I.ok.mod.kin hk (thn (ha.run pos pins s σ H _ I h) fun us s1 ⟨vs, H1, I1, r, q⟩ => ⟨I1.kIn, ?_⟩) he hpl
  have q : sp (vs ++ []) H1 Q E := q
  rw [List.append_nil] at q
  have hl : (us ++ []).length = ps.length := by rw [List.append_nil, ← r.length]; exact Fk.len _ _ _ _ q
  have bd := hb s1 us I1.kIn hl
  rw [List.append_nil] at bd
  refine wpAny_call (codeAny_mono (Fk.run X.A X.stack s1 H1 ⟨us, []⟩ us vs Q E gd hr I1.env0 bd r q) fun res s' hq => ?_)
  cases res with
  | error e => exact hq.elim
  | ok fl =>
    cases fl with
    | ret u => exact I1.after hq
    | next => exact hq.elim
    | brk => exact hq.elim
    | cont => exact hq.elim
theorem pr_callG {f : List Sl → M Sl} {n k : Nat} {fa : Addr} {fd : FuncData} {ps : List Str} (Fk : FnG X.prog X.w X.K X.mg X.base k fa fd ps (spF X.K f n)) (gd : X.A.guards = some []) (hr : Room k X.A) (hg : Gl X x) (hm : X.mg x = some (.ref fa)) (hk : PySem.W.keepIn X.K (.ref fa) = true) (hb : Binds X.K fd ps [])
    (ha : PA X (e :: es) (tAs X.K E ma)) (hdb : (x == ("__debug__" : Str)) = false := by decide) (he : starEach (e :: es) X.env = (false, eval e X.env) :: starEach es X.env := by rfl) (hpl : (backTo pos (starEach es X.env)).any (·.1) = false := by rfl) :
    PE X (.Call (.Name x p) (e :: es) [] pos) (tR X.K E (eCall (onlyN n f) ma)) := by
  have Fk' := Fk.imp (spF_mono (f := f) (g := onlyN n f) fun ss S r h e => by unfold onlyN at e; rw [if_pos h] at e; exact e)
  exact PE.wk (pe_callG Fk' gd hr hg hm hk hb ha hdb he hpl) fun _ _ _ h => call_wk onlyN_no h
end
end Pd
namespace Pd
open PySem PySem.Spec PyProof.Rows L2

/-! ### the law's end, for a def that is called where no repr runs -/
theorem law_callG {P : Program} {w : World} {K : PySem.W.Frag} {mg mb : Str → Option Value} {k : Nat} {fa a : Addr} {fd : FuncData} {x : Str} {sp : Sp} {s₁ : Shared} {vs : List Value} {ns : List Int}
    (KX : K.In s₁.heap) (hns : s₁.heap.Ns mainGlobals mg) (hb : s₁.heap.Ns builtinsNs mb) (hbb : ∀ x : Str, x ≠ "__name__" → mb x = bootBuiltins x) (hlim : s₁.heap.NoLimit) (hg : s₁.gens = #[])
    (ha : s₁.heap.get? a = some { cls := .type "list", data := .seq vs.toArray }) (hi : IntsAre vs ns) (hl : ns.length ≤ sizeLine) (hr : Room k callerA)
    (F : ∀ base : Heap, K.In base → base.Ns mainGlobals mg → FnG P w K mg base k fa fd [x] sp) (hbind : ∀ (s : Shared) (u : Value), BindsTo s fd ⟨[u], []⟩ [(x, u)])
    (hsp : ∀ H : Hp, Only H → SqL K H a (ns.map V.int) → sp [.ref a] H (fun v _ => v = .bl true) fun _ _ _ => False) :
    codeAny (model P w) callerA (.call (.ref fa) ⟨[.ref a], []⟩) (fun r s' => r = .ok (.ret (.bool true)) ∧ OldK s₁.heap s'.heap ∧ s'.os = s₁.os ∧ AllBare s'.gens) s₁ := by
  have rv := L2.vals_ints hi
  have lenV := hi.length
  -- the abstract heap: the script alone, or nothing
  let H : Hp := fun b => if b = a ∧ K.lookup a = none then some (.frz { cls := .type "list", data := .seq vs.toArray } (.lst (ns.map V.int))) else none
  have Ha : ∀ {b u}, H b = some u → b = a ∧ K.lookup a = none ∧ u = .frz { cls := .type "list", data := .seq vs.toArray } (.lst (ns.map V.int)) := fun {b u} e => by
    have e' : (if b = a ∧ K.lookup a = none then some (HO.frz { cls := .type "list", data := .seq vs.toArray } (.lst (ns.map V.int))) else none) = some u := e
    by_cases c : b = a ∧ K.lookup a = none
    · rw [if_pos c] at e'; exact ⟨c.1, c.2, (Option.some.inj e').symm⟩
    · rw [if_neg c] at e'; cases e'
  have ok : HOk P w H s₁.heap := fun b u e => by
    obtain ⟨e1, _, e2⟩ := Ha e
    subst e1 e2
    exact ⟨ha, by rw [List.length_map]; exact hl, vs, _, rv, ha⟩
  have only : Only H := fun b => by
    cases q : H b with
    | none => exact .inl rfl
    | some u => obtain ⟨_, _, e⟩ := Ha q; exact .inr ⟨_, _, by rw [e]⟩
  have sq : SqL K H a (ns.map V.int) := by
    cases hk : K.lookup a with
    | none => exact .inl (.inr ⟨{ cls := .type "list", data := .seq vs.toArray }, if_pos ⟨rfl, hk⟩⟩)
    | some o =>
      have e := KX a o hk
      rw [ha] at e
      cases e
      exact .inr ⟨_, vs.toArray, _, hk, rfl, rfl, rfl, by rw [List.size_toArray, lenV]; exact hl, by simpa using rv⟩
  have dict : ∀ {b : Addr} {o : Obj} {es : Array DictEntry} {ep : Nat}, s₁.heap.get? b = some o → o.data = .dict es ep → H b = none := fun {b o es ep} e d => by
    cases q : H b with
    | none => rfl
    | some u =>
      obtain ⟨e1, _, _⟩ := Ha q
      subst e1
      rw [ha] at e
      have e2 := Option.some.inj e
      rw [← e2] at d
      exact Data.noConfusion d
  have nsK : ∀ {b : Addr} {m : Str → Option Value}, s₁.heap.Ns b m → (hidT s₁.heap H).Ns b m := fun {b m} ⟨o, es, ep, e, d, r⟩ => ⟨o, es, ep, hidT_get e (dict e d), d, r⟩
  have hK : K.In (hidT s₁.heap H) := fun b o e => hidT_get (KX b o e) (by
    cases q : H b with
    | none => rfl
    | some u => obtain ⟨e1, e2, _⟩ := Ha q; rw [← e1, e] at e2; cases e2)
  have hM : Mod K mg (hidT s₁.heap H) := ⟨hK, nsK hns, ⟨mb, nsK hb, hbb⟩, let ⟨mc, h1, h2⟩ := hlim; ⟨mc, nsK h1, h2⟩⟩
  have nof : ∀ b : Addr, b ∉ frs ([] : List Env) := fun b hb => absurd (show b ∈ ([] : List Addr) from hb) (by simp)
  have e0 : Env0 P w K mg (hidT s₁.heap H) callerA [] s₁ H := ⟨rfl, hM, fun b o e => of_hidT e, Nat.le_of_eq (hidT_size _ _), trivial, fun b hb => absurd hb (nof b), ok, .of_eq hg⟩
  refine codeAny_mono ((F _ hK (nsK hns)).run callerA [] s₁ H ⟨[.ref a], []⟩ [.ref a] [.ref a] _ _ rfl hr e0 (hbind s₁ (.ref a)) (.cons rfl .nil) (hsp H only sq)) fun r s' h => ?_
  cases r with
  | error e => exact h.elim
  | ok fl =>
    cases fl with
    | next => exact h.elim
    | brk => exact h.elim
    | cont => exact h.elim
    | ret u =>
      obtain ⟨v, H', os, bare, un, hok', r', q⟩ := h
      have q' : v = .bl true := q
      subst q'
      have ru : u = Value.bool true := r'
      subst ru
      refine ⟨rfl, OldK.of_keep fun b o e => ?_, os, bare⟩
      cases q : H b with
      | none => exact un.keep b o e q (nof b) (by simp)
      | some u =>
        obtain ⟨e1, _, e2⟩ := Ha q
        rw [e2] at q
        have z2 := un.frzs b _ _ q
        obtain ⟨e3, _⟩ := ok b _ q
        obtain ⟨e4, _⟩ := hok' b _ z2
        rw [e] at e3
        rw [Option.some.inj e3]
        exact e4
theorem walk_ofG {l : PySem.W.OpenLaw} {n k : Nat} {q : Program} {loose : List Str} {XP : (Str → Option Value) → Heap → Prop} {YP : World → Heap → Prop} {d : DefRec} {K : Params → PySem.W.Frag} {sp : PySem.W.Frag → Sp} {x : Str}
    (hn : l.most = some n) (hn2 : n ≤ sizeLine) (hdf : d.params.defaults = []) (hr : Room k callerA)
    (hY : ∀ (w : World) (h : Heap), YP w h → (K w.params).In h)
    (F : ∀ (w : World) (mg : Str → Option Value) (fa : Addr) (h : Heap), (K w.params).In h → h.Ns mainGlobals mg → mg d.name = some (.ref fa) →
      ∃ fd : FuncData, (∀ (s : Shared) (u : Value), BindsTo s fd ⟨[u], []⟩ [(x, u)]) ∧
        ∀ base : Heap, (K w.params).In base → base.Ns mainGlobals mg → FnG l.prog w (K w.params) mg base k fa fd [x] (sp (K w.params)))
    (hsp : ∀ (K : PySem.W.Frag) (H : Hp) (a : Addr) (ns : List Int), ns.length ≤ n → Only H → SqL K H a (ns.map V.int) → sp K [.ref a] H (fun v _ => v = .bl true) fun _ _ _ => False) :
    PySem.W.WalkO q loose XP YP l.row.toRowW d [] (fun f vs => PySem.call f vs) := by
  refine Att.attach_call hn hdf fun w s₀ s₁ mg mb fa o pm cd doc a vs ns G Y ho hd hcd hmg hobj hints hlen hg => ?_
  have KX := hY w _ Y
  obtain ⟨fd, hb, hF⟩ := F w mg fa _ KX G.T.g hmg
  exact law_callG KX G.T.g G.T.b G.T.builtins G.T.nolimit hg hobj hints (Nat.le_trans hlen hn2) hr hF hb fun H hO hS => hsp _ H a ns hlen hO hS
end Pd
namespace Pd
open PySem PySem.Spec PyProof.Rows L2

/-! ### the law's bag, its entry -/
def absI (i : Int) : Int := if i < 0 then -i else i
def bag0 (ns : List Int) : Bag := ⟨0, 1234567891, 0, ns.map absI⟩
def spBag (K : PySem.W.Frag) : Sp := fun vs H Q _ => ∃ (a : Addr) (ns : List Int), vs = [.ref a] ∧ SqL K H a (ns.map V.int) ∧ ns.length ≤ 63 ∧
  ∀ (H' : Hp) (b l : Addr), Sub H H' → H b = none → H l = none → b ≠ l → H' l = some (.lst ((ns.map absI).map V.int)) → H' b = some (.lst (vals4 (bag0 ns) l)) → Q (.ref b) H'
theorem cut63 {ns : List Int} (h : ns.length ≤ 63) : cutV (ns.map V.int) none (some 63) = ns.map V.int := by
  have e : HT.sIx (ns.map V.int).length (ns.map V.int).length (some 63) = min 63 (ns.map V.int).length := HT.sIx_nat (ns.map V.int).length (ns.map V.int).length 63
  unfold cutV
  rw [e, HT.sIx_none, List.drop_zero]
  exact List.take_of_length_le (by rw [List.length_map]; omega)
theorem bag_read {K : PySem.W.Frag} {a : Addr} {ns : List Int} {H : Hp} {Q : VK} {N : Ends} (hN : N.rt = Q) (hS : SqL K H a (ns.map V.int)) (hl : ns.length ≤ 63)
    (q : ∀ (H' : Hp) (b l : Addr), Sub H H' → H b = none → H l = none → b ≠ l → H' l = some (.lst ((ns.map absI).map V.int)) → H' b = some (.lst (vals4 (bag0 ns) l)) → Q (.ref b) H') :
    tRet (tLst (tCons (tC (.int 0)) (tCons (tC (.int 1234567891)) (tCons (tC (.int 0)) (tCons (tLc (iList K (tSl (rSlL K) (tVar 0) tNoPart (tPart (tC (.int 63))))) (gName 1) tYes
      (tCB (fun xs H Q => ∃ i, xs = [.int i] ∧ Q (.int (if i < 0 then -i else i)) H) (tCons (tVar 1) tNil)) [1]) tNil))))) N [some (.ref a), none] H := by
  subst hN
  refine ⟨.ref a, rfl, 63, rfl, a, ns.map V.int, rfl, hS, fun p hp => ?_⟩
  rw [cut63 hl]
  refine ⟨p, rfl, ⟨_, SqL.of upd_same⟩, fun D hD => ?_⟩
  have hDp : D ≠ p := fun e => by rw [e, upd_same] at hD; cases hD
  have hDn : H D = none := by rw [upd_ne hDp] at hD; exact hD
  refine lc_list (xs := ns.map V.int) (K := K) (fun i H' => Sub (upd H p (.lst (ns.map V.int))) H' ∧ H' D = some (.lst (((ns.take i).map absI).map V.int))) ⟨Sub.up hD, upd_same⟩ (fun i H' _ h => SqL.of (h.1 _ _ upd_same)) (fun i x H' hx h => ?_) (fun H' h => ?_)
  · rw [List.getElem?_map] at hx
    cases e : ns[i]? with
    | none => rw [e] at hx; cases hx
    | some z =>
      rw [e] at hx
      have hx' : x = .int z := (Option.some.inj hx).symm
      subst hx'
      refine ⟨rfl, ?_⟩
      unfold tYes
      dsimp only
      rw [if_pos rfl]
      refine ⟨.int z, rfl, z, rfl, _, h.2, ?_, ?_, ?_⟩
      · rw [List.length_map, List.length_map, List.length_take]
        exact Nat.lt_of_le_of_lt (Nat.min_le_left _ _) (small1000 (by have := (List.getElem?_eq_some_iff.mp e).1; omega))
      · exact h.1.mut hD
      · rw [upd_same, List.take_add_one, e]
        simp [absI]
  · have h2 := h.2
    rw [List.length_map, List.take_length] at h2
    refine ⟨by show 4 ≤ sizeLine; decide, fun b hb => ?_⟩
    have hbD : b ≠ D := fun e => by rw [e, h2] at hb; cases hb
    have sH : Sub H H' := (Sub.up hp).trans h.1
    exact q _ b D (sH.trans (Sub.up hb)) (sH.free hb) hDn hbD (by rw [upd_ne (Ne.symm hbD)]; exact h2) upd_same
/-- the law: its bag, then the rest as it is told -/
def spLaw (K : PySem.W.Frag) : Sp := fun vs H Q _ => ∃ (a : Addr) (ns : List Int), vs = [.ref a] ∧ SqL K H a (ns.map V.int) ∧ ns.length ≤ 63 ∧ ∀ H', Q (.bl true) H'
theorem law_read {K : PySem.W.Frag} {N : List Str} {m : DE → M Ctl} {a : Addr} {ns : List Int} {H : Hp} {Q : VK} {E : XK} {S' : Option Bag} {r : Nat} (hN : N.length = r + 2) (hS : SqL K H a (ns.map V.int)) (hl : ns.length ≤ 63) (q : ∀ H', Q (.bl true) H')
    (hm : m (none :: some .bag :: List.replicate r none) (some (bag0 ns)) = some (.ok (.rt (.d (.bool true))), S')) :
    tSeq (tAsg (tCall (spBag K) [] E (tCons (tVar 0) tNil)) (gName 1)) (tS K E0 m) { nx := fun _ H' => Q .non H', rt := Q } (L2.start N [.ref a]) H := by
  refine ⟨.ref a, rfl, a, ns, rfl, hS, hl, fun H' b l s hb hln hbl h1 h2 => ?_⟩
  let F : Hp := fun x => if x = l then some (.lst ((ns.map absI).map V.int)) else none
  have Fl : F l = some (.lst ((ns.map absI).map V.int)) := if_pos rfl
  have Fn : ∀ x, x ≠ l → F x = none := fun x h => if_neg h
  refine ⟨some b, H, F, none :: some .bag :: List.replicate r none, some (bag0 ns), ⟨fun x o e => ?_, s, fun x e => ?_, ⟨?_, fun i sl e => ?_, fun i xs p e => ?_, fun i j xs ys p e => ?_⟩, b, l, rfl, Fn b hbl, h2, Fl⟩, ?_⟩
  · by_cases hx : x = l
    · subst hx; rw [Fl] at e; rw [← e]; exact h1
    · rw [Fn x hx] at e; cases e
  · cases e; exact hb
  · show (none :: some Sl.bag :: List.replicate r none : DE).length = ((L2.start N [.ref a]).set 1 (some (.ref b))).length
    simp [L2.start, hN]
  · match i, e with
    | 0, e => cases e
    | 1, e =>
      have e' : sl = .bag := by simpa using e.symm
      subst e'
      refine ⟨.ref b, ?_, b, rfl, rfl⟩
      simp [L2.start, hN]
    | i + 2, e => simp [List.getElem?_replicate] at e
  · match i, e with
    | 0, e => cases e
    | 1, e => cases e
    | i + 2, e => simp [List.getElem?_replicate] at e
  · match i, e with
    | 0, e => cases e
    | 1, e => cases e
    | i + 2, e => simp [List.getElem?_replicate] at e
  · rw [hm]
    intro v F' H2 _ _ _ _ rv
    have rv' : v = .bl true := rv
    rw [rv']
    exact q H2
end Pd
namespace Pd
open PySem PySem.Spec PyProof.Rows L2
section
variable {X : Cx} {E : XK} {e : Expr}
theorem hu100 {k : Nat} {A : Around} (h : Room k A) : A.units + 100 < cLine := by
  have := h.un
  omega
theorem pd_globI {x : Str} {i : Int} {pos : Pos} (hg : Gl X x) (hm : ∃ t, X.mg x = some (.int i t)) (hd : (x == ("__debug__" : Str)) = false := by decide) : PE X (.Name x pos) (tD X.K E (eC (.int i))) := by
  obtain ⟨t, h⟩ := hm
  exact pd_glob (v := .int i) hg h (by first | exact ⟨t, rfl⟩ | constructor) (fun _ => rfl) hd
theorem pd_globS {x : Str} {i : Str} {pos : Pos} (hg : Gl X x) (hm : ∃ t, X.mg x = some (.str i t)) (hd : (x == ("__debug__" : Str)) = false := by decide) : PE X (.Name x pos) (tD X.K E (eC (.str i))) := by
  obtain ⟨t, h⟩ := hm
  exact pd_glob (v := .str i) hg h (by first | exact ⟨t, rfl⟩ | constructor) (fun _ => rfl) hd
/-- x, y = a list of its own, data -/
def sParO (i j : Nat) (ma : DE → M (List D)) (mb : DE → M D) : DE → M Ctl := fun δ => M.bind (ma δ) fun x => M.bind (mb δ) fun y => M.ret (.nx ((δ.set i (some (.own x))).set j (some (.d y))))
theorem psd_parO {i j : Nat} {x y : Str} {a b : Expr} {ma : DE → M (List D)} {mb : DE → M D} {px py pt pos : Pos} {kt k2 pt2} (hc : X.calm = true) (hN : X.N.Nodup) (hi : X.N[i]? = some x) (hj : X.N[j]? = some y) (hij : i ≠ j)
    (hx : X.env.scope.names.lookup x = some .local) (hy : X.env.scope.names.lookup y = some .local) (ha : PE X a (tO X.K E ma)) (hb : PE X b (tD X.K E mb))
    (hw : swappedStores [.Tuple [.Name x px, .Name y py] kt pt] (.Tuple [a, b] k2 pt2) X.env = pure (some [x, y]))
    (hs : swapsWithSole [.Tuple [.Name x px, .Name y py] kt pt] (.Tuple [a, b] k2 pt2) pos.line X.env = pure false := by rfl) (h1 : starEach [a, b] X.env = (false, eval a X.env) :: starEach [b] X.env := by rfl) (h2 : starEach [b] X.env = (false, eval b X.env) :: starEach [] X.env := by rfl) :
    PS X (.Assign [.Tuple [.Name x px, .Name y py] kt pt] (.Tuple [a, b] k2 pt2) pos) (tS X.K E (sParO i j ma mb)) := PS.wk (ps_par hc hN hi hj hij hx hy (pa_cons ha (pa_cons hb pa_nil h2) h1) hw hs) fun N σ H ⟨B, G, F, δ, S, b, a⟩ =>
  AftS.bind (R1 := RO X.K) b a fun F1 H1 S1 x v t b1 r a1 => AftS.bind (R1 := RD X.K) b1 a1 fun F2 H2 S2 y w t2 b2 r2 a2 => by
    obtain ⟨p, vs, e, h1, h2, h3, h4, h5⟩ := r
    have r' : RepSl X.K B F1 H1 (.own x) v := ⟨p, vs, e, h3, h2, h4, h5⟩
    obtain ⟨p', vs', e', h3', _, h4', h5'⟩ := r'.step t2
    rw [e] at e'
    cases e'
    subst e
    exact ⟨_, w, rfl, a2.nx ((set_o_of b b2 h1 h2 h3' h4' h5').set_d r2)⟩
end
end Pd
namespace Pd
open PySem PySem.Spec PyProof.Rows L2

/-! ### the bag's numbers -/
structure Good (g : Bag) : Prop where
  c : 0 ≤ g.c
  s : 0 ≤ g.s
  s1 : g.s < 2147483647
  at_ : 0 ≤ g.at_
  len : g.cs.length ≤ 63
  cs : ∀ x ∈ g.cs, 0 ≤ x
/-- m runs on each good bag, hands back what P tells -/
def Tr {α : Type} (m : M α) (P : α → Prop) : Prop := ∀ g, Good g → ∃ a g', m (some g) = some (.ok a, some g') ∧ Good g' ∧ P a
theorem Tr.ret {α : Type} {a : α} {P : α → Prop} (h : P a) : Tr (M.ret a) P := fun g hg => ⟨a, g, rfl, hg, h⟩
theorem Tr.lift {α : Type} {o : Option α} {a : α} {P : α → Prop} (e : o = some a) (h : P a) : Tr (M.lift o) P := fun g hg => ⟨a, g, by rw [e]; rfl, hg, h⟩
theorem Tr.bind {α β : Type} {m : M α} {k : α → M β} {P : α → Prop} {Q : β → Prop} (h : Tr m P) (hk : ∀ a, P a → Tr (k a) Q) : Tr (M.bind m k) Q := fun g hg => by
  obtain ⟨a, g1, e, g2, p⟩ := h g hg
  obtain ⟨b, g3, e2, g4, q⟩ := hk a p g1 g2
  refine ⟨b, g3, ?_, g4, q⟩
  rw [M.bind_eq, e]
  exact e2
theorem Tr.mono {α : Type} {m : M α} {P Q : α → Prop} (h : Tr m P) (hk : ∀ a, P a → Q a) : Tr m Q := fun g hg =>
  let ⟨a, g1, e, g2, p⟩ := h g hg
  ⟨a, g1, e, g2, hk a p⟩
/-! ### straight-line code -/
theorem bind_ret {α β : Type} (a : α) (k : α → M β) : M.bind (M.ret a) k = k a := id rfl
theorem bind_lift {α β : Type} (a : α) (k : α → M β) : M.bind (M.lift (some a)) k = k a := id rfl
theorem bind_assoc {α β γ : Type} (m : M α) (k : α → M β) (l : β → M γ) : M.bind (M.bind m k) l = M.bind m (fun a => M.bind (k a) l) := by
  funext S
  rw [M.bind_eq, M.bind_eq, M.bind_eq]
  cases m S with
  | none => rfl
  | some x =>
    obtain ⟨x, S1⟩ := x
    cases x <;> rfl
theorem lift_ret {α : Type} (a : α) : M.lift (some a) = M.ret a := id rfl

theorem okMul_l {i j : Int} (h1 : -18446744073709551616 < i) (h2 : i < 18446744073709551616) : okMul i j = true := by simp [okMul, h1, h2]
theorem okMul_r {i j : Int} (h1 : -18446744073709551616 < j) (h2 : j < 18446744073709551616) : okMul i j = true := by simp [okMul, h1, h2]

def mTake : DE → M Ctl :=
  (sSeq (sIf (eTr asB (eOp pyEq (eBag 0 0) (eC (.int 0)))) (sSeq (sSet 4 (eOp pyIx (eOp pyAdd (eSl pySl (eBag 0 3) (ptSome (eBag 0 2)) ptNone) (eFrz (eLst (aCons (eC (.int 0)) aNil)))) (eC (.int 0)))) (sSeq (sBagA 0 2 (eC (.int 1))) (sSeq (sIf (eTr asB (eOp pyGe (eVar 4) (eOp pyPow (eC (.int 10)) (eC (.int 18))))) (sBag 0 0 (eVar 4)) sNil) (sSeq (sSet 5 (eOp pyAdd (eOp pyAdd (eOp pyMul (eBag 0 1) (eC (.int 48271))) (eOp pyMod (eCl (on1 pyInt) (aCons (eVar 4) aNil)) (eC (.int 2147483647)))) (eOp pyMul (eC (.int 7919)) (eBag 0 2)))) (sBag 0 1 (eOp pyMod (eCl (on1 pyInt) (aCons (eVar 5) aNil)) (eC (.int 2147483647)))))))) sNil) (sSeq (sIf (eTr asB (eOp pyGt (eBag 0 0) (eC (.int 0)))) (sSeq (sSet 6 (eOp pyMod (eCl (on1 pyInt) (aCons (eBag 0 0) aNil)) (eVar 1))) (sSeq (sBag 0 0 (eOp pyDiv (eCl (on1 pyInt) (aCons (eBag 0 0) aNil)) (eVar 1))) (sRet (eVar 6)))) sNil) (sSeq (sSet 2 (eOp pyMod (eCl (on1 pyInt) (aCons (eOp pyMul (eOp pyAdd (eBag 0 1) (eC (.int 1))) (eC (.int 39373))) aNil)) (eC (.int 1000000007)))) (sSeq (sSet 3 (eOp pyMod (eCl (on1 pyInt) (aCons (eOp pyMul (eOp pyMod (eCl (on1 pyInt) (aCons (eOp pyMul (eVar 2) (eVar 2)) aNil)) (eC (.int 998244353))) (eC (.int 30011))) aNil)) (eC (.int 998244353)))) (sRet (eOp pyMod (eCl (on1 pyInt) (aCons (eOp pyDiv (eVar 3) (eC (.int 7))) aNil)) (eVar 1)))))))
def fTake : List Sl → M Sl := runF mTake 7
theorem fmod_in {i j : Int} (h : 0 < j) : 0 ≤ i.fmod j ∧ i.fmod j < j := ⟨Int.fmod_nonneg_of_pos i h, Int.fmod_lt_of_pos i h⟩
/-- the second half of a take -/
def mTake2 : DE → M Ctl := (sSeq (sIf (eTr asB (eOp pyGt (eBag 0 0) (eC (.int 0)))) (sSeq (sSet 6 (eOp pyMod (eCl (on1 pyInt) (aCons (eBag 0 0) aNil)) (eVar 1))) (sSeq (sBag 0 0 (eOp pyDiv (eCl (on1 pyInt) (aCons (eBag 0 0) aNil)) (eVar 1))) (sRet (eVar 6)))) sNil) (sSeq (sSet 2 (eOp pyMod (eCl (on1 pyInt) (aCons (eOp pyMul (eOp pyAdd (eBag 0 1) (eC (.int 1))) (eC (.int 39373))) aNil)) (eC (.int 1000000007)))) (sSeq (sSet 3 (eOp pyMod (eCl (on1 pyInt) (aCons (eOp pyMul (eOp pyMod (eCl (on1 pyInt) (aCons (eOp pyMul (eVar 2) (eVar 2)) aNil)) (eC (.int 998244353))) (eC (.int 30011))) aNil)) (eC (.int 998244353)))) (sRet (eOp pyMod (eCl (on1 pyInt) (aCons (eOp pyDiv (eVar 3) (eC (.int 7))) aNil)) (eVar 1))))))
theorem take2_run {g : Bag} (hg : Good g) {k : Int} (h0 : 0 < k) (h1 : k < 1073741824) (a b c d e : Option Sl) :
    ∃ i g', mTake2 [some .bag, some (.d (.int k)), a, b, c, d, e] (some g) = some (.ok (.rt (.d (.int i))), some g') ∧ Good g' ∧ 0 ≤ i ∧ i < k := by
  have hk : k ≠ 0 := by omega
  have hk2 : k.natAbs < 1073741824 := by omega
  by_cases hc : 0 < g.c
  · refine ⟨g.c.fmod k, { g with c := g.c.fdiv k }, ?_, ⟨Int.fdiv_nonneg hg.c (by omega), hg.s, hg.s1, hg.at_, hg.len, hg.cs⟩, fmod_in h0⟩
    simp [mTake2, sSeq, sIf, eTr, eOp, eBag, eC, sSet, sBag, sRet, eVar, eCl, aCons, aNil, isBag, getB, modB, bagF, setF, M.bind_eq, M.ret, M.lift, pyGt, pyMod, pyDiv, asB, asI, on1, pyInt, sNil, hc, hk, hk2]
  · refine ⟨_, g, ?_, hg, fmod_in (i := ((((((g.s + 1) * 39373).fmod 1000000007) * (((g.s + 1) * 39373).fmod 1000000007)).fmod 998244353 * 30011).fmod 998244353).fdiv 7) h0⟩
    have m1 := fmod_in (i := (g.s + 1) * 39373) (j := 1000000007) (by decide)
    have z1 : okMul (g.s + 1) 39373 = true := okMul_r (by decide) (by decide)
    have z2 : okMul (((g.s + 1) * 39373).fmod 1000000007) (((g.s + 1) * 39373).fmod 1000000007) = true := okMul_l (by omega) (by omega)
    have z3 : okMul (((((g.s + 1) * 39373).fmod 1000000007) * (((g.s + 1) * 39373).fmod 1000000007)).fmod 998244353) 30011 = true := okMul_r (by decide) (by decide)
    simp [mTake2, sSeq, sIf, eTr, eOp, eBag, eC, sSet, sBag, sRet, eVar, eCl, aCons, aNil, isBag, getB, modB, bagF, setF, M.bind_eq, M.ret, M.lift, pyGt, pyMod, pyMul, pyAdd, pyDiv, asB, asI, on1, pyInt, sNil, hc, hk, hk2, z1, z2, z3]
theorem atI0 {α : Type} (x : α) (l : List α) : atI (x :: l) 0 = some x := by
  have h : (0 : Int) < (x :: l).length := by rw [List.length_cons]; omega
  show ((if (0 : Int) ≤ 0 then (if (0 : Int) < (x :: l).length then some (0 : Int).toNat else none) else _ : Option Nat).bind fun j => (x :: l)[j]?) = some x
  rw [if_pos (by decide), if_pos h]
  rfl
theorem cell_of {g : Bag} (hg : Good g) : ∃ c : Int, 0 ≤ c ∧ (cutD (g.cs.map PyData.int) (some g.at_) none).length + 1 ≤ 16777216 ∧ atI (cutD (g.cs.map PyData.int) (some g.at_) none ++ [PyData.int 0]) 0 = some (.int c) := by
  have hm : ∀ x ∈ cutD (g.cs.map PyData.int) (some g.at_) none, x ∈ g.cs.map PyData.int := fun x hx => List.mem_of_mem_drop (List.mem_of_mem_take hx)
  have hl : (cutD (g.cs.map PyData.int) (some g.at_) none).length ≤ 63 := by
    unfold cutD
    rw [List.length_take, List.length_drop, List.length_map]
    have := hg.len
    omega
  cases e : cutD (g.cs.map PyData.int) (some g.at_) none with
  | nil => exact ⟨0, by omega, by simp, by simp [atI, ixN]⟩
  | cons x r =>
    rw [e] at hm hl
    obtain ⟨c, hc, rfl⟩ := List.mem_map.mp (hm x List.mem_cons_self)
    refine ⟨c, hg.cs c hc, by simp at hl ⊢; omega, ?_⟩
    exact atI0 _ _
def mTake1 : DE → M Ctl := (sIf (eTr asB (eOp pyEq (eBag 0 0) (eC (.int 0)))) (sSeq (sSet 4 (eOp pyIx (eOp pyAdd (eSl pySl (eBag 0 3) (ptSome (eBag 0 2)) ptNone) (eFrz (eLst (aCons (eC (.int 0)) aNil)))) (eC (.int 0)))) (sSeq (sBagA 0 2 (eC (.int 1))) (sSeq (sIf (eTr asB (eOp pyGe (eVar 4) (eOp pyPow (eC (.int 10)) (eC (.int 18))))) (sBag 0 0 (eVar 4)) sNil) (sSeq (sSet 5 (eOp pyAdd (eOp pyAdd (eOp pyMul (eBag 0 1) (eC (.int 48271))) (eOp pyMod (eCl (on1 pyInt) (aCons (eVar 4) aNil)) (eC (.int 2147483647)))) (eOp pyMul (eC (.int 7919)) (eBag 0 2)))) (sBag 0 1 (eOp pyMod (eCl (on1 pyInt) (aCons (eVar 5) aNil)) (eC (.int 2147483647)))))))) sNil)
theorem take1_run {g : Bag} (hg : Good g) (k : Int) :
    ∃ a b g', mTake1 [some .bag, some (.d (.int k)), none, none, none, none, none] (some g) = some (.ok (.nx [some .bag, some (.d (.int k)), none, none, a, b, none]), some g') ∧ Good g' := by
  by_cases hc : g.c = 0
  · obtain ⟨c, h0, hl, hx⟩ := cell_of hg
    have z1 : okMul g.s 48271 = true := okMul_r (by decide) (by decide)
    have z2 : okMul 7919 (g.at_ + 1) = true := okMul_l (by decide) (by decide)
    have hb : (g.c == 0) = true := by rw [hc]; rfl
    have m1 := fmod_in (i := g.s * 48271 + c.fmod 2147483647 + 7919 * (g.at_ + 1)) (j := 2147483647) (by decide)
    have ha : 0 ≤ g.at_ + 1 := by have := hg.at_; omega
    by_cases hbig : 1000000000000000000 ≤ c
    · refine ⟨some (.d (.int c)), some (.d (.int (g.s * 48271 + c.fmod 2147483647 + 7919 * (g.at_ + 1)))), { g with c := c, at_ := g.at_ + 1, s := (g.s * 48271 + c.fmod 2147483647 + 7919 * (g.at_ + 1)).fmod 2147483647 }, ?_, ⟨h0, m1.1, m1.2, ha, hg.len, hg.cs⟩⟩
      simp [mTake1, sSeq, sIf, eTr, eOp, eBag, eC, sSet, sBag, sBagA, sRet, eVar, eCl, aCons, aNil, isBag, getB, modB, bagF, setF, M.bind_eq, M.ret, M.lift, eSl, pySl, ptSome, ptNone, eFrz, eLst, pyIx, pyGe, pyMod, pyMul, pyAdd, pyDiv, pyPow, pyEq, pyEqB, asB, asI, on1, pyInt, sNil, hb, hl, hx, z1, z2, hbig]
    · refine ⟨some (.d (.int c)), some (.d (.int (g.s * 48271 + c.fmod 2147483647 + 7919 * (g.at_ + 1)))), { g with at_ := g.at_ + 1, s := (g.s * 48271 + c.fmod 2147483647 + 7919 * (g.at_ + 1)).fmod 2147483647 }, ?_, ⟨hg.c, m1.1, m1.2, ha, hg.len, hg.cs⟩⟩
      simp [mTake1, sSeq, sIf, eTr, eOp, eBag, eC, sSet, sBag, sBagA, sRet, eVar, eCl, aCons, aNil, isBag, getB, modB, bagF, setF, M.bind_eq, M.ret, M.lift, eSl, pySl, ptSome, ptNone, eFrz, eLst, pyIx, pyGe, pyMod, pyMul, pyAdd, pyDiv, pyPow, pyEq, pyEqB, asB, asI, on1, pyInt, sNil, hb, hl, hx, z1, z2, hbig]
  · have hb : (g.c == 0) = false := by simp [hc]
    refine ⟨none, none, g, ?_, hg⟩
    simp [mTake1, sIf, eTr, eOp, eBag, eC, isBag, getB, bagF, M.bind_eq, M.ret, M.lift, pyEq, pyEqB, asB, sNil, hb]
theorem Tr.take {k : Int} (h0 : 0 < k) (h1 : k < 1073741824) : Tr (fTake [.bag, .d (.int k)]) fun s => ∃ i : Int, s = .d (.int i) ∧ 0 ≤ i ∧ i < k := fun g hg => by
  obtain ⟨a, b, g1, e1, hg1⟩ := take1_run hg k
  obtain ⟨i, g2, e2, hg2, hi⟩ := take2_run hg1 h0 h1 none none a b none
  refine ⟨.d (.int i), g2, ?_, hg2, i, rfl, hi⟩
  have e : mTake [some .bag, some (.d (.int k)), none, none, none, none, none] (some g) = some (.ok (.rt (.d (.int i))), some g2) := by
    show M.bind (mTake1 _) (fun c => match c with | .nx δ1 => mTake2 δ1 | c => M.ret c) (some g) = _
    rw [M.bind_eq, e1]
    exact e2
  show M.bind (mTake [some .bag, some (.d (.int k)), none, none, none, none, none]) _ (some g) = _
  rw [M.bind_eq, e]
  rfl
/-! ### one of a list -/
def mSome : DE → M Ctl :=
  (sRet (eOp pyIx (eVar 1) (eDat (eCall (onlyN 2 fTake) (asBag 0 (asD (eCl (on1 pyLen) (aCons (eVar 1) aNil)) asNil))))))
def fSome : List Sl → M Sl := runF mSome 2
theorem Tr.oneOf {ds : List D} (h0 : 0 < ds.length) (h1 : ds.length < 1073741824) : Tr (fSome [.bag, .d (.list ds)]) fun s => ∃ d ∈ ds, s = .d d := by
  have e : fSome [.bag, .d (.list ds)] = M.bind (fTake [.bag, .d (.int ds.length)]) (fun s => M.bind (match s with | .d x => M.ret x | .own xs => M.ret (.list xs) | .bag => M.fail) fun y => M.bind (M.lift (pyIx (.list ds) y)) fun x => M.ret (.d x)) := by
    simp [fSome, runF, mSome, sRet, eOp, eVar, eDat, eCall, onlyN, asBag, asD, asNil, eCl, aCons, aNil, on1, pyLen, isBag, bind_ret, bind_lift, bind_assoc]
    all_goals rfl
  rw [e]
  refine Tr.bind (Tr.take (by omega) (by omega)) ?_
  rintro _ ⟨i, rfl, hi0, hi1⟩
  obtain ⟨n, rfl⟩ := Int.eq_ofNat_of_zero_le hi0
  have hn : n < ds.length := by omega
  refine Tr.bind (P := fun y => y = .int n) (Tr.ret rfl) ?_
  rintro _ rfl
  refine Tr.bind (P := fun y => y ∈ ds) (Tr.lift (a := ds[n]) ?_ (List.getElem_mem hn)) fun y hy => Tr.ret ⟨y, hy, rfl⟩
  show atI ds n = _
  have : (n : Int) < ds.length := by omega
  simp [atI, ixN, this, hn]
end Pd
namespace Pd
open PySem PySem.Spec PyProof.Rows L2

/-! ### data that is shown in at most n signs -/
structure OkD (h n : Nat) (d : D) : Prop where
  lay : d.canLay0 = true
  dep : d.depth ≤ h
  show_ : PyData.showable d = true
  len : d.shown.length ≤ n
theorem OkD.mono {h n h' n' : Nat} {d : D} (o : OkD h n d) (a : h ≤ h') (b : n ≤ n') : OkD h' n' d := ⟨o.lay, Nat.le_trans o.dep a, o.show_, Nat.le_trans o.len b⟩
theorem okD_none {h : Nat} : OkD h 4 .none := ⟨rfl, Nat.zero_le _, rfl, by decide⟩
theorem okD_bool {h : Nat} (b : Bool) : OkD h 5 (.bool b) := ⟨rfl, Nat.zero_le _, rfl, by cases b <;> decide⟩
theorem okD_nat {h : Nat} (i : Nat) (hi : i < 1000000000000) : OkD h 12 (.int i) := ⟨rfl, Nat.zero_le _, by
  show decide ((i : Int).natAbs.log2 < 1920) = true
  have : (i : Int).natAbs.log2 < 1920 := by
    rw [Int.natAbs_natCast]
    by_cases h0 : i = 0
    · subst h0; decide
    · exact (Nat.log2_lt h0).mpr (Nat.lt_of_lt_of_le hi (by decide +kernel))
  exact decide_eq_true this, by
  show (Str.ofString (toString (i : Int))).length ≤ 12
  rw [SX.num_S, SX.S_len]
  exact TL.numL_len (by decide) (by omega)⟩
theorem okD_str {h : Nat} (l : List Nat) (hl : ∀ c ∈ l, c < 1114112) : OkD h (10 * l.length + 2) (.str (SX.S l)) := ⟨by
  show (SX.S l).cps.all (· < 0x110000) = true
  rw [← Array.all_toList]
  exact List.all_eq_true.mpr fun c hc => decide_eq_true (hl c hc), Nat.zero_le _, rfl, by
  have := PySem.StrLaws.reprText_len (SX.S l) (fun c hc => Nat.lt_trans (hl c hc) (by decide))
  rw [SX.S_len] at this
  exact this⟩
theorem canLayAll0_of : ∀ {ds : List D}, (∀ d ∈ ds, d.canLay0 = true) → PyData.canLayAll0 ds = true
  | [], _ => rfl
  | d :: ds, h => by rw [PyData.canLayAll0, h d List.mem_cons_self, canLayAll0_of fun x hx => h x (List.mem_cons_of_mem _ hx)]; rfl
theorem showableAll_of : ∀ {ds : List D}, (∀ d ∈ ds, PyData.showable d = true) → PyData.showableAll ds = true
  | [], _ => rfl
  | d :: ds, h => by rw [PyData.showableAll, h d List.mem_cons_self, showableAll_of fun x hx => h x (List.mem_cons_of_mem _ hx)]; rfl
theorem depthAll_of {n : Nat} : ∀ {ds : List D}, (∀ d ∈ ds, d.depth ≤ n) → PyData.depthAll ds ≤ n
  | [], _ => Nat.zero_le _
  | d :: ds, h => by
    rw [PyData.depthAll]
    exact Nat.max_le.mpr ⟨h d List.mem_cons_self, depthAll_of fun x hx => h x (List.mem_cons_of_mem _ hx)⟩
theorem textFrom_le {n : Nat} : ∀ (ts : List Str) (k : Nat) (acc : Str), (∀ t ∈ ts, t.length ≤ n) → (PySem.textFrom k acc ts).length ≤ acc.length + ts.length * (n + 2)
  | [], _, acc, _ => Nat.le_add_right _ _
  | t :: ts, k, acc, h => by
    have ih := textFrom_le ts (k + 1) (acc ++ (if k > 0 then ", " else "" : String) ++ t) fun x hx => h x (List.mem_cons_of_mem _ hx)
    have e : (acc ++ (if k > 0 then ", " else "" : String) ++ t).length ≤ acc.length + 2 + n := by
      rw [strLen_append, strLen_append]
      have := h t List.mem_cons_self
      have e2 : (Str.ofString (if k > 0 then ", " else "")).length ≤ 2 := by split <;> decide
      omega
    show (PySem.textFrom (k + 1) _ ts).length ≤ _
    rw [List.length_cons, Nat.succ_mul]
    omega
theorem shownAll_le {n : Nat} : ∀ {ds : List D}, (∀ d ∈ ds, d.shown.length ≤ n) → (∀ t ∈ PyData.shownAll ds, t.length ≤ n) ∧ (PyData.shownAll ds).length = ds.length
  | [], _ => ⟨fun t ht => (List.not_mem_nil ht).elim, rfl⟩
  | d :: ds, h => by
    obtain ⟨a, b⟩ := shownAll_le fun x hx => h x (List.mem_cons_of_mem _ hx)
    refine ⟨fun t ht => ?_, by rw [PyData.shownAll, List.length_cons, List.length_cons, b]⟩
    rw [PyData.shownAll] at ht
    rcases List.mem_cons.mp ht with rfl | ht
    · exact h d List.mem_cons_self
    · exact a t ht
theorem sum_le_mul {n : Nat} : ∀ {ts : List Str}, (∀ t ∈ ts, t.length ≤ n) → (ts.map (·.length)).sum ≤ ts.length * n
  | [], _ => Nat.zero_le _
  | t :: ts, h => by
    have := h t List.mem_cons_self
    have := sum_le_mul fun x hx => h x (List.mem_cons_of_mem _ hx)
    rw [List.map_cons, List.sum_cons, List.length_cons, Nat.succ_mul]
    omega
theorem okD_list {h n : Nat} {ds : List D} (o : ∀ d ∈ ds, OkD h n d) : OkD (h + 1) (2 + ds.length * (n + 2)) (.list ds) := ⟨canLayAll0_of fun d hd => (o d hd).lay, Nat.succ_le_succ (depthAll_of fun d hd => (o d hd).dep), showableAll_of fun d hd => (o d hd).show_, by
  obtain ⟨a, b⟩ := shownAll_le fun d hd => (o d hd).len
  have := textFrom_le _ 0 "[" a
  show (PySem.textFrom 0 "[" (PyData.shownAll ds) ++ ("]" : Str)).length ≤ _
  rw [strLen_append]
  have e1 : (Str.ofString "[").length = 1 := by decide
  have e2 : (Str.ofString "]").length = 1 := by decide
  rw [b] at this
  omega⟩
theorem okD_tuple {h n : Nat} {ds : List D} (o : ∀ d ∈ ds, OkD h n d) : OkD (h + 1) (3 + ds.length * (n + 2)) (.tuple ds) := ⟨canLayAll0_of fun d hd => (o d hd).lay, Nat.succ_le_succ (depthAll_of fun d hd => (o d hd).dep), showableAll_of fun d hd => (o d hd).show_, by
  obtain ⟨a, b⟩ := shownAll_le fun d hd => (o d hd).len
  have := PySem.StrLaws.join_length_le ", " (PyData.shownAll ds)
  have s := sum_le_mul a
  show (("(" : Str) ++ Str.join ", " (PyData.shownAll ds) ++ Str.ofString (if (PyData.shownAll ds).length == 1 then ",)" else ")")).length ≤ _
  rw [strLen_append, strLen_append]
  have e0 : (Str.ofString ", ").length = 2 := by decide
  have e1 : (Str.ofString "(").length = 1 := by decide
  have e2 : (Str.ofString (if (PyData.shownAll ds).length == 1 then ",)" else ")")).length ≤ 2 := by split <;> decide
  rw [b] at this s
  rw [e0] at this
  rw [Nat.mul_add]
  omega⟩
/-! ### two that are alike -/
def mAlike : DE → M Ctl :=
  (sRet (eAnd (eOp pyEq (eCl (on1 pyRepr1) (aCons (eVar 0) aNil)) (eCl (on1 pyRepr1) (aCons (eVar 1) aNil))) (eOp pyEq (eVar 0) (eVar 1))))
def fAlike : List Sl → M Sl := runF mAlike 2
theorem pyEq_self {h n : Nat} {d : D} (o : OkD h n d) (hh : h ≤ 64) : pyEq d d = some (.bool true) := by
  have sh : SeqAt.shaped d = true := by
    unfold SeqAt.shaped
    rw [o.lay, decide_eq_true (Nat.le_trans o.dep hh)]; rfl
  have e := SeqAt.eqv_refl d o.lay
  have ok : okEq d d = true := by unfold okEq; rw [sh]; rfl
  unfold pyEq
  cases d <;> simp [pyEqB, ok, e]
theorem Tr.alike {h n : Nat} {d : D} (o : OkD h n d) (hh : h ≤ 64) (hn : n ≤ 16777216) : Tr (fAlike [.d d, .d d]) fun s => s = .d (.bool true) := fun g hg => by
  have sh : SeqAt.shaped d = true := by
    unfold SeqAt.shaped
    rw [o.lay, decide_eq_true (Nat.le_trans o.dep hh)]; rfl
  have ok : okRepr d = true := by
    unfold okRepr
    rw [sh, o.show_, decide_eq_true (Nat.le_trans o.len hn)]; rfl
  have er : pyRepr1 d = some (.str d.shown) := by unfold pyRepr1; rw [if_pos ok]
  have es : pyEq (.str d.shown) (.str d.shown) = some (.bool true) := by simp [pyEq, pyEqB]
  have e := pyEq_self o hh
  refine ⟨_, g, ?_, hg, rfl⟩
  simp [fAlike, runF, mAlike, sRet, eAnd, eOp, eCl, on1, aCons, aNil, eVar, M.bind_eq, M.ret, M.lift, er, es, e, pyTruth]
end Pd
namespace Pd
open PySem PySem.Spec PyProof.Rows L2

/-! ### texts as lists of code points -/
abbrev tx (l : List Nat) : D := .str (SX.S l)
theorem tx_len {l : List Nat} (h : l.length ≤ 16777216) : pyLen (tx l) = some (.int l.length) := by
  show (if (SX.S l).length ≤ 16777216 then some (PyData.int (SX.S l).length) else none) = _
  rw [SX.S_len, if_pos h]
theorem tx_add {a b : List Nat} (h : a.length + b.length ≤ 16777216) : pyAdd (tx a) (tx b) = some (tx (a ++ b)) := by
  show (if (SX.S a).length + (SX.S b).length ≤ 16777216 then some (PyData.str (SX.S a ++ SX.S b)) else none) = _
  rw [SX.S_len, SX.S_len, if_pos h, SX.S_cat]
theorem tx_eqB (a b : List Nat) : pyEqB (tx a) (tx b) = some (decide (a = b)) := by
  show some (SX.S a == SX.S b) = _
  rw [SX.S_beq_eq]
theorem tx_eq (a b : List Nat) : pyEq (tx a) (tx b) = some (.bool (decide (a = b))) := by unfold pyEq; rw [tx_eqB]; rfl
theorem tx_ne (a b : List Nat) : pyNe (tx a) (tx b) = some (.bool (!decide (a = b))) := by unfold pyNe; rw [tx_eqB]; rfl
theorem tx_ord (c : Nat) : pyOrd (tx [c]) = some (.int c) := id rfl
theorem tx_in (c : Nat) (l : List Nat) : pyInS (tx [c]) (tx l) = some (.bool (decide (c ∈ l))) := id rfl
theorem tx_notin (c : Nat) (l : List Nat) : pyNotInS (tx [c]) (tx l) = some (.bool (!decide (c ∈ l))) := id rfl
theorem tx_items (l : List Nat) : itemsOf (tx l) = some (l.map fun c => tx [c]) := id rfl
theorem lt_one (a b : Nat) : decide (([a] : List Nat) < [b]) = decide (a < b) := by
  by_cases h : a < b
  · rw [decide_eq_true h, decide_eq_true_eq]
    exact List.Lex.rel h
  · rw [decide_eq_false h, decide_eq_false_iff_not]
    intro q
    cases q with
    | rel r => exact h r
    | cons r => cases r
theorem tx_le (a b : Nat) : pyLe (tx [a]) (tx [b]) = some (.bool (decide (a ≤ b))) := by
  show some (PyData.bool (!decide (([b] : List Nat) < [a]))) = _
  rw [lt_one]
  by_cases h : a ≤ b
  · rw [decide_eq_true h, decide_eq_false (by omega)]; rfl
  · rw [decide_eq_false h, decide_eq_true (by omega)]; rfl
theorem tx_to {l : List Nat} (j : Nat) (h : l.length ≤ 16777216) : pySl (tx l) none (some (j : Int)) = some (tx (l.take j)) := by
  show (if (SX.S l).length ≤ 16777216 then some (PyData.str (Txt.slice (SX.S l) none (some (j : Int)))) else none) = _
  rw [SX.S_len, if_pos h, SX.slice_to (by omega), Int.toNat_natCast]
theorem tx_from {l : List Nat} (i : Nat) (h : l.length ≤ 16777216) : pySl (tx l) (some (i : Int)) none = some (tx (l.drop i)) := by
  show (if (SX.S l).length ≤ 16777216 then some (PyData.str (Txt.slice (SX.S l) (some (i : Int)) none)) else none) = _
  rw [SX.S_len, if_pos h, SX.slice_from (by omega), Int.toNat_natCast]
open PySem.Builtin PySem.Builtin.Str in
theorem idx_lo {u : Option Int} {n : Nat} {i : Int} (h : (n : Int) ≤ i) : strSliceIndices (some i) u 1 n = strSliceIndices (some (n : Int)) u 1 n := by
  have h0 : ¬ i < 0 := by omega
  have h1 : ¬ ((n : Int) < 0) := by omega
  have h2 : (1 : Int) > 0 := by decide
  simp only [strSliceIndices, h0, h1, h2, if_false, if_true, Int.min_eq_right h, Int.min_self]
theorem S_mid {l : List Nat} {i j : Nat} (hij : i ≤ j) : Txt.slice (SX.S l) (some (i : Int)) (some (j : Int)) = SX.S ((l.drop i).take (j - i)) := by
  have base : ∀ {i j : Nat}, i ≤ j → j ≤ l.length → Txt.slice (SX.S l) (some (i : Int)) (some (j : Int)) = SX.S ((l.drop i).take (j - i)) := fun {i j} h1 h2 => by
    refine (beq_iff_eq.mp (PyProof.Rows.slice_closesL (x := SX.S l) (i := (i : Int)) (j := (j : Int)) (by omega) (by omega) (by rw [SX.S_len]; omega))).trans (TL.ext_tl ?_)
    show (l.drop (i : Int).toNat).take ((j : Int) - (i : Int)).toNat = (l.drop i).take (j - i)
    rw [Int.toNat_natCast, show ((j : Int) - (i : Int)).toNat = j - i by omega]
  by_cases hi : i ≤ l.length
  · by_cases hj : j ≤ l.length
    · exact base hij hj
    · have e2 : Txt.slice (SX.S l) (some (i : Int)) (some (j : Int)) = Txt.slice (SX.S l) (some (i : Int)) (some (l.length : Int)) := by
        unfold Txt.slice
        rw [SX.S_len, SX.idx_hi (by omega)]
      rw [e2, base hi (Nat.le_refl _), List.take_of_length_le (by rw [List.length_drop]; omega), List.take_of_length_le (by rw [List.length_drop]; omega)]
  · have e2 : Txt.slice (SX.S l) (some (i : Int)) (some (j : Int)) = Txt.slice (SX.S l) (some (l.length : Int)) (some (l.length : Int)) := by
      unfold Txt.slice
      rw [SX.S_len, SX.idx_hi (by omega), idx_lo (by omega)]
    rw [e2, base (Nat.le_refl _) (Nat.le_refl _), List.drop_eq_nil_of_le (by omega), List.drop_eq_nil_of_le (by omega), List.take_nil, List.take_nil]
theorem tx_mid {l : List Nat} {i j : Nat} (hij : i ≤ j) (h : l.length ≤ 16777216) : pySl (tx l) (some (i : Int)) (some (j : Int)) = some (tx ((l.drop i).take (j - i))) := by
  show (if (SX.S l).length ≤ 16777216 then some (PyData.str (Txt.slice (SX.S l) (some (i : Int)) (some (j : Int)))) else none) = _
  rw [SX.S_len, if_pos h, S_mid hij]
theorem tx_starts (a b : List Nat) : sStarts (SX.S a) [tx b] = some (.bool (decide (a.take b.length = b))) := by
  show some (PyData.bool (Txt.startswith (SX.S a) (SX.S b))) = _
  unfold Txt.startswith
  rw [SX.S_len, SX.S_len]
  have e : StrLaws.subAt_eq = StrLaws.subAt_eq := rfl
  rw [StrLaws.subAt_eq, SX.S_len]
  show some (PyData.bool (decide (0 + b.length ≤ a.length) && ((a.drop 0).take b.length == b))) = _
  rw [List.drop_zero]
  by_cases h : a.take b.length = b
  · have hl : b.length ≤ a.length := by rw [← h, List.length_take]; omega
    rw [decide_eq_true h, decide_eq_true (by omega : 0 + b.length ≤ a.length), h, beq_self_eq_true]; rfl
  · rw [decide_eq_false h, beq_eq_false_iff_ne.mpr h, Bool.and_false]
theorem tx_split {a : List Nat} {c : Nat} (hc : c < 256) (h : a.length ≤ 16777000) : sSplit (SX.S a) [tx [c]] = some (.list ((TL.spl [c] 0 [] a).map tx)) := by
  show (if 0 < (SX.S [c]).length ∧ (SX.S a).length ≤ 16777000 then some (PyData.list ((Txt.split (SX.S a) (SX.S [c])).map .str)) else none) = _
  rw [SX.S_len, SX.S_len, if_pos ⟨by simp, h⟩, SX.split_S (by simp) (by simp [hc]), List.map_map]
  rfl
theorem tx_int {a : List Nat} (h : a.all (fun c => decide (48 ≤ c) && decide (c ≤ 57)) = true) (hne : a ≠ []) (hl : a.length ≤ 640) : pyInt (tx a) = some (.int (NumText.digitsVal a : Nat)) := by
  show (if (SX.S a).length ≤ 640 then (PySem.intText? (SX.S a)).map PyData.int else none) = _
  rw [SX.S_len, if_pos hl, SX.int_S h hne (by omega)]
  rfl
theorem tx_str {n : Nat} (h : n < 1000000000000) : pyStr (.int n) = some (tx (TL.numL n)) := by
  have : okStr n = true := by
    unfold okStr
    rw [Int.natAbs_natCast]
    refine decide_eq_true ?_
    by_cases h0 : n = 0
    · subst h0; decide
    · exact (Nat.log2_lt h0).mpr (Nat.lt_of_lt_of_le h (by decide +kernel))
  show (if okStr n = true then some (PyData.str (Str.ofString (toString (n : Int)))) else none) = _
  rw [if_pos this, SX.num_S]
theorem tx_chr {n : Nat} (h : n ≤ 1114111) : pyChr (.int n) = some (tx [n]) := by
  show (if 0 ≤ (n : Int) ∧ (n : Int) ≤ 1114111 then some (PyData.str ⟨#[(n : Int).toNat]⟩) else none) = _
  rw [if_pos ⟨by omega, by omega⟩, Int.toNat_natCast]
theorem strs_tx : ∀ (l : List (List Nat)), strs? (l.map tx) = some (l.map SX.S)
  | [] => rfl
  | a :: l => by
    show (strs? (l.map tx)).map (SX.S a :: ·) = _
    rw [strs_tx l]; rfl
theorem joinL_nil : ∀ l : List (List Nat), TL.joinL [] l = l.flatten
  | [] => rfl
  | [a] => by show a = [a].flatten; simp
  | a :: b :: l => by
    have ih := joinL_nil (b :: l)
    show a ++ ([] ++ TL.joinL [] (b :: l)) = _
    rw [ih]; rfl
theorem sum_len (l : List (List Nat)) : ((l.map SX.S).map fun x => x.length).sum = l.flatten.length := by
  rw [SX.lens, List.length_flatten]
theorem tx_join {l : List (List Nat)} (h : l.flatten.length ≤ 16777216) : sJoin (SX.S []) [.list (l.map tx)] = some (tx l.flatten) := by
  show ((strs? (l.map tx)).bind fun ys => if (ys.map fun x => x.length).sum + ys.length * (SX.S []).length ≤ 16777216 then some (PyData.str (Txt.join (SX.S []) ys)) else none) = _
  rw [strs_tx, Option.bind_some, sum_len, show (SX.S []).length = 0 from rfl, Nat.mul_zero, Nat.add_zero, if_pos h, SX.join_S, joinL_nil]
theorem ints_of {ι : Type} (w : ι → Int) : ∀ l : List ι, ints? (l.map fun x => PyData.int (w x)) = some (l.map w)
  | [] => rfl
  | a :: l => by
    show (ints? (l.map fun x => PyData.int (w x))).map (w a :: ·) = _
    rw [ints_of w l]; rfl
theorem bools_of {ι : Type} (w : ι → Bool) : ∀ l : List ι, bools? (l.map fun x => PyData.bool (w x)) = some (l.map w)
  | [] => rfl
  | a :: l => by
    show (bools? (l.map fun x => PyData.bool (w x))).map (w a :: ·) = _
    rw [bools_of w l]; rfl
theorem sumL_of {ι : Type} (w : ι → Int) (l : List ι) : pySumL (.list (l.map fun x => PyData.int (w x))) = some (.int (l.map w).sum) := by
  show (ints? _).map _ = _
  rw [ints_of]; rfl
theorem all_of {ι : Type} (w : ι → Bool) (l : List ι) : pyAll (.list (l.map fun x => PyData.bool (w x))) = some (.bool (l.all w)) := by
  show (bools? _).map _ = _
  rw [bools_of, Option.map_some, List.all_map]; rfl

/-! ### comprehensions -/
theorem lcD_map {ι : Type} {t : D → DE → Option DE} {me : DE → M D} {δ : DE} (p q : ι → D) : ∀ (src : List ι) (acc : List D), (∀ s ∈ src, ∃ δ1, t (p s) δ = some δ1 ∧ me δ1 = M.ret (q s)) → acc.length + src.length ≤ 16777216 →
    lcD t mYes me δ (src.map p) acc = M.ret (acc ++ src.map q)
  | [], acc, _, h => by
    show M.lift (if acc.length ≤ 16777216 then some acc else none) = _
    rw [if_pos (by simpa using h), List.map_nil, List.append_nil]; rfl
  | s :: src, acc, h, hl => by
    obtain ⟨δ1, e1, e2⟩ := h s List.mem_cons_self
    rw [List.length_cons] at hl
    have ih := lcD_map p q src (acc ++ [q s]) (fun x hx => h x (List.mem_cons_of_mem _ hx)) (by rw [List.length_append, List.length_singleton]; omega)
    show M.bind (M.lift (t (p s) δ)) (fun δ1 => M.bind (mYes δ1) fun b => if b = true then M.bind (me δ1) fun y => M.bind (M.lift (if acc.length < 16777216 then some () else none)) fun _ => lcD t mYes me δ (src.map p) (acc ++ [y]) else lcD t mYes me δ (src.map p) acc) = _
    rw [e1, bind_lift]
    show M.bind (M.ret true) _ = _
    rw [bind_ret, if_pos rfl, e2, bind_ret, if_pos (by omega), bind_lift, ih, List.append_assoc]; rfl
theorem lcD_fil {ι : Type} {t : D → DE → Option DE} {mt : DE → M Bool} {me : DE → M D} {δ : DE} (p q : ι → D) (c : ι → Bool) : ∀ (src : List ι) (acc : List D), (∀ s ∈ src, ∃ δ1, t (p s) δ = some δ1 ∧ mt δ1 = M.ret (c s) ∧ (c s = true → me δ1 = M.ret (q s))) → acc.length + src.length ≤ 16777216 →
    lcD t mt me δ (src.map p) acc = M.ret (acc ++ (src.filter c).map q)
  | [], acc, _, h => by
    show M.lift (if acc.length ≤ 16777216 then some acc else none) = _
    rw [if_pos (by simpa using h), List.filter_nil, List.map_nil, List.append_nil]; rfl
  | s :: src, acc, h, hl => by
    obtain ⟨δ1, e1, e2, e3⟩ := h s List.mem_cons_self
    rw [List.length_cons] at hl
    show M.bind (M.lift (t (p s) δ)) (fun δ1 => M.bind (mt δ1) fun b => if b = true then M.bind (me δ1) fun y => M.bind (M.lift (if acc.length < 16777216 then some () else none)) fun _ => lcD t mt me δ (src.map p) (acc ++ [y]) else lcD t mt me δ (src.map p) acc) = _
    rw [e1, bind_lift, e2, bind_ret]
    cases hc : c s with
    | true =>
      have ih := lcD_fil p q c src (acc ++ [q s]) (fun x hx => h x (List.mem_cons_of_mem _ hx)) (by rw [List.length_append, List.length_singleton]; omega)
      rw [if_pos rfl, e3 hc, bind_ret, if_pos (by omega), bind_lift, ih, List.append_assoc, List.filter_cons_of_pos hc]; rfl
    | false =>
      have ih := lcD_fil p q c src acc (fun x hx => h x (List.mem_cons_of_mem _ hx)) (by omega)
      rw [if_neg (by decide), ih, List.filter_cons_of_neg (by rw [hc]; decide)]
/-- with what takes -/
theorem Tr.lc {t : D → DE → Option DE} {me : DE → M D} {δ : DE} {P : D → Prop} : ∀ (xs acc : List D), (∀ x ∈ xs, ∃ δ1, t x δ = some δ1 ∧ Tr (me δ1) P) → acc.length + xs.length ≤ 16777216 →
    Tr (lcD t mYes me δ xs acc) fun ds => ∃ ys, ds = acc ++ ys ∧ ys.length = xs.length ∧ ∀ y ∈ ys, P y
  | [], acc, _, h => Tr.lift (a := acc) (if_pos (by simpa using h)) ⟨[], by simp, rfl, fun _ q => (List.not_mem_nil q).elim⟩
  | x :: xs, acc, h, hl => by
    obtain ⟨δ1, e1, e2⟩ := h x List.mem_cons_self
    rw [List.length_cons] at hl
    show Tr (M.bind (M.lift (t x δ)) (fun δ1 => M.bind (mYes δ1) fun b => if b = true then M.bind (me δ1) fun y => M.bind (M.lift (if acc.length < 16777216 then some () else none)) fun _ => lcD t mYes me δ xs (acc ++ [y]) else lcD t mYes me δ xs acc)) _
    rw [e1, bind_lift]
    show Tr (M.bind (M.ret true) _) _
    rw [bind_ret, if_pos rfl]
    refine Tr.bind e2 fun y hy => ?_
    rw [if_pos (by omega), bind_lift]
    refine Tr.mono (Tr.lc xs (acc ++ [y]) (fun x hx => h x (List.mem_cons_of_mem _ hx)) (by rw [List.length_append, List.length_singleton]; omega)) ?_
    rintro ds ⟨ys, rfl, hl2, hp⟩
    refine ⟨y :: ys, by simp, by simp [hl2], fun z hz => ?_⟩
    rcases List.mem_cons.mp hz with rfl | hz
    · exact hy
    · exact hp z hz
theorem enD_map {ι : Type} (k : Int) (g : ι → D) (l : List ι) : enD k (l.map g) = (l.mapIdx fun i c => (i, c)).map fun p => .tuple [.int (k + (p.1 : Nat)), g p.2] := by
  unfold enD
  apply List.ext_getElem
  · simp
  · intro i h1 h2
    simp
end Pd
namespace Pd
open PySem PySem.Spec PyProof.Rows L2

/-! ### the part ahead of a sign -/
def upto (c : Nat) (s : List Nat) : List Nat := s.takeWhile fun x => decide (x ≠ c)
theorem upto_not (c : Nat) : ∀ s : List Nat, c ∉ upto c s
  | [] => List.not_mem_nil
  | x :: s => by
    unfold upto
    by_cases h : x = c
    · rw [List.takeWhile_cons_of_neg (by simp [h])]; exact List.not_mem_nil
    · rw [List.takeWhile_cons_of_pos (by simp [h])]
      intro q
      rcases List.mem_cons.mp q with rfl | q
      · exact h rfl
      · exact upto_not c s q
theorem upto_all {c : Nat} : ∀ {s : List Nat}, c ∉ s → upto c s = s
  | [], _ => rfl
  | x :: s, h => by
    have hx : x ≠ c := fun e => h (by rw [e]; exact List.mem_cons_self)
    unfold upto
    rw [List.takeWhile_cons_of_pos (by simp [hx])]
    exact congrArg (x :: ·) (upto_all fun q => h (List.mem_cons_of_mem _ q))
theorem upto_app {c : Nat} : ∀ {p r : List Nat}, c ∉ p → upto c (p ++ c :: r) = p
  | [], r, _ => by
    unfold upto
    rw [List.nil_append, List.takeWhile_cons_of_neg (by simp)]
  | x :: p, r, h => by
    have hx : x ≠ c := fun e => h (by rw [e]; exact List.mem_cons_self)
    unfold upto
    rw [List.cons_append, List.takeWhile_cons_of_pos (by simp [hx])]
    exact congrArg (x :: ·) (upto_app fun q => h (List.mem_cons_of_mem _ q))
theorem upto_split {c : Nat} : ∀ {s : List Nat}, c ∈ s → ∃ r, s = upto c s ++ c :: r
  | [], h => (List.not_mem_nil h).elim
  | x :: s, h => by
    by_cases hx : x = c
    · subst hx
      exact ⟨s, by unfold upto; rw [List.takeWhile_cons_of_neg (by simp)]; rfl⟩
    · obtain ⟨r, e⟩ := upto_split (s := s) (by
        rcases List.mem_cons.mp h with q | q
        · exact absurd q.symm hx
        · exact q)
      refine ⟨r, ?_⟩
      unfold upto at e ⊢
      rw [List.takeWhile_cons_of_pos (by simp [hx]), List.cons_append, ← e]
theorem upto_take {c n : Nat} {s : List Nat} (h : c ∈ s.take n) : upto c (s.take n) = upto c s := by
  obtain ⟨r, e⟩ := upto_split h
  have h1 : s = upto c (s.take n) ++ c :: (r ++ s.drop n) := by
    conv => lhs; rw [← List.take_append_drop n s, e]
    simp
  conv => rhs; rw [h1]
  rw [upto_app (upto_not c _)]
theorem spl_upto {c : Nat} (s : List Nat) : ∃ r, TL.spl [c] 0 [] s = upto c s :: r := by
  by_cases h : c ∈ s
  · obtain ⟨r, e⟩ := upto_split h
    refine ⟨TL.spl [c] 0 [] r, ?_⟩
    conv => lhs; rw [e]
    exact TL.spl_part1 (acc := []) (S := []) (upto_not c s)
  · exact ⟨[], by rw [TL.spl_last1 (acc := []) (S := []) h, upto_all h]; rfl⟩
theorem tx_index {c : Nat} {s : List Nat} (h : c ∈ s) : sIndex (SX.S s) [tx [c]] = some (.int ((upto c s).length : Nat)) := by
  obtain ⟨r, e⟩ := upto_split h
  have at_ : ∀ i, StrLaws.At (SX.S s) (SX.S [c]) (SX.S s).length i ↔ s[i]? = some c := fun i => StrLaws.subAt_one (SX.S s) c i
  have key : ∀ (p : List Nat), s = p ++ c :: r → s[p.length]? = some c := fun p q => by rw [q]; simp
  have hp : s[(upto c s).length]? = some c := key _ e
  have key2 : ∀ (p : List Nat) (i : Nat), s = p ++ c :: r → i < p.length → s[i]? = some c → c ∈ p := fun p i q hi h3 => by
    rw [q, List.getElem?_append_left hi] at h3
    exact List.mem_of_getElem? h3
  show (Txt.index0 (SX.S s) (SX.S [c])).map (fun i => PyData.int (i : Nat)) = _
  unfold Txt.index0
  rcases StrLaws.occ_head (SX.S s) (SX.S [c]) 1 (Nat.le_refl 1) with ⟨_, hn⟩ | ⟨i, r', e1, ha, hn⟩
  · exact absurd ((at_ _).mpr hp) (hn _)
  · rw [e1]
    have h1 : i ≤ (upto c s).length := by
      rcases Nat.lt_or_ge (upto c s).length i with q | q
      · exact absurd ((at_ _).mpr hp) (hn _ q)
      · exact q
    have h2 : ¬ i < (upto c s).length := fun q => by
      exact upto_not c s (key2 _ i e q ((at_ i).mp ha))
    have h4 : i = (upto c s).length := by omega
    rw [h4]; rfl
end Pd
namespace K56
open PySem PySem.Spec PyProof.Rows L2 Pd
/-! ### the text -/
def topS (i : Nat) : Stmt := PySem.Challenge.pw_onceorlater_k56_frames_of_any_signs.main.body.getD i (.Pass ⟨0, 0, 0, 0⟩)
abbrev s_check_of : Stmt := topS 5
abbrev N_check_of : List Str := [(Str.ofString "text"), (Str.ofString "at"), (Str.ofString "sign")]
abbrev p_check_of : List Str := [(Str.ofString "text")]
theorem sc_check_of : FnScope N_check_of p_check_of (defScope s_check_of) := ⟨rfl, rfl, rfl, by decide +kernel, rfl, by decide +kernel, by decide +kernel⟩
abbrev s_framed : Stmt := topS 6
abbrev N_framed : List Str := [(Str.ofString "text")]
abbrev p_framed : List Str := [(Str.ofString "text")]
theorem sc_framed : FnScope N_framed p_framed (defScope s_framed) := ⟨rfl, rfl, rfl, by decide +kernel, rfl, by decide +kernel, by decide +kernel⟩
abbrev s_is_plain : Stmt := topS 7
abbrev N_is_plain : List Str := [(Str.ofString "text"), (Str.ofString "sign")]
abbrev p_is_plain : List Str := [(Str.ofString "text")]
theorem sc_is_plain : FnScope N_is_plain p_is_plain (defScope s_is_plain) := ⟨rfl, rfl, rfl, by decide +kernel, rfl, by decide +kernel, by decide +kernel⟩
abbrev s_is_number : Stmt := topS 8
abbrev N_is_number : List Str := [(Str.ofString "word"), (Str.ofString "sign")]
abbrev p_is_number : List Str := [(Str.ofString "word")]
theorem sc_is_number : FnScope N_is_number p_is_number (defScope s_is_number) := ⟨rfl, rfl, rfl, by decide +kernel, rfl, by decide +kernel, by decide +kernel⟩
abbrev s_first_text : Stmt := topS 9
abbrev N_first_text : List Str := [(Str.ofString "signs"), (Str.ofString "head"), (Str.ofString "begin"), (Str.ofString "text")]
abbrev p_first_text : List Str := [(Str.ofString "signs")]
theorem sc_first_text : FnScope N_first_text p_first_text (defScope s_first_text) := ⟨rfl, rfl, rfl, by decide +kernel, rfl, by decide +kernel, by decide +kernel⟩
abbrev s_read_frames : Stmt := topS 10
abbrev N_read_frames : List Str := [(Str.ofString "signs"), (Str.ofString "texts"), (Str.ofString "text")]
abbrev p_read_frames : List Str := [(Str.ofString "signs")]
theorem sc_read_frames : FnScope N_read_frames p_read_frames (defScope s_read_frames) := ⟨rfl, rfl, rfl, by decide +kernel, rfl, by decide +kernel, by decide +kernel⟩
abbrev s_law_bag : Stmt := topS 12
abbrev N_law_bag : List Str := [(Str.ofString "script"), (Str.ofString "cell")]
abbrev p_law_bag : List Str := [(Str.ofString "script")]
theorem sc_law_bag : FnScope N_law_bag p_law_bag (defScope s_law_bag) := ⟨rfl, rfl, rfl, by decide +kernel, rfl, by decide +kernel, by decide +kernel⟩
abbrev s_law_take : Stmt := topS 13
abbrev N_law_take : List Str := [(Str.ofString "bag"), (Str.ofString "many"), (Str.ofString "begin"), (Str.ofString "second"), (Str.ofString "cell"), (Str.ofString "stirred"), (Str.ofString "value")]
abbrev p_law_take : List Str := [(Str.ofString "bag"), (Str.ofString "many")]
theorem sc_law_take : FnScope N_law_take p_law_take (defScope s_law_take) := ⟨rfl, rfl, rfl, by decide +kernel, rfl, by decide +kernel, by decide +kernel⟩
abbrev s_law_some : Stmt := topS 14
abbrev N_law_some : List Str := [(Str.ofString "bag"), (Str.ofString "things")]
abbrev p_law_some : List Str := [(Str.ofString "bag"), (Str.ofString "things")]
theorem sc_law_some : FnScope N_law_some p_law_some (defScope s_law_some) := ⟨rfl, rfl, rfl, by decide +kernel, rfl, by decide +kernel, by decide +kernel⟩
abbrev s_law_alike : Stmt := topS 15
abbrev N_law_alike : List Str := [(Str.ofString "found"), (Str.ofString "due")]
abbrev p_law_alike : List Str := [(Str.ofString "found"), (Str.ofString "due")]
theorem sc_law_alike : FnScope N_law_alike p_law_alike (defScope s_law_alike) := ⟨rfl, rfl, rfl, by decide +kernel, rfl, by decide +kernel, by decide +kernel⟩
abbrev s_law_check : Stmt := topS 16
abbrev N_law_check : List Str := [(Str.ofString "text"), (Str.ofString "at"), (Str.ofString "sign")]
abbrev p_law_check : List Str := [(Str.ofString "text")]
theorem sc_law_check : FnScope N_law_check p_law_check (defScope s_law_check) := ⟨rfl, rfl, rfl, by decide +kernel, rfl, by decide +kernel, by decide +kernel⟩
abbrev s_law_framed : Stmt := topS 17
abbrev N_law_framed : List Str := [(Str.ofString "text"), (Str.ofString "check")]
abbrev p_law_framed : List Str := [(Str.ofString "text")]
theorem sc_law_framed : FnScope N_law_framed p_law_framed (defScope s_law_framed) := ⟨rfl, rfl, rfl, by decide +kernel, rfl, by decide +kernel, by decide +kernel⟩
abbrev s_law_first_text : Stmt := topS 19
abbrev N_law_first_text : List Str := [(Str.ofString "signs"), (Str.ofString "figures"), (Str.ofString "text"), (Str.ofString "whole"), (Str.ofString "many"), (Str.ofString "begin"), (Str.ofString "sign")]
abbrev p_law_first_text : List Str := [(Str.ofString "signs")]
theorem sc_law_first_text : FnScope N_law_first_text p_law_first_text (defScope s_law_first_text) := ⟨rfl, rfl, rfl, by decide +kernel, rfl, by decide +kernel, by decide +kernel⟩
abbrev s_law_read : Stmt := topS 18
abbrev N_law_read : List Str := [(Str.ofString "signs"), (Str.ofString "texts"), (Str.ofString "at"), (Str.ofString "text")]
abbrev p_law_read : List Str := [(Str.ofString "signs")]
theorem sc_law_read : FnScope N_law_read p_law_read (defScope s_law_read) := ⟨rfl, rfl, rfl, by decide +kernel, rfl, by decide +kernel, by decide +kernel⟩
abbrev s_law_text : Stmt := topS 20
abbrev N_law_text : List Str := [(Str.ofString "bag"), (Str.ofString "most"), (Str.ofString "signs"), (Str.ofString "turn")]
abbrev p_law_text : List Str := [(Str.ofString "bag"), (Str.ofString "most")]
theorem sc_law_text : FnScope N_law_text p_law_text (defScope s_law_text) := ⟨rfl, rfl, rfl, by decide +kernel, rfl, by decide +kernel, by decide +kernel⟩
abbrev s_law_bent : Stmt := topS 21
abbrev N_law_bent : List Str := [(Str.ofString "bag"), (Str.ofString "signs"), (Str.ofString "at"), (Str.ofString "way")]
abbrev p_law_bent : List Str := [(Str.ofString "bag"), (Str.ofString "signs")]
theorem sc_law_bent : FnScope N_law_bent p_law_bent (defScope s_law_bent) := ⟨rfl, rfl, rfl, by decide +kernel, rfl, by decide +kernel, by decide +kernel⟩
abbrev s_law : Stmt := topS 22
abbrev N_law : List Str := [(Str.ofString "script"), (Str.ofString "bag"), (Str.ofString "turn"), (Str.ofString "every"), (Str.ofString "texts"), (Str.ofString "signs"), (Str.ofString "thing"), (Str.ofString "long"), (Str.ofString "some"), (Str.ofString "one"), (Str.ofString "code"), (Str.ofString "text")]
abbrev p_law : List Str := [(Str.ofString "script")]
theorem sc_law : FnScope N_law p_law (defScope s_law) := ⟨rfl, rfl, rfl, by decide +kernel, rfl, by decide +kernel, by decide +kernel⟩
/-! ### what each def tells -/
noncomputable def m_check_of : DE → M Ctl :=
  (sRet (eOp pyMod (eCl (on1 pySumL) (aCons (eFrz (eLc (iEn en2 (aCons (eVar 0) (aCons (eC (.int 1)) aNil))) (gT 2 (gsCons (gN 1) (gsCons (gN 2) gsNil))) mYes (eOp pyMul (eVar 1) (eCl (on1 pyOrd) (aCons (eVar 2) aNil))) [1, 2])) aNil)) (eC (.int 997))))
noncomputable def F_check_of : List Sl → M Sl := runF m_check_of 3
noncomputable def m_framed : DE → M Ctl :=
  (sRet (jD [(eUn fmt1 (eC (.str (Str.ofString "|")))), (eUn fmt1 (eCl (on1 pyLen) (aCons (eVar 0) aNil))), (eC (.str (Str.ofString ":"))), (eUn fmt1 (eVar 0)), (eC (.str (Str.ofString ";"))), (eUn fmt3 (eDat (eCall (onlyN 1 F_check_of) (asD (eVar 0) asNil)))), (eC (.str (Str.ofString "\n")))] Str.empty))
noncomputable def F_framed : List Sl → M Sl := runF m_framed 1
noncomputable def m_is_plain : DE → M Ctl :=
  (sRet (eCl (on1 pyAll) (aCons (eFrz (eLc (iSeq (eVar 0)) (gN 1) mYes (eAnd (eCh pyLe pyLe (eC (.str (Str.ofString " "))) (eVar 1) (eC (.str (Str.ofString "~")))) (eOp pyNe (eVar 1) (eC (.str (Str.ofString "|"))))) [1])) aNil)))
noncomputable def F_is_plain : List Sl → M Sl := runF m_is_plain 2
noncomputable def m_is_number : DE → M Ctl :=
  (sSeq (sIf (eOrT (eTr asB (eOp pyEq (eVar 0) (eC (.str (Str.ofString ""))))) (eNotT (eTr pyTruth (eCl (on1 pyAll) (aCons (eFrz (eLc (iSeq (eVar 0)) (gN 1) mYes (eOp pyInS (eVar 1) (eC (.str (Str.ofString "0123456789")))) [1])) aNil))))) (sRet (eC (.bool false))) sNil) (sRet (eOr (eOp pyEq (eVar 0) (eC (.str (Str.ofString "0")))) (eOp pyNe (eOp pyIx (eVar 0) (eC (.int 0))) (eC (.str (Str.ofString "0")))))))
noncomputable def F_is_number : List Sl → M Sl := runF m_is_number 2
noncomputable def m_first_text : DE → M Ctl :=
  (sSeq (sIf (eTr asB (eOp pyNe (eSl pySl (eVar 0) ptNone (ptSome (eC (.int 1)))) (eC (.str (Str.ofString "|"))))) (sRet (eC .none)) sNil) (sSeq (sSet 1 (eOp pyIx (eSm sSplit (eSl pySl (eVar 0) (ptSome (eC (.int 1))) (ptSome (eC (.int 5)))) (aCons (eC (.str (Str.ofString ":"))) aNil)) (eC (.int 0)))) (sSeq (sIf (eOrT (eNotT (eTr pyTruth (eDat (eCall (onlyN 1 F_is_number) (asD (eVar 1) asNil))))) (eTr asB (eOp pyGt (eCl (on1 pyInt) (aCons (eVar 1) aNil)) (eC (.int 200))))) (sRet (eC .none)) sNil) (sSeq (sSet 2 (eOp pyAdd (eCl (on1 pyLen) (aCons (eVar 1) aNil)) (eC (.int 2)))) (sSeq (sSet 3 (eSl pySl (eVar 0) (ptSome (eVar 2)) (ptSome (eOp pyAdd (eVar 2) (eCl (on1 pyInt) (aCons (eVar 1) aNil)))))) (sSeq (sIf (eNotT (eTr pyTruth (eDat (eCall (onlyN 1 F_is_plain) (asD (eVar 3) asNil))))) (sRet (eC .none)) sNil) (sRet (eIf (eAndT (eTr pyTruth (eSm sStarts (eVar 0) (aCons (eDat (eCall (onlyN 1 F_framed) (asD (eVar 3) asNil))) aNil))) (eTr asB (eOp pyEq (eCl (on1 pyLen) (aCons (eVar 3) aNil)) (eCl (on1 pyInt) (aCons (eVar 1) aNil))))) (eVar 3) (eC .none)))))))))
noncomputable def F_first_text : List Sl → M Sl := runF m_first_text 4
noncomputable def m_read_frames : DE → M Ctl :=
  (sSeq (sSetO 1 (eLst aNil)) (whD (eTr pyTruth (eC (.bool true))) (sSeq (sSet 2 (eDat (eCall (onlyN 1 F_first_text) (asD (eVar 0) asNil)))) (sSeq (sIf (eTr asB (eOp pyIsN (eVar 2) (eC .none))) (sRet (eTup (aCons (eTupV 1) (aCons (eCl (on1 pyLen) (aCons (eVar 0) aNil)) aNil)))) sNil) (sSeq (sApp 1 (eVar 2)) (sSet 0 (eSl pySl (eVar 0) (ptSome (eCl (on1 pyLen) (aCons (eDat (eCall (onlyN 1 F_framed) (asD (eVar 2) asNil))) aNil))) ptNone)))))))
noncomputable def F_read_frames : List Sl → M Sl := runF m_read_frames 3
noncomputable def m_law_take : DE → M Ctl :=
  (sSeq (sIf (eTr asB (eOp pyEq (eBag 0 0) (eC (.int 0)))) (sSeq (sSet 4 (eOp pyIx (eOp pyAdd (eSl pySl (eBag 0 3) (ptSome (eBag 0 2)) ptNone) (eFrz (eLst (aCons (eC (.int 0)) aNil)))) (eC (.int 0)))) (sSeq (sBagA 0 2 (eC (.int 1))) (sSeq (sIf (eTr asB (eOp pyGe (eVar 4) (eOp pyPow (eC (.int 10)) (eC (.int 18))))) (sBag 0 0 (eVar 4)) sNil) (sSeq (sSet 5 (eOp pyAdd (eOp pyAdd (eOp pyMul (eBag 0 1) (eC (.int 48271))) (eOp pyMod (eCl (on1 pyInt) (aCons (eVar 4) aNil)) (eC (.int 2147483647)))) (eOp pyMul (eC (.int 7919)) (eBag 0 2)))) (sBag 0 1 (eOp pyMod (eCl (on1 pyInt) (aCons (eVar 5) aNil)) (eC (.int 2147483647)))))))) sNil) (sSeq (sIf (eTr asB (eOp pyGt (eBag 0 0) (eC (.int 0)))) (sSeq (sSet 6 (eOp pyMod (eCl (on1 pyInt) (aCons (eBag 0 0) aNil)) (eVar 1))) (sSeq (sBag 0 0 (eOp pyDiv (eCl (on1 pyInt) (aCons (eBag 0 0) aNil)) (eVar 1))) (sRet (eVar 6)))) sNil) (sSeq (sSet 2 (eOp pyMod (eCl (on1 pyInt) (aCons (eOp pyMul (eOp pyAdd (eBag 0 1) (eC (.int 1))) (eC (.int 39373))) aNil)) (eC (.int 1000000007)))) (sSeq (sSet 3 (eOp pyMod (eCl (on1 pyInt) (aCons (eOp pyMul (eOp pyMod (eCl (on1 pyInt) (aCons (eOp pyMul (eVar 2) (eVar 2)) aNil)) (eC (.int 998244353))) (eC (.int 30011))) aNil)) (eC (.int 998244353)))) (sRet (eOp pyMod (eCl (on1 pyInt) (aCons (eOp pyDiv (eVar 3) (eC (.int 7))) aNil)) (eVar 1)))))))
noncomputable def F_law_take : List Sl → M Sl := runF m_law_take 7
noncomputable def m_law_some : DE → M Ctl :=
  (sRet (eOp pyIx (eVar 1) (eDat (eCall (onlyN 2 F_law_take) (asBag 0 (asD (eCl (on1 pyLen) (aCons (eVar 1) aNil)) asNil))))))
noncomputable def F_law_some : List Sl → M Sl := runF m_law_some 2
noncomputable def m_law_alike : DE → M Ctl :=
  (sRet (eAnd (eOp pyEq (eCl (on1 pyRepr1) (aCons (eVar 0) aNil)) (eCl (on1 pyRepr1) (aCons (eVar 1) aNil))) (eOp pyEq (eVar 0) (eVar 1))))
noncomputable def F_law_alike : List Sl → M Sl := runF m_law_alike 2
noncomputable def m_law_check : DE → M Ctl :=
  (sRet (eOp pyMod (eCl (on1 pySumL) (aCons (eFrz (eLc (iEn en1 (aCons (eVar 0) aNil)) (gT 2 (gsCons (gN 1) (gsCons (gN 2) gsNil))) mYes (eOp pyMul (eOp pyAdd (eVar 1) (eC (.int 1))) (eCl (on1 pyOrd) (aCons (eVar 2) aNil))) [1, 2])) aNil)) (eC (.int 997))))
noncomputable def F_law_check : List Sl → M Sl := runF m_law_check 3
noncomputable def m_law_framed : DE → M Ctl :=
  (sSeq (sSet 1 (eSl pySl (eCl (on1 pyStr) (aCons (eOp pyAdd (eC (.int 1000)) (eDat (eCall (onlyN 1 F_law_check) (asD (eVar 0) asNil)))) aNil)) (ptSome (eC (.int 1))) ptNone)) (sRet (eOp pyAdd (eOp pyAdd (eOp pyAdd (eOp pyAdd (eOp pyAdd (eOp pyAdd (eC (.str (Str.ofString "|"))) (eCl (on1 pyStr) (aCons (eCl (on1 pyLen) (aCons (eVar 0) aNil)) aNil))) (eC (.str (Str.ofString ":")))) (eVar 0)) (eC (.str (Str.ofString ";")))) (eVar 1)) (eC (.str (Str.ofString "\n"))))))
noncomputable def F_law_framed : List Sl → M Sl := runF m_law_framed 2
noncomputable def m_law_first_text : DE → M Ctl :=
  (sSeq (sIf (eOrT (eTr asB (eOp pyNe (eSl pySl (eVar 0) ptNone (ptSome (eC (.int 1)))) (eC (.str (Str.ofString "|"))))) (eTr asB (eOp pyNotInS (eC (.str (Str.ofString ":"))) (eSl pySl (eVar 0) ptNone (ptSome (eC (.int 5))))))) (sRet (eC .none)) sNil) (sSeq (sSet 1 (eSl pySl (eVar 0) (ptSome (eC (.int 1))) (ptSome (eSm sIndex (eVar 0) (aCons (eC (.str (Str.ofString ":"))) aNil))))) (sSeq (sIf (eOrT (eTr asB (eOp pyEq (eVar 1) (eC (.str (Str.ofString ""))))) (eOrT (eTr asB (eOp pyNe (eFrz (eLc (iSeq (eVar 1)) (gN 6) (eTr asB (eOp pyNotInS (eVar 6) (eC (.str (Str.ofString "0123456789"))))) (eC (.int 1)) [6])) (eFrz (eLst aNil)))) (eTr asB (eOp pyNe (eCl (on1 pyStr) (aCons (eCl (on1 pyInt) (aCons (eVar 1) aNil)) aNil)) (eVar 1))))) (sRet (eC .none)) sNil) (sSeq (sPar 4 5 (eCl (on1 pyInt) (aCons (eVar 1) aNil)) (eOp pyAdd (eCl (on1 pyLen) (aCons (eVar 1) aNil)) (eC (.int 2)))) (sSeq (sSet 2 (eSl pySl (eVar 0) (ptSome (eVar 5)) (ptSome (eOp pyAdd (eVar 5) (eVar 4))))) (sSeq (sIf (eOrT (eTr asB (eOp pyGt (eVar 4) (eC (.int 200)))) (eOrT (eTr asB (eOp pyNe (eCl (on1 pyLen) (aCons (eVar 2) aNil)) (eVar 4))) (eTr asB (eOp pyNe (eFrz (eLc (iSeq (eVar 2)) (gN 6) (eOrT (eTr asB (eOp pyEq (eVar 6) (eC (.str (Str.ofString "|"))))) (eNotT (eTr asB (eCh pyLe pyLe (eC (.str (Str.ofString " "))) (eVar 6) (eC (.str (Str.ofString "~"))))))) (eC (.int 1)) [6])) (eFrz (eLst aNil)))))) (sRet (eC .none)) sNil) (sSeq (sSet 3 (eDat (eCall (onlyN 1 F_law_framed) (asD (eVar 2) asNil)))) (sRet (eIf (eTr asB (eOp pyEq (eSl pySl (eVar 0) ptNone (ptSome (eCl (on1 pyLen) (aCons (eVar 3) aNil)))) (eVar 3))) (eVar 2) (eC .none))))))))))
noncomputable def F_law_first_text : List Sl → M Sl := runF m_law_first_text 7
noncomputable def m_law_read : DE → M Ctl :=
  (sSeq (sParO 1 2 (eLst aNil) (eC (.int 0))) (sSeq (whD (eTr asB (eOp pyLt (eVar 2) (eCl (on1 pyLen) (aCons (eVar 0) aNil)))) (sSeq (sSet 3 (eDat (eCall (onlyN 1 F_law_first_text) (asD (eSl pySl (eVar 0) (ptSome (eVar 2)) ptNone) asNil)))) (sSeq (sIf (eTr asB (eOp pyIsN (eVar 3) (eC .none))) (sRet (eTup (aCons (eTupV 1) (aCons (eOp pySub (eCl (on1 pyLen) (aCons (eVar 0) aNil)) (eVar 2)) aNil)))) sNil) (sSeq (sApp 1 (eVar 3)) (sAug 2 pyIAdd (eCl (on1 pyLen) (aCons (eDat (eCall (onlyN 1 F_law_framed) (asD (eVar 3) asNil))) aNil))))))) (sRet (eTup (aCons (eTupV 1) (aCons (eC (.int 0)) aNil))))))
noncomputable def F_law_read : List Sl → M Sl := runF m_law_read 4
noncomputable def m_law_text : DE → M Ctl :=
  (sSeq (sSet 2 (eDat (eCall (onlyN 2 F_law_some) (asBag 0 (asD (eFrz (eLst (aCons (eC (.str (Str.ofString "ab"))) (aCons (eC (.str (Str.ofString "0123456789:;"))) (aCons (eC (.str (Str.ofString " ~"))) (aCons (eC (.str (Str.ofString "abc/:;"))) (aCons (eC (.str (Str.ofString "xyz done"))) aNil))))))) asNil))))) (sRet (eSm sJoin (eC (.str (Str.ofString ""))) (aCons (eFrz (eLc (iRg1 (aCons (eDat (eCall (onlyN 2 F_law_take) (asBag 0 (asD (eOp pyAdd (eVar 1) (eC (.int 1))) asNil)))) aNil)) (gN 3) mYes (eDat (eCall (onlyN 2 F_law_some) (asBag 0 (asD (eFrz (eClO (on1L pyListS) (aCons (eVar 2) aNil))) asNil)))) [3])) aNil))))
noncomputable def F_law_text : List Sl → M Sl := runF m_law_text 4
noncomputable def m_law_bent : DE → M Ctl :=
  (sSeq (sPar 2 3 (eDat (eCall (onlyN 2 F_law_take) (asBag 0 (asD (eOp pyAdd (eCl (on1 pyLen) (aCons (eVar 1) aNil)) (eC (.int 1))) asNil)))) (eDat (eCall (onlyN 2 F_law_take) (asBag 0 (asD (eC (.int 7)) asNil))))) (sSeq (sIf (eTr asB (eOp pyEq (eVar 3) (eC (.int 0)))) (sRet (eOp pyAdd (eOp pyAdd (eSl pySl (eVar 1) ptNone (ptSome (eVar 2))) (eDat (eCall (onlyN 2 F_law_some) (asBag 0 (asD (eFrz (eLst (aCons (eC (.str (Str.ofString "|"))) (aCons (eC (.str (Str.ofString ":"))) (aCons (eC (.str (Str.ofString ";"))) (aCons (eC (.str (Str.ofString "\n"))) (aCons (eC (.str (Str.ofString "0"))) (aCons (eC (.str (Str.ofString "7"))) (aCons (eC (.str (Str.ofString " "))) (aCons (eC (.str (Str.ofString "|0:;000\n"))) (aCons (eC (.str (Str.ofString "a"))) (aCons (eCl (on1 pyChr) (aCons (eC (.int 233)) aNil)) (aCons (eC (.str (Str.ofString "\t"))) aNil))))))))))))) asNil))))) (eSl pySl (eVar 1) (ptSome (eVar 2)) ptNone))) sNil) (sSeq (sIf (eTr asB (eOp pyEq (eVar 3) (eC (.int 1)))) (sRet (eOp pyAdd (eSl pySl (eVar 1) ptNone (ptSome (eVar 2))) (eSl pySl (eVar 1) (ptSome (eOp pyAdd (eOp pyAdd (eVar 2) (eC (.int 1))) (eDat (eCall (onlyN 2 F_law_take) (asBag 0 (asD (eC (.int 4)) asNil)))))) ptNone))) sNil) (sSeq (sIf (eTr asB (eOp pyEq (eVar 3) (eC (.int 2)))) (sRet (eSl pySl (eVar 1) ptNone (ptSome (eVar 2)))) sNil) (sSeq (sIf (eTr asB (eOp pyEq (eVar 3) (eC (.int 3)))) (sRet (eSl pySl (eVar 1) (ptSome (eVar 2)) ptNone)) sNil) (sSeq (sIf (eTr asB (eOp pyEq (eVar 3) (eC (.int 4)))) (sRet (eOp pyAdd (eOp pyAdd (eSl pySl (eVar 1) ptNone (ptSome (eVar 2))) (eDat (eCall (onlyN 2 F_law_some) (asBag 0 (asD (eFrz (eClO (on1L pyListS) (aCons (eC (.str (Str.ofString "|:;0129a \n"))) aNil))) asNil))))) (eSl pySl (eVar 1) (ptSome (eOp pyAdd (eVar 2) (eC (.int 1)))) ptNone))) sNil) (sRet (eOp pyAdd (eVar 1) (eDat (eCall (onlyN 2 F_law_some) (asBag 0 (asD (eFrz (eLst (aCons (eC (.str (Str.ofString "|"))) (aCons (eC (.str (Str.ofString "|1"))) (aCons (eC (.str (Str.ofString "|201:"))) (aCons (eC (.str (Str.ofString "|1:a;097"))) (aCons (eC (.str (Str.ofString "|01:a;097\n"))) (aCons (eC (.str (Str.ofString "|1:a;97\n"))) (aCons (eC (.str (Str.ofString "|1:|;124\n"))) (aCons (eC (.str (Str.ofString "|0:;000\n"))) (aCons (eC (.str (Str.ofString "|+1:a;097\n"))) (aCons (eC (.str (Str.ofString "|1:\n;010\n"))) aNil)))))))))))) asNil))))))))))))
noncomputable def F_law_bent : List Sl → M Sl := runF m_law_bent 4
noncomputable def m_law : DE → M Ctl :=
  (sSeq (sFor (iRg1 (aCons (eC (.int 4)) aNil)) (gN 2) (sSeq (sSet 4 (eFrz (eLc (iRg1 (aCons (eDat (eCall (onlyN 2 F_law_take) (asBag 1 (asD (eC (.int 5)) asNil)))) aNil)) (gN 9) mYes (eDat (eCall (onlyN 2 F_law_text) (asBag 1 (asD (eDat (eCall (onlyN 2 F_law_some) (asBag 1 (asD (eFrz (eLst (aCons (eC (.int 3)) (aCons (eC (.int 12)) (aCons (eC (.int 0)) (aCons (eC (.int 200)) aNil)))))) asNil)))) asNil)))) [9]))) (sSeq (sIf (eNotT (eTr pyTruth (eDat (eCall (onlyN 2 F_law_alike) (asD (eFrz (eLc (iSeq (eVar 4)) (gN 11) mYes (eDat (eCall (onlyN 1 F_framed) (asD (eVar 11) asNil))) [11])) (asD (eFrz (eLc (iSeq (eVar 4)) (gN 11) mYes (eDat (eCall (onlyN 1 F_law_framed) (asD (eVar 11) asNil))) [11])) asNil)))))) (sRet (eC (.bool false))) sNil) (sSeq (sSet 5 (eSm sJoin (eC (.str (Str.ofString ""))) (aCons (eFrz (eLc (iSeq (eVar 4)) (gN 11) mYes (eDat (eCall (onlyN 1 F_law_framed) (asD (eVar 11) asNil))) [11])) aNil))) (sFor (iSeq (eTup (aCons (eVar 5) (aCons (eDat (eCall (onlyN 2 F_law_bent) (asBag 1 (asD (eVar 5) asNil)))) (aCons (eDat (eCall (onlyN 2 F_law_bent) (asBag 1 (asD (eVar 5) asNil)))) (aCons (eDat (eCall (onlyN 2 F_law_bent) (asBag 1 (asD (eDat (eCall (onlyN 2 F_law_bent) (asBag 1 (asD (eVar 5) asNil)))) asNil)))) aNil)))))) (gN 6) (sIf (eNotT (eTr pyTruth (eDat (eCall (onlyN 2 F_law_alike) (asD (eFrz (eLst (aCons (eDat (eCall (onlyN 1 F_read_frames) (asD (eVar 6) asNil))) (aCons (eDat (eCall (onlyN 1 F_read_frames) (asD (eVar 6) asNil))) aNil)))) (asD (eOp pyMul (eFrz (eLst (aCons (eDat (eCall (onlyN 1 F_law_read) (asD (eVar 6) asNil))) aNil))) (eC (.int 2))) asNil)))))) (sRet (eC (.bool false))) sNil)))))) (sSeq (sPar 7 8 (eOp pyAdd (eDat (eCall (onlyN 1 F_law_framed) (asD (eOp pyMul (eC (.str (Str.ofString "a"))) (eC (.int 201))) asNil))) (eC (.str (Str.ofString "|0:;000\n")))) (eOp pyAdd (eDat (eCall (onlyN 1 F_law_framed) (asD (eOp pyMul (eC (.str (Str.ofString "a"))) (eC (.int 200))) asNil))) (eC (.str (Str.ofString "|0:;000\n"))))) (sSeq (sIf (eNotT (eTr pyTruth (eDat (eCall (onlyN 2 F_law_alike) (asD (eFrz (eLst (aCons (eDat (eCall (onlyN 1 F_read_frames) (asD (eVar 7) asNil))) (aCons (eDat (eCall (onlyN 1 F_read_frames) (asD (eVar 8) asNil))) aNil)))) (asD (eFrz (eLst (aCons (eTup (aCons (eTup aNil) (aCons (eCl (on1 pyLen) (aCons (eVar 7) aNil)) aNil))) (aCons (eTup (aCons (eTup (aCons (eOp pyMul (eC (.str (Str.ofString "a"))) (eC (.int 200))) (aCons (eC (.str (Str.ofString ""))) aNil))) (aCons (eC (.int 0)) aNil))) aNil)))) asNil)))))) (sRet (eC (.bool false))) sNil) (sSeq (sSet 3 (eSm sJoin (eC (.str (Str.ofString ""))) (aCons (eFrz (eLc (iRg2 (aCons (eC (.int 32)) (aCons (eC (.int 127)) aNil))) (gN 10) (eTr asB (eOp pyNe (eVar 10) (eC (.int 124)))) (eCl (on1 pyChr) (aCons (eVar 10) aNil)) [10])) aNil))) (sRet (eDat (eCall (onlyN 2 F_law_alike) (asD (eFrz (eLst (aCons (eDat (eCall (onlyN 1 F_read_frames) (asD (eDat (eCall (onlyN 1 F_framed) (asD (eVar 3) asNil))) asNil))) (aCons (eDat (eCall (onlyN 1 F_framed) (asD (eVar 3) asNil))) (aCons (eDat (eCall (onlyN 1 F_framed) (asD (eC (.str (Str.ofString ""))) asNil))) aNil))))) (asD (eFrz (eLst (aCons (eTup (aCons (eTup (aCons (eVar 3) aNil)) (aCons (eC (.int 0)) aNil))) (aCons (eDat (eCall (onlyN 1 F_law_framed) (asD (eVar 3) asNil))) (aCons (eC (.str (Str.ofString "|0:;000\n"))) aNil))))) asNil)))))))))
/-! ### what the top leaves -/
structure Tp (K : PySem.W.Frag) (mg : Str → Option Value) (f_check_of f_framed f_is_plain f_is_number f_first_text f_read_frames f_law_bag f_law_take f_law_some f_law_alike f_law_check f_law_framed f_law_first_text f_law_read f_law_text f_law_bent f_law : Addr) (d_check_of d_framed d_is_plain d_is_number d_first_text d_read_frames d_law_bag d_law_take d_law_some d_law_alike d_law_check d_law_framed d_law_first_text d_law_read d_law_text d_law_bent d_law : FuncData) : Prop where
  F_check_of : Fun K (Str.ofString "check_of") (Str.ofString "check_of") s_check_of f_check_of d_check_of
  b_check_of : L2.Binds K d_check_of p_check_of []
  g_check_of : mg (Str.ofString "check_of") = some (.ref f_check_of)
  F_framed : Fun K (Str.ofString "framed") (Str.ofString "framed") s_framed f_framed d_framed
  b_framed : L2.Binds K d_framed p_framed []
  g_framed : mg (Str.ofString "framed") = some (.ref f_framed)
  F_is_plain : Fun K (Str.ofString "is_plain") (Str.ofString "is_plain") s_is_plain f_is_plain d_is_plain
  b_is_plain : L2.Binds K d_is_plain p_is_plain []
  g_is_plain : mg (Str.ofString "is_plain") = some (.ref f_is_plain)
  F_is_number : Fun K (Str.ofString "is_number") (Str.ofString "is_number") s_is_number f_is_number d_is_number
  b_is_number : L2.Binds K d_is_number p_is_number []
  g_is_number : mg (Str.ofString "is_number") = some (.ref f_is_number)
  F_first_text : Fun K (Str.ofString "first_text") (Str.ofString "first_text") s_first_text f_first_text d_first_text
  b_first_text : L2.Binds K d_first_text p_first_text []
  g_first_text : mg (Str.ofString "first_text") = some (.ref f_first_text)
  F_read_frames : Fun K (Str.ofString "read_frames") (Str.ofString "read_frames") s_read_frames f_read_frames d_read_frames
  b_read_frames : L2.Binds K d_read_frames p_read_frames []
  g_read_frames : mg (Str.ofString "read_frames") = some (.ref f_read_frames)
  F_law_bag : Fun K (Str.ofString "_law_bag") (Str.ofString "_law_bag") s_law_bag f_law_bag d_law_bag
  b_law_bag : L2.Binds K d_law_bag p_law_bag []
  g_law_bag : mg (Str.ofString "_law_bag") = some (.ref f_law_bag)
  F_law_take : Fun K (Str.ofString "_law_take") (Str.ofString "_law_take") s_law_take f_law_take d_law_take
  b_law_take : L2.Binds K d_law_take p_law_take []
  g_law_take : mg (Str.ofString "_law_take") = some (.ref f_law_take)
  F_law_some : Fun K (Str.ofString "_law_some") (Str.ofString "_law_some") s_law_some f_law_some d_law_some
  b_law_some : L2.Binds K d_law_some p_law_some []
  g_law_some : mg (Str.ofString "_law_some") = some (.ref f_law_some)
  F_law_alike : Fun K (Str.ofString "_law_alike") (Str.ofString "_law_alike") s_law_alike f_law_alike d_law_alike
  b_law_alike : L2.Binds K d_law_alike p_law_alike []
  g_law_alike : mg (Str.ofString "_law_alike") = some (.ref f_law_alike)
  F_law_check : Fun K (Str.ofString "_law_check") (Str.ofString "_law_check") s_law_check f_law_check d_law_check
  b_law_check : L2.Binds K d_law_check p_law_check []
  g_law_check : mg (Str.ofString "_law_check") = some (.ref f_law_check)
  F_law_framed : Fun K (Str.ofString "_law_framed") (Str.ofString "_law_framed") s_law_framed f_law_framed d_law_framed
  b_law_framed : L2.Binds K d_law_framed p_law_framed []
  g_law_framed : mg (Str.ofString "_law_framed") = some (.ref f_law_framed)
  F_law_first_text : Fun K (Str.ofString "_law_first_text") (Str.ofString "_law_first_text") s_law_first_text f_law_first_text d_law_first_text
  b_law_first_text : L2.Binds K d_law_first_text p_law_first_text []
  g_law_first_text : mg (Str.ofString "_law_first_text") = some (.ref f_law_first_text)
  F_law_read : Fun K (Str.ofString "_law_read") (Str.ofString "_law_read") s_law_read f_law_read d_law_read
  b_law_read : L2.Binds K d_law_read p_law_read []
  g_law_read : mg (Str.ofString "_law_read") = some (.ref f_law_read)
  F_law_text : Fun K (Str.ofString "_law_text") (Str.ofString "_law_text") s_law_text f_law_text d_law_text
  b_law_text : L2.Binds K d_law_text p_law_text []
  g_law_text : mg (Str.ofString "_law_text") = some (.ref f_law_text)
  F_law_bent : Fun K (Str.ofString "_law_bent") (Str.ofString "_law_bent") s_law_bent f_law_bent d_law_bent
  b_law_bent : L2.Binds K d_law_bent p_law_bent []
  g_law_bent : mg (Str.ofString "_law_bent") = some (.ref f_law_bent)
  F_law : Fun K (Str.ofString "law") (Str.ofString "law") s_law f_law d_law
  b_law : L2.Binds K d_law p_law []
  g_law : mg (Str.ofString "law") = some (.ref f_law)
  z_abs : mg (Str.ofString "abs") = none
  z_all : mg (Str.ofString "all") = none
  z_chr : mg (Str.ofString "chr") = none
  z_enumerate : mg (Str.ofString "enumerate") = none
  z_int : mg (Str.ofString "int") = none
  z_len : mg (Str.ofString "len") = none
  z_list : mg (Str.ofString "list") = none
  z_ord : mg (Str.ofString "ord") = none
  z_range : mg (Str.ofString "range") = none
  z_repr : mg (Str.ofString "repr") = none
  z_str : mg (Str.ofString "str") = none
  z_sum : mg (Str.ofString "sum") = none
  z_tuple : mg (Str.ofString "tuple") = none
  c_MOST_SIGNS : ∃ t, mg (Str.ofString "MOST_SIGNS") = some (.int 200 t)
  c_MODULUS : ∃ t, mg (Str.ofString "MODULUS") = some (.int 997 t)
  c_DIGITS : ∃ t, mg (Str.ofString "DIGITS") = some (.str (Str.ofString "0123456789") t)
  c_BEGIN : ∃ t, mg (Str.ofString "BEGIN") = some (.str (Str.ofString "|") t)
section
variable {P : Program} {w : World} {K : PySem.W.Frag} {mg : Str → Option Value} {base : Heap} {f_check_of f_framed f_is_plain f_is_number f_first_text f_read_frames f_law_bag f_law_take f_law_some f_law_alike f_law_check f_law_framed f_law_first_text f_law_read f_law_text f_law_bent f_law : Addr} {d_check_of d_framed d_is_plain d_is_number d_first_text d_read_frames d_law_bag d_law_take d_law_some d_law_alike d_law_check d_law_framed d_law_first_text d_law_read d_law_text d_law_bent d_law : FuncData}
set_option maxHeartbeats 40000000 in
theorem ok_check_of (T : Tp K mg f_check_of f_framed f_is_plain f_is_number f_first_text f_read_frames f_law_bag f_law_take f_law_some f_law_alike f_law_check f_law_framed f_law_first_text f_law_read f_law_text f_law_bent f_law d_check_of d_framed d_is_plain d_is_number d_first_text d_read_frames d_law_bag d_law_take d_law_some d_law_alike d_law_check d_law_framed d_law_first_text d_law_read d_law_text d_law_bent d_law) : FnOk P w K mg base CX0 1 f_check_of d_check_of p_check_of (spF K F_check_of 1) :=
  fn_pd T.F_check_of sc_check_of fun cdv A outer s H E hr =>
    (pss_one' (psd_ret (pd_op od_mod (pd_callB (cd_sum rfl) (by rfl) T.z_sum (by decide +kernel) (pda_cons (pd_frz (po_lc (own := [((Str.ofString "at"), 1), ((Str.ofString "sign"), 2)]) rfl sc_check_of.nd (pdi_en2 (by rfl) T.z_enumerate (pda_cons (pd_var (pv 0)) (pda_cons pd_int pda_nil))) (blkOk_by (own := [((Str.ofString "at"), 1), ((Str.ofString "sign"), 2)]) (by show blkC N_check_of (defScope s_check_of) _ _ = true; decide +kernel)) (fun _ _ _ _ _ => (pg_tup rfl (pgs_cons (pg_name (i := 1) sc_check_of.nd rfl (by first | exact Or.inl rfl | exact Or.inr rfl)) (pgs_cons (pg_name (i := 2) sc_check_of.nd rfl (by first | exact Or.inl rfl | exact Or.inr rfl)) pgs_nil)))) (fun _ _ _ _ _ => pts_yes) (fun _ _ _ _ _ => (pd_op od_mul (pd_var (pv 1)) (pd_callB cd_ord (by rfl) T.z_ord (by decide +kernel) (pda_cons (pd_var (pv 2)) pda_nil)))) (tg_tup (tgs_cons tg_name (tgs_cons tg_name tgs_nil))) (by decide))) pda_nil)) (pd_globI (by rfl) T.c_MODULUS))))
set_option maxHeartbeats 40000000 in
theorem ok_framed (T : Tp K mg f_check_of f_framed f_is_plain f_is_number f_first_text f_read_frames f_law_bag f_law_take f_law_some f_law_alike f_law_check f_law_framed f_law_first_text f_law_read f_law_text f_law_bent f_law d_check_of d_framed d_is_plain d_is_number d_first_text d_read_frames d_law_bag d_law_take d_law_some d_law_alike d_law_check d_law_framed d_law_first_text d_law_read d_law_text d_law_bent d_law) (G_check_of : FnOk P w K mg base CX0 1 f_check_of d_check_of p_check_of (spF K F_check_of 1)) : FnOk P w K mg base CX0 2 f_framed d_framed p_framed (spF K F_framed 1) :=
  fn_pd T.F_framed sc_framed fun cdv A outer s H E hr =>
    (pss_one' (psd_ret (pd_joined (PJd.cons (pd_fmt (pd_globS (by rfl) T.c_BEGIN)) (PJd.cons (pd_fmt (pd_callB cd_len (by rfl) T.z_len (by decide +kernel) (pda_cons (pd_var (pv 0)) pda_nil))) (PJd.cons pd_str (PJd.cons (pd_fmt (pd_var (pv 0))) (PJd.cons pd_str (PJd.cons (pd_fmt3 (pd_dat (pr_call G_check_of (hr.mono (by decide)) (by rfl) T.g_check_of T.F_check_of.kp T.b_check_of (pas_d (pd_var (pv 0)) pas_nil)))) (PJd.cons pd_str PJd.nil))))))))))
set_option maxHeartbeats 40000000 in
theorem ok_is_plain (T : Tp K mg f_check_of f_framed f_is_plain f_is_number f_first_text f_read_frames f_law_bag f_law_take f_law_some f_law_alike f_law_check f_law_framed f_law_first_text f_law_read f_law_text f_law_bent f_law d_check_of d_framed d_is_plain d_is_number d_first_text d_read_frames d_law_bag d_law_take d_law_some d_law_alike d_law_check d_law_framed d_law_first_text d_law_read d_law_text d_law_bent d_law) : FnOk P w K mg base CX0 1 f_is_plain d_is_plain p_is_plain (spF K F_is_plain 1) :=
  fn_pd T.F_is_plain sc_is_plain fun cdv A outer s H E hr =>
    (pss_one' (psd_ret (pd_callB (cd_all rfl) (by rfl) T.z_all (by decide +kernel) (pda_cons (pd_frz (po_lc (own := [((Str.ofString "sign"), 1)]) rfl sc_is_plain.nd (pdi_seq (pd_var (pv 0))) (blkOk_by (own := [((Str.ofString "sign"), 1)]) (by show blkC N_is_plain (defScope s_is_plain) _ _ = true; decide +kernel)) (fun _ _ _ _ _ => (pg_name (i := 1) sc_is_plain.nd rfl (by first | exact Or.inl rfl | exact Or.inr rfl))) (fun _ _ _ _ _ => pts_yes) (fun _ _ _ _ _ => (pd_and (pd_chain od_le od_le pd_str (pd_var (pv 1)) pd_str) (pd_one (pd_cmp (od_ne hr.units) (pd_var (pv 1)) (pd_globS (by rfl) T.c_BEGIN) (nomark _))))) tg_name (by decide))) pda_nil))))
set_option maxHeartbeats 40000000 in
theorem ok_is_number (T : Tp K mg f_check_of f_framed f_is_plain f_is_number f_first_text f_read_frames f_law_bag f_law_take f_law_some f_law_alike f_law_check f_law_framed f_law_first_text f_law_read f_law_text f_law_bent f_law d_check_of d_framed d_is_plain d_is_number d_first_text d_read_frames d_law_bag d_law_take d_law_some d_law_alike d_law_check d_law_framed d_law_first_text d_law_read d_law_text d_law_bent d_law) : FnOk P w K mg base CX0 1 f_is_number d_is_number p_is_number (spF K F_is_number 1) :=
  fn_pd T.F_is_number sc_is_number fun cdv A outer s H E hr =>
    (pss_cons' (psd_if (PW.pt (pdw_or (pdt_cmp (od_eq hr.units) (pd_var (pv 0)) pd_str (nomark _)) (pdw_or1 (pdt_not (pdt_truth (pd_callB (cd_all rfl) (by rfl) T.z_all (by decide +kernel) (pda_cons (pd_frz (po_lc (own := [((Str.ofString "sign"), 1)]) rfl sc_is_number.nd (pdi_seq (pd_var (pv 0))) (blkOk_by (own := [((Str.ofString "sign"), 1)]) (by show blkC N_is_number (defScope s_is_number) _ _ = true; decide +kernel)) (fun _ _ _ _ _ => (pg_name (i := 1) sc_is_number.nd rfl (by first | exact Or.inl rfl | exact Or.inr rfl))) (fun _ _ _ _ _ => pts_yes) (fun _ _ _ _ _ => (pd_cmp od_inS (pd_var (pv 1)) (pd_globS (by rfl) T.c_DIGITS) (by rfl))) tg_name (by decide))) pda_nil))))))) (pss_one' (psd_ret pd_bl)) pss_nil') (pss_one' (psd_ret (pd_or (pd_cmp (od_eq hr.units) (pd_var (pv 0)) pd_str (nomark _)) (pd_one (pd_cmp (od_ne hr.units) (pd_ix xd_ix (pd_var (pv 0)) pd_int (fun _ _ => rfl)) pd_str (nomark _)))))))
set_option maxHeartbeats 40000000 in
theorem ok_first_text (T : Tp K mg f_check_of f_framed f_is_plain f_is_number f_first_text f_read_frames f_law_bag f_law_take f_law_some f_law_alike f_law_check f_law_framed f_law_first_text f_law_read f_law_text f_law_bent f_law d_check_of d_framed d_is_plain d_is_number d_first_text d_read_frames d_law_bag d_law_take d_law_some d_law_alike d_law_check d_law_framed d_law_first_text d_law_read d_law_text d_law_bent d_law) (G_framed : FnOk P w K mg base CX0 2 f_framed d_framed p_framed (spF K F_framed 1)) (G_is_plain : FnOk P w K mg base CX0 1 f_is_plain d_is_plain p_is_plain (spF K F_is_plain 1)) (G_is_number : FnOk P w K mg base CX0 1 f_is_number d_is_number p_is_number (spF K F_is_number 1)) : FnOk P w K mg base CX0 3 f_first_text d_first_text p_first_text (spF K F_first_text 1) :=
  fn_pd T.F_first_text sc_first_text fun cdv A outer s H E hr =>
    (pss_cons' (psd_if (pdt_cmp (od_ne hr.units) (pd_slice xd_sl (pd_var (pv 0)) pp_none (pp_some pd_int)) (pd_globS (by rfl) T.c_BEGIN) (nomark _)) (pss_one' (psd_ret pd_non)) pss_nil') (pss_cons' (psd_set (i := 1) sc_first_text.nd rfl (by first | exact Or.inl rfl | exact Or.inr rfl) (pd_ix xd_ix (pd_sm PySem.F.plainAttrs_str PySem.F.slot_str_split PySem.F.type_str_split md_split (pd_slice xd_sl (pd_var (pv 0)) (pp_some pd_int) (pp_some pd_int)) (pda_cons pd_str pda_nil)) pd_int (fun _ _ => rfl))) (pss_cons' (psd_if (PW.pt (pdw_or (pdt_not (pdt_truth (pd_dat (pr_call G_is_number (hr.mono (by decide)) (by rfl) T.g_is_number T.F_is_number.kp T.b_is_number (pas_d (pd_var (pv 1)) pas_nil))))) (pdw_or1 (pdt_cmp od_gt (pd_callTy cd_int (by rfl) T.z_int (by decide +kernel) (pda_cons (pd_var (pv 1)) pda_nil)) (pd_globI (by rfl) T.c_MOST_SIGNS) (nomark _))))) (pss_one' (psd_ret pd_non)) pss_nil') (pss_cons' (psd_set (i := 2) sc_first_text.nd rfl (by first | exact Or.inl rfl | exact Or.inr rfl) (pd_op od_add (pd_callB cd_len (by rfl) T.z_len (by decide +kernel) (pda_cons (pd_var (pv 1)) pda_nil)) pd_int)) (pss_cons' (psd_set (i := 3) sc_first_text.nd rfl (by first | exact Or.inl rfl | exact Or.inr rfl) (pd_slice xd_sl (pd_var (pv 0)) (pp_some (pd_var (pv 2))) (pp_some (pd_op od_add (pd_var (pv 2)) (pd_callTy cd_int (by rfl) T.z_int (by decide +kernel) (pda_cons (pd_var (pv 1)) pda_nil)))))) (pss_cons' (psd_if (pdt_not (pdt_truth (pd_dat (pr_call G_is_plain (hr.mono (by decide)) (by rfl) T.g_is_plain T.F_is_plain.kp T.b_is_plain (pas_d (pd_var (pv 3)) pas_nil))))) (pss_one' (psd_ret pd_non)) pss_nil') (pss_one' (psd_ret (pd_if (PW.pt (pdw_and (pdt_truth (pd_sm PySem.F.plainAttrs_str PySem.F.slot_str_startswith PySem.F.type_str_startswith md_starts (pd_var (pv 0)) (pda_cons (pd_dat (pr_call G_framed (hr.mono (by decide)) (by rfl) T.g_framed T.F_framed.kp T.b_framed (pas_d (pd_var (pv 3)) pas_nil))) pda_nil))) (pdw_and1 (pdt_cmp (od_eq hr.units) (pd_callB cd_len (by rfl) T.z_len (by decide +kernel) (pda_cons (pd_var (pv 3)) pda_nil)) (pd_callTy cd_int (by rfl) T.z_int (by decide +kernel) (pda_cons (pd_var (pv 1)) pda_nil)) (nomark _))))) (pd_var (pv 3)) pd_non)))))))))
set_option maxHeartbeats 40000000 in
theorem ok_read_frames (T : Tp K mg f_check_of f_framed f_is_plain f_is_number f_first_text f_read_frames f_law_bag f_law_take f_law_some f_law_alike f_law_check f_law_framed f_law_first_text f_law_read f_law_text f_law_bent f_law d_check_of d_framed d_is_plain d_is_number d_first_text d_read_frames d_law_bag d_law_take d_law_some d_law_alike d_law_check d_law_framed d_law_first_text d_law_read d_law_text d_law_bent d_law) (G_framed : FnOk P w K mg base CX0 2 f_framed d_framed p_framed (spF K F_framed 1)) (G_first_text : FnOk P w K mg base CX0 3 f_first_text d_first_text p_first_text (spF K F_first_text 1)) : FnOk P w K mg base CX0 4 f_read_frames d_read_frames p_read_frames (spF K F_read_frames 1) :=
  fn_pd T.F_read_frames sc_read_frames fun cdv A outer s H E hr =>
    (pss_cons' (psd_setO (i := 1) sc_read_frames.nd rfl (by first | exact Or.inl rfl | exact Or.inr rfl) (po_lst pda_nil)) (pss_one' (psd_while PassesOwn.never (pdt_truth pd_bl) (pss_cons' (psd_set (i := 2) sc_read_frames.nd rfl (by first | exact Or.inl rfl | exact Or.inr rfl) (pd_dat (pr_call G_first_text (hr.mono (by decide)) (by rfl) T.g_first_text T.F_first_text.kp T.b_first_text (pas_d (pd_var (pv 0)) pas_nil)))) (pss_cons' (psd_if (pdt_cmp od_isN (pd_var (pv 2)) pd_non (nomark _)) (pss_one' (psd_ret (pd_tup (pda_cons (pd_tupV (by rfl) T.z_tuple (pv 1)) (pda_cons (pd_callB cd_len (by rfl) T.z_len (by decide +kernel) (pda_cons (pd_var (pv 0)) pda_nil)) pda_nil))))) pss_nil') (pss_cons' (psd_app (pv 1) (pd_var (pv 2))) (pss_one' (psd_set (i := 0) sc_read_frames.nd rfl (by first | exact Or.inl rfl | exact Or.inr rfl) (pd_slice xd_sl (pd_var (pv 0)) (pp_some (pd_callB cd_len (by rfl) T.z_len (by decide +kernel) (pda_cons (pd_dat (pr_call G_framed (hr.mono (by decide)) (by rfl) T.g_framed T.F_framed.kp T.b_framed (pas_d (pd_var (pv 2)) pas_nil))) pda_nil))) pp_none)))))))))
set_option maxHeartbeats 40000000 in
theorem ok_law_bag (T : Tp K mg f_check_of f_framed f_is_plain f_is_number f_first_text f_read_frames f_law_bag f_law_take f_law_some f_law_alike f_law_check f_law_framed f_law_first_text f_law_read f_law_text f_law_bent f_law d_check_of d_framed d_is_plain d_is_number d_first_text d_read_frames d_law_bag d_law_take d_law_some d_law_alike d_law_check d_law_framed d_law_first_text d_law_read d_law_text d_law_bent d_law) : FnOk P w K mg base CX0 1 f_law_bag d_law_bag p_law_bag (spBag K) := by
  refine T.F_law_bag.ok sc_law_bag (fun vs H Q E h => ?_) (fun cdv A outer s H vs Q E hr h => ?_)
  · obtain ⟨a, ns, rfl, _⟩ := h
    rfl
  · obtain ⟨a, ns, rfl, hS, hl, q⟩ := h
    exact ⟨_, pss_one (ps_ret (pe_lst (pa_cons pe_int (pa_cons pe_int (pa_cons pe_int (pa_cons (pe_lc (own := [((Str.ofString "cell"), 1)]) (g := gName 1) (tt := tYes) rfl sc_law_bag.nd (pi_list (pe_slice sl_list (pv 0) po_none (po_some pe_int))) (blkOk_by (own := [((Str.ofString "cell"), 1)]) (by show blkC N_law_bag (defScope s_law_bag) _ _ = true; decide +kernel)) (fun _ _ _ _ _ => pg_name (i := 1) sc_law_bag.nd rfl (Or.inl rfl)) (fun _ _ _ _ _ => pts_nil) (fun _ _ _ _ _ => pe_callB call_abs (by rfl) T.z_abs (by decide +kernel) (pa_cons (pv 1) pa_nil))) pa_nil)))))), bag_read rfl hS hl q⟩
set_option maxHeartbeats 40000000 in
theorem ok_law_take (T : Tp K mg f_check_of f_framed f_is_plain f_is_number f_first_text f_read_frames f_law_bag f_law_take f_law_some f_law_alike f_law_check f_law_framed f_law_first_text f_law_read f_law_text f_law_bent f_law d_check_of d_framed d_is_plain d_is_number d_first_text d_read_frames d_law_bag d_law_take d_law_some d_law_alike d_law_check d_law_framed d_law_first_text d_law_read d_law_text d_law_bent d_law) : FnOk P w K mg base CX0 1 f_law_take d_law_take p_law_take (spF K F_law_take 2) :=
  fn_pd T.F_law_take sc_law_take fun cdv A outer s H E hr =>
    (pss_cons' (psd_if (pdt_cmp (od_eq hr.units) (pd_bag (i := 0) (k := 0) (pv 0) (fun _ _ => rfl)) pd_int (nomark _)) (pss_cons' (psd_set (i := 4) sc_law_take.nd rfl (by first | exact Or.inl rfl | exact Or.inr rfl) (pd_ix xd_ix (pd_op od_add (pd_slice xd_sl (pd_bag (i := 0) (k := 3) (pv 0) (fun _ _ => rfl)) (pp_some (pd_bag (i := 0) (k := 2) (pv 0) (fun _ _ => rfl))) pp_none) (pd_frz (po_lst (pda_cons pd_int pda_nil)))) pd_int (fun _ _ => rfl))) (pss_cons' (psd_bagA (i := 0) (k := 2) (pv 0) pd_int) (pss_cons' (psd_if (pdt_cmp od_ge (pd_var (pv 4)) (pd_op od_pow pd_int pd_int) (nomark _)) (pss_one' (psd_bag (i := 0) (k := 0) (pv 0) (pd_var (pv 4)))) pss_nil') (pss_cons' (psd_set (i := 5) sc_law_take.nd rfl (by first | exact Or.inl rfl | exact Or.inr rfl) (pd_op od_add (pd_op od_add (pd_op od_mul (pd_bag (i := 0) (k := 1) (pv 0) (fun _ _ => rfl)) pd_int) (pd_op od_mod (pd_callTy cd_int (by rfl) T.z_int (by decide +kernel) (pda_cons (pd_var (pv 4)) pda_nil)) pd_int)) (pd_op od_mul pd_int (pd_bag (i := 0) (k := 2) (pv 0) (fun _ _ => rfl))))) (pss_one' (psd_bag (i := 0) (k := 1) (pv 0) (pd_op od_mod (pd_callTy cd_int (by rfl) T.z_int (by decide +kernel) (pda_cons (pd_var (pv 5)) pda_nil)) pd_int))))))) pss_nil') (pss_cons' (psd_if (pdt_cmp od_gt (pd_bag (i := 0) (k := 0) (pv 0) (fun _ _ => rfl)) pd_int (nomark _)) (pss_cons' (psd_set (i := 6) sc_law_take.nd rfl (by first | exact Or.inl rfl | exact Or.inr rfl) (pd_op od_mod (pd_callTy cd_int (by rfl) T.z_int (by decide +kernel) (pda_cons (pd_bag (i := 0) (k := 0) (pv 0) (fun _ _ => rfl)) pda_nil)) (pd_var (pv 1)))) (pss_cons' (psd_bag (i := 0) (k := 0) (pv 0) (pd_op od_div (pd_callTy cd_int (by rfl) T.z_int (by decide +kernel) (pda_cons (pd_bag (i := 0) (k := 0) (pv 0) (fun _ _ => rfl)) pda_nil)) (pd_var (pv 1)))) (pss_one' (psd_ret (pd_var (pv 6)))))) pss_nil') (pss_cons' (psd_set (i := 2) sc_law_take.nd rfl (by first | exact Or.inl rfl | exact Or.inr rfl) (pd_op od_mod (pd_callTy cd_int (by rfl) T.z_int (by decide +kernel) (pda_cons (pd_op od_mul (pd_op od_add (pd_bag (i := 0) (k := 1) (pv 0) (fun _ _ => rfl)) pd_int) pd_int) pda_nil)) pd_int)) (pss_cons' (psd_set (i := 3) sc_law_take.nd rfl (by first | exact Or.inl rfl | exact Or.inr rfl) (pd_op od_mod (pd_callTy cd_int (by rfl) T.z_int (by decide +kernel) (pda_cons (pd_op od_mul (pd_op od_mod (pd_callTy cd_int (by rfl) T.z_int (by decide +kernel) (pda_cons (pd_op od_mul (pd_var (pv 2)) (pd_var (pv 2))) pda_nil)) pd_int) pd_int) pda_nil)) pd_int)) (pss_one' (psd_ret (pd_op od_mod (pd_callTy cd_int (by rfl) T.z_int (by decide +kernel) (pda_cons (pd_op od_div (pd_var (pv 3)) pd_int) pda_nil)) (pd_var (pv 1)))))))))
set_option maxHeartbeats 40000000 in
theorem ok_law_some (T : Tp K mg f_check_of f_framed f_is_plain f_is_number f_first_text f_read_frames f_law_bag f_law_take f_law_some f_law_alike f_law_check f_law_framed f_law_first_text f_law_read f_law_text f_law_bent f_law d_check_of d_framed d_is_plain d_is_number d_first_text d_read_frames d_law_bag d_law_take d_law_some d_law_alike d_law_check d_law_framed d_law_first_text d_law_read d_law_text d_law_bent d_law) (G_law_take : FnOk P w K mg base CX0 1 f_law_take d_law_take p_law_take (spF K F_law_take 2)) : FnOk P w K mg base CX0 2 f_law_some d_law_some p_law_some (spF K F_law_some 2) :=
  fn_pd T.F_law_some sc_law_some fun cdv A outer s H E hr =>
    (pss_one' (psd_ret (pd_ix xd_ix (pd_var (pv 1)) (pd_dat (pr_call G_law_take (hr.mono (by decide)) (by rfl) T.g_law_take T.F_law_take.kp T.b_law_take (pas_bag (pv 0) (pas_d (pd_callB cd_len (by rfl) T.z_len (by decide +kernel) (pda_cons (pd_var (pv 1)) pda_nil)) pas_nil)))) (fun _ _ => rfl))))
set_option maxHeartbeats 40000000 in
theorem ok_law_alike (T : Tp K mg f_check_of f_framed f_is_plain f_is_number f_first_text f_read_frames f_law_bag f_law_take f_law_some f_law_alike f_law_check f_law_framed f_law_first_text f_law_read f_law_text f_law_bent f_law d_check_of d_framed d_is_plain d_is_number d_first_text d_read_frames d_law_bag d_law_take d_law_some d_law_alike d_law_check d_law_framed d_law_first_text d_law_read d_law_text d_law_bent d_law) : FnG P w K mg base 1 f_law_alike d_law_alike p_law_alike (spF K F_law_alike 2) :=
  fn_gpd T.F_law_alike sc_law_alike fun cdv A outer s H E gd hr =>
    (pss_one' (psd_ret (pd_and (pd_cmp (od_eq hr.units) (pd_callB (cd_repr gd (hu100 hr)) (by rfl) T.z_repr (by decide +kernel) (pda_cons (pd_var (pv 0)) pda_nil)) (pd_callB (cd_repr gd (hu100 hr)) (by rfl) T.z_repr (by decide +kernel) (pda_cons (pd_var (pv 1)) pda_nil)) (nomark _)) (pd_one (pd_cmp (od_eq hr.units) (pd_var (pv 0)) (pd_var (pv 1)) (nomark _))))))
set_option maxHeartbeats 40000000 in
theorem ok_law_check (T : Tp K mg f_check_of f_framed f_is_plain f_is_number f_first_text f_read_frames f_law_bag f_law_take f_law_some f_law_alike f_law_check f_law_framed f_law_first_text f_law_read f_law_text f_law_bent f_law d_check_of d_framed d_is_plain d_is_number d_first_text d_read_frames d_law_bag d_law_take d_law_some d_law_alike d_law_check d_law_framed d_law_first_text d_law_read d_law_text d_law_bent d_law) : FnOk P w K mg base CX0 1 f_law_check d_law_check p_law_check (spF K F_law_check 1) :=
  fn_pd T.F_law_check sc_law_check fun cdv A outer s H E hr =>
    (pss_one' (psd_ret (pd_op od_mod (pd_callB (cd_sum rfl) (by rfl) T.z_sum (by decide +kernel) (pda_cons (pd_frz (po_lc (own := [((Str.ofString "at"), 1), ((Str.ofString "sign"), 2)]) rfl sc_law_check.nd (pdi_en1 (by rfl) T.z_enumerate (pda_cons (pd_var (pv 0)) pda_nil)) (blkOk_by (own := [((Str.ofString "at"), 1), ((Str.ofString "sign"), 2)]) (by show blkC N_law_check (defScope s_law_check) _ _ = true; decide +kernel)) (fun _ _ _ _ _ => (pg_tup rfl (pgs_cons (pg_name (i := 1) sc_law_check.nd rfl (by first | exact Or.inl rfl | exact Or.inr rfl)) (pgs_cons (pg_name (i := 2) sc_law_check.nd rfl (by first | exact Or.inl rfl | exact Or.inr rfl)) pgs_nil)))) (fun _ _ _ _ _ => pts_yes) (fun _ _ _ _ _ => (pd_op od_mul (pd_op od_add (pd_var (pv 1)) pd_int) (pd_callB cd_ord (by rfl) T.z_ord (by decide +kernel) (pda_cons (pd_var (pv 2)) pda_nil)))) (tg_tup (tgs_cons tg_name (tgs_cons tg_name tgs_nil))) (by decide))) pda_nil)) pd_int)))
set_option maxHeartbeats 40000000 in
theorem ok_law_framed (T : Tp K mg f_check_of f_framed f_is_plain f_is_number f_first_text f_read_frames f_law_bag f_law_take f_law_some f_law_alike f_law_check f_law_framed f_law_first_text f_law_read f_law_text f_law_bent f_law d_check_of d_framed d_is_plain d_is_number d_first_text d_read_frames d_law_bag d_law_take d_law_some d_law_alike d_law_check d_law_framed d_law_first_text d_law_read d_law_text d_law_bent d_law) (G_law_check : FnOk P w K mg base CX0 1 f_law_check d_law_check p_law_check (spF K F_law_check 1)) : FnOk P w K mg base CX0 2 f_law_framed d_law_framed p_law_framed (spF K F_law_framed 1) :=
  fn_pd T.F_law_framed sc_law_framed fun cdv A outer s H E hr =>
    (pss_cons' (psd_set (i := 1) sc_law_framed.nd rfl (by first | exact Or.inl rfl | exact Or.inr rfl) (pd_slice xd_sl (pd_callTy cd_str (by rfl) T.z_str (by decide +kernel) (pda_cons (pd_op od_add pd_int (pd_dat (pr_call G_law_check (hr.mono (by decide)) (by rfl) T.g_law_check T.F_law_check.kp T.b_law_check (pas_d (pd_var (pv 0)) pas_nil)))) pda_nil)) (pp_some pd_int) pp_none)) (pss_one' (psd_ret (pd_op od_add (pd_op od_add (pd_op od_add (pd_op od_add (pd_op od_add (pd_op od_add pd_str (pd_callTy cd_str (by rfl) T.z_str (by decide +kernel) (pda_cons (pd_callB cd_len (by rfl) T.z_len (by decide +kernel) (pda_cons (pd_var (pv 0)) pda_nil)) pda_nil))) pd_str) (pd_var (pv 0))) pd_str) (pd_var (pv 1))) pd_str))))
set_option maxHeartbeats 40000000 in
theorem ok_law_first_text (T : Tp K mg f_check_of f_framed f_is_plain f_is_number f_first_text f_read_frames f_law_bag f_law_take f_law_some f_law_alike f_law_check f_law_framed f_law_first_text f_law_read f_law_text f_law_bent f_law d_check_of d_framed d_is_plain d_is_number d_first_text d_read_frames d_law_bag d_law_take d_law_some d_law_alike d_law_check d_law_framed d_law_first_text d_law_read d_law_text d_law_bent d_law) (G_law_framed : FnOk P w K mg base CX0 2 f_law_framed d_law_framed p_law_framed (spF K F_law_framed 1)) : FnOk P w K mg base CX0 3 f_law_first_text d_law_first_text p_law_first_text (spF K F_law_first_text 1) :=
  fn_pd T.F_law_first_text sc_law_first_text fun cdv A outer s H E hr =>
    (pss_cons' (psd_if (PW.pt (pdw_or (pdt_cmp (od_ne hr.units) (pd_slice xd_sl (pd_var (pv 0)) pp_none (pp_some pd_int)) pd_str (nomark _)) (pdw_or1 (pdt_cmp od_notInS pd_str (pd_slice xd_sl (pd_var (pv 0)) pp_none (pp_some pd_int)) (by rfl))))) (pss_one' (psd_ret pd_non)) pss_nil') (pss_cons' (psd_set (i := 1) sc_law_first_text.nd rfl (by first | exact Or.inl rfl | exact Or.inr rfl) (pd_slice xd_sl (pd_var (pv 0)) (pp_some pd_int) (pp_some (pd_sm PySem.F.plainAttrs_str PySem.F.slot_str_index PySem.F.type_str_index md_index (pd_var (pv 0)) (pda_cons pd_str pda_nil))))) (pss_cons' (psd_if (PW.pt (pdw_or (pdt_cmp (od_eq hr.units) (pd_var (pv 1)) pd_str (nomark _)) (pdw_or (pdt_cmp (od_ne hr.units) (pd_frz (po_lc (own := [((Str.ofString "sign"), 6)]) rfl sc_law_first_text.nd (pdi_seq (pd_var (pv 1))) (blkOk_by (own := [((Str.ofString "sign"), 6)]) (by show blkC N_law_first_text (defScope s_law_first_text) _ _ = true; decide +kernel)) (fun _ _ _ _ _ => (pg_name (i := 6) sc_law_first_text.nd rfl (by first | exact Or.inl rfl | exact Or.inr rfl))) (fun _ _ _ _ _ => pts_one (pdt_cmp od_notInS (pd_var (pv 6)) pd_str (by rfl))) (fun _ _ _ _ _ => pd_int) tg_name (by decide))) (pd_frz (po_lst pda_nil)) (nomark _)) (pdw_or1 (pdt_cmp (od_ne hr.units) (pd_callTy cd_str (by rfl) T.z_str (by decide +kernel) (pda_cons (pd_callTy cd_int (by rfl) T.z_int (by decide +kernel) (pda_cons (pd_var (pv 1)) pda_nil)) pda_nil)) (pd_var (pv 1)) (nomark _)))))) (pss_one' (psd_ret pd_non)) pss_nil') (pss_cons' (psd_par rfl sc_law_first_text.nd rfl rfl (by decide) rfl rfl (pd_callTy cd_int (by rfl) T.z_int (by decide +kernel) (pda_cons (pd_var (pv 1)) pda_nil)) (pd_op od_add (pd_callB cd_len (by rfl) T.z_len (by decide +kernel) (pda_cons (pd_var (pv 1)) pda_nil)) pd_int) (by rfl)) (pss_cons' (psd_set (i := 2) sc_law_first_text.nd rfl (by first | exact Or.inl rfl | exact Or.inr rfl) (pd_slice xd_sl (pd_var (pv 0)) (pp_some (pd_var (pv 5))) (pp_some (pd_op od_add (pd_var (pv 5)) (pd_var (pv 4)))))) (pss_cons' (psd_if (PW.pt (pdw_or (pdt_cmp od_gt (pd_var (pv 4)) pd_int (nomark _)) (pdw_or (pdt_cmp (od_ne hr.units) (pd_callB cd_len (by rfl) T.z_len (by decide +kernel) (pda_cons (pd_var (pv 2)) pda_nil)) (pd_var (pv 4)) (nomark _)) (pdw_or1 (pdt_cmp (od_ne hr.units) (pd_frz (po_lc (own := [((Str.ofString "sign"), 6)]) rfl sc_law_first_text.nd (pdi_seq (pd_var (pv 2))) (blkOk_by (own := [((Str.ofString "sign"), 6)]) (by show blkC N_law_first_text (defScope s_law_first_text) _ _ = true; decide +kernel)) (fun _ _ _ _ _ => (pg_name (i := 6) sc_law_first_text.nd rfl (by first | exact Or.inl rfl | exact Or.inr rfl))) (fun _ _ _ _ _ => pts_one (PW.pt (pdw_or (pdt_cmp (od_eq hr.units) (pd_var (pv 6)) pd_str (nomark _)) (pdw_or1 (pdt_not (pdt_chain od_le od_le pd_str (pd_var (pv 6)) pd_str)))))) (fun _ _ _ _ _ => pd_int) tg_name (by decide))) (pd_frz (po_lst pda_nil)) (nomark _)))))) (pss_one' (psd_ret pd_non)) pss_nil') (pss_cons' (psd_set (i := 3) sc_law_first_text.nd rfl (by first | exact Or.inl rfl | exact Or.inr rfl) (pd_dat (pr_call G_law_framed (hr.mono (by decide)) (by rfl) T.g_law_framed T.F_law_framed.kp T.b_law_framed (pas_d (pd_var (pv 2)) pas_nil)))) (pss_one' (psd_ret (pd_if (pdt_cmp (od_eq hr.units) (pd_slice xd_sl (pd_var (pv 0)) pp_none (pp_some (pd_callB cd_len (by rfl) T.z_len (by decide +kernel) (pda_cons (pd_var (pv 3)) pda_nil)))) (pd_var (pv 3)) (nomark _)) (pd_var (pv 2)) pd_non))))))))))
set_option maxHeartbeats 40000000 in
theorem ok_law_read (T : Tp K mg f_check_of f_framed f_is_plain f_is_number f_first_text f_read_frames f_law_bag f_law_take f_law_some f_law_alike f_law_check f_law_framed f_law_first_text f_law_read f_law_text f_law_bent f_law d_check_of d_framed d_is_plain d_is_number d_first_text d_read_frames d_law_bag d_law_take d_law_some d_law_alike d_law_check d_law_framed d_law_first_text d_law_read d_law_text d_law_bent d_law) (G_law_framed : FnOk P w K mg base CX0 2 f_law_framed d_law_framed p_law_framed (spF K F_law_framed 1)) (G_law_first_text : FnOk P w K mg base CX0 3 f_law_first_text d_law_first_text p_law_first_text (spF K F_law_first_text 1)) : FnOk P w K mg base CX0 4 f_law_read d_law_read p_law_read (spF K F_law_read 1) :=
  fn_pd T.F_law_read sc_law_read fun cdv A outer s H E hr =>
    (pss_cons' (psd_parO rfl sc_law_read.nd rfl rfl (by decide) rfl rfl (po_lst pda_nil) pd_int (by rfl)) (pss_cons' (psd_while PassesOwn.never (pdt_cmp od_lt (pd_var (pv 2)) (pd_callB cd_len (by rfl) T.z_len (by decide +kernel) (pda_cons (pd_var (pv 0)) pda_nil)) (nomark _)) (pss_cons' (psd_set (i := 3) sc_law_read.nd rfl (by first | exact Or.inl rfl | exact Or.inr rfl) (pd_dat (pr_call G_law_first_text (hr.mono (by decide)) (by rfl) T.g_law_first_text T.F_law_first_text.kp T.b_law_first_text (pas_d (pd_slice xd_sl (pd_var (pv 0)) (pp_some (pd_var (pv 2))) pp_none) pas_nil)))) (pss_cons' (psd_if (pdt_cmp od_isN (pd_var (pv 3)) pd_non (nomark _)) (pss_one' (psd_ret (pd_tup (pda_cons (pd_tupV (by rfl) T.z_tuple (pv 1)) (pda_cons (pd_op od_sub (pd_callB cd_len (by rfl) T.z_len (by decide +kernel) (pda_cons (pd_var (pv 0)) pda_nil)) (pd_var (pv 2))) pda_nil))))) pss_nil') (pss_cons' (psd_app (pv 1) (pd_var (pv 3))) (pss_one' (psd_aug (i := 2) sc_law_read.nd rfl (by first | exact Or.inl rfl | exact Or.inr rfl) (pd_callB cd_len (by rfl) T.z_len (by decide +kernel) (pda_cons (pd_dat (pr_call G_law_framed (hr.mono (by decide)) (by rfl) T.g_law_framed T.F_law_framed.kp T.b_law_framed (pas_d (pd_var (pv 3)) pas_nil))) pda_nil)) od_iadd)))))) (pss_one' (psd_ret (pd_tup (pda_cons (pd_tupV (by rfl) T.z_tuple (pv 1)) (pda_cons pd_int pda_nil)))))))
set_option maxHeartbeats 40000000 in
theorem ok_law_text (T : Tp K mg f_check_of f_framed f_is_plain f_is_number f_first_text f_read_frames f_law_bag f_law_take f_law_some f_law_alike f_law_check f_law_framed f_law_first_text f_law_read f_law_text f_law_bent f_law d_check_of d_framed d_is_plain d_is_number d_first_text d_read_frames d_law_bag d_law_take d_law_some d_law_alike d_law_check d_law_framed d_law_first_text d_law_read d_law_text d_law_bent d_law) (G_law_take : FnOk P w K mg base CX0 1 f_law_take d_law_take p_law_take (spF K F_law_take 2)) (G_law_some : FnOk P w K mg base CX0 2 f_law_some d_law_some p_law_some (spF K F_law_some 2)) : FnOk P w K mg base CX0 3 f_law_text d_law_text p_law_text (spF K F_law_text 2) :=
  fn_pd T.F_law_text sc_law_text fun cdv A outer s H E hr =>
    (pss_cons' (psd_set (i := 2) sc_law_text.nd rfl (by first | exact Or.inl rfl | exact Or.inr rfl) (pd_dat (pr_call G_law_some (hr.mono (by decide)) (by rfl) T.g_law_some T.F_law_some.kp T.b_law_some (pas_bag (pv 0) (pas_d (pd_frz (po_lst (pda_cons pd_str (pda_cons pd_str (pda_cons pd_str (pda_cons pd_str (pda_cons pd_str pda_nil))))))) pas_nil))))) (pss_one' (psd_ret (pd_sm PySem.F.plainAttrs_str PySem.F.slot_str_join PySem.F.type_str_join md_join pd_str (pda_cons (pd_frz (po_lc (own := [((Str.ofString "turn"), 3)]) rfl sc_law_text.nd (pdi_range1 (by rfl) T.z_range (pda_cons (pd_dat (pr_call G_law_take (hr.mono (by decide)) (by rfl) T.g_law_take T.F_law_take.kp T.b_law_take (pas_bag (pv 0) (pas_d (pd_op od_add (pd_var (pv 1)) pd_int) pas_nil)))) pda_nil)) (blkOk_by (own := [((Str.ofString "turn"), 3)]) (by show blkC N_law_text (defScope s_law_text) _ _ = true; decide +kernel)) (fun _ _ _ _ _ => (pg_name (i := 3) sc_law_text.nd rfl (by first | exact Or.inl rfl | exact Or.inr rfl))) (fun _ _ _ _ _ => pts_yes) (fun _ _ _ _ _ => (pd_dat (pr_call G_law_some (hr.mono (by decide)) (by rfl) T.g_law_some T.F_law_some.kp T.b_law_some (pas_bag (pv 0) (pas_d (pd_frz (po_callTy (cd_list rfl) (by rfl) T.z_list (by decide +kernel) (pda_cons (pd_var (pv 2)) pda_nil))) pas_nil))))) tg_name (by decide))) pda_nil)))))
set_option maxHeartbeats 40000000 in
theorem ok_law_bent (T : Tp K mg f_check_of f_framed f_is_plain f_is_number f_first_text f_read_frames f_law_bag f_law_take f_law_some f_law_alike f_law_check f_law_framed f_law_first_text f_law_read f_law_text f_law_bent f_law d_check_of d_framed d_is_plain d_is_number d_first_text d_read_frames d_law_bag d_law_take d_law_some d_law_alike d_law_check d_law_framed d_law_first_text d_law_read d_law_text d_law_bent d_law) (G_law_some : FnOk P w K mg base CX0 2 f_law_some d_law_some p_law_some (spF K F_law_some 2)) (G_law_take : FnOk P w K mg base CX0 1 f_law_take d_law_take p_law_take (spF K F_law_take 2)) : FnOk P w K mg base CX0 3 f_law_bent d_law_bent p_law_bent (spF K F_law_bent 2) :=
  fn_pd T.F_law_bent sc_law_bent fun cdv A outer s H E hr =>
    (pss_cons' (psd_par rfl sc_law_bent.nd rfl rfl (by decide) rfl rfl (pd_dat (pr_call G_law_take (hr.mono (by decide)) (by rfl) T.g_law_take T.F_law_take.kp T.b_law_take (pas_bag (pv 0) (pas_d (pd_op od_add (pd_callB cd_len (by rfl) T.z_len (by decide +kernel) (pda_cons (pd_var (pv 1)) pda_nil)) pd_int) pas_nil)))) (pd_dat (pr_call G_law_take (hr.mono (by decide)) (by rfl) T.g_law_take T.F_law_take.kp T.b_law_take (pas_bag (pv 0) (pas_d pd_int pas_nil)))) (by rfl)) (pss_cons' (psd_if (pdt_cmp (od_eq hr.units) (pd_var (pv 3)) pd_int (nomark _)) (pss_one' (psd_ret (pd_op od_add (pd_op od_add (pd_slice xd_sl (pd_var (pv 1)) pp_none (pp_some (pd_var (pv 2)))) (pd_dat (pr_call G_law_some (hr.mono (by decide)) (by rfl) T.g_law_some T.F_law_some.kp T.b_law_some (pas_bag (pv 0) (pas_d (pd_frz (po_lst (pda_cons pd_str (pda_cons pd_str (pda_cons pd_str (pda_cons pd_str (pda_cons pd_str (pda_cons pd_str (pda_cons pd_str (pda_cons pd_str (pda_cons pd_str (pda_cons (pd_callB cd_chr (by rfl) T.z_chr (by decide +kernel) (pda_cons pd_int pda_nil)) (pda_cons pd_str pda_nil))))))))))))) pas_nil))))) (pd_slice xd_sl (pd_var (pv 1)) (pp_some (pd_var (pv 2))) pp_none)))) pss_nil') (pss_cons' (psd_if (pdt_cmp (od_eq hr.units) (pd_var (pv 3)) pd_int (nomark _)) (pss_one' (psd_ret (pd_op od_add (pd_slice xd_sl (pd_var (pv 1)) pp_none (pp_some (pd_var (pv 2)))) (pd_slice xd_sl (pd_var (pv 1)) (pp_some (pd_op od_add (pd_op od_add (pd_var (pv 2)) pd_int) (pd_dat (pr_call G_law_take (hr.mono (by decide)) (by rfl) T.g_law_take T.F_law_take.kp T.b_law_take (pas_bag (pv 0) (pas_d pd_int pas_nil)))))) pp_none)))) pss_nil') (pss_cons' (psd_if (pdt_cmp (od_eq hr.units) (pd_var (pv 3)) pd_int (nomark _)) (pss_one' (psd_ret (pd_slice xd_sl (pd_var (pv 1)) pp_none (pp_some (pd_var (pv 2)))))) pss_nil') (pss_cons' (psd_if (pdt_cmp (od_eq hr.units) (pd_var (pv 3)) pd_int (nomark _)) (pss_one' (psd_ret (pd_slice xd_sl (pd_var (pv 1)) (pp_some (pd_var (pv 2))) pp_none))) pss_nil') (pss_cons' (psd_if (pdt_cmp (od_eq hr.units) (pd_var (pv 3)) pd_int (nomark _)) (pss_one' (psd_ret (pd_op od_add (pd_op od_add (pd_slice xd_sl (pd_var (pv 1)) pp_none (pp_some (pd_var (pv 2)))) (pd_dat (pr_call G_law_some (hr.mono (by decide)) (by rfl) T.g_law_some T.F_law_some.kp T.b_law_some (pas_bag (pv 0) (pas_d (pd_frz (po_callTy (cd_list rfl) (by rfl) T.z_list (by decide +kernel) (pda_cons pd_str pda_nil))) pas_nil))))) (pd_slice xd_sl (pd_var (pv 1)) (pp_some (pd_op od_add (pd_var (pv 2)) pd_int)) pp_none)))) pss_nil') (pss_one' (psd_ret (pd_op od_add (pd_var (pv 1)) (pd_dat (pr_call G_law_some (hr.mono (by decide)) (by rfl) T.g_law_some T.F_law_some.kp T.b_law_some (pas_bag (pv 0) (pas_d (pd_frz (po_lst (pda_cons pd_str (pda_cons pd_str (pda_cons pd_str (pda_cons pd_str (pda_cons pd_str (pda_cons pd_str (pda_cons pd_str (pda_cons pd_str (pda_cons pd_str (pda_cons pd_str pda_nil)))))))))))) pas_nil)))))))))))))
set_option maxHeartbeats 40000000 in
theorem ok_law (T : Tp K mg f_check_of f_framed f_is_plain f_is_number f_first_text f_read_frames f_law_bag f_law_take f_law_some f_law_alike f_law_check f_law_framed f_law_first_text f_law_read f_law_text f_law_bent f_law d_check_of d_framed d_is_plain d_is_number d_first_text d_read_frames d_law_bag d_law_take d_law_some d_law_alike d_law_check d_law_framed d_law_first_text d_law_read d_law_text d_law_bent d_law) (G_law_bag : FnOk P w K mg base CX0 1 f_law_bag d_law_bag p_law_bag (spBag K)) (G_law_alike : FnG P w K mg base 1 f_law_alike d_law_alike p_law_alike (spF K F_law_alike 2)) (G_law_framed : FnOk P w K mg base CX0 2 f_law_framed d_law_framed p_law_framed (spF K F_law_framed 1)) (G_framed : FnOk P w K mg base CX0 2 f_framed d_framed p_framed (spF K F_framed 1)) (G_read_frames : FnOk P w K mg base CX0 4 f_read_frames d_read_frames p_read_frames (spF K F_read_frames 1)) (G_law_bent : FnOk P w K mg base CX0 3 f_law_bent d_law_bent p_law_bent (spF K F_law_bent 2)) (G_law_read : FnOk P w K mg base CX0 4 f_law_read d_law_read p_law_read (spF K F_law_read 1)) (G_law_take : FnOk P w K mg base CX0 1 f_law_take d_law_take p_law_take (spF K F_law_take 2)) (G_law_text : FnOk P w K mg base CX0 3 f_law_text d_law_text p_law_text (spF K F_law_text 2)) (G_law_some : FnOk P w K mg base CX0 2 f_law_some d_law_some p_law_some (spF K F_law_some 2)) (hm : ∀ ns : List Int, ns.length ≤ 63 → ∃ S, m_law (none :: some .bag :: List.replicate 10 none) (some (bag0 ns)) = some (.ok (.rt (.d (.bool true))), S)) : FnG P w K mg base 5 f_law d_law p_law (spLaw K) := by
  refine fn_g T.F_law sc_law (fun vs H Q E h => ?_) (fun cdv A outer s H vs Q E gd hr h => ?_)
  · obtain ⟨a, ns, rfl, _⟩ := h
    rfl
  · obtain ⟨a, ns, rfl, hS, hl, q⟩ := h
    obtain ⟨S, hm⟩ := hm ns hl
    exact ⟨_, pss_cons (ps_set (i := 1) sc_law.nd rfl (by first | exact Or.inl rfl | exact Or.inr rfl) (pe_call G_law_bag (hr.mono (by decide)) (by rfl) T.g_law_bag T.F_law_bag.kp T.b_law_bag .nil pass0 (pa_cons (pv 0) pa_nil)))
      (pss_cons' (psd_for PassesOwn.never rfl (pdi_range1 (by rfl) T.z_range (pda_cons pd_int pda_nil)) (pg_name (i := 2) sc_law.nd rfl (by first | exact Or.inl rfl | exact Or.inr rfl)) tg_name (pss_cons' (psd_setLc (own := [((Str.ofString "one"), 9)]) (i := 4) rfl sc_law.nd rfl rfl (sw_true rfl rfl rfl (by decide +kernel)) (pdi_range1 (by rfl) T.z_range (pda_cons (pd_dat (pr_call G_law_take (hr.mono (by decide)) (by rfl) T.g_law_take T.F_law_take.kp T.b_law_take (pas_bag (pv 1) (pas_d pd_int pas_nil)))) pda_nil)) (blkOk_by (own := [((Str.ofString "one"), 9)]) (by show blkC N_law (defScope s_law) _ _ = true; decide +kernel)) (fun _ _ _ _ _ => (pg_name (i := 9) sc_law.nd rfl (by first | exact Or.inl rfl | exact Or.inr rfl))) (fun _ _ _ _ _ => pts_yes) (fun _ _ _ _ _ => (pd_dat (pr_call G_law_text (hr.mono (by decide)) (by rfl) T.g_law_text T.F_law_text.kp T.b_law_text (pas_bag (pv 1) (pas_d (pd_dat (pr_call G_law_some (hr.mono (by decide)) (by rfl) T.g_law_some T.F_law_some.kp T.b_law_some (pas_bag (pv 1) (pas_d (pd_frz (po_lst (pda_cons pd_int (pda_cons pd_int (pda_cons pd_int (pda_cons pd_int pda_nil)))))) pas_nil)))) pas_nil))))) tg_name (by decide)) (pss_cons' (psd_if (pdt_not (pdt_truth (pd_dat (pr_callG G_law_alike gd (hr.mono (by decide)) (by rfl) T.g_law_alike T.F_law_alike.kp T.b_law_alike (pas_d (pd_frz (po_lc (own := [((Str.ofString "text"), 11)]) rfl sc_law.nd (pdi_seq (pd_var (pv 4))) (blkOk_by (own := [((Str.ofString "text"), 11)]) (by show blkC N_law (defScope s_law) _ _ = true; decide +kernel)) (fun _ _ _ _ _ => (pg_name (i := 11) sc_law.nd rfl (by first | exact Or.inl rfl | exact Or.inr rfl))) (fun _ _ _ _ _ => pts_yes) (fun _ _ _ _ _ => (pd_dat (pr_call G_framed (hr.mono (by decide)) (by rfl) T.g_framed T.F_framed.kp T.b_framed (pas_d (pd_var (pv 11)) pas_nil)))) tg_name (by decide))) (pas_d (pd_frz (po_lc (own := [((Str.ofString "text"), 11)]) rfl sc_law.nd (pdi_seq (pd_var (pv 4))) (blkOk_by (own := [((Str.ofString "text"), 11)]) (by show blkC N_law (defScope s_law) _ _ = true; decide +kernel)) (fun _ _ _ _ _ => (pg_name (i := 11) sc_law.nd rfl (by first | exact Or.inl rfl | exact Or.inr rfl))) (fun _ _ _ _ _ => pts_yes) (fun _ _ _ _ _ => (pd_dat (pr_call G_law_framed (hr.mono (by decide)) (by rfl) T.g_law_framed T.F_law_framed.kp T.b_law_framed (pas_d (pd_var (pv 11)) pas_nil)))) tg_name (by decide))) pas_nil)))))) (pss_one' (psd_ret pd_bl)) pss_nil') (pss_cons' (psd_set (i := 5) sc_law.nd rfl (by first | exact Or.inl rfl | exact Or.inr rfl) (pd_sm PySem.F.plainAttrs_str PySem.F.slot_str_join PySem.F.type_str_join md_join pd_str (pda_cons (pd_frz (po_lc (own := [((Str.ofString "text"), 11)]) rfl sc_law.nd (pdi_seq (pd_var (pv 4))) (blkOk_by (own := [((Str.ofString "text"), 11)]) (by show blkC N_law (defScope s_law) _ _ = true; decide +kernel)) (fun _ _ _ _ _ => (pg_name (i := 11) sc_law.nd rfl (by first | exact Or.inl rfl | exact Or.inr rfl))) (fun _ _ _ _ _ => pts_yes) (fun _ _ _ _ _ => (pd_dat (pr_call G_law_framed (hr.mono (by decide)) (by rfl) T.g_law_framed T.F_law_framed.kp T.b_law_framed (pas_d (pd_var (pv 11)) pas_nil)))) tg_name (by decide))) pda_nil))) (pss_one' (psd_for PassesOwn.never rfl (pdi_seq (pd_tup (pda_cons (pd_var (pv 5)) (pda_cons (pd_dat (pr_call G_law_bent (hr.mono (by decide)) (by rfl) T.g_law_bent T.F_law_bent.kp T.b_law_bent (pas_bag (pv 1) (pas_d (pd_var (pv 5)) pas_nil)))) (pda_cons (pd_dat (pr_call G_law_bent (hr.mono (by decide)) (by rfl) T.g_law_bent T.F_law_bent.kp T.b_law_bent (pas_bag (pv 1) (pas_d (pd_var (pv 5)) pas_nil)))) (pda_cons (pd_dat (pr_call G_law_bent (hr.mono (by decide)) (by rfl) T.g_law_bent T.F_law_bent.kp T.b_law_bent (pas_bag (pv 1) (pas_d (pd_dat (pr_call G_law_bent (hr.mono (by decide)) (by rfl) T.g_law_bent T.F_law_bent.kp T.b_law_bent (pas_bag (pv 1) (pas_d (pd_var (pv 5)) pas_nil)))) pas_nil)))) pda_nil)))))) (pg_name (i := 6) sc_law.nd rfl (by first | exact Or.inl rfl | exact Or.inr rfl)) tg_name (pss_one' (psd_if (pdt_not (pdt_truth (pd_dat (pr_callG G_law_alike gd (hr.mono (by decide)) (by rfl) T.g_law_alike T.F_law_alike.kp T.b_law_alike (pas_d (pd_frz (po_lst (pda_cons (pd_dat (pr_call G_read_frames (hr.mono (by decide)) (by rfl) T.g_read_frames T.F_read_frames.kp T.b_read_frames (pas_d (pd_var (pv 6)) pas_nil))) (pda_cons (pd_dat (pr_call G_read_frames (hr.mono (by decide)) (by rfl) T.g_read_frames T.F_read_frames.kp T.b_read_frames (pas_d (pd_var (pv 6)) pas_nil))) pda_nil)))) (pas_d (pd_op od_mul (pd_frz (po_lst (pda_cons (pd_dat (pr_call G_law_read (hr.mono (by decide)) (by rfl) T.g_law_read T.F_law_read.kp T.b_law_read (pas_d (pd_var (pv 6)) pas_nil))) pda_nil))) pd_int) pas_nil)))))) (pss_one' (psd_ret pd_bl)) pss_nil')))))))) (pss_cons' (psd_par rfl sc_law.nd rfl rfl (by decide) rfl rfl (pd_op od_add (pd_dat (pr_call G_law_framed (hr.mono (by decide)) (by rfl) T.g_law_framed T.F_law_framed.kp T.b_law_framed (pas_d (pd_op od_mul pd_str pd_int) pas_nil))) pd_str) (pd_op od_add (pd_dat (pr_call G_law_framed (hr.mono (by decide)) (by rfl) T.g_law_framed T.F_law_framed.kp T.b_law_framed (pas_d (pd_op od_mul pd_str pd_int) pas_nil))) pd_str) (by rfl)) (pss_cons' (psd_if (pdt_not (pdt_truth (pd_dat (pr_callG G_law_alike gd (hr.mono (by decide)) (by rfl) T.g_law_alike T.F_law_alike.kp T.b_law_alike (pas_d (pd_frz (po_lst (pda_cons (pd_dat (pr_call G_read_frames (hr.mono (by decide)) (by rfl) T.g_read_frames T.F_read_frames.kp T.b_read_frames (pas_d (pd_var (pv 7)) pas_nil))) (pda_cons (pd_dat (pr_call G_read_frames (hr.mono (by decide)) (by rfl) T.g_read_frames T.F_read_frames.kp T.b_read_frames (pas_d (pd_var (pv 8)) pas_nil))) pda_nil)))) (pas_d (pd_frz (po_lst (pda_cons (pd_tup (pda_cons (pd_tup pda_nil) (pda_cons (pd_callB cd_len (by rfl) T.z_len (by decide +kernel) (pda_cons (pd_var (pv 7)) pda_nil)) pda_nil))) (pda_cons (pd_tup (pda_cons (pd_tup (pda_cons (pd_op od_mul pd_str pd_int) (pda_cons pd_str pda_nil))) (pda_cons pd_int pda_nil))) pda_nil)))) pas_nil)))))) (pss_one' (psd_ret pd_bl)) pss_nil') (pss_cons' (psd_set (i := 3) sc_law.nd rfl (by first | exact Or.inl rfl | exact Or.inr rfl) (pd_sm PySem.F.plainAttrs_str PySem.F.slot_str_join PySem.F.type_str_join md_join pd_str (pda_cons (pd_frz (po_lc (own := [((Str.ofString "code"), 10)]) rfl sc_law.nd (pdi_range2 (by rfl) T.z_range (pda_cons pd_int (pda_cons pd_int pda_nil))) (blkOk_by (own := [((Str.ofString "code"), 10)]) (by show blkC N_law (defScope s_law) _ _ = true; decide +kernel)) (fun _ _ _ _ _ => (pg_name (i := 10) sc_law.nd rfl (by first | exact Or.inl rfl | exact Or.inr rfl))) (fun _ _ _ _ _ => pts_one (pdt_cmp (od_ne hr.units) (pd_var (pv 10)) pd_int (nomark _))) (fun _ _ _ _ _ => (pd_callB cd_chr (by rfl) T.z_chr (by decide +kernel) (pda_cons (pd_var (pv 10)) pda_nil))) tg_name (by decide))) pda_nil))) (pss_one' (psd_ret (pd_dat (pr_callG G_law_alike gd (hr.mono (by decide)) (by rfl) T.g_law_alike T.F_law_alike.kp T.b_law_alike (pas_d (pd_frz (po_lst (pda_cons (pd_dat (pr_call G_read_frames (hr.mono (by decide)) (by rfl) T.g_read_frames T.F_read_frames.kp T.b_read_frames (pas_d (pd_dat (pr_call G_framed (hr.mono (by decide)) (by rfl) T.g_framed T.F_framed.kp T.b_framed (pas_d (pd_var (pv 3)) pas_nil))) pas_nil))) (pda_cons (pd_dat (pr_call G_framed (hr.mono (by decide)) (by rfl) T.g_framed T.F_framed.kp T.b_framed (pas_d (pd_var (pv 3)) pas_nil))) (pda_cons (pd_dat (pr_call G_framed (hr.mono (by decide)) (by rfl) T.g_framed T.F_framed.kp T.b_framed (pas_d pd_str pas_nil))) pda_nil))))) (pas_d (pd_frz (po_lst (pda_cons (pd_tup (pda_cons (pd_tup (pda_cons (pd_var (pv 3)) pda_nil)) (pda_cons pd_int pda_nil))) (pda_cons (pd_dat (pr_call G_law_framed (hr.mono (by decide)) (by rfl) T.g_law_framed T.F_law_framed.kp T.b_law_framed (pas_d (pd_var (pv 3)) pas_nil))) (pda_cons pd_str pda_nil))))) pas_nil)))))))))), law_read (r := 10) rfl hS hl q hm⟩
theorem ok_all (T : Tp K mg f_check_of f_framed f_is_plain f_is_number f_first_text f_read_frames f_law_bag f_law_take f_law_some f_law_alike f_law_check f_law_framed f_law_first_text f_law_read f_law_text f_law_bent f_law d_check_of d_framed d_is_plain d_is_number d_first_text d_read_frames d_law_bag d_law_take d_law_some d_law_alike d_law_check d_law_framed d_law_first_text d_law_read d_law_text d_law_bent d_law) (hm : ∀ ns : List Int, ns.length ≤ 63 → ∃ S, m_law (none :: some .bag :: List.replicate 10 none) (some (bag0 ns)) = some (.ok (.rt (.d (.bool true))), S)) : FnG P w K mg base 5 f_law d_law p_law (spLaw K) :=
  have G_check_of : FnOk P w K mg base CX0 1 f_check_of d_check_of p_check_of (spF K F_check_of 1) := ok_check_of T
  have G_framed : FnOk P w K mg base CX0 2 f_framed d_framed p_framed (spF K F_framed 1) := ok_framed T G_check_of
  have G_is_plain : FnOk P w K mg base CX0 1 f_is_plain d_is_plain p_is_plain (spF K F_is_plain 1) := ok_is_plain T
  have G_is_number : FnOk P w K mg base CX0 1 f_is_number d_is_number p_is_number (spF K F_is_number 1) := ok_is_number T
  have G_first_text : FnOk P w K mg base CX0 3 f_first_text d_first_text p_first_text (spF K F_first_text 1) := ok_first_text T G_framed G_is_plain G_is_number
  have G_read_frames : FnOk P w K mg base CX0 4 f_read_frames d_read_frames p_read_frames (spF K F_read_frames 1) := ok_read_frames T G_framed G_first_text
  have G_law_bag : FnOk P w K mg base CX0 1 f_law_bag d_law_bag p_law_bag (spBag K) := ok_law_bag T
  have G_law_take : FnOk P w K mg base CX0 1 f_law_take d_law_take p_law_take (spF K F_law_take 2) := ok_law_take T
  have G_law_some : FnOk P w K mg base CX0 2 f_law_some d_law_some p_law_some (spF K F_law_some 2) := ok_law_some T G_law_take
  have G_law_alike : FnG P w K mg base 1 f_law_alike d_law_alike p_law_alike (spF K F_law_alike 2) := ok_law_alike T
  have G_law_check : FnOk P w K mg base CX0 1 f_law_check d_law_check p_law_check (spF K F_law_check 1) := ok_law_check T
  have G_law_framed : FnOk P w K mg base CX0 2 f_law_framed d_law_framed p_law_framed (spF K F_law_framed 1) := ok_law_framed T G_law_check
  have G_law_first_text : FnOk P w K mg base CX0 3 f_law_first_text d_law_first_text p_law_first_text (spF K F_law_first_text 1) := ok_law_first_text T G_law_framed
  have G_law_read : FnOk P w K mg base CX0 4 f_law_read d_law_read p_law_read (spF K F_law_read 1) := ok_law_read T G_law_framed G_law_first_text
  have G_law_text : FnOk P w K mg base CX0 3 f_law_text d_law_text p_law_text (spF K F_law_text 2) := ok_law_text T G_law_take G_law_some
  have G_law_bent : FnOk P w K mg base CX0 3 f_law_bent d_law_bent p_law_bent (spF K F_law_bent 2) := ok_law_bent T G_law_some G_law_take
  ok_law T G_law_bag G_law_alike G_law_framed G_framed G_read_frames G_law_bent G_law_read G_law_take G_law_text G_law_some hm
end
/-! ### the end -/
theorem all_mk {l : PySem.W.OpenLaw} {w : World} {K : PySem.W.Frag} {h : Heap} {mg : Str → Option Value} {fa f_check_of f_framed f_is_plain f_is_number f_first_text f_read_frames f_law_bag f_law_take f_law_some f_law_alike f_law_check f_law_framed f_law_first_text f_law_read f_law_text f_law_bent f_law : Addr} (X : K.In h) (G : h.Ns mainGlobals mg) (hfa : mg (Str.ofString "law") = some (.ref fa))
    {od_check_of an_check_of : Option Addr} {sl_check_of : Array (Option Value)} {oc_check_of kV_check_of dc_check_of pm_check_of cd_check_of ct_check_of : Value} {od_framed an_framed : Option Addr} {sl_framed : Array (Option Value)} {oc_framed kV_framed dc_framed pm_framed cd_framed ct_framed : Value} {od_is_plain an_is_plain : Option Addr} {sl_is_plain : Array (Option Value)} {oc_is_plain kV_is_plain dc_is_plain pm_is_plain cd_is_plain ct_is_plain : Value} {od_is_number an_is_number : Option Addr} {sl_is_number : Array (Option Value)} {oc_is_number kV_is_number dc_is_number pm_is_number cd_is_number ct_is_number : Value} {od_first_text an_first_text : Option Addr} {sl_first_text : Array (Option Value)} {oc_first_text kV_first_text dc_first_text pm_first_text cd_first_text ct_first_text : Value} {od_read_frames an_read_frames : Option Addr} {sl_read_frames : Array (Option Value)} {oc_read_frames kV_read_frames dc_read_frames pm_read_frames cd_read_frames ct_read_frames : Value} {od_law_bag an_law_bag : Option Addr} {sl_law_bag : Array (Option Value)} {oc_law_bag kV_law_bag dc_law_bag pm_law_bag cd_law_bag ct_law_bag : Value} {od_law_take an_law_take : Option Addr} {sl_law_take : Array (Option Value)} {oc_law_take kV_law_take dc_law_take pm_law_take cd_law_take ct_law_take : Value} {od_law_some an_law_some : Option Addr} {sl_law_some : Array (Option Value)} {oc_law_some kV_law_some dc_law_some pm_law_some cd_law_some ct_law_some : Value} {od_law_alike an_law_alike : Option Addr} {sl_law_alike : Array (Option Value)} {oc_law_alike kV_law_alike dc_law_alike pm_law_alike cd_law_alike ct_law_alike : Value} {od_law_check an_law_check : Option Addr} {sl_law_check : Array (Option Value)} {oc_law_check kV_law_check dc_law_check pm_law_check cd_law_check ct_law_check : Value} {od_law_framed an_law_framed : Option Addr} {sl_law_framed : Array (Option Value)} {oc_law_framed kV_law_framed dc_law_framed pm_law_framed cd_law_framed ct_law_framed : Value} {od_law_first_text an_law_first_text : Option Addr} {sl_law_first_text : Array (Option Value)} {oc_law_first_text kV_law_first_text dc_law_first_text pm_law_first_text cd_law_first_text ct_law_first_text : Value} {od_law_read an_law_read : Option Addr} {sl_law_read : Array (Option Value)} {oc_law_read kV_law_read dc_law_read pm_law_read cd_law_read ct_law_read : Value} {od_law_text an_law_text : Option Addr} {sl_law_text : Array (Option Value)} {oc_law_text kV_law_text dc_law_text pm_law_text cd_law_text ct_law_text : Value} {od_law_bent an_law_bent : Option Addr} {sl_law_bent : Array (Option Value)} {oc_law_bent kV_law_bent dc_law_bent pm_law_bent cd_law_bent ct_law_bent : Value} {od_law an_law : Option Addr} {sl_law : Array (Option Value)} {oc_law kV_law dc_law pm_law cd_law ct_law : Value} {t_MOST_SIGNS t_MODULUS t_DIGITS t_BEGIN : Tok}
    (a_check_of : PySem.W.nsIn K mainGlobals (Str.ofString "check_of") = some (some (.ref f_check_of)))
    (l_check_of : K.lookup f_check_of = some ⟨oc_check_of, od_check_of, .func (PySem.W.fnOf (Str.ofString "check_of") (Str.ofString "check_of") (defArgs s_check_of) (defBody s_check_of) (defScope s_check_of) .none kV_check_of dc_check_of pm_check_of an_check_of cd_check_of ct_check_of), sl_check_of⟩)
    (cc_check_of : PySem.W.codeIn K cd_check_of (Str.ofString "check_of") = true)
    (kk_check_of : PySem.W.keepIn K (.ref f_check_of) = true)
    (a_framed : PySem.W.nsIn K mainGlobals (Str.ofString "framed") = some (some (.ref f_framed)))
    (l_framed : K.lookup f_framed = some ⟨oc_framed, od_framed, .func (PySem.W.fnOf (Str.ofString "framed") (Str.ofString "framed") (defArgs s_framed) (defBody s_framed) (defScope s_framed) .none kV_framed dc_framed pm_framed an_framed cd_framed ct_framed), sl_framed⟩)
    (cc_framed : PySem.W.codeIn K cd_framed (Str.ofString "framed") = true)
    (kk_framed : PySem.W.keepIn K (.ref f_framed) = true)
    (a_is_plain : PySem.W.nsIn K mainGlobals (Str.ofString "is_plain") = some (some (.ref f_is_plain)))
    (l_is_plain : K.lookup f_is_plain = some ⟨oc_is_plain, od_is_plain, .func (PySem.W.fnOf (Str.ofString "is_plain") (Str.ofString "is_plain") (defArgs s_is_plain) (defBody s_is_plain) (defScope s_is_plain) .none kV_is_plain dc_is_plain pm_is_plain an_is_plain cd_is_plain ct_is_plain), sl_is_plain⟩)
    (cc_is_plain : PySem.W.codeIn K cd_is_plain (Str.ofString "is_plain") = true)
    (kk_is_plain : PySem.W.keepIn K (.ref f_is_plain) = true)
    (a_is_number : PySem.W.nsIn K mainGlobals (Str.ofString "is_number") = some (some (.ref f_is_number)))
    (l_is_number : K.lookup f_is_number = some ⟨oc_is_number, od_is_number, .func (PySem.W.fnOf (Str.ofString "is_number") (Str.ofString "is_number") (defArgs s_is_number) (defBody s_is_number) (defScope s_is_number) .none kV_is_number dc_is_number pm_is_number an_is_number cd_is_number ct_is_number), sl_is_number⟩)
    (cc_is_number : PySem.W.codeIn K cd_is_number (Str.ofString "is_number") = true)
    (kk_is_number : PySem.W.keepIn K (.ref f_is_number) = true)
    (a_first_text : PySem.W.nsIn K mainGlobals (Str.ofString "first_text") = some (some (.ref f_first_text)))
    (l_first_text : K.lookup f_first_text = some ⟨oc_first_text, od_first_text, .func (PySem.W.fnOf (Str.ofString "first_text") (Str.ofString "first_text") (defArgs s_first_text) (defBody s_first_text) (defScope s_first_text) .none kV_first_text dc_first_text pm_first_text an_first_text cd_first_text ct_first_text), sl_first_text⟩)
    (cc_first_text : PySem.W.codeIn K cd_first_text (Str.ofString "first_text") = true)
    (kk_first_text : PySem.W.keepIn K (.ref f_first_text) = true)
    (a_read_frames : PySem.W.nsIn K mainGlobals (Str.ofString "read_frames") = some (some (.ref f_read_frames)))
    (l_read_frames : K.lookup f_read_frames = some ⟨oc_read_frames, od_read_frames, .func (PySem.W.fnOf (Str.ofString "read_frames") (Str.ofString "read_frames") (defArgs s_read_frames) (defBody s_read_frames) (defScope s_read_frames) .none kV_read_frames dc_read_frames pm_read_frames an_read_frames cd_read_frames ct_read_frames), sl_read_frames⟩)
    (cc_read_frames : PySem.W.codeIn K cd_read_frames (Str.ofString "read_frames") = true)
    (kk_read_frames : PySem.W.keepIn K (.ref f_read_frames) = true)
    (a_law_bag : PySem.W.nsIn K mainGlobals (Str.ofString "_law_bag") = some (some (.ref f_law_bag)))
    (l_law_bag : K.lookup f_law_bag = some ⟨oc_law_bag, od_law_bag, .func (PySem.W.fnOf (Str.ofString "_law_bag") (Str.ofString "_law_bag") (defArgs s_law_bag) (defBody s_law_bag) (defScope s_law_bag) .none kV_law_bag dc_law_bag pm_law_bag an_law_bag cd_law_bag ct_law_bag), sl_law_bag⟩)
    (cc_law_bag : PySem.W.codeIn K cd_law_bag (Str.ofString "_law_bag") = true)
    (kk_law_bag : PySem.W.keepIn K (.ref f_law_bag) = true)
    (a_law_take : PySem.W.nsIn K mainGlobals (Str.ofString "_law_take") = some (some (.ref f_law_take)))
    (l_law_take : K.lookup f_law_take = some ⟨oc_law_take, od_law_take, .func (PySem.W.fnOf (Str.ofString "_law_take") (Str.ofString "_law_take") (defArgs s_law_take) (defBody s_law_take) (defScope s_law_take) .none kV_law_take dc_law_take pm_law_take an_law_take cd_law_take ct_law_take), sl_law_take⟩)
    (cc_law_take : PySem.W.codeIn K cd_law_take (Str.ofString "_law_take") = true)
    (kk_law_take : PySem.W.keepIn K (.ref f_law_take) = true)
    (a_law_some : PySem.W.nsIn K mainGlobals (Str.ofString "_law_some") = some (some (.ref f_law_some)))
    (l_law_some : K.lookup f_law_some = some ⟨oc_law_some, od_law_some, .func (PySem.W.fnOf (Str.ofString "_law_some") (Str.ofString "_law_some") (defArgs s_law_some) (defBody s_law_some) (defScope s_law_some) .none kV_law_some dc_law_some pm_law_some an_law_some cd_law_some ct_law_some), sl_law_some⟩)
    (cc_law_some : PySem.W.codeIn K cd_law_some (Str.ofString "_law_some") = true)
    (kk_law_some : PySem.W.keepIn K (.ref f_law_some) = true)
    (a_law_alike : PySem.W.nsIn K mainGlobals (Str.ofString "_law_alike") = some (some (.ref f_law_alike)))
    (l_law_alike : K.lookup f_law_alike = some ⟨oc_law_alike, od_law_alike, .func (PySem.W.fnOf (Str.ofString "_law_alike") (Str.ofString "_law_alike") (defArgs s_law_alike) (defBody s_law_alike) (defScope s_law_alike) .none kV_law_alike dc_law_alike pm_law_alike an_law_alike cd_law_alike ct_law_alike), sl_law_alike⟩)
    (cc_law_alike : PySem.W.codeIn K cd_law_alike (Str.ofString "_law_alike") = true)
    (kk_law_alike : PySem.W.keepIn K (.ref f_law_alike) = true)
    (a_law_check : PySem.W.nsIn K mainGlobals (Str.ofString "_law_check") = some (some (.ref f_law_check)))
    (l_law_check : K.lookup f_law_check = some ⟨oc_law_check, od_law_check, .func (PySem.W.fnOf (Str.ofString "_law_check") (Str.ofString "_law_check") (defArgs s_law_check) (defBody s_law_check) (defScope s_law_check) .none kV_law_check dc_law_check pm_law_check an_law_check cd_law_check ct_law_check), sl_law_check⟩)
    (cc_law_check : PySem.W.codeIn K cd_law_check (Str.ofString "_law_check") = true)
    (kk_law_check : PySem.W.keepIn K (.ref f_law_check) = true)
    (a_law_framed : PySem.W.nsIn K mainGlobals (Str.ofString "_law_framed") = some (some (.ref f_law_framed)))
    (l_law_framed : K.lookup f_law_framed = some ⟨oc_law_framed, od_law_framed, .func (PySem.W.fnOf (Str.ofString "_law_framed") (Str.ofString "_law_framed") (defArgs s_law_framed) (defBody s_law_framed) (defScope s_law_framed) .none kV_law_framed dc_law_framed pm_law_framed an_law_framed cd_law_framed ct_law_framed), sl_law_framed⟩)
    (cc_law_framed : PySem.W.codeIn K cd_law_framed (Str.ofString "_law_framed") = true)
    (kk_law_framed : PySem.W.keepIn K (.ref f_law_framed) = true)
    (a_law_first_text : PySem.W.nsIn K mainGlobals (Str.ofString "_law_first_text") = some (some (.ref f_law_first_text)))
    (l_law_first_text : K.lookup f_law_first_text = some ⟨oc_law_first_text, od_law_first_text, .func (PySem.W.fnOf (Str.ofString "_law_first_text") (Str.ofString "_law_first_text") (defArgs s_law_first_text) (defBody s_law_first_text) (defScope s_law_first_text) .none kV_law_first_text dc_law_first_text pm_law_first_text an_law_first_text cd_law_first_text ct_law_first_text), sl_law_first_text⟩)
    (cc_law_first_text : PySem.W.codeIn K cd_law_first_text (Str.ofString "_law_first_text") = true)
    (kk_law_first_text : PySem.W.keepIn K (.ref f_law_first_text) = true)
    (a_law_read : PySem.W.nsIn K mainGlobals (Str.ofString "_law_read") = some (some (.ref f_law_read)))
    (l_law_read : K.lookup f_law_read = some ⟨oc_law_read, od_law_read, .func (PySem.W.fnOf (Str.ofString "_law_read") (Str.ofString "_law_read") (defArgs s_law_read) (defBody s_law_read) (defScope s_law_read) .none kV_law_read dc_law_read pm_law_read an_law_read cd_law_read ct_law_read), sl_law_read⟩)
    (cc_law_read : PySem.W.codeIn K cd_law_read (Str.ofString "_law_read") = true)
    (kk_law_read : PySem.W.keepIn K (.ref f_law_read) = true)
    (a_law_text : PySem.W.nsIn K mainGlobals (Str.ofString "_law_text") = some (some (.ref f_law_text)))
    (l_law_text : K.lookup f_law_text = some ⟨oc_law_text, od_law_text, .func (PySem.W.fnOf (Str.ofString "_law_text") (Str.ofString "_law_text") (defArgs s_law_text) (defBody s_law_text) (defScope s_law_text) .none kV_law_text dc_law_text pm_law_text an_law_text cd_law_text ct_law_text), sl_law_text⟩)
    (cc_law_text : PySem.W.codeIn K cd_law_text (Str.ofString "_law_text") = true)
    (kk_law_text : PySem.W.keepIn K (.ref f_law_text) = true)
    (a_law_bent : PySem.W.nsIn K mainGlobals (Str.ofString "_law_bent") = some (some (.ref f_law_bent)))
    (l_law_bent : K.lookup f_law_bent = some ⟨oc_law_bent, od_law_bent, .func (PySem.W.fnOf (Str.ofString "_law_bent") (Str.ofString "_law_bent") (defArgs s_law_bent) (defBody s_law_bent) (defScope s_law_bent) .none kV_law_bent dc_law_bent pm_law_bent an_law_bent cd_law_bent ct_law_bent), sl_law_bent⟩)
    (cc_law_bent : PySem.W.codeIn K cd_law_bent (Str.ofString "_law_bent") = true)
    (kk_law_bent : PySem.W.keepIn K (.ref f_law_bent) = true)
    (a_law : PySem.W.nsIn K mainGlobals (Str.ofString "law") = some (some (.ref f_law)))
    (l_law : K.lookup f_law = some ⟨oc_law, od_law, .func (PySem.W.fnOf (Str.ofString "law") (Str.ofString "law") (defArgs s_law) (defBody s_law) (defScope s_law) .none kV_law dc_law pm_law an_law cd_law ct_law), sl_law⟩)
    (cc_law : PySem.W.codeIn K cd_law (Str.ofString "law") = true)
    (kk_law : PySem.W.keepIn K (.ref f_law) = true)
    (zz_abs : PySem.W.nsIn K mainGlobals (Str.ofString "abs") = some none)
    (zz_all : PySem.W.nsIn K mainGlobals (Str.ofString "all") = some none)
    (zz_chr : PySem.W.nsIn K mainGlobals (Str.ofString "chr") = some none)
    (zz_enumerate : PySem.W.nsIn K mainGlobals (Str.ofString "enumerate") = some none)
    (zz_int : PySem.W.nsIn K mainGlobals (Str.ofString "int") = some none)
    (zz_len : PySem.W.nsIn K mainGlobals (Str.ofString "len") = some none)
    (zz_list : PySem.W.nsIn K mainGlobals (Str.ofString "list") = some none)
    (zz_ord : PySem.W.nsIn K mainGlobals (Str.ofString "ord") = some none)
    (zz_range : PySem.W.nsIn K mainGlobals (Str.ofString "range") = some none)
    (zz_repr : PySem.W.nsIn K mainGlobals (Str.ofString "repr") = some none)
    (zz_str : PySem.W.nsIn K mainGlobals (Str.ofString "str") = some none)
    (zz_sum : PySem.W.nsIn K mainGlobals (Str.ofString "sum") = some none)
    (zz_tuple : PySem.W.nsIn K mainGlobals (Str.ofString "tuple") = some none)
    (vv_MOST_SIGNS : PySem.W.nsIn K mainGlobals (Str.ofString "MOST_SIGNS") = some (some (.int 200 t_MOST_SIGNS)))
    (vv_MODULUS : PySem.W.nsIn K mainGlobals (Str.ofString "MODULUS") = some (some (.int 997 t_MODULUS)))
    (vv_DIGITS : PySem.W.nsIn K mainGlobals (Str.ofString "DIGITS") = some (some (.str (Str.ofString "0123456789") t_DIGITS)))
    (vv_BEGIN : PySem.W.nsIn K mainGlobals (Str.ofString "BEGIN") = some (some (.str (Str.ofString "|") t_BEGIN)))
    (hm : ∀ ns : List Int, ns.length ≤ 63 → ∃ S, m_law (none :: some .bag :: List.replicate 10 none) (some (bag0 ns)) = some (.ok (.rt (.d (.bool true))), S)) :
    ∃ fd : FuncData, (∀ (s : Shared) (v : Value), BindsTo s fd ⟨[v], []⟩ [((Str.ofString "script"), v)]) ∧ ∀ base : Heap, K.In base → base.Ns mainGlobals mg → FnG l.prog w K mg base 5 fa fd [(Str.ofString "script")] (spLaw K) := by
  have e := hfa.symm.trans (PySem.W.mg_of X G a_law)
  cases e
  have F_check_of := fun_mk (st := s_check_of) l_check_of cc_check_of kk_check_of
  have b_check_of := F_check_of.binds (ps := p_check_of) fun _ _ _ _ _ _ us hl => match us, hl with | [_], _ => rfl
  have F_framed := fun_mk (st := s_framed) l_framed cc_framed kk_framed
  have b_framed := F_framed.binds (ps := p_framed) fun _ _ _ _ _ _ us hl => match us, hl with | [_], _ => rfl
  have F_is_plain := fun_mk (st := s_is_plain) l_is_plain cc_is_plain kk_is_plain
  have b_is_plain := F_is_plain.binds (ps := p_is_plain) fun _ _ _ _ _ _ us hl => match us, hl with | [_], _ => rfl
  have F_is_number := fun_mk (st := s_is_number) l_is_number cc_is_number kk_is_number
  have b_is_number := F_is_number.binds (ps := p_is_number) fun _ _ _ _ _ _ us hl => match us, hl with | [_], _ => rfl
  have F_first_text := fun_mk (st := s_first_text) l_first_text cc_first_text kk_first_text
  have b_first_text := F_first_text.binds (ps := p_first_text) fun _ _ _ _ _ _ us hl => match us, hl with | [_], _ => rfl
  have F_read_frames := fun_mk (st := s_read_frames) l_read_frames cc_read_frames kk_read_frames
  have b_read_frames := F_read_frames.binds (ps := p_read_frames) fun _ _ _ _ _ _ us hl => match us, hl with | [_], _ => rfl
  have F_law_bag := fun_mk (st := s_law_bag) l_law_bag cc_law_bag kk_law_bag
  have b_law_bag := F_law_bag.binds (ps := p_law_bag) fun _ _ _ _ _ _ us hl => match us, hl with | [_], _ => rfl
  have F_law_take := fun_mk (st := s_law_take) l_law_take cc_law_take kk_law_take
  have b_law_take := F_law_take.binds (ps := p_law_take) fun _ _ _ _ _ _ us hl => match us, hl with | [_, _], _ => rfl
  have F_law_some := fun_mk (st := s_law_some) l_law_some cc_law_some kk_law_some
  have b_law_some := F_law_some.binds (ps := p_law_some) fun _ _ _ _ _ _ us hl => match us, hl with | [_, _], _ => rfl
  have F_law_alike := fun_mk (st := s_law_alike) l_law_alike cc_law_alike kk_law_alike
  have b_law_alike := F_law_alike.binds (ps := p_law_alike) fun _ _ _ _ _ _ us hl => match us, hl with | [_, _], _ => rfl
  have F_law_check := fun_mk (st := s_law_check) l_law_check cc_law_check kk_law_check
  have b_law_check := F_law_check.binds (ps := p_law_check) fun _ _ _ _ _ _ us hl => match us, hl with | [_], _ => rfl
  have F_law_framed := fun_mk (st := s_law_framed) l_law_framed cc_law_framed kk_law_framed
  have b_law_framed := F_law_framed.binds (ps := p_law_framed) fun _ _ _ _ _ _ us hl => match us, hl with | [_], _ => rfl
  have F_law_first_text := fun_mk (st := s_law_first_text) l_law_first_text cc_law_first_text kk_law_first_text
  have b_law_first_text := F_law_first_text.binds (ps := p_law_first_text) fun _ _ _ _ _ _ us hl => match us, hl with | [_], _ => rfl
  have F_law_read := fun_mk (st := s_law_read) l_law_read cc_law_read kk_law_read
  have b_law_read := F_law_read.binds (ps := p_law_read) fun _ _ _ _ _ _ us hl => match us, hl with | [_], _ => rfl
  have F_law_text := fun_mk (st := s_law_text) l_law_text cc_law_text kk_law_text
  have b_law_text := F_law_text.binds (ps := p_law_text) fun _ _ _ _ _ _ us hl => match us, hl with | [_, _], _ => rfl
  have F_law_bent := fun_mk (st := s_law_bent) l_law_bent cc_law_bent kk_law_bent
  have b_law_bent := F_law_bent.binds (ps := p_law_bent) fun _ _ _ _ _ _ us hl => match us, hl with | [_, _], _ => rfl
  have F_law := fun_mk (st := s_law) l_law cc_law kk_law
  have b_law := F_law.binds (ps := p_law) fun _ _ _ _ _ _ us hl => match us, hl with | [_], _ => rfl
  have T : Tp K mg f_check_of f_framed f_is_plain f_is_number f_first_text f_read_frames f_law_bag f_law_take f_law_some f_law_alike f_law_check f_law_framed f_law_first_text f_law_read f_law_text f_law_bent _ _ _ _ _ _ _ _ _ _ _ _ _ _ _ _ _ _ := ⟨F_check_of, b_check_of, (PySem.W.mg_of X G a_check_of), F_framed, b_framed, (PySem.W.mg_of X G a_framed), F_is_plain, b_is_plain, (PySem.W.mg_of X G a_is_plain), F_is_number, b_is_number, (PySem.W.mg_of X G a_is_number), F_first_text, b_first_text, (PySem.W.mg_of X G a_first_text), F_read_frames, b_read_frames, (PySem.W.mg_of X G a_read_frames), F_law_bag, b_law_bag, (PySem.W.mg_of X G a_law_bag), F_law_take, b_law_take, (PySem.W.mg_of X G a_law_take), F_law_some, b_law_some, (PySem.W.mg_of X G a_law_some), F_law_alike, b_law_alike, (PySem.W.mg_of X G a_law_alike), F_law_check, b_law_check, (PySem.W.mg_of X G a_law_check), F_law_framed, b_law_framed, (PySem.W.mg_of X G a_law_framed), F_law_first_text, b_law_first_text, (PySem.W.mg_of X G a_law_first_text), F_law_read, b_law_read, (PySem.W.mg_of X G a_law_read), F_law_text, b_law_text, (PySem.W.mg_of X G a_law_text), F_law_bent, b_law_bent, (PySem.W.mg_of X G a_law_bent), F_law, b_law, (PySem.W.mg_of X G a_law), (PySem.W.mg_none_of X G zz_abs), (PySem.W.mg_none_of X G zz_all), (PySem.W.mg_none_of X G zz_chr), (PySem.W.mg_none_of X G zz_enumerate), (PySem.W.mg_none_of X G zz_int), (PySem.W.mg_none_of X G zz_len), (PySem.W.mg_none_of X G zz_list), (PySem.W.mg_none_of X G zz_ord), (PySem.W.mg_none_of X G zz_range), (PySem.W.mg_none_of X G zz_repr), (PySem.W.mg_none_of X G zz_str), (PySem.W.mg_none_of X G zz_sum), (PySem.W.mg_none_of X G zz_tuple), ⟨_, PySem.W.mg_of X G vv_MOST_SIGNS⟩, ⟨_, PySem.W.mg_of X G vv_MODULUS⟩, ⟨_, PySem.W.mg_of X G vv_DIGITS⟩, ⟨_, PySem.W.mg_of X G vv_BEGIN⟩⟩
  exact ⟨PySem.W.fnOf (Str.ofString "law") (Str.ofString "law") (defArgs s_law) (defBody s_law) (defScope s_law) .none kV_law dc_law pm_law an_law cd_law ct_law, fun s v => .of_eq rfl, fun base _ _ => ok_all T hm⟩
end K56
namespace K56
open PySem PySem.Spec PyProof.Rows L2 Pd
theorem lit_0 : Str.ofString "|" = SX.S [124] := by decide +kernel
theorem lit_1 : Str.ofString ":" = SX.S [58] := by decide +kernel
theorem lit_2 : Str.ofString ";" = SX.S [59] := by decide +kernel
theorem lit_3 : Str.ofString "\n" = SX.S [10] := by decide +kernel
theorem lit_4 : Str.ofString " " = SX.S [32] := by decide +kernel
theorem lit_5 : Str.ofString "~" = SX.S [126] := by decide +kernel
theorem lit_6 : Str.ofString "" = SX.S [] := by decide +kernel
theorem lit_7 : Str.ofString "0123456789" = SX.S [48, 49, 50, 51, 52, 53, 54, 55, 56, 57] := by decide +kernel
theorem lit_8 : Str.ofString "0" = SX.S [48] := by decide +kernel
theorem lit_9 : Str.ofString "ab" = SX.S [97, 98] := by decide +kernel
theorem lit_10 : Str.ofString "0123456789:;" = SX.S [48, 49, 50, 51, 52, 53, 54, 55, 56, 57, 58, 59] := by decide +kernel
theorem lit_11 : Str.ofString " ~" = SX.S [32, 126] := by decide +kernel
theorem lit_12 : Str.ofString "abc/:;" = SX.S [97, 98, 99, 47, 58, 59] := by decide +kernel
theorem lit_13 : Str.ofString "xyz done" = SX.S [120, 121, 122, 32, 100, 111, 110, 101] := by decide +kernel
theorem lit_14 : Str.ofString "7" = SX.S [55] := by decide +kernel
theorem lit_15 : Str.ofString "|0:;000\n" = SX.S [124, 48, 58, 59, 48, 48, 48, 10] := by decide +kernel
theorem lit_16 : Str.ofString "a" = SX.S [97] := by decide +kernel
theorem lit_17 : Str.ofString "\t" = SX.S [9] := by decide +kernel
theorem lit_18 : Str.ofString "|:;0129a \n" = SX.S [124, 58, 59, 48, 49, 50, 57, 97, 32, 10] := by decide +kernel
theorem lit_19 : Str.ofString "|1" = SX.S [124, 49] := by decide +kernel
theorem lit_20 : Str.ofString "|201:" = SX.S [124, 50, 48, 49, 58] := by decide +kernel
theorem lit_21 : Str.ofString "|1:a;097" = SX.S [124, 49, 58, 97, 59, 48, 57, 55] := by decide +kernel
theorem lit_22 : Str.ofString "|01:a;097\n" = SX.S [124, 48, 49, 58, 97, 59, 48, 57, 55, 10] := by decide +kernel
theorem lit_23 : Str.ofString "|1:a;97\n" = SX.S [124, 49, 58, 97, 59, 57, 55, 10] := by decide +kernel
theorem lit_24 : Str.ofString "|1:|;124\n" = SX.S [124, 49, 58, 124, 59, 49, 50, 52, 10] := by decide +kernel
theorem lit_25 : Str.ofString "|+1:a;097\n" = SX.S [124, 43, 49, 58, 97, 59, 48, 57, 55, 10] := by decide +kernel
theorem lit_26 : Str.ofString "|1:\n;010\n" = SX.S [124, 49, 58, 10, 59, 48, 49, 48, 10] := by decide +kernel
/-! ### the check -/
def src (t : List Nat) : List (Nat × Nat) := t.mapIdx fun i c => (i, c)
theorem src_len (t : List Nat) : (src t).length = t.length := by simp [src]
theorem src_lt {t : List Nat} {p : Nat × Nat} (h : p ∈ src t) : p.1 < t.length := by
  obtain ⟨i, hi, e⟩ := List.mem_mapIdx.mp h
  rw [← e]; exact hi
def chkI (t : List Nat) : Int := ((src t).map fun p => ((p.1 : Int) + 1) * (p.2 : Int)).sum
def chk (t : List Nat) : Nat := ((chkI t).fmod 997).toNat
theorem chk_eq (t : List Nat) : (chkI t).fmod 997 = (chk t : Int) := (Int.toNat_of_nonneg (fmod_in (by decide)).1).symm
theorem chk_lt (t : List Nat) : chk t < 997 := by
  have h := (fmod_in (i := chkI t) (j := 997) (by decide)).2
  rw [chk_eq] at h
  omega
theorem r_check_of {t : List Nat} (h : t.length ≤ 1000000) : F_check_of [.d (tx t)] = M.ret (.d (.int (chk t))) := by
  simp only [F_check_of, m_check_of, runF, sRet, sRetO, sRetR, sSeq, sIf, sSet, sSetO, sPar, sParO, sAug, sApp, sNil, eOp, eUn, eCl, eClO, eTr, eC, eVar, eFrz, eLst, eTup, eTupV, eSl, ptNone, ptSome, eSm, asB, asI, asS, eAnd, eOr, eNotT, eAndT, eOrT, eIf, eCh, eDat, eCall, onlyN, asD, asNil, asBag, isBag, aCons, aNil, on1, on1L, getOwn, bind_ret, bind_lift, Pd.bind_assoc, lift_ret, eLc, iEn, List.map_cons, List.map_nil, List.length_cons, List.length_nil, List.replicate, List.cons_append, List.nil_append]
  simp [bind_lift, bind_ret, Pd.bind_assoc, lift_ret, on1, en2, tx_items]
  rw [enD_map, lcD_map _ (fun p => PyData.int (((p.1 : Int) + 1) * (p.2 : Int)))]
  · rw [bind_ret, List.nil_append, sumL_of, bind_lift]
    show M.bind (M.lift (pyMod (.int (chkI t)) (.int 997))) _ = _
    rw [show pyMod (.int (chkI t)) (.int 997) = some (.int (chk t)) from by rw [← chk_eq]; rfl]
    rfl
  · rintro ⟨i, c⟩ hs
    have hi := src_lt hs
    have hi : i < t.length := hi
    refine ⟨_, rfl, ?_⟩
    have z : okMul (1 + (i : Int)) (c : Int) = true := okMul_l (by omega) (by omega)
    have z2 : (1 + (i : Int)) = (i : Int) + 1 := by omega
    simp [wipeD, runF, sRet, sRetO, sRetR, sSeq, sIf, sSet, sSetO, sPar, sParO, sAug, sApp, sNil, eOp, eUn, eCl, eClO, eTr, eC, eVar, eFrz, eLst, eTup, eTupV, eSl, ptNone, ptSome, eSm, asB, asI, asS, eAnd, eOr, eNotT, eAndT, eOrT, eIf, eCh, eDat, eCall, onlyN, asD, asNil, asBag, isBag, aCons, aNil, on1, on1L, getOwn, bind_ret, bind_lift, Pd.bind_assoc, lift_ret, tx_ord, pyMul, z]
    rw [z2]
  · have := src_len t
    unfold src at this
    simp; omega
theorem r_law_check {t : List Nat} (h : t.length ≤ 1000000) : F_law_check [.d (tx t)] = M.ret (.d (.int (chk t))) := by
  simp only [F_law_check, m_law_check, runF, sRet, sRetO, sRetR, sSeq, sIf, sSet, sSetO, sPar, sParO, sAug, sApp, sNil, eOp, eUn, eCl, eClO, eTr, eC, eVar, eFrz, eLst, eTup, eTupV, eSl, ptNone, ptSome, eSm, asB, asI, asS, eAnd, eOr, eNotT, eAndT, eOrT, eIf, eCh, eDat, eCall, onlyN, asD, asNil, asBag, isBag, aCons, aNil, on1, on1L, getOwn, bind_ret, bind_lift, Pd.bind_assoc, lift_ret, eLc, iEn, List.map_cons, List.map_nil, List.length_cons, List.length_nil, List.replicate, List.cons_append, List.nil_append]
  simp [bind_lift, bind_ret, Pd.bind_assoc, lift_ret, on1, en1, tx_items]
  rw [enD_map, lcD_map _ (fun p => PyData.int (((p.1 : Int) + 1) * (p.2 : Int)))]
  · rw [bind_ret, List.nil_append, sumL_of, bind_lift]
    show M.bind (M.lift (pyMod (.int (chkI t)) (.int 997))) _ = _
    rw [show pyMod (.int (chkI t)) (.int 997) = some (.int (chk t)) from by rw [← chk_eq]; rfl]
    rfl
  · rintro ⟨i, c⟩ hs
    have hi := src_lt hs
    have hi : i < t.length := hi
    refine ⟨_, rfl, ?_⟩
    have z : okMul ((i : Int) + 1) (c : Int) = true := okMul_l (by omega) (by omega)
    simp [wipeD, runF, sRet, sRetO, sRetR, sSeq, sIf, sSet, sSetO, sPar, sParO, sAug, sApp, sNil, eOp, eUn, eCl, eClO, eTr, eC, eVar, eFrz, eLst, eTup, eTupV, eSl, ptNone, ptSome, eSm, asB, asI, asS, eAnd, eOr, eNotT, eAndT, eOrT, eIf, eCh, eDat, eCall, onlyN, asD, asNil, asBag, isBag, aCons, aNil, on1, on1L, getOwn, bind_ret, bind_lift, Pd.bind_assoc, lift_ret, tx_ord, pyMul, pyAdd, z]
  · have := src_len t
    unfold src at this
    simp; omega
/-! ### a frame -/
def pad3 (n : Nat) : List Nat := List.replicate (3 - (TL.numL n).length) 48 ++ TL.numL n
theorem pad3_eq : ∀ n < 1000, pad3 n = (TL.numL (1000 + n)).drop 1 := by decide +kernel
theorem pad3_len : ∀ n < 1000, (pad3 n).length = 3 := by decide +kernel
def frame (t : List Nat) : List Nat := 124 :: (TL.numL t.length ++ 58 :: (t ++ 59 :: (pad3 (chk t) ++ [10])))
theorem numL_len6 {n : Nat} (h : n ≤ 1000000) : (TL.numL n).length ≤ 7 := TL.numL_len (by decide) (by omega)
theorem frame_len {t : List Nat} (h : t.length ≤ 1000000) : (frame t).length ≤ t.length + 14 := by
  have h1 := pad3_len (chk t) (by have := chk_lt t; omega)
  have h2 := numL_len6 h
  simp [frame]
  omega
theorem fmt1_tx {l : List Nat} (h : l.length ≤ 16777216) : fmt1 (tx l) = some (tx l) := by
  show (if (SX.S l).length ≤ 16777216 then some (PyData.str (SX.S l)) else none) = _
  rw [SX.S_len, if_pos h]
theorem fmt1_int {n : Nat} (h : n < 1000000000000) : fmt1 (.int n) = some (tx (TL.numL n)) := tx_str h
theorem fmt3_int {n : Nat} (h : n < 1000) : fmt3 (.int n) = some (tx (pad3 n)) := by
  show (if 0 ≤ (n : Int) ∧ (n : Int) < 1000 then some (PyData.str (fmt03 (n : Int).toNat)) else none) = _
  rw [if_pos ⟨by omega, by omega⟩, Int.toNat_natCast]
  rfl
theorem r_framed {t : List Nat} (h : t.length ≤ 1000000) : F_framed [.d (tx t)] = M.ret (.d (tx (frame t))) := by
  have e1 := r_check_of h
  have h1 := pad3_len (chk t) (by have := chk_lt t; omega)
  have h2 := numL_len6 h
  simp only [F_framed, m_framed, runF, sRet, sRetO, sRetR, sSeq, sIf, sSet, sSetO, sPar, sParO, sAug, sApp, sNil, eOp, eUn, eCl, eClO, eTr, eC, eVar, eFrz, eLst, eTup, eTupV, eSl, ptNone, ptSome, eSm, asB, asI, asS, eAnd, eOr, eNotT, eAndT, eOrT, eIf, eCh, eDat, eCall, onlyN, asD, asNil, asBag, isBag, aCons, aNil, on1, on1L, getOwn, bind_ret, bind_lift, Pd.bind_assoc, lift_ret, jD, lit_0, lit_1, lit_2, lit_3, lit_4, lit_5, lit_6, lit_7, lit_8, lit_9, lit_10, lit_11, lit_12, lit_13, lit_14, lit_15, lit_16, lit_17, lit_18, lit_19, lit_20, lit_21, lit_22, lit_23, lit_24, lit_25, lit_26, List.map_cons, List.map_nil, List.length_cons, List.length_nil, List.replicate, List.cons_append, List.nil_append]
  have ht : t.length ≤ 16777216 := by omega
  have e : Str.empty = SX.S [] := rfl
  simp only [e1, tx_len ht, fmt1_tx ht, fmt1_tx (l := [124]) (by decide), fmt1_int (show t.length < 1000000000000 by omega), fmt3_int (show chk t < 1000 from by have := chk_lt t; omega), bind_lift, bind_ret, if_true, e, SX.S_cat, SX.S_len, List.getElem?_cons_zero, List.getElem?_cons_succ]
  simp (disch := omega) only [bind_lift, bind_ret, if_pos, List.length_append, List.length_cons, List.length_nil, h1]
  simp [frame]
theorem r_law_framed {t : List Nat} (h : t.length ≤ 1000000) : F_law_framed [.d (tx t)] = M.ret (.d (tx (frame t))) := by
  have e1 := r_law_check h
  have h0 := chk_lt t
  have h1 := pad3_len (chk t) (by have := chk_lt t; omega)
  have h2 := numL_len6 h
  have h3 := pad3_eq (chk t) (by omega)
  have ht : t.length ≤ 16777216 := by omega
  have ea : ∀ n : Nat, pyAdd (.int 1000) (.int (n : Int)) = some (.int ((1000 + n : Nat) : Int)) := fun n => rfl
  have h4 := numL_len6 (n := 1000 + chk t) (by omega)
  simp only [F_law_framed, m_law_framed, runF, sRet, sRetO, sRetR, sSeq, sIf, sSet, sSetO, sPar, sParO, sAug, sApp, sNil, eOp, eUn, eCl, eClO, eTr, eC, eVar, eFrz, eLst, eTup, eTupV, eSl, ptNone, ptSome, eSm, asB, asI, asS, eAnd, eOr, eNotT, eAndT, eOrT, eIf, eCh, eDat, eCall, onlyN, asD, asNil, asBag, isBag, aCons, aNil, on1, on1L, getOwn, bind_ret, bind_lift, Pd.bind_assoc, lift_ret, lit_0, lit_1, lit_2, lit_3, lit_4, lit_5, lit_6, lit_7, lit_8, lit_9, lit_10, lit_11, lit_12, lit_13, lit_14, lit_15, lit_16, lit_17, lit_18, lit_19, lit_20, lit_21, lit_22, lit_23, lit_24, lit_25, lit_26, List.map_cons, List.map_nil, List.length_cons, List.length_nil, List.replicate, List.cons_append, List.nil_append, List.set, List.getElem?_cons_zero, List.getElem?_cons_succ]
  have es : pySl (tx (TL.numL (1000 + chk t))) (some 1) none = some (tx (pad3 (chk t))) := by rw [h3]; exact tx_from 1 (by omega)
  simp only [if_true, e1, ea, tx_str (show 1000 + chk t < 1000000000000 by omega), tx_len ht, tx_str (show t.length < 1000000000000 by omega), bind_lift, bind_ret, Option.map_some, es]
  simp (disch := (simp only [List.length_append, List.length_cons, List.length_nil, h1]; omega)) only [tx_add, bind_lift, bind_ret]
  simp [frame]
/-! ### plain, numbers -/
def plain (t : List Nat) : Bool := t.all fun c => decide (32 ≤ c) && decide (c ≤ 126) && decide (c ≠ 124)
theorem r_is_plain {t : List Nat} (h : t.length ≤ 1000000) : F_is_plain [.d (tx t)] = M.ret (.d (.bool (plain t))) := by
  simp only [F_is_plain, m_is_plain, runF, sRet, sRetO, sRetR, sSeq, sIf, sSet, sSetO, sPar, sParO, sAug, sApp, sNil, eOp, eUn, eCl, eClO, eTr, eC, eVar, eFrz, eLst, eTup, eTupV, eSl, ptNone, ptSome, eSm, asB, asI, asS, eAnd, eOr, eNotT, eAndT, eOrT, eIf, eCh, eDat, eCall, onlyN, asD, asNil, asBag, isBag, aCons, aNil, on1, on1L, getOwn, bind_ret, bind_lift, Pd.bind_assoc, lift_ret, lit_0, lit_1, lit_2, lit_3, lit_4, lit_5, lit_6, lit_7, lit_8, lit_9, lit_10, lit_11, lit_12, lit_13, lit_14, lit_15, lit_16, lit_17, lit_18, lit_19, lit_20, lit_21, lit_22, lit_23, lit_24, lit_25, lit_26, eLc, iSeq, List.map_cons, List.map_nil, List.length_cons, List.length_nil, List.replicate, List.cons_append, List.nil_append, List.getElem?_cons_zero, tx_items]
  rw [lcD_map _ (fun c => PyData.bool (decide (32 ≤ c) && decide (c ≤ 126) && decide (c ≠ 124)))]
  · rw [bind_ret, List.nil_append, all_of, bind_lift]
    rfl
  · intro c hc
    refine ⟨_, rfl, ?_⟩
    by_cases h1 : 32 ≤ c
    · by_cases h2 : c ≤ 126
      · simp [wipeD, runF, sRet, sRetO, sRetR, sSeq, sIf, sSet, sSetO, sPar, sParO, sAug, sApp, sNil, eOp, eUn, eCl, eClO, eTr, eC, eVar, eFrz, eLst, eTup, eTupV, eSl, ptNone, ptSome, eSm, asB, asI, asS, eAnd, eOr, eNotT, eAndT, eOrT, eIf, eCh, eDat, eCall, onlyN, asD, asNil, asBag, isBag, aCons, aNil, on1, on1L, getOwn, bind_ret, bind_lift, Pd.bind_assoc, lift_ret, lit_0, lit_1, lit_2, lit_3, lit_4, lit_5, lit_6, lit_7, lit_8, lit_9, lit_10, lit_11, lit_12, lit_13, lit_14, lit_15, lit_16, lit_17, lit_18, lit_19, lit_20, lit_21, lit_22, lit_23, lit_24, lit_25, lit_26, tx_le, tx_ne, h1, h2, pyTruth, M.lift, M.bind_eq, M.ret, List.set]
      · simp [wipeD, runF, sRet, sRetO, sRetR, sSeq, sIf, sSet, sSetO, sPar, sParO, sAug, sApp, sNil, eOp, eUn, eCl, eClO, eTr, eC, eVar, eFrz, eLst, eTup, eTupV, eSl, ptNone, ptSome, eSm, asB, asI, asS, eAnd, eOr, eNotT, eAndT, eOrT, eIf, eCh, eDat, eCall, onlyN, asD, asNil, asBag, isBag, aCons, aNil, on1, on1L, getOwn, bind_ret, bind_lift, Pd.bind_assoc, lift_ret, lit_0, lit_1, lit_2, lit_3, lit_4, lit_5, lit_6, lit_7, lit_8, lit_9, lit_10, lit_11, lit_12, lit_13, lit_14, lit_15, lit_16, lit_17, lit_18, lit_19, lit_20, lit_21, lit_22, lit_23, lit_24, lit_25, lit_26, tx_le, tx_ne, h1, h2, pyTruth, List.set]
    · simp [wipeD, runF, sRet, sRetO, sRetR, sSeq, sIf, sSet, sSetO, sPar, sParO, sAug, sApp, sNil, eOp, eUn, eCl, eClO, eTr, eC, eVar, eFrz, eLst, eTup, eTupV, eSl, ptNone, ptSome, eSm, asB, asI, asS, eAnd, eOr, eNotT, eAndT, eOrT, eIf, eCh, eDat, eCall, onlyN, asD, asNil, asBag, isBag, aCons, aNil, on1, on1L, getOwn, bind_ret, bind_lift, Pd.bind_assoc, lift_ret, lit_0, lit_1, lit_2, lit_3, lit_4, lit_5, lit_6, lit_7, lit_8, lit_9, lit_10, lit_11, lit_12, lit_13, lit_14, lit_15, lit_16, lit_17, lit_18, lit_19, lit_20, lit_21, lit_22, lit_23, lit_24, lit_25, lit_26, tx_le, tx_ne, h1, pyTruth, List.set]
  · simp; omega
def digs (w : List Nat) : Bool := w.all fun c => decide (c ∈ [48, 49, 50, 51, 52, 53, 54, 55, 56, 57])
def isNum (w : List Nat) : Bool := decide (w ≠ []) && digs w && (decide (w = [48]) || decide (w.head? ≠ some 48))
theorem r_is_number {w : List Nat} (h : w.length ≤ 1000000) : F_is_number [.d (tx w)] = M.ret (.d (.bool (isNum w))) := by
  have e1 : eDat (eCall (onlyN 1 F_is_number) (asD (eVar 0) asNil)) [some (.d (tx w))] = eDat (eCall (onlyN 1 F_is_number) (asD (eVar 0) asNil)) [some (.d (tx w))] := rfl
  simp only [F_is_number, m_is_number, runF, sRet, sRetO, sRetR, sSeq, sIf, sSet, sSetO, sPar, sParO, sAug, sApp, sNil, eOp, eUn, eCl, eClO, eTr, eC, eVar, eFrz, eLst, eTup, eTupV, eSl, ptNone, ptSome, eSm, asB, asI, asS, eAnd, eOr, eNotT, eAndT, eOrT, eIf, eCh, eDat, eCall, onlyN, asD, asNil, asBag, isBag, aCons, aNil, on1, on1L, getOwn, bind_ret, bind_lift, Pd.bind_assoc, lift_ret, lit_0, lit_1, lit_2, lit_3, lit_4, lit_5, lit_6, lit_7, lit_8, lit_9, lit_10, lit_11, lit_12, lit_13, lit_14, lit_15, lit_16, lit_17, lit_18, lit_19, lit_20, lit_21, lit_22, lit_23, lit_24, lit_25, lit_26, eLc, iSeq, List.map_cons, List.map_nil, List.length_cons, List.length_nil, List.replicate, List.cons_append, List.nil_append, List.getElem?_cons_zero, tx_items, tx_eq]
  have hall : lcD (gN 1) mYes (eOp pyInS (eVar 1) (eC (tx [48, 49, 50, 51, 52, 53, 54, 55, 56, 57]))) (wipeD [some (Sl.d (tx w)), none] [1]) (List.map (fun c => tx [c]) w) [] = M.ret (w.map fun c => PyData.bool (decide (c ∈ [48, 49, 50, 51, 52, 53, 54, 55, 56, 57]))) := by
    rw [lcD_map _ (fun c => PyData.bool (decide (c ∈ [48, 49, 50, 51, 52, 53, 54, 55, 56, 57])))]
    · rfl
    · intro c hc
      refine ⟨_, rfl, ?_⟩
      simp [wipeD, runF, sRet, sRetO, sRetR, sSeq, sIf, sSet, sSetO, sPar, sParO, sAug, sApp, sNil, eOp, eUn, eCl, eClO, eTr, eC, eVar, eFrz, eLst, eTup, eTupV, eSl, ptNone, ptSome, eSm, asB, asI, asS, eAnd, eOr, eNotT, eAndT, eOrT, eIf, eCh, eDat, eCall, onlyN, asD, asNil, asBag, isBag, aCons, aNil, on1, on1L, getOwn, bind_ret, bind_lift, Pd.bind_assoc, lift_ret, tx_in]
    · simp; omega
  rw [hall]
  simp only [bind_ret, all_of, bind_lift, pyTruth]
  cases w with
  | nil => rfl
  | cons c r =>
    have hx : pyIx (tx (c :: r)) (.int 0) = some (tx [c]) := by
      show (if (SX.S (c :: r)).length ≤ 16777216 then (atI (c :: r) 0).map (fun c => PyData.str ⟨#[c]⟩) else none) = _
      rw [SX.S_len, if_pos (by omega), atI0]; rfl
    have hne : decide (c :: r = ([] : List Nat)) = false := rfl
    cases hd : digs (c :: r) with
    | false =>
      have hd' : (c :: r).all (fun c => decide (c ∈ [48, 49, 50, 51, 52, 53, 54, 55, 56, 57])) = false := hd
      rw [hd']
      simp [isNum, hd, bind_ret, M.ret, M.bind]
    | true =>
      have hd' : (c :: r).all (fun c => decide (c ∈ [48, 49, 50, 51, 52, 53, 54, 55, 56, 57])) = true := hd
      rw [hd']
      by_cases h1 : c = 48
      · subst h1
        by_cases h2 : r = []
        · subst h2
          simp [isNum, hd, tx_eq, pyTruth, bind_ret, bind_lift, M.ret, M.bind]
        · simp [isNum, hd, hx, h2, tx_eq, tx_ne, pyTruth, bind_ret, bind_lift, M.ret, M.bind]
      · simp [isNum, hd, hx, h1, tx_eq, tx_ne, pyTruth, bind_ret, bind_lift, M.ret, M.bind]
end K56
namespace K56
open PySem PySem.Spec PyProof.Rows L2 Pd
/-! ### the first text -/
def head (s : List Nat) : List Nat := upto 58 ((s.drop 1).take 4)
abbrev val (w : List Nat) : Nat := NumText.digitsVal w
def txt (s : List Nat) : List Nat := (s.drop ((head s).length + 2)).take (val (head s))
def ftOk (s : List Nat) : Prop := s.take 1 = [124] ∧ isNum (head s) = true ∧ val (head s) ≤ 200 ∧ plain (txt s) = true ∧ s.take (frame (txt s)).length = frame (txt s) ∧ (txt s).length = val (head s)
instance (s : List Nat) : Decidable (ftOk s) := by unfold ftOk; infer_instance
def ft (s : List Nat) : Option (List Nat) := if ftOk s then some (txt s) else none
def optD : Option (List Nat) → D
  | none => .none
  | some t => tx t
theorem head_le (s : List Nat) : (head s).length ≤ 4 := by
  have h : (head s).length ≤ ((s.drop 1).take 4).length := (List.takeWhile_prefix _).length_le
  rw [List.length_take] at h
  omega
theorem digs_all {w : List Nat} (h : digs w = true) : w.all (fun c => decide (48 ≤ c) && decide (c ≤ 57)) = true := by
  refine List.all_eq_true.mpr fun c hc => ?_
  have := of_decide_eq_true (List.all_eq_true.mp h c hc)
  simp at this
  simp; omega
theorem isNum_int {w : List Nat} (h : isNum w = true) (hl : w.length ≤ 640) : pyInt (tx w) = some (.int (val w : Nat)) := by
  unfold isNum at h
  simp only [Bool.and_eq_true, decide_eq_true_eq] at h
  exact tx_int (digs_all h.1.2) h.1.1 hl
theorem txt_le (s : List Nat) : (txt s).length ≤ s.length := by unfold txt; rw [List.length_take, List.length_drop]; omega
theorem r_first_text {s : List Nat} (h : s.length ≤ 1000000) : F_first_text [.d (tx s)] = M.ret (.d (optD (ft s))) := by
  have hs : s.length ≤ 16777216 := by omega
  have e1 : pySl (tx s) none (some 1) = some (tx (s.take 1)) := tx_to 1 hs
  have e2 : pySl (tx s) (some 1) (some 5) = some (tx ((s.drop 1).take 4)) := tx_mid (by decide) hs
  obtain ⟨r, e3⟩ := spl_upto (c := 58) ((s.drop 1).take 4)
  have l4 : ((s.drop 1).take 4).length ≤ 4 := by rw [List.length_take]; omega
  have e4 : sSplit (SX.S ((s.drop 1).take 4)) [tx [58]] = some (.list (tx (head s) :: r.map tx)) := by
    rw [tx_split (by decide) (by omega), e3]; rfl
  have e5 : pyIx (.list (tx (head s) :: r.map tx)) (.int 0) = some (tx (head s)) := atI0 _ _
  have hl := head_le s
  have e6 := r_is_number (w := head s) (by omega)
  simp only [F_first_text, m_first_text, runF, sRet, sRetO, sRetR, sSeq, sIf, sSet, sSetO, sPar, sParO, sAug, sApp, sNil, eOp, eUn, eCl, eClO, eTr, eC, eVar, eFrz, eLst, eTup, eTupV, eSl, ptNone, ptSome, eSm, asB, asI, asS, eAnd, eOr, eNotT, eAndT, eOrT, eIf, eCh, eDat, eCall, onlyN, asD, asNil, asBag, isBag, aCons, aNil, on1, on1L, getOwn, bind_ret, bind_lift, Pd.bind_assoc, lift_ret, lit_0, lit_1, lit_2, lit_3, lit_4, lit_5, lit_6, lit_7, lit_8, lit_9, lit_10, lit_11, lit_12, lit_13, lit_14, lit_15, lit_16, lit_17, lit_18, lit_19, lit_20, lit_21, lit_22, lit_23, lit_24, lit_25, lit_26, List.map_cons, List.map_nil, List.length_cons, List.length_nil, List.replicate, List.cons_append, List.nil_append, List.getElem?_cons_zero, List.getElem?_cons_succ, List.set, Option.map_some, e1, e2, e4, tx_ne]
  by_cases c1 : s.take 1 = [124]
  · simp only [c1, e2, e4, e5, e6, decide_true, Bool.not_true, Bool.false_eq_true, if_false, if_true, bind_ret, bind_lift, Pd.bind_assoc, pyTruth, List.getElem?_cons_zero, List.getElem?_cons_succ, List.set]
    cases c2 : isNum (head s) with
    | false =>
      have : ft s = none := by unfold ft; rw [if_neg]; rintro ⟨_, q, _⟩; rw [c2] at q; cases q
      simp [this, optD, bind_ret, bind_lift, lift_ret, pyTruth]
    | true =>
      have e7 := isNum_int c2 (by omega)
      have e8 : pyGt (.int (val (head s) : Nat)) (.int 200) = some (.bool (decide (200 < val (head s)))) := by
        show some (PyData.bool (decide ((200 : Int) < (val (head s) : Nat)))) = _
        congr 2
        exact decide_eq_decide.mpr (by omega)
      simp only [e7, e8, Bool.not_true, Bool.false_eq_true, if_false, bind_ret, bind_lift, Pd.bind_assoc]
      by_cases c3 : 200 < val (head s)
      · have : ft s = none := by unfold ft; rw [if_neg]; rintro ⟨_, _, q, _⟩; omega
        simp [this, c3, optD, bind_ret, bind_lift, lift_ret, pyTruth]
      · have e9 : pyLen (tx (head s)) = some (.int ((head s).length : Nat)) := tx_len (by omega)
        have e10 : pyAdd (.int ((head s).length : Nat)) (.int 2) = some (.int (((head s).length + 2 : Nat) : Int)) := rfl
        have e11 : pyAdd (.int (((head s).length + 2 : Nat) : Int)) (.int (val (head s) : Nat)) = some (.int (((head s).length + 2 + val (head s) : Nat) : Int)) := rfl
        have e12 : pySl (tx s) (some (((head s).length + 2 : Nat) : Int)) (some (((head s).length + 2 + val (head s) : Nat) : Int)) = some (tx (txt s)) := by
          rw [tx_mid (by omega) hs, Nat.add_sub_cancel_left]; rfl
        have tl := txt_le s
        have e13 := r_is_plain (t := txt s) (by omega)
        have e14 := r_framed (t := txt s) (by omega)
        simp only [c3, decide_false, Bool.false_eq_true, if_false, bind_ret, bind_lift, e7, e9, e10, e11, e12, e13, pyTruth, List.getElem?_cons_zero, List.getElem?_cons_succ, List.set, Option.map_some]
        cases c4 : plain (txt s) with
        | false =>
          have : ft s = none := by unfold ft; rw [if_neg]; rintro ⟨_, _, _, q, _⟩; rw [c4] at q; cases q
          simp [this, optD, bind_ret, bind_lift, lift_ret, pyTruth]
        | true =>
          have e15 : pyLen (tx (txt s)) = some (.int ((txt s).length : Nat)) := tx_len (by omega)
          have e16 : pyEq (.int ((txt s).length : Nat)) (.int (val (head s) : Nat)) = some (.bool (decide ((txt s).length = val (head s)))) := by
            show some (PyData.bool (((txt s).length : Int) == ((val (head s) : Nat) : Int))) = _
            congr 2
            rw [Bool.eq_iff_iff, beq_iff_eq, decide_eq_true_eq]; omega
          simp only [Bool.not_true, Bool.false_eq_true, if_false, if_true, bind_ret, bind_lift, e14, e15, e7, e16, tx_starts, pyTruth, List.getElem?_cons_zero, List.getElem?_cons_succ, List.set]
          by_cases c5 : s.take (frame (txt s)).length = frame (txt s)
          · by_cases c6 : (txt s).length = val (head s)
            · have : ft s = some (txt s) := by unfold ft; rw [if_pos ⟨c1, c2, by omega, c4, c5, c6⟩]
              simp [this, c5, c6, optD, bind_ret, bind_lift, lift_ret, pyTruth]
            · have : ft s = none := by unfold ft; rw [if_neg]; rintro ⟨_, _, _, _, _, q⟩; exact c6 q
              simp [this, c5, c6, optD, bind_ret, bind_lift, lift_ret, pyTruth]
          · have : ft s = none := by unfold ft; rw [if_neg]; rintro ⟨_, _, _, _, q, _⟩; exact c5 q
            simp [this, c5, optD, bind_ret, bind_lift, lift_ret, pyTruth]
  · have : ft s = none := by unfold ft; rw [if_neg]; rintro ⟨q, _⟩; exact c1 q
    simp [c1, this, optD, bind_ret, bind_lift, lift_ret, pyTruth]
end K56
namespace K56
open PySem PySem.Spec PyProof.Rows L2 Pd
/-! ### numbers -/
theorem val_snoc (w : List Nat) (d : Nat) : val (w ++ [d]) = val w * 10 + (d - 48) := by
  unfold val NumText.digitsVal
  rw [List.foldl_append]; rfl
theorem digs_mem {w : List Nat} (h : digs w = true) {c : Nat} (hc : c ∈ w) : 48 ≤ c ∧ c ≤ 57 := by
  have := of_decide_eq_true (List.all_eq_true.mp h c hc)
  simp at this
  omega
theorem digs_left {w : List Nat} {d : Nat} (h : digs (w ++ [d]) = true) : digs w = true := List.all_eq_true.mpr fun c hc => List.all_eq_true.mp h c (List.mem_append_left _ hc)
theorem numL_of : ∀ (n : Nat) (w : List Nat), w.length = n → digs w = true → w ≠ [] → w.head? ≠ some 48 → 1 ≤ val w ∧ TL.numL (val w) = w
  | 0, w, hl, _, hne, _ => absurd (List.length_eq_zero_iff.mp hl) hne
  | n + 1, w, hl, hd, hne, hh => by
    obtain ⟨u, d, e⟩ : ∃ u d, w = u ++ [d] := ⟨w.dropLast, w.getLast hne, (List.dropLast_concat_getLast hne).symm⟩
    subst e
    have hdd := digs_mem hd (List.mem_append_right _ (List.mem_singleton_self d))
    rw [val_snoc]
    by_cases hu : u = []
    · subst hu
      have : d ≠ 48 := fun q => hh (by rw [q]; rfl)
      have e0 : val [] * 10 + (d - 48) = d - 48 := by show 0 * 10 + _ = _; omega
      rw [e0]
      refine ⟨by omega, ?_⟩
      rw [TL.numL_lt (by omega), show 48 + (d - 48) = d by omega]; rfl
    · have hh' : u.head? ≠ some 48 := fun q => hh (by
        cases u with
        | nil => cases q
        | cons a b => exact q)
      have hl' : u.length = n := by simpa using hl
      obtain ⟨h1, h2⟩ := numL_of n u hl' (digs_left hd) hu hh'
      refine ⟨by omega, ?_⟩
      rw [TL.numL_step (by omega), show (val u * 10 + (d - 48)) / 10 = val u by omega, show (val u * 10 + (d - 48)) % 10 = d - 48 by omega, h2, show 48 + (d - 48) = d by omega]
theorem val_lt : ∀ (n : Nat) (w : List Nat), w.length = n → digs w = true → val w < 10 ^ n
  | 0, w, hl, _ => by rw [List.length_eq_zero_iff.mp hl]; decide
  | n + 1, w, hl, hd => by
    have hne : w ≠ [] := fun q => by rw [q] at hl; cases hl
    obtain ⟨u, d, e⟩ : ∃ u d, w = u ++ [d] := ⟨w.dropLast, w.getLast hne, (List.dropLast_concat_getLast hne).symm⟩
    subst e
    have hdd := digs_mem hd (List.mem_append_right _ (List.mem_singleton_self d))
    have hl' : u.length = n := by simpa using hl
    have := val_lt n u hl' (digs_left hd)
    rw [val_snoc, Nat.pow_succ]
    omega
theorem val_zero (r : List Nat) : val (48 :: r) = val r := by
  unfold val NumText.digitsVal
  rw [List.foldl_cons]
theorem num_iff {w : List Nat} (hd : digs w = true) (hne : w ≠ []) : TL.numL (val w) = w ↔ (w = [48] ∨ w.head? ≠ some 48) := by
  constructor
  · intro e
    by_cases h : w.head? = some 48
    · left
      cases w with
      | nil => exact absurd rfl hne
      | cons a r =>
        have ha : a = 48 := by simpa using h
        subst ha
        cases r with
        | nil => rfl
        | cons b r =>
          have hd' : digs (b :: r) = true := List.all_eq_true.mpr fun c hc => List.all_eq_true.mp hd c (List.mem_cons_of_mem _ hc)
          have := TL.numL_len (k := (b :: r).length) (by simp) (val_lt _ (b :: r) rfl hd')
          rw [val_zero] at e
          rw [e] at this
          simp at this
          omega
    · exact .inr h
  · rintro (rfl | h)
    · decide +kernel
    · exact (numL_of _ w rfl hd hne h).2
theorem isNum_iff {w : List Nat} (hd : digs w = true) (hne : w ≠ []) : isNum w = decide (TL.numL (val w) = w) := by
  unfold isNum
  rw [decide_eq_true hne, hd, Bool.eq_iff_iff]
  simp only [Bool.true_and, Bool.or_eq_true, decide_eq_true_eq]
  exact (num_iff hd hne).symm
/-! ### the law's first text -/
theorem ones_ne {ι : Type} (l : List ι) (h : l.length ≤ 1000000) : pyNe (.list (l.map fun _ => PyData.int 1)) (.list []) = some (.bool (!l.isEmpty)) := by
  have o1 : OkD 1 (2 + (l.map fun _ => PyData.int 1).length * (12 + 2)) (.list (l.map fun _ => PyData.int 1)) := okD_list fun d hd => by
    obtain ⟨_, _, rfl⟩ := List.mem_map.mp hd
    exact okD_nat 1 (by decide)
  have sh : SeqAt.shaped (.list (l.map fun _ => PyData.int 1)) = true := by
    unfold SeqAt.shaped
    rw [o1.lay, decide_eq_true (Nat.le_trans o1.dep (by decide))]; rfl
  have sh2 : SeqAt.shaped (.list []) = true := by decide
  have ok : okEq (.list (l.map fun _ => PyData.int 1)) (.list []) = true := by unfold okEq; rw [sh, sh2]; rfl
  unfold pyNe
  have e : pyEqB (.list (l.map fun _ => PyData.int 1)) (.list []) = some l.isEmpty := by
    show (if okEq _ _ = true then some (PyData.eqv _ _) else none) = _
    rw [if_pos ok]
    cases l <;> rfl
  rw [e]; rfl
theorem ft_col {s : List Nat} (h : ftOk s) : 58 ∈ s.take 5 := by
  obtain ⟨_, _, h3, _, h5, h6⟩ := h
  have hl : (TL.numL (txt s).length).length ≤ 3 := TL.numL_len (by decide) (by omega)
  have h7 : 58 ∈ (frame (txt s)).take 5 := by
    unfold frame
    rw [List.take_succ_cons]
    refine List.mem_cons_of_mem _ ?_
    rw [List.take_append]
    refine List.mem_append_right _ ?_
    obtain ⟨k, hk⟩ : ∃ k, 4 - (TL.numL (txt s).length).length = k + 1 := ⟨3 - (TL.numL (txt s).length).length, by omega⟩
    rw [hk, List.take_succ_cons]
    exact List.mem_cons_self
  rw [← h5, List.take_take] at h7
  exact List.mem_of_mem_take (i := min 5 (frame (txt s)).length) (by rw [List.take_take, show min (min 5 (frame (txt s)).length) 5 = min 5 (frame (txt s)).length by omega]; exact h7)
theorem head_eq {s : List Nat} (h1 : s.take 1 = [124]) (h5 : 58 ∈ s.take 5) : (s.drop 1).take ((upto 58 s).length - 1) = head s ∧ 1 ≤ (upto 58 s).length := by
  cases s with
  | nil => cases h1
  | cons a r =>
    have ha : a = 124 := by simpa using h1
    subst ha
    have h4 : 58 ∈ r.take 4 := by
      rw [List.take_succ_cons] at h5
      rcases List.mem_cons.mp h5 with q | q
      · cases q
      · exact q
    have e1 : upto 58 (124 :: r) = 124 :: upto 58 r := by
      unfold upto
      rw [List.takeWhile_cons_of_pos (by decide)]
    have e2 : head (124 :: r) = upto 58 r := upto_take h4
    rw [e1, e2]
    refine ⟨?_, by simp⟩
    show r.take ((upto 58 r).length) = upto 58 r
    exact (List.prefix_iff_eq_take.mp (List.takeWhile_prefix _)).symm
end K56
namespace K56
open PySem PySem.Spec PyProof.Rows L2 Pd
theorem filt_empty {l : List Nat} {p : Nat → Bool} : (l.filter p).isEmpty = l.all fun c => !p c := by
  induction l with
  | nil => rfl
  | cons a l ih =>
    cases h : p a
    · rw [List.filter_cons_of_neg (by rw [h]; decide), ih, List.all_cons, h]; rfl
    · rw [List.filter_cons_of_pos h, List.all_cons, h]; rfl
theorem fil_len {ι : Type} (l : List ι) (p : ι → Bool) : (l.filter p).length ≤ l.length := List.length_filter_le p l
theorem r_law_first_text {s : List Nat} (h : s.length ≤ 1000000) : F_law_first_text [.d (tx s)] = M.ret (.d (optD (ft s))) := by
  have hs : s.length ≤ 16777216 := by omega
  have e1 : pySl (tx s) none (some 1) = some (tx (s.take 1)) := tx_to 1 hs
  have e2 : pySl (tx s) none (some 5) = some (tx (s.take 5)) := tx_to 5 hs
  have hl := head_le s
  simp only [F_law_first_text, m_law_first_text, runF, sRet, sRetO, sRetR, sSeq, sIf, sSet, sSetO, sPar, sParO, sAug, sApp, sNil, eOp, eUn, eCl, eClO, eTr, eC, eVar, eFrz, eLst, eTup, eTupV, eSl, ptNone, ptSome, eSm, asB, asI, asS, eAnd, eOr, eNotT, eAndT, eOrT, eIf, eCh, eDat, eCall, onlyN, asD, asNil, asBag, isBag, aCons, aNil, on1, on1L, getOwn, bind_ret, bind_lift, Pd.bind_assoc, lift_ret, lit_0, lit_1, lit_2, lit_3, lit_4, lit_5, lit_6, lit_7, lit_8, lit_9, lit_10, lit_11, lit_12, lit_13, lit_14, lit_15, lit_16, lit_17, lit_18, lit_19, lit_20, lit_21, lit_22, lit_23, lit_24, lit_25, lit_26, eLc, iSeq, List.map_cons, List.map_nil, List.length_cons, List.length_nil, List.replicate, List.cons_append, List.nil_append, List.getElem?_cons_zero, List.getElem?_cons_succ, List.set, Option.map_some, e1, e2, tx_ne, tx_notin]
  by_cases c1 : s.take 1 = [124]
  · by_cases c2 : 58 ∈ s.take 5
    · obtain ⟨e3, e4⟩ := head_eq c1 c2
      have e5 := tx_index (c := 58) (s := s) (List.mem_of_mem_take c2)
      have e6 : pySl (tx s) (some 1) (some ((upto 58 s).length : Nat)) = some (tx (head s)) := by
        rw [← e3]; exact tx_mid e4 hs
      simp only [c1, c2, e5, e6, decide_true, Bool.not_true, Bool.false_eq_true, if_false, if_true, bind_ret, bind_lift, Pd.bind_assoc, pyTruth, List.getElem?_cons_zero, List.getElem?_cons_succ, List.set, Option.map_some, tx_eq, tx_items, decide_false]
      by_cases c3 : head s = []
      · have : ft s = none := by unfold ft; rw [if_neg]; rintro ⟨_, q, _⟩; rw [c3] at q; cases q
        simp [c3, this, optD, bind_ret, bind_lift, lift_ret, pyTruth]
      · simp only [c3, decide_false, Bool.false_eq_true, if_false, bind_ret, bind_lift, Pd.bind_assoc]
        have hfil : lcD (gN 6) (eTr asB (eOp pyNotInS (eVar 6) (eC (tx [48, 49, 50, 51, 52, 53, 54, 55, 56, 57])))) (eC (.int 1)) (wipeD [some (Sl.d (tx s)), some (Sl.d (tx (head s))), none, none, none, none, none] [6]) (List.map (fun c => tx [c]) (head s)) [] = M.ret (((head s).filter fun c => !decide (c ∈ [48, 49, 50, 51, 52, 53, 54, 55, 56, 57])).map fun _ => PyData.int 1) := by
          rw [lcD_fil _ (fun _ => PyData.int 1) (fun c => !decide (c ∈ [48, 49, 50, 51, 52, 53, 54, 55, 56, 57]))]
          · rfl
          · intro c hc
            refine ⟨_, rfl, ?_, fun _ => rfl⟩
            simp [wipeD, runF, sRet, sRetO, sRetR, sSeq, sIf, sSet, sSetO, sPar, sParO, sAug, sApp, sNil, eOp, eUn, eCl, eClO, eTr, eC, eVar, eFrz, eLst, eTup, eTupV, eSl, ptNone, ptSome, eSm, asB, asI, asS, eAnd, eOr, eNotT, eAndT, eOrT, eIf, eCh, eDat, eCall, onlyN, asD, asNil, asBag, isBag, aCons, aNil, on1, on1L, getOwn, bind_ret, bind_lift, Pd.bind_assoc, lift_ret, tx_notin, List.set]
          · simp; omega
        rw [hfil]
        have hf : ((head s).filter fun c => !decide (c ∈ [48, 49, 50, 51, 52, 53, 54, 55, 56, 57])).isEmpty = digs (head s) := by
          rw [filt_empty]
          unfold digs
          congr 1
          funext c
          exact Bool.not_not _
        have hne := ones_ne ((head s).filter fun c => !decide (c ∈ [48, 49, 50, 51, 52, 53, 54, 55, 56, 57])) (Nat.le_trans (fil_len _ _) (by omega))
        rw [hf] at hne
        simp only [hne, Nat.zero_le, if_true, bind_ret, bind_lift, Pd.bind_assoc]
        cases c4 : digs (head s) with
        | false =>
          have : ft s = none := by
            unfold ft; rw [if_neg]; rintro ⟨_, q, _⟩
            unfold isNum at q; rw [c4] at q; simp at q
          simp [this, optD, bind_ret, bind_lift, lift_ret, pyTruth]
        | true =>
          have e7 : pyInt (tx (head s)) = some (.int (val (head s) : Nat)) := tx_int (digs_all c4) c3 (by omega)
          have vl : val (head s) < 10000 := Nat.lt_of_lt_of_le (val_lt _ (head s) rfl c4) (Nat.pow_le_pow_right (n := 10) (by decide) hl)
          have e8 : pyStr (.int (val (head s) : Nat)) = some (tx (TL.numL (val (head s)))) := tx_str (by omega)
          simp only [e7, e8, tx_ne, Bool.not_true, Bool.false_eq_true, if_false, bind_ret, bind_lift, Pd.bind_assoc]
          by_cases c5 : TL.numL (val (head s)) = head s
          · have c5' : isNum (head s) = true := by rw [isNum_iff c4 c3, decide_eq_true c5]
            have e9 : pyLen (tx (head s)) = some (.int ((head s).length : Nat)) := tx_len (by omega)
            have e10 : pyAdd (.int ((head s).length : Nat)) (.int 2) = some (.int (((head s).length + 2 : Nat) : Int)) := rfl
            have e11 : pyAdd (.int (((head s).length + 2 : Nat) : Int)) (.int (val (head s) : Nat)) = some (.int (((head s).length + 2 + val (head s) : Nat) : Int)) := rfl
            have e12 : pySl (tx s) (some (((head s).length + 2 : Nat) : Int)) (some (((head s).length + 2 + val (head s) : Nat) : Int)) = some (tx (txt s)) := by
              rw [tx_mid (by omega) hs, Nat.add_sub_cancel_left]; rfl
            have tl := txt_le s
            have e13 : pyGt (.int (val (head s) : Nat)) (.int 200) = some (.bool (decide (200 < val (head s)))) := by
              show some (PyData.bool (decide ((200 : Int) < (val (head s) : Nat)))) = _
              congr 2
              exact decide_eq_decide.mpr (by omega)
            have e14 : pyLen (tx (txt s)) = some (.int ((txt s).length : Nat)) := tx_len (by omega)
            have e15 : pyNe (.int ((txt s).length : Nat)) (.int (val (head s) : Nat)) = some (.bool (!decide ((txt s).length = val (head s)))) := by
              show some (PyData.bool (!(((txt s).length : Int) == ((val (head s) : Nat) : Int)))) = _
              congr 3
              rw [Bool.eq_iff_iff, beq_iff_eq, decide_eq_true_eq]; omega
            simp only [c5, e7, e9, e10, e11, e12, e13, decide_true, Bool.not_true, Bool.false_eq_true, if_false, bind_ret, bind_lift, Pd.bind_assoc, List.getElem?_cons_zero, List.getElem?_cons_succ, List.set, Option.map_some]
            by_cases c6 : 200 < val (head s)
            · have : ft s = none := by unfold ft; rw [if_neg]; rintro ⟨_, _, q, _⟩; omega
              simp [this, c6, optD, bind_ret, bind_lift, lift_ret, pyTruth]
            · simp only [c6, e14, e15, decide_false, Bool.false_eq_true, if_false, bind_ret, bind_lift, Pd.bind_assoc]
              by_cases c7 : (txt s).length = val (head s)
              · simp only [c7, decide_true, Bool.not_true, Bool.false_eq_true, if_false, bind_ret, bind_lift, Pd.bind_assoc, tx_items]
                have hfil2 : lcD (gN 6) (eOrT (eTr asB (eOp pyEq (eVar 6) (eC (tx [124])))) (eNotT (eTr asB (eCh pyLe pyLe (eC (tx [32])) (eVar 6) (eC (tx [126])))))) (eC (.int 1)) (wipeD [some (Sl.d (tx s)), some (Sl.d (tx (head s))), some (Sl.d (tx (txt s))), none, some (Sl.d (.int (val (head s) : Nat))), some (Sl.d (.int (((head s).length + 2 : Nat) : Int))), none] [6]) (List.map (fun c => tx [c]) (txt s)) [] = M.ret (((txt s).filter fun c => !(decide (32 ≤ c) && decide (c ≤ 126) && decide (c ≠ 124))).map fun _ => PyData.int 1) := by
                  rw [lcD_fil _ (fun _ => PyData.int 1) (fun c => !(decide (32 ≤ c) && decide (c ≤ 126) && decide (c ≠ 124)))]
                  · rfl
                  · intro c hc
                    refine ⟨_, rfl, ?_, fun _ => rfl⟩
                    by_cases d1 : c = 124
                    · simp [wipeD, runF, sRet, sRetO, sRetR, sSeq, sIf, sSet, sSetO, sPar, sParO, sAug, sApp, sNil, eOp, eUn, eCl, eClO, eTr, eC, eVar, eFrz, eLst, eTup, eTupV, eSl, ptNone, ptSome, eSm, asB, asI, asS, eAnd, eOr, eNotT, eAndT, eOrT, eIf, eCh, eDat, eCall, onlyN, asD, asNil, asBag, isBag, aCons, aNil, on1, on1L, getOwn, bind_ret, bind_lift, Pd.bind_assoc, lift_ret, tx_eq, tx_le, List.set, d1]
                    · by_cases d2 : 32 ≤ c
                      · by_cases d3 : c ≤ 126
                        · simp [wipeD, runF, sRet, sRetO, sRetR, sSeq, sIf, sSet, sSetO, sPar, sParO, sAug, sApp, sNil, eOp, eUn, eCl, eClO, eTr, eC, eVar, eFrz, eLst, eTup, eTupV, eSl, ptNone, ptSome, eSm, asB, asI, asS, eAnd, eOr, eNotT, eAndT, eOrT, eIf, eCh, eDat, eCall, onlyN, asD, asNil, asBag, isBag, aCons, aNil, on1, on1L, getOwn, bind_ret, bind_lift, Pd.bind_assoc, lift_ret, tx_eq, tx_le, List.set, d1, d2, d3]
                        · simp [wipeD, runF, sRet, sRetO, sRetR, sSeq, sIf, sSet, sSetO, sPar, sParO, sAug, sApp, sNil, eOp, eUn, eCl, eClO, eTr, eC, eVar, eFrz, eLst, eTup, eTupV, eSl, ptNone, ptSome, eSm, asB, asI, asS, eAnd, eOr, eNotT, eAndT, eOrT, eIf, eCh, eDat, eCall, onlyN, asD, asNil, asBag, isBag, aCons, aNil, on1, on1L, getOwn, bind_ret, bind_lift, Pd.bind_assoc, lift_ret, tx_eq, tx_le, List.set, d1, d2, d3]
                      · simp [wipeD, runF, sRet, sRetO, sRetR, sSeq, sIf, sSet, sSetO, sPar, sParO, sAug, sApp, sNil, eOp, eUn, eCl, eClO, eTr, eC, eVar, eFrz, eLst, eTup, eTupV, eSl, ptNone, ptSome, eSm, asB, asI, asS, eAnd, eOr, eNotT, eAndT, eOrT, eIf, eCh, eDat, eCall, onlyN, asD, asNil, asBag, isBag, aCons, aNil, on1, on1L, getOwn, bind_ret, bind_lift, Pd.bind_assoc, lift_ret, tx_eq, tx_le, List.set, d1, d2]
                  · simp; omega
                rw [hfil2]
                have hf2 : ((txt s).filter fun c => !(decide (32 ≤ c) && decide (c ≤ 126) && decide (c ≠ 124))).isEmpty = plain (txt s) := by
                  rw [filt_empty]
                  unfold plain
                  congr 1
                  funext c
                  exact Bool.not_not _
                have hne2 := ones_ne ((txt s).filter fun c => !(decide (32 ≤ c) && decide (c ≤ 126) && decide (c ≠ 124))) (Nat.le_trans (fil_len _ _) (by omega))
                rw [hf2] at hne2
                simp only [hne2, Nat.zero_le, if_true, bind_ret, bind_lift, Pd.bind_assoc]
                cases c8 : plain (txt s) with
                | false =>
                  have : ft s = none := by unfold ft; rw [if_neg]; rintro ⟨_, _, _, q, _⟩; rw [c8] at q; cases q
                  simp [this, optD, bind_ret, bind_lift, lift_ret, pyTruth]
                | true =>
                  have e16 := r_law_framed (t := txt s) (by omega)
                  have fl := frame_len (t := txt s) (by omega)
                  have e17 : pyLen (tx (frame (txt s))) = some (.int ((frame (txt s)).length : Nat)) := tx_len (by omega)
                  have e18 : pySl (tx s) none (some ((frame (txt s)).length : Nat)) = some (tx (s.take (frame (txt s)).length)) := tx_to _ hs
                  simp only [e16, e17, e18, tx_eq, Bool.not_true, Bool.false_eq_true, if_false, bind_ret, bind_lift, Pd.bind_assoc, List.getElem?_cons_zero, List.getElem?_cons_succ, List.set, Option.map_some]
                  by_cases c9 : s.take (frame (txt s)).length = frame (txt s)
                  · have : ft s = some (txt s) := by unfold ft; rw [if_pos ⟨c1, c5', by omega, c8, c9, c7⟩]
                    simp [this, c9, optD, bind_ret, bind_lift, lift_ret, pyTruth]
                  · have : ft s = none := by unfold ft; rw [if_neg]; rintro ⟨_, _, _, _, q, _⟩; exact c9 q
                    simp [this, c9, optD, bind_ret, bind_lift, lift_ret, pyTruth]
              · have : ft s = none := by unfold ft; rw [if_neg]; rintro ⟨_, _, _, _, _, q⟩; exact c7 q
                simp [this, c7, optD, bind_ret, bind_lift, lift_ret, pyTruth]
          · have c5' : isNum (head s) = false := by rw [isNum_iff c4 c3, decide_eq_false c5]
            have : ft s = none := by unfold ft; rw [if_neg]; rintro ⟨_, q, _⟩; rw [c5'] at q; cases q
            simp [this, c5, optD, bind_ret, bind_lift, lift_ret, pyTruth]
    · have : ft s = none := by unfold ft; rw [if_neg]; exact fun q => c2 (ft_col q)
      simp [c1, c2, this, optD, bind_ret, bind_lift, lift_ret, pyTruth]
  · have : ft s = none := by unfold ft; rw [if_neg]; rintro ⟨q, _⟩; exact c1 q
    simp [c1, this, optD, bind_ret, bind_lift, lift_ret, pyTruth]
end K56
namespace K56
open PySem PySem.Spec PyProof.Rows L2 Pd
/-! ### all texts -/
def rd : Nat → List Nat → List (List Nat) × Nat
  | 0, s => ([], s.length)
  | n + 1, s => match ft s with
    | none => ([], s.length)
    | some t => (t :: (rd n (s.drop (frame t).length)).1, (rd n (s.drop (frame t).length)).2)
theorem ft_some {s t : List Nat} (h : ft s = some t) : s.take (frame t).length = frame t ∧ t.length ≤ s.length ∧ (frame t).length ≤ s.length ∧ t.length ≤ 200 ∧ plain t = true := by
  unfold ft at h
  by_cases c : ftOk s
  · rw [if_pos c] at h
    have e := Option.some.inj h
    subst e
    have h5 := c.2.2.2.2.1
    have h6 := congrArg List.length h5
    rw [List.length_take] at h6
    have h7 := c.2.2.2.2.2
    have h8 := c.2.2.1
    exact ⟨h5, txt_le s, by omega, by omega, c.2.2.2.1⟩
  · rw [if_neg c] at h; cases h
theorem frame_pos (t : List Nat) : 1 ≤ (frame t).length := by unfold frame; simp
theorem frame_gt (t : List Nat) : t.length ≤ (frame t).length := by unfold frame; simp; omega
noncomputable def bR : DE → M Ctl := (sSeq (sSet 2 (eDat (eCall (onlyN 1 F_first_text) (asD (eVar 0) asNil)))) (sSeq (sIf (eTr asB (eOp pyIsN (eVar 2) (eC .none))) (sRet (eTup (aCons (eTupV 1) (aCons (eCl (on1 pyLen) (aCons (eVar 0) aNil)) aNil)))) sNil) (sSeq (sApp 1 (eVar 2)) (sSet 0 (eSl pySl (eVar 0) (ptSome (eCl (on1 pyLen) (aCons (eDat (eCall (onlyN 1 F_framed) (asD (eVar 2) asNil))) aNil))) ptNone)))))
def resD (ts : List (List Nat)) (k : Nat) : D := .tuple [.tuple (ts.map tx), .int k]
theorem bR_none {s : List Nat} (acc : List (List Nat)) (x : Option Sl) (h : s.length ≤ 1000000) (e : ft s = none) : bR [some (.d (tx s)), some (.own (acc.map tx)), x] = M.ret (.rt (.d (resD acc s.length))) := by
  have e1 := r_first_text h
  have e2 : pyLen (tx s) = some (.int (s.length : Nat)) := tx_len (by omega)
  have e3 : pyIsN (optD none) .none = some (.bool true) := rfl
  rw [e] at e1
  simp only [bR, runF, sRet, sRetO, sRetR, sSeq, sIf, sSet, sSetO, sPar, sParO, sAug, sApp, sNil, eOp, eUn, eCl, eClO, eTr, eC, eVar, eFrz, eLst, eTup, eTupV, eSl, ptNone, ptSome, eSm, asB, asI, asS, eAnd, eOr, eNotT, eAndT, eOrT, eIf, eCh, eDat, eCall, onlyN, asD, asNil, asBag, isBag, aCons, aNil, on1, on1L, getOwn, bind_ret, bind_lift, Pd.bind_assoc, lift_ret, lit_0, lit_1, lit_2, lit_3, lit_4, lit_5, lit_6, lit_7, lit_8, lit_9, lit_10, lit_11, lit_12, lit_13, lit_14, lit_15, lit_16, lit_17, lit_18, lit_19, lit_20, lit_21, lit_22, lit_23, lit_24, lit_25, lit_26, List.map_cons, List.map_nil, List.length_cons, List.length_nil, List.getElem?_cons_zero, List.getElem?_cons_succ, List.set, if_true, e1, e2, e3]
  rfl
theorem bR_some {s t : List Nat} (acc : List (List Nat)) (x : Option Sl) (h : s.length ≤ 1000000) (e : ft s = some t) (ha : acc.length < 16777216) :
    bR [some (.d (tx s)), some (.own (acc.map tx)), x] = M.ret (.nx [some (.d (tx (s.drop (frame t).length))), some (.own ((acc ++ [t]).map tx)), some (.d (tx t))]) := by
  have e1 := r_first_text h
  obtain ⟨f1, f2, f3, f4, f5⟩ := ft_some e
  have e2 : pyLen (tx (frame t)) = some (.int ((frame t).length : Nat)) := tx_len (by omega)
  have e3 : pyIsN (optD (some t)) .none = some (.bool false) := rfl
  have e4 := r_framed (t := t) (by omega)
  have e5 : pySl (tx s) (some ((frame t).length : Nat)) none = some (tx (s.drop (frame t).length)) := tx_from _ (by omega)
  rw [e] at e1
  simp only [bR, runF, sRet, sRetO, sRetR, sSeq, sIf, sSet, sSetO, sPar, sParO, sAug, sApp, sNil, eOp, eUn, eCl, eClO, eTr, eC, eVar, eFrz, eLst, eTup, eTupV, eSl, ptNone, ptSome, eSm, asB, asI, asS, eAnd, eOr, eNotT, eAndT, eOrT, eIf, eCh, eDat, eCall, onlyN, asD, asNil, asBag, isBag, aCons, aNil, on1, on1L, getOwn, bind_ret, bind_lift, Pd.bind_assoc, lift_ret, lit_0, lit_1, lit_2, lit_3, lit_4, lit_5, lit_6, lit_7, lit_8, lit_9, lit_10, lit_11, lit_12, lit_13, lit_14, lit_15, lit_16, lit_17, lit_18, lit_19, lit_20, lit_21, lit_22, lit_23, lit_24, lit_25, lit_26, List.map_cons, List.map_nil, List.length_cons, List.length_nil, List.getElem?_cons_zero, List.getElem?_cons_succ, List.set, if_true, Bool.false_eq_true, if_false, e1, e3]
  simp only [optD, e4, List.length_map, ha, if_true, bind_ret, bind_lift, e2, Option.map_some, e5, List.getElem?_cons_zero, List.getElem?_cons_succ, List.set, List.map_append, List.map_cons, List.map_nil]
theorem ft_nil : ft [] = none := by
  unfold ft
  rw [if_neg]
  rintro ⟨q, _⟩
  cases q
theorem loop_read : ∀ (n : Nat) (s : List Nat) (acc : List (List Nat)) (x : Option Sl), s.length ≤ n → acc.length + n ≤ 1000000 →
    whN (eTr pyTruth (eC (.bool true))) bR (n + 1) [some (.d (tx s)), some (.own (acc.map tx)), x] = M.ret (.rt (.d (resD (acc ++ (rd n s).1) (rd n s).2)))
  | 0, s, acc, x, hl, ha => by
    have : s = [] := List.length_eq_zero_iff.mp (by omega)
    subst this
    show M.bind (M.ret true) (fun b => if b = true then M.bind (bR _) (loopD (whN _ bR 0)) else _) = _
    rw [bind_ret, if_pos rfl, bR_none acc x (by simp) ft_nil, bind_ret]
    show M.ret (Ctl.rt (.d (resD acc 0))) = M.ret (Ctl.rt (.d (resD (acc ++ []) 0)))
    rw [List.append_nil]
  | n + 1, s, acc, x, hl, ha => by
    show M.bind (M.ret true) (fun b => if b = true then M.bind (bR _) (loopD (whN _ bR (n + 1))) else _) = _
    rw [bind_ret, if_pos rfl]
    cases e : ft s with
    | none =>
      have er : rd (n + 1) s = ([], s.length) := by unfold rd; rw [e]
      rw [bR_none acc x (by omega) e, bind_ret, er, List.append_nil]
      rfl
    | some t =>
      have er : rd (n + 1) s = (t :: (rd n (s.drop (frame t).length)).1, (rd n (s.drop (frame t).length)).2) := by
        conv => lhs; unfold rd
        rw [e]
      have f1 := frame_pos t
      rw [bR_some acc x (by omega) e (by omega), bind_ret]
      show whN _ bR (n + 1) _ = _
      rw [loop_read n _ (acc ++ [t]) _ (by rw [List.length_drop]; omega) (by simp; omega), er]
      simp
theorem r_read {s : List Nat} (h : s.length ≤ 100000) (S : Option Bag) : F_read_frames [.d (tx s)] S = some (.ok (.d (resD (rd s.length s).1 (rd s.length s).2)), S) := by
  have e := congrFun (loop_read s.length s [] none (Nat.le_refl _) (by simp; omega)) S
  have e2 : whD (eTr pyTruth (eC (.bool true))) bR [some (.d (tx s)), some (.own []), none] S = some (.ok (.rt (.d (resD (rd s.length s).1 (rd s.length s).2))), S) := whD_of e
  have e3 : m_read_frames [some (.d (tx s)), none, none] = whD (eTr pyTruth (eC (.bool true))) bR [some (.d (tx s)), some (.own []), none] := rfl
  show M.bind (m_read_frames [some (.d (tx s)), none, none]) _ S = _
  rw [e3, M.bind_eq, e2]
  rfl
/-! ### the law's own -/
noncomputable def bL : DE → M Ctl := (sSeq (sSet 3 (eDat (eCall (onlyN 1 F_law_first_text) (asD (eSl pySl (eVar 0) (ptSome (eVar 2)) ptNone) asNil)))) (sSeq (sIf (eTr asB (eOp pyIsN (eVar 3) (eC .none))) (sRet (eTup (aCons (eTupV 1) (aCons (eOp pySub (eCl (on1 pyLen) (aCons (eVar 0) aNil)) (eVar 2)) aNil)))) sNil) (sSeq (sApp 1 (eVar 3)) (sAug 2 pyIAdd (eCl (on1 pyLen) (aCons (eDat (eCall (onlyN 1 F_law_framed) (asD (eVar 3) asNil))) aNil))))))
def tL : DE → M Bool := (eTr asB (eOp pyLt (eVar 2) (eCl (on1 pyLen) (aCons (eVar 0) aNil))))
theorem bL_none {s : List Nat} {k : Nat} (acc : List (List Nat)) (x : Option Sl) (h : s.length ≤ 1000000) (hk : k ≤ s.length) (e : ft (s.drop k) = none) : bL [some (.d (tx s)), some (.own (acc.map tx)), some (.d (.int k)), x] = M.ret (.rt (.d (resD acc (s.drop k).length))) := by
  have hd : (s.drop k).length ≤ 1000000 := by rw [List.length_drop]; omega
  have e1 := r_law_first_text hd
  have e2 : pyLen (tx s) = some (.int (s.length : Nat)) := tx_len (by omega)
  have e3 : pyIsN (optD none) .none = some (.bool true) := rfl
  have e4 : pySl (tx s) (some (k : Nat)) none = some (tx (s.drop k)) := tx_from _ (by omega)
  have e5 : pySub (.int (s.length : Nat)) (.int (k : Nat)) = some (.int ((s.drop k).length : Nat)) := by
    show some (PyData.int ((s.length : Int) - (k : Int))) = _
    rw [List.length_drop]
    congr 2
    omega
  rw [e] at e1
  simp only [bL, runF, sRet, sRetO, sRetR, sSeq, sIf, sSet, sSetO, sPar, sParO, sAug, sApp, sNil, eOp, eUn, eCl, eClO, eTr, eC, eVar, eFrz, eLst, eTup, eTupV, eSl, ptNone, ptSome, eSm, asB, asI, asS, eAnd, eOr, eNotT, eAndT, eOrT, eIf, eCh, eDat, eCall, onlyN, asD, asNil, asBag, isBag, aCons, aNil, on1, on1L, getOwn, bind_ret, bind_lift, Pd.bind_assoc, lift_ret, lit_0, lit_1, lit_2, lit_3, lit_4, lit_5, lit_6, lit_7, lit_8, lit_9, lit_10, lit_11, lit_12, lit_13, lit_14, lit_15, lit_16, lit_17, lit_18, lit_19, lit_20, lit_21, lit_22, lit_23, lit_24, lit_25, lit_26, List.map_cons, List.map_nil, List.length_cons, List.length_nil, List.getElem?_cons_zero, List.getElem?_cons_succ, List.set, if_true, Option.map_some, e4, e1, e2, e3, e5]
  rfl
theorem bL_some {s t : List Nat} {k : Nat} (acc : List (List Nat)) (x : Option Sl) (h : s.length ≤ 1000000) (hk : k ≤ s.length) (e : ft (s.drop k) = some t) (ha : acc.length < 16777216) :
    bL [some (.d (tx s)), some (.own (acc.map tx)), some (.d (.int k)), x] = M.ret (.nx [some (.d (tx s)), some (.own ((acc ++ [t]).map tx)), some (.d (.int ((k + (frame t).length : Nat) : Int))), some (.d (tx t))]) := by
  have hd : (s.drop k).length ≤ 1000000 := by rw [List.length_drop]; omega
  have e1 := r_law_first_text hd
  obtain ⟨f1, f2, f3, f4, f5⟩ := ft_some e
  have e2 : pyLen (tx (frame t)) = some (.int ((frame t).length : Nat)) := tx_len (by omega)
  have e3 : pyIsN (optD (some t)) .none = some (.bool false) := rfl
  have e4 := r_law_framed (t := t) (by omega)
  have e5 : pySl (tx s) (some (k : Nat)) none = some (tx (s.drop k)) := tx_from _ (by omega)
  have e6 : pyIAdd (.int (k : Nat)) (.int ((frame t).length : Nat)) = some (.int ((k + (frame t).length : Nat) : Int)) := rfl
  rw [e] at e1
  simp only [bL, runF, sRet, sRetO, sRetR, sSeq, sIf, sSet, sSetO, sPar, sParO, sAug, sApp, sNil, eOp, eUn, eCl, eClO, eTr, eC, eVar, eFrz, eLst, eTup, eTupV, eSl, ptNone, ptSome, eSm, asB, asI, asS, eAnd, eOr, eNotT, eAndT, eOrT, eIf, eCh, eDat, eCall, onlyN, asD, asNil, asBag, isBag, aCons, aNil, on1, on1L, getOwn, bind_ret, bind_lift, Pd.bind_assoc, lift_ret, lit_0, lit_1, lit_2, lit_3, lit_4, lit_5, lit_6, lit_7, lit_8, lit_9, lit_10, lit_11, lit_12, lit_13, lit_14, lit_15, lit_16, lit_17, lit_18, lit_19, lit_20, lit_21, lit_22, lit_23, lit_24, lit_25, lit_26, List.map_cons, List.map_nil, List.length_cons, List.length_nil, List.getElem?_cons_zero, List.getElem?_cons_succ, List.set, if_true, Bool.false_eq_true, if_false, Option.map_some, e5, e1, e3]
  simp only [optD, e4, List.length_map, ha, if_true, bind_ret, bind_lift, e2, e6, Option.map_some, List.getElem?_cons_zero, List.getElem?_cons_succ, List.set, List.map_append, List.map_cons, List.map_nil]
theorem tL_eq {s : List Nat} {k : Nat} (o x : Option Sl) (h : s.length ≤ 1000000) : tL [some (.d (tx s)), o, some (.d (.int k)), x] = M.ret (decide (k < s.length)) := by
  have e2 : pyLen (tx s) = some (.int (s.length : Nat)) := tx_len (by omega)
  have e3 : pyLt (.int (k : Nat)) (.int (s.length : Nat)) = some (.bool (decide (k < s.length))) := by
    show some (PyData.bool (decide ((k : Int) < (s.length : Int)))) = _
    congr 2
    exact decide_eq_decide.mpr (by omega)
  simp only [tL, runF, sRet, sRetO, sRetR, sSeq, sIf, sSet, sSetO, sPar, sParO, sAug, sApp, sNil, eOp, eUn, eCl, eClO, eTr, eC, eVar, eFrz, eLst, eTup, eTupV, eSl, ptNone, ptSome, eSm, asB, asI, asS, eAnd, eOr, eNotT, eAndT, eOrT, eIf, eCh, eDat, eCall, onlyN, asD, asNil, asBag, isBag, aCons, aNil, on1, on1L, getOwn, bind_ret, bind_lift, Pd.bind_assoc, lift_ret, List.getElem?_cons_zero, List.getElem?_cons_succ, e2, e3]
def endL (s : List Nat) (ts : List (List Nat)) (k : Nat) (c : Ctl) : Prop := c = .rt (.d (resD ts k)) ∨ ∃ x y, k = 0 ∧ c = .nx [some (.d (tx s)), some (.own (ts.map tx)), x, y]
theorem loop_law : ∀ (n : Nat) (s : List Nat) (k : Nat) (acc : List (List Nat)) (x : Option Sl), k ≤ s.length → s.length ≤ k + n → acc.length + n ≤ 1000000 → s.length ≤ 1000000 →
    ∃ c, whN tL bL (n + 1) [some (.d (tx s)), some (.own (acc.map tx)), some (.d (.int k)), x] = M.ret c ∧ endL s (acc ++ (rd n (s.drop k)).1) (rd n (s.drop k)).2 c
  | n, s, k, acc, x, hk, hl, ha, hs => by
    by_cases c : k < s.length
    · have hst : ∀ m, whN tL bL (m + 1) [some (.d (tx s)), some (.own (acc.map tx)), some (.d (.int k)), x] = M.bind (bL [some (.d (tx s)), some (.own (acc.map tx)), some (.d (.int k)), x]) (loopD (whN tL bL m)) := fun m => by
        show M.bind (tL _) (fun b => if b = true then M.bind (bL _) (loopD (whN tL bL m)) else _) = _
        rw [tL_eq _ _ hs, bind_ret, decide_eq_true c, if_pos rfl]
      cases n with
      | zero => omega
      | succ n =>
        rw [hst]
        cases e : ft (s.drop k) with
        | none =>
          have er : rd (n + 1) (s.drop k) = ([], (s.drop k).length) := by unfold rd; rw [e]
          rw [bL_none acc x hs hk e, bind_ret, er, List.append_nil]
          exact ⟨_, rfl, .inl rfl⟩
        | some t =>
          have er : rd (n + 1) (s.drop k) = (t :: (rd n ((s.drop k).drop (frame t).length)).1, (rd n ((s.drop k).drop (frame t).length)).2) := by
            conv => lhs; unfold rd
            rw [e]
          have f1 := frame_pos t
          obtain ⟨_, _, f3, _⟩ := ft_some e
          rw [List.length_drop] at f3
          rw [bL_some acc x hs hk e (by omega), bind_ret]
          obtain ⟨c', h1, h2⟩ := loop_law n s (k + (frame t).length) (acc ++ [t]) (some (.d (tx t))) (by omega) (by omega) (by simp; omega) hs
          refine ⟨c', h1, ?_⟩
          rw [er, List.drop_drop]
          simpa using h2
    · have hk' : k = s.length := by omega
      have hd : s.drop k = [] := by rw [hk', List.drop_length]
      have er : rd n (s.drop k) = ([], 0) := by
        rw [hd]
        cases n with
        | zero => rfl
        | succ n => unfold rd; rw [ft_nil]; rfl
      refine ⟨.nx [some (.d (tx s)), some (.own (acc.map tx)), some (.d (.int k)), x], ?_, .inr ⟨_, _, by rw [er], by rw [er, List.append_nil]⟩⟩
      show M.bind (tL _) (fun b => if b = true then M.bind (bL _) (loopD (whN tL bL n)) else _) = _
      rw [tL_eq _ _ hs, bind_ret, decide_eq_false c, if_neg (by decide)]
theorem r_law_read {s : List Nat} (h : s.length ≤ 100000) (S : Option Bag) : F_law_read [.d (tx s)] S = some (.ok (.d (resD (rd s.length s).1 (rd s.length s).2)), S) := by
  obtain ⟨c, e, hc⟩ := loop_law s.length s 0 [] none (Nat.zero_le _) (by omega) (by simp; omega) (by omega)
  rw [List.drop_zero, List.nil_append] at hc
  have e2 : whD tL bL [some (.d (tx s)), some (.own []), some (.d (.int 0)), none] S = some (.ok c, S) := whD_of (congrFun e S)
  have e3 : m_law_read [some (.d (tx s)), none, none, none] = M.bind (whD tL bL [some (.d (tx s)), some (.own []), some (.d (.int 0)), none]) (fun c => match c with | .nx δ1 => (sRet (eTup (aCons (eTupV 1) (aCons (eC (.int 0)) aNil)))) δ1 | c => M.ret c) := rfl
  show M.bind (m_law_read [some (.d (tx s)), none, none, none]) _ S = _
  rw [e3, M.bind_eq, M.bind_eq, e2]
  rcases hc with rfl | ⟨x, y, e4, rfl⟩
  · rfl
  · rw [e4]; rfl
end K56
namespace K56
open PySem PySem.Spec PyProof.Rows L2 Pd
theorem asRg_nat {k : Nat} (h : k ≤ 1000000) : asRg (k : Int) = some (k : Int) := by
  unfold asRg
  exact if_pos ⟨by omega, by omega⟩
theorem rg1_nat {k : Nat} (h : k ≤ 1000000) : rg1 [PyData.int (k : Int)] = some (rangeD 0 k) := by
  show (asRg (k : Int)).map (fun n => rangeD 0 n.toNat) = _
  rw [asRg_nat h, Option.map_some, Int.toNat_natCast]
theorem t_take : F_law_take = fTake := rfl
theorem t_some : F_law_some = fSome := rfl
theorem t_alike : F_law_alike = fAlike := rfl
structure Tx (n : Nat) (t : List Nat) : Prop where
  len : t.length ≤ n
  cs : ∀ c ∈ t, c < 1114112
theorem Tx.mono {m n : Nat} {t : List Nat} (h : Tx m t) (q : m ≤ n) : Tx n t := ⟨Nat.le_trans h.len q, h.cs⟩
theorem Tx.app {m n : Nat} {t u : List Nat} (h : Tx m t) (q : Tx n u) : Tx (m + n) (t ++ u) := ⟨by have := h.len; have := q.len; simp; omega, fun c hc => (List.mem_append.mp hc).elim (h.cs c) (q.cs c)⟩
theorem Tx.take {m : Nat} {t : List Nat} (h : Tx m t) (n : Nat) : Tx m (t.take n) := ⟨by have := h.len; simp; omega, fun c hc => h.cs c (List.mem_of_mem_take hc)⟩
theorem Tx.drop {m : Nat} {t : List Nat} (h : Tx m t) (n : Nat) : Tx m (t.drop n) := ⟨by have := h.len; simp; omega, fun c hc => h.cs c (List.mem_of_mem_drop hc)⟩
theorem oneTx {ls : List (List Nat)} {n : Nat} (h0 : 0 < ls.length) (h1 : ls.length ≤ 1000) (ht : ∀ l ∈ ls, Tx n l) : Tr (fSome [.bag, .d (.list (ls.map tx))]) fun s => ∃ l ∈ ls, s = .d (tx l) ∧ Tx n l := by
  refine Tr.mono (Tr.oneOf (by simpa using h0) (by simp; omega)) ?_
  rintro _ ⟨d, hd, rfl⟩
  obtain ⟨l, hl, rfl⟩ := List.mem_map.mp hd
  exact ⟨l, hl, rfl, ht l hl⟩
def sorts : List (List Nat) := [[97, 98], [48, 49, 50, 51, 52, 53, 54, 55, 56, 57, 58, 59], [32, 126], [97, 98, 99, 47, 58, 59], [120, 121, 122, 32, 100, 111, 110, 101]]
theorem singles (l : List Nat) (n : Nat) : (l.map fun c => [c]).map tx = l.map fun c => tx [c] := by rw [List.map_map]; rfl
theorem tr_text {m : Nat} (hm : m ≤ 200) : Tr (F_law_text [.bag, .d (.int m)]) fun s => ∃ t, s = .d (tx t) ∧ Tx 200 t := by
  have e1 : pyAdd (.int (m : Nat)) (.int 1) = some (.int ((m + 1 : Nat) : Int)) := rfl
  simp only [F_law_text, m_law_text, runF, sRet, sRetO, sRetR, sSeq, sIf, sSet, sSetO, sPar, sParO, sAug, sApp, sNil, eOp, eUn, eCl, eClO, eTr, eC, eVar, eFrz, eLst, eTup, eTupV, eSl, ptNone, ptSome, eSm, asB, asI, asS, eAnd, eOr, eNotT, eAndT, eOrT, eIf, eCh, eDat, eCall, onlyN, asD, asNil, asBag, isBag, aCons, aNil, on1, on1L, getOwn, bind_ret, bind_lift, Pd.bind_assoc, lift_ret, lit_0, lit_1, lit_2, lit_3, lit_4, lit_5, lit_6, lit_7, lit_8, lit_9, lit_10, lit_11, lit_12, lit_13, lit_14, lit_15, lit_16, lit_17, lit_18, lit_19, lit_20, lit_21, lit_22, lit_23, lit_24, lit_25, lit_26, eLc, iRg1, List.map_cons, List.map_nil, List.length_cons, List.length_nil, List.replicate, List.cons_append, List.nil_append, List.getElem?_cons_zero, List.getElem?_cons_succ, List.set, if_true, t_take, t_some, e1, Nat.reduceAdd, Nat.reduceLeDiff]
  refine Tr.bind (m := fSome [.bag, .d (.list (sorts.map tx))]) (oneTx (n := 12) (ls := sorts) (by decide) (by decide) (fun l hl => ?_)) ?_
  · have : ∀ l ∈ sorts, l.length ≤ 12 ∧ ∀ c ∈ l, c < 1114112 := by decide
    exact ⟨(this l hl).1, (this l hl).2⟩
  rintro _ ⟨l, hl, rfl, hx⟩
  have hl0 : 0 < l.length := by
    have : ∀ l ∈ sorts, 0 < l.length := by decide
    exact this l hl
  simp only [bind_ret, bind_lift, Pd.bind_assoc, List.getElem?_cons_zero, List.getElem?_cons_succ, List.set]
  refine Tr.bind (Tr.take (k := ((m + 1 : Nat) : Int)) (by omega) (by omega)) ?_
  rintro _ ⟨i, rfl, hi0, hi1⟩
  obtain ⟨k, rfl⟩ := Int.eq_ofNat_of_zero_le hi0
  have hk : k ≤ 200 := by omega
  have e2 : rg1 [PyData.int (k : Int)] = some (rangeD 0 k) := rg1_nat (by omega)
  have hr : (rangeD 0 k).length = k := by simp [rangeD]
  simp only [bind_ret, bind_lift, Pd.bind_assoc, e2]
  refine Tr.bind (Tr.lc (P := fun d => ∃ t, d = tx t ∧ Tx 1 t) _ [] (fun x hx' => ⟨_, rfl, ?_⟩) (by rw [hr, List.length_nil]; omega)) ?_
  · have e3 : pyListS (tx l) = some (l.map fun c => tx [c]) := by
      show (if (SX.S l).length ≤ 16777216 then some (signsOf (SX.S l)) else none) = _
      have := hx.len
      rw [SX.S_len, if_pos (by omega)]; rfl
    simp only [wipeD, gN, runF, sRet, sRetO, sRetR, sSeq, sIf, sSet, sSetO, sPar, sParO, sAug, sApp, sNil, eOp, eUn, eCl, eClO, eTr, eC, eVar, eFrz, eLst, eTup, eTupV, eSl, ptNone, ptSome, eSm, asB, asI, asS, eAnd, eOr, eNotT, eAndT, eOrT, eIf, eCh, eDat, eCall, onlyN, asD, asNil, asBag, isBag, aCons, aNil, on1, on1L, getOwn, bind_ret, bind_lift, Pd.bind_assoc, lift_ret, List.getElem?_cons_zero, List.getElem?_cons_succ, List.set, List.length_cons, List.length_nil, if_true, e3]
    rw [← singles l 0]
    refine Tr.bind (oneTx (n := 1) (by simpa using hl0) (by have := hx.len; simp; omega) (fun z hz => ?_)) ?_
    · obtain ⟨c, hc, rfl⟩ := List.mem_map.mp hz
      exact ⟨by simp, fun y hy => by rw [List.mem_singleton.mp hy]; exact hx.cs c hc⟩
    · rintro _ ⟨z, hz, rfl, hz1⟩
      exact Tr.ret ⟨z, rfl, hz1⟩
  · rintro ds ⟨ys, hds, hly, hys⟩
    rw [List.nil_append] at hds
    subst hds
    have hall : ∀ ys : List D, (∀ y ∈ ys, ∃ t, y = tx t ∧ Tx 1 t) → ∃ ts : List (List Nat), ys = ts.map tx ∧ Tx ys.length ts.flatten := by
      intro ys
      induction ys with
      | nil => exact fun _ => ⟨[], rfl, by simp, by simp⟩
      | cons y ys ih =>
        intro h
        obtain ⟨t, rfl, ht⟩ := h y List.mem_cons_self
        obtain ⟨ts, rfl, hts⟩ := ih fun z hz => h z (List.mem_cons_of_mem _ hz)
        refine ⟨t :: ts, rfl, ?_⟩
        have := ht.app hts
        rw [List.flatten_cons, List.length_cons, Nat.add_comm]
        exact this
    obtain ⟨ts, rfl, hts⟩ := hall ds hys
    rw [hly, hr] at hts
    have e4 := tx_join (l := ts) (by have := hts.len; omega)
    simp only [List.nil_append, bind_ret, bind_lift, Pd.bind_assoc, e4]
    exact Tr.ret ⟨_, rfl, hts.mono hk⟩
end K56
namespace K56
open PySem PySem.Spec PyProof.Rows L2 Pd
def bits1 : List (List Nat) := [[124], [58], [59], [10], [48], [55], [32], [124, 48, 58, 59, 48, 48, 48, 10], [97], [233], [9]]
def bits2 : List (List Nat) := [[124], [124, 49], [124, 50, 48, 49, 58], [124, 49, 58, 97, 59, 48, 57, 55], [124, 48, 49, 58, 97, 59, 48, 57, 55, 10], [124, 49, 58, 97, 59, 57, 55, 10], [124, 49, 58, 124, 59, 49, 50, 52, 10], [124, 48, 58, 59, 48, 48, 48, 10], [124, 43, 49, 58, 97, 59, 48, 57, 55, 10], [124, 49, 58, 10, 59, 48, 49, 48, 10]]
theorem tx_of (ls : List (List Nat)) (h : (ls.all fun l => decide (l.length ≤ 12) && l.all fun c => decide (c < 1114112)) = true) : ∀ l ∈ ls, Tx 12 l := fun l hl => by
  have := List.all_eq_true.mp h l hl
  simp only [Bool.and_eq_true, decide_eq_true_eq, List.all_eq_true] at this
  exact ⟨this.1, this.2⟩
theorem tr_bent {s : List Nat} (hs : Tx 10000 s) : Tr (F_law_bent [.bag, .d (tx s)]) fun x => ∃ t, x = .d (tx t) ∧ Tx (s.length + 12) t := by
  have hl := hs.len
  have hx : Tx s.length s := ⟨Nat.le_refl _, hs.cs⟩
  have e0 : pyLen (tx s) = some (.int (s.length : Nat)) := tx_len (by omega)
  have e1 : ∀ n : Nat, pyAdd (.int (n : Int)) (.int 1) = some (.int ((n + 1 : Nat) : Int)) := fun n => rfl
  have ea : ∀ a b : Nat, pyAdd (.int (a : Int)) (.int (b : Int)) = some (.int ((a + b : Nat) : Int)) := fun a b => rfl
  have eq : ∀ a b : Nat, pyEq (.int (a : Int)) (.int (b : Int)) = some (.bool (decide (a = b))) := fun a b => by
    show some (PyData.bool (((a : Int)) == (b : Int))) = _
    congr 2
    rw [Bool.eq_iff_iff, beq_iff_eq, decide_eq_true_eq]; omega
  have ec : pyChr (.int 233) = some (tx [233]) := tx_chr (n := 233) (by decide)
  have eto : ∀ n : Nat, pySl (tx s) none (some (n : Int)) = some (tx (s.take n)) := fun n => tx_to n (by omega)
  have efr : ∀ n : Nat, pySl (tx s) (some (n : Int)) none = some (tx (s.drop n)) := fun n => tx_from n (by omega)
  have hfin : ∀ {t : List Nat} {n : Nat}, Tx n t → n ≤ s.length + 12 → Tr (M.ret (Sl.d (tx t))) fun x => ∃ t, x = .d (tx t) ∧ Tx (s.length + 12) t := fun h q => Tr.ret ⟨_, rfl, h.mono q⟩
  simp only [F_law_bent, m_law_bent, runF, sRet, sRetO, sRetR, sSeq, sIf, sSet, sSetO, sPar, sParO, sAug, sApp, sNil, eOp, eUn, eCl, eClO, eTr, eC, eVar, eFrz, eLst, eTup, eTupV, eSl, ptNone, ptSome, eSm, asB, asI, asS, eAnd, eOr, eNotT, eAndT, eOrT, eIf, eCh, eDat, eCall, onlyN, asD, asNil, asBag, isBag, aCons, aNil, on1, on1L, getOwn, bind_ret, bind_lift, Pd.bind_assoc, lift_ret, lit_0, lit_1, lit_2, lit_3, lit_4, lit_5, lit_6, lit_7, lit_8, lit_9, lit_10, lit_11, lit_12, lit_13, lit_14, lit_15, lit_16, lit_17, lit_18, lit_19, lit_20, lit_21, lit_22, lit_23, lit_24, lit_25, lit_26, List.map_cons, List.map_nil, List.length_cons, List.length_nil, List.replicate, List.cons_append, List.nil_append, List.getElem?_cons_zero, List.getElem?_cons_succ, List.set, if_true, t_take, t_some, e0, e1, ec, Nat.reduceAdd, Nat.reduceLeDiff]
  refine Tr.bind (Tr.take (k := ((s.length + 1 : Nat) : Int)) (by omega) (by omega)) ?_
  rintro _ ⟨i, rfl, hi0, hi1⟩
  obtain ⟨a, rfl⟩ := Int.eq_ofNat_of_zero_le hi0
  have ha : a ≤ s.length := by omega
  simp only [bind_ret, bind_lift, Pd.bind_assoc]
  refine Tr.bind (Tr.take (k := 7) (by decide) (by decide)) ?_
  rintro _ ⟨i, rfl, hi0, hi1⟩
  obtain ⟨w, rfl⟩ := Int.eq_ofNat_of_zero_le hi0
  have eq0 := eq w 0
  have eq1 := eq w 1
  have eq2 := eq w 2
  have eq3 := eq w 3
  have eq4 := eq w 4
  simp only [Int.ofNat_eq_natCast, Int.cast_ofNat_Int, Int.natCast_zero, Int.natCast_one] at eq0 eq1 eq2 eq3 eq4
  simp only [bind_ret, bind_lift, Pd.bind_assoc, eq0, List.getElem?_cons_zero, List.getElem?_cons_succ, List.set]
  by_cases w0 : w = 0
  · simp only [w0, decide_true, if_true, bind_ret, bind_lift, Pd.bind_assoc, eto, efr, List.getElem?_cons_zero, List.getElem?_cons_succ, List.set, Option.map_some]
    refine Tr.bind (m := fSome [.bag, .d (.list (bits1.map tx))]) (oneTx (n := 12) (ls := bits1) (by decide) (by decide) (tx_of _ (by decide))) ?_
    rintro _ ⟨l, hl', rfl, hl2⟩
    have l1 := hl2.len
    have l2 : (s.take a).length = a := by rw [List.length_take]; omega
    have l3 : (s.drop a).length = s.length - a := List.length_drop
    have e5 := tx_add (a := s.take a) (b := l) (by omega)
    have e6 := tx_add (a := s.take a ++ l) (b := s.drop a) (by rw [List.length_append]; omega)
    simp only [bind_ret, bind_lift, Pd.bind_assoc, e5, e6, Option.map_some]
    refine Tr.ret ⟨_, rfl, ⟨?_, fun c hc => ?_⟩⟩
    · rw [List.length_append, List.length_append]; omega
    · rcases List.mem_append.mp hc with hc | hc
      · exact ((hx.take a).app hl2).cs c hc
      · exact (hx.drop a).cs c hc
  simp only [w0, decide_false, Bool.false_eq_true, if_false, bind_ret, bind_lift, Pd.bind_assoc, eq1, List.getElem?_cons_zero, List.getElem?_cons_succ, List.set]
  by_cases w1 : w = 1
  · simp only [w1, decide_true, if_true, bind_ret, bind_lift, Pd.bind_assoc, eto, e1, List.getElem?_cons_zero, List.getElem?_cons_succ, List.set, Option.map_some]
    refine Tr.bind (Tr.take (k := 4) (by decide) (by decide)) ?_
    rintro _ ⟨i, rfl, hi0, hi1⟩
    obtain ⟨b, rfl⟩ := Int.eq_ofNat_of_zero_le hi0
    have e5 := tx_add (a := s.take a) (b := s.drop (a + 1 + b)) (by rw [List.length_take, List.length_drop]; omega)
    simp only [bind_ret, bind_lift, Pd.bind_assoc, ea, efr, e5, Option.map_some]
    refine Tr.ret ⟨_, rfl, ⟨?_, fun c hc => ?_⟩⟩
    · rw [List.length_append, List.length_take, List.length_drop]; omega
    · rcases List.mem_append.mp hc with hc | hc
      · exact (hx.take a).cs c hc
      · exact (hx.drop _).cs c hc
  simp only [w1, decide_false, Bool.false_eq_true, if_false, bind_ret, bind_lift, Pd.bind_assoc, eq2, List.getElem?_cons_zero, List.getElem?_cons_succ, List.set]
  by_cases w2 : w = 2
  · simp only [w2, decide_true, if_true, bind_ret, bind_lift, Pd.bind_assoc, eto, List.getElem?_cons_zero, List.getElem?_cons_succ, List.set, Option.map_some]
    exact hfin (hx.take a) (by omega)
  simp only [w2, decide_false, Bool.false_eq_true, if_false, bind_ret, bind_lift, Pd.bind_assoc, eq3, List.getElem?_cons_zero, List.getElem?_cons_succ, List.set]
  by_cases w3 : w = 3
  · simp only [w3, decide_true, if_true, bind_ret, bind_lift, Pd.bind_assoc, efr, List.getElem?_cons_zero, List.getElem?_cons_succ, List.set, Option.map_some]
    exact hfin (hx.drop a) (by omega)
  simp only [w3, decide_false, Bool.false_eq_true, if_false, bind_ret, bind_lift, Pd.bind_assoc, eq4, List.getElem?_cons_zero, List.getElem?_cons_succ, List.set]
  by_cases w4 : w = 4
  · have e7 : pyListS (tx [124, 58, 59, 48, 49, 50, 57, 97, 32, 10]) = some (([124, 58, 59, 48, 49, 50, 57, 97, 32, 10].map fun c => [c]).map tx) := rfl
    simp only [w4, decide_true, if_true, bind_ret, bind_lift, Pd.bind_assoc, eto, efr, e7, e1, List.getElem?_cons_zero, List.getElem?_cons_succ, List.set, Option.map_some]
    refine Tr.bind (oneTx (n := 12) (by decide) (by decide) (tx_of _ (by decide))) ?_
    rintro _ ⟨l, hl', rfl, hl2⟩
    have l1 := hl2.len
    have l2 : (s.take a).length = a := by rw [List.length_take]; omega
    have l3 : (s.drop (a + 1)).length = s.length - (a + 1) := List.length_drop
    have e5 := tx_add (a := s.take a) (b := l) (by omega)
    have e6 := tx_add (a := s.take a ++ l) (b := s.drop (a + 1)) (by rw [List.length_append]; omega)
    simp only [bind_ret, bind_lift, Pd.bind_assoc, e5, e6, efr, e1, Option.map_some]
    refine Tr.ret ⟨_, rfl, ⟨?_, fun c hc => ?_⟩⟩
    · rw [List.length_append, List.length_append]; omega
    · rcases List.mem_append.mp hc with hc | hc
      · exact ((hx.take a).app hl2).cs c hc
      · exact (hx.drop _).cs c hc
  simp only [w4, decide_false, Bool.false_eq_true, if_false, bind_ret, bind_lift, Pd.bind_assoc, List.getElem?_cons_zero, List.getElem?_cons_succ, List.set]
  refine Tr.bind (m := fSome [.bag, .d (.list (bits2.map tx))]) (oneTx (n := 12) (ls := bits2) (by decide) (by decide) (tx_of _ (by decide))) ?_
  rintro _ ⟨l, hl', rfl, hl2⟩
  have l1 := hl2.len
  have e5 := tx_add (a := s) (b := l) (by omega)
  simp only [bind_ret, bind_lift, Pd.bind_assoc, e5]
  exact hfin (hx.app hl2) (by omega)
end K56
namespace K56
open PySem PySem.Spec PyProof.Rows L2 Pd
theorem Tr.forD {t : D → DE → Option DE} {body : DE → M Ctl} {I : DE → Prop} : ∀ (xs : List D) (δ : DE), I δ → (∀ x ∈ xs, ∀ δ, I δ → ∃ δ1, t x δ = some δ1 ∧ Tr (body δ1) fun c => ∃ δ2, c = .nx δ2 ∧ I δ2) → Tr (Pd.forD t body xs δ) fun c => ∃ δ2, c = .nx δ2 ∧ I δ2
  | [], δ, h, _ => Tr.ret ⟨δ, rfl, h⟩
  | x :: xs, δ, h, hb => by
    obtain ⟨δ1, e1, e2⟩ := hb x List.mem_cons_self δ h
    show Tr (M.bind (M.lift (t x δ)) fun δ1 => M.bind (body δ1) (loopD (Pd.forD t body xs))) _
    rw [e1, bind_lift]
    refine Tr.bind e2 ?_
    rintro _ ⟨δ2, rfl, h2⟩
    exact Tr.forD xs δ2 h2 fun y hy => hb y (List.mem_cons_of_mem _ hy)
/-! ### what the readers tell is small -/
theorem rd_small : ∀ (n : Nat) (s : List Nat), (rd n s).1.length ≤ s.length ∧ (rd n s).2 ≤ s.length ∧ ∀ t ∈ (rd n s).1, Tx 200 t
  | 0, s => ⟨Nat.zero_le _, Nat.le_refl _, fun t ht => (List.not_mem_nil ht).elim⟩
  | n + 1, s => by
    cases e : ft s with
    | none =>
      have er : rd (n + 1) s = ([], s.length) := by unfold rd; rw [e]
      rw [er]
      exact ⟨Nat.zero_le _, Nat.le_refl _, fun t ht => (List.not_mem_nil ht).elim⟩
    | some t =>
      have er : rd (n + 1) s = (t :: (rd n (s.drop (frame t).length)).1, (rd n (s.drop (frame t).length)).2) := by
        conv => lhs; unfold rd
        rw [e]
      obtain ⟨h1, h2, h3⟩ := rd_small n (s.drop (frame t).length)
      obtain ⟨f1, f2, f3, f4, f5⟩ := ft_some e
      have fp := frame_pos t
      rw [List.length_drop] at h1 h2
      rw [er]
      refine ⟨by rw [List.length_cons]; omega, by show (rd n _).2 ≤ _; omega, fun u hu => ?_⟩
      rcases List.mem_cons.mp hu with rfl | hu
      · refine ⟨f4, fun c hc => ?_⟩
        have := List.all_eq_true.mp f5 c hc
        simp at this
        omega
      · exact h3 u hu
theorem okD_tx {h n : Nat} {t : List Nat} (x : Tx n t) : OkD h (10 * n + 2) (tx t) := (okD_str t x.cs).mono (Nat.le_refl _) (by have := x.len; omega)
theorem okD_res {s : List Nat} (h : s.length ≤ 1000) : OkD 2 4016030 (resD (rd s.length s).1 (rd s.length s).2) := by
  obtain ⟨h1, h2, h3⟩ := rd_small s.length s
  have o1 : OkD 1 (3 + ((rd s.length s).1.map tx).length * (2002 + 2)) (.tuple ((rd s.length s).1.map tx)) := okD_tuple fun d hd => by
    obtain ⟨t, ht, rfl⟩ := List.mem_map.mp hd
    exact okD_tx (h3 t ht)
  rw [List.length_map] at o1
  have o2 : OkD 1 12 (.int (rd s.length s).2) := okD_nat _ (by omega)
  refine (okD_tuple (h := 1) (n := 2004003) (ds := [.tuple ((rd s.length s).1.map tx), .int (rd s.length s).2]) fun d hd => ?_).mono (Nat.le_refl _) (by simp)
  rcases List.mem_cons.mp hd with rfl | hd
  · refine o1.mono (Nat.le_refl _) ?_
    have : (rd s.length s).1.length * (2002 + 2) ≤ 1000 * (2002 + 2) := Nat.mul_le_mul_right _ (by omega)
    omega
  · rw [List.mem_singleton.mp hd]
    exact o2.mono (Nat.le_refl _) (by decide)
/-! ### one turn -/
theorem read_twice {s : List Nat} (h : s.length ≤ 1000) : Tr (fAlike [.d (.list [resD (rd s.length s).1 (rd s.length s).2, resD (rd s.length s).1 (rd s.length s).2]), .d (.list [resD (rd s.length s).1 (rd s.length s).2, resD (rd s.length s).1 (rd s.length s).2])]) fun x => x = .d (.bool true) :=
  Tr.alike (okD_list (h := 2) (n := 4016030) fun d hd => by
    rcases List.mem_cons.mp hd with rfl | hd
    · exact okD_res h
    · rw [List.mem_singleton.mp hd]; exact okD_res h) (by decide) (by simp)
theorem r_read' {s : List Nat} (h : s.length ≤ 1000) : F_read_frames [.d (tx s)] = M.ret (.d (resD (rd s.length s).1 (rd s.length s).2)) := funext fun S => r_read (by omega) S
theorem r_law_read' {s : List Nat} (h : s.length ≤ 1000) : F_law_read [.d (tx s)] = M.ret (.d (resD (rd s.length s).1 (rd s.length s).2)) := funext fun S => r_law_read (by omega) S
def Iv (δ : DE) : Prop := ∃ a b c d e f g h i j : Option Sl, δ = [none, some .bag, a, b, c, d, e, f, g, h, i, j]
noncomputable def body1 : DE → M Ctl := (sSeq (sSet 4 (eFrz (eLc (iRg1 (aCons (eDat (eCall (onlyN 2 F_law_take) (asBag 1 (asD (eC (.int 5)) asNil)))) aNil)) (gN 9) mYes (eDat (eCall (onlyN 2 F_law_text) (asBag 1 (asD (eDat (eCall (onlyN 2 F_law_some) (asBag 1 (asD (eFrz (eLst (aCons (eC (.int 3)) (aCons (eC (.int 12)) (aCons (eC (.int 0)) (aCons (eC (.int 200)) aNil)))))) asNil)))) asNil)))) [9]))) (sSeq (sIf (eNotT (eTr pyTruth (eDat (eCall (onlyN 2 F_law_alike) (asD (eFrz (eLc (iSeq (eVar 4)) (gN 11) mYes (eDat (eCall (onlyN 1 F_framed) (asD (eVar 11) asNil))) [11])) (asD (eFrz (eLc (iSeq (eVar 4)) (gN 11) mYes (eDat (eCall (onlyN 1 F_law_framed) (asD (eVar 11) asNil))) [11])) asNil)))))) (sRet (eC (.bool false))) sNil) (sSeq (sSet 5 (eSm sJoin (eC (.str (Str.ofString ""))) (aCons (eFrz (eLc (iSeq (eVar 4)) (gN 11) mYes (eDat (eCall (onlyN 1 F_law_framed) (asD (eVar 11) asNil))) [11])) aNil))) (sFor (iSeq (eTup (aCons (eVar 5) (aCons (eDat (eCall (onlyN 2 F_law_bent) (asBag 1 (asD (eVar 5) asNil)))) (aCons (eDat (eCall (onlyN 2 F_law_bent) (asBag 1 (asD (eVar 5) asNil)))) (aCons (eDat (eCall (onlyN 2 F_law_bent) (asBag 1 (asD (eDat (eCall (onlyN 2 F_law_bent) (asBag 1 (asD (eVar 5) asNil)))) asNil)))) aNil)))))) (gN 6) (sIf (eNotT (eTr pyTruth (eDat (eCall (onlyN 2 F_law_alike) (asD (eFrz (eLst (aCons (eDat (eCall (onlyN 1 F_read_frames) (asD (eVar 6) asNil))) (aCons (eDat (eCall (onlyN 1 F_read_frames) (asD (eVar 6) asNil))) aNil)))) (asD (eOp pyMul (eFrz (eLst (aCons (eDat (eCall (onlyN 1 F_law_read) (asD (eVar 6) asNil))) aNil))) (eC (.int 2))) asNil)))))) (sRet (eC (.bool false))) sNil)))))
noncomputable def body2 : DE → M Ctl := (sIf (eNotT (eTr pyTruth (eDat (eCall (onlyN 2 F_law_alike) (asD (eFrz (eLst (aCons (eDat (eCall (onlyN 1 F_read_frames) (asD (eVar 6) asNil))) (aCons (eDat (eCall (onlyN 1 F_read_frames) (asD (eVar 6) asNil))) aNil)))) (asD (eOp pyMul (eFrz (eLst (aCons (eDat (eCall (onlyN 1 F_law_read) (asD (eVar 6) asNil))) aNil))) (eC (.int 2))) asNil)))))) (sRet (eC (.bool false))) sNil)
theorem tr_body2 {x : D} {s : List Nat} (hx : x = tx s) (hs : s.length ≤ 1000) {δ : DE} (hI : Iv δ) : ∃ δ1, gN 6 x δ = some δ1 ∧ Tr (body2 δ1) fun c => ∃ δ2, c = .nx δ2 ∧ Iv δ2 := by
  subst hx
  obtain ⟨a, b, c, d, e, f, g, h, i, j, rfl⟩ := hI
  refine ⟨_, rfl, ?_⟩
  have e1 := r_read' hs
  have e2 := r_law_read' hs
  have e3 : pyMul (.list [resD (rd s.length s).1 (rd s.length s).2]) (.int 2) = some (.list [resD (rd s.length s).1 (rd s.length s).2, resD (rd s.length s).1 (rd s.length s).2]) := rfl
  simp only [body2, runF, sRet, sRetO, sRetR, sSeq, sIf, sSet, sSetO, sPar, sParO, sAug, sApp, sNil, eOp, eUn, eCl, eClO, eTr, eC, eVar, eFrz, eLst, eTup, eTupV, eSl, ptNone, ptSome, eSm, asB, asI, asS, eAnd, eOr, eNotT, eAndT, eOrT, eIf, eCh, eDat, eCall, onlyN, asD, asNil, asBag, isBag, aCons, aNil, on1, on1L, getOwn, bind_ret, bind_lift, Pd.bind_assoc, lift_ret, lit_0, lit_1, lit_2, lit_3, lit_4, lit_5, lit_6, lit_7, lit_8, lit_9, lit_10, lit_11, lit_12, lit_13, lit_14, lit_15, lit_16, lit_17, lit_18, lit_19, lit_20, lit_21, lit_22, lit_23, lit_24, lit_25, lit_26, List.map_cons, List.map_nil, List.length_cons, List.length_nil, List.getElem?_cons_zero, List.getElem?_cons_succ, List.set, if_true, t_alike, e1, e2, e3, Nat.reduceAdd, Nat.reduceLeDiff]
  refine Tr.bind (read_twice hs) ?_
  rintro _ rfl
  simp only [bind_ret, bind_lift, Pd.bind_assoc, pyTruth, Bool.not_true, Bool.false_eq_true, if_false]
  exact Tr.ret ⟨_, rfl, ⟨_, _, _, _, _, _, _, _, _, _, rfl⟩⟩
theorem frames_le : ∀ {ts : List (List Nat)}, (∀ t ∈ ts, Tx 200 t) → Tx (ts.length * 214) (ts.map frame).flatten
  | [], _ => ⟨by simp, by simp⟩
  | t :: ts, h => by
    have ih := frames_le fun x hx => h x (List.mem_cons_of_mem _ hx)
    have ht := h t List.mem_cons_self
    have hl := ht.len
    have hf := frame_len (t := t) (by omega)
    have h1 : Tx 214 (frame t) := ⟨by omega, fun c hc => by
      unfold frame at hc
      rcases List.mem_cons.mp hc with rfl | hc
      · decide
      rcases List.mem_append.mp hc with hc | hc
      · have := TL.numL_digits t.length c hc
        omega
      rcases List.mem_cons.mp hc with rfl | hc
      · decide
      rcases List.mem_append.mp hc with hc | hc
      · exact ht.cs c hc
      rcases List.mem_cons.mp hc with rfl | hc
      · decide
      rcases List.mem_append.mp hc with hc | hc
      · unfold pad3 at hc
        rcases List.mem_append.mp hc with hc | hc
        · rw [List.eq_of_mem_replicate hc]; decide
        · have := TL.numL_digits (chk t) c hc
          omega
      · rw [List.mem_singleton.mp hc]; decide⟩
    have := h1.app ih
    rw [List.map_cons, List.flatten_cons, List.length_cons, Nat.succ_mul, Nat.add_comm]
    exact this
theorem tr_body1 {x : D} {δ : DE} (hI : Iv δ) : ∃ δ1, gN 2 x δ = some δ1 ∧ Tr (body1 δ1) fun c => ∃ δ2, c = .nx δ2 ∧ Iv δ2 := by
  obtain ⟨a, b, c, d, e, f, g, h, i, j, rfl⟩ := hI
  refine ⟨_, rfl, ?_⟩
  simp only [body1, runF, sRet, sRetO, sRetR, sSeq, sIf, sSet, sSetO, sPar, sParO, sAug, sApp, sNil, eOp, eUn, eCl, eClO, eTr, eC, eVar, eFrz, eLst, eTup, eTupV, eSl, ptNone, ptSome, eSm, asB, asI, asS, eAnd, eOr, eNotT, eAndT, eOrT, eIf, eCh, eDat, eCall, onlyN, asD, asNil, asBag, isBag, aCons, aNil, on1, on1L, getOwn, bind_ret, bind_lift, Pd.bind_assoc, lift_ret, lit_0, lit_1, lit_2, lit_3, lit_4, lit_5, lit_6, lit_7, lit_8, lit_9, lit_10, lit_11, lit_12, lit_13, lit_14, lit_15, lit_16, lit_17, lit_18, lit_19, lit_20, lit_21, lit_22, lit_23, lit_24, lit_25, lit_26, eLc, iRg1, iSeq, sFor, List.map_cons, List.map_nil, List.length_cons, List.length_nil, List.getElem?_cons_zero, List.getElem?_cons_succ, List.set, if_true, t_take, t_some, t_alike, Nat.reduceAdd, Nat.reduceLeDiff]
  refine Tr.bind (Tr.take (k := 5) (by decide) (by decide)) ?_
  rintro _ ⟨i', rfl, hi0, hi1⟩
  obtain ⟨k, rfl⟩ := Int.eq_ofNat_of_zero_le hi0
  have e2 : rg1 [PyData.int (k : Int)] = some (rangeD 0 k) := rg1_nat (by omega)
  have hr : (rangeD 0 k).length = k := by simp [rangeD]
  simp only [bind_ret, bind_lift, Pd.bind_assoc, e2]
  refine Tr.bind (Tr.lc (P := fun d => ∃ t, d = tx t ∧ Tx 200 t) _ [] (fun x hx' => ⟨_, rfl, ?_⟩) (by rw [hr, List.length_nil]; omega)) ?_
  · simp only [wipeD, gN, runF, sRet, sRetO, sRetR, sSeq, sIf, sSet, sSetO, sPar, sParO, sAug, sApp, sNil, eOp, eUn, eCl, eClO, eTr, eC, eVar, eFrz, eLst, eTup, eTupV, eSl, ptNone, ptSome, eSm, asB, asI, asS, eAnd, eOr, eNotT, eAndT, eOrT, eIf, eCh, eDat, eCall, onlyN, asD, asNil, asBag, isBag, aCons, aNil, on1, on1L, getOwn, bind_ret, bind_lift, Pd.bind_assoc, lift_ret, List.getElem?_cons_zero, List.getElem?_cons_succ, List.set, List.length_cons, List.length_nil, if_true, Nat.reduceAdd, Nat.reduceLeDiff]
    refine Tr.bind (Tr.oneOf (by simp) (by simp)) ?_
    rintro _ ⟨d', hd, rfl⟩
    have : ∃ m : Nat, d' = .int m ∧ m ≤ 200 := by
      simp only [List.mem_cons, List.not_mem_nil, or_false] at hd
      rcases hd with rfl | rfl | rfl | rfl
      · exact ⟨3, rfl, by decide⟩
      · exact ⟨12, rfl, by decide⟩
      · exact ⟨0, rfl, by decide⟩
      · exact ⟨200, rfl, by decide⟩
    obtain ⟨m, rfl, hm⟩ := this
    simp only [bind_ret, bind_lift, Pd.bind_assoc]
    refine Tr.bind (tr_text hm) ?_
    rintro _ ⟨t, rfl, ht⟩
    exact Tr.ret ⟨t, rfl, ht⟩
  rintro ds ⟨ys, hds, hly, hys⟩
  rw [List.nil_append] at hds
  subst hds
  have hall : ∀ ys : List D, (∀ y ∈ ys, ∃ t, y = tx t ∧ Tx 200 t) → ∃ ts : List (List Nat), ys = ts.map tx ∧ ∀ t ∈ ts, Tx 200 t := by
    intro ys
    induction ys with
    | nil => exact fun _ => ⟨[], rfl, fun t ht => (List.not_mem_nil ht).elim⟩
    | cons y ys ih =>
      intro h
      obtain ⟨t, rfl, ht⟩ := h y List.mem_cons_self
      obtain ⟨ts, rfl, hts⟩ := ih fun z hz => h z (List.mem_cons_of_mem _ hz)
      refine ⟨t :: ts, rfl, fun u hu => ?_⟩
      rcases List.mem_cons.mp hu with rfl | hu
      · exact ht
      · exact hts u hu
  obtain ⟨ts, rfl, hts⟩ := hall ds hys
  have hn : ts.length ≤ 4 := by
    rw [hr, List.length_map] at hly
    omega
  have hf := frames_le hts
  have lc1 : ∀ {δ : DE} {F : List Sl → M Sl}, δ.length = 12 → (∀ {t : List Nat}, t.length ≤ 1000000 → F [.d (tx t)] = M.ret (.d (tx (frame t)))) → lcD (gN 11) mYes (eDat (eCall (onlyN 1 F) (asD (eVar 11) asNil))) δ (ts.map tx) [] = M.ret ((ts.map frame).map tx) := fun {δ F} hδ hF => by
    rw [lcD_map tx (fun t => tx (frame t)), List.nil_append, List.map_map]
    · rfl
    · intro t ht
      refine ⟨_, rfl, ?_⟩
      have e6 : (δ.set 11 (some (Sl.d (tx t))))[11]? = some (some (.d (tx t))) := by
        rw [List.getElem?_set_self (by omega)]
      have e5 := hF (t := t) (by have := (hts t ht).len; omega)
      simp only [runF, sRet, sRetO, sRetR, sSeq, sIf, sSet, sSetO, sPar, sParO, sAug, sApp, sNil, eOp, eUn, eCl, eClO, eTr, eC, eVar, eFrz, eLst, eTup, eTupV, eSl, ptNone, ptSome, eSm, asB, asI, asS, eAnd, eOr, eNotT, eAndT, eOrT, eIf, eCh, eDat, eCall, onlyN, asD, asNil, asBag, isBag, aCons, aNil, on1, on1L, getOwn, bind_ret, bind_lift, Pd.bind_assoc, lift_ret, e6, e5, List.length_cons, List.length_nil, if_true, Nat.reduceAdd]
    · simp; omega
  have lcA := fun (δ : DE) hδ => lc1 (δ := δ) (F := F_framed) hδ r_framed
  have lcB := fun (δ : DE) hδ => lc1 (δ := δ) (F := F_law_framed) hδ r_law_framed
  have e4 : ∀ l : List D, itemsOf (.list l) = some l := fun _ => rfl
  have e7 := tx_join (l := ts.map frame) (by have := hf.len; omega)
  simp only [bind_ret, bind_lift, Pd.bind_assoc, e4, List.getElem?_cons_zero, List.getElem?_cons_succ, List.set, wipeD]
  rw [lcA _ rfl]
  simp only [bind_ret, bind_lift, Pd.bind_assoc]
  rw [lcB _ rfl]
  simp only [bind_ret, bind_lift, Pd.bind_assoc, List.length_cons, List.length_nil, if_true, Nat.reduceAdd]
  have okf : ∀ t ∈ ts, OkD 0 2142 (tx (frame t)) := fun t ht => by
    have h1 := frames_le (ts := [t]) (fun u hu => by rw [List.mem_singleton.mp hu]; exact hts t ht)
    have h2 : Tx 214 (frame t) := by simpa using h1
    exact okD_tx h2
  refine Tr.bind (Tr.alike (okD_list (h := 0) (n := 2142) fun d hd => ?_) (by decide) ?_) ?_
  · rw [List.map_map] at hd
    obtain ⟨t, ht, rfl⟩ := List.mem_map.mp hd
    exact okf t ht
  · have : (List.map tx (List.map frame ts)).length ≤ 4 := by simpa using hn
    have : (List.map tx (List.map frame ts)).length * (2142 + 2) ≤ 4 * (2142 + 2) := Nat.mul_le_mul_right _ this
    omega
  rintro _ rfl
  simp only [bind_ret, bind_lift, Pd.bind_assoc, pyTruth, Bool.not_true, Bool.false_eq_true, if_false, e4, List.getElem?_cons_zero, List.getElem?_cons_succ, List.set, wipeD]
  rw [lcB _ rfl]
  simp only [bind_ret, bind_lift, Pd.bind_assoc, e7, List.length_cons, List.length_nil, if_true, Nat.reduceAdd, List.getElem?_cons_zero, List.getElem?_cons_succ, List.set]
  have hfl : Tx 856 (ts.map frame).flatten := hf.mono (by omega)
  refine Tr.bind (tr_bent (hfl.mono (by decide))) ?_
  rintro _ ⟨b1, rfl, hb1⟩
  simp only [bind_ret, bind_lift, Pd.bind_assoc]
  refine Tr.bind (tr_bent (hfl.mono (by decide))) ?_
  rintro _ ⟨b2, rfl, hb2⟩
  simp only [bind_ret, bind_lift, Pd.bind_assoc]
  refine Tr.bind (tr_bent (hfl.mono (by decide))) ?_
  rintro _ ⟨b3, rfl, hb3⟩
  have q0 := hfl.len
  have q1 := hb1.len
  have q2 := hb2.len
  have q3 := hb3.len
  simp only [bind_ret, bind_lift, Pd.bind_assoc, List.length_cons, List.length_nil, if_true, Nat.reduceAdd, List.getElem?_cons_zero, List.getElem?_cons_succ, List.set]
  refine Tr.bind (tr_bent (hb3.mono (by omega))) ?_
  rintro _ ⟨b4, rfl, hb4⟩
  have q4 := hb4.len
  have e8 : ∀ l : List D, itemsOf (.tuple l) = some l := fun _ => rfl
  simp only [bind_ret, bind_lift, Pd.bind_assoc, List.length_cons, List.length_nil, if_true, Nat.reduceAdd, Nat.reduceLeDiff, e8]
  refine Tr.forD _ _ ⟨_, _, _, _, _, _, _, _, _, _, rfl⟩ fun x hx δ hδ => ?_
  simp only [List.mem_cons, List.not_mem_nil, or_false] at hx
  rcases hx with rfl | rfl | rfl | rfl
  · exact tr_body2 rfl (by omega) hδ
  · exact tr_body2 rfl (by omega) hδ
  · exact tr_body2 rfl (by omega) hδ
  · exact tr_body2 rfl (by omega) hδ
end K56
namespace K56
open PySem PySem.Spec PyProof.Rows L2 Pd
noncomputable def restL : DE → M Ctl := (sSeq (sPar 7 8 (eOp pyAdd (eDat (eCall (onlyN 1 F_law_framed) (asD (eOp pyMul (eC (.str (Str.ofString "a"))) (eC (.int 201))) asNil))) (eC (.str (Str.ofString "|0:;000\n")))) (eOp pyAdd (eDat (eCall (onlyN 1 F_law_framed) (asD (eOp pyMul (eC (.str (Str.ofString "a"))) (eC (.int 200))) asNil))) (eC (.str (Str.ofString "|0:;000\n"))))) (sSeq (sIf (eNotT (eTr pyTruth (eDat (eCall (onlyN 2 F_law_alike) (asD (eFrz (eLst (aCons (eDat (eCall (onlyN 1 F_read_frames) (asD (eVar 7) asNil))) (aCons (eDat (eCall (onlyN 1 F_read_frames) (asD (eVar 8) asNil))) aNil)))) (asD (eFrz (eLst (aCons (eTup (aCons (eTup aNil) (aCons (eCl (on1 pyLen) (aCons (eVar 7) aNil)) aNil))) (aCons (eTup (aCons (eTup (aCons (eOp pyMul (eC (.str (Str.ofString "a"))) (eC (.int 200))) (aCons (eC (.str (Str.ofString ""))) aNil))) (aCons (eC (.int 0)) aNil))) aNil)))) asNil)))))) (sRet (eC (.bool false))) sNil) (sSeq (sSet 3 (eSm sJoin (eC (.str (Str.ofString ""))) (aCons (eFrz (eLc (iRg2 (aCons (eC (.int 32)) (aCons (eC (.int 127)) aNil))) (gN 10) (eTr asB (eOp pyNe (eVar 10) (eC (.int 124)))) (eCl (on1 pyChr) (aCons (eVar 10) aNil)) [10])) aNil))) (sRet (eDat (eCall (onlyN 2 F_law_alike) (asD (eFrz (eLst (aCons (eDat (eCall (onlyN 1 F_read_frames) (asD (eDat (eCall (onlyN 1 F_framed) (asD (eVar 3) asNil))) asNil))) (aCons (eDat (eCall (onlyN 1 F_framed) (asD (eVar 3) asNil))) (aCons (eDat (eCall (onlyN 1 F_framed) (asD (eC (.str (Str.ofString ""))) asNil))) aNil))))) (asD (eFrz (eLst (aCons (eTup (aCons (eTup (aCons (eVar 3) aNil)) (aCons (eC (.int 0)) aNil))) (aCons (eDat (eCall (onlyN 1 F_law_framed) (asD (eVar 3) asNil))) (aCons (eC (.str (Str.ofString "|0:;000\n"))) aNil))))) asNil))))))))
def z8 : List Nat := [124, 48, 58, 59, 48, 48, 48, 10]
def A (n : Nat) : List Nat := List.replicate n 97
def EV : List Nat := ((List.range 95).filter fun i => !decide (32 + i = 124)).map fun i => 32 + i
theorem mulA (n : Nat) (h : 2 ≤ n) (h1 : n ≤ 1000) (e : (List.replicate n [97]).flatten = A n) : pyMul (tx [97]) (.int (n : Nat)) = some (tx (A n)) := by
  show (if 2 ≤ (n : Int) ∧ (n : Int) ≤ 1000000 ∧ 0 < (SX.S [97]).length ∧ (SX.S [97]).length * (n : Int).toNat ≤ 16777216 then some (PyData.str (repS (SX.S [97]) (n : Int).toNat)) else none) = _
  rw [Int.toNat_natCast, if_pos ⟨by omega, by omega, by rw [SX.S_len]; decide, by rw [SX.S_len]; show 1 * n ≤ _; omega⟩]
  show some (PyData.str (SX.S ((List.replicate n [97]).flatten))) = _
  rw [e]
theorem rd_long : rd (frame (A 201) ++ z8).length (frame (A 201) ++ z8) = ([], (frame (A 201) ++ z8).length) := by decide +kernel
theorem rd_some : rd (frame (A 200) ++ z8).length (frame (A 200) ++ z8) = ([A 200, []], 0) := by decide +kernel
theorem rd_every : rd (frame EV).length (frame EV) = ([EV], 0) := by decide +kernel
theorem len_long : (frame (A 201) ++ z8).length = 219 := by decide +kernel
theorem len_some : (frame (A 200) ++ z8).length = 218 := by decide +kernel
theorem len_every : (frame EV).length = 103 := by decide +kernel
theorem frame_nil : frame [] = z8 := by decide +kernel
theorem ev_len : EV.length = 94 := by decide +kernel
theorem every_flat : (((List.range 95).filter fun i => !decide (32 + i = 124)).map fun i => [32 + i]).flatten = EV := by decide +kernel
theorem ev_tx : Tx 200 EV := by
  have : EV.length ≤ 200 ∧ (EV.all fun c => decide (c < 1114112)) = true := by decide +kernel
  exact ⟨this.1, fun c hc => of_decide_eq_true (List.all_eq_true.mp this.2 c hc)⟩
theorem z8_tx : Tx 200 z8 := by
  have : z8.length ≤ 200 ∧ (z8.all fun c => decide (c < 1114112)) = true := by decide +kernel
  exact ⟨this.1, fun c hc => of_decide_eq_true (List.all_eq_true.mp this.2 c hc)⟩
theorem tr_rest' {δ : DE} (hI : Iv δ) {A1 A2 F1 F2 FE E' : List Nat} (m1 : pyMul (tx [97]) (.int 201) = some (tx A1)) (m2 : pyMul (tx [97]) (.int 200) = some (tx A2))
    (f1 : F_law_framed [.d (tx A1)] = M.ret (.d (tx F1))) (f2 : F_law_framed [.d (tx A2)] = M.ret (.d (tx F2))) (fl1 : F1.length = 211) (fl2 : F2.length = 210)
    (g1 : F_read_frames [.d (tx (F1 ++ z8))] = M.ret (.d (.tuple [.tuple [], .int (219 : Nat)]))) (o1 : OkD 2 4016030 (.tuple [.tuple [], .int (219 : Nat)]))
    (g2 : F_read_frames [.d (tx (F2 ++ z8))] = M.ret (.d (.tuple [.tuple [tx A2, .str (SX.S [])], .int 0]))) (o2 : OkD 2 4016030 (.tuple [.tuple [tx A2, .str (SX.S [])], .int 0]))
    (e7 : sJoin (SX.S []) [.list ((((List.range 95).filter fun i => !decide (32 + i = 124)).map fun i => [32 + i]).map tx)] = some (tx E'))
    (f3 : F_framed [.d (tx E')] = M.ret (.d (tx FE))) (f4 : F_law_framed [.d (tx E')] = M.ret (.d (tx FE))) (f5 : F_framed [.d (.str (SX.S []))] = M.ret (.d (tx z8)))
    (g3 : F_read_frames [.d (tx FE)] = M.ret (.d (.tuple [.tuple [tx E'], .int 0]))) (o3 : OkD 2 4016030 (.tuple [.tuple [tx E'], .int 0])) (o4 : OkD 2 4016030 (tx FE)) (o5 : OkD 2 4016030 (tx z8)) : Tr (restL δ) fun c => c = .rt (.d (.bool true)) := by
  obtain ⟨a, b, c, d, e, f, g, h, i, j, rfl⟩ := hI
  have fz : z8.length = 8 := rfl
  have p1 : pyAdd (tx F1) (.str (SX.S [124, 48, 58, 59, 48, 48, 48, 10])) = some (tx (F1 ++ z8)) := tx_add (b := z8) (by omega)
  have p2 : pyAdd (tx F2) (.str (SX.S [124, 48, 58, 59, 48, 48, 48, 10])) = some (tx (F2 ++ z8)) := tx_add (b := z8) (by omega)
  have l0 : (F1 ++ z8).length = 219 := by rw [List.length_append]; omega
  have l1 : pyLen (tx (F1 ++ z8)) = some (.int (219 : Nat)) := by rw [tx_len (by omega), l0]
  have rg : rg2 [.int 32, .int 127] = some ((List.range 95).map fun i => PyData.int (32 + (i : Nat))) := by
    show (asRg ((32 : Nat) : Int)).bind (fun l => (asRg ((127 : Nat) : Int)).map fun n => rangeD l (n - l).toNat) = _
    rw [asRg_nat (by decide), asRg_nat (by decide)]
    rfl
  have lc : lcD (gN 10) (eTr asB (eOp pyNe (eVar 10) (eC (.int 124)))) (eCl (on1 pyChr) (aCons (eVar 10) aNil)) (wipeD [none, some Sl.bag, a, b, c, d, e, some (Sl.d (tx (F1 ++ z8))), some (Sl.d (tx (F2 ++ z8))), h, i, j] [10]) ((List.range 95).map fun i => PyData.int (32 + (i : Nat))) [] = M.ret ((((List.range 95).filter fun i => !decide (32 + i = 124)).map fun i => [32 + i]).map tx) := by
    rw [lcD_fil _ (fun i => tx [32 + i]) (fun i => !decide (32 + i = 124)), List.nil_append, List.map_map]
    · rfl
    · intro i hi
      have hi' : i < 95 := List.mem_range.mp hi
      have en : pyNe (.int (32 + (i : Int))) (.int 124) = some (.bool (!decide (32 + i = 124))) := by
        show some (PyData.bool (!((32 + (i : Int)) == 124))) = _
        congr 3
        rw [Bool.eq_iff_iff, beq_iff_eq, decide_eq_true_eq]; omega
      have ec : pyChr (.int (32 + (i : Int))) = some (tx [32 + i]) := tx_chr (n := 32 + i) (by omega)
      refine ⟨_, rfl, ?_, fun _ => ?_⟩
      · simp only [wipeD, runF, sRet, sRetO, sRetR, sSeq, sIf, sSet, sSetO, sPar, sParO, sAug, sApp, sNil, eOp, eUn, eCl, eClO, eTr, eC, eVar, eFrz, eLst, eTup, eTupV, eSl, ptNone, ptSome, eSm, asB, asI, asS, eAnd, eOr, eNotT, eAndT, eOrT, eIf, eCh, eDat, eCall, onlyN, asD, asNil, asBag, isBag, aCons, aNil, on1, on1L, getOwn, bind_ret, bind_lift, Pd.bind_assoc, lift_ret, List.getElem?_cons_zero, List.getElem?_cons_succ, List.set, en]
      · simp only [wipeD, runF, sRet, sRetO, sRetR, sSeq, sIf, sSet, sSetO, sPar, sParO, sAug, sApp, sNil, eOp, eUn, eCl, eClO, eTr, eC, eVar, eFrz, eLst, eTup, eTupV, eSl, ptNone, ptSome, eSm, asB, asI, asS, eAnd, eOr, eNotT, eAndT, eOrT, eIf, eCh, eDat, eCall, onlyN, asD, asNil, asBag, isBag, aCons, aNil, on1, on1L, getOwn, bind_ret, bind_lift, Pd.bind_assoc, lift_ret, List.getElem?_cons_zero, List.getElem?_cons_succ, List.set, ec]
    · simp
  simp only [restL, runF, sRet, sRetO, sRetR, sSeq, sIf, sSet, sSetO, sPar, sParO, sAug, sApp, sNil, eOp, eUn, eCl, eClO, eTr, eC, eVar, eFrz, eLst, eTup, eTupV, eSl, ptNone, ptSome, eSm, asB, asI, asS, eAnd, eOr, eNotT, eAndT, eOrT, eIf, eCh, eDat, eCall, onlyN, asD, asNil, asBag, isBag, aCons, aNil, on1, on1L, getOwn, bind_ret, bind_lift, Pd.bind_assoc, lift_ret, lit_0, lit_1, lit_2, lit_3, lit_4, lit_5, lit_6, lit_7, lit_8, lit_9, lit_10, lit_11, lit_12, lit_13, lit_14, lit_15, lit_16, lit_17, lit_18, lit_19, lit_20, lit_21, lit_22, lit_23, lit_24, lit_25, lit_26, eLc, iRg2, List.map_cons, List.map_nil, List.length_cons, List.length_nil, List.getElem?_cons_zero, List.getElem?_cons_succ, List.set, if_true, t_alike, m1, m2, f1, f2, p1, p2, g1, g2, l1, Nat.reduceAdd, Nat.reduceLeDiff, Nat.zero_le]
  refine Tr.bind (Tr.alike (okD_list (h := 2) (n := 4016030) fun d hd => ?_) (by decide) (by simp)) ?_
  · rcases List.mem_cons.mp hd with rfl | hd
    · exact o1
    · rw [List.mem_singleton.mp hd]; exact o2
  rintro _ rfl
  simp only [bind_ret, bind_lift, Pd.bind_assoc, pyTruth, Bool.not_true, Bool.false_eq_true, if_false, rg]
  rw [lc]
  simp only [bind_ret, bind_lift, Pd.bind_assoc, e7, f3, f4, f5, g3, List.length_cons, List.length_nil, if_true, Nat.reduceAdd, Nat.reduceLeDiff, Nat.zero_le, List.getElem?_cons_zero, List.getElem?_cons_succ, List.set]
  refine Tr.bind (Tr.alike (okD_list (h := 2) (n := 4016030) fun d hd => ?_) (by decide) (by simp)) ?_
  · rcases List.mem_cons.mp hd with rfl | hd
    · exact o3
    rcases List.mem_cons.mp hd with rfl | hd
    · exact o4
    · rw [List.mem_singleton.mp hd]; exact o5
  rintro _ rfl
  exact Tr.ret rfl
theorem tr_rest {δ : DE} (hI : Iv δ) : Tr (restL δ) fun c => c = .rt (.d (.bool true)) := by
  have f1 := r_law_framed (t := A 201) (by decide +kernel)
  have f2 := r_law_framed (t := A 200) (by decide +kernel)
  have fl1 : (frame (A 201)).length = 211 := by decide +kernel
  have fl2 : (frame (A 200)).length = 210 := by decide +kernel
  have g1 := r_read' (s := frame (A 201) ++ z8) (by rw [len_long]; decide)
  have g2 := r_read' (s := frame (A 200) ++ z8) (by rw [len_some]; decide)
  have o1 := okD_res (s := frame (A 201) ++ z8) (by rw [len_long]; decide)
  have o2 := okD_res (s := frame (A 200) ++ z8) (by rw [len_some]; decide)
  rw [rd_long, len_long] at g1 o1
  rw [rd_some] at g2 o2
  have g3 := r_read' (s := frame EV) (by rw [len_every]; decide)
  have o3 := okD_res (s := frame EV) (by rw [len_every]; decide)
  rw [rd_every] at g3 o3
  have o4 : OkD 2 4016030 (tx (frame EV)) := by
    have := frames_le (ts := [EV]) (fun u hu => by rw [List.mem_singleton.mp hu]; exact ev_tx)
    have h2 : Tx 214 (frame EV) := by simpa using this
    exact (okD_tx (h := 2) h2).mono (Nat.le_refl _) (by decide)
  have o5 : OkD 2 4016030 (tx z8) := (okD_tx (h := 2) z8_tx).mono (Nat.le_refl _) (by decide)
  have f5 : F_framed [.d (.str (SX.S []))] = M.ret (.d (tx z8)) := by
    have := r_framed (t := []) (by decide)
    rw [frame_nil] at this
    exact this
  have m1 : pyMul (tx [97]) (.int 201) = some (tx (A 201)) := mulA 201 (by decide) (by decide) (by decide +kernel)
  have m2 : pyMul (tx [97]) (.int 200) = some (tx (A 200)) := mulA 200 (by decide) (by decide) (by decide +kernel)
  have q1 : resD ([] : List (List Nat)) 219 = .tuple [.tuple [], .int (219 : Nat)] := rfl
  have q2 : resD [A 200, []] 0 = .tuple [.tuple [tx (A 200), .str (SX.S [])], .int 0] := rfl
  have q3 : resD [EV] 0 = .tuple [.tuple [tx EV], .int 0] := rfl
  dsimp only at g1 o1 g2 o2 g3 o3
  rw [q1] at g1 o1
  rw [q2] at g2 o2
  rw [q3] at g3 o3
  have e7 : sJoin (SX.S []) [.list ((((List.range 95).filter fun i => !decide (32 + i = 124)).map fun i => [32 + i]).map tx)] = some (tx EV) := by
    rw [tx_join (by rw [every_flat, ev_len]; decide), every_flat]
  have f3 := r_framed (t := EV) (by rw [ev_len]; decide)
  have f4 := r_law_framed (t := EV) (by rw [ev_len]; decide)
  exact tr_rest' (A1 := A 201) (A2 := A 200) (F1 := frame (A 201)) (F2 := frame (A 200)) (FE := frame EV) (E' := EV) hI m1 m2 f1 f2 fl1 fl2 g1 o1 g2 o2 e7 f3 f4 f5 g3 o3 o4 o5
theorem good0 {ns : List Int} (h : ns.length ≤ 63) : Good (bag0 ns) := ⟨Int.le_refl 0, by show (0 : Int) ≤ 1234567891; decide, by show (1234567891 : Int) < 2147483647; decide, Int.le_refl 0, by show (ns.map absI).length ≤ 63; rw [List.length_map]; exact h, fun x hx => by
  obtain ⟨i, _, rfl⟩ := List.mem_map.mp hx
  unfold absI
  split <;> omega⟩
theorem tr_law : Tr (m_law (none :: some .bag :: List.replicate 10 none)) fun c => c = .rt (.d (.bool true)) := by
  have rg : rg1 [.int 4] = some (rangeD 0 4) := rg1_nat (k := 4) (by decide)
  have e : m_law (none :: some .bag :: List.replicate 10 none) = M.bind (Pd.forD (gN 2) body1 (rangeD 0 4) (none :: some .bag :: List.replicate 10 none)) (fun c => match c with | .nx δ1 => restL δ1 | c => M.ret c) := by
    have e0 : iRg1 (aCons (eC (.int 4)) aNil) (none :: some .bag :: List.replicate 10 none) = M.ret (rangeD 0 4) := by
      simp only [iRg1, runF, sRet, sRetO, sRetR, sSeq, sIf, sSet, sSetO, sPar, sParO, sAug, sApp, sNil, eOp, eUn, eCl, eClO, eTr, eC, eVar, eFrz, eLst, eTup, eTupV, eSl, ptNone, ptSome, eSm, asB, asI, asS, eAnd, eOr, eNotT, eAndT, eOrT, eIf, eCh, eDat, eCall, onlyN, asD, asNil, asBag, isBag, aCons, aNil, on1, on1L, getOwn, bind_ret, bind_lift, Pd.bind_assoc, lift_ret, rg]
    show M.bind (M.bind (iRg1 (aCons (eC (.int 4)) aNil) (none :: some .bag :: List.replicate 10 none)) (fun xs => Pd.forD (gN 2) body1 xs (none :: some .bag :: List.replicate 10 none))) (fun c => match c with | .nx δ1 => restL δ1 | c => M.ret c) = _
    rw [e0, bind_ret]
  rw [e]
  refine Tr.bind (Tr.forD _ _ ⟨_, _, _, _, _, _, _, _, _, _, rfl⟩ fun x _ δ hδ => tr_body1 hδ) ?_
  rintro _ ⟨δ, rfl, hδ⟩
  exact tr_rest hδ
theorem law_true : ∀ ns : List Int, ns.length ≤ 63 → ∃ S, m_law (none :: some .bag :: List.replicate 10 none) (some (bag0 ns)) = some (.ok (.rt (.d (.bool true))), S) := fun ns h => by
  obtain ⟨a, g, e, _, q⟩ := tr_law (bag0 ns) (good0 h)
  rw [q] at e
  exact ⟨_, e⟩
end K56
set_option maxHeartbeats 0 in
theorem PySem.Challenge.cw_onceorlater_k56_frames_of_any_signs_holds : PySem.Challenge.rw_onceorlater_k56_frames_of_any_signs.Holds := by
  w_on; o_law; k_head; (case hw => w_witness2)
  k_fill
  refine Pd.walk_ofG (l := PySem.Challenge.rw_onceorlater_k56_frames_of_any_signs) (n := 63) (k := 5) (x := "script") (sp := Pd.spLaw) rfl (by decide) rfl ⟨rfl, by decide, by decide⟩ (fun w h Y => PySem.W.kIn_of Y) ?F (fun _ _ a ns hl _ hS => ⟨a, ns, rfl, hS, hl, fun _ => rfl⟩)
  case F =>
    intro w mg fa h KX G hmg
    refine' K56.all_mk KX G hmg ?a_check_of ?l_check_of ?cc_check_of ?kk_check_of ?a_framed ?l_framed ?cc_framed ?kk_framed ?a_is_plain ?l_is_plain ?cc_is_plain ?kk_is_plain ?a_is_number ?l_is_number ?cc_is_number ?kk_is_number ?a_first_text ?l_first_text ?cc_first_text ?kk_first_text ?a_read_frames ?l_read_frames ?cc_read_frames ?kk_read_frames ?a_law_bag ?l_law_bag ?cc_law_bag ?kk_law_bag ?a_law_take ?l_law_take ?cc_law_take ?kk_law_take ?a_law_some ?l_law_some ?cc_law_some ?kk_law_some ?a_law_alike ?l_law_alike ?cc_law_alike ?kk_law_alike ?a_law_check ?l_law_check ?cc_law_check ?kk_law_check ?a_law_framed ?l_law_framed ?cc_law_framed ?kk_law_framed ?a_law_first_text ?l_law_first_text ?cc_law_first_text ?kk_law_first_text ?a_law_read ?l_law_read ?cc_law_read ?kk_law_read ?a_law_text ?l_law_text ?cc_law_text ?kk_law_text ?a_law_bent ?l_law_bent ?cc_law_bent ?kk_law_bent ?a_law ?l_law ?cc_law ?kk_law ?zz_abs ?zz_all ?zz_chr ?zz_enumerate ?zz_int ?zz_len ?zz_list ?zz_ord ?zz_range ?zz_repr ?zz_str ?zz_sum ?zz_tuple ?vv_MOST_SIGNS ?vv_MODULUS ?vv_DIGITS ?vv_BEGIN ?hm
    (case a_check_of => k_is); (case l_check_of => k_is); (case cc_check_of => k_is); (case kk_check_of => k_is); (case a_framed => k_is); (case l_framed => k_is); (case cc_framed => k_is); (case kk_framed => k_is); (case a_is_plain => k_is); (case l_is_plain => k_is); (case cc_is_plain => k_is); (case kk_is_plain => k_is); (case a_is_number => k_is); (case l_is_number => k_is); (case cc_is_number => k_is); (case kk_is_number => k_is); (case a_first_text => k_is); (case l_first_text => k_is); (case cc_first_text => k_is); (case kk_first_text => k_is); (case a_read_frames => k_is); (case l_read_frames => k_is); (case cc_read_frames => k_is); (case kk_read_frames => k_is); (case a_law_bag => k_is); (case l_law_bag => k_is); (case cc_law_bag => k_is); (case kk_law_bag => k_is); (case a_law_take => k_is); (case l_law_take => k_is); (case cc_law_take => k_is); (case kk_law_take => k_is); (case a_law_some => k_is); (case l_law_some => k_is); (case cc_law_some => k_is); (case kk_law_some => k_is); (case a_law_alike => k_is); (case l_law_alike => k_is); (case cc_law_alike => k_is); (case kk_law_alike => k_is); (case a_law_check => k_is); (case l_law_check => k_is); (case cc_law_check => k_is); (case kk_law_check => k_is); (case a_law_framed => k_is); (case l_law_framed => k_is); (case cc_law_framed => k_is); (case kk_law_framed => k_is); (case a_law_first_text => k_is); (case l_law_first_text => k_is); (case cc_law_first_text => k_is); (case kk_law_first_text => k_is); (case a_law_read => k_is); (case l_law_read => k_is); (case cc_law_read => k_is); (case kk_law_read => k_is); (case a_law_text => k_is); (case l_law_text => k_is); (case cc_law_text => k_is); (case kk_law_text => k_is); (case a_law_bent => k_is); (case l_law_bent => k_is); (case cc_law_bent => k_is); (case kk_law_bent => k_is); (case a_law => k_is); (case l_law => k_is); (case cc_law => k_is); (case kk_law => k_is); (case zz_abs => k_is); (case zz_all => k_is); (case zz_chr => k_is); (case zz_enumerate => k_is); (case zz_int => k_is); (case zz_len => k_is); (case zz_list => k_is); (case zz_ord => k_is); (case zz_range => k_is); (case zz_repr => k_is); (case zz_str => k_is); (case zz_sum => k_is); (case zz_tuple => k_is); (case vv_MOST_SIGNS => k_is); (case vv_MODULUS => k_is); (case vv_DIGITS => k_is); (case vv_BEGIN => k_is)
    exact K56.law_true
