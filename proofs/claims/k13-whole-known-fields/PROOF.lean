import PyProof.Rows.All
import Wide.All
import OpenK.AllK
import Wide.FinOn
import PySem.Challenge.RW_landparcels_k13_whole_known_fields
import HandS.ForMost
import HandS.TupAny
import HandS.Flow
import HandS.Exc
import HandS.TryOnly
import HandS.ExcOwn
import HandS.WordsExc
import HandS.TupMul
import HandS.TupLe
import HandS.Deep
import HandS.Style
import HandS.Conv
import HandS.IsInst
import KE.DataCmp
import KE.SortData
import PyProof.P3In
import HandS.Iter
import HandS.Zip
import HandS.Defaults
import HandS.CallSlots
import HandS.Dict
import HandS.List
import HandS.RaiseMore
import HandS.Gcd
import PyProof.SumAnyB
import PyProof.MaxThree
import HandS.Strs
import KE.DataFind
import HandS.Text
import HandS.Codes
import HandS.SlotsOwn
import KE.GoesMore
import KE.GoesZip
import HandS.CallLocal
import HandS.DictComp
import HandS.TupLen
import HandS.HeadEnd
import HandS.Head0
import HandS.Head1
import HandS.Head2
import HandS.HeadHook1
import HandS.HeadHook2
import HandS.HeadHook3
import HandS.HeadHook4
import HandS.Star
import KE.KMathG
import PyProof.Rows.RuleB_bool
import PyProof.Rows.ReprOcc
import HandS.Head3
import KE.KStateDown
section
set_option Elab.async false
set_option linter.all false
set_option maxRecDepth 100000
set_option maxHeartbeats 4000000
namespace Mc
open PySem PySem.Spec L2

/-! ### data -/
inductive D where
  | non | bl (b : Bool) | int (i : Int) | str (s : Str) | tup (xs : List D) | lst (xs : List D) | ob (c : Str) (fs : List (Str × D)) | dic (kvs : List (D × D)) | fn (x : Str)

mutual
def D.py : D → Option PyData
  | .non => some .none
  | .bl b => some (.bool b)
  | .int i => some (.int i)
  | .str s => some (.str s)
  | .tup xs => match D.pys xs with | some ys => some (.tuple ys) | none => none
  | .lst xs => match D.pys xs with | some ys => some (.list ys) | none => none
  | .ob _ _ => none
  | .dic _ => none
  | .fn _ => none
def D.pys : List D → Option (List PyData)
  | [] => some []
  | x :: xs => match D.py x, D.pys xs with | some y, some ys => some (y :: ys) | _, _ => none
end

/-- a tuple whose object is known: it has no dict -/
def NoD (K : PySem.W.Frag) (S : Hp) (a : Addr) : Prop := (∃ o u, S a = some (.frz o u) ∧ o.cls = .type "tuple" ∧ o.dict = none) ∨ ∃ o, K.lookup a = some o ∧ o.cls = .type "tuple" ∧ o.dict = none
def SqX (K : PySem.W.Frag) (S : Hp) (a : Addr) (vs : List V) : Prop := SqT K S a vs ∧ NoD K S a
mutual
inductive Rp (K : PySem.W.Frag) (mg : Str → Option Value) (S : Hp) : V → D → Prop
  | non : Rp K mg S .non .non
  | bl (b : Bool) : Rp K mg S (.bl b) (.bl b)
  | int (i : Int) : Rp K mg S (.int i) (.int i)
  | str (x : Str) : Rp K mg S (.str x) (.str x)
  | tup {a : Addr} {vs : List V} {ds : List D} : SqX K S a vs → Rps K mg S vs ds → Rp K mg S (.ref a) (.tup ds)
  | lst {a : Addr} {vs : List V} {ds : List D} : S a = some (.lst vs) → Rps K mg S vs ds → Rp K mg S (.ref a) (.lst ds)
  | ob {a C dx : Addr} {c : Str} {fv : List (Str × V)} {fs : List (Str × D)} : S a = some (.ins C dx fv) → mg c = some (.ref C) → Rpf K mg S fv fs → Rp K mg S (.ref a) (.ob c fs)
  | fn {a : Addr} {x : Str} : mg x = some (.ref a) → Rp K mg S (.ref a) (.fn x)
inductive Rps (K : PySem.W.Frag) (mg : Str → Option Value) (S : Hp) : List V → List D → Prop
  | nil : Rps K mg S [] []
  | cons {v : V} {vs : List V} {d : D} {ds : List D} : Rp K mg S v d → Rps K mg S vs ds → Rps K mg S (v :: vs) (d :: ds)
inductive Rpf (K : PySem.W.Frag) (mg : Str → Option Value) (S : Hp) : List (Str × V) → List (Str × D) → Prop
  | nil : Rpf K mg S [] []
  | cons {f : Str} {v : V} {vs : List (Str × V)} {d : D} {ds : List (Str × D)} : Rp K mg S v d → Rpf K mg S vs ds → Rpf K mg S ((f, v) :: vs) ((f, d) :: ds)
end

def Hsub (S S' : Hp) : Prop := ∀ a o, S a = some o → S' a = some o
theorem Hsub.refl (S : Hp) : Hsub S S := fun _ _ h => h
theorem Hsub.trans {S S' S'' : Hp} (h : Hsub S S') (h' : Hsub S' S'') : Hsub S S'' := fun a o e => h' a o (h a o e)
theorem Hsub.new {S : Hp} {a : Addr} {o : HO} (h : S a = none) : Hsub S (upd S a o) := fun b u e => by rw [upd_ne (ne_of_none e h)]; exact e
theorem sqt_mono {K : PySem.W.Frag} {S S' : Hp} {a : Addr} {vs : List V} (h : Hsub S S') (x : SqT K S a vs) : SqT K S' a vs := by
  rcases x with (x | ⟨o, x⟩) | x
  · exact Or.inl (Or.inl (h _ _ x))
  · exact Or.inl (Or.inr ⟨o, h _ _ x⟩)
  · exact Or.inr x
theorem sqx_mono {K : PySem.W.Frag} {S S' : Hp} {a : Addr} {vs : List V} (h : Hsub S S') (x : SqX K S a vs) : SqX K S' a vs :=
  ⟨sqt_mono h x.1, x.2.elim (fun ⟨o, u, e, r⟩ => Or.inl ⟨o, u, h _ _ e, r⟩) Or.inr⟩
theorem SqX.of {K : PySem.W.Frag} {S : Hp} {a : Addr} {o : Obj} {vs : List V} (e : S a = some (.frz o (.tup vs))) (h1 : o.cls = .type "tuple") (h2 : o.dict = none) : SqX K S a vs :=
  ⟨Or.inl (Or.inr ⟨o, e⟩), Or.inl ⟨o, _, e, h1, h2⟩⟩
theorem sql_mono {K : PySem.W.Frag} {S S' : Hp} {a : Addr} {vs : List V} (h : Hsub S S') (x : SqL K S a vs) : SqL K S' a vs := by
  rcases x with (x | ⟨o, x⟩) | x
  · exact Or.inl (Or.inl (h _ _ x))
  · exact Or.inl (Or.inr ⟨o, h _ _ x⟩)
  · exact Or.inr x
section
variable {K : PySem.W.Frag} {mg : Str → Option Value} {S S' : Hp}
mutual
theorem Rp.mono (h : Hsub S S') : ∀ (d : D) (v : V), Rp K mg S v d → Rp K mg S' v d
  | .non, _, x => by cases x; exact .non
  | .bl _, _, x => by cases x; exact .bl _
  | .int _, _, x => by cases x; exact .int _
  | .str _, _, x => by cases x; exact .str _
  | .tup ds, _, x => by cases x with | tup p q => exact .tup (sqx_mono h p) (Rps.mono h ds _ q)
  | .lst ds, _, x => by cases x with | lst p q => exact .lst (h _ _ p) (Rps.mono h ds _ q)
  | .ob c fs, _, x => by cases x with | ob p m q => exact .ob (h _ _ p) m (Rpf.mono h fs _ q)
  | .dic _, _, x => by cases x
  | .fn _, _, x => by cases x with | fn m => exact .fn m
theorem Rps.mono (h : Hsub S S') : ∀ (ds : List D) (vs : List V), Rps K mg S vs ds → Rps K mg S' vs ds
  | [], _, x => by cases x; exact .nil
  | d :: ds, _, x => by cases x with | cons p q => exact .cons (Rp.mono h d _ p) (Rps.mono h ds _ q)
theorem Rpf.mono (h : Hsub S S') : ∀ (ds : List (Str × D)) (vs : List (Str × V)), Rpf K mg S vs ds → Rpf K mg S' vs ds
  | [], _, x => by cases x; exact .nil
  | (f, d) :: ds, _, x => by cases x with | cons p q => exact .cons (Rp.mono h d _ p) (Rpf.mono h ds _ q)
end
mutual
theorem Rp.dp : ∀ (d : D) (v : V) (p : PyData), Rp K mg S v d → d.py = some p → Dp K S v p
  | .non, _, _, x, e => by cases x; cases e; exact .non
  | .bl _, _, _, x, e => by cases x; cases e; exact .bl _
  | .int _, _, _, x, e => by cases x; cases e; exact .int _
  | .str _, _, _, x, e => by cases x; cases e; exact .str _
  | .tup ds, _, _, x, e => by
    cases x with
    | tup p q =>
      simp only [D.py] at e
      split at e
      · rename_i ys hy
        cases e
        exact .tup p.1 (Rps.dp ds _ _ q hy)
      · cases e
  | .lst ds, _, _, x, e => by
    cases x with
    | lst p q =>
      simp only [D.py] at e
      split at e
      · rename_i ys hy
        cases e
        exact .lst (SqL.of p) (Rps.dp ds _ _ q hy)
      · cases e
  | .ob c fs, _, _, x, e => by simp only [D.py] at e; cases e
  | .dic _, _, _, x, e => by cases x
  | .fn _, _, _, x, e => by simp only [D.py] at e; cases e
theorem Rps.dp : ∀ (ds : List D) (vs : List V) (ps : List PyData), Rps K mg S vs ds → D.pys ds = some ps → DpAll K S vs ps
  | [], _, _, x, e => by cases x; simp only [D.pys] at e; cases e; exact .nil
  | d :: ds, _, _, x, e => by
    cases x with
    | cons p q =>
      simp only [D.pys] at e
      split at e
      · rename_i y ys h1 h2
        cases e
        exact .cons (Rp.dp d _ _ p h1) (Rps.dp ds _ _ q h2)
      · cases e
end
end
theorem Rps.length {K : PySem.W.Frag} {mg : Str → Option Value} {S : Hp} : ∀ {ds : List D} {vs : List V}, Rps K mg S vs ds → vs.length = ds.length
  | [], _, x => by cases x; rfl
  | d :: ds, _, x => by cases x with | cons p q => simp only [List.length_cons, Rps.length q]
theorem Rps.get {K : PySem.W.Frag} {mg : Str → Option Value} {S : Hp} : ∀ {ds : List D} {vs : List V} {i : Nat} {d : D}, Rps K mg S vs ds → ds[i]? = some d → ∃ v, vs[i]? = some v ∧ Rp K mg S v d
  | [], _, _, _, _, e => by simp at e
  | d :: ds, _, 0, _, x, e => by cases x with | cons p q => simp at e; subst e; exact ⟨_, rfl, p⟩
  | d :: ds, _, i + 1, _, x, e => by
    cases x with
    | cons p q =>
      obtain ⟨v, h1, h2⟩ := Rps.get (i := i) q (by simpa using e)
      exact ⟨v, by simpa using h1, h2⟩
theorem Rps.append {K : PySem.W.Frag} {mg : Str → Option Value} {S : Hp} : ∀ {ds es : List D} {vs ws : List V}, Rps K mg S vs ds → Rps K mg S ws es → Rps K mg S (vs ++ ws) (ds ++ es)
  | [], _, _, _, x, y => by cases x; exact y
  | d :: ds, _, _, _, x, y => by cases x with | cons p q => exact .cons p (Rps.append q y)
theorem Rps.take {K : PySem.W.Frag} {mg : Str → Option Value} {S : Hp} : ∀ (n : Nat) {ds : List D} {vs : List V}, Rps K mg S vs ds → Rps K mg S (vs.take n) (ds.take n)
  | 0, _, _, _ => by simp only [List.take_zero]; exact .nil
  | n + 1, [], _, x => by cases x; exact .nil
  | n + 1, d :: ds, _, x => by cases x with | cons p q => exact .cons p (Rps.take n q)
theorem Rps.drop {K : PySem.W.Frag} {mg : Str → Option Value} {S : Hp} : ∀ (n : Nat) {ds : List D} {vs : List V}, Rps K mg S vs ds → Rps K mg S (vs.drop n) (ds.drop n)
  | 0, _, _, x => x
  | n + 1, [], _, x => by cases x; exact .nil
  | n + 1, d :: ds, _, x => by cases x with | cons p q => exact Rps.drop n q
theorem Rps.set {K : PySem.W.Frag} {mg : Str → Option Value} {S : Hp} {v : V} {d : D} (r : Rp K mg S v d) : ∀ (n : Nat) {ds : List D} {vs : List V}, Rps K mg S vs ds → Rps K mg S (vs.set n v) (ds.set n d)
  | _, [], _, x => by cases x; exact .nil
  | 0, _ :: ds, _, x => by cases x with | cons p q => exact .cons r q
  | n + 1, _ :: ds, _, x => by cases x with | cons p q => exact .cons p (Rps.set r n q)
theorem Rps.reverse {K : PySem.W.Frag} {mg : Str → Option Value} {S : Hp} : ∀ {ds : List D} {vs : List V}, Rps K mg S vs ds → Rps K mg S vs.reverse ds.reverse
  | [], _, x => by cases x; exact .nil
  | d :: ds, _, x => by cases x with | cons p q => simp only [List.reverse_cons]; exact Rps.append (Rps.reverse q) (.cons p .nil)
end Mc
end
section
set_option Elab.async false
set_option linter.all false
set_option maxRecDepth 100000
set_option maxHeartbeats 4000000
namespace Mc
open PySem PySem.Spec L2

/-! ### states and results -/
structure Pn where
  cells : List Int
  at_ : Int
  digits : Int
  count : Int
  fold : Int
/-- what a def may write: a pen, an object that is made -/
inductive Mo where
  | pen (p : Pn) | ob (c : Str) (fs : List (Str × D))
inductive Sl where
  | no | va (d : D) | ow (ds : List D) | pn (p : Mo)
abbrev ES := List Sl
inductive R where
  | va (d : D) | ow (ds : List D) | sl (i : Nat)
structure Ex where
  cls : Str
  fs : List (Str × D)
inductive Res (α : Type) where
  | ok (a : α) (ρ : ES) | er (x : Ex) (ρ : ES)
abbrev M (α : Type) := ES → Option (Res α)
def M.ret {α : Type} (a : α) : M α := fun ρ => some (.ok a ρ)
def M.lift {α : Type} (a : Option α) : M α := fun ρ => match a with | some x => some (.ok x ρ) | none => none
def M.bnd {α β : Type} (f : M α) (g : α → M β) : M β := fun ρ => match f ρ with
  | none => none
  | some (.ok a ρ') => g a ρ'
  | some (.er x ρ') => some (.er x ρ')

def penK (c : Addr) (p : Pn) : List (Key × V) := [(.inr "cells", .ref c), (.inr "at", .int p.at_), (.inr "digits", .int p.digits), (.inr "count", .int p.count), (.inr "fold", .int p.fold)]

set_option autoImplicit false
structure Bs where
  K : PySem.W.Frag
  mg : Str → Option Value
  H0 : Hp
  S0 : Hp
  B : Addr → Prop
  pa : Option (Addr × Addr)

def MoAt (K : PySem.W.Frag) (mg : Str → Option Value) (a c : Addr) (m : Mo) (S H : Hp) : Prop := S a = none ∧ match m with
  | .pen p => H a = some (.dK (penK c p)) ∧ S c = some (.lst (p.cells.map V.int))
  | .ob cl fs => ∃ C fv, H a = some (.ins C c fv) ∧ mg cl = some (.ref C) ∧ Rpf K mg S fv fs
theorem MoAt.there {K : PySem.W.Frag} {mg : Str → Option Value} {a c : Addr} {m : Mo} {S H : Hp} (h : MoAt K mg a c m S H) : ∃ o, H a = some o := by
  cases m with
  | pen p => exact ⟨_, h.2.1⟩
  | ob cl fs => obtain ⟨_, C, fv, e, _⟩ := h; exact ⟨_, e⟩
theorem MoAt.mono {K : PySem.W.Frag} {mg : Str → Option Value} {a c : Addr} {m : Mo} {S S' H : Hp} (h : MoAt K mg a c m S H) (s : Hsub S S') (n : S' a = none) : MoAt K mg a c m S' H := by
  cases m with
  | pen p => exact ⟨n, h.2.1, s _ _ h.2.2⟩
  | ob cl fs => obtain ⟨_, C, fv, e, m, r⟩ := h; exact ⟨n, C, fv, e, m, Rpf.mono s _ _ r⟩
theorem MoAt.heap {K : PySem.W.Frag} {mg : Str → Option Value} {a c : Addr} {m : Mo} {S H H' : Hp} (h : MoAt K mg a c m S H) (k : ∀ o, H a = some o → H' a = some o) : MoAt K mg a c m S H' := by
  cases m with
  | pen p => exact ⟨h.1, k _ h.2.1, h.2.2⟩
  | ob cl fs => obtain ⟨n, C, fv, e, m, r⟩ := h; exact ⟨n, C, fv, k _ e, m, r⟩
theorem MoAt.nl {K : PySem.W.Frag} {mg : Str → Option Value} {a c : Addr} {m : Mo} {S H : Hp} {vs : List V} (h : MoAt K mg a c m S H) (e : H a = some (.lst vs)) : False := by
  cases m with
  | pen p => have := h.2.1; rw [e] at this; cases this
  | ob cl fs => obtain ⟨_, C, fv, e2, _⟩ := h; rw [e] at e2; cases e2
def EqB (b' b : Bs) : Prop := b'.K = b.K ∧ b'.mg = b.mg
theorem EqB.refl (b : Bs) : EqB b b := ⟨rfl, rfl⟩
def SlOk (b : Bs) (S H : Hp) (o : Option (Option V)) : Sl → Prop
  | .no => True
  | .va d => ∃ v, o = some (some v) ∧ Rp b.K b.mg S v d
  | .ow ds => ∃ a vs, o = some (some (.ref a)) ∧ H a = some (.lst vs) ∧ S a = none ∧ Rps b.K b.mg S vs ds
  | .pn p => ∃ a c, o = some (some (.ref a)) ∧ MoAt b.K b.mg a c p S H ∧ b.pa = some (a, c)

def Sl.own : Sl → Bool
  | .ow _ => true
  | .pn _ => true
  | _ => false
def Own (ρ : ES) (σ : L2.St) (i : Nat) (a : Addr) : Prop := σ[i]? = some (some (.ref a)) ∧ ∃ s, ρ[i]? = some s ∧ s.own = true

structure Good (b : Bs) (σ : L2.St) (S H : Hp) (ρ : ES) : Prop where
  sub : Hsub S H
  len : ρ.length = σ.length
  sl : ∀ (i : Nat) (s : Sl), ρ[i]? = some s → SlOk b S H σ[i]? s
  dis : ∀ i j a, Own ρ σ i a → Own ρ σ j a → i = j
  k0 : ∀ a o, b.H0 a = some o → ¬ b.B a → H a = some o
  o0 : ∀ i a, Own ρ σ i a → b.H0 a = none ∨ b.B a
  s0 : Hsub b.S0 S
  n0 : ∀ a, S a ≠ none → b.S0 a ≠ none ∨ b.H0 a = none ∨ b.B a
  f0 : ∀ a, H a = none → b.H0 a = none

def RR (b : Bs) (σ : L2.St) (S H : Hp) (ρ : ES) (v : V) : R → Prop
  | .va d => Rp b.K b.mg S v d
  | .ow ds => ∃ a vs, v = .ref a ∧ H a = some (.lst vs) ∧ S a = none ∧ Rps b.K b.mg S vs ds ∧ (∀ i, ¬ Own ρ σ i a) ∧ (b.H0 a = none ∨ b.B a)
  | .sl i => σ[i]? = some (some v)

def XR (K : PySem.W.Frag) (mg : Str → Option Value) (S H : Hp) (cls : Value) (d : Option Addr) (x : Ex) : Prop :=
  ∃ C dx fv, cls = .ref C ∧ mg x.cls = some (.ref C) ∧ d = some dx ∧ H dx = some (.xd fv) ∧ Rpf K mg S fv x.fs
abbrev ExR (b : Bs) (S H : Hp) (cls : Value) (d : Option Addr) (x : Ex) : Prop := XR b.K b.mg S H cls d x

/-- the weakest precondition of a pure computation at a fixed frame -/
def WpO {α : Type} (b : Bs) (W : WX) (σ : L2.St) (o : Option (Res α)) (S : Hp) (P : Hp → Hp → ES → α → Prop) : Prop :=
  match o with
  | none => False
  | some (.ok a ρ') => ∀ S' H', Hsub S S' → Good b σ S' H' ρ' → P S' H' ρ' a
  | some (.er x ρ') => ∀ S' H' cls d, Hsub S S' → Good b σ S' H' ρ' → ExR b S' H' cls d x → W cls d σ H'
abbrev Wp {α : Type} (b : Bs) (W : WX) (σ : L2.St) (f : M α) (S H : Hp) (ρ : ES) (P : Hp → Hp → ES → α → Prop) : Prop := WpO b W σ (f ρ) S P

section
variable {α β : Type} {b : Bs} {W : WX} {σ : L2.St} {S S1 H : Hp} {ρ : ES}
theorem Wp.mono {f : M α} {P P' : Hp → Hp → ES → α → Prop} (h : Wp b W σ f S H ρ P) (k : ∀ S' H' ρ' a, Hsub S S' → Good b σ S' H' ρ' → P S' H' ρ' a → P' S' H' ρ' a) : Wp b W σ f S H ρ P' := by
  unfold Wp WpO at h ⊢
  split at h
  · exact h.elim
  · exact fun S' H' s g => k _ _ _ _ s g (h S' H' s g)
  · exact h
theorem WpO.sub {S' : Hp} {o : Option (Res α)} {P : Hp → Hp → ES → α → Prop} (h : WpO b W σ o S P) (s : Hsub S S') : WpO b W σ o S' P := by
  unfold WpO at h ⊢
  split at h
  · exact h
  · exact fun S2 H2 s2 => h S2 H2 (s.trans s2)
  · exact fun S2 H2 c d s2 => h S2 H2 c d (s.trans s2)
theorem Wp.bind {f : M α} {g : α → M β} {P : Hp → Hp → ES → β → Prop} (h : Wp b W σ (M.bnd f g) S H ρ P) :
    Wp b W σ f S H ρ fun S' H' ρ' a => Wp b W σ (g a) S' H' ρ' P := by
  unfold Wp M.bnd at h
  unfold Wp
  cases e : f ρ with
  | none => rw [e] at h; exact h
  | some r =>
    rw [e] at h
    cases r with
    | er x ρ' => exact h
    | ok a ρ' =>
      intro S' H' s G
      exact WpO.sub (show WpO b W σ (g a ρ') S P from h) s
theorem wp_step {f : M α} {P : Hp → Hp → ES → α → Prop} {o : Option (Res α)} (h : f ρ = o) (w : Wp b W σ f S H ρ P) : WpO b W σ o S P := h ▸ w
theorem wp_none {f : M α} {P : Hp → Hp → ES → α → Prop} {Z : Prop} (h : f ρ = none) (w : Wp b W σ f S H ρ P) : Z := False.elim (wp_step h w)
theorem wp_ok {f : M α} {P : Hp → Hp → ES → α → Prop} {a : α} {ρ' : ES} (h : f ρ = some (.ok a ρ')) (w : Wp b W σ f S H ρ P) {S' H' : Hp} (s : Hsub S S') (G : Good b σ S' H' ρ') : P S' H' ρ' a := wp_step h w S' H' s G
theorem wp_is {f g : M α} {P : Hp → Hp → ES → α → Prop} (h : f ρ = g ρ) (w : Wp b W σ f S H ρ P) : Wp b W σ g S H ρ P := by
  unfold Wp at w ⊢
  rw [← h]
  exact w
theorem Wp.ret {a : α} {P : Hp → Hp → ES → α → Prop} (h : Wp b W σ (M.ret a) S H ρ P) (G : Good b σ S H ρ) : P S H ρ a := h S H (Hsub.refl S) G
theorem Wp.at' {f : M α} {P : Hp → Hp → ES → α → Prop} (h : Wp b W σ f S H ρ P) {a : α} {ρ' : ES} (e : f ρ = some (.ok a ρ')) {S' H' : Hp} (s : Hsub S S') (G : Good b σ S' H' ρ') : P S' H' ρ' a := by
  exact wp_ok e h s G
end

/-! ### readings: the base is chosen where they are used -/
def rE (b0 : Bs) (W : WX) (f : M R) : TE := fun σ H Q => ∃ b S ρ, EqB b b0 ∧ Good b σ S H ρ ∧ Wp b W σ f S H ρ fun S' H' ρ' r => ∀ v, RR b σ S' H' ρ' v r → Q v H'
theorem PE.weak {X : Cx} {e : Expr} {t t' : TE} (h : PE X e t) (k : ∀ σ H Q, t' σ H Q → t σ H Q) : PE X e t' := ⟨fun pins s σ H Q I hw => h.run pins s σ H Q I (k σ H Q hw)⟩
theorem PT.weak {X : Cx} {e : Expr} {t t' : TT} (h : PT X e t) (k : ∀ σ H Q, t' σ H Q → t σ H Q) : PT X e t' := ⟨fun pins s σ H Q I hw => h.run pins s σ H Q I (k σ H Q hw)⟩
theorem PA.weak {X : Cx} {e : List Expr} {t t' : TA} (h : PA X e t) (k : ∀ σ H Q, t' σ H Q → t σ H Q) : PA X e t' := ⟨fun pos pins s σ H Q I hw => h.run pos pins s σ H Q I (k σ H Q hw)⟩
theorem PS.weak {X : Cx} {e : Stmt} {t t' : TS} (h : PS X e t) (k : ∀ D σ H, t' D σ H → t D σ H) : PS X e t' := ⟨fun pins s σ H D I hw => h.run pins s σ H D I (k D σ H hw)⟩
theorem PSs.weak {X : Cx} {e : List Stmt} {t t' : TS} (h : PSs X e t) (k : ∀ D σ H, t' D σ H → t D σ H) : PSs X e t' := ⟨fun pins s σ H D I hw => h.run pins s σ H D I (k D σ H hw)⟩

/-! ### the state's laws -/
section
variable {b : Bs} {σ : L2.St} {S H : Hp} {ρ : ES} {p : Addr} {o : HO}
theorem Good.sn (G : Good b σ S H ρ) {a : Addr} (h : H a = none) : S a = none := by
  cases e : S a with
  | none => rfl
  | some o => rw [G.sub _ _ e] at h; cases h
theorem SlOk.mono {S' : Hp} {x : Option (Option V)} {s : Sl} (h : SlOk b S H x s) (k : Hsub S S') (n : ∀ a, x = some (some (.ref a)) → s.own = true → S' a = none) : SlOk b S' H x s := by
  cases s with
  | no => trivial
  | va d => obtain ⟨v, e, r⟩ := h; exact ⟨v, e, Rp.mono k _ _ r⟩
  | ow ds => obtain ⟨a, vs, e, r1, r2, r3⟩ := h; exact ⟨a, vs, e, r1, n a e rfl, Rps.mono k _ _ r3⟩
  | pn p => obtain ⟨a, c, e, r1, r4⟩ := h; exact ⟨a, c, e, r1.mono k (n a e rfl), r4⟩
theorem SlOk.heap {H' : Hp} {x : Option (Option V)} {s : Sl} (h : SlOk b S H x s) (n : ∀ a o, x = some (some (.ref a)) → s.own = true → H a = some o → H' a = some o) : SlOk b S H' x s := by
  cases s with
  | no => trivial
  | va d => exact h
  | ow ds => obtain ⟨a, vs, e, r1, r2, r3⟩ := h; exact ⟨a, vs, e, n a _ e rfl r1, r2, r3⟩
  | pn p => obtain ⟨a, c, e, r1, r4⟩ := h; exact ⟨a, c, e, r1.heap fun o ho => n a o e rfl ho, r4⟩
theorem Good.ownat (G : Good b σ S H ρ) {i : Nat} {a : Addr} (h : Own ρ σ i a) : (∃ o, H a = some o) ∧ S a = none := by
  obtain ⟨e, s, hs, ho⟩ := h
  have k := G.sl i s hs
  cases s with
  | no => cases ho
  | va d => cases ho
  | ow ds =>
    obtain ⟨a', vs, e', r1, r2, r3⟩ := k
    rw [e] at e'; cases e'
    exact ⟨⟨_, r1⟩, r2⟩
  | pn p =>
    obtain ⟨a', c, e', r1, r2⟩ := k
    rw [e] at e'; cases e'
    exact ⟨r1.there, r1.1⟩
/-- a new object, not (yet) stable -/
theorem Good.newH (G : Good b σ S H ρ) (hp : H p = none) : Good b σ S (upd H p o) ρ where
  sub := fun a u e => by
    rw [upd_ne (ne_of_none (G.sub _ _ e) hp)]
    exact G.sub _ _ e
  len := G.len
  sl := fun i s e => (G.sl i s e).heap fun a u _ _ ha => by
    rw [upd_ne (ne_of_none ha hp)]
    exact ha
  dis := G.dis
  k0 := fun a u e n => by
    rw [upd_ne (ne_of_none (G.k0 a u e n) hp)]
    exact G.k0 a u e n
  o0 := G.o0
  s0 := G.s0
  n0 := G.n0
  f0 := fun a e => G.f0 a (by
    by_cases h : a = p
    · subst h; exact hp
    · rw [upd_ne h] at e; exact e)
/-- an object is held stable from now on -/
theorem Good.hold (G : Good b σ S H ρ) (hp : H p = some o) (hn : ∀ i, ¬ Own ρ σ i p) (hs : S p = none) (h0 : b.H0 p = none ∨ b.B p) : Good b σ (upd S p o) H ρ where
  sub := fun a u e => by
    by_cases h : a = p
    · subst h; rw [upd_same] at e; cases e; exact hp
    · rw [upd_ne h] at e; exact G.sub _ _ e
  len := G.len
  sl := fun i s e => (G.sl i s e).mono (Hsub.new hs) fun a ha ho => by
    have w : Own ρ σ i a := ⟨ha, s, e, ho⟩
    by_cases h : a = p
    · subst h; exact (hn i w).elim
    · rw [upd_ne h]; exact (G.ownat w).2
  dis := G.dis
  k0 := G.k0
  o0 := G.o0
  s0 := G.s0.trans (Hsub.new hs)
  n0 := fun a e => by
    by_cases h : a = p
    · subst h; exact Or.inr h0
    · rw [upd_ne h] at e; exact G.n0 a e
  f0 := G.f0
/-- a new stable object -/
theorem Good.new (G : Good b σ S H ρ) (hp : H p = none) : Good b σ (upd S p o) (upd H p o) ρ :=
  (G.newH hp).hold upd_same (fun i w => by
    obtain ⟨⟨u, e⟩, _⟩ := G.ownat w
    rw [hp] at e; cases e) (G.sn hp) (Or.inl (G.f0 _ hp))
end

/-! ### the base taken anew -/
def re (b : Bs) (σ : L2.St) (S H : Hp) (ρ : ES) : Bs := ⟨b.K, b.mg, H, S, fun a => ∃ i, Own ρ σ i a, b.pa⟩
section
variable {b : Bs} {σ σ' : L2.St} {S H S' H' : Hp} {ρ ρ' : ES}
theorem SlOk.re {b' : Bs} {x : Option (Option V)} {s : Sl} (e : EqB b' b) (ep : b'.pa = b.pa) (h : SlOk b S H x s) : SlOk b' S H x s := by
  obtain ⟨eK, em⟩ := e
  cases s with
  | no => trivial
  | va d => obtain ⟨v, q, r⟩ := h; exact ⟨v, q, by rw [eK, em]; exact r⟩
  | ow ds => obtain ⟨a, vs, q, r1, r2, r3⟩ := h; exact ⟨a, vs, q, r1, r2, by rw [eK, em]; exact r3⟩
  | pn p => obtain ⟨a, c, q, r1, r4⟩ := h; exact ⟨a, c, q, by rw [eK, em]; exact r1, ep.trans r4⟩
theorem Good.re (G : Good b σ S H ρ) : Good (re b σ S H ρ) σ S H ρ :=
  ⟨G.sub, G.len, fun i s e => (G.sl i s e).re ⟨rfl, rfl⟩ rfl, G.dis, fun a o e _ => e, fun i a w => Or.inr ⟨i, w⟩, Hsub.refl _, fun a e => Or.inl e, fun a e => e⟩
theorem Good.tr (G : Good b σ S H ρ) (G' : Good (Mc.re b σ S H ρ) σ' S' H' ρ') : Good b σ' S' H' ρ' where
  sub := G'.sub
  len := G'.len
  sl := fun i s e => (G'.sl i s e).re ⟨rfl, rfl⟩ rfl
  dis := G'.dis
  k0 := fun a o e n => G'.k0 a o (G.k0 a o e n) fun ⟨i, w⟩ => by
    rcases G.o0 i a w with z | z
    · rw [e] at z; cases z
    · exact n z
  o0 := fun i a w => by
    rcases G'.o0 i a w with z | ⟨j, z⟩
    · exact Or.inl (G.f0 a z)
    · exact G.o0 j a z
  s0 := G.s0.trans G'.s0
  n0 := fun a e => by
    rcases G'.n0 a e with z | z | ⟨j, z⟩
    · exact G.n0 a z
    · exact Or.inr (Or.inl (G.f0 a z))
    · exact Or.inr (G.o0 j a z)
  f0 := fun a e => G.f0 a (G'.f0 a e)
theorem RR.re {v : V} {r : R} (G : Good b σ S H ρ) (h : RR (Mc.re b σ S H ρ) σ' S' H' ρ' v r) : RR b σ' S' H' ρ' v r := by
  cases r with
  | va d => exact h
  | sl i => exact h
  | ow ds => obtain ⟨a, vs, e, r1, r2, r3, r4, r5⟩ := h; exact ⟨a, vs, e, r1, r2, r3, r4, r5.elim (fun z => Or.inl (G.f0 a z)) fun ⟨i, w⟩ => G.o0 i a w⟩
end

/-! ### an operand: a new list is held stable -/
def R.frz : R → R
  | .ow ds => .va (.lst ds)
  | r => r
def frzM (f : M R) : M R := M.bnd f fun r => M.ret r.frz
def RF (b : Bs) (σ : L2.St) (S : Hp) (v : V) : R → Prop
  | .va d => Rp b.K b.mg S v d
  | .ow ds => False
  | .sl i => σ[i]? = some (some v)
theorem RF.mono {b : Bs} {σ : L2.St} {S S' : Hp} {v : V} {r : R} (h : RF b σ S v r) (k : Hsub S S') : RF b σ S' v r := by
  cases r with
  | va d => exact Rp.mono k _ _ h
  | ow ds => exact h
  | sl i => exact h
theorem Wp.frz {β : Type} {b : Bs} {W : WX} {σ : L2.St} {f : M R} {g : R → M β} {S H : Hp} {ρ : ES} {P : Hp → Hp → ES → β → Prop} (h : Wp b W σ (M.bnd (frzM f) g) S H ρ P) {K : VK}
    (k : ∀ S' H' ρ' r v, Hsub S S' → Good b σ S' H' ρ' → RF b σ S' v r → Wp b W σ (g r) S' H' ρ' P → K v H') :
    Wp b W σ f S H ρ fun S' H' ρ' r => ∀ v, RR b σ S' H' ρ' v r → K v H' := by
  have h1 := (Wp.bind h)
  have h2 := (Wp.bind (f := f) (g := fun r => M.ret r.frz) h1)
  refine Wp.mono h2 fun S' H' ρ' r s G q v hv => ?_
  cases r with
  | va d => exact k S' H' ρ' (.va d) v s G hv (q S' H' (Hsub.refl _) G)
  | sl i => exact k S' H' ρ' (.sl i) v s G hv (q S' H' (Hsub.refl _) G)
  | ow ds =>
    obtain ⟨a, vs, rfl, hH, hS, hr, hn, h0⟩ := hv
    have G' := G.hold hH hn hS h0
    have sb : Hsub S' (upd S' a (.lst vs)) := Hsub.new hS
    refine k (upd S' a (.lst vs)) H' ρ' (.va (.lst ds)) (.ref a) (s.trans sb) G' ?_ (q _ H' sb G')
    exact .lst upd_same (Rps.mono sb _ _ hr)
theorem Wp.frz0 {b : Bs} {W : WX} {σ : L2.St} {f : M R} {S H : Hp} {ρ : ES} {P : Hp → Hp → ES → R → Prop} (h : Wp b W σ (frzM f) S H ρ P) {K : VK}
    (k : ∀ S' H' ρ' r v, Hsub S S' → Good b σ S' H' ρ' → RF b σ S' v r → P S' H' ρ' r → K v H') :
    Wp b W σ f S H ρ fun S' H' ρ' r => ∀ v, RR b σ S' H' ρ' v r → K v H' := by
  have h2 := (Wp.bind (f := f) (g := fun r => M.ret r.frz) h)
  refine Wp.mono h2 fun S' H' ρ' r s G q v hv => ?_
  cases r with
  | va d => exact k S' H' ρ' (.va d) v s G hv (q S' H' (Hsub.refl _) G)
  | sl i => exact k S' H' ρ' (.sl i) v s G hv (q S' H' (Hsub.refl _) G)
  | ow ds =>
    obtain ⟨a, vs, rfl, hH, hS, hr, hn, h0⟩ := hv
    have G' := G.hold hH hn hS h0
    have sb : Hsub S' (upd S' a (.lst vs)) := Hsub.new hS
    refine k (upd S' a (.lst vs)) H' ρ' (.va (.lst ds)) (.ref a) (s.trans sb) G' ?_ (q _ H' sb G')
    exact .lst upd_same (Rps.mono sb _ _ hr)
def rdD (ρ : ES) : R → Option D
  | .va d => some d
  | .ow ds => some (.lst ds)
  | .sl i => match ρ[i]? with
    | some (.ow ds) => some (.lst ds)
    | some (.va d) => some d
    | _ => none
/-- the heap that a reader sees: the stable part and the lists of the frame -/
theorem RF.rd {b : Bs} {σ : L2.St} {S H : Hp} {ρ : ES} {v : V} {r : R} {d : D} (G : Good b σ S H ρ) (h : RF b σ S v r) (e : rdD ρ r = some d) : Rp b.K b.mg H v d := by
  cases r with
  | va d' => cases e; exact Rp.mono G.sub _ _ h
  | ow ds => exact h.elim
  | sl i =>
    unfold rdD at e
    simp only at e
    split at e
    · rename_i ds hi
      cases e
      obtain ⟨a, vs, e1, r1, r2, r3⟩ := G.sl i _ hi
      have hv : σ[i]? = some (some v) := h
      rw [hv] at e1
      cases e1
      exact .lst r1 (Rps.mono G.sub _ _ r3)
    · rename_i d' hi
      cases e
      obtain ⟨v', e1, r1⟩ := G.sl i _ hi
      have hv : σ[i]? = some (some v) := h
      rw [hv] at e1
      cases e1
      exact Rp.mono G.sub _ _ r1
    · cases e

/-! ### new tuples: the object is known -/
def TupO (o : Obj) : Prop := o.cls = .type "tuple" ∧ o.dict = none
def NewT (H : Hp) (Q : VK) (xs : List V) : Prop := ∀ p o, H p = none → TupO o → Q (.ref p) (upd H p (.frz o (.tup xs)))
section
variable {X : Cx} {pins : List (Addr × Obj)} {σ : L2.St} {H : Hp} {s : Shared}
theorem NewT.use {Q : VK} {xs : List V} {its : List Value} (q : NewT H Q xs) (I : Inv X pins σ H s) (r : Vals xs its) (hz : xs.length ≤ sizeLine) : EP X pins σ Q (.ref s.heap.objs.size) { s with heap := s.heap.push { cls := .type "tuple", data := .seq its.toArray } } :=
  ⟨.ref _, _, I.laid (t' := s.toks) (o := .frz { cls := .type "tuple", data := .seq its.toArray } (.tup xs)) (fun _ _ e => Heap.get?_push_of_some _ e) (Nat.le_refl _) ⟨Heap.get?_push_size _ rfl, hz, its, r, ⟨_, Heap.get?_push_size _ rfl, rfl, _, rfl⟩⟩, rfl, q _ _ (I.hok.fresh (Nat.le_refl _)) ⟨rfl, rfl⟩⟩
def tTupX (t : TA) : TE := fun σ H Q => t σ H fun xs H1 => xs.length ≤ sizeLine ∧ NewT H1 Q xs
theorem pe_tupX {es : List Expr} {k : Nat} {t : TA} {pos : Pos} (h : PA X es t) : PE X (.Tuple es k pos) (tTupX t) := by
  refine ⟨fun pins s σ H Q I hq => wpAny_Tuple_spliced (thn (h.run pos pins s σ H _ I hq) fun us s1 ⟨xs, H1, I1, r, z, q⟩ => ⟨by rw [← r.length]; exact z, ?_⟩)⟩
  obtain ⟨v, H2, I2, rv, q2⟩ := q.use I1 r z
  exact ⟨v, H2, I2, rv, q2⟩
def rCatX (K : PySem.W.Frag) : R2 := fun x y H Q => ∃ a b xs ys, x = .ref a ∧ y = .ref b ∧ SqT K H a xs ∧ SqT K H b ys ∧ xs.length + ys.length ≤ sizeLine ∧
  (xs = [] → Q (.ref b) H) ∧ (xs ≠ [] → ys = [] → Q (.ref a) H) ∧ (xs ≠ [] → ys ≠ [] → NewT H Q (xs ++ ys))
theorem nil_of {xs : List V} {us : List Value} (r : Vals xs us) : us = [] ↔ xs = [] := by
  cases r <;> simp
theorem op_catX : OpR X (binaryOp .Add) (rCatX X.K) := by
  intro pins s σ H x y v u Q I rx ry ⟨a, b, xs, ys, ex, ey, ha, hb, hz, q0, q1, q2⟩
  subst ex ey
  cases rx
  cases ry
  obtain ⟨its, r1, p1, _⟩ := I.tuple ha
  obtain ⟨its2, r2, p2, _⟩ := I.tuple hb
  by_cases hx : xs = []
  · have e := (nil_of r1).mpr hx
    subst e
    exact L2.cat_tup0 p1 p2 ⟨.ref b, H, I, rfl, q0 hx⟩
  · exact HT.cat_tup p1 p2 (fun z => hx ((nil_of r1).mp z)) (fun z => ⟨.ref a, H, I, rfl, q1 hx ((nil_of r2).mp z)⟩) (fun z => (q2 hx fun w => z ((nil_of r2).mpr w)).use I (r1.append r2) (by rw [List.length_append]; exact hz)) (by rw [← r1.length, ← r2.length]; exact hz)
def rRepX (K : PySem.W.Frag) : R2 := fun x y H Q => ∃ l k xs, x = .ref l ∧ y = .int k ∧ SqT K H l xs ∧ xs ≠ [] ∧ 2 ≤ k ∧ k ≤ 1000 ∧ xs.length ≤ 1000 ∧ NewT H Q (List.replicate k.toNat xs).flatten
theorem op_repX : OpR X (binaryOp .Mult) (rRepX X.K) := by
  intro pins s σ H x y v u Q I rx ry ⟨l, k, xs, ex, ey, hT, hne, h1, h2, hz, q⟩
  subst ex ey
  cases rx
  obtain ⟨t, rfl⟩ := ry
  obtain ⟨its, r, ⟨⟨cls, dd, data, sl⟩, ho, hc, n, hd⟩, hs⟩ := I.tuple hT
  simp only at hc hd
  subst hc hd
  have hle : its.length = xs.length := r.length.symm
  have hi : its.toArray.isEmpty = false := by
    cases its with
    | nil => exact absurd ((nil_of r).mp rfl) hne
    | cons a b => rfl
  have hm : ((its.toArray.size : Nat) : Int) * k ≤ 1000000 := by
    rw [List.size_toArray, hle]
    have a1 : ((xs.length : Nat) : Int) * k ≤ 1000 * k := Int.mul_le_mul_of_nonneg_right (by omega) (by omega)
    omega
  have a2 : k.toNat * xs.length ≤ 1000 * 1000 := Nat.mul_le_mul (by omega) hz
  have c0 : (decide (k < -(2 ^ 63)) || decide (k ≥ 2 ^ 63)) = false := Bool.or_eq_false_iff.mpr ⟨decide_eq_false (by omega), decide_eq_false (by omega)⟩
  have c1 : (its.toArray.isEmpty || k == 1) = false := Bool.or_eq_false_iff.mpr ⟨hi, beq_eq_false_iff_ne.mpr (by omega)⟩
  have c2 : (decide (k ≤ 0) || its.toArray.isEmpty) = false := Bool.or_eq_false_iff.mpr ⟨decide_eq_false (by omega), hi⟩
  have c4 : Builtin.Tuple.tupleTooMany (((its.toArray.size : Nat) : Int) * k) = false := by
    unfold Builtin.Tuple.tupleTooMany
    rw [sizeLine_eq]
    exact decide_eq_false (by omega)
  refine wpAny_binaryOp_repeat_ref (T := "tuple") (U := "int") (by decide) ⟨_, ho, rfl⟩ (fun s' => typeIs_int s' k t) noFill_tuple_mul PySem.F.fills_int_mul PySem.F.slot_int_rmul repeat_tuple PySem.F.slot_int_index.lookup
    (call_meets PySem.F.slot_int_rmul (typeIs_int s k t) PySem.F.entry_int_rmul (PySem.F.args_int_rmul_2 _ _) (int_rmul_tuple k t l its.toArray n dd sl)
      ⟨ho, rfl, ⟨_, ho, rfl⟩, call_meets PySem.F.slot_tuple_mul ⟨_, ho, rfl⟩ PySem.F.entry_tuple_mul (PySem.F.args_tuple_mul_2 _ _) (tuple_mulW l its.toArray n dd sl k t c0 c1 c2 (by omega) c4 (by rw [size_rep, List.size_toArray, PyProof.Rows.lm_len_rep_flat, hle, sizeLine_eq]; omega)) ⟨ho, ?_⟩⟩)
  rw [size_rep]
  exact q.use I (r.rep k.toNat) (by rw [PyProof.Rows.lm_len_rep_flat, sizeLine_eq]; omega)
def rTupX (K : PySem.W.Frag) : List V → Hp → VK → Prop := fun xs H Q => ∃ p ys, xs = [.ref p] ∧ ((SqL K H p ys ∧ NewT H Q ys) ∨ (SqT K H p ys ∧ Q (.ref p) H))
theorem call_tupX : CallR X (.type "tuple") (rTupX X.K) := by
  intro pins s σ H xs us Q I r ⟨p, ys, ex, h⟩
  subst ex
  obtain ⟨u, rfl, rx⟩ := vals1 r
  cases rx
  rcases h with ⟨hq, q⟩ | ⟨hq, q⟩
  · obtain ⟨its, r', pl, hz⟩ := I.list hq
    have hlen := r'.length
    exact call_tuple_list pl.isList (fun h' kp => q.use (I.kept (t' := s.toks) kp) r' hz) (by simp only [List.size_toArray] <;> omega)
  · obtain ⟨its, r', pl, hz⟩ := I.tuple hq
    exact call_tuple_same pl ⟨.ref p, H, I, rfl, q⟩
def rSlX (K : PySem.W.Frag) : V → Option Int → Option Int → Hp → VK → Prop := fun x lo hi H Q => ∃ a xs, x = .ref a ∧ SqT K H a xs ∧
  (HT.sIx xs.length 0 lo = 0 ∧ HT.sIx xs.length xs.length hi = xs.length → Q (.ref a) H) ∧ (¬ (HT.sIx xs.length 0 lo = 0 ∧ HT.sIx xs.length xs.length hi = xs.length) → NewT H Q (cutV xs lo hi))
theorem sl_tupX : SlR X (rSlX X.K) := by
  intro pins s σ H x v vl vu lo hi sl Q I rx hs pl pu ⟨a, xs, ex, hx, q1, q2⟩
  subst ex
  cases rx
  obtain ⟨its, r, ht, hz⟩ := I.tuple hx
  have hlen : its.toArray.size = xs.length := by rw [List.size_toArray]; exact r.length.symm
  refine ⟨"tuple", _, PyProof.Rows.slot_tuple_getitem.lookup, ht.typeIs, ?_⟩
  by_cases hw : HT.sIx xs.length 0 lo = 0 ∧ HT.sIx xs.length xs.length hi = xs.length
  · exact L2.getItem_tuple_whole ht hs pl pu (by rw [hlen]; exact hw) ⟨.ref a, H, I, rfl, q1 hw⟩
  · refine HT.getItem_tuple_cut ht hs pl pu (by rw [hlen]; exact hw) ?_ (by rw [hlen]; exact hz)
    rw [hlen]
    exact (q2 hw).use I ((r.drop (HT.sIx xs.length 0 lo)).take (HT.sIx xs.length xs.length hi - HT.sIx xs.length 0 lo)) (Nat.le_trans (cutV_length xs lo hi) hz)
end
end Mc
end
section
set_option Elab.async false
set_option linter.all false
set_option maxRecDepth 100000
set_option maxHeartbeats 4000000
set_option autoImplicit false
namespace Mc
open PySem PySem.Spec L2

structure OKx (b : Bs) (L : Nat) (X : Cx) : Prop where
  K : X.K = b.K
  mg : X.mg = b.mg
  calm : X.calm = true
  nd : X.N.Nodup
  rm : Room L X.A
theorem OKx.un {b : Bs} {L : Nat} {X : Cx} (o : OKx b L X) : X.A.units + 128 < cLine := by have := o.rm.un; omega

/-- what a reader sees -/
def RV (b : Bs) (S H : Hp) (v : V) : D → Prop
  | .lst ds => ∃ a vs, v = .ref a ∧ H a = some (.lst vs) ∧ Rps b.K b.mg S vs ds
  | .non => v = .non
  | .bl c => v = .bl c
  | .int i => v = .int i
  | .str s => v = .str s
  | .tup ds => ∃ a vs, v = .ref a ∧ SqX b.K S a vs ∧ Rps b.K b.mg S vs ds
  | .ob c fs => Rp b.K b.mg S v (.ob c fs)
  | .dic kvs => Rp b.K b.mg S v (.dic kvs)
  | .fn x => Rp b.K b.mg S v (.fn x)
theorem RV.of {b : Bs} {S H : Hp} {v : V} {d : D} (h : Rp b.K b.mg S v d) (s : Hsub S H) : RV b S H v d := by
  cases h with
  | non => rfl
  | bl c => rfl
  | int i => rfl
  | str x => rfl
  | tup p q => exact ⟨_, _, rfl, p, q⟩
  | lst p q => exact ⟨_, _, rfl, s _ _ p, q⟩
  | ob p m q => exact .ob p m q
  | fn m => exact .fn m
theorem RV.rp {b : Bs} {S H : Hp} {v : V} {d : D} (h : RV b S H v d) (s : Hsub S H) : Rp b.K b.mg H v d := by
  cases d with
  | lst ds => obtain ⟨a, vs, rfl, p, q⟩ := h; exact .lst p (Rps.mono s _ _ q)
  | non => cases h; exact .non
  | bl c => cases h; exact .bl c
  | int i => cases h; exact .int i
  | str x => cases h; exact .str x
  | tup ds => obtain ⟨a, vs, rfl, p, q⟩ := h; exact .tup (sqx_mono s p) (Rps.mono s _ _ q)
  | ob c fs => exact Rp.mono s _ _ h
  | dic k => exact Rp.mono s _ _ h
  | fn x => exact Rp.mono s _ _ h
theorem RF.rv {b : Bs} {σ : L2.St} {S H : Hp} {ρ : ES} {v : V} {r : R} {d : D} (G : Good b σ S H ρ) (h : RF b σ S v r) (e : rdD ρ r = some d) : RV b S H v d := by
  cases r with
  | va d' => cases e; exact RV.of h G.sub
  | ow ds => exact h.elim
  | sl i =>
    unfold rdD at e
    simp only at e
    split at e
    · rename_i ds hi
      cases e
      obtain ⟨a, vs, e1, r1, r2, r3⟩ := G.sl i _ hi
      have hv : σ[i]? = some (some v) := h
      rw [hv] at e1
      cases e1
      exact ⟨_, _, rfl, r1, r3⟩
    · rename_i d' hi
      cases e
      obtain ⟨v', e1, r1⟩ := G.sl i _ hi
      have hv : σ[i]? = some (some v) := h
      rw [hv] at e1
      cases e1
      exact RV.of r1 G.sub
    · cases e

section
variable {b : Bs} {W : WX} {L : Nat} {X : Cx} {pos : Pos} {e1 e2 : Expr} {fa fb : M R}

/-! ### names, constants -/
def evVar (i : Nat) : M R := fun ρ => match ρ[i]? with
  | some (.va d) => some (.ok (.va d) ρ)
  | some (.ow _) => some (.ok (.sl i) ρ)
  | some (.pn _) => some (.ok (.sl i) ρ)
  | _ => none
def evC (d : D) : M R := M.ret (.va d)
theorem pe_v (i : Nat) {x : Str} (hN : X.N[i]? = some x := by rfl) (hv : Vis X.env.scope x := by first | exact Or.inl rfl | exact Or.inr (Or.inl rfl) | exact Or.inr (Or.inr rfl)) (hd : (x == ("__debug__" : Str)) = false := by decide)
    (hcd : (x == ("__classdict__" : Str)) = false := by decide) : PE X (.Name x pos) (rE b W (evVar i)) := by
  refine PE.weak (pe_var hN hv hd hcd) fun σ H Q ⟨b, S, ρ, eb, G, h⟩ => ?_
  unfold Wp WpO evVar at h
  cases e : ρ[i]? with
  | none => rw [e] at h; exact h.elim
  | some s =>
    rw [e] at h
    have k := G.sl i s e
    cases s with
    | no => exact h.elim
    | va d =>
      obtain ⟨v, hv, r⟩ := k
      exact ⟨v, hv, h S H (Hsub.refl _) G v r⟩
    | ow ds =>
      obtain ⟨a, vs, hv, _⟩ := k
      exact ⟨_, hv, h S H (Hsub.refl _) G _ hv⟩
    | pn p =>
      obtain ⟨a, c, hv, _⟩ := k
      exact ⟨_, hv, h S H (Hsub.refl _) G _ hv⟩
theorem pe_ci {i : Int} {j : Nat} : PE X (.Constant (.int i) j pos) (rE b W (evC (.int i))) :=
  PE.weak pe_int fun σ H Q ⟨b, S, ρ, eb, G, h⟩ => h S H (Hsub.refl _) G _ (.int i)
theorem pe_cb {i : Bool} {j : Nat} : PE X (.Constant (.bool i) j pos) (rE b W (evC (.bl i))) :=
  PE.weak pe_bl fun σ H Q ⟨b, S, ρ, eb, G, h⟩ => h S H (Hsub.refl _) G _ (.bl i)
theorem pe_cn {j : Nat} : PE X (.Constant .none j pos) (rE b W (evC .non)) :=
  PE.weak pe_non fun σ H Q ⟨b, S, ρ, eb, G, h⟩ => h S H (Hsub.refl _) G _ .non
theorem pe_cs {i : Str} {j : Nat} : PE X (.Constant (.str i) j pos) (rE b W (evC (.str i))) :=
  PE.weak pe_str fun σ H Q ⟨b, S, ρ, eb, G, h⟩ => h S H (Hsub.refl _) G _ (.str i)

/-! ### arguments -/
def evNil : M (List R) := M.ret []
def evCons (fa : M R) (fr : M (List R)) : M (List R) := M.bnd (frzM fa) fun r => M.bnd fr fun rs => M.ret (r :: rs)
inductive RFs (b : Bs) (σ : L2.St) (S : Hp) : List V → List R → Prop
  | nil : RFs b σ S [] []
  | cons {v : V} {vs : List V} {r : R} {rs : List R} : RF b σ S v r → RFs b σ S vs rs → RFs b σ S (v :: vs) (r :: rs)
theorem RFs.mono {b : Bs} {σ : L2.St} {S S' : Hp} {vs : List V} {rs : List R} (h : RFs b σ S vs rs) (k : Hsub S S') : RFs b σ S' vs rs := by
  induction h with
  | nil => exact .nil
  | cons q _ ih => exact .cons (q.mono k) ih
def rAr (b0 : Bs) (W : WX) (f : M (List R)) : TA := fun σ H Q => ∃ b S ρ, EqB b b0 ∧ Good b σ S H ρ ∧ Wp b W σ f S H ρ fun S' H' ρ' rs => ∀ vs, RFs b σ S' vs rs → Q vs H'
theorem pa_n : PA X [] (rAr b W evNil) := PA.weak pa_nil fun σ H Q ⟨b, S, ρ, eb, G, h⟩ => h S H (Hsub.refl _) G [] .nil
theorem pa_c {es : List Expr} {fr : M (List R)} (ha : PE X e1 (rE b W fa)) (hr : PA X es (rAr b W fr)) (hs : starEach (e1 :: es) X.env = (false, eval e1 X.env) :: starEach es X.env := by rfl) :
    PA X (e1 :: es) (rAr b W (evCons fa fr)) := by
  refine PA.weak (pa_cons ha hr hs) fun σ H Q ⟨b, S, ρ, eb, G, h⟩ => ⟨b, S, ρ, eb, G, Wp.frz (K := fun x H1 => rAr _ W fr σ H1 fun xs H2 => Q (x :: xs) H2) h fun S1 H1 ρ1 r v s1 G1 f1 h1 => ⟨b, S1, ρ1, eb, G1, ?_⟩⟩
  refine Wp.mono (Wp.bind h1) fun S2 H2 ρ2 rs s2 G2 q vs hvs => ?_
  exact q S2 H2 (Hsub.refl _) G2 _ (.cons (f1.mono s2) hvs)

/-! ### a value that is stored: an alias of a frame's list is held stable -/
def frzS (r : R) : M D := fun ρ => match r with
  | .va d => some (.ok d ρ)
  | .ow ds => none
  | .sl i => match ρ[i]? with
    | some (.ow ds) => some (.ok (.lst ds) (ρ.set i (.va (.lst ds))))
    | some (.va d) => some (.ok d ρ)
    | _ => none
def frzSs : List R → M (List D)
  | [] => M.ret []
  | r :: rs => M.bnd (frzS r) fun d => M.bnd (frzSs rs) fun ds => M.ret (d :: ds)
theorem Good.settle {σ : L2.St} {S H : Hp} {ρ : ES} {i : Nat} {a : Addr} {vs : List V} {ds : List D} (G : Good b σ S H ρ) (hi : ρ[i]? = some (.ow ds)) (hv : σ[i]? = some (some (.ref a))) (hH : H a = some (.lst vs)) (hS : S a = none) (hr : Rps b.K b.mg S vs ds) : Good b σ (upd S a (.lst vs)) H (ρ.set i (.va (.lst ds))) := by
  have hlt : i < ρ.length := (List.getElem?_eq_some_iff.mp hi).1
  have keep : ∀ {j c}, Own (ρ.set i (.va (.lst ds))) σ j c → j ≠ i ∧ Own ρ σ j c := by
    rintro j c ⟨h1, s, h2, h3⟩
    by_cases hj : j = i
    · subst hj
      rw [List.getElem?_set_self hlt] at h2
      cases h2
      cases h3
    · rw [List.getElem?_set_ne (Ne.symm hj)] at h2
      exact ⟨hj, h1, s, h2, h3⟩
  have w : Own ρ σ i a := ⟨hv, _, hi, rfl⟩
  refine ⟨fun c u e => ?_, by rw [List.length_set]; exact G.len, fun j s e => ?_, fun j k c h1 h2 => G.dis j k c (keep h1).2 (keep h2).2, G.k0, fun j c h => G.o0 j c (keep h).2, G.s0.trans (Hsub.new hS), fun c e => ?_, G.f0⟩
  · by_cases h : c = a
    · subst h; rw [upd_same] at e; cases e; exact hH
    · rw [upd_ne h] at e; exact G.sub _ _ e
  · by_cases hj : j = i
    · subst hj
      rw [List.getElem?_set_self hlt] at e
      cases e
      exact ⟨_, hv, .lst upd_same (Rps.mono (Hsub.new hS) _ _ hr)⟩
    · rw [List.getElem?_set_ne (Ne.symm hj)] at e
      refine (G.sl j s e).mono (Hsub.new hS) fun c hc ho => ?_
      have w2 : Own ρ σ j c := ⟨hc, s, e, ho⟩
      by_cases h : c = a
      · subst h; exact absurd (G.dis j i c w2 w) hj
      · rw [upd_ne h]; exact (G.ownat w2).2
  · by_cases h : c = a
    · subst h; exact Or.inr (G.o0 i c w)
    · rw [upd_ne h] at e; exact G.n0 c e
theorem Wp.frzS {r : R} {σ : L2.St} {S H : Hp} {ρ : ES} {v : V} {P : Hp → Hp → ES → D → Prop} (G : Good b σ S H ρ) (h : RF b σ S v r) (w : Wp b W σ (frzS r) S H ρ P) : ∃ S' ρ' d, Hsub S S' ∧ Good b σ S' H ρ' ∧ Rp b.K b.mg S' v d ∧ P S' H ρ' d := by
  cases r with
  | va d => exact ⟨S, ρ, d, Hsub.refl _, G, h, w S H (Hsub.refl _) G⟩
  | ow ds => exact w.elim
  | sl i =>
    unfold Wp WpO Mc.frzS at w
    simp only at w
    cases hi : ρ[i]? with
    | none => rw [hi] at w; exact w.elim
    | some s =>
      rw [hi] at w
      cases s with
      | no => exact w.elim
      | va d =>
        obtain ⟨v', e1, r1⟩ := G.sl i _ hi
        have hv : σ[i]? = some (some v) := h
        have e2 := hv.symm.trans e1
        cases e2
        exact ⟨S, ρ, d, Hsub.refl _, G, r1, w S H (Hsub.refl _) G⟩
      | pn p => exact w.elim
      | ow ds =>
        obtain ⟨a, vs, e1, r1, r2, r3⟩ := G.sl i _ hi
        have hv : σ[i]? = some (some v) := h
        have e2 := hv.symm.trans e1
        cases e2
        have G' := G.settle hi hv r1 r2 r3
        exact ⟨_, _, _, Hsub.new r2, G', .lst upd_same (Rps.mono (Hsub.new r2) _ _ r3), w _ H (Hsub.new r2) G'⟩
theorem Wp.frzSs {σ : L2.St} {H : Hp} : ∀ {rs : List R} {S : Hp} {ρ : ES} {vs : List V} {P : Hp → Hp → ES → List D → Prop}, Good b σ S H ρ → RFs b σ S vs rs → Wp b W σ (frzSs rs) S H ρ P → ∃ S' ρ' ds, Hsub S S' ∧ Good b σ S' H ρ' ∧ Rps b.K b.mg S' vs ds ∧ P S' H ρ' ds
  | [], S, ρ, vs, P, G, h, w => by cases h; exact ⟨S, ρ, [], Hsub.refl _, G, .nil, w S H (Hsub.refl _) G⟩
  | r :: rs, S, ρ, _, P, G, h, w => by
    cases h with
    | cons h1 h2 =>
      obtain ⟨S1, ρ1, d, s1, G1, r1, w1⟩ := Wp.frzS G h1 (Wp.bind w)
      obtain ⟨S2, ρ2, ds, s2, G2, r2, w2⟩ := Wp.frzSs G1 (RFs.mono h2 s1) (Wp.bind w1)
      exact ⟨S2, ρ2, d :: ds, s1.trans s2, G2, .cons (Rp.mono s2 _ _ r1) r2, w2 S2 H (Hsub.refl _) G2⟩

/-! ### displays -/
def few {α : Type} (xs : List α) : Bool := decide (xs.length ≤ 100000)
theorem few_sz {α : Type} {xs : List α} (h : few xs = true) : xs.length ≤ sizeLine := Nat.le_trans (of_decide_eq_true h) (by decide)
def evTup (fs : M (List R)) : M R := M.bnd fs fun rs => M.bnd (frzSs rs) fun ds => if few ds then M.ret (.va (.tup ds)) else fun _ => none
def evLst (fs : M (List R)) : M R := M.bnd fs fun rs => M.bnd (frzSs rs) fun ds => if few ds then M.ret (.ow ds) else fun _ => none
theorem wp_if {α : Type} {σ : L2.St} {S H : Hp} {ρ : ES} {c : Bool} {f : M α} {P : Hp → Hp → ES → α → Prop} (w : Wp b W σ (if c = true then f else fun _ => none) S H ρ P) : c = true ∧ Wp b W σ f S H ρ P := by
  cases c with
  | true => exact ⟨rfl, w⟩
  | false => exact w.elim
theorem RR.new {σ : L2.St} {S H : Hp} {ρ : ES} {p : Addr} {vs : List V} {ds : List D} (G : Good b σ S H ρ) (hp : H p = none) (r : Rps b.K b.mg S vs ds) : RR b σ S (upd H p (.lst vs)) ρ (.ref p) (.ow ds) :=
  ⟨p, vs, rfl, upd_same, G.sn hp, r, (fun i w => by
    obtain ⟨⟨u, e⟩, _⟩ := G.ownat w
    rw [hp] at e; cases e), Or.inl (G.f0 _ hp)⟩
theorem RR.newT {σ : L2.St} {S H : Hp} {ρ : ES} {p : Addr} {o : Obj} {vs : List V} {ds : List D} (G : Good b σ S H ρ) (hp : H p = none) (ho : TupO o) (r : Rps b.K b.mg S vs ds) : RR b σ (upd S p (.frz o (.tup vs))) (upd H p (.frz o (.tup vs))) ρ (.ref p) (.va (.tup ds)) :=
  .tup (SqX.of upd_same ho.1 ho.2) (Rps.mono (Hsub.new (G.sn hp)) _ _ r)
theorem pe_tupM {es : List Expr} {fs : M (List R)} {k : Nat} (h : PA X es (rAr b W fs)) : PE X (.Tuple es k pos) (rE b W (evTup fs)) := by
  refine PE.weak (pe_tupX h) fun σ H Q ⟨b, S, ρ, eb, G, w⟩ => ⟨b, S, ρ, eb, G, Wp.mono (Wp.bind w) fun S1 H1 ρ1 rs s1 G1 q vs hvs => ?_⟩
  obtain ⟨S2, ρ2, ds, s2, G2, r2, w2⟩ := Wp.frzSs G1 hvs (Wp.bind q)
  obtain ⟨hc, w3⟩ := wp_if w2
  refine ⟨by rw [Rps.length r2]; exact few_sz hc, fun p o hp ho => ?_⟩
  exact w3 _ _ (Hsub.new (G2.sn hp)) (G2.new hp) _ (RR.newT G2 hp ho r2)
theorem pe_lstM {es : List Expr} {fs : M (List R)} (h : PA X es (rAr b W fs)) : PE X (.List es pos) (rE b W (evLst fs)) := by
  refine PE.weak (pe_lst h) fun σ H Q ⟨b, S, ρ, eb, G, w⟩ => ⟨b, S, ρ, eb, G, Wp.mono (Wp.bind w) fun S1 H1 ρ1 rs s1 G1 q vs hvs => ?_⟩
  obtain ⟨S2, ρ2, ds, s2, G2, r2, w2⟩ := Wp.frzSs G1 hvs (Wp.bind q)
  obtain ⟨hc, w3⟩ := wp_if w2
  refine ⟨by rw [Rps.length r2]; exact few_sz hc, fun p hp => ?_⟩
  exact w3 _ _ (Hsub.refl _) (G2.newH hp) _ (RR.new G2 hp r2)

/-! ### two operands -/
def evBin (g : D → D → Option R) (fa fb : M R) : M R := M.bnd (frzM fa) fun r1 => M.bnd (frzM fb) fun r2 ρ => match rdD ρ r1, rdD ρ r2 with
  | some d, some e => M.lift (g d e) ρ
  | _, _ => none
/-- what an operator on values does, said on data -/
def Sem2b (b : Bs) (g : D → D → Option R) (r : R2) : Prop := ∀ (σ : L2.St) (S H : Hp) (ρ : ES) (x y : V) (d e : D) (z : R), Good b σ S H ρ → RV b S H x d → RV b S H y e → g d e = some z →
  ∀ Q : VK, (∀ v H' S', Hsub S S' → Good b σ S' H' ρ → RR b σ S' H' ρ v z → Q v H') → r x y H Q
def Sem2 (K : PySem.W.Frag) (g : D → D → Option R) (r : R2) : Prop := ∀ b : Bs, b.K = K → Sem2b b g r
theorem sem2 {K : PySem.W.Frag} {g : D → D → Option R} {r : PySem.W.Frag → R2} (h : ∀ b : Bs, Sem2b b g (r b.K)) : Sem2 K g (r K) := fun b e => e ▸ h b
theorem ev2_wp {b0 : Bs} (eb : EqB b b0) {g : D → D → Option R} {r : R2} (sem : Sem2b b g r) {σ : L2.St} {S H : Hp} {ρ : ES} {Q : VK} (G : Good b σ S H ρ) (w : Wp b W σ (evBin g fa fb) S H ρ fun S' H' ρ' r => ∀ v, RR b σ S' H' ρ' v r → Q v H') :
    Wp b W σ fa S H ρ fun S1 H1 ρ1 r1 => ∀ x, RR b σ S1 H1 ρ1 x r1 → rE b0 W fb σ H1 fun y H2 => r x y H2 Q := by
  refine Wp.frz (K := fun x H1 => rE b0 W fb σ H1 fun y H2 => r x y H2 Q) w fun S1 H1 ρ1 r1 x s1 G1 f1 w1 => ⟨b, S1, ρ1, eb, G1, ?_⟩
  refine Wp.frz (K := fun y H2 => r x y H2 Q) w1 fun S2 H2 ρ2 r2 y s2 G2 f2 w2 => ?_
  unfold Wp WpO at w2
  cases e1 : rdD ρ2 r1 with
  | none => simp only [e1] at w2
  | some d =>
    cases e2 : rdD ρ2 r2 with
    | none => simp only [e1, e2] at w2
    | some e =>
      simp only [e1, e2, M.lift] at w2
      cases e3 : g d e with
      | none => simp only [e3] at w2
      | some z =>
        simp only [e3] at w2
        exact sem σ S2 H2 ρ2 x y d e z G2 ((f1.mono s2).rv G2 e1) (f2.rv G2 e2) e3 Q fun v H' S' s G' r => w2 S' H' s G' v r
theorem pe_bin {op : Operator} {g : D → D → Option R} {r : R2} (ho : OpR X (binaryOp op) r) (sem : Sem2 b.K g r) (ha : PE X e1 (rE b W fa)) (hb : PE X e2 (rE b W fb)) : PE X (.BinOp e1 op e2 pos) (rE b W (evBin g fa fb)) :=
  PE.weak (pe_op ho ha hb) fun _ _ _ ⟨b, S, ρ, eb, G, w⟩ => ⟨b, S, ρ, eb, G, ev2_wp eb (sem b eb.1) G w⟩
theorem pe_cmpM {op : CmpOp} {g : D → D → Option R} {r : R2} (ho : OpR X (compareOp op) r) (sem : Sem2 b.K g r) (hm : behindInMarks op e2 = false) (ha : PE X e1 (rE b W fa)) (hb : PE X e2 (rE b W fb)) : PE X (.Compare e1 [op] [e2] pos) (rE b W (evBin g fa fb)) :=
  PE.weak (pe_cmpR ho ha hb hm) fun _ _ _ ⟨b, S, ρ, eb, G, w⟩ => ⟨b, S, ρ, eb, G, ev2_wp eb (sem b eb.1) G w⟩
end
end Mc
end
section
set_option Elab.async false
set_option linter.all false
set_option maxRecDepth 100000
set_option maxHeartbeats 4000000
set_option autoImplicit false
namespace Mc
open PySem PySem.Spec L2

theorem op_or {X : Cx} {f : Value → Value → Sem Value} {r r' : R2} (h : OpR X f r) (h' : OpR X f r') : OpR X f (fun x y H Q => r x y H Q ∨ r' x y H Q) := by
  intro pins s σ H x y v u Q I rx ry q
  rcases q with q | q
  · exact h pins s σ H x y v u Q I rx ry q
  · exact h' pins s σ H x y v u Q I rx ry q
theorem op_weak {X : Cx} {f : Value → Value → Sem Value} {r r' : R2} (h : OpR X f r) (k : ∀ x y H Q, r' x y H Q → r x y H Q) : OpR X f r' := fun pins s σ H x y v u Q I rx ry q => h pins s σ H x y v u Q I rx ry (k _ _ _ _ q)

/-! ### + - * // % ** -/
def okN (n : Nat) : Bool := decide (n ≤ 100000)
theorem okN_sz {n : Nat} (h : okN n = true) : n ≤ sizeLine := Nat.le_trans (of_decide_eq_true h) (by decide)
def addD : D → D → Option R
  | .int i, .int j => some (.va (.int (i + j)))
  | .str x, .str y => if okN (x.length + y.length) = true then some (.va (.str (x ++ y))) else none
  | .lst xs, .lst ys => if okN (xs.length + ys.length) = true then some (.ow (xs ++ ys)) else none
  | .tup xs, .tup ys => if okN (xs.length + ys.length) = true then some (.va (.tup (xs ++ ys))) else none
  | _, _ => none
def rAddU (K : PySem.W.Frag) : R2 := fun x y H Q => (rI0 (fun i j => .int (i + j)) x y H Q ∨ (∃ i j, x = .str i ∧ y = .str j ∧ i.length + j.length ≤ sizeLine ∧ Q (.str (i ++ j)) H)) ∨ (rCat x y H Q ∨ rCatX K x y H Q)
theorem op_addU {X : Cx} : OpR X (binaryOp .Add) (rAddU X.K) := op_or (op_or op_add op_add_str) (op_or op_cat op_catX)
section
variable {b : Bs} {W : WX} {L : Nat} {X : Cx} {pos : Pos} {e1 e2 : Expr} {fa fb : M R}
theorem sem_add : Sem2b b addD (rAddU b.K) := by
  intro σ S H ρ x y d e z G hx hy hz Q q
  unfold addD at hz
  split at hz
  · rename_i i j
    cases hz
    cases hx
    cases hy
    exact Or.inl (Or.inl ⟨i, j, rfl, rfl, q _ H S (Hsub.refl _) G (.int _)⟩)
  · rename_i i j
    split at hz
    · rename_i hl
      cases hz
      cases hx
      cases hy
      exact Or.inl (Or.inr ⟨i, j, rfl, rfl, okN_sz hl, q _ H S (Hsub.refl _) G (.str _)⟩)
    · cases hz
  · rename_i xs ys
    split at hz
    · rename_i hl
      cases hz
      obtain ⟨a, vs, rfl, h1, r1⟩ := hx
      obtain ⟨c, ws, rfl, h2, r2⟩ := hy
      refine Or.inr (Or.inl ⟨a, c, vs, ws, rfl, rfl, h1, h2, by rw [Rps.length r1, Rps.length r2]; exact okN_sz hl, fun p hp => ?_⟩)
      exact q _ _ S (Hsub.refl _) (G.newH hp) (RR.new G hp (Rps.append r1 r2))
    · cases hz
  · rename_i xs ys
    split at hz
    · rename_i hl
      cases hz
      obtain ⟨a, vs, rfl, h1, r1⟩ := hx
      obtain ⟨c, ws, rfl, h2, r2⟩ := hy
      refine Or.inr (Or.inr ⟨a, c, vs, ws, rfl, rfl, sqt_mono G.sub h1.1, sqt_mono G.sub h2.1, by rw [Rps.length r1, Rps.length r2]; exact okN_sz hl, fun e => ?_, fun e e2 => ?_, fun e e2 p o hp ho => ?_⟩)
      · subst e
        cases xs with
        | nil => exact q _ H S (Hsub.refl _) G (.tup h2 r2)
        | cons _ _ => cases r1
      · subst e2
        cases ys with
        | nil => rw [List.append_nil] at q; exact q _ H S (Hsub.refl _) G (.tup h1 r1)
        | cons _ _ => cases r2
      · exact q _ _ _ (Hsub.new (G.sn hp)) (G.new hp) (RR.newT G hp ho (Rps.append r1 r2))
    · cases hz
  · cases hz
theorem pe_add' (o : OKx b L X) (ha : PE X e1 (rE b W fa)) (hb : PE X e2 (rE b W fb)) : PE X (.BinOp e1 .Add e2 pos) (rE b W (evBin addD fa fb)) :=
  pe_bin (r := rAddU X.K) op_addU (by rw [o.K]; exact sem2 fun b => sem_add) ha hb

def intD (g : Int → Int → Option Int) : D → D → Option R
  | .int i, .int j => (g i j).map fun n => .va (.int n)
  | _, _ => none
theorem sem_int {C : Int → Int → Prop} {g : Int → Int → Option Int} {g' : Int → Int → Int} (hg : ∀ i j n, g i j = some n → C i j ∧ n = g' i j) : Sem2b b (intD g) (rI C fun i j => .int (g' i j)) := by
  intro σ S H ρ x y d e z G hx hy hz Q q
  unfold intD at hz
  split at hz
  · rename_i i j
    cases hx
    cases hy
    cases hn : g i j with
    | none => rw [hn] at hz; cases hz
    | some n =>
      rw [hn] at hz
      cases hz
      obtain ⟨hc, rfl⟩ := hg i j n hn
      exact ⟨i, j, rfl, rfl, hc, q _ H S (Hsub.refl _) G (.int _)⟩
  · cases hz
def gSub : Int → Int → Option Int := fun i j => some (i - j)
def small64 (i : Int) : Bool := decide (-18446744073709551616 < i ∧ i < 18446744073709551616)
def gMul : Int → Int → Option Int := fun i j => if (small64 i || small64 j) = true then some (i * j) else none
def gMod : Int → Int → Option Int := fun i j => if 0 < j then some (i % j) else none
def gDiv : Int → Int → Option Int := fun i j => if 0 < j ∧ j < 1073741824 then some (i / j) else none
def gDivN : Int → Int → Option Int := fun i j => if j ≠ 0 ∧ j.natAbs < 1073741824 then some (i.fdiv j) else none
def gPow : Int → Int → Option Int := fun i j => if 0 ≤ j ∧ j ≤ 1000 ∧ i.natAbs < 2 ^ 64 then some (i ^ j.toNat) else none
theorem pe_sub' (ha : PE X e1 (rE b W fa)) (hb : PE X e2 (rE b W fb)) : PE X (.BinOp e1 .Sub e2 pos) (rE b W (evBin (intD gSub) fa fb)) :=
  pe_bin (op_weak (r' := rI (fun _ _ => True) fun i j => .int (i - j)) op_sub fun _ _ _ _ ⟨i, j, h1, h2, _, q⟩ => ⟨i, j, h1, h2, q⟩) (fun b _ => sem_int fun i j n h => by cases h; exact ⟨trivial, rfl⟩) ha hb
theorem pe_mod' (ha : PE X e1 (rE b W fa)) (hb : PE X e2 (rE b W fb)) : PE X (.BinOp e1 .Mod e2 pos) (rE b W (evBin (intD gMod) fa fb)) :=
  pe_bin op_mod (fun b _ => sem_int (g' := fun i j => i % j) fun i j n h => by
    unfold gMod at h
    split at h
    · cases h; exact ⟨by assumption, rfl⟩
    · cases h) ha hb
theorem pe_div' (ha : PE X e1 (rE b W fa)) (hb : PE X e2 (rE b W fb)) : PE X (.BinOp e1 .FloorDiv e2 pos) (rE b W (evBin (intD gDiv) fa fb)) :=
  pe_bin op_fdiv (fun b _ => sem_int (g' := fun i j => i / j) fun i j n h => by
    unfold gDiv at h
    split at h
    · cases h; exact ⟨by assumption, rfl⟩
    · cases h) ha hb
theorem pe_divN' (ha : PE X e1 (rE b W fa)) (hb : PE X e2 (rE b W fb)) : PE X (.BinOp e1 .FloorDiv e2 pos) (rE b W (evBin (intD gDivN) fa fb)) :=
  pe_bin op_fdivN (fun b _ => sem_int (g' := fun i j => i.fdiv j) fun i j n h => by
    unfold gDivN at h
    split at h
    · cases h; exact ⟨by assumption, rfl⟩
    · cases h) ha hb
theorem pe_pow' (ha : PE X e1 (rE b W fa)) (hb : PE X e2 (rE b W fb)) : PE X (.BinOp e1 .Pow e2 pos) (rE b W (evBin (intD gPow) fa fb)) :=
  pe_bin op_pow (fun b _ => sem_int (g' := fun i j => i ^ j.toNat) fun i j n h => by
    unfold gPow at h
    split at h
    · rename_i hc; cases h; exact ⟨⟨hc.1, by omega, hc.2.2⟩, rfl⟩
    · cases h) ha hb
/-- * of ints, of lists, of tuples -/
def mulD : D → D → Option R
  | .int i, .int j => (gMul i j).map fun n => .va (.int n)
  | .lst xs, .int k => if -1000 ≤ k ∧ k ≤ 1000 ∧ xs.length ≤ 100 then some (.ow (List.replicate k.toNat xs).flatten) else none
  | .tup (x :: xs), .int k => if k = 1 then some (.va (.tup (x :: xs))) else if 2 ≤ k ∧ k ≤ 100 ∧ xs.length ≤ 100 then some (.va (.tup (List.replicate k.toNat (x :: xs)).flatten)) else none
  | _, _ => none
theorem Rps.rep {K : PySem.W.Frag} {mg : Str → Option Value} {S : Hp} {vs : List V} {ds : List D} (r : Rps K mg S vs ds) : ∀ n : Nat, Rps K mg S (List.replicate n vs).flatten (List.replicate n ds).flatten
  | 0 => .nil
  | n + 1 => by
    rw [List.replicate_succ, List.replicate_succ, List.flatten_cons, List.flatten_cons]
    exact Rps.append r (Rps.rep r n)
end
end Mc
end
section
set_option Elab.async false
set_option linter.all false
set_option maxRecDepth 100000
set_option maxHeartbeats 4000000
set_option autoImplicit false
namespace Mc
open PySem PySem.Spec L2

/-! ### tuple * 1 -/
theorem tuple_mulW1 (l : Addr) (items : Array Value) (n : Nat) (dd : Option Addr) (sl : Array (Option Value)) (u : Tok) :
    Meets (Builtin.«tuple.__mul__» ⟨[.ref l, .int 1 u], []⟩) (fun _ R s => s.heap.get? l = some { cls := .type "tuple", dict := dd, data := .seq items n, slots := sl } ∧
      R (.ok (.ret (Value.ref l))) s) :=
  .of_wp fun prog w A R s h => by
    obtain ⟨hp, g, d, tk, os⟩ := s
    obtain ⟨hl, h⟩ := h
    have f1 := PySem.AutoSeq1.idx_int
    have c1 : (items.isEmpty || (1 : Int) == 1) = true := by simp
    wp_walk using PySem.AutoSeq1.wpAny_loadPart' hl
    repeat (first
      | (refine wpAny_ite_true (decide_eq_true c1) ?_; wp_walk using PySem.AutoSeq1.wpAny_loadPart' hl))
    exact ⟨_, rfl, h⟩
def rRepT1 (K : PySem.W.Frag) : R2 := fun x y H Q => ∃ l xs, x = .ref l ∧ y = .int 1 ∧ SqT K H l xs ∧ Q (.ref l) H
theorem op_repT1 {X : Cx} : OpR X (binaryOp .Mult) (rRepT1 X.K) := by
  intro pins s σ H x y v u Q I rx ry h
  obtain ⟨l, xs, rfl, rfl, hT, q⟩ := h
  cases rx
  obtain ⟨t, rfl⟩ := ry
  obtain ⟨its, r, ⟨⟨cls, dd, data, sl⟩, ho, hc, n, hd⟩, hs⟩ := I.tuple hT
  simp only at hc hd
  subst hc hd
  refine wpAny_binaryOp_repeat_ref (T := "tuple") (U := "int") (by decide) ⟨_, ho, rfl⟩ (fun s' => typeIs_int s' 1 t) noFill_tuple_mul PySem.F.fills_int_mul PySem.F.slot_int_rmul repeat_tuple PySem.F.slot_int_index.lookup
    (call_meets PySem.F.slot_int_rmul (typeIs_int s 1 t) PySem.F.entry_int_rmul (PySem.F.args_int_rmul_2 _ _) (int_rmul_tuple 1 t l its.toArray n dd sl)
      ⟨ho, rfl, ⟨_, ho, rfl⟩, call_meets PySem.F.slot_tuple_mul ⟨_, ho, rfl⟩ PySem.F.entry_tuple_mul (PySem.F.args_tuple_mul_2 _ _) (tuple_mulW1 l its.toArray n dd sl t) ⟨ho, ?_⟩⟩)
  exact ⟨.ref l, H, I, rfl, q⟩

def rMulU (K : PySem.W.Frag) : R2 := fun x y H Q => (rI CMul (fun i j => .int (i * j)) x y H Q ∨ rRep x y H Q) ∨ (rRepT1 K x y H Q ∨ rRepX K x y H Q)
theorem op_mulU {X : Cx} : OpR X (binaryOp .Mult) (rMulU X.K) := op_or (op_or op_mul op_rep) (op_or op_repT1 op_repX)
theorem length_rep {α : Type} (xs : List α) (n : Nat) : (List.replicate n xs).flatten.length = n * xs.length := by simp [List.length_flatten]
section
variable {b : Bs} {W : WX} {L : Nat} {X : Cx} {pos : Pos} {e1 e2 : Expr} {fa fb : M R}
theorem small64_ok {i : Int} (h : small64 i = true) : -(2 ^ 64) < i ∧ i < 2 ^ 64 := by
  unfold small64 at h
  have h' := of_decide_eq_true h
  exact ⟨by have := h'.1; omega, by have := h'.2; omega⟩
theorem sem_mul : Sem2b b mulD (rMulU b.K) := by
  intro σ S H ρ x y d e z G hx hy hz Q q
  unfold mulD at hz
  split at hz
  · rename_i i j
    cases hx
    cases hy
    unfold gMul at hz
    split at hz
    · rename_i hc
      cases hz
      refine Or.inl (Or.inl ⟨i, j, rfl, rfl, ?_, q _ H S (Hsub.refl _) G (.int _)⟩)
      rcases (Bool.or_eq_true _ _).mp hc with h | h
      · exact Or.inl (small64_ok h)
      · exact Or.inr (small64_ok h)
    · cases hz
  · rename_i xs k
    split at hz
    · rename_i hc
      cases hz
      cases hy
      obtain ⟨a, vs, rfl, h1, r1⟩ := hx
      have hl : vs.length = xs.length := Rps.length r1
      refine Or.inl (Or.inr ⟨a, k, vs, rfl, rfl, h1, by omega, by omega, ?_, fun p hp => ?_⟩)
      · rw [hl]
        have a1 : xs.length * k.toNat ≤ 100 * 1000 := Nat.mul_le_mul (by omega) (by omega)
        exact Nat.le_trans a1 (by decide)
      · exact q _ _ S (Hsub.refl _) (G.newH hp) (RR.new G hp (Rps.rep r1 _))
    · cases hz
  · rename_i w xs k
    obtain ⟨a, vs, rfl, h1, r1⟩ := hx
    cases hy
    split at hz
    · rename_i hc
      cases hz
      subst hc
      exact Or.inr (Or.inl ⟨a, vs, rfl, rfl, sqt_mono G.sub h1.1, q _ H S (Hsub.refl _) G (.tup h1 r1)⟩)
    · split at hz
      · rename_i hc
        cases hz
        have hl : vs.length = (w :: xs).length := Rps.length r1
        rw [List.length_cons] at hl
        refine Or.inr (Or.inr ⟨a, k, vs, rfl, rfl, sqt_mono G.sub h1.1, ?_, by omega, by omega, by omega, fun p o hp ho => ?_⟩)
        · intro e
          rw [e] at hl
          simp at hl
        · exact q _ _ _ (Hsub.new (G.sn hp)) (G.new hp) (RR.newT G hp ho (Rps.rep r1 _))
      · cases hz
  · cases hz
theorem pe_mul' (o : OKx b L X) (ha : PE X e1 (rE b W fa)) (hb : PE X e2 (rE b W fb)) : PE X (.BinOp e1 .Mult e2 pos) (rE b W (evBin mulD fa fb)) :=
  pe_bin (r := rMulU X.K) op_mulU (by rw [o.K]; exact sem2 fun b => sem_mul) ha hb

/-! ### comparisons of data -/
def eqB (d e : D) : Option Bool := match d.py, e.py with
  | some p, some q => if (SeqAt.shaped p && SeqAt.shaped q) = true then some (PyData.eqv p q) else none
  | _, _ => none
def eqD (d e : D) : Option R := (eqB d e).map fun c => .va (.bl c)
def neD (d e : D) : Option R := (eqB d e).map fun c => .va (.bl (!c))
theorem eqB_some {d e : D} {c : Bool} (h : eqB d e = some c) : ∃ p q, d.py = some p ∧ e.py = some q ∧ SeqAt.shaped p = true ∧ SeqAt.shaped q = true ∧ PyData.eqv p q = c := by
  unfold eqB at h
  split at h
  · rename_i p q h1 h2
    split at h
    · rename_i hs
      cases h
      obtain ⟨a, b⟩ := Bool.and_eq_true_iff.mp hs
      exact ⟨p, q, h1, h2, a, b, rfl⟩
    · cases h
  · cases h
theorem sem_eq : Sem2b b eqD (rEqD b.K) := by
  intro σ S H ρ x y d e z G hx hy hz Q q
  unfold eqD at hz
  cases hc : eqB d e with
  | none => rw [hc] at hz; cases hz
  | some c =>
    rw [hc] at hz
    cases hz
    obtain ⟨p, p', h1, h2, s1, s2, rfl⟩ := eqB_some hc
    exact ⟨p, p', Rp.dp _ _ _ (hx.rp G.sub) h1, Rp.dp _ _ _ (hy.rp G.sub) h2, s1, s2, q _ H S (Hsub.refl _) G (.bl _)⟩
theorem sem_ne : Sem2b b neD (rNeD b.K) := by
  intro σ S H ρ x y d e z G hx hy hz Q q
  unfold neD at hz
  cases hc : eqB d e with
  | none => rw [hc] at hz; cases hz
  | some c =>
    rw [hc] at hz
    cases hz
    obtain ⟨p, p', h1, h2, s1, s2, rfl⟩ := eqB_some hc
    exact ⟨p, p', Rp.dp _ _ _ (hx.rp G.sub) h1, Rp.dp _ _ _ (hy.rp G.sub) h2, s1, s2, q _ H S (Hsub.refl _) G (.bl _)⟩
theorem pe_eq' (o : OKx b L X) (ha : PE X e1 (rE b W fa)) (hb : PE X e2 (rE b W fb)) : PE X (.Compare e1 [.Eq] [e2] pos) (rE b W (evBin eqD fa fb)) :=
  pe_cmpM (r := rEqD X.K) (op_eqD (by have := o.un; omega)) (by rw [o.K]; exact sem2 fun b => sem_eq) (nomark _) ha hb
theorem pe_ne' (o : OKx b L X) (ha : PE X e1 (rE b W fa)) (hb : PE X e2 (rE b W fb)) : PE X (.Compare e1 [.NotEq] [e2] pos) (rE b W (evBin neD fa fb)) :=
  pe_cmpM (r := rNeD X.K) (op_neD (by have := o.un; omega)) (by rw [o.K]; exact sem2 fun b => sem_ne) (nomark _) ha hb

/-- order: alike data that are not None -/
def ordOk (p q : PyData) : Bool := PySem.W.alike p q && (match p with | .none => false | _ => true) && decide (p.depth ≤ 64)
def ltB (d e : D) : Option Bool := match d.py, e.py with
  | some p, some q => if ordOk p q = true then some (PySem.W.dataLt p q) else none
  | _, _ => none
def gtB (d e : D) : Option Bool := match d.py, e.py with
  | some p, some q => if ordOk p q = true then some (PySem.W.dataLt q p) else none
  | _, _ => none
def ltD (d e : D) : Option R := (ltB d e).map fun c => .va (.bl c)
def gtD (d e : D) : Option R := (gtB d e).map fun c => .va (.bl c)
def leD (d e : D) : Option R := (gtB d e).map fun c => .va (.bl (!c))
def geD (d e : D) : Option R := (ltB d e).map fun c => .va (.bl (!c))
def rOrd (K : PySem.W.Frag) (g : PyData → PyData → Bool) : R2 := fun x y H Q => ∃ d e, Dp K H x d ∧ Dp K H y e ∧ ordOk d e = true ∧ Q (.bl (g d e)) H
theorem ordOk_of {p q : PyData} (h : ordOk p q = true) : PySem.W.alike p q = true ∧ p ≠ .none ∧ p.depth ≤ 64 := by
  unfold ordOk at h
  obtain ⟨h, h3⟩ := Bool.and_eq_true_iff.mp h
  obtain ⟨h1, h2⟩ := Bool.and_eq_true_iff.mp h
  refine ⟨h1, ?_, of_decide_eq_true h3⟩
  intro e
  subst e
  exact Bool.false_ne_true h2
theorem op_lt' (o : OKx b L X) : OpR X (compareOp .Lt) (rOrd X.K fun p q => PySem.W.dataLt p q) := by
  intro pins s σ H x y v u Q I rx ry ⟨d, e, hd, he, ho, q⟩
  obtain ⟨h1, h2, h3⟩ := ordOk_of ho
  obtain ⟨as, r1⟩ := Dp.reads I d x v hd rx
  obtain ⟨bs, r2⟩ := Dp.reads I e y u he ry
  exact PySem.W.lt_data r1 r2 h1 h2 (by have := o.un; have := Nat.min_le_left d.depth e.depth; omega) ⟨.bl _, H, I, rfl, q⟩
theorem op_gt' (o : OKx b L X) : OpR X (compareOp .Gt) (rOrd X.K fun p q => PySem.W.dataLt q p) := by
  intro pins s σ H x y v u Q I rx ry ⟨d, e, hd, he, ho, q⟩
  obtain ⟨h1, h2, h3⟩ := ordOk_of ho
  obtain ⟨as, r1⟩ := Dp.reads I d x v hd rx
  obtain ⟨bs, r2⟩ := Dp.reads I e y u he ry
  exact PySem.W.gt_data r1 r2 h1 h2 (by have := o.un; have := Nat.min_le_left d.depth e.depth; omega) ⟨.bl _, H, I, rfl, q⟩
theorem op_le' (o : OKx b L X) : OpR X (compareOp .LtE) (rOrd X.K fun p q => !PySem.W.dataLt q p) := by
  intro pins s σ H x y v u Q I rx ry ⟨d, e, hd, he, ho, q⟩
  obtain ⟨h1, h2, h3⟩ := ordOk_of ho
  obtain ⟨as, r1⟩ := Dp.reads I d x v hd rx
  obtain ⟨bs, r2⟩ := Dp.reads I e y u he ry
  exact PySem.W.le_data r1 r2 h1 h2 (by have := o.un; have := Nat.min_le_left d.depth e.depth; omega) ⟨.bl _, H, I, rfl, q⟩
theorem op_ge' (o : OKx b L X) : OpR X (compareOp .GtE) (rOrd X.K fun p q => !PySem.W.dataLt p q) := by
  intro pins s σ H x y v u Q I rx ry ⟨d, e, hd, he, ho, q⟩
  obtain ⟨h1, h2, h3⟩ := ordOk_of ho
  obtain ⟨as, r1⟩ := Dp.reads I d x v hd rx
  obtain ⟨bs, r2⟩ := Dp.reads I e y u he ry
  exact PySem.W.ge_data r1 r2 h1 h2 (by have := o.un; have := Nat.min_le_left d.depth e.depth; omega) ⟨.bl _, H, I, rfl, q⟩
theorem sem_ord {g : PyData → PyData → Bool} {f : D → D → Option R} (hf : ∀ d e z, f d e = some z → ∃ p q, d.py = some p ∧ e.py = some q ∧ ordOk p q = true ∧ z = .va (.bl (g p q))) : Sem2b b f (rOrd b.K g) := by
  intro σ S H ρ x y d e z G hx hy hz Q q
  obtain ⟨p, p', h1, h2, ho, rfl⟩ := hf d e z hz
  exact ⟨p, p', Rp.dp _ _ _ (hx.rp G.sub) h1, Rp.dp _ _ _ (hy.rp G.sub) h2, ho, q _ H S (Hsub.refl _) G (.bl _)⟩
theorem ltB_some {d e : D} {c : Bool} (h : ltB d e = some c) : ∃ p q, d.py = some p ∧ e.py = some q ∧ ordOk p q = true ∧ c = PySem.W.dataLt p q := by
  unfold ltB at h
  split at h
  · rename_i p q h1 h2
    split at h
    · cases h; exact ⟨p, q, h1, h2, by assumption, rfl⟩
    · cases h
  · cases h
theorem gtB_some {d e : D} {c : Bool} (h : gtB d e = some c) : ∃ p q, d.py = some p ∧ e.py = some q ∧ ordOk p q = true ∧ c = PySem.W.dataLt q p := by
  unfold gtB at h
  split at h
  · rename_i p q h1 h2
    split at h
    · cases h; exact ⟨p, q, h1, h2, by assumption, rfl⟩
    · cases h
  · cases h
theorem map_some {f : Bool → R} {o : Option Bool} {z : R} (h : o.map f = some z) : ∃ c, o = some c ∧ z = f c := by
  cases o with
  | none => cases h
  | some c => cases h; exact ⟨c, rfl, rfl⟩
theorem sem_lt : Sem2b b ltD (rOrd b.K fun p q => PySem.W.dataLt p q) := by
  refine sem_ord fun d e z h => ?_
  obtain ⟨c, h1, rfl⟩ := map_some h
  obtain ⟨p, q, a1, a2, a3, rfl⟩ := ltB_some h1
  exact ⟨p, q, a1, a2, a3, rfl⟩
theorem pe_lt' (o : OKx b L X) (ha : PE X e1 (rE b W fa)) (hb : PE X e2 (rE b W fb)) : PE X (.Compare e1 [.Lt] [e2] pos) (rE b W (evBin ltD fa fb)) :=
  pe_cmpM (op_lt' o) (by rw [o.K]; exact sem2 (r := fun K => rOrd K fun p q => PySem.W.dataLt p q) fun b => sem_lt) (nomark _) ha hb
theorem sem_gt : Sem2b b gtD (rOrd b.K fun p q => PySem.W.dataLt q p) := by
  refine sem_ord fun d e z h => ?_
  obtain ⟨c, h1, rfl⟩ := map_some h
  obtain ⟨p, q, a1, a2, a3, rfl⟩ := gtB_some h1
  exact ⟨p, q, a1, a2, a3, rfl⟩
theorem pe_gt' (o : OKx b L X) (ha : PE X e1 (rE b W fa)) (hb : PE X e2 (rE b W fb)) : PE X (.Compare e1 [.Gt] [e2] pos) (rE b W (evBin gtD fa fb)) :=
  pe_cmpM (op_gt' o) (by rw [o.K]; exact sem2 (r := fun K => rOrd K fun p q => PySem.W.dataLt q p) fun b => sem_gt) (nomark _) ha hb
theorem sem_le : Sem2b b leD (rOrd b.K fun p q => !PySem.W.dataLt q p) := by
  refine sem_ord fun d e z h => ?_
  obtain ⟨c, h1, rfl⟩ := map_some h
  obtain ⟨p, q, a1, a2, a3, rfl⟩ := gtB_some h1
  exact ⟨p, q, a1, a2, a3, rfl⟩
theorem pe_le' (o : OKx b L X) (ha : PE X e1 (rE b W fa)) (hb : PE X e2 (rE b W fb)) : PE X (.Compare e1 [.LtE] [e2] pos) (rE b W (evBin leD fa fb)) :=
  pe_cmpM (op_le' o) (by rw [o.K]; exact sem2 (r := fun K => rOrd K fun p q => !PySem.W.dataLt q p) fun b => sem_le) (nomark _) ha hb
theorem sem_ge : Sem2b b geD (rOrd b.K fun p q => !PySem.W.dataLt p q) := by
  refine sem_ord fun d e z h => ?_
  obtain ⟨c, h1, rfl⟩ := map_some h
  obtain ⟨p, q, a1, a2, a3, rfl⟩ := ltB_some h1
  exact ⟨p, q, a1, a2, a3, rfl⟩
theorem pe_ge' (o : OKx b L X) (ha : PE X e1 (rE b W fa)) (hb : PE X e2 (rE b W fb)) : PE X (.Compare e1 [.GtE] [e2] pos) (rE b W (evBin geD fa fb)) :=
  pe_cmpM (op_ge' o) (by rw [o.K]; exact sem2 (r := fun K => rOrd K fun p q => !PySem.W.dataLt p q) fun b => sem_ge) (nomark _) ha hb
end
end Mc
end
section
set_option Elab.async false
set_option linter.all false
set_option maxRecDepth 100000
set_option maxHeartbeats 4000000
set_option autoImplicit false
namespace Mc
open PySem PySem.Spec L2

section
variable {b : Bs} {W : WX} {L : Nat} {X : Cx} {pos : Pos} {e1 e2 e3 : Expr} {fa fb fc : M R}

/-! ### in, not in -/
def inB (d e : D) : Option Bool := match d.py, e with
  | some p, .lst ds => (match D.pys ds with
    | some ps => if (SeqAt.shaped p && SeqAt.shaped (.list ps)) = true then some (ps.any fun z => PyData.eqv z p) else none
    | none => none)
  | some p, .tup ds => (match D.pys ds with
    | some ps => if (SeqAt.shaped p && SeqAt.shaped (.tuple ps)) = true then some (ps.any fun z => PyData.eqv z p) else none
    | none => none)
  | _, _ => none
def inD (d e : D) : Option R := (inB d e).map fun c => .va (.bl c)
def ninD (d e : D) : Option R := (inB d e).map fun c => .va (.bl (!c))
def rInU (K : PySem.W.Frag) (neg : Bool) : R2 := fun x y H Q => ∃ d ds, Dp K H x d ∧ (Dp K H y (.list ds) ∧ SeqAt.shaped (.list ds) = true ∨ Dp K H y (.tuple ds) ∧ SeqAt.shaped (.tuple ds) = true) ∧ SeqAt.shaped d = true ∧
  Q (.bl (if neg = true then !ds.any fun z => PyData.eqv z d else ds.any fun z => PyData.eqv z d)) H
theorem room_sh {A : Around} {ds : List PyData} {d : PyData} (h : SeqAt.shaped d = true) (hu : A.units + 65 < cLine) : A.units + 1 + min (PyData.depthAll ds) d.depth < cLine := by
  have h' : (d.canLay0 && decide (d.depth ≤ 64)) = true := h
  have h2 := of_decide_eq_true (Bool.and_eq_true_iff.mp h').2
  have := Nat.min_le_right (PyData.depthAll ds) d.depth
  omega
theorem op_inU (o : OKx b L X) : OpR X (compareOp .In) (rInU X.K false) := by
  intro pins s σ H x y v u Q I rx ry ⟨d, ds, hd, he, sd, q⟩
  obtain ⟨as, r1⟩ := Dp.reads I d x v hd rx
  have hu : X.A.units + 65 < cLine := by have := o.un; omega
  rcases he with ⟨he, se⟩ | ⟨he, se⟩
  · obtain ⟨bs, r2⟩ := Dp.reads I (.list ds) y u he ry
    exact SeqAt.in_list_reads r2 r1 (SeqAt.canLay_of_shaped se) (SeqAt.canLay_of_shaped sd) (room_sh sd hu) ⟨.bl _, H, I, rfl, q⟩
  · obtain ⟨bs, r2⟩ := Dp.reads I (.tuple ds) y u he ry
    exact SeqAt.in_tuple_reads r2 r1 (SeqAt.canLay_of_shaped se) (SeqAt.canLay_of_shaped sd) (room_sh sd hu) ⟨.bl _, H, I, rfl, q⟩
theorem op_ninU (o : OKx b L X) : OpR X (compareOp .NotIn) (rInU X.K true) := by
  intro pins s σ H x y v u Q I rx ry ⟨d, ds, hd, he, sd, q⟩
  obtain ⟨as, r1⟩ := Dp.reads I d x v hd rx
  have hu : X.A.units + 65 < cLine := by have := o.un; omega
  rcases he with ⟨he, se⟩ | ⟨he, se⟩
  · obtain ⟨bs, r2⟩ := Dp.reads I (.list ds) y u he ry
    exact SeqAt.notIn_list_reads r2 r1 (SeqAt.canLay_of_shaped se) (SeqAt.canLay_of_shaped sd) (room_sh sd hu) ⟨.bl _, H, I, rfl, q⟩
  · obtain ⟨bs, r2⟩ := Dp.reads I (.tuple ds) y u he ry
    exact SeqAt.notIn_tuple_reads r2 r1 (SeqAt.canLay_of_shaped se) (SeqAt.canLay_of_shaped sd) (room_sh sd hu) ⟨.bl _, H, I, rfl, q⟩
theorem inB_some {d e : D} {c : Bool} {K : PySem.W.Frag} {mg : Str → Option Value} {H : Hp} {x y : V} (h : inB d e = some c) (hx : Rp K mg H x d) (hy : Rp K mg H y e) : ∃ p ps, Dp K H x p ∧ (Dp K H y (.list ps) ∧ SeqAt.shaped (.list ps) = true ∨ Dp K H y (.tuple ps) ∧ SeqAt.shaped (.tuple ps) = true) ∧ SeqAt.shaped p = true ∧ c = ps.any fun z => PyData.eqv z p := by
  unfold inB at h
  split at h
  · rename_i p ds h1
    split at h
    · rename_i ps h2
      split at h
      · rename_i hs
        cases h
        obtain ⟨a, b⟩ := Bool.and_eq_true_iff.mp hs
        exact ⟨p, ps, Rp.dp _ _ _ hx h1, Or.inl ⟨Rp.dp _ _ _ hy (by simp only [D.py, h2]), b⟩, a, rfl⟩
      · cases h
    · cases h
  · rename_i p ds h1
    split at h
    · rename_i ps h2
      split at h
      · rename_i hs
        cases h
        obtain ⟨a, b⟩ := Bool.and_eq_true_iff.mp hs
        exact ⟨p, ps, Rp.dp _ _ _ hx h1, Or.inr ⟨Rp.dp _ _ _ hy (by simp only [D.py, h2]), b⟩, a, rfl⟩
      · cases h
    · cases h
  · cases h
theorem sem_in : Sem2b b inD (rInU b.K false) := by
  intro σ S H ρ x y d e z G hx hy hz Q q
  obtain ⟨c, h1, rfl⟩ := map_some hz
  obtain ⟨p, ps, a1, a2, a3, rfl⟩ := inB_some h1 (hx.rp G.sub) (hy.rp G.sub)
  exact ⟨p, ps, a1, a2, a3, q _ H S (Hsub.refl _) G (.bl _)⟩
theorem sem_nin : Sem2b b ninD (rInU b.K true) := by
  intro σ S H ρ x y d e z G hx hy hz Q q
  obtain ⟨c, h1, rfl⟩ := map_some hz
  obtain ⟨p, ps, a1, a2, a3, rfl⟩ := inB_some h1 (hx.rp G.sub) (hy.rp G.sub)
  exact ⟨p, ps, a1, a2, a3, q _ H S (Hsub.refl _) G (.bl _)⟩
theorem pe_in' (o : OKx b L X) (ha : PE X e1 (rE b W fa)) (hb : PE X e2 (rE b W fb)) (hm : behindInMarks .In e2 = false := by rfl) : PE X (.Compare e1 [.In] [e2] pos) (rE b W (evBin inD fa fb)) :=
  pe_cmpM (op_inU o) (by rw [o.K]; exact sem2 (r := fun K => rInU K false) fun b => sem_in) hm ha hb
theorem pe_nin' (o : OKx b L X) (ha : PE X e1 (rE b W fa)) (hb : PE X e2 (rE b W fb)) (hm : behindInMarks .NotIn e2 = false := by rfl) : PE X (.Compare e1 [.NotIn] [e2] pos) (rE b W (evBin ninD fa fb)) :=
  pe_cmpM (op_ninU o) (by rw [o.K]; exact sem2 (r := fun K => rInU K true) fun b => sem_nin) hm ha hb

/-! ### is None, is True, is False -/
def D.isNon : D → Bool
  | .non => true
  | _ => false
def isB (d e : D) : Option Bool := match e with
  | .non => some d.isNon
  | .bl c => some (match d with | .bl a => a == c | _ => false)
  | _ => none
def isD (d e : D) : Option R := (isB d e).map fun c => .va (.bl c)
def isntD (d e : D) : Option R := (isB d e).map fun c => .va (.bl (!c))
def rIsK (neg : Bool) : R2 := fun x y H Q => (y = .non ∨ ∃ c, y = .bl c) ∧ Q (.bl (if neg = true then !decide (x = y) else decide (x = y))) H
theorem op_isK {X : Cx} : OpR X (compareOp .Is) (rIsK false) := by
  intro pins s σ H x y v u Q I rx ry ⟨hy, q⟩
  rcases hy with rfl | ⟨c, rfl⟩
  · cases ry
    exact PyProof.Rows.is_none_gen ⟨.bl _, H, I, by rw [rx.none_iff]; rfl, q⟩
  · cases ry
    have key : wpAny (model X.prog X.w) X.A (compareOp .Is v (.bool c)) (fun r s' => r = .bool (v == .bool c) ∧ s' = s) X.xe s := by
      cases x with
      | non => cases rx; exact wpAny_pure ⟨rfl, rfl⟩
      | bl a => cases rx; exact wpAny_pure ⟨rfl, rfl⟩
      | int a => obtain ⟨t, rfl⟩ := rx; exact wpAny_pure ⟨rfl, rfl⟩
      | str a => obtain ⟨t, rfl⟩ := rx; exact wpAny_pure ⟨rfl, rfl⟩
      | byt a => obtain ⟨t, rfl⟩ := rx; exact wpAny_pure ⟨rfl, rfl⟩
      | flt a => obtain ⟨t, rfl⟩ := rx; exact wpAny_pure ⟨rfl, rfl⟩
      | ref a => cases rx; exact wpAny_pure ⟨rfl, rfl⟩
      | ty a => cases rx; exact wpAny_pure ⟨rfl, rfl⟩
    refine thn key fun r s' ⟨h1, h2⟩ => ?_
    subst h1 h2
    have e : (v == Value.bool c) = decide (x = V.bl c) := by
      cases x with
      | non => cases rx; rfl
      | bl a => cases rx; cases a <;> cases c <;> rfl
      | int a => obtain ⟨t, rfl⟩ := rx; rfl
      | str a => obtain ⟨t, rfl⟩ := rx; rfl
      | byt a => obtain ⟨t, rfl⟩ := rx; rfl
      | flt a => obtain ⟨t, rfl⟩ := rx; rfl
      | ref a => cases rx; rfl
      | ty a => cases rx; rfl
    exact ⟨.bl _, H, I, by rw [e]; rfl, q⟩
theorem op_isntK {X : Cx} : OpR X (compareOp .IsNot) (rIsK true) := by
  intro pins s σ H x y v u Q I rx ry ⟨hy, q⟩
  rcases hy with rfl | ⟨c, rfl⟩
  · cases ry
    exact PyProof.Rows.isnot_none_gen ⟨.bl _, H, I, by rw [rx.none_iff]; rfl, q⟩
  · cases ry
    have key : wpAny (model X.prog X.w) X.A (compareOp .IsNot v (.bool c)) (fun r s' => r = .bool (!(v == .bool c)) ∧ s' = s) X.xe s := by
      cases x with
      | non => cases rx; exact wpAny_pure ⟨rfl, rfl⟩
      | bl a => cases rx; exact wpAny_pure ⟨rfl, rfl⟩
      | int a => obtain ⟨t, rfl⟩ := rx; exact wpAny_pure ⟨rfl, rfl⟩
      | str a => obtain ⟨t, rfl⟩ := rx; exact wpAny_pure ⟨rfl, rfl⟩
      | byt a => obtain ⟨t, rfl⟩ := rx; exact wpAny_pure ⟨rfl, rfl⟩
      | flt a => obtain ⟨t, rfl⟩ := rx; exact wpAny_pure ⟨rfl, rfl⟩
      | ref a => cases rx; exact wpAny_pure ⟨rfl, rfl⟩
      | ty a => cases rx; exact wpAny_pure ⟨rfl, rfl⟩
    refine thn key fun r s' ⟨h1, h2⟩ => ?_
    subst h1 h2
    have e : (v == Value.bool c) = decide (x = V.bl c) := by
      cases x with
      | non => cases rx; rfl
      | bl a => cases rx; cases a <;> cases c <;> rfl
      | int a => obtain ⟨t, rfl⟩ := rx; rfl
      | str a => obtain ⟨t, rfl⟩ := rx; rfl
      | byt a => obtain ⟨t, rfl⟩ := rx; rfl
      | flt a => obtain ⟨t, rfl⟩ := rx; rfl
      | ref a => cases rx; rfl
      | ty a => cases rx; rfl
    exact ⟨.bl _, H, I, by rw [e]; rfl, q⟩
theorem isB_ok {S H : Hp} {x y : V} {d e : D} {c : Bool} (hx : RV b S H x d) (hy : RV b S H y e) (h : isB d e = some c) : (y = .non ∨ ∃ c, y = .bl c) ∧ c = decide (x = y) := by
  have nref : ∀ {v : V}, (∃ a, x = .ref a) → (v = .non ∨ ∃ c, v = .bl c) → decide (x = v) = false := by
    rintro v ⟨a, rfl⟩ (rfl | ⟨c, rfl⟩) <;> exact decide_eq_false (fun z => nomatch z)
  have isr : (∃ ds, d = .lst ds) ∨ (∃ ds, d = .tup ds) ∨ (∃ c fs, d = .ob c fs) ∨ (∃ k, d = .dic k) ∨ (∃ k, d = .fn k) → ∃ a, x = .ref a := by
    rintro (⟨ds, rfl⟩ | ⟨ds, rfl⟩ | ⟨c, fs, rfl⟩ | ⟨k, rfl⟩ | ⟨k, rfl⟩)
    · obtain ⟨a, vs, rfl, _⟩ := hx; exact ⟨a, rfl⟩
    · obtain ⟨a, vs, rfl, _⟩ := hx; exact ⟨a, rfl⟩
    · have hx : Rp b.K b.mg S x (.ob c fs) := hx
      cases hx; exact ⟨_, rfl⟩
    · have hx : Rp b.K b.mg S x (.dic k) := hx
      cases hx
    · have hx : Rp b.K b.mg S x (.fn k) := hx
      cases hx; exact ⟨_, rfl⟩
  cases e with
  | non =>
    cases hy
    refine ⟨Or.inl rfl, ?_⟩
    cases h
    cases d with
    | non => cases hx; rfl
    | bl a => cases hx; rfl
    | int a => cases hx; rfl
    | str a => cases hx; rfl
    | tup ds => exact (nref (isr (Or.inr (Or.inl ⟨_, rfl⟩))) (Or.inl rfl)).symm
    | lst ds => exact (nref (isr (Or.inl ⟨_, rfl⟩)) (Or.inl rfl)).symm
    | ob c fs => exact (nref (isr (Or.inr (Or.inr (Or.inl ⟨_, _, rfl⟩)))) (Or.inl rfl)).symm
    | dic k => exact (nref (isr (Or.inr (Or.inr (Or.inr (Or.inl ⟨_, rfl⟩))))) (Or.inl rfl)).symm
    | fn k => exact (nref (isr (Or.inr (Or.inr (Or.inr (Or.inr ⟨_, rfl⟩))))) (Or.inl rfl)).symm
  | bl w =>
    cases hy
    refine ⟨Or.inr ⟨w, rfl⟩, ?_⟩
    cases h
    cases d with
    | non => cases hx; rfl
    | bl a => cases hx; cases a <;> cases w <;> rfl
    | int a => cases hx; rfl
    | str a => cases hx; rfl
    | tup ds => exact (nref (isr (Or.inr (Or.inl ⟨_, rfl⟩))) (Or.inr ⟨w, rfl⟩)).symm
    | lst ds => exact (nref (isr (Or.inl ⟨_, rfl⟩)) (Or.inr ⟨w, rfl⟩)).symm
    | ob c fs => exact (nref (isr (Or.inr (Or.inr (Or.inl ⟨_, _, rfl⟩)))) (Or.inr ⟨w, rfl⟩)).symm
    | dic k => exact (nref (isr (Or.inr (Or.inr (Or.inr (Or.inl ⟨_, rfl⟩))))) (Or.inr ⟨w, rfl⟩)).symm
    | fn k => exact (nref (isr (Or.inr (Or.inr (Or.inr (Or.inr ⟨_, rfl⟩))))) (Or.inr ⟨w, rfl⟩)).symm
  | _ => cases h
theorem sem_is : Sem2b b isD (rIsK false) := by
  intro σ S H ρ x y d e z G hx hy hz Q q
  obtain ⟨c, h1, rfl⟩ := map_some hz
  obtain ⟨a1, rfl⟩ := isB_ok hx hy h1
  exact ⟨a1, q _ H S (Hsub.refl _) G (.bl _)⟩
theorem sem_isnt : Sem2b b isntD (rIsK true) := by
  intro σ S H ρ x y d e z G hx hy hz Q q
  obtain ⟨c, h1, rfl⟩ := map_some hz
  obtain ⟨a1, rfl⟩ := isB_ok hx hy h1
  exact ⟨a1, q _ H S (Hsub.refl _) G (.bl _)⟩
theorem pe_is' (ha : PE X e1 (rE b W fa)) (hb : PE X e2 (rE b W fb)) : PE X (.Compare e1 [.Is] [e2] pos) (rE b W (evBin isD fa fb)) :=
  pe_cmpM op_isK (fun b _ => sem_is) (nomark _) ha hb
theorem pe_isnt' (ha : PE X e1 (rE b W fa)) (hb : PE X e2 (rE b W fb)) : PE X (.Compare e1 [.IsNot] [e2] pos) (rE b W (evBin isntD fa fb)) :=
  pe_cmpM op_isntK (fun b _ => sem_isnt) (nomark _) ha hb

/-! ### minus, subscripts -/
def evUn (g : D → Option R) (fa : M R) : M R := M.bnd (frzM fa) fun r1 ρ => match rdD ρ r1 with
  | some d => M.lift (g d) ρ
  | none => none
def Sem1b (b : Bs) (g : D → Option R) (r : V → Hp → VK → Prop) : Prop := ∀ (σ : L2.St) (S H : Hp) (ρ : ES) (x : V) (d : D) (z : R), Good b σ S H ρ → RV b S H x d → g d = some z →
  ∀ Q : VK, (∀ v H' S', Hsub S S' → Good b σ S' H' ρ → RR b σ S' H' ρ v z → Q v H') → r x H Q
theorem ev1_wp {g : D → Option R} {r : V → Hp → VK → Prop} (sem : Sem1b b g r) {σ : L2.St} {S H : Hp} {ρ : ES} {Q : VK} (w : Wp b W σ (evUn g fa) S H ρ fun S' H' ρ' r => ∀ v, RR b σ S' H' ρ' v r → Q v H') :
    Wp b W σ fa S H ρ fun S1 H1 ρ1 r1 => ∀ x, RR b σ S1 H1 ρ1 x r1 → r x H1 Q := by
  refine Wp.frz (K := fun x H1 => r x H1 Q) w fun S1 H1 ρ1 r1 x s1 G1 f1 w1 => ?_
  unfold Wp WpO at w1
  cases e1 : rdD ρ1 r1 with
  | none => simp only [e1] at w1
  | some d =>
    simp only [e1, M.lift] at w1
    cases e3 : g d with
    | none => simp only [e3] at w1
    | some z =>
      simp only [e3] at w1
      exact sem σ S1 H1 ρ1 x d z G1 (f1.rv G1 e1) e3 Q fun v H' S' s G' r => w1 S' H' s G' v r
def negD : D → Option R
  | .int i => some (.va (.int (-i)))
  | _ => none
theorem pe_neg' (ha : PE X e1 (rE b W fa)) : PE X (.UnaryOp .USub e1 pos) (rE b W (evUn negD fa)) := by
  refine PE.weak (pe_un un_neg ha) fun σ H Q ⟨b, S, ρ, eb, G, w⟩ => ⟨b, S, ρ, eb, G, ev1_wp (r := rU fun i => .int (-i)) ?_ w⟩
  intro σ S H ρ x d z G hx hz Q q
  cases d with
  | int i => cases hz; cases hx; exact ⟨i, rfl, q _ H S (Hsub.refl _) G (.int _)⟩
  | _ => cases hz
def ixD (d e : D) : Option R := match d, e with
  | .lst xs, .int i => (atI xs i).map .va
  | .tup xs, .int i => (atI xs i).map .va
  | .str x, .int i => if okN x.length = true then (atI x.cps.toList i).map fun c => .va (.str ⟨#[c]⟩) else none
  | _, _ => none
theorem Rps.atI {K : PySem.W.Frag} {mg : Str → Option Value} {S : Hp} {ds : List D} {vs : List V} {i : Int} {d : D} (r : Rps K mg S vs ds) (h : atI ds i = some d) : ∃ v, L2.atI vs i = some v ∧ Rp K mg S v d := by
  unfold L2.atI at h ⊢
  rw [Rps.length r]
  cases e : ixN ds.length i with
  | none => rw [e] at h; cases h
  | some j =>
    rw [e] at h
    exact Rps.get r h
theorem sem_ix : Sem2b b ixD (rIx b.K) := by
  intro σ S H ρ x y d e z G hx hy hz Q q
  unfold ixD at hz
  split at hz
  · rename_i xs i
    cases hy
    obtain ⟨a, vs, rfl, h1, r1⟩ := hx
    cases hi : atI xs i with
    | none => rw [hi] at hz; cases hz
    | some d =>
      rw [hi] at hz
      cases hz
      obtain ⟨v, h2, r2⟩ := Rps.atI r1 hi
      exact Or.inl ⟨a, vs, i, v, rfl, rfl, SqL.of h1, h2, q _ H S (Hsub.refl _) G r2⟩
  · rename_i xs i
    cases hy
    obtain ⟨a, vs, rfl, h1, r1⟩ := hx
    cases hi : atI xs i with
    | none => rw [hi] at hz; cases hz
    | some d =>
      rw [hi] at hz
      cases hz
      obtain ⟨v, h2, r2⟩ := Rps.atI r1 hi
      exact Or.inr (Or.inl ⟨a, vs, i, v, rfl, rfl, sqt_mono G.sub h1.1, h2, q _ H S (Hsub.refl _) G r2⟩)
  · rename_i s i
    cases hy
    cases hx
    split at hz
    · rename_i hl
      cases hi : atI s.cps.toList i with
      | none => rw [hi] at hz; cases hz
      | some c =>
        rw [hi] at hz
        cases hz
        exact Or.inr (Or.inr ⟨s, i, c, rfl, rfl, okN_sz hl, hi, q _ H S (Hsub.refl _) G (.str _)⟩)
    · cases hz
  · cases hz
theorem pe_ix' (o : OKx b L X) (ha : PE X e1 (rE b W fa)) (hb : PE X e2 (rE b W fb)) (hs : PlainIx e2 := by exact fun _ _ => rfl) : PE X (.Subscript e1 e2 pos) (rE b W (evBin ixD fa fb)) :=
  PE.weak (pe_ix (r := rIx X.K) ix_seq ha hb hs) fun _ _ _ ⟨b, S, ρ, eb, G, w⟩ => ⟨b, S, ρ, eb, G, ev2_wp eb (by rw [o.K, ← eb.1]; exact sem_ix) G w⟩
end
end Mc
end
section
set_option Elab.async false
set_option linter.all false
set_option maxRecDepth 100000
set_option maxHeartbeats 4000000
set_option autoImplicit false
namespace Mc
open PySem PySem.Spec L2

section
variable {b : Bs} {W : WX} {L : Nat} {X : Cx} {pos : Pos} {e1 e2 e3 : Expr} {fa fb fc : M R}

/-! ### truth -/
def truD : D → Option Bool
  | .non => some false
  | .bl c => some c
  | .int i => some (i != 0)
  | .str x => if okN x.length = true then some ((x.length : Int) != 0) else none
  | .tup xs => some (!xs.isEmpty)
  | .lst xs => some (!xs.isEmpty)
  | _ => none
def truR (ρ : ES) (r : R) : Option Bool := match rdD ρ r with
  | some d => truD d
  | none => none
theorem Rps.isEmpty {K : PySem.W.Frag} {mg : Str → Option Value} {S : Hp} {vs : List V} {ds : List D} (r : Rps K mg S vs ds) : vs.isEmpty = ds.isEmpty := by
  cases r <;> rfl
theorem truD_ok {S H : Hp} {v : V} {d : D} {c : Bool} (s : Hsub S H) (h : RV b S H v d) (e : truD d = some c) : TruV b.K v H c := by
  cases d with
  | non => cases h; cases e; rfl
  | bl c => cases h; cases e; rfl
  | int i => cases h; cases e; rfl
  | str x =>
    cases h
    unfold truD at e
    simp only at e
    split at e
    · rename_i hl; cases e; exact ⟨okN_sz hl, rfl⟩
    · cases e
  | tup xs => obtain ⟨a, vs, rfl, p, q⟩ := h; cases e; exact Or.inr (Or.inl ⟨vs, sqt_mono s p.1, by rw [Rps.isEmpty q]⟩)
  | lst xs => obtain ⟨a, vs, rfl, p, q⟩ := h; cases e; exact Or.inl ⟨vs, SqL.of p, by rw [Rps.isEmpty q]⟩
  | ob c fs => cases e
  | dic k => cases e
  | fn k => cases e
theorem RF.tru {σ : L2.St} {S H : Hp} {ρ : ES} {v : V} {r : R} {c : Bool} (G : Good b σ S H ρ) (h : RF b σ S v r) (e : truR ρ r = some c) : TruV b.K v H c := by
  unfold truR at e
  split at e
  · rename_i d hd
    exact truD_ok G.sub (h.rv G hd) e
  · cases e
theorem RF.rr {σ : L2.St} {S H : Hp} {ρ : ES} {v : V} {r : R} (h : RF b σ S v r) : RR b σ S H ρ v r := by
  cases r with
  | va d => exact h
  | ow ds => exact h.elim
  | sl i => exact h

theorem rr_bl {σ : L2.St} {S H : Hp} {ρ : ES} (c : Bool) : RR b σ S H ρ (.bl c) (.va (.bl c)) := Rp.bl c
/-! ### and, or, not; a if c else b -/
def evAnd (fa fb : M R) : M R := M.bnd (frzM fa) fun r ρ => match truR ρ r with
  | some true => fb ρ
  | some false => some (.ok r ρ)
  | none => none
def evOr (fa fb : M R) : M R := M.bnd (frzM fa) fun r ρ => match truR ρ r with
  | some true => some (.ok r ρ)
  | some false => fb ρ
  | none => none
def evNot (fa : M R) : M R := M.bnd (frzM fa) fun r ρ => match truR ρ r with
  | some c => some (.ok (.va (.bl (!c))) ρ)
  | none => none
theorem pe_andM {rest : List Expr} (o : OKx b L X) (ha : PE X e1 (rE b W fa)) (hb : PE X (.BoolOp .And (e2 :: rest) pos) (rE b W fb)) : PE X (.BoolOp .And (e1 :: e2 :: rest) pos) (rE b W (evAnd fa fb)) := by
  refine PE.weak (pe_andT ha hb) fun σ H Q ⟨b', S, ρ, eb, G, w⟩ => ⟨b', S, ρ, eb, G, Wp.frz (K := fun x H1 => ∃ k, TruV X.K x H1 k ∧ if k = true then rE b W fb σ H1 Q else Q x H1) w fun S1 H1 ρ1 r x s1 G1 f1 w1 => ?_⟩
  cases e : truR ρ1 r with
  | none => exact wp_none (by simp only [e]) w1
  | some c =>
    refine ⟨c, by rw [o.K, ← eb.1]; exact f1.tru G1 e, ?_⟩
    cases c with
    | true => exact ⟨b', S1, ρ1, eb, G1, wp_is (by simp only [e]) w1⟩
    | false => exact wp_step (o := some (.ok r ρ1)) (by simp only [e]) w1 S1 H1 (Hsub.refl _) G1 x f1.rr
theorem pe_orM {rest : List Expr} (o : OKx b L X) (ha : PE X e1 (rE b W fa)) (hb : PE X (.BoolOp .Or (e2 :: rest) pos) (rE b W fb)) : PE X (.BoolOp .Or (e1 :: e2 :: rest) pos) (rE b W (evOr fa fb)) := by
  refine PE.weak (pe_orT ha hb) fun σ H Q ⟨b', S, ρ, eb, G, w⟩ => ⟨b', S, ρ, eb, G, Wp.frz (K := fun x H1 => ∃ k, TruV X.K x H1 k ∧ if k = true then Q x H1 else rE b W fb σ H1 Q) w fun S1 H1 ρ1 r x s1 G1 f1 w1 => ?_⟩
  cases e : truR ρ1 r with
  | none => exact wp_none (by simp only [e]) w1
  | some c =>
    refine ⟨c, by rw [o.K, ← eb.1]; exact f1.tru G1 e, ?_⟩
    cases c with
    | false => exact ⟨b', S1, ρ1, eb, G1, wp_is (by simp only [e]) w1⟩
    | true => exact wp_step (o := some (.ok r ρ1)) (by simp only [e]) w1 S1 H1 (Hsub.refl _) G1 x f1.rr
theorem pe_one1 {op} (h : PE X e1 (rE b W fa)) : PE X (.BoolOp op [e1] pos) (rE b W fa) := pe_one h
theorem pe_notM (o : OKx b L X) (ha : PE X e1 (rE b W fa)) : PE X (.UnaryOp .Not e1 pos) (rE b W (evNot fa)) := by
  refine PE.weak (pe_notT ha) fun σ H Q ⟨b', S, ρ, eb, G, w⟩ => ⟨b', S, ρ, eb, G, Wp.frz (K := fun x H1 => ∃ k, TruV X.K x H1 k ∧ Q (.bl (!k)) H1) w fun S1 H1 ρ1 r x s1 G1 f1 w1 => ?_⟩
  cases e : truR ρ1 r with
  | none => exact wp_none (by simp only [e]) w1
  | some c =>
    refine ⟨c, by rw [o.K, ← eb.1]; exact f1.tru G1 e, ?_⟩
    exact wp_ok (a := .va (.bl (!c))) (by simp only [e]) w1 (Hsub.refl _) G1 _ (rr_bl _)

/-! ### tests -/
def rT (b0 : Bs) (W : WX) (f : M Bool) : TT := fun σ H Q => ∃ b S ρ, EqB b b0 ∧ Good b σ S H ρ ∧ Wp b W σ f S H ρ fun S' H' ρ' c => Q c H'
def evTru (fa : M R) : M Bool := M.bnd (frzM fa) fun r ρ => match truR ρ r with
  | some c => some (.ok c ρ)
  | none => none
def evAndT (f g : M Bool) : M Bool := M.bnd f fun c => if c = true then g else M.ret false
def evOrT (f g : M Bool) : M Bool := M.bnd f fun c => if c = true then M.ret true else g
def evNotT (f : M Bool) : M Bool := M.bnd f fun c => M.ret (!c)
def evIf {α : Type} (c : M Bool) (f g : M α) : M α := M.bnd c fun k => if k = true then f else g
theorem tru_wp {σ : L2.St} {S H : Hp} {ρ : ES} {Q : Bool → Hp → Prop} {K : PySem.W.Frag} (eK : K = b.K) (w : Wp b W σ (evTru fa) S H ρ fun S' H' ρ' c => Q c H') :
    Wp b W σ fa S H ρ fun S1 H1 ρ1 r1 => ∀ x, RR b σ S1 H1 ρ1 x r1 → ∃ k, TruV K x H1 k ∧ Q k H1 := by
  refine Wp.frz (K := fun x H1 => ∃ k, TruV K x H1 k ∧ Q k H1) w fun S1 H1 ρ1 r x s1 G1 f1 w1 => ?_
  cases e : truR ρ1 r with
  | none => exact wp_none (by simp only [e]) w1
  | some c => exact ⟨c, by rw [eK]; exact f1.tru G1 e, wp_step (o := some (.ok c ρ1)) (by simp only [e]) w1 S1 H1 (Hsub.refl _) G1⟩
/-- a plain expression as a test -/
theorem pt_tru (o : OKx b L X) (ha : PE X e1 (rE b W fa)) (he : ∀ whole, isTrue e1 X.env whole = (do let v ← whole; standAt e1.pos; holding [v] (truthy v)) := by intro _; rfl) : PT X e1 (rT b W (evTru fa)) :=
  PT.weak (pt_truth ha he) fun σ H Q ⟨b', S, ρ, eb, G, w⟩ => ⟨b', S, ρ, eb, G, tru_wp (o.K.trans eb.1.symm) w⟩
def evBl (fa : M R) : M Bool := M.bnd fa fun r ρ => match r with
  | .va (.bl c) => some (.ok c ρ)
  | _ => none
/-- a comparison as a test -/
theorem pt_cmpM {op : CmpOp} {g : D → D → Option R} {r : R2} (ho : OpR X (compareOp op) r) (sem : Sem2 b.K g r) (hm : behindInMarks op e2 = false) (ha : PE X e1 (rE b W fa)) (hb : PE X e2 (rE b W fb)) : PT X (.Compare e1 [op] [e2] pos) (rT b W (evBl (evBin g fa fb))) := by
  refine PT.weak (pt_cmpR ho ha hb hm) fun σ H Q ⟨b', S, ρ, eb, G, w⟩ => ?_
  show tOp r (rE b W fa) (rE b W fb) σ H fun x H' => ∃ k, x = .bl k ∧ Q k H'
  refine ⟨b', S, ρ, eb, G, ev2_wp eb (sem b' eb.1) G (Wp.mono (Wp.bind w) fun S1 H1 ρ1 r1 s1 G1 w1 v hv => ?_)⟩
  cases r1 with
  | va d =>
    cases d with
    | bl c => cases hv; exact ⟨c, rfl, wp_step (o := some (.ok c ρ1)) rfl w1 S1 H1 (Hsub.refl _) G1⟩
    | _ => exact wp_none rfl w1
  | _ => exact wp_none rfl w1
theorem pt_notM {f : M Bool} (ha : PT X e1 (rT b W f)) : PT X (.UnaryOp .Not e1 pos) (rT b W (evNotT f)) :=
  PT.weak (pt_not ha) fun σ H Q ⟨b', S, ρ, eb, G, w⟩ => ⟨b', S, ρ, eb, G, Wp.mono (Wp.bind w) fun S1 H1 ρ1 c s1 G1 w1 => Wp.ret w1 G1⟩
theorem PW.weak {e : Expr} {t t' : TT} (h : PW X e t) (k : ∀ σ H Q, t' σ H Q → t σ H Q) : PW X e t' := ⟨fun wh pins s σ H Q I hw => h.run wh pins s σ H Q I (k σ H Q hw)⟩
theorem pw_and1M {f : M Bool} (ha : PT X e1 (rT b W f)) : PW X (.BoolOp .And [e1] pos) (rT b W f) := pw_and1 ha
theorem pw_or1M {f : M Bool} (ha : PT X e1 (rT b W f)) : PW X (.BoolOp .Or [e1] pos) (rT b W f) := pw_or1 ha
theorem pw_andM {rest : List Expr} {f g : M Bool} (ha : PT X e1 (rT b W f)) (hb : PW X (.BoolOp .And (e2 :: rest) pos) (rT b W g)) : PW X (.BoolOp .And (e1 :: e2 :: rest) pos) (rT b W (evAndT f g)) := by
  refine PW.weak (pw_and ha hb) fun σ H Q ⟨b', S, ρ, eb, G, w⟩ => ⟨b', S, ρ, eb, G, Wp.mono (Wp.bind w) fun S1 H1 ρ1 c s1 G1 w1 => ?_⟩
  cases c with
  | true => exact ⟨b', S1, ρ1, eb, G1, w1⟩
  | false => exact Wp.ret (a := false) w1 G1
theorem pw_orM {rest : List Expr} {f g : M Bool} (ha : PT X e1 (rT b W f)) (hb : PW X (.BoolOp .Or (e2 :: rest) pos) (rT b W g)) : PW X (.BoolOp .Or (e1 :: e2 :: rest) pos) (rT b W (evOrT f g)) := by
  refine PW.weak (pw_or ha hb) fun σ H Q ⟨b', S, ρ, eb, G, w⟩ => ⟨b', S, ρ, eb, G, Wp.mono (Wp.bind w) fun S1 H1 ρ1 c s1 G1 w1 => ?_⟩
  cases c with
  | false => exact ⟨b', S1, ρ1, eb, G1, w1⟩
  | true => exact Wp.ret (a := true) w1 G1
theorem pe_ifM {c : Expr} {f : M Bool} (hc : PT X c (rT b W f)) (ha : PE X e1 (rE b W fa)) (hb : PE X e2 (rE b W fb)) : PE X (.IfExp c e1 e2 pos) (rE b W (evIf f fa fb)) := by
  refine PE.weak (pe_ifExp hc ha hb) fun σ H Q ⟨b', S, ρ, eb, G, w⟩ => ⟨b', S, ρ, eb, G, Wp.mono (Wp.bind w) fun S1 H1 ρ1 c s1 G1 w1 => ?_⟩
  cases c with
  | true => exact ⟨b', S1, ρ1, eb, G1, w1⟩
  | false => exact ⟨b', S1, ρ1, eb, G1, w1⟩

/-! ### chains a < b < c -/
def evChain (g g' : D → D → Option R) (fa fb fc : M R) : M R := M.bnd (frzM fa) fun r1 => M.bnd (frzM fb) fun r2 ρ => match rdD ρ r1, rdD ρ r2 with
  | some d, some e => (match g d e with
    | some (.va (.bl true)) => M.bnd (frzM fc) (fun r3 ρ' => match rdD ρ' r2, rdD ρ' r3 with
      | some d', some e' => M.lift (g' d' e') ρ'
      | _, _ => none) ρ
    | some (.va (.bl false)) => some (.ok (.va (.bl false)) ρ)
    | _ => none)
  | _, _ => none
theorem chain_wp {b0 : Bs} (eb : EqB b b0) {g g' : D → D → Option R} {r r' : R2} (sem : Sem2b b g r) (sem' : Sem2b b g' r') {σ : L2.St} {S H : Hp} {ρ : ES} {Q : VK} (w : Wp b W σ (evChain g g' fa fb fc) S H ρ fun S' H' ρ' r => ∀ v, RR b σ S' H' ρ' v r → Q v H') :
    Wp b W σ fa S H ρ fun S1 H1 ρ1 r1 => ∀ x, RR b σ S1 H1 ρ1 x r1 → rE b0 W fb σ H1 fun y H2 => r x y H2 fun z H3 => ∃ k, z = .bl k ∧ (if k = true then rE b0 W fc σ H3 fun w' H4 => r' y w' H4 Q else Q (.bl false) H3) := by
  refine Wp.frz (K := fun x H1 => rE b0 W fb σ H1 fun y H2 => r x y H2 fun z H3 => ∃ k, z = .bl k ∧ (if k = true then rE b0 W fc σ H3 fun w' H4 => r' y w' H4 Q else Q (.bl false) H3)) w fun S1 H1 ρ1 r1 x s1 G1 f1 w1 => ⟨b, S1, ρ1, eb, G1, ?_⟩
  refine Wp.frz (K := fun y H2 => r x y H2 fun z H3 => ∃ k, z = .bl k ∧ (if k = true then rE b0 W fc σ H3 fun w' H4 => r' y w' H4 Q else Q (.bl false) H3)) w1 fun S2 H2 ρ2 r2 y s2 G2 f2 w2 => ?_
  cases h1 : rdD ρ2 r1 with
  | none => exact wp_none (by simp only [h1]) w2
  | some d =>
    cases h2 : rdD ρ2 r2 with
    | none => exact wp_none (by simp only [h1, h2]) w2
    | some e =>
      cases h3 : g d e with
      | none => exact wp_none (by simp only [h1, h2, h3]) w2
      | some z =>
        refine sem σ S2 H2 ρ2 x y d e z G2 ((f1.mono s2).rv G2 h1) (f2.rv G2 h2) h3 _ fun v H' S' s G' rv => ?_
        cases z with
        | ow ds => exact wp_none (by simp only [h1, h2, h3]) w2
        | sl i => exact wp_none (by simp only [h1, h2, h3]) w2
        | va z =>
          cases z with
          | bl k =>
            cases rv
            refine ⟨k, rfl, ?_⟩
            cases k with
            | false => exact wp_ok (a := .va (.bl false)) (by simp only [h1, h2, h3]) w2 s G' _ (rr_bl _)
            | true =>
              have w3 : Wp b W σ (M.bnd (frzM fc) (fun r3 ρ' => match rdD ρ' r2, rdD ρ' r3 with
                | some d', some e' => M.lift (g' d' e') ρ'
                | _, _ => none)) S2 H2 ρ2 (fun S' H' ρ' r => ∀ v, RR b σ S' H' ρ' v r → Q v H') := wp_is (by simp only [h1, h2, h3]) w2
              have w4 : Wp b W σ (M.bnd (frzM fc) (fun r3 ρ' => match rdD ρ' r2, rdD ρ' r3 with
                | some d', some e' => M.lift (g' d' e') ρ'
                | _, _ => none)) S' H' ρ2 (fun S' H' ρ' r => ∀ v, RR b σ S' H' ρ' v r → Q v H') := by
                exact WpO.sub w3 s
              refine ⟨b, S', ρ2, eb, G', Wp.frz (K := fun w' H4 => r' y w' H4 Q) w4 fun S3 H3 ρ3 r3 u s3 G3 f3 w5 => ?_⟩
              cases h4 : rdD ρ3 r2 with
              | none => exact wp_none (by simp only [h4]) w5
              | some d' =>
                cases h5 : rdD ρ3 r3 with
                | none => exact wp_none (by simp only [h4, h5]) w5
                | some e' =>
                  cases h6 : g' d' e' with
                  | none => exact wp_none (by simp only [h4, h5, h6, M.lift]) w5
                  | some z' => exact sem' σ S3 H3 ρ3 y u d' e' z' G3 ((f2.mono (s.trans s3)).rv G3 h4) (f3.rv G3 h5) h6 Q fun v H7 S7 s7 G7 rv7 => wp_step (o := some (.ok z' ρ3)) (by simp only [h4, h5, h6, M.lift]) w5 S7 H7 s7 G7 v rv7
          | _ => exact wp_none (by simp only [h1, h2, h3]) w2
theorem pe_chainM {op op' : CmpOp} {g g' : D → D → Option R} {r r' : R2} (ho : OpR X (compareOp op) r) (ho' : OpR X (compareOp op') r') (sem : Sem2 b.K g r) (sem' : Sem2 b.K g' r') (ha : PE X e1 (rE b W fa)) (hb : PE X e2 (rE b W fb)) (hc : PE X e3 (rE b W fc))
    (hm : lastMarks [op, op'] [e2, e3] = false := by with_unfolding_all rfl) : PE X (.Compare e1 [op, op'] [e2, e3] pos) (rE b W (evChain g g' fa fb fc)) :=
  PE.weak (pe_chain ho ho' ha hb hc hm) fun _ _ _ ⟨b', S, ρ, eb, G, w⟩ => ⟨b', S, ρ, eb, G, chain_wp eb (sem b' eb.1) (sem' b' eb.1) w⟩
theorem pt_chainM {op op' : CmpOp} {g g' : D → D → Option R} {r r' : R2} (ho : OpR X (compareOp op) r) (ho' : OpR X (compareOp op') r') (sem : Sem2 b.K g r) (sem' : Sem2 b.K g' r') (ha : PE X e1 (rE b W fa)) (hb : PE X e2 (rE b W fb)) (hc : PE X e3 (rE b W fc))
    (hm : lastMarks [op, op'] [e2, e3] = false := by with_unfolding_all rfl) : PT X (.Compare e1 [op, op'] [e2, e3] pos) (rT b W (evBl (evChain g g' fa fb fc))) := by
  refine PT.weak (pt_chain ho ho' ha hb hc hm) fun σ H Q ⟨b', S, ρ, eb, G, w⟩ => ?_
  show tChain r r' (rE b W fa) (rE b W fb) (rE b W fc) σ H fun x H' => ∃ k, x = .bl k ∧ Q k H'
  refine ⟨b', S, ρ, eb, G, chain_wp eb (sem b' eb.1) (sem' b' eb.1) (Wp.mono (Wp.bind w) fun S1 H1 ρ1 r1 s1 G1 w1 v hv => ?_)⟩
  cases r1 with
  | va d =>
    cases d with
    | bl c => cases hv; exact ⟨c, rfl, wp_step (o := some (.ok c ρ1)) rfl w1 S1 H1 (Hsub.refl _) G1⟩
    | _ => exact wp_none rfl w1
  | _ => exact wp_none rfl w1
end
end Mc
end
section
set_option Elab.async false
set_option linter.all false
set_option maxRecDepth 100000
set_option maxHeartbeats 4000000
set_option autoImplicit false
namespace Mc
open PySem PySem.Spec L2

/-! ### the frame's slots change -/
section
variable {b : Bs} {σ : L2.St} {S H : Hp} {ρ : ES}
theorem Own.set_ne {i j : Nat} {a : Addr} {s : Sl} {x : Option V} (h : Own (ρ.set i s) (σ.set i x) j a) (hj : j ≠ i) : Own ρ σ j a := by
  obtain ⟨h1, s', h2, h3⟩ := h
  rw [List.getElem?_set_ne (Ne.symm hj)] at h1 h2
  exact ⟨h1, s', h2, h3⟩
/-- a slot is stored: no list of its own -/
theorem Good.set (G : Good b σ S H ρ) {i : Nat} {s : Sl} {x : Option V} (hs : s.own = false) (hi : i < ρ.length) (ok : SlOk b S H (some x) s) : Good b (σ.set i x) S H (ρ.set i s) := by
  have key : ∀ {j a}, Own (ρ.set i s) (σ.set i x) j a → j ≠ i ∧ Own ρ σ j a := fun {j a} w => by
    have hj : j ≠ i := fun e => by
      subst e
      obtain ⟨_, s', h2, h3⟩ := w
      rw [List.getElem?_set_self hi] at h2
      cases h2
      rw [hs] at h3; cases h3
    exact ⟨hj, w.set_ne hj⟩
  refine ⟨G.sub, by rw [List.length_set, List.length_set]; exact G.len, fun j s' e => ?_, fun j k a h1 h2 => G.dis j k a (key h1).2 (key h2).2, G.k0, fun j a w => G.o0 j a (key w).2, G.s0, G.n0, G.f0⟩
  by_cases hj : j = i
  · subst hj
    rw [List.getElem?_set_self hi] at e
    cases e
    rw [List.getElem?_set_self (by rw [← G.len]; exact hi)]
    exact ok
  · rw [List.getElem?_set_ne (Ne.symm hj)] at e
    rw [List.getElem?_set_ne (Ne.symm hj)]
    exact G.sl j s' e
theorem Good.setVa (G : Good b σ S H ρ) {i : Nat} {v : V} {d : D} (hi : i < ρ.length) (r : Rp b.K b.mg S v d) : Good b (σ.set i (some v)) S H (ρ.set i (.va d)) := G.set rfl hi ⟨v, rfl, r⟩
theorem Good.setNo (G : Good b σ S H ρ) {i : Nat} {x : Option V} (hi : i < ρ.length) : Good b (σ.set i x) S H (ρ.set i .no) := G.set rfl hi trivial
/-- a slot is stored: a list of its own -/
theorem Good.setOw (G : Good b σ S H ρ) {i : Nat} {v : V} {ds : List D} (hi : i < ρ.length) (r : RR b σ S H ρ v (.ow ds)) : Good b (σ.set i (some v)) S H (ρ.set i (.ow ds)) := by
  obtain ⟨a, vs, rfl, hH, hS, hr, hn, h0⟩ := r
  have hi' : i < σ.length := by rw [← G.len]; exact hi
  have key : ∀ {j c}, Own (ρ.set i (.ow ds)) (σ.set i (some (.ref a))) j c → (j = i ∧ c = a) ∨ (j ≠ i ∧ Own ρ σ j c) := fun {j c} w => by
    by_cases hj : j = i
    · subst hj
      obtain ⟨h1, _⟩ := w
      rw [List.getElem?_set_self hi'] at h1
      cases h1
      exact Or.inl ⟨rfl, rfl⟩
    · exact Or.inr ⟨hj, w.set_ne hj⟩
  refine ⟨G.sub, by rw [List.length_set, List.length_set]; exact G.len, fun j s' e => ?_, fun j k c h1 h2 => ?_, G.k0, fun j c w => ?_, G.s0, G.n0, G.f0⟩
  · by_cases hj : j = i
    · subst hj
      rw [List.getElem?_set_self hi] at e
      cases e
      rw [List.getElem?_set_self hi']
      exact ⟨a, vs, rfl, hH, hS, hr⟩
    · rw [List.getElem?_set_ne (Ne.symm hj)] at e
      rw [List.getElem?_set_ne (Ne.symm hj)]
      exact G.sl j s' e
  · rcases key h1 with ⟨e1, e2⟩ | ⟨n1, w1⟩
    · rcases key h2 with ⟨e3, e4⟩ | ⟨n2, w2⟩
      · exact e1.trans e3.symm
      · subst e2; exact (hn k w2).elim
    · rcases key h2 with ⟨e3, e4⟩ | ⟨n2, w2⟩
      · subst e4; exact (hn j w1).elim
      · exact G.dis j k c w1 w2
  · rcases key w with ⟨e1, e2⟩ | ⟨n1, w1⟩
    · subst e2; exact h0
    · exact G.o0 j c w1
end

/-! ### targets -/
abbrev Tg := D → ES → Option ES
abbrev Tgs := List D → ES → Option ES
def rG (b0 : Bs) (is : List Nat) (t : Tg) : TG := fun v σ H Q => ∃ b S ρ d ρ', EqB b b0 ∧ Good b σ S H ρ ∧ Rp b.K b.mg S v d ∧ t d ρ = some ρ' ∧ ∀ σ', Good b σ' S H ρ' → (∀ j, j ∉ is → σ'[j]? = σ[j]?) → σ'.length = σ.length → Q σ' H
def rGs (b0 : Bs) (is : List Nat) (t : Tgs) : TGs := fun vs σ H Q => ∃ b S ρ ds ρ', EqB b b0 ∧ Good b σ S H ρ ∧ Rps b.K b.mg S vs ds ∧ t ds ρ = some ρ' ∧ ∀ σ', Good b σ' S H ρ' → (∀ j, j ∉ is → σ'[j]? = σ[j]?) → σ'.length = σ.length → Q σ' H
theorem PG.weak {X : Cx} {e : Expr} {t t' : TG} (h : PG X e t) (k : ∀ v σ H Q, t' v σ H Q → t v σ H Q) : PG X e t' := ⟨fun pins s σ H v u Q I r hw => h.run pins s σ H v u Q I r (k v σ H Q hw)⟩
theorem PGs.weak {X : Cx} {e : List Expr} {t t' : TGs} (h : PGs X e t) (k : ∀ v σ H Q, t' v σ H Q → t v σ H Q) : PGs X e t' := ⟨fun pins s σ H v u Q I r hw => h.run pins s σ H v u Q I r (k v σ H Q hw)⟩
def tgN (i : Nat) : Tg := fun d ρ => if i < ρ.length then some (ρ.set i (.va d)) else none
def tgNil : Tgs := fun ds ρ => match ds with | [] => some ρ | _ => none
def tgCons (t : Tg) (u : Tgs) : Tgs := fun ds ρ => match ds with | d :: r => (match t d ρ with | some ρ' => u r ρ' | none => none) | [] => none
def tgTup (n : Nat) (u : Tgs) : Tg := fun d ρ => match d with | .tup ds => if ds.length = n then u ds ρ else none | _ => none
section
variable {b : Bs} {W : WX} {L : Nat} {X : Cx} {pos : Pos} {e1 e2 : Expr} {fa fb : M R}
theorem pg_n (i : Nat) {x : Str} (o : OKx b L X) (hi : X.N[i]? = some x := by rfl) (hx : Loc X.env.scope x := by first | exact Or.inl rfl | exact Or.inr rfl) (hf : X.fn x = true ∨ X.env.scope.names.lookup x = some .local := by first | exact .inl rfl | exact .inr rfl) : PG X (.Name x pos) (rG b [i] (tgN i)) := by
  refine PG.weak (pg_name (i := i) o.nd hi hx hf) fun v σ H Q ⟨b', S, ρ, d, ρ', eb, G, r, ht, k⟩ => ?_
  unfold tgN at ht
  split at ht
  · rename_i hl
    cases ht
    exact k _ (G.setVa hl r) (fun j hj => by rw [List.getElem?_set_ne (fun e => hj (by simp [e]))]) (by rw [List.length_set])
  · cases ht
theorem pgs_n : PGs X [] (rGs b [] tgNil) := by
  refine PGs.weak pgs_nil fun vs σ H Q ⟨b', S, ρ, ds, ρ', eb, G, r, ht, k⟩ => ?_
  cases r with
  | nil =>
    cases ht
    exact ⟨rfl, k σ G (fun _ _ => rfl) rfl⟩
  | cons _ _ => cases ht
theorem pgs_c {e : Expr} {es : List Expr} {is js : List Nat} {t : Tg} {u : Tgs} (h1 : PG X e (rG b is t)) (h2 : PGs X es (rGs b js u)) (hs : (assignEach (e :: es) X.env).map (·.2) = assign e X.env :: (assignEach es X.env).map (·.2) := by rfl) :
    PGs X (e :: es) (rGs b (is ++ js) (tgCons t u)) := by
  refine PGs.weak (pgs_cons h1 h2 hs) fun vs σ H Q ⟨b', S, ρ, ds, ρ', eb, G, r, ht, k⟩ => ?_
  cases r with
  | nil => cases ht
  | cons r1 r2 =>
    unfold tgCons at ht
    simp only at ht
    split at ht
    · rename_i ρ1 h1
      refine ⟨_, _, rfl, b', S, ρ, _, ρ1, eb, G, r1, h1, fun σ1 G1 k1 l1 => ⟨b', S, ρ1, _, ρ', eb, G1, r2, ht, fun σ2 G2 k2 l2 => k σ2 G2 (fun j hj => ?_) (l2.trans l1)⟩⟩
      rw [List.mem_append, not_or] at hj
      exact (k2 j hj.2).trans (k1 j hj.1)
    · cases ht
theorem pg_t {es : List Expr} {k n : Nat} {is : List Nat} {u : Tgs} (o : OKx b L X) (h : PGs X es (rGs b is u)) (hn : (assignEach es X.env).length = n := by rfl) (hst : (assignEach es X.env).findIdx? (·.1) = none := by rfl) : PG X (.Tuple es k pos) (rG b is (tgTup n u)) := by
  refine PG.weak (pg_tup o.calm h hn hst) fun v σ H Q ⟨b', S, ρ, d, ρ', eb, G, r, ht, k⟩ => ?_
  cases r with
  | tup p q =>
    unfold tgTup at ht
    simp only at ht
    split at ht
    · rename_i hl
      exact ⟨_, _, rfl, by rw [o.K, ← eb.1]; exact sqt_mono G.sub p.1, by rw [Rps.length q]; exact hl, b', S, ρ, _, ρ', eb, G, q, ht, k⟩
    · cases ht
  | _ => cases ht
end

/-! ### statements -/
inductive Fl where
  | nx | rt (r : R) | bk | ct
def WpS (b : Bs) (W : WX) (o : Option (Res Fl)) (S : Hp) (D : Ends) : Prop :=
  match o with
  | none => False
  | some (.ok .nx ρ') => ∀ σ' S' H', Hsub S S' → Good b σ' S' H' ρ' → D.nx σ' H'
  | some (.ok .bk ρ') => ∀ σ' S' H', Hsub S S' → Good b σ' S' H' ρ' → D.bk σ' H'
  | some (.ok .ct ρ') => ∀ σ' S' H', Hsub S S' → Good b σ' S' H' ρ' → D.ct σ' H'
  | some (.ok (.rt r) ρ') => ∀ σ' S' H' v, Hsub S S' → Good b σ' S' H' ρ' → RR b σ' S' H' ρ' v r → D.rt v H'
  | some (.er x ρ') => ∀ σ' S' H' cls d, Hsub S S' → Good b σ' S' H' ρ' → ExR b S' H' cls d x → W cls d σ' H'
def rS (b0 : Bs) (W : WX) (f : M Fl) : TS := fun D σ H => ∃ b S ρ, EqB b b0 ∧ Good b σ S H ρ ∧ WpS b W (f ρ) S D
section
variable {b : Bs} {W : WX} {σ : L2.St} {S S' H : Hp} {ρ : ES} {D : Ends}
theorem WpS.sub {o : Option (Res Fl)} (h : WpS b W o S D) (s : Hsub S S') : WpS b W o S' D := by
  unfold WpS at h ⊢
  split at h
  · exact h
  · exact fun σ2 S2 H2 s2 => h σ2 S2 H2 (s.trans s2)
  · exact fun σ2 S2 H2 s2 => h σ2 S2 H2 (s.trans s2)
  · exact fun σ2 S2 H2 s2 => h σ2 S2 H2 (s.trans s2)
  · exact fun σ2 S2 H2 v s2 => h σ2 S2 H2 v (s.trans s2)
  · exact fun σ2 S2 H2 c d s2 => h σ2 S2 H2 c d (s.trans s2)
theorem WpS.bind {α : Type} {f : M α} {g : α → M Fl} (h : WpS b W (M.bnd f g ρ) S D) : Wp b W σ f S H ρ fun S' H' ρ' a => WpS b W (g a ρ') S' D := by
  unfold M.bnd at h
  unfold Wp
  cases e : f ρ with
  | none => rw [e] at h; exact h
  | some r =>
    rw [e] at h
    cases r with
    | er x ρ' => exact fun S' H' cls d s G x => h σ S' H' cls d s G x
    | ok a ρ' => exact fun S' H' s G => WpS.sub (show WpS b W (g a ρ') S D from h) s
theorem wps_is {o o' : Option (Res Fl)} (h : o = o') (w : WpS b W o S D) : WpS b W o' S D := h ▸ w
theorem wps_none {o : Option (Res Fl)} {Z : Prop} (h : o = none) (w : WpS b W o S D) : Z := by subst h; exact w.elim
end
def evSeq (f g : M Fl) : M Fl := fun ρ => match f ρ with
  | some (.ok .nx ρ') => g ρ'
  | o => o
def evSkip : M Fl := M.ret .nx
section
variable {b : Bs} {W : WX} {L : Nat} {X : Cx} {pos : Pos} {e1 e2 : Expr} {fa fb : M R} {st : Stmt} {rest : List Stmt} {f g : M Fl}
theorem seq_wp {D : Ends} {b0 : Bs} {S : Hp} {ρ : ES} (eb : EqB b b0) (w : WpS b W (evSeq f g ρ) S D) : WpS b W (f ρ) S { D with nx := rS b0 W g D } := by
  unfold evSeq at w
  cases e : f ρ with
  | none => rw [e] at w; exact w
  | some r =>
    rw [e] at w
    cases r with
    | er x ρ' => exact w
    | ok fl ρ' =>
      cases fl with
      | nx => exact fun σ' S' H' s G => ⟨b, S', ρ', eb, G, WpS.sub (show WpS b W (g ρ') S D from w) s⟩
      | bk => exact w
      | ct => exact w
      | rt r => exact w
theorem ss_nil : PSs X [] (rS b W evSkip) := PSs.weak pss_nil fun D σ H ⟨b', S, ρ, eb, G, w⟩ => w σ S H (Hsub.refl _) G
theorem ss_cons (h1 : PS X st (rS b W f)) (h2 : PSs X rest (rS b W g)) : PSs X (st :: rest) (rS b W (evSeq f g)) :=
  PSs.weak (pss_cons h1 h2) fun D σ H ⟨b', S, ρ, eb, G, w⟩ => ⟨b', S, ρ, eb, G, seq_wp eb w⟩
theorem ss_one (h1 : PS X st (rS b W f)) : PSs X [st] (rS b W f) := pss_one h1
theorem s_pass : PS X (.Pass pos) (rS b W evSkip) := PS.weak ps_pass fun D σ H ⟨b', S, ρ, eb, G, w⟩ => w σ S H (Hsub.refl _) G
def evBreak : M Fl := M.ret .bk
def evCont : M Fl := M.ret .ct
theorem s_break : PS X (.Break pos) (rS b W evBreak) := PS.weak ps_break fun D σ H ⟨b', S, ρ, eb, G, w⟩ => w σ S H (Hsub.refl _) G
theorem s_cont : PS X (.Continue pos) (rS b W evCont) := PS.weak ps_continue fun D σ H ⟨b', S, ρ, eb, G, w⟩ => w σ S H (Hsub.refl _) G
def evDrop (fa : M R) : M Fl := M.bnd fa fun _ => M.ret .nx
theorem s_expr (he : PE X e1 (rE b W fa)) (hs : swapsWith e1 none pos.line X.env = pure false := by rfl) : PS X (.Expr e1 pos) (rS b W (evDrop fa)) :=
  PS.weak (ps_expr he hs) fun D σ H ⟨b', S, ρ, eb, G, w⟩ => ⟨b', S, ρ, eb, G, Wp.mono (WpS.bind w) fun S' H' ρ' r s G' w' v hv => w' σ S' H' (Hsub.refl _) G'⟩
def evRet (fa : M R) : M Fl := M.bnd fa fun r ρ => match r with
  | .sl i => (match ρ[i]? with
    | some (.ow ds) => some (.ok (.rt (.ow ds)) (ρ.set i .no))
    | _ => none)
  | r => some (.ok (.rt r) ρ)
theorem s_retN : PS X (.Return none pos) (rS b W (M.ret (.rt (.va .non)))) := PS.weak ps_retN fun D σ H ⟨b', S, ρ, eb, G, w⟩ => w σ S H .non (Hsub.refl _) G .non
def evIfS (c : M Bool) (f g : M Fl) : M Fl := evIf c f g
theorem s_if {c : Expr} {as bs : List Stmt} {fc : M Bool} (hc : PT X c (rT b W fc)) (ha : PSs X as (rS b W f)) (hb : PSs X bs (rS b W g)) : PS X (.If c as bs pos) (rS b W (evIf fc f g)) := by
  refine PS.weak (ps_if hc ha hb) fun D σ H ⟨b', S, ρ, eb, G, w⟩ => ⟨b', S, ρ, eb, G, Wp.mono (WpS.bind w) fun S' H' ρ' c s G' w' => ?_⟩
  cases c with
  | true => exact ⟨b', S', ρ', eb, G', w'⟩
  | false => exact ⟨b', S', ρ', eb, G', w'⟩
/-- x = e -/
def evAsg (i : Nat) (fa : M R) : M Fl := M.bnd fa fun r ρ => if i < ρ.length then (match r with
  | .va d => some (.ok .nx (ρ.set i (.va d)))
  | .ow ds => some (.ok .nx (ρ.set i (.ow ds)))
  | .sl j => (match ρ[j]? with
    | some (.ow ds) => some (.ok .nx ((ρ.set j (.va (.lst ds))).set i (.va (.lst ds))))
    | _ => none)) else none
theorem asg_wp {D : Ends} {i : Nat} {σ : L2.St} {S H : Hp} {ρ : ES} (w : WpS b W (evAsg i fa ρ) S D) : Wp b W σ fa S H ρ fun S' H' ρ' r => ∀ v, RR b σ S' H' ρ' v r → D.nx (σ.set i (some v)) H' := by
  refine Wp.mono (WpS.bind w) fun S' H' ρ' r s G w' v hv => ?_
  by_cases hi : i < ρ'.length
  · simp only [if_pos hi] at w'
    cases r with
    | va d => exact w' _ S' H' (Hsub.refl _) (G.setVa hi hv)
    | ow ds => exact w' _ S' H' (Hsub.refl _) (G.setOw hi hv)
    | sl j =>
      cases hj : ρ'[j]? with
      | none => exact wps_none (by simp only [hj]) w'
      | some sl =>
        cases sl with
        | ow ds =>
          simp only [hj] at w'
          obtain ⟨a, vs, e1, r1, r2, r3⟩ := G.sl j _ hj
          have hv' : σ[j]? = some (some v) := hv
          have e2 := hv'.symm.trans e1
          cases e2
          have G' := G.settle hj hv' r1 r2 r3
          have rp : Rp b.K b.mg (upd S' a (.lst vs)) (.ref a) (.lst ds) := .lst upd_same (Rps.mono (Hsub.new r2) _ _ r3)
          exact w' _ _ H' (Hsub.new r2) (G'.setVa (by rw [List.length_set]; exact hi) rp)
        | _ => exact wps_none (by simp only [hj]) w'
  · exact wps_none (if_neg hi) w'
theorem s_set (i : Nat) {x : Str} {pos' : Pos} (o : OKx b L X) (he : PE X e1 (rE b W fa)) (hi : X.N[i]? = some x := by rfl) (hx : Loc X.env.scope x := by first | exact Or.inl rfl | exact Or.inr rfl) (hs : swapsWith e1 (some (.Name x pos')) pos.line X.env = pure false := by rfl)
    (hf : X.fn x = true ∨ X.env.scope.names.lookup x = some .local := by first | exact .inl rfl | exact .inr rfl) : PS X (.Assign [.Name x pos'] e1 pos) (rS b W (evAsg i fa)) :=
  PS.weak (ps_set (i := i) o.nd hi hx he hs hf) fun D σ H ⟨b', S, ρ, eb, G, w⟩ => ⟨b', S, ρ, eb, G, asg_wp w⟩
/-- a value that is stored in parts -/
def evAsgT (t : Tg) (fa : M R) : M Fl := M.bnd (frzM fa) fun r => M.bnd (frzS r) fun d ρ => match t d ρ with
  | some ρ' => some (.ok .nx ρ')
  | none => none
theorem s_asgT {tg : Expr} {is : List Nat} {t : Tg} (he : PE X e1 (rE b W fa)) (hg : PG X tg (rG b is t)) (hs : swapsWithSole [tg] e1 pos.line X.env = pure false := by rfl) (hw : swappedStores [tg] e1 X.env = pure none := by rfl)
    (h1 : (assignEach [tg] X.env).map (·.2) = [assign tg X.env] := by rfl) : PS X (.Assign [tg] e1 pos) (rS b W (evAsgT t fa)) := by
  refine PS.weak (ps_asg he hg hs hw h1) fun D σ H ⟨b', S, ρ, eb, G, w⟩ => ⟨b', S, ρ, eb, G, ?_⟩
  refine Wp.frz0 (K := fun x H1 => rG b is t x σ H1 D.nx) (WpS.bind (σ := σ) (H := H) (f := frzM fa) w) fun S1 H1 ρ1 r v s1 G1 f1 w1 => ?_
  obtain ⟨S2, ρ2, d, s2, G2, r2, w2⟩ := Wp.frzS G1 f1 (WpS.bind (σ := σ) (H := H1) w1)
  cases ht : t d ρ2 with
  | none => exact wps_none (by simp only [ht]) w2
  | some ρ3 =>
    simp only [ht] at w2
    exact ⟨b', S2, ρ2, d, ρ3, eb, G2, r2, ht, fun σ' G' _ _ => w2 σ' S2 H1 (Hsub.refl _) G'⟩
theorem s_ret (he : PE X e1 (rE b W fa)) : PS X (.Return (some e1) pos) (rS b W (evRet fa)) := by
  refine PS.weak (ps_ret he) fun D σ H ⟨b', S, ρ, eb, G, w⟩ => ⟨b', S, ρ, eb, G, Wp.mono (WpS.bind w) fun S' H' ρ' r s G' w' v hv => ?_⟩
  cases r with
  | va d => exact w' σ S' H' v (Hsub.refl _) G' hv
  | ow ds => exact w' σ S' H' v (Hsub.refl _) G' hv
  | sl i =>
    cases hi : ρ'[i]? with
    | none => exact wps_none (by simp only [hi]) w'
    | some sl =>
      cases sl with
      | ow ds =>
        simp only [hi] at w'
        obtain ⟨a, vs, e1, r1, r2, r3⟩ := G'.sl i _ hi
        have hv' : σ[i]? = some (some v) := hv
        have e2 := hv'.symm.trans e1
        cases e2
        have hlt : i < ρ'.length := (List.getElem?_eq_some_iff.mp hi).1
        have hltσ : i < σ.length := by rw [← G'.len]; exact hlt
        have G2 : Good b' (σ.set i none) S' H' (ρ'.set i .no) := G'.setNo hlt
        have w0 : Own ρ' σ i a := ⟨hv', _, hi, rfl⟩
        refine w' _ S' H' (.ref a) (Hsub.refl _) G2 ⟨a, vs, rfl, r1, r2, r3, fun j wj => ?_, G'.o0 i a w0⟩
        have hj : j ≠ i := fun e => by
          subst e
          obtain ⟨q, _⟩ := wj
          rw [List.getElem?_set_self hltσ] at q
          cases q
        exact hj (G'.dis j i a (wj.set_ne hj) w0)
      | _ => exact wps_none (by simp only [hi]) w'
end
end Mc
end
section
set_option Elab.async false
set_option linter.all false
set_option maxRecDepth 100000
set_option maxHeartbeats 4000000
set_option autoImplicit false
namespace Mc
open PySem PySem.Spec L2

/-! ### walks -/
structure Wk (K : PySem.W.Frag) (mg : Str → Option Value) (J : It) (S : Hp) (ds : List D) : Prop where
  go : ∀ (b : Bs) (σ : L2.St) (S' H : Hp) (ρ : ES) (i : Nat), b.K = K → b.mg = mg → Hsub S S' → Good b σ S' H ρ → i < ds.length → J.go i H
  yld : ∀ (b : Bs) (σ : L2.St) (S' H H' : Hp) (ρ : ES) (i : Nat) (d : D) (x : V), b.K = K → b.mg = mg → Hsub S S' → Good b σ S' H ρ → ds[i]? = some d → J.yld i H x H' → ∃ S2, Hsub S' S2 ∧ Good b σ S2 H' ρ ∧ Rp K mg S2 x d
  stop : ∀ (b : Bs) (σ : L2.St) (S' H : Hp) (ρ : ES), b.K = K → b.mg = mg → Hsub S S' → Good b σ S' H ρ → J.stop ds.length H
theorem Wk.lst {K : PySem.W.Frag} {mg : Str → Option Value} {S : Hp} {a : Addr} {vs : List V} {ds : List D} (h : S a = some (.lst vs)) (r : Rps K mg S vs ds) : Wk K mg (Itl K a) S ds where
  go := fun b σ S' H ρ i e1 e2 s G hi => by
    have hl := Rps.length r
    exact ⟨vs, vs[i]'(by omega), SqL.of (G.sub _ _ (s _ _ h)), by simp⟩
  yld := fun b σ S' H H' ρ i d x e1 e2 s G hd ⟨eH, hy⟩ => by
    obtain ⟨v, hv, rv⟩ := Rps.get r hd
    have hx := hy vs (SqL.of (G.sub _ _ (s _ _ h)))
    rw [hv] at hx; cases hx
    subst eH
    exact ⟨S', Hsub.refl _, G, Rp.mono s _ _ rv⟩
  stop := fun b σ S' H ρ e1 e2 s G => ⟨vs, SqL.of (G.sub _ _ (s _ _ h)), by rw [Rps.length r]; exact Nat.le_refl _⟩
theorem Wk.tup {K : PySem.W.Frag} {mg : Str → Option Value} {S : Hp} {a : Addr} {vs : List V} {ds : List D} (h : SqT K S a vs) (r : Rps K mg S vs ds) : Wk K mg (Itt K a) S ds where
  go := fun b σ S' H ρ i e1 e2 s G hi => by
    have hl := Rps.length r
    exact ⟨vs, vs[i]'(by omega), sqt_mono (s.trans G.sub) h, by simp⟩
  yld := fun b σ S' H H' ρ i d x e1 e2 s G hd ⟨eH, hy⟩ => by
    obtain ⟨v, hv, rv⟩ := Rps.get r hd
    have hx := hy vs (sqt_mono (s.trans G.sub) h)
    rw [hv] at hx; cases hx
    subst eH
    exact ⟨S', Hsub.refl _, G, Rp.mono s _ _ rv⟩
  stop := fun b σ S' H ρ e1 e2 s G => ⟨vs, sqt_mono (s.trans G.sub) h, by rw [Rps.length r]; exact Nat.le_refl _⟩
def rngD (lo c : Int) (n : Nat) : List D := (List.range n).map fun i => .int (lo + (i : Nat) * c)
theorem rngD_length (lo c : Int) (n : Nat) : (rngD lo c n).length = n := by unfold rngD; simp
theorem rngD_get {lo c : Int} {n i : Nat} {d : D} (h : (rngD lo c n)[i]? = some d) : d = .int (lo + (i : Nat) * c) := by
  unfold rngD at h
  rw [List.getElem?_map] at h
  by_cases hi : i < n
  · rw [List.getElem?_range hi] at h; cases h; rfl
  · rw [List.getElem?_eq_none (by simpa using Nat.le_of_not_lt hi)] at h; cases h
theorem Wk.rng {K : PySem.W.Frag} {mg : Str → Option Value} {S : Hp} {lo : Int} {n : Nat} : Wk K mg (Itr lo n) S (rngD lo 1 n) where
  go := fun b σ S' H ρ i e1 e2 s G hi => by rw [rngD_length] at hi; exact hi
  yld := fun b σ S' H H' ρ i d x e1 e2 s G hd ⟨eH, hx⟩ => by
    subst eH; subst hx
    have := rngD_get hd
    subst this
    refine ⟨S', Hsub.refl _, G, ?_⟩
    rw [Int.mul_one]
    exact .int _
  stop := fun b σ S' H ρ e1 e2 s G => by rw [rngD_length]; exact Nat.le_refl n
theorem Wk.rngC {K : PySem.W.Frag} {mg : Str → Option Value} {S : Hp} {lo c : Int} {n : Nat} : Wk K mg (Itc lo c n) S (rngD lo c n) where
  go := fun b σ S' H ρ i e1 e2 s G hi => by rw [rngD_length] at hi; exact hi
  yld := fun b σ S' H H' ρ i d x e1 e2 s G hd ⟨eH, hx⟩ => by
    subst eH; subst hx
    have := rngD_get hd
    subst this
    exact ⟨S', Hsub.refl _, G, .int _⟩
  stop := fun b σ S' H ρ e1 e2 s G => by rw [rngD_length]; exact Nat.le_refl n

/-! ### iterables -/
def iX (b0 : Bs) (W : WX) (f : M (List D)) : TI := fun σ H R => ∃ b S ρ, EqB b b0 ∧ Good b σ S H ρ ∧ Wp b W σ f S H ρ fun S' H' ρ' ds => ∀ J, Wk b.K b.mg J S' ds → R J H'
theorem PI.weak {X : Cx} {tg e : Expr} {t t' : TI} (h : PI X tg e t) (k : ∀ σ H Q, t' σ H Q → t σ H Q) : PI X tg e t' := ⟨fun pins s σ H Q I hw => h.run pins s σ H Q I (k σ H Q hw)⟩
def iSq (K : PySem.W.Frag) (tl : TE) : TI := fun σ H R => tl σ H fun x H1 => ∃ a, x = .ref a ∧ ((∃ xs, SqL K H1 a xs) ∧ R (Itl K a) H1 ∨ (∃ xs, SqT K H1 a xs) ∧ R (Itt K a) H1)
theorem pi_sq {X : Cx} {tg l : Expr} {tl : TE} (hl : PE X l tl) : PI X tg l (iSq X.K tl) := by
  refine ⟨fun pins st σ H R I h => ?_⟩
  refine thn (hl.run pins st σ H _ I h) fun v st1 ⟨x, H1, I1, r1, q1⟩ => ?_
  obtain ⟨a, rfl, q⟩ := q1
  cases r1
  have key : ∀ (o : Obj), ∀ c ∈ [st1.heap.objs.size], FpOk X pins H1 c := fun o c hc => by
    rw [List.mem_singleton] at hc
    rw [hc]
    exact I1.fpOk (Nat.le_refl _) (I1.hok.fresh (Nat.le_refl _))
  rcases q with ⟨⟨xs, hq⟩, q⟩ | ⟨⟨xs, hq⟩, q⟩
  · obtain ⟨its, rv, p, _⟩ := I1.list hq
    exact wpAny_pyIter_list p.isList ⟨st1.heap.objs.size, [st1.heap.objs.size], _, _, H1, rfl, I1.kept (t' := st1.toks) fun c o e => Heap.get?_push_of_some _ e, turn_list a _, ⟨_, Heap.get?_push_size _ rfl, rfl, rfl⟩, key default, q⟩
  · obtain ⟨its, rv, p, _⟩ := I1.tuple hq
    exact wpAny_pyIter_tuple (show st1.heap.IsTuple a its.toArray from p) ⟨st1.heap.objs.size, [st1.heap.objs.size], _, _, H1, rfl, I1.kept (t' := st1.toks) fun c o e => Heap.get?_push_of_some _ e, turn_tuple a _, ⟨_, Heap.get?_push_size _ rfl, rfl, rfl⟩, key default, q⟩
def sqD : D → Option (List D)
  | .lst ds => some ds
  | .tup ds => some ds
  | _ => none
/-- the items of a value; a list of the frame is held stable -/
def evSq (fa : M R) : M (List D) := M.bnd (frzM fa) fun r => M.bnd (frzS r) fun d => M.lift (sqD d)
section
variable {b : Bs} {W : WX} {L : Nat} {X : Cx} {pos : Pos} {e1 e2 e3 tg : Expr} {fa fb : M R} {fs : M (List R)} {st : Stmt} {rest body : List Stmt} {f g : M Fl}
theorem Wp.lift {α : Type} {o : Option α} {σ : L2.St} {S H : Hp} {ρ : ES} {P : Hp → Hp → ES → α → Prop} (G : Good b σ S H ρ) (h : Wp b W σ (M.lift o) S H ρ P) : ∃ a, o = some a ∧ P S H ρ a := by
  cases o with
  | none => exact h.elim
  | some a => exact ⟨a, rfl, h S H (Hsub.refl _) G⟩
theorem pi_sqM (o : OKx b L X) (ha : PE X e1 (rE b W fa)) : PI X tg e1 (iX b W (evSq fa)) := by
  refine PI.weak (pi_sq ha) fun σ H R ⟨b', S, ρ, eb, G, w⟩ => ⟨b', S, ρ, eb, G, ?_⟩
  refine Wp.frz (K := fun x H1 => ∃ a, x = .ref a ∧ ((∃ xs, SqL X.K H1 a xs) ∧ R (Itl X.K a) H1 ∨ (∃ xs, SqT X.K H1 a xs) ∧ R (Itt X.K a) H1)) w fun S1 H1 ρ1 r v s1 G1 f1 w1 => ?_
  obtain ⟨S2, ρ2, d, s2, G2, r2, w2⟩ := Wp.frzS G1 f1 (Wp.bind w1)
  obtain ⟨ds, hd, k⟩ := Wp.lift G2 w2
  have eK : X.K = b'.K := by rw [o.K, eb.1]
  cases d with
  | lst xs =>
    cases hd
    cases r2 with
    | lst p q => exact ⟨_, rfl, Or.inl ⟨⟨_, SqL.of (G2.sub _ _ p)⟩, by rw [eK]; exact k _ (Wk.lst p q)⟩⟩
  | tup xs =>
    cases hd
    cases r2 with
    | tup p q => exact ⟨_, rfl, Or.inr ⟨⟨_, by rw [eK]; exact sqt_mono G2.sub p.1⟩, by rw [eK]; exact k _ (Wk.tup p.1 q)⟩⟩
  | _ => cases hd
def smI (i : Int) : Bool := decide (-4611686018427387904 ≤ i) && decide (i < 4611686018427387904)
theorem smI_ok {i : Int} (h : smI i = true) : -(2 ^ 62) ≤ i ∧ i < 2 ^ 62 := by
  unfold smI at h
  rw [Bool.and_eq_true, decide_eq_true_eq, decide_eq_true_eq] at h
  omega
def rngR1 : List R → Option (List D)
  | [.va (.int j)] => if smI j = true then some (rngD 0 1 j.toNat) else none
  | _ => none
def rngR2 : List R → Option (List D)
  | [.va (.int i), .va (.int j)] => if (smI i && smI j) = true then some (rngD i 1 (j - i).toNat) else none
  | _ => none
/-- range with a step: up or down -/
def rngN (i j c : Int) : Option Nat := if c = -1 then some (i - j).toNat else if decide (0 < c) && decide (c < 1000000000) then some ((j - i + c - 1) / c).toNat else none
def evRng (g : List R → Option (List D)) (fs : M (List R)) : M (List D) := M.bnd fs fun rs => M.lift (g rs)
theorem pi_rng1 {p : Pos} (hg : Gl X "range") (hm : X.mg "range" = none) (ha : PA X [e1] (rAr b W fs)) (hs : starEach [e1] X.env = [(false, eval e1 X.env)] := by rfl) : PI X tg (.Call (.Name "range" p) [e1] [] pos) (iX b W (evRng rngR1 fs)) := by
  refine PI.weak (pi_range1 hg hm ha hs) fun σ H R ⟨b', S, ρ, eb, G, w⟩ => ⟨b', S, ρ, eb, G, Wp.mono (Wp.bind w) fun S1 H1 ρ1 rs s1 G1 w1 vs hvs => ?_⟩
  obtain ⟨ds, hd, k⟩ := Wp.lift G1 w1
  unfold rngR1 at hd
  split at hd
  · rename_i j
    split at hd
    · rename_i hj
      cases hd
      cases hvs with
      | cons h1 h2 =>
        cases h2
        cases h1
        obtain ⟨q1, q2⟩ := smI_ok hj
        exact ⟨j, rfl, q1, q2, k _ Wk.rng⟩
    · cases hd
  · cases hd
theorem pi_rng2 {p : Pos} (hg : Gl X "range") (hm : X.mg "range" = none) (ha : PA X [e1, e2] (rAr b W fs)) (hs : starEach [e1, e2] X.env = [(false, eval e1 X.env), (false, eval e2 X.env)] := by rfl) (hs2 : starEach [e2] X.env = [(false, eval e2 X.env)] := by rfl) :
    PI X tg (.Call (.Name "range" p) [e1, e2] [] pos) (iX b W (evRng rngR2 fs)) := by
  refine PI.weak (pi_range2 hg hm ha hs hs2) fun σ H R ⟨b', S, ρ, eb, G, w⟩ => ⟨b', S, ρ, eb, G, Wp.mono (Wp.bind w) fun S1 H1 ρ1 rs s1 G1 w1 vs hvs => ?_⟩
  obtain ⟨ds, hd, k⟩ := Wp.lift G1 w1
  unfold rngR2 at hd
  split at hd
  · rename_i i j
    split at hd
    · rename_i hj
      cases hd
      cases hvs with
      | cons h1 h2 =>
        cases h2 with
        | cons h3 h4 =>
          cases h4
          cases h1
          cases h3
          obtain ⟨qa, qb⟩ := Bool.and_eq_true_iff.mp hj
          obtain ⟨q1, q2⟩ := smI_ok qa
          obtain ⟨q3, q4⟩ := smI_ok qb
          exact ⟨i, j, rfl, ⟨q1, q2, q3, q4⟩, k _ Wk.rng⟩
    · cases hd
  · cases hd

/-! ### for -/
def forM (t : Tg) (f : M Fl) : List D → M Fl
  | [], ρ => some (.ok .nx ρ)
  | d :: ds, ρ => match t d ρ with
    | none => none
    | some ρ1 => match f ρ1 with
      | some (.ok .nx ρ2) => forM t f ds ρ2
      | some (.ok .ct ρ2) => forM t f ds ρ2
      | some (.ok .bk ρ2) => some (.ok .nx ρ2)
      | o => o
def evFor (fi : M (List D)) (t : Tg) (f : M Fl) : M Fl := M.bnd fi fun ds => forM t f ds
theorem s_for {is : List Nat} {t : Tg} {fi : M (List D)} (o : OKx b L X) (hp : PassesOwn (model X.prog X.w) X.A X.env X.xe) (hi : PI X tg e1 (iX b W fi)) (hg : PG X tg (rG b is t)) (hb : PSs X body (rS b W f))
    (hs : ∀ x, foldedSetIterable e1 X.env x = pure x := by intro _; rfl) : PS X (.For tg e1 body [] pos) (rS b W (evFor fi t f)) := by
  refine PS.weak (ps_for hp o.calm hi hg hb hs) fun D σ H ⟨b', S, ρ, eb, G, w⟩ => ⟨b', S, ρ, eb, G, Wp.mono (WpS.bind w) fun S1 H1 ρ1 ds s1 G1 w1 J wk => ?_⟩
  refine ⟨fun i m σ2 H2 => m = ds.length - i ∧ i ≤ ds.length ∧ ∃ S2 ρ2, Hsub S1 S2 ∧ Good b' σ2 S2 H2 ρ2 ∧ WpS b' W (forM t f (ds.drop i) ρ2) S2 D, ⟨ds.length, by simp, Nat.zero_le _, S1, ρ1, Hsub.refl _, G1, by rw [List.drop_zero]; exact w1⟩, ?_⟩
  rintro i m σ2 H2 ⟨rfl, hi, S2, ρ2, s2, G2, w2⟩
  by_cases hlt : i < ds.length
  · refine Or.inr ⟨wk.go b' σ2 S2 H2 ρ2 i rfl rfl s2 G2 hlt, fun σ3 H3 => ∃ S3 ρ3, Hsub S1 S3 ∧ Good b' σ3 S3 H3 ρ3 ∧ WpS b' W (forM t f (ds.drop (i + 1)) ρ3) S3 D, fun σ3 H3 q => ⟨ds.length - (i + 1), by omega, rfl, hlt, q⟩, fun x H3 y => ?_⟩
    obtain ⟨S3, s3, G3, r3⟩ := wk.yld b' σ2 S2 H2 H3 ρ2 i _ x rfl rfl s2 G2 (List.getElem?_eq_getElem hlt) y
    rw [List.drop_eq_getElem_cons hlt] at w2
    unfold forM at w2
    cases ht : t ds[i] ρ2 with
    | none => rw [ht] at w2; exact w2.elim
    | some ρ3 =>
      simp only [ht] at w2
      refine ⟨b', S3, ρ2, ds[i], ρ3, eb, G3, r3, ht, fun σ4 G4 _ _ => ⟨b', S3, ρ3, eb, G4, ?_⟩⟩
      cases hf : f ρ3 with
      | none => rw [hf] at w2; exact w2.elim
      | some r =>
        rw [hf] at w2
        cases r with
        | er x ρ4 => exact WpS.sub (show WpS b' W (some (.er x ρ4)) S2 { D with nx := _ , ct := _, bk := D.nx } from w2) s3
        | ok fl ρ4 =>
          cases fl with
          | nx => exact fun σ5 S5 H5 s5 G5 => ⟨S5, ρ4, s2.trans (s3.trans s5), G5, WpS.sub w2 (s3.trans s5)⟩
          | ct => exact fun σ5 S5 H5 s5 G5 => ⟨S5, ρ4, s2.trans (s3.trans s5), G5, WpS.sub w2 (s3.trans s5)⟩
          | bk => exact fun σ5 S5 H5 s5 G5 => w2 σ5 S5 H5 (s3.trans s5) G5
          | rt r => exact fun σ5 S5 H5 v s5 G5 => w2 σ5 S5 H5 v (s3.trans s5) G5
  · have e : i = ds.length := by omega
    subst e
    rw [List.drop_length] at w2
    exact Or.inl ⟨wk.stop b' σ2 S2 H2 ρ2 rfl rfl s2 G2, w2 σ2 S2 H2 (Hsub.refl _) G2⟩

/-! ### while -/
def whileM (c : M Bool) (f : M Fl) : Nat → M Fl
  | 0, _ => none
  | n + 1, ρ => match c ρ with
    | some (.ok true ρ1) => (match f ρ1 with
      | some (.ok .nx ρ2) => whileM c f n ρ2
      | some (.ok .ct ρ2) => whileM c f n ρ2
      | some (.ok .bk ρ2) => some (.ok .nx ρ2)
      | o => o)
    | some (.ok false ρ1) => some (.ok .nx ρ1)
    | some (.er x ρ1) => some (.er x ρ1)
    | none => none
open Classical in
noncomputable def evWhile (c : M Bool) (f : M Fl) : M Fl := fun ρ => if h : ∃ n, (whileM c f n ρ).isSome = true then whileM c f (Classical.choose h) ρ else none
theorem whileM_mono {c : M Bool} {f : M Fl} : ∀ (n m : Nat) (ρ : ES) (r : Res Fl), n ≤ m → whileM c f n ρ = some r → whileM c f m ρ = some r
  | 0, m, ρ, r, h, e => by cases e
  | n + 1, 0, ρ, r, h, e => by omega
  | n + 1, m + 1, ρ, r, h, e => by
    unfold whileM at e ⊢
    split at e
    · rename_i ρ1 hc
      split at e
      · rename_i ρ2 hf
        exact whileM_mono n m ρ2 r (by omega) e
      · rename_i ρ2 hf
        exact whileM_mono n m ρ2 r (by omega) e
      · exact e
      · exact e
    · exact e
    · exact e
    · exact e
theorem evWhile_of {c : M Bool} {f : M Fl} {n : Nat} {ρ : ES} {r : Res Fl} (h : whileM c f n ρ = some r) : evWhile c f ρ = some r := by
  have hx : ∃ n, (whileM c f n ρ).isSome = true := ⟨n, by rw [h]; rfl⟩
  unfold evWhile
  rw [dif_pos hx]
  have h2 := Classical.choose_spec hx
  generalize Classical.choose hx = m at h2
  cases hm : whileM c f m ρ with
  | none => rw [hm] at h2; cases h2
  | some r' =>
    rcases Nat.le_total n m with q | q
    · rw [whileM_mono n m ρ r q h] at hm; exact hm.symm
    · rw [whileM_mono m n ρ r' q hm] at h; exact h
theorem s_while {c : Expr} {fc : M Bool} (hp : PassesOwn (model X.prog X.w) X.A X.env X.xe) (hc : PT X c (rT b W fc)) (hb : PSs X body (rS b W f)) : PS X (.While c body [] pos) (rS b W (evWhile fc f)) := by
  refine PS.weak (ps_while hp hc hb) fun D σ H ⟨b', S, ρ, eb, G, w⟩ => ?_
  have hx : ∃ n, WpS b' W (whileM fc f n ρ) S D := by
    unfold evWhile at w
    split at w
    · exact ⟨_, w⟩
    · exact w.elim
  obtain ⟨n0, w0⟩ := hx
  refine ⟨fun n σ2 H2 => ∃ S2 ρ2, Good b' σ2 S2 H2 ρ2 ∧ WpS b' W (whileM fc f n ρ2) S2 D, ⟨n0, S, ρ, G, w0⟩, ?_⟩
  rintro n σ2 H2 ⟨S2, ρ2, G2, w2⟩
  cases n with
  | zero => exact w2.elim
  | succ n =>
    refine ⟨b', S2, ρ2, eb, G2, ?_⟩
    unfold whileM at w2
    unfold Wp WpO
    cases hc : fc ρ2 with
    | none => rw [hc] at w2; exact w2.elim
    | some r =>
      rw [hc] at w2
      cases r with
      | er x ρ3 => exact fun S3 H3 cls d s3 G3 => w2 σ2 S3 H3 cls d s3 G3
      | ok k ρ3 =>
        cases k with
        | false => exact fun S3 H3 s3 G3 => w2 σ2 S3 H3 s3 G3
        | true =>
          refine fun S3 H3 s3 G3 => ⟨fun σ4 H4 => ∃ S4 ρ4, Good b' σ4 S4 H4 ρ4 ∧ WpS b' W (whileM fc f n ρ4) S4 D, fun σ4 H4 q => ⟨n, Nat.lt_succ_self n, q⟩, b', S3, ρ3, eb, G3, ?_⟩
          have w3 := WpS.sub w2 s3
          clear w2
          simp only at w3
          cases hf : f ρ3 with
          | none => rw [hf] at w3; exact w3.elim
          | some r =>
            rw [hf] at w3
            cases r with
            | er x ρ4 => exact w3
            | ok fl ρ4 =>
              cases fl with
              | nx => exact fun σ5 S5 H5 s5 G5 => ⟨S5, ρ4, G5, WpS.sub w3 s5⟩
              | ct => exact fun σ5 S5 H5 s5 G5 => ⟨S5, ρ4, G5, WpS.sub w3 s5⟩
              | bk => exact w3
              | rt r => exact w3
end
end Mc
end
section
set_option Elab.async false
set_option linter.all false
set_option maxRecDepth 100000
set_option maxHeartbeats 4000000
set_option autoImplicit false
namespace Mc
open PySem PySem.Spec L2

/-! ### a block's own names forgotten -/
def wipeE (ρ : ES) : List Nat → ES
  | [] => ρ
  | v :: vs => (wipeE ρ vs).set v .no
def unwipe (ρ ρ' : ES) : List Nat → ES
  | [] => ρ'
  | v :: vs => (unwipe ρ ρ' vs).set v (match ρ[v]? with
    | some (.va d) => .va d
    | _ => .no)
theorem unwipe_length (ρ ρ' : ES) : ∀ vs, (unwipe ρ ρ' vs).length = ρ'.length
  | [] => rfl
  | v :: vs => by unfold unwipe; rw [List.length_set, unwipe_length ρ ρ' vs]
theorem unwipe_get (ρ ρ' : ES) : ∀ (vs : List Nat) (j : Nat) (s : Sl), (unwipe ρ ρ' vs)[j]? = some s → (j ∉ vs ∧ ρ'[j]? = some s) ∨ (j ∈ vs ∧ (s = .no ∨ ∃ d, s = .va d ∧ ρ[j]? = some (.va d)))
  | [], j, s, h => Or.inl ⟨by simp, h⟩
  | v :: vs, j, s, h => by
    unfold unwipe at h
    by_cases hj : v = j
    · subst hj
      refine Or.inr ⟨by simp, ?_⟩
      by_cases hl : v < (unwipe ρ ρ' vs).length
      · rw [List.getElem?_set_self hl] at h
        split at h
        · rename_i d hd
          cases h
          exact Or.inr ⟨d, rfl, hd⟩
        · cases h; exact Or.inl rfl
      · rw [List.getElem?_eq_none (by simpa using hl)] at h; cases h
    · rw [List.getElem?_set_ne hj] at h
      rcases unwipe_get ρ ρ' vs j s h with ⟨h1, h2⟩ | ⟨h1, h2⟩
      · exact Or.inl ⟨by simp only [List.mem_cons, not_or]; exact ⟨fun e => hj e.symm, h1⟩, h2⟩
      · exact Or.inr ⟨by simp [h1], h2⟩
theorem wipe_get (σ : L2.St) : ∀ (vs : List Nat) (j : Nat), (wipe σ vs)[j]? = if j ∈ vs then (if j < σ.length then some none else none) else σ[j]?
  | [], j => by simp [wipe]
  | v :: vs, j => by
    unfold wipe
    by_cases hj : v = j
    · subst hj
      rw [if_pos (by simp)]
      by_cases hl : v < σ.length
      · rw [List.getElem?_set_self (by rw [wipe_length]; exact hl), if_pos hl]
      · rw [if_neg hl, List.getElem?_eq_none (by rw [List.length_set, wipe_length]; omega)]
    · rw [List.getElem?_set_ne hj, wipe_get σ vs j]
      have : (j ∈ v :: vs) ↔ j ∈ vs := by simp [Ne.symm hj]
      by_cases h : j ∈ vs
      · rw [if_pos h, if_pos (this.mpr h)]
      · rw [if_neg h, if_neg (fun z => h (this.mp z))]
theorem wipe_eq {σ σ' : L2.St} {vs : List Nat} (hl : σ'.length = σ.length) (h : ∀ j, j ∉ vs → σ'[j]? = σ[j]?) : wipe σ' vs = wipe σ vs := by
  apply List.ext_getElem?
  intro j
  rw [wipe_get, wipe_get, hl]
  by_cases hj : j ∈ vs
  · rw [if_pos hj, if_pos hj]
  · rw [if_neg hj, if_neg hj, h j hj]
section
variable {b : Bs} {σ : L2.St} {S H : Hp} {ρ : ES}
theorem Good.setNo' (G : Good b σ S H ρ) {i : Nat} {x : Option V} : Good b (σ.set i x) S H (ρ.set i .no) := by
  by_cases h : i < ρ.length
  · exact G.setNo h
  · have hl := G.len
    rw [List.set_eq_of_length_le (l := σ) (by omega), List.set_eq_of_length_le (l := ρ) (by omega)]
    exact G
theorem Good.wipe (G : Good b σ S H ρ) : ∀ vs, Good b (L2.wipe σ vs) S H (wipeE ρ vs)
  | [] => G
  | v :: vs => (Good.wipe G vs).setNo'
theorem Good.unwipe {S' H' : Hp} {ρ' : ES} {vs : List Nat} (G : Good b σ S H ρ) (s : Hsub S S') (G' : Good b (L2.wipe σ vs) S' H' ρ') : Good b σ S' H' (Mc.unwipe ρ ρ' vs) := by
  have hl : ρ'.length = σ.length := by rw [G'.len, wipe_length]
  have key : ∀ {j a}, Own (Mc.unwipe ρ ρ' vs) σ j a → Own ρ' (L2.wipe σ vs) j a := by
    rintro j a ⟨h1, sl, h2, h3⟩
    rcases unwipe_get ρ ρ' vs j sl h2 with ⟨q1, q2⟩ | ⟨_, q | ⟨d, q, _⟩⟩
    · exact ⟨by rw [wipe_get, if_neg q1]; exact h1, sl, q2, h3⟩
    · subst q; cases h3
    · subst q; cases h3
  refine ⟨G'.sub, by rw [unwipe_length]; exact hl, fun j sl e => ?_, fun i j a h1 h2 => G'.dis i j a (key h1) (key h2), G'.k0, fun i a h => G'.o0 i a (key h), G'.s0, G'.n0, G'.f0⟩
  rcases unwipe_get ρ ρ' vs j sl e with ⟨q1, q2⟩ | ⟨_, q | ⟨d, q, q2⟩⟩
  · have := G'.sl j sl q2
    rw [wipe_get, if_neg q1] at this
    exact this
  · subst q; trivial
  · subst q
    obtain ⟨v, h1, h2⟩ := G.sl j _ q2
    exact ⟨v, h1, Rp.mono s _ _ h2⟩
/-- an object that is neither held stable nor a slot's own changes -/
theorem Good.chg {p : Addr} {o o' : HO} (G : Good b σ S H ρ) (hp : H p = some o) (hS : S p = none) (hn : ∀ i, ¬ Own ρ σ i p) (h0 : b.H0 p = none ∨ b.B p) : Good b σ S (upd H p o') ρ where
  sub := fun a u e => by
    rw [upd_ne (fun z => by subst z; rw [hS] at e; cases e)]
    exact G.sub _ _ e
  len := G.len
  sl := fun i s e => (G.sl i s e).heap fun a u ha ho hu => by
    rw [upd_ne (fun z => by subst z; exact hn i ⟨ha, s, e, ho⟩)]
    exact hu
  dis := G.dis
  k0 := fun a u e n => by
    rw [upd_ne (fun z => by
      subst z
      rcases h0 with q | q
      · rw [q] at e; cases e
      · exact n q)]
    exact G.k0 a u e n
  o0 := G.o0
  s0 := G.s0
  n0 := G.n0
  f0 := fun a e => G.f0 a (by
    by_cases h : a = p
    · subst h; rw [upd_same] at e; cases e
    · rw [upd_ne h] at e; exact e)
end

/-! ### list comprehensions -/
def compM (vs : List Nat) (t : Tg) (c : M Bool) (f : M R) : List D → List D → ES → Option (ES × List D)
  | [], acc, ρ => some (ρ, acc)
  | d :: ds, acc, ρ => match t d ρ with
    | none => none
    | some ρ1 => match c ρ1 with
      | some (.ok false ρ2) => compM vs t c f ds acc (wipeE ρ2 vs)
      | some (.ok true ρ2) => (match M.bnd (frzM f) frzS ρ2 with
        | some (.ok y ρ3) => if few acc = true then compM vs t c f ds (acc ++ [y]) (wipeE ρ3 vs) else none
        | _ => none)
      | _ => none
def compE (vs : List Nat) (t : Tg) (c : M Bool) (f : M R) (ds : List D) : M R := fun ρ => match compM vs t c f ds [] (wipeE ρ vs) with
  | some (ρ', acc) => some (.ok (.ow acc) (unwipe ρ ρ' vs))
  | none => none
def evComp (vs : List Nat) (fi : M (List D)) (t : Tg) (c : M Bool) (f : M R) : M R := M.bnd fi fun ds => compE vs t c f ds
def WF : WX := fun _ _ _ _ => False
section
variable {b : Bs} {W : WX} {L : Nat} {X : Cx} {pos : Pos} {e1 e2 e3 tg iter elt : Expr} {fa fb : M R} {fs : M (List R)} {ifs : List Expr}
/-- what stands of the list that grows -/
structure Grow (b : Bs) (σ : L2.St) (S H : Hp) (ρ : ES) (p : Addr) (acc : List D) : Prop where
  good : Good b σ S H ρ
  at_ : ∃ vs, H p = some (.lst vs) ∧ Rps b.K b.mg S vs acc
  fr : S p = none
  no : ∀ i, ¬ Own ρ σ i p
  h0 : b.H0 p = none
theorem few_lt {α : Type} {xs : List α} (h : few xs = true) : xs.length < sizeLine := Nat.lt_of_le_of_lt (of_decide_eq_true h) (by decide)
theorem Grow.turn {σ σ' : L2.St} {S S' H H' : Hp} {ρ ρ' : ES} {p : Addr} {acc : List D} (g : Grow b σ S H ρ p acc) (s : Hsub S S') (G' : Good (re b σ S H ρ) σ' S' H' ρ') : Grow b σ' S' H' ρ' p acc := by
  obtain ⟨vs, h1, h2⟩ := g.at_
  have nB : ¬ (re b σ S H ρ).B p := fun ⟨i, w⟩ => g.no i w
  refine ⟨g.good.tr G', ⟨vs, G'.k0 p _ h1 nB, Rps.mono s _ _ h2⟩, ?_, fun i w => ?_, g.h0⟩
  · cases e : S' p with
    | none => rfl
    | some o =>
      rcases G'.n0 p (by rw [e]; exact fun z => nomatch z) with z | z | z
      · exact (z g.fr).elim
      · have z' : H p = none := z
        rw [h1] at z'; cases z'
      · exact (nB z).elim
  · rcases G'.o0 i p w with z | z
    · have z' : H p = none := z
      rw [h1] at z'; cases z'
    · exact nB z
theorem lc_wp {is vs : List Nat} {fi : M (List D)} {t : Tg} {c : M Bool} {σ : L2.St} {S H : Hp} {ρ : ES} {Q : VK} {b0 : Bs} (eb : EqB b b0) (his : ∀ j ∈ is, j ∈ vs) (G : Good b σ S H ρ)
    (w : Wp b W σ (evComp vs fi t c fa) S H ρ fun S' H' ρ' r => ∀ v, RR b σ S' H' ρ' v r → Q v H') : tLc (iX b0 W fi) (rG b0 is t) (rT b0 WF c) (rE b0 WF fa) vs σ H Q := by
  refine ⟨b, S, ρ, eb, G, Wp.mono (Wp.bind w) fun S1 H1 ρ1 ds s1 G1 w1 J wk p hp => ?_⟩
  cases hc : compM vs t c fa ds [] (wipeE ρ1 vs) with
  | none => exact wp_none (by unfold compE; simp only [hc]) w1
  | some r =>
    obtain ⟨ρf, accf⟩ := r
    have wend : ∀ S' H', Hsub S1 S' → Good b σ S' H' (unwipe ρ1 ρf vs) → ∀ v, RR b σ S' H' (unwipe ρ1 ρf vs) v (.ow accf) → Q v H' := fun S' H' s' G' =>
      wp_ok (a := R.ow accf) (by unfold compE; simp only [hc]) w1 s' G'
    have G1' : Good b (L2.wipe σ vs) S1 (upd H1 p (.lst [])) (wipeE ρ1 vs) := (G1.wipe vs).newH hp
    have g0 : Grow b (L2.wipe σ vs) S1 (upd H1 p (.lst [])) (wipeE ρ1 vs) p [] := ⟨G1', ⟨[], upd_same, .nil⟩, G1.sn hp, (fun i wo => by
      obtain ⟨⟨u, e⟩, _⟩ := (G1.wipe vs).ownat wo
      rw [hp] at e; cases e), G1.f0 _ hp⟩
    refine ⟨fun i m H2 => m = ds.length - i ∧ i ≤ ds.length ∧ ∃ S2 ρ2 acc, Hsub S1 S2 ∧ Grow b (L2.wipe σ vs) S2 H2 ρ2 p acc ∧ compM vs t c fa (ds.drop i) acc ρ2 = some (ρf, accf), ⟨ds.length, by simp, Nat.zero_le _, S1, _, [], Hsub.refl _, g0, by rw [List.drop_zero]; exact hc⟩, ?_⟩
    rintro i m H2 ⟨rfl, hi, S2, ρ2, acc, s2, g2, hc2⟩
    by_cases hlt : i < ds.length
    · refine Or.inr ⟨wk.go b _ S2 H2 ρ2 i rfl rfl s2 g2.good hlt, fun H3 => ∃ S3 ρ3 acc, Hsub S1 S3 ∧ Grow b (L2.wipe σ vs) S3 H3 ρ3 p acc ∧ compM vs t c fa (ds.drop (i + 1)) acc ρ3 = some (ρf, accf), fun H3 q => ⟨ds.length - (i + 1), by omega, rfl, hlt, q⟩, fun x H3 y => ?_⟩
      have eb2 : EqB (re b (L2.wipe σ vs) S2 H2 ρ2) b0 := ⟨eb.1, eb.2⟩
      obtain ⟨S3, s3, G3, r3⟩ := wk.yld (re b (L2.wipe σ vs) S2 H2 ρ2) _ S2 H2 H3 ρ2 i _ x rfl rfl s2 g2.good.re (List.getElem?_eq_getElem hlt) y
      rw [List.drop_eq_getElem_cons hlt] at hc2
      unfold compM at hc2
      cases ht : t ds[i] ρ2 with
      | none => rw [ht] at hc2; cases hc2
      | some ρ3 =>
        simp only [ht] at hc2
        refine ⟨_, S3, ρ2, ds[i], ρ3, eb2, G3, r3, ht, fun σ4 G4 k4 l4 => ?_⟩
        have hw : L2.wipe σ4 vs = L2.wipe σ vs := by
          refine wipe_eq (by rw [l4, wipe_length]) fun j hj => ?_
          rw [k4 j (fun z => hj (his j z)), wipe_get, if_neg hj]
        refine ⟨hw, _, S3, ρ3, eb2, G4, ?_⟩
        unfold Wp WpO
        cases hk : c ρ3 with
        | none => rw [hk] at hc2; cases hc2
        | some r =>
          rw [hk] at hc2
          cases r with
          | er x ρ4 => cases hc2
          | ok k ρ4 =>
            cases k with
            | false =>
              refine fun S5 H5 s5 G5 => ?_
              have G6 := G5.wipe vs
              rw [hw] at G6
              exact ⟨S5, _, acc, s2.trans (s3.trans s5), g2.turn (s3.trans s5) G6, hc2⟩
            | true =>
              simp only at hc2
              cases hy : M.bnd (frzM fa) frzS ρ4 with
              | none => rw [hy] at hc2; cases hc2
              | some r =>
                rw [hy] at hc2
                cases r with
                | er x ρ5 => cases hc2
                | ok y ρ5 =>
                  simp only at hc2
                  split at hc2
                  · rename_i hfew
                    refine fun S5 H5 s5 G5 => ⟨_, S5, ρ4, eb2, G5, ?_⟩
                    have wy : Wp (re b (L2.wipe σ vs) S2 H2 ρ2) WF σ4 (M.bnd (frzM fa) frzS) S5 H5 ρ4 fun S' H' ρ' d => ρ' = ρ5 ∧ d = y := by
                      unfold Wp WpO
                      rw [hy]
                      exact fun S' H' s' G' => ⟨rfl, rfl⟩
                    refine Wp.frz (K := fun y H4 => ∃ acc, H4 p = some (.lst acc) ∧ acc.length < sizeLine ∧ ∃ S3 ρ3 acc_1, Hsub S1 S3 ∧ Grow b (L2.wipe σ vs) S3 (upd H4 p (.lst (acc ++ [y]))) ρ3 p acc_1 ∧ compM vs t c fa (ds.drop (i + 1)) acc_1 ρ3 = some (ρf, accf)) wy fun S6 H6 ρ6 r v s6 G6 f6 w6 => ?_
                    obtain ⟨S7, ρ7, d, s7, G7, r7, e1, e2⟩ := Wp.frzS G6 f6 w6
                    subst e1 e2
                    have G8 := G7.wipe vs
                    rw [hw] at G8
                    have g8 := g2.turn (s3.trans (s5.trans (s6.trans s7))) G8
                    obtain ⟨ws, hws, rws⟩ := g8.at_
                    refine ⟨ws, hws, by rw [Rps.length rws]; exact few_lt hfew, S7, _, acc ++ [d], s2.trans (s3.trans (s5.trans (s6.trans s7))), ⟨g8.good.chg hws g8.fr g8.no (Or.inl g8.h0), ⟨ws ++ [v], upd_same, Rps.append rws (.cons r7 .nil)⟩, g8.fr, g8.no, g8.h0⟩, hc2⟩
                  · cases hc2
    · have e : i = ds.length := by omega
      subst e
      rw [List.drop_length] at hc2
      unfold compM at hc2
      cases hc2
      refine Or.inl ⟨wk.stop b _ S2 H2 _ rfl rfl s2 g2.good, ?_⟩
      obtain ⟨ws, hws, rws⟩ := g2.at_
      refine wend S2 H2 s2 (G1.unwipe s2 g2.good) _ ⟨p, ws, rfl, hws, g2.fr, rws, fun j wj => ?_, Or.inl g2.h0⟩
      obtain ⟨h1, sl, h2, h3⟩ := wj
      rcases unwipe_get ρ1 ρf vs j sl h2 with ⟨q1, q2⟩ | ⟨_, q | ⟨d, q, _⟩⟩
      · exact g2.no j ⟨by rw [wipe_get, if_neg q1]; exact h1, sl, q2, h3⟩
      · subst q; cases h3
      · subst q; cases h3
theorem PTs.weak {X : Cx} {e : List Expr} {t t' : TT} (h : PTs X e t) (k : ∀ σ H Q, t' σ H Q → t σ H Q) : PTs X e t' := ⟨fun pins s σ H Q I hw => h.run pins s σ H Q I (k σ H Q hw)⟩
theorem pts_n {W : WX} : PTs X [] (rT b W (M.ret true)) := PTs.weak pts_nil fun σ H Q ⟨b', S, ρ, eb, G, w⟩ => Wp.ret (a := true) w G
theorem pts_1 {W : WX} {c : Expr} {f : M Bool} (h : PT X c (rT b W f)) : PTs X [c] (rT b W f) := pts_one h
theorem pe_lcM {is : List Nat} {scope : Scope} {own : List (Str × Nat)} {fi : M (List D)} {t : Tg} {c : M Bool} (o : OKx b L X) (hi : PI X tg iter (iX b W fi)) (ok : BlkOk X.N X.env.scope scope own) (his : ∀ j ∈ is, j ∈ own.map (·.2))
    (hg : ∀ (s : Shared) (H : Hp) (C : Addr) (cl : List (Str × Addr)) (fp : List Addr), OKx b L (X.blk s H scope (compEnvC scope cl C X.env) fp) → PG (X.blk s H scope (compEnvC scope cl C X.env) fp) tg (rG b is t))
    (ht : ∀ (s : Shared) (H : Hp) (C : Addr) (cl : List (Str × Addr)) (fp : List Addr), OKx b L (X.blk s H scope (compEnvC scope cl C X.env) fp) → PTs (X.blk s H scope (compEnvC scope cl C X.env) fp) ifs (rT b WF c))
    (he : ∀ (s : Shared) (H : Hp) (C : Addr) (cl : List (Str × Addr)) (fp : List Addr), OKx b L (X.blk s H scope (compEnvC scope cl C X.env) fp) → PE (X.blk s H scope (compEnvC scope cl C X.env) fp) elt (rE b WF fa)) (hs : ∀ x, foldedSetIterable iter X.env x = pure x := by intro _; rfl) :
    PE X (.ListComp elt [⟨tg, iter, ifs, 0⟩] scope pos) (rE b W (evComp (own.map (·.2)) fi t c fa)) := by
  have ob : ∀ (s : Shared) (H : Hp) (C : Addr) (cl : List (Str × Addr)) (fp : List Addr), OKx b L (X.blk s H scope (compEnvC scope cl C X.env) fp) := fun _ _ _ _ _ => ⟨o.K, o.mg, o.calm, o.nd, o.rm⟩
  exact PE.weak (pe_lc o.calm o.nd hi ok (fun s H C cl fp => hg s H C cl fp (ob s H C cl fp)) (fun s H C cl fp => ht s H C cl fp (ob s H C cl fp)) (fun s H C cl fp => he s H C cl fp (ob s H C cl fp)) hs) fun σ H Q ⟨b', S, ρ, eb, G, w⟩ => lc_wp eb his G w
theorem s_setLc {i : Nat} {y : Str} {py spos : Pos} {is : List Nat} {scope : Scope} {own : List (Str × Nat)} {fi : M (List D)} {t : Tg} {c : M Bool} (o : OKx b L X) (hi : PI X tg iter (iX b W fi)) (ok : BlkOk X.N X.env.scope scope own) (his : ∀ j ∈ is, j ∈ own.map (·.2))
    (hg : ∀ (s : Shared) (H : Hp) (C : Addr) (cl : List (Str × Addr)) (fp : List Addr), OKx b L (X.blk s H scope (compEnvC scope cl C X.env) fp) → PG (X.blk s H scope (compEnvC scope cl C X.env) fp) tg (rG b is t))
    (ht : ∀ (s : Shared) (H : Hp) (C : Addr) (cl : List (Str × Addr)) (fp : List Addr), OKx b L (X.blk s H scope (compEnvC scope cl C X.env) fp) → PTs (X.blk s H scope (compEnvC scope cl C X.env) fp) ifs (rT b WF c))
    (he : ∀ (s : Shared) (H : Hp) (C : Addr) (cl : List (Str × Addr)) (fp : List Addr), OKx b L (X.blk s H scope (compEnvC scope cl C X.env) fp) → PE (X.blk s H scope (compEnvC scope cl C X.env) fp) elt (rE b WF fa))
    (hy : X.N[i]? = some y := by rfl) (hyl : X.env.scope.names.lookup y = some .local := by rfl) (hsw : swapsWith (.ListComp elt [⟨tg, iter, ifs, 0⟩] scope pos) (some (.Name y py)) spos.line X.env = pure true := by rfl)
    (hs : ∀ x, foldedSetIterable iter X.env x = pure x := by intro _; rfl) :
    PS X (.Assign [.Name y py] (.ListComp elt [⟨tg, iter, ifs, 0⟩] scope pos) spos) (rS b W (evAsg i (evComp (own.map (·.2)) fi t c fa))) := by
  have ob : ∀ (s : Shared) (H : Hp) (C : Addr) (cl : List (Str × Addr)) (fp : List Addr), OKx b L (X.blk s H scope (compEnvC scope cl C X.env) fp) := fun _ _ _ _ _ => ⟨o.K, o.mg, o.calm, o.nd, o.rm⟩
  exact PS.weak (ps_setLc o.calm o.nd hy hyl hsw hi ok (fun s H C cl fp => hg s H C cl fp (ob s H C cl fp)) (fun s H C cl fp => ht s H C cl fp (ob s H C cl fp)) (fun s H C cl fp => he s H C cl fp (ob s H C cl fp)) hs) fun D σ H ⟨b', S, ρ, eb, G, w⟩ => lc_wp eb his G (asg_wp w)
end
end Mc
end
section
set_option Elab.async false
set_option linter.all false
set_option maxRecDepth 100000
set_option maxHeartbeats 4000000
set_option autoImplicit false
namespace Mc
open PySem PySem.Spec L2

/-! ### what a def does -/
inductive DRes where
  | va (d : D) | ow (ds : List D) | er (x : Ex)
def D.flat : D → Bool
  | .non => true
  | .bl _ => true
  | .int _ => true
  | .str _ => true
  | _ => false
theorem Rp.flat {K : PySem.W.Frag} {mg : Str → Option Value} {S S' : Hp} {v : V} {d : D} (h : Rp K mg S v d) (f : d.flat = true) : Rp K mg S' v d := by
  cases h with
  | non => exact .non
  | bl c => exact .bl c
  | int i => exact .int i
  | str x => exact .str x
  | tup _ _ => cases f
  | lst _ _ => cases f
  | ob _ _ _ => cases f
  | fn _ => cases f
structure Post (B : Addr → Prop) (S H S' H' : Hp) : Prop where
  s : Hsub S S'
  sub : Hsub S' H'
  keep : ∀ a o, H a = some o → ¬ B a → H' a = some o
  new : ∀ a, S' a ≠ none → S a ≠ none ∨ H a = none
  there : ∀ a, H' a = none → H a = none
def DR (K : PySem.W.Frag) (mg : Str → Option Value) (H S' H' : Hp) (v : V) : DRes → Prop
  | .va d => Rp K mg S' v d
  | .ow ds => ∃ a vs, v = .ref a ∧ H' a = some (.lst vs) ∧ S' a = none ∧ H a = none ∧ Rps K mg S' vs ds
  | .er _ => False
def SpM (K : PySem.W.Frag) (mg : Str → Option Value) (B : Addr → Prop) (S H : Hp) (Q : VK) (E : XK) (C : Hp → Hp → Prop) : Option DRes → Prop
  | none => False
  | some (.er x) => ∀ S' H' cls d, Post B S H S' H' → C S' H' → XR K mg S' H' cls d x → E cls d H'
  | some r => ∀ S' H' v, Post B S H S' H' → C S' H' → DR K mg H S' H' v r → Q v H'
def spP (K : PySem.W.Frag) (mg : Str → Option Value) (n : Nat) (F : List D → Option DRes) : Sp := fun vs H Q E => vs.length = n ∧ ∃ S ds, Hsub S H ∧ Rps K mg S vs ds ∧ SpM K mg (fun _ => False) S H Q E (fun _ _ => True) (F ds)
def spN (K : PySem.W.Frag) (mg : Str → Option Value) (n : Nat) (F : Mo → List D → Option (DRes × Mo)) : Sp := fun vs H Q E => vs.length = n + 1 ∧ ∃ S a c p us ds, vs = .ref a :: us ∧ Hsub S H ∧ MoAt K mg a c p S H ∧ Rps K mg S us ds ∧
  match F p ds with
  | none => False
  | some (r, p') => SpM K mg (fun x => x = a) S H Q E (MoAt K mg a c p') (some r)
structure Dn (P : Program) (w : World) (K : PySem.W.Frag) (mg : Str → Option Value) (base : Heap) (x : Str) (k n : Nat) (F : List D → Option DRes) : Prop where
  ex : ∃ f fd ps, mg x = some (.ref f) ∧ PySem.W.keepIn K (.ref f) = true ∧ Binds K fd ps [] ∧ FnOk P w K mg base (L2.CX P w) k f fd ps (spP K mg n F)
structure DnN (P : Program) (w : World) (K : PySem.W.Frag) (mg : Str → Option Value) (base : Heap) (x : Str) (k n : Nat) (F : Mo → List D → Option (DRes × Mo)) : Prop where
  ex : ∃ f fd ps, mg x = some (.ref f) ∧ PySem.W.keepIn K (.ref f) = true ∧ Binds K fd ps [] ∧ FnOk P w K mg base (L2.CX P w) k f fd ps (spN K mg n F)

/-! ### a body -/
def ini (N : Nat) (ds : List D) : ES := ds.map .va ++ List.replicate (N - ds.length) .no
def resR : R → Option DRes
  | .va d => some (.va d)
  | .ow ds => some (.ow ds)
  | .sl _ => none
def resM : Option (Res Fl) → Option DRes
  | some (.ok .nx _) => some (.va .non)
  | some (.ok (.rt r) _) => resR r
  | some (.er x _) => some (.er x)
  | _ => none
def runD (N : Nat) (body : M Fl) : List D → Option DRes := fun ds => resM (body (ini N ds))
def resP : Option (Res Fl) → Option (DRes × Mo)
  | some (.ok .nx ρ) => (match ρ[0]? with
    | some (Sl.pn p) => some (.va .non, p)
    | _ => none)
  | some (.ok (.rt r) ρ) => (match ρ[0]?, resR r with
    | some (Sl.pn p), some r => some (r, p)
    | _, _ => none)
  | some (.er x ρ) => (match ρ[0]? with
    | some (Sl.pn p) => some (.er x, p)
    | _ => none)
  | _ => none
def runN (N : Nat) (body : M Fl) : Mo → List D → Option (DRes × Mo) := fun p ds => resP (body (.pn p :: ini (N - 1) ds))
section
variable {P : Program} {w : World} {K : PySem.W.Frag} {mg : Str → Option Value} {base : Heap}
theorem Rps.all {S : Hp} : ∀ {ds : List D} {vs : List V}, Rps K mg S vs ds → ∀ (i : Nat) (d : D), ds[i]? = some d → ∃ v, vs[i]? = some v ∧ Rp K mg S v d := fun r i d h => Rps.get r h
theorem start_get {N : List Str} {vs : List V} {i : Nat} {v : V} (h : vs[i]? = some v) : (L2.start N vs)[i]? = some (some v) := by
  unfold L2.start
  rw [List.getElem?_append_left (by rw [List.length_map]; exact (List.getElem?_eq_some_iff.mp h).1), List.getElem?_map, h]
  rfl
theorem ini_get {N : Nat} {ds : List D} {i : Nat} {s : Sl} (h : (ini N ds)[i]? = some s) : (∃ d, ds[i]? = some d ∧ s = .va d) ∨ s = .no := by
  unfold ini at h
  by_cases hl : i < ds.length
  · rw [List.getElem?_append_left (by simpa using hl), List.getElem?_map] at h
    cases e : ds[i]? with
    | none => rw [e] at h; cases h
    | some d => rw [e] at h; cases h; exact Or.inl ⟨d, rfl, rfl⟩
  · rw [List.getElem?_append_right (by simpa using Nat.le_of_not_lt hl)] at h
    exact Or.inr (List.eq_of_mem_replicate (List.mem_of_getElem? h))
theorem good_start {b : Bs} {S H : Hp} {N : List Str} {vs : List V} {ds : List D} (hl : vs.length ≤ N.length) (hS : Hsub S H) (r : Rps b.K b.mg S vs ds) (e1 : b.H0 = H) (e2 : b.S0 = S) : Good b (L2.start N vs) S H (ini N.length ds) := by
  have hd := Rps.length r
  have noOwn : ∀ i a, ¬ Own (ini N.length ds) (L2.start N vs) i a := fun i a ⟨_, s, h2, h3⟩ => by
    rcases ini_get h2 with ⟨d, _, rfl⟩ | rfl <;> cases h3
  refine ⟨hS, ?_, fun i s h => ?_, fun i j a h => (noOwn i a h).elim, fun a o e _ => by rw [← e1]; exact e, fun i a h => (noOwn i a h).elim, by rw [e2]; exact Hsub.refl _, fun a e => Or.inl (by rw [e2]; exact e), fun a e => by rw [e1]; exact e⟩
  · unfold ini L2.start
    simp only [List.length_append, List.length_map, List.length_replicate]
    omega
  · rcases ini_get h with ⟨d, h1, rfl⟩ | rfl
    · obtain ⟨v, h2, h3⟩ := Rps.get r h1
      exact ⟨v, start_get h2, h3⟩
    · trivial
/-- the context of a def's body -/
abbrev bodyX (P : Program) (w : World) (K : PySem.W.Frag) (mg : Str → Option Value) (base : Heap) (N : List Str) (qual : Str) (scope : Scope) (f : Addr) (cdv : Value) (A : Around) (outer : List Env) (s : Shared) (H : Hp) (E : XK) : Cx := cxOf (L2.CX P w) P w K mg base N qual scope f cdv A outer s H E
/-- a body's derivation -/
def BodyIs (P : Program) (w : World) (K : PySem.W.Frag) (mg : Str → Option Value) (base : Heap) (N : List Str) (qual : Str) (scope : Scope) (f : Addr) (k : Nat) (body : List Stmt) (m : M Fl) : Prop :=
  ∀ (X : Cx) (W : WX) (b : Bs), (∃ cdv A outer s H E, X = bodyX P w K mg base N qual scope f cdv A outer s H E) → b.K = K → b.mg = mg → OKx b k X → Takes X W → PassesOwn (model X.prog X.w) X.A X.env X.xe → PSs X body (rS b W m)
theorem fn_def {x qual : Str} {params : Arguments} {body : List Stmt} {scope : Scope} {f : Addr} {fd : FuncData} {N ps : List Str} {k : Nat} {m : M Fl} (F : FunD K x qual params body scope [] [] f fd) (S : FnScope N ps scope) (hl : ps.length ≤ N.length)
    (hb : BodyIs P w K mg base N qual scope f k body m) :
    FnOk P w K mg base (L2.CX P w) (k + 1) f fd ps (spP K mg ps.length (runD N.length m)) := by
  refine F.ok S (fun vs H Q E h => h.1) fun cdv A outer s H vs Q E hr ⟨hvl, S0, ds, hS, hr0, hm⟩ => ?_
  let b : Bs := ⟨K, mg, H, S0, fun _ => False, none⟩
  have G : Good b (L2.start N vs) S0 H (ini N.length ds) := good_start (by omega) hS hr0 rfl rfl
  have post : ∀ {σ' S' H' ρ'}, Good b σ' S' H' ρ' → Post (fun _ => False) S0 H S' H' := fun {σ' S' H' ρ'} G' => ⟨G'.s0, G'.sub, fun a o e n => G'.k0 a o e n, fun a e => by
    rcases G'.n0 a e with z | z | z
    · exact Or.inl z
    · exact Or.inr z
    · exact z.elim, G'.f0⟩
  refine ⟨_, hb (bodyX P w K mg base N qual scope f cdv A outer s H E) (fun cls d _ H => E cls d H) b ⟨cdv, A, outer, s, H, E, rfl⟩ rfl rfl ⟨rfl, rfl, rfl, S.nd, hr⟩ (takes_of rfl rfl rfl rfl) (passes_of rfl), b, S0, _, EqB.refl _, G, ?_⟩
  unfold runD at hm
  cases e : m (ini N.length ds) with
  | none => rw [e] at hm; exact hm.elim
  | some r =>
    rw [e] at hm
    cases r with
    | er x ρ' => exact fun σ' S' H' cls d s' G' hx => hm S' H' cls d (post G') trivial hx
    | ok fl ρ' =>
      cases fl with
      | nx => exact fun σ' S' H' s' G' => hm S' H' .non (post G') trivial .non
      | bk => exact hm.elim
      | ct => exact hm.elim
      | rt r =>
        cases r with
        | va d => exact fun σ' S' H' v s' G' hv => hm S' H' v (post G') trivial hv
        | ow ds => exact fun σ' S' H' v s' G' ⟨a, vs', e1, e2, e3, e4, e5, e6⟩ => hm S' H' v (post G') trivial ⟨a, vs', e1, e2, e3, e6.elim id (fun z => z.elim), e4⟩
        | sl i => exact hm.elim
end
end Mc
end
section
set_option Elab.async false
set_option linter.all false
set_option maxRecDepth 100000
set_option maxHeartbeats 4000000
set_option autoImplicit false
namespace Mc
open PySem PySem.Spec L2

/-! ### calls -/
/-- the arguments are handed over: a list of the frame is held stable, unless what comes back is plain -/
def callK (F : List D → Option DRes) (rs : List R) : M R := fun ρ => match frzSs rs ρ with
  | some (.ok ds ρ') => (match F ds with
    | some (.va d) => some (.ok (.va d) (if d.flat = true then ρ else ρ'))
    | some (.ow es) => some (.ok (.ow es) ρ')
    | some (.er x) => some (.er x ρ')
    | none => none)
  | _ => none
def evCall (F : List D → Option DRes) (fs : M (List R)) : M R := M.bnd fs fun rs => callK F rs
section
variable {b : Bs} {W : WX} {σ : L2.St} {S H : Hp} {ρ : ES}
theorem Good.post {S' H' : Hp} (G : Good b σ S H ρ) (p : Post (fun _ => False) S H S' H') : Good b σ S' H' ρ where
  sub := p.sub
  len := G.len
  sl := fun i s e => by
    have k := (G.sl i s e).heap (H' := H') fun a u _ _ h => p.keep a u h id
    refine k.mono p.s fun a ha ho => ?_
    obtain ⟨⟨u, hu⟩, hs⟩ := G.ownat ⟨ha, s, e, ho⟩
    cases q : S' a with
    | none => rfl
    | some o =>
      rcases p.new a (by rw [q]; exact fun z => nomatch z) with z | z
      · exact (z hs).elim
      · rw [hu] at z; cases z
  dis := G.dis
  k0 := fun a o e n => p.keep a o (G.k0 a o e n) id
  o0 := G.o0
  s0 := G.s0.trans p.s
  n0 := fun a e => by
    rcases p.new a e with z | z
    · exact G.n0 a z
    · exact Or.inr (Or.inl (G.f0 a z))
  f0 := fun a e => G.f0 a (p.there a e)
open Classical in
noncomputable def lendS (ρ : ES) (σ : L2.St) (S' : Hp) : Hp := fun a => if (∃ i, Own ρ σ i a) then none else S' a
theorem lendS_own {ρ : ES} {σ : L2.St} {S' : Hp} {x : Addr} (h : ∃ i, Own ρ σ i x) : lendS ρ σ S' x = none := by
  unfold lendS
  rw [if_pos h]
theorem lendS_not {ρ : ES} {σ : L2.St} {S' : Hp} {x : Addr} (h : ¬ ∃ i, Own ρ σ i x) : lendS ρ σ S' x = S' x := by
  unfold lendS
  rw [if_neg h]
open Classical in
/-- the lists of the frame come back -/
theorem Good.lend {S1 S' H' : Hp} {ρ1 : ES} (G : Good b σ S H ρ) (s1 : Hsub S S1) (G1 : Good b σ S1 H ρ1) (p : Post (fun _ => False) S1 H S' H') : Hsub S (lendS ρ σ S') ∧ Good b σ (lendS ρ σ S') H' ρ := by
  have up : Hsub S (lendS ρ σ S') := fun a o e => by
    have hn : ¬ ∃ i, Own ρ σ i a := fun ⟨i, w⟩ => by
      rw [(G.ownat w).2] at e; cases e
    show (if (∃ i, Own ρ σ i a) then none else S' a) = some o
    rw [if_neg hn]
    exact p.s _ _ (s1 _ _ e)
  refine ⟨up, fun a o e => ?_, G.len, fun i s e => ?_, G.dis, fun a o e n => p.keep a o (G.k0 a o e n) id, G.o0, G.s0.trans up, fun a e => ?_, fun a e => G.f0 a (p.there a e)⟩
  · have e' : (if (∃ i, Own ρ σ i a) then none else S' a) = some o := e
    split at e'
    · cases e'
    · exact p.sub _ _ e'
  · have k := (G.sl i s e).heap (H' := H') fun a u _ _ h => p.keep a u h id
    exact k.mono up fun a ha ho => if_pos ⟨i, ha, s, e, ho⟩
  · have e' : (if (∃ i, Own ρ σ i a) then none else S' a) ≠ none := e
    split at e'
    · exact (e' rfl).elim
    · rcases p.new a e' with z | z
      · exact G1.n0 a z
      · exact Or.inr (Or.inl (G.f0 a z))
theorem RR.of_dr {S1 S' H' : Hp} {ρ1 : ES} {v : V} {r : DRes} {q : R} (G1 : Good b σ S1 H ρ1) (p : Post (fun _ => False) S1 H S' H') (h : DR b.K b.mg H S' H' v r) (e : (∃ d, r = .va d ∧ q = .va d) ∨ ∃ ds, r = .ow ds ∧ q = .ow ds) : RR b σ S' H' ρ1 v q := by
  rcases e with ⟨d, rfl, rfl⟩ | ⟨ds, rfl, rfl⟩
  · exact h
  · obtain ⟨a, vs, e1, e2, e3, e4, e5⟩ := h
    refine ⟨a, vs, e1, e2, e3, e5, fun i w => ?_, Or.inl (G1.f0 a e4)⟩
    obtain ⟨⟨u, hu⟩, _⟩ := G1.ownat w
    rw [hu] at e4; cases e4
theorem call_wp {n : Nat} {F : List D → Option DRes} {rs : List R} {vs : List V} {Q : VK} (hn : rs.length = n) (G : Good b σ S H ρ) (h : RFs b σ S vs rs) (w : Wp b W σ (callK F rs) S H ρ fun S' H' ρ' r => ∀ v, RR b σ S' H' ρ' v r → Q v H') : spP b.K b.mg n F vs H Q (WE W σ) := by
  have hl : vs.length = n := by
    rw [← hn]
    clear hn w
    induction h with
    | nil => rfl
    | cons _ _ ih => simp only [List.length_cons, ih]
  refine ⟨hl, ?_⟩
  unfold Wp WpO callK at w
  cases e : frzSs rs ρ with
  | none => rw [e] at w; exact w.elim
  | some x =>
    rw [e] at w
    cases x with
    | er x ρ' => exact w.elim
    | ok ds ρ1 =>
      have wy : Wp b WF σ (frzSs rs) S H ρ fun _ _ ρ' d => ρ' = ρ1 ∧ d = ds := by
        unfold Wp WpO
        rw [e]
        exact fun _ _ _ _ => ⟨rfl, rfl⟩
      obtain ⟨S1, ρ', ds', s1, G1, r1, e1, e2⟩ := Wp.frzSs G h wy
      subst e1 e2
      refine ⟨S1, ds', G1.sub, r1, ?_⟩
      simp only at w
      cases hF : F ds' with
      | none => rw [hF] at w; exact w.elim
      | some r =>
        rw [hF] at w
        cases r with
        | er x => exact fun S' H' cls d p _ hx => w S' H' cls d (s1.trans p.s) (G1.post p) hx
        | ow es => exact fun S' H' v p _ hv => w S' H' (s1.trans p.s) (G1.post p) v (RR.of_dr G1 p hv (Or.inr ⟨es, rfl, rfl⟩))
        | va d =>
          intro S' H' v p _ hv
          simp only at w
          by_cases hd : d.flat = true
          · rw [if_pos hd] at w
            obtain ⟨up, G3⟩ := G.lend s1 G1 p
            exact w _ H' up G3 v (Rp.flat hv hd)
          · rw [if_neg hd] at w
            exact w S' H' (s1.trans p.s) (G1.post p) v hv
end
section
variable {b : Bs} {W : WX} {L k n : Nat} {X : Cx} {p pos : Pos} {x : Str} {e1 : Expr} {es : List Expr} {fs : M (List R)} {F : List D → Option DRes}
/-- as many arguments -/
def evN (n : Nat) (fs : M (List R)) : M (List R) := M.bnd fs fun rs ρ => if rs.length = n then some (.ok rs ρ) else none
theorem pe_fn (d : Dn X.prog X.w X.K X.mg X.base x k n F) (o : OKx b L X) (tk : Takes X W) (ha : PA X (e1 :: es) (rAr b W fs)) (hk : k ≤ L := by decide) (hg : Gl X x := by rfl) (hdb : (x == ("__debug__" : Str)) = false := by decide)
    (he : starEach (e1 :: es) X.env = (false, eval e1 X.env) :: starEach es X.env := by rfl) (hpl : (backTo pos (starEach es X.env)).any (·.1) = false := by rfl) : PE X (.Call (.Name x p) (e1 :: es) [] pos) (rE b W (evCall F (evN n fs))) := by
  obtain ⟨f, fd, ps, hm, kp, hb, Fk⟩ := d.ex
  refine PE.weak (pe_callSD (E := WE W) Fk (o.rm.mono hk) hg hm kp hb .nil (fun σ => passAt tk σ) ha hdb he hpl) fun σ H Q ⟨b', S, ρ, eb, G, w⟩ => ⟨b', S, ρ, eb, G, ?_⟩
  refine Wp.mono (Wp.bind (f := fs) (Wp.bind w)) fun S1 H1 ρ1 rs s1 G1 q vs hvs => ?_
  have h2 : rs.length = n := by
    by_cases h : rs.length = n
    · exact h
    · exact wp_none (if_neg h) q
  have q2 := wp_ok (a := rs) (if_pos h2) q (Hsub.refl _) G1
  show spP X.K X.mg n F (vs ++ []) H1 Q (WE W σ)
  rw [List.append_nil]
  have := call_wp h2 G1 hvs q2
  rw [o.K, o.mg, ← eb.1, ← eb.2]
  exact this
end

/-! ### calls with a pen -/
def Mo.isPen : Mo → Bool
  | .pen _ => true
  | _ => false
def callN (F : Mo → List D → Option (DRes × Mo)) (rs : List R) : M R := fun ρ => match rs with
  | .sl i :: rs => (match ρ[i]? with
    | some (Sl.pn p) => (match frzSs rs ρ with
      | some (.ok ds ρ1) => (match F p ds with
        | some (.va d, p') => some (.ok (.va d) (if (d.flat && p.isPen && p'.isPen) = true then ρ.set i (.pn p') else ρ1.set i (.pn p')))
        | some (.ow es, p') => some (.ok (.ow es) (ρ1.set i (.pn p')))
        | some (.er x, p') => some (.er x (ρ1.set i (.pn p')))
        | none => none)
      | _ => none)
    | _ => none)
  | _ => none
def evCallN (F : Mo → List D → Option (DRes × Mo)) (fs : M (List R)) : M R := M.bnd fs fun rs => callN F rs
section
variable {b : Bs} {W : WX} {σ : L2.St} {S H : Hp} {ρ : ES}
theorem own_set {i j : Nat} {a : Addr} {p p' : Mo} (hi : ρ[i]? = some (Sl.pn p)) (w : Own (ρ.set i (.pn p')) σ j a) : Own ρ σ j a := by
  obtain ⟨h1, s, h2, h3⟩ := w
  by_cases hj : i = j
  · subst hj
    exact ⟨h1, _, hi, rfl⟩
  · rw [List.getElem?_set_ne hj] at h2
    exact ⟨h1, s, h2, h3⟩
theorem Good.step {S' H' : Hp} {i : Nat} {a : Addr} {p p' : Mo} (G : Good b σ S H ρ) (hi : ρ[i]? = some (Sl.pn p)) (ha : σ[i]? = some (some (.ref a))) (up : Hsub S S') (sub : Hsub S' H') (keep : ∀ x o, H x = some o → x ≠ a → H' x = some o)
    (fr : ∀ j c, Own ρ σ j c → S' c = none) (n0 : ∀ x, S' x ≠ none → b.S0 x ≠ none ∨ b.H0 x = none ∨ b.B x) (f0 : ∀ x, H' x = none → H x = none) {c : Addr} (hc : b.pa = some (a, c)) (pn : MoAt b.K b.mg a c p' S' H') : Good b σ S' H' (ρ.set i (.pn p')) := by
  have wa : Own ρ σ i a := ⟨ha, _, hi, rfl⟩
  refine ⟨sub, by rw [List.length_set]; exact G.len, fun j s e => ?_, fun j k c h1 h2 => G.dis j k c (own_set hi h1) (own_set hi h2), fun x o e n => keep x o (G.k0 x o e n) fun z => ?_, fun j c w => G.o0 j c (own_set hi w), G.s0.trans up, n0, fun x e => G.f0 x (f0 x e)⟩
  · by_cases hj : i = j
    · subst hj
      rw [List.getElem?_set_self (List.getElem?_eq_some_iff.mp hi).1] at e
      cases e
      exact ⟨a, c, ha, pn, hc⟩
    · rw [List.getElem?_set_ne hj] at e
      have k := (G.sl j s e).heap (H' := H') fun c u hcc ho h => keep c u h fun z => by
        subst z
        exact hj (G.dis i j c wa ⟨hcc, s, e, ho⟩)
      exact k.mono up fun c hc ho => fr j c ⟨hc, s, e, ho⟩
  · subst z
    rcases G.o0 i x wa with q | q
    · rw [e] at q; cases q
    · exact n q
theorem frzS_pn {r : R} {ρ ρ' : ES} {d : D} {i : Nat} {p : Mo} (h : frzS r ρ = some (.ok d ρ')) (hi : ρ[i]? = some (Sl.pn p)) : ρ'[i]? = some (Sl.pn p) := by
  unfold frzS at h
  split at h
  · cases h; exact hi
  · cases h
  · rename_i j
    split at h
    · rename_i ds hj
      cases h
      by_cases e : j = i
      · subst e; rw [hi] at hj; cases hj
      · rw [List.getElem?_set_ne e]; exact hi
    · cases h; exact hi
    · cases h
theorem frzSs_pn {i : Nat} {p : Mo} : ∀ {rs : List R} {ρ ρ' : ES} {ds : List D}, frzSs rs ρ = some (.ok ds ρ') → ρ[i]? = some (Sl.pn p) → ρ'[i]? = some (Sl.pn p)
  | [], ρ, ρ', ds, h, hi => by cases h; exact hi
  | r :: rs, ρ, ρ', ds, h, hi => by
    unfold frzSs M.bnd at h
    split at h
    · cases h
    · rename_i d ρ1 h1
      have q1 := frzS_pn h1 hi
      dsimp only at h
      split at h
      · cases h
      · rename_i ds2 ρ2 h2
        cases h
        exact frzSs_pn h2 q1
      · cases h
    · cases h
theorem Post.fr {a : Addr} {S' H' : Hp} (p : Post (fun x => x = a) S H S' H') {c : Addr} (hS : S c = none) (hH : H c ≠ none) : S' c = none := by
  cases q : S' c with
  | none => rfl
  | some o =>
    rcases p.new c (by rw [q]; exact fun z => nomatch z) with z | z
    · exact (z hS).elim
    · exact (hH z).elim
theorem callN_wp {n : Nat} {F : Mo → List D → Option (DRes × Mo)} {rs : List R} {vs : List V} {Q : VK} (hn : rs.length = n + 1) (G : Good b σ S H ρ) (h : RFs b σ S vs rs) (w : Wp b W σ (callN F rs) S H ρ fun S' H' ρ' r => ∀ v, RR b σ S' H' ρ' v r → Q v H') : spN b.K b.mg n F vs H Q (WE W σ) := by
  have hl : vs.length = n + 1 := by
    rw [← hn]
    clear hn w
    induction h with
    | nil => rfl
    | cons _ _ ih => simp only [List.length_cons, ih]
  refine ⟨hl, ?_⟩
  cases h with
  | nil => cases hn
  | cons h0 h =>
    rename_i v us r rs
    cases r with
    | va d => exact w.elim
    | ow d => exact w.elim
    | sl i =>
      unfold Wp WpO callN at w
      simp only at w
      cases hi : ρ[i]? with
      | none => rw [hi] at w; exact w.elim
      | some s =>
        rw [hi] at w
        cases s with
        | no => exact w.elim
        | va d => exact w.elim
        | ow d => exact w.elim
        | pn p =>
          simp only at w
          obtain ⟨a, c, e1, e2, e5⟩ := G.sl i _ hi
          have hv : σ[i]? = some (some v) := h0
          have e6 := hv.symm.trans e1
          cases e6
          cases e : frzSs rs ρ with
          | none => rw [e] at w; exact w.elim
          | some x =>
            rw [e] at w
            cases x with
            | er x ρ' => exact w.elim
            | ok ds ρ1 =>
              have wy : Wp b WF σ (frzSs rs) S H ρ fun _ _ ρ' d => ρ' = ρ1 ∧ d = ds := by
                unfold Wp WpO
                rw [e]
                exact fun _ _ _ _ => ⟨rfl, rfl⟩
              obtain ⟨S1, ρ', ds', s1, G1, r1, q1, q2⟩ := Wp.frzSs G h wy
              subst q1 q2
              simp only at w
              have hi1 := frzSs_pn e hi
              have P1 : MoAt b.K b.mg a c p S1 H := e2.mono s1 (G1.ownat ⟨hv, _, hi1, rfl⟩).2
              refine ⟨S1, a, c, p, us, ds', rfl, G1.sub, P1, r1, ?_⟩
              cases hF : F p ds' with
              | none => rw [hF] at w; exact w.elim
              | some rp =>
                obtain ⟨r, p'⟩ := rp
                rw [hF] at w
                have keep : ∀ {S' H' : Hp}, Post (fun x => x = a) S1 H S' H' → MoAt b.K b.mg a c p' S' H' → Good b σ S' H' (ρ'.set i (.pn p')) := fun {S' H'} po pn =>
                  G1.step hi1 hv po.s po.sub (fun x o e n => po.keep x o e n) (fun j d w => po.fr (G1.ownat w).2 (by obtain ⟨⟨u, hu⟩, _⟩ := G1.ownat w; rw [hu]; exact fun z => nomatch z)) (fun x e => by
                    rcases po.new x e with z | z
                    · exact G1.n0 x z
                    · exact Or.inr (Or.inl (G1.f0 x z))) po.there e5 pn
                cases r with
                | er x => exact fun S' H' cls d po pn hx => w S' H' cls d (s1.trans po.s) (keep po pn) hx
                | ow es =>
                  intro S' H' v po pn hv2
                  refine w S' H' (s1.trans po.s) (keep po pn) v ?_
                  obtain ⟨q, vs, y1, y2, y3, y4, y5⟩ := hv2
                  refine ⟨q, vs, y1, y2, y3, y5, fun j wj => ?_, Or.inl (G1.f0 q y4)⟩
                  obtain ⟨⟨u, hu⟩, _⟩ := G1.ownat (own_set hi1 wj)
                  rw [hu] at y4; cases y4
                | va d =>
                  intro S' H' v po pn hv2
                  simp only at w
                  by_cases hd0 : (d.flat && p.isPen && p'.isPen) = true
                  · rw [if_pos hd0] at w
                    obtain ⟨hd1, hp'⟩ := Bool.and_eq_true_iff.mp hd0
                    obtain ⟨hd, hp⟩ := Bool.and_eq_true_iff.mp hd1
                    have up : Hsub S (lendS ρ σ S') := fun x o e => by
                      have hn : ¬ ∃ i, Own ρ σ i x := fun ⟨i, w⟩ => by
                        rw [(G.ownat w).2] at e; cases e
                      rw [lendS_not hn]
                      exact po.s _ _ (s1 _ _ e)
                    have G3 : Good b σ (lendS ρ σ S') H' (ρ.set i (.pn p')) := by
                      refine G.step hi hv up (fun x o e => ?_) (fun x o e n => po.keep x o e n) (fun j d w => lendS_own ⟨j, w⟩) (fun x e => ?_) po.there e5 ?_
                      · by_cases q : ∃ i, Own ρ σ i x
                        · rw [lendS_own q] at e; cases e
                        · rw [lendS_not q] at e; exact po.sub _ _ e
                      · by_cases q : ∃ i, Own ρ σ i x
                        · rw [lendS_own q] at e; exact (e rfl).elim
                        · rw [lendS_not q] at e
                          rcases po.new x e with z | z
                          · exact G1.n0 x z
                          · exact Or.inr (Or.inl (G.f0 x z))
                      · cases p with
                        | ob _ _ => cases hp
                        | pen p0 =>
                          cases p' with
                          | ob _ _ => cases hp'
                          | pen p1 =>
                            obtain ⟨h2, h1, h3⟩ := pn
                            refine ⟨lendS_own ⟨i, hv, _, hi, rfl⟩, h1, ?_⟩
                            have e4 := e2.2.2
                            have hn : ¬ ∃ i, Own ρ σ i c := fun ⟨i, w⟩ => by
                              rw [(G.ownat w).2] at e4; cases e4
                            rw [lendS_not hn]
                            exact h3
                    exact w _ H' up G3 v (Rp.flat hv2 hd)
                  · rw [if_neg hd0] at w
                    exact w S' H' (s1.trans po.s) (keep po pn) v hv2
end
section
variable {b : Bs} {W : WX} {L k n : Nat} {X : Cx} {p pos : Pos} {x : Str} {e1 : Expr} {es : List Expr} {fs : M (List R)} {F : Mo → List D → Option (DRes × Mo)}
theorem pe_fnN (d : DnN X.prog X.w X.K X.mg X.base x k n F) (o : OKx b L X) (tk : Takes X W) (ha : PA X (e1 :: es) (rAr b W fs)) (hk : k ≤ L := by decide) (hg : Gl X x := by rfl) (hdb : (x == ("__debug__" : Str)) = false := by decide)
    (he : starEach (e1 :: es) X.env = (false, eval e1 X.env) :: starEach es X.env := by rfl) (hpl : (backTo pos (starEach es X.env)).any (·.1) = false := by rfl) : PE X (.Call (.Name x p) (e1 :: es) [] pos) (rE b W (evCallN F (evN (n + 1) fs))) := by
  obtain ⟨f, fd, ps, hm, kp, hb, Fk⟩ := d.ex
  refine PE.weak (pe_callSD (E := WE W) Fk (o.rm.mono hk) hg hm kp hb .nil (fun σ => passAt tk σ) ha hdb he hpl) fun σ H Q ⟨b', S, ρ, eb, G, w⟩ => ⟨b', S, ρ, eb, G, ?_⟩
  refine Wp.mono (Wp.bind (f := fs) (Wp.bind w)) fun S1 H1 ρ1 rs s1 G1 q vs hvs => ?_
  have h2 : rs.length = n + 1 := by
    by_cases h : rs.length = n + 1
    · exact h
    · exact wp_none (if_neg h) q
  have q2 := wp_ok (a := rs) (if_pos h2) q (Hsub.refl _) G1
  show spN X.K X.mg n F (vs ++ []) H1 Q (WE W σ)
  rw [List.append_nil]
  have := callN_wp h2 G1 hvs q2
  rw [o.K, o.mg, ← eb.1, ← eb.2]
  exact this
end
end Mc
end
section
set_option Elab.async false
set_option linter.all false
set_option maxRecDepth 100000
set_option maxHeartbeats 4000000
set_option autoImplicit false
namespace Mc
open PySem PySem.Spec L2

/-! ### a def with a pen -/
section
variable {P : Program} {w : World} {K : PySem.W.Frag} {mg : Str → Option Value} {base : Heap}
theorem good_startN {b : Bs} {S H : Hp} {N : List Str} {vs : List V} {ds : List D} {a c : Addr} {p : Mo} (hl : vs.length + 1 ≤ N.length) (hS : Hsub S H) (r : Rps b.K b.mg S vs ds) (pn : MoAt b.K b.mg a c p S H) (e1 : b.H0 = H) (e2 : b.S0 = S) (e3 : b.B = fun x => x = a) (e4 : b.pa = some (a, c)) :
    Good b (L2.start N (.ref a :: vs)) S H (.pn p :: ini (N.length - 1) ds) := by
  have hd := Rps.length r
  have own : ∀ i x, Own (Sl.pn p :: ini (N.length - 1) ds) (L2.start N (.ref a :: vs)) i x → i = 0 ∧ x = a := fun i x ⟨h1, s, h2, h3⟩ => by
    cases i with
    | zero =>
      have : (L2.start N (.ref a :: vs))[0]? = some (some (.ref a)) := start_get rfl
      rw [this] at h1
      cases h1
      exact ⟨rfl, rfl⟩
    | succ i =>
      rw [List.getElem?_cons_succ] at h2
      rcases ini_get h2 with ⟨d, _, rfl⟩ | rfl <;> cases h3
  refine ⟨hS, ?_, fun i s h => ?_, fun i j x h1 h2 => (own i x h1).1.trans (own j x h2).1.symm, fun x o e _ => by rw [← e1]; exact e, fun i x h => Or.inr (by rw [e3]; exact (own i x h).2), by rw [e2]; exact Hsub.refl _, fun x e => Or.inl (by rw [e2]; exact e), fun x e => by rw [e1]; exact e⟩
  · unfold ini L2.start
    simp only [List.length_append, List.length_map, List.length_replicate, List.length_cons]
    omega
  · cases i with
    | zero =>
      cases h
      exact ⟨a, c, start_get rfl, pn, e4⟩
    | succ i =>
      rw [List.getElem?_cons_succ] at h
      rcases ini_get h with ⟨d, h1, rfl⟩ | rfl
      · obtain ⟨v, h2, h3⟩ := Rps.get r h1
        exact ⟨v, start_get (by rw [List.getElem?_cons_succ]; exact h2), h3⟩
      · trivial
theorem fn_defN {x qual : Str} {params : Arguments} {body : List Stmt} {scope : Scope} {f : Addr} {fd : FuncData} {N ps : List Str} {k n : Nat} {m : M Fl} (F : FunD K x qual params body scope [] [] f fd) (S : FnScope N ps scope) (hn : ps.length = n + 1) (hl : ps.length ≤ N.length)
    (hb : BodyIs P w K mg base N qual scope f k body m) : FnOk P w K mg base (L2.CX P w) (k + 1) f fd ps (spN K mg n (runN N.length m)) := by
  refine F.ok S (fun vs H Q E h => by rw [hn]; exact h.1) fun cdv A outer s H vs Q E hr ⟨hvl, S0, a, c, p, us, ds, hv, hS, hp, hr0, hm⟩ => ?_
  subst hv
  let b : Bs := ⟨K, mg, H, S0, fun x => x = a, some (a, c)⟩
  have hul : us.length = n := by simpa using hvl
  have G : Good b (L2.start N (.ref a :: us)) S0 H (.pn p :: ini (N.length - 1) ds) := good_startN (by omega) hS hr0 hp rfl rfl rfl rfl
  have post : ∀ {σ' S' H' ρ' p'}, Good b σ' S' H' ρ' → ρ'[0]? = some (Sl.pn p') → Post (fun x => x = a) S0 H S' H' ∧ MoAt K mg a c p' S' H' := fun {σ' S' H' ρ' p'} G' h0 => by
    obtain ⟨a', c', e1, e2, e5⟩ := G'.sl 0 _ h0
    cases e5
    refine ⟨⟨G'.s0, G'.sub, fun x o e n => G'.k0 x o e n, fun x e => ?_, G'.f0⟩, e2⟩
    rcases G'.n0 x e with z | z | z
    · exact Or.inl z
    · exact Or.inr z
    · have z' : x = a := z
      subst z'
      exact (e e2.1).elim
  refine ⟨_, hb (bodyX P w K mg base N qual scope f cdv A outer s H E) (fun cls d _ H => E cls d H) b ⟨cdv, A, outer, s, H, E, rfl⟩ rfl rfl ⟨rfl, rfl, rfl, S.nd, hr⟩ (takes_of rfl rfl rfl rfl) (passes_of rfl), b, S0, _, EqB.refl _, G, ?_⟩
  unfold runN at hm
  cases e : m (.pn p :: ini (N.length - 1) ds) with
  | none => rw [e] at hm; exact hm.elim
  | some r =>
    rw [e] at hm
    have h0 : ∀ ρ' : ES, (∃ p', ρ'[0]? = some (Sl.pn p')) ∨ ∀ p', ρ'[0]? ≠ some (Sl.pn p') := fun ρ' => by
      by_cases h : ∃ p', ρ'[0]? = some (Sl.pn p')
      · exact Or.inl h
      · exact Or.inr fun p' z => h ⟨p', z⟩
    cases r with
    | er x ρ' =>
      cases q : ρ'[0]? with
      | none => simp only [resP, q] at hm
      | some s =>
        cases s with
        | pn p' =>
          simp only [resP, q] at hm
          exact fun σ' S' H' cls d s' G' hx => hm S' H' cls d (post G' q).1 (post G' q).2 hx
        | _ => simp only [resP, q] at hm
    | ok fl ρ' =>
      cases q : ρ'[0]? with
      | none =>
        cases fl with
        | nx => simp only [resP, q] at hm
        | bk => exact hm.elim
        | ct => exact hm.elim
        | rt r => simp only [resP, q] at hm
      | some s =>
        cases s with
        | pn p' =>
          cases fl with
          | nx =>
            simp only [resP, q] at hm
            exact fun σ' S' H' s' G' => hm S' H' .non (post G' q).1 (post G' q).2 .non
          | bk => exact hm.elim
          | ct => exact hm.elim
          | rt r =>
            cases r with
            | va d =>
              simp only [resP, q, resR] at hm
              exact fun σ' S' H' v s' G' hv => hm S' H' v (post G' q).1 (post G' q).2 hv
            | ow es =>
              simp only [resP, q, resR] at hm
              refine fun σ' S' H' v s' G' ⟨y, vs', e1, e2, e3, e4, e5, e6⟩ => hm S' H' v (post G' q).1 (post G' q).2 ⟨y, vs', e1, e2, e3, e6.elim id fun z => ?_, e4⟩
              have z' : y = a := z
              subst z'
              exact ((post G' q).2.nl e2).elim
            | sl i => simp only [resP, q, resR] at hm
        | _ =>
          cases fl with
          | nx => simp only [resP, q] at hm
          | bk => exact hm.elim
          | ct => exact hm.elim
          | rt r => simp only [resP, q] at hm
end

/-! ### what a pen holds -/
def pnGet (x : Str) (p : Pn) : Option D :=
  if x = "cells" then some (.lst (p.cells.map .int)) else if x = "at" then some (.int p.at_) else if x = "digits" then some (.int p.digits) else if x = "count" then some (.int p.count) else if x = "fold" then some (.int p.fold) else none
def pnPut (x : Str) (i : Int) (p : Pn) : Option Pn :=
  if x = "at" then some { p with at_ := i } else if x = "digits" then some { p with digits := i } else if x = "count" then some { p with count := i } else if x = "fold" then some { p with fold := i } else none
theorem Rps.ints {K : PySem.W.Frag} {mg : Str → Option Value} {S : Hp} : ∀ is : List Int, Rps K mg S (is.map V.int) (is.map D.int)
  | [] => .nil
  | i :: is => .cons (.int i) (Rps.ints is)
theorem pn_get {K : PySem.W.Frag} {mg : Str → Option Value} {S : Hp} {c : Addr} {x : Str} {p : Pn} {d : D} (h : pnGet x p = some d) (hc : S c = some (.lst (p.cells.map V.int))) : ∃ v, valV (penK c p) (.inr x) = some v ∧ Rp K mg S v d := by
  unfold pnGet at h
  split at h
  · rename_i e; cases h; subst e; exact ⟨.ref c, by with_unfolding_all rfl, .lst hc (Rps.ints _)⟩
  · split at h
    · rename_i e; cases h; subst e; exact ⟨.int p.at_, by with_unfolding_all rfl, .int _⟩
    · split at h
      · rename_i e; cases h; subst e; exact ⟨.int p.digits, by with_unfolding_all rfl, .int _⟩
      · split at h
        · rename_i e; cases h; subst e; exact ⟨.int p.count, by with_unfolding_all rfl, .int _⟩
        · split at h
          · rename_i e; cases h; subst e; exact ⟨.int p.fold, by with_unfolding_all rfl, .int _⟩
          · cases h
theorem pn_put {c : Addr} {x : Str} {p p' : Pn} {i : Int} (h : pnPut x i p = some p') : putK (penK c p) (.inr x) (.int i) = penK c p' ∧ p'.cells = p.cells := by
  unfold pnPut at h
  split at h
  · rename_i e; cases h; subst e; exact ⟨by with_unfolding_all rfl, rfl⟩
  · split at h
    · rename_i e; cases h; subst e; exact ⟨by with_unfolding_all rfl, rfl⟩
    · split at h
      · rename_i e; cases h; subst e; exact ⟨by with_unfolding_all rfl, rfl⟩
      · split at h
        · rename_i e; cases h; subst e; exact ⟨by with_unfolding_all rfl, rfl⟩
        · cases h
def evPnGet (i : Nat) (x : Str) : M R := fun ρ => match ρ[i]? with
  | some (.pn (.pen p)) => (match pnGet x p with
    | some d => some (.ok (.va d) ρ)
    | none => none)
  | _ => none
def evPnPut (i : Nat) (x : Str) (fa : M R) : M Fl := M.bnd fa fun r ρ => match r, ρ[i]? with
  | .va (.int j), some (.pn (.pen p)) => (match pnPut x j p with
    | some p' => some (.ok .nx (ρ.set i (.pn (.pen p'))))
    | none => none)
  | _, _ => none
section
variable {b : Bs} {W : WX} {L : Nat} {X : Cx} {pos p1 p2 p3 : Pos} {e1 : Expr} {fa : M R} {x y : Str} {j : Nat}
theorem pe_pnGet (o : OKx b L X) (i : Nat) (hN : X.N[i]? = some x := by rfl) (hv : Vis X.env.scope x := by first | exact Or.inl rfl | exact Or.inr (Or.inl rfl) | exact Or.inr (Or.inr rfl)) (hd : (x == ("__debug__" : Str)) = false := by decide)
    (hcd : (x == ("__classdict__" : Str)) = false := by decide) (hs : NoSl (.Constant (.str y) j p2) := by exact fun _ _ => rfl) : PE X (.Subscript (.Name x p1) (.Constant (.str y) j p2) p3) (rE b W (evPnGet i y)) := by
  have hu := o.un
  refine PE.weak (pe_dget (by omega) (pe_var hN hv hd hcd) pe_str hs) fun σ H Q ⟨b', S, ρ, eb, G, w⟩ => ?_
  unfold Wp WpO evPnGet at w
  cases e : ρ[i]? with
  | none => rw [e] at w; exact w.elim
  | some s =>
    rw [e] at w
    cases s with
    | pn p =>
      cases p with
      | ob _ _ => exact w.elim
      | pen p =>
        simp only at w
        obtain ⟨a, c, e1, e2, _⟩ := G.sl i _ e
        cases hg : pnGet y p with
        | none => rw [hg] at w; exact w.elim
        | some d =>
          rw [hg] at w
          obtain ⟨v, h1, h2⟩ := pn_get (K := b'.K) (mg := b'.mg) hg e2.2.2
          exact ⟨.ref a, e1, a, v, rfl, by rw [← h1]; exact DGet.k (k := .inr y) e2.2.1, w S H (Hsub.refl _) G v h2⟩
    | _ => exact w.elim
theorem s_pnPut (o : OKx b L X) (i : Nat) (he : PE X e1 (rE b W fa)) (hN : X.N[i]? = some x := by rfl) (hv : Vis X.env.scope x := by first | exact Or.inl rfl | exact Or.inr (Or.inl rfl) | exact Or.inr (Or.inr rfl)) (hd : (x == ("__debug__" : Str)) = false := by decide)
    (hcd : (x == ("__classdict__" : Str)) = false := by decide) (hs : swapsWith e1 (some (.Subscript (.Name x p1) (.Constant (.str y) j p2) p3)) pos.line X.env = pure false := by rfl) :
    PS X (.Assign [.Subscript (.Name x p1) (.Constant (.str y) j p2) p3] e1 pos) (rS b W (evPnPut i y fa)) := by
  have hu := o.un
  refine PS.weak (ps_dput (by omega) (pe_var hN hv hd hcd) pe_str he hs) fun D σ H ⟨b', S, ρ, eb, G, w⟩ => ⟨b', S, ρ, eb, G, Wp.mono (WpS.bind w) fun S1 H1 ρ1 r s1 G1 w1 v hv => ?_⟩
  cases r with
  | ow ds => exact w1.elim
  | sl i => exact w1.elim
  | va d =>
    cases d with
    | int z =>
      cases hv
      cases e : ρ1[i]? with
      | none => exact wps_none (by simp only [e]) w1
      | some s =>
        cases s with
        | pn q =>
          cases q with
          | ob _ _ => exact wps_none (by simp only [e]) w1
          | pen q =>
            cases hp : pnPut y z q with
            | none => exact wps_none (by simp only [e, hp]) w1
            | some q' =>
              simp only [e, hp] at w1
              obtain ⟨a, c, e1, em, e5⟩ := G1.sl i _ e
              obtain ⟨e3, e2, e4⟩ := em
              obtain ⟨h1, h2⟩ := pn_put (c := c) hp
              refine ⟨.ref a, e1, a, _, rfl, DPut.k (k := .inr y) (v := .int z) e2 (by show 5 < sizeLine; decide), ?_⟩
              rw [h1]
              have na : ∀ {x : Addr} {o : HO}, S1 x = some o → x ≠ a := fun {x o} q z => by subst z; rw [e3] at q; cases q
              refine w1 σ S1 _ (Hsub.refl _) (G1.step e e1 (Hsub.refl _) (fun x o q => by rw [upd_ne (na q)]; exact G1.sub _ _ q) (fun x o q n => by rw [upd_ne n]; exact q) (fun j d w => (G1.ownat w).2) G1.n0 (fun x q => ?_) e5 (p' := .pen q') ⟨e3, upd_same, by rw [h2]; exact e4⟩)
              by_cases h : x = a
              · subst h; rw [upd_same] at q; cases q
              · rw [upd_ne h] at q; exact q
        | _ => exact wps_none (by simp only [e]) w1
    | _ => exact w1.elim
end
end Mc
end
section
set_option Elab.async false
set_option linter.all false
set_option maxRecDepth 100000
set_option maxHeartbeats 4000000
set_option autoImplicit false
namespace Mc
open PySem PySem.Spec L2

/-! ### built-in calls -/
inductive RVs (b : Bs) (S H : Hp) : List V → List D → Prop
  | nil : RVs b S H [] []
  | cons {v : V} {vs : List V} {d : D} {ds : List D} : RV b S H v d → RVs b S H vs ds → RVs b S H (v :: vs) (d :: ds)
def rdDs (ρ : ES) : List R → Option (List D)
  | [] => some []
  | r :: rs => match rdD ρ r, rdDs ρ rs with
    | some d, some ds => some (d :: ds)
    | _, _ => none
def evB (g : List D → Option R) (fs : M (List R)) : M R := M.bnd fs fun rs ρ => match rdDs ρ rs with
  | some ds => M.lift (g ds) ρ
  | none => none
def SemB (K : PySem.W.Frag) (g : List D → Option R) (r : List V → Hp → VK → Prop) : Prop := ∀ (b : Bs), b.K = K → ∀ (σ : L2.St) (S H : Hp) (ρ : ES) (xs : List V) (ds : List D) (z : R), Good b σ S H ρ → RVs b S H xs ds → g ds = some z →
  ∀ Q : VK, (∀ v H' S', Hsub S S' → Good b σ S' H' ρ → RR b σ S' H' ρ v z → Q v H') → r xs H Q
section
variable {b : Bs} {W : WX} {L : Nat} {X : Cx} {p pos : Pos} {e1 : Expr} {es : List Expr} {fs : M (List R)} {g : List D → Option R} {r : List V → Hp → VK → Prop} {x : Str} {id T : String}
theorem RFs.rvs {σ : L2.St} {S H : Hp} {ρ : ES} (G : Good b σ S H ρ) : ∀ {vs : List V} {rs : List R} {ds : List D}, RFs b σ S vs rs → rdDs ρ rs = some ds → RVs b S H vs ds
  | _, _, _, .nil, e => by cases e; exact .nil
  | _, _, _, .cons h t, e => by
    unfold rdDs at e
    split at e
    · rename_i d ds h1 h2
      cases e
      exact .cons (h.rv G h1) (RFs.rvs G t h2)
    · cases e
theorem evB_wp {σ : L2.St} {S H : Hp} {ρ : ES} {Q : VK} (sem : SemB b.K g r) (w : Wp b W σ (evB g fs) S H ρ fun S' H' ρ' r => ∀ v, RR b σ S' H' ρ' v r → Q v H') : Wp b W σ fs S H ρ fun S' H' ρ' rs => ∀ vs, RFs b σ S' vs rs → r vs H' Q := by
  refine Wp.mono (Wp.bind w) fun S1 H1 ρ1 rs s1 G1 q vs hvs => ?_
  cases h : rdDs ρ1 rs with
  | none => exact wp_none (by simp only [h]) q
  | some ds =>
    cases hg : g ds with
    | none => exact wp_none (by simp only [h, M.lift, hg]) q
    | some z => exact sem b rfl σ S1 H1 ρ1 vs ds z G1 (hvs.rvs G1 h) hg Q fun v H' S' s' G' rr => wp_ok (a := z) (by simp only [h, M.lift, hg]) q s' G' v rr
theorem pe_cB (hc : CallR X (.builtin id) r) (sem : SemB b.K g r) (ha : PA X (e1 :: es) (rAr b W fs)) (hm : X.mg x = none) (hv : bootBuiltins x = some (.builtin id)) (hg : Gl X x := by rfl) (hn : x ≠ "__name__" := by decide) (hdb : (x == ("__debug__" : Str)) = false := by decide)
    (he : starEach (e1 :: es) X.env = (false, eval e1 X.env) :: starEach es X.env := by rfl) (hpl : (backTo pos (starEach es X.env)).any (·.1) = false := by rfl) : PE X (.Call (.Name x p) (e1 :: es) [] pos) (rE b W (evB g fs)) :=
  PE.weak (pe_callB hc hg hm hv ha hn hdb he hpl) fun σ H Q ⟨b', S, ρ, eb, G, w⟩ => ⟨b', S, ρ, eb, G, evB_wp (by rw [eb.1]; exact sem) w⟩
theorem pe_cT (hc : CallR X (.type T) r) (sem : SemB b.K g r) (ha : PA X (e1 :: es) (rAr b W fs)) (hm : X.mg x = none) (hv : bootBuiltins x = some (.type T)) (hg : Gl X x := by rfl) (hn : x ≠ "__name__" := by decide) (hdb : (x == ("__debug__" : Str)) = false := by decide)
    (he : starEach (e1 :: es) X.env = (false, eval e1 X.env) :: starEach es X.env := by rfl) (hpl : (backTo pos (starEach es X.env)).any (·.1) = false := by rfl) : PE X (.Call (.Name x p) (e1 :: es) [] pos) (rE b W (evB g fs)) :=
  PE.weak (pe_callTy hc hg hm hv ha hn hdb he hpl) fun σ H Q ⟨b', S, ρ, eb, G, w⟩ => ⟨b', S, ρ, eb, G, evB_wp (by rw [eb.1]; exact sem) w⟩
end
theorem OKx.K' {b : Bs} {L : Nat} {X : Cx} (o : OKx b L X) {f : PySem.W.Frag → List V → Hp → VK → Prop} {g : List D → Option R} (h : SemB b.K g (f b.K)) : SemB b.K g (f X.K) := by rw [o.K]; exact h

/-! ### len, abs, int, str -/
def lenD : List D → Option R
  | [.str x] => if okN x.length = true then some (.va (.int x.length)) else none
  | [.lst xs] => some (.va (.int xs.length))
  | [.tup xs] => some (.va (.int xs.length))
  | _ => none
theorem rv1 {b : Bs} {S H : Hp} {xs : List V} {d : D} (h : RVs b S H xs [d]) : ∃ v, xs = [v] ∧ RV b S H v d := by
  cases h with
  | cons h t => cases t; exact ⟨_, rfl, h⟩
theorem rv2 {b : Bs} {S H : Hp} {xs : List V} {d e : D} (h : RVs b S H xs [d, e]) : ∃ v u, xs = [v, u] ∧ RV b S H v d ∧ RV b S H u e := by
  cases h with
  | cons h t =>
    obtain ⟨u, rfl, q⟩ := rv1 t
    exact ⟨_, u, rfl, h, q⟩
theorem rv3 {b : Bs} {S H : Hp} {xs : List V} {d e f : D} (h : RVs b S H xs [d, e, f]) : ∃ v u w, xs = [v, u, w] ∧ RV b S H v d ∧ RV b S H u e ∧ RV b S H w f := by
  cases h with
  | cons h t =>
    obtain ⟨u, w, rfl, q⟩ := rv2 t
    exact ⟨_, u, w, rfl, h, q⟩
theorem sem_len {K : PySem.W.Frag} : SemB K lenD (fun xs H Q => ∃ x n, xs = [x] ∧ LenV K x H n ∧ Q (.int n) H) := by
  intro b eb σ S H ρ xs ds z G h hg Q q
  subst eb
  unfold lenD at hg
  split at hg
  · rename_i x
    obtain ⟨v, rfl, hv⟩ := rv1 h
    cases hv
    split at hg
    · rename_i hl
      cases hg
      exact ⟨_, _, rfl, ⟨okN_sz hl, rfl⟩, q _ H S (Hsub.refl _) G (Rp.int _)⟩
    · cases hg
  · rename_i ys
    obtain ⟨v, rfl, a, vs, rfl, h1, r1⟩ := rv1 h
    cases hg
    exact ⟨_, _, rfl, Or.inl ⟨vs, SqL.of h1, rfl⟩, by rw [Rps.length r1]; exact q _ H S (Hsub.refl _) G (Rp.int _)⟩
  · rename_i ys
    obtain ⟨v, rfl, a, vs, rfl, h1, r1⟩ := rv1 h
    cases hg
    exact ⟨_, _, rfl, Or.inr ⟨vs, sqt_mono G.sub h1.1, rfl⟩, by rw [Rps.length r1]; exact q _ H S (Hsub.refl _) G (Rp.int _)⟩
  · cases hg
def absD : List D → Option R
  | [.int i] => some (.va (.int (if i < 0 then -i else i)))
  | _ => none
theorem sem_abs {K : PySem.W.Frag} : SemB K absD (fun xs H Q => ∃ i, xs = [.int i] ∧ Q (.int (if i < 0 then -i else i)) H) := by
  intro b eb σ S H ρ xs ds z G h hg Q q
  unfold absD at hg
  split at hg
  · obtain ⟨v, rfl, hv⟩ := rv1 h
    cases hv
    cases hg
    exact ⟨_, rfl, q _ H S (Hsub.refl _) G (Rp.int _)⟩
  · cases hg
def toiD : List D → Option R
  | [.int i] => some (.va (.int i))
  | [.bl k] => some (.va (.int (if k then 1 else 0)))
  | _ => none
theorem sem_toi {K : PySem.W.Frag} : SemB K toiD (fun xs H Q => (∃ i, xs = [.int i] ∧ Q (.int i) H) ∨ ∃ k, xs = [.bl k] ∧ Q (.int (if k then 1 else 0)) H) := by
  intro b eb σ S H ρ xs ds z G h hg Q q
  unfold toiD at hg
  split at hg
  · obtain ⟨v, rfl, hv⟩ := rv1 h
    cases hv
    cases hg
    exact Or.inl ⟨_, rfl, q _ H S (Hsub.refl _) G (Rp.int _)⟩
  · obtain ⟨v, rfl, hv⟩ := rv1 h
    cases hv
    cases hg
    exact Or.inr ⟨_, rfl, q _ H S (Hsub.refl _) G (Rp.int _)⟩
  · cases hg
def strD : List D → Option R
  | [.int i] => if decide (i.natAbs.log2 < 1920) = true then some (.va (.str (toString i))) else none
  | _ => none
theorem sem_str {K : PySem.W.Frag} : SemB K strD (fun xs H Q => ∃ i, xs = [.int i] ∧ i.natAbs.log2 < 1920 ∧ Q (.str (toString i)) H) := by
  intro b eb σ S H ρ xs ds z G h hg Q q
  unfold strD at hg
  split at hg
  · obtain ⟨v, rfl, hv⟩ := rv1 h
    cases hv
    split at hg
    · rename_i hl
      cases hg
      exact ⟨_, rfl, of_decide_eq_true hl, q _ H S (Hsub.refl _) G (Rp.str _)⟩
    · cases hg
  · cases hg
def mx2D : List D → Option R
  | [.int i, .int j] => some (.va (.int (if j > i then j else i)))
  | _ => none
theorem sem_mx2 {K : PySem.W.Frag} : SemB K mx2D (fun xs H Q => ∃ i j, xs = [.int i, .int j] ∧ Q (.int (if j > i then j else i)) H) := by
  intro b eb σ S H ρ xs ds z G h hg Q q
  unfold mx2D at hg
  split at hg
  · obtain ⟨v, u, rfl, hv, hu⟩ := rv2 h
    cases hv
    cases hu
    cases hg
    exact ⟨_, _, rfl, q _ H S (Hsub.refl _) G (Rp.int _)⟩
  · cases hg
def mn2D : List D → Option R
  | [.int i, .int j] => some (.va (.int (if j < i then j else i)))
  | _ => none
theorem sem_mn2 {K : PySem.W.Frag} : SemB K mn2D (fun xs H Q => ∃ i j, xs = [.int i, .int j] ∧ Q (.int (if j < i then j else i)) H) := by
  intro b eb σ S H ρ xs ds z G h hg Q q
  unfold mn2D at hg
  split at hg
  · obtain ⟨v, u, rfl, hv, hu⟩ := rv2 h
    cases hv
    cases hu
    cases hg
    exact ⟨_, _, rfl, q _ H S (Hsub.refl _) G (Rp.int _)⟩
  · cases hg

/-! ### list(..), tuple(..) -/
def listD : List D → Option R
  | [.lst xs] => some (.ow xs)
  | [.tup xs] => some (.ow xs)
  | _ => none
theorem sem_list {K : PySem.W.Frag} : SemB K listD (fun xs H Q => ∃ p ys, xs = [.ref p] ∧ (SqL K H p ys ∨ SqT K H p ys) ∧ ∀ l, H l = none → Q (.ref l) (upd H l (.lst ys))) := by
  intro b eb σ S H ρ xs ds z G h hg Q q
  subst eb
  unfold listD at hg
  split at hg
  · obtain ⟨v, rfl, a, vs, rfl, h1, r1⟩ := rv1 h
    cases hg
    exact ⟨a, vs, rfl, Or.inl (SqL.of h1), fun l hl => q _ _ S (Hsub.refl _) (G.newH hl) (RR.new G hl r1)⟩
  · obtain ⟨v, rfl, a, vs, rfl, h1, r1⟩ := rv1 h
    cases hg
    exact ⟨a, vs, rfl, Or.inr (sqt_mono G.sub h1.1), fun l hl => q _ _ S (Hsub.refl _) (G.newH hl) (RR.new G hl r1)⟩
  · cases hg
def tupD : List D → Option R
  | [.lst xs] => some (.va (.tup xs))
  | [.tup xs] => some (.va (.tup xs))
  | _ => none
theorem sem_tup {K : PySem.W.Frag} : SemB K tupD (rTupX K) := by
  intro b eb σ S H ρ xs ds z G h hg Q q
  subst eb
  unfold tupD at hg
  split at hg
  · obtain ⟨v, rfl, a, vs, rfl, h1, r1⟩ := rv1 h
    cases hg
    exact ⟨a, vs, rfl, Or.inl ⟨SqL.of h1, fun l o hl ho => q _ _ _ (Hsub.new (G.sn hl)) (G.new hl) (RR.newT G hl ho r1)⟩⟩
  · obtain ⟨v, rfl, a, vs, rfl, h1, r1⟩ := rv1 h
    cases hg
    exact ⟨a, vs, rfl, Or.inr ⟨sqt_mono G.sub h1.1, q _ _ S (Hsub.refl _) G (.tup h1 r1)⟩⟩
  · cases hg
end Mc
end
section
set_option Elab.async false
set_option linter.all false
set_option maxRecDepth 100000
set_option maxHeartbeats 4000000
set_option autoImplicit false
namespace Mc
open PySem PySem.Spec L2

/-! ### a list or a tuple gone through by a built-in function -/
def SqA (K : PySem.W.Frag) (H : Hp) (a : Addr) (xs : List V) : Prop := SqL K H a xs ∨ SqT K H a xs
section
variable {X : Cx} {pins : List (Addr × Obj)} {σ : L2.St} {H : Hp} {s : Shared} {E : Value → Shared → Prop}
structure Gone (X : Cx) (s s2 : Shared) (xs : List V) (its : List Value) (it : Addr) (fp : List Addr) (St : Nat → Heap → Prop) : Prop where
  vals : Vals xs its
  walk : Walks X.prog X.w X.A.in1 it fp [it] its.length (fun i v => its[i]? = some v) St
  at0 : St 0 s2.heap
  fps : ∀ c ∈ fp, c < s2.heap.objs.size
  new : s.heap.get? it = none
  keep : ∀ c o, s.heap.get? c = some o → s2.heap.get? c = some o
  same : s2 = { s with heap := s2.heap }
theorem sq_gone {a : Addr} {xs : List V} {Q : Value → Shared → Prop} (hc : X.calm = true) (I : Inv X pins σ H s) (h : SqA X.K H a xs) (k : ∀ s2 its it fp St, Gone X s s2 xs its it fp St → Q (.ref it) s2) : wpAny (model X.prog X.w) X.A.in1 (pyIter (.ref a)) Q E s := by
  have fr : s.heap.get? s.heap.objs.size = none := by
    cases e : s.heap.get? s.heap.objs.size with
    | none => rfl
    | some o => exact absurd (Heap.lt_size e) (Nat.lt_irrefl _)
  rcases h with h | h
  · obtain ⟨its, rv, p, _⟩ := I.list h
    have hlt : a < s.heap.objs.size := p.lt
    have hne : a ≠ s.heap.objs.size := Nat.ne_of_lt hlt
    have wk : Walks X.prog X.w X.A.in1 s.heap.objs.size [s.heap.objs.size, a] [s.heap.objs.size] its.length (fun i v => its[i]? = some v) (fun i h => h.IsListIter s.heap.objs.size a i ∧ h.IsList a its.toArray) := by
      have z := Walks.list (prog := X.prog) (w := X.w) (A := X.A.in1) (I.ok.hd hc) s.heap.objs.size a hne its.toArray
      simpa using z
    refine wpAny_pyIter_list p.isList (k _ its _ _ _ ⟨rv, wk, ⟨⟨_, Heap.get?_push_size _ rfl, rfl, rfl⟩, p.isList.push _⟩, fun c hc => ?_, fr, fun c o e => Heap.get?_push_of_some _ e, rfl⟩)
    rw [Heap.size_push]
    rcases List.mem_cons.mp hc with e | e
    · rw [e]; exact Nat.lt_succ_self _
    · rw [List.mem_singleton.mp e]; exact Nat.lt_succ_of_lt hlt
  · obtain ⟨its, rv, p, _⟩ := I.tuple h
    obtain ⟨o, ho, _⟩ := id p
    have hlt : a < s.heap.objs.size := Heap.lt_size ho
    have hne : a ≠ s.heap.objs.size := Nat.ne_of_lt hlt
    have pt : s.heap.IsTuple a its.toArray := p
    have wk : Walks X.prog X.w X.A.in1 s.heap.objs.size [s.heap.objs.size, a] [s.heap.objs.size] its.length (fun i v => its[i]? = some v) (fun i h => h.IsTupleIter s.heap.objs.size a i ∧ h.IsTuple a its.toArray) := by
      have z := Walks.tuple (prog := X.prog) (w := X.w) (A := X.A.in1) (I.ok.hd hc) s.heap.objs.size a hne its.toArray
      simpa using z
    refine wpAny_pyIter_tuple pt (k _ its _ _ _ ⟨rv, wk, ⟨⟨_, Heap.get?_push_size _ rfl, rfl, rfl⟩, pt.at fun o e => Heap.get?_push_of_some _ e⟩, fun c hc => ?_, fr, fun c o e => Heap.get?_push_of_some _ e, rfl⟩)
    rw [Heap.size_push]
    rcases List.mem_cons.mp hc with e | e
    · rw [e]; exact Nat.lt_succ_self _
    · rw [List.mem_singleton.mp e]; exact Nat.lt_succ_of_lt hlt
theorem Gone.back {s2 : Shared} {xs : List V} {its : List Value} {it : Addr} {fp : List Addr} {St : Nat → Heap → Prop} (g : Gone X s s2 xs its it fp St) (I : Inv X pins σ H s) {h' : Heap} {tk : Nat} (k : ∀ c o, c ∉ [it] → s2.heap.get? c = some o → h'.get? c = some o) : Inv X pins σ H { s with heap := h', toks := tk } :=
  I.kept fun c o e => k c o (fun z => by
    rw [List.mem_singleton.mp z, g.new] at e
    cases e) (g.keep c o e)
end
/-! ### sum, any, all -/
def numV : V → Option Int
  | .int i => some i
  | .bl k => some (if k = true then 1 else 0)
  | _ => none
def numD : D → Option Int
  | .int i => some i
  | .bl k => some (if k = true then 1 else 0)
  | _ => none
def optAll {α β : Type} (f : α → Option β) : List α → Option (List β)
  | [] => some []
  | x :: xs => match f x, optAll f xs with
    | some y, some ys => some (y :: ys)
    | _, _ => none
theorem optAll_get {α β : Type} {f : α → Option β} : ∀ {xs : List α} {ys : List β} {i : Nat} {x : α}, optAll f xs = some ys → xs[i]? = some x → ∃ y, f x = some y ∧ ys[i]? = some y
  | [], _, _, _, _, e => by simp at e
  | z :: zs, ys, i, x, h, e => by
    unfold optAll at h
    split at h
    · rename_i y ys' h1 h2
      cases h
      cases i with
      | zero => cases e; exact ⟨y, h1, rfl⟩
      | succ i =>
        obtain ⟨w, hw, hi⟩ := optAll_get h2 (by simpa using e)
        exact ⟨w, hw, by simpa using hi⟩
    · cases h
theorem optAll_length {α β : Type} {f : α → Option β} : ∀ {xs : List α} {ys : List β}, optAll f xs = some ys → ys.length = xs.length
  | [], _, h => by cases h; rfl
  | z :: zs, ys, h => by
    unfold optAll at h
    split at h
    · rename_i y ys' h1 h2
      cases h
      simp only [List.length_cons, optAll_length h2]
    · cases h
theorem Vals.at {xs : List V} {its : List Value} (r : Vals xs its) : ∀ {i : Nat} {u : Value}, its[i]? = some u → ∃ x, xs[i]? = some x ∧ RelV x u := by
  induction r with
  | nil => intro i u e; simp at e
  | cons h t ih =>
    intro i u e
    cases i with
    | zero => cases e; exact ⟨_, rfl, h⟩
    | succ i =>
      obtain ⟨x, h1, h2⟩ := ih (i := i) (by simpa using e)
      exact ⟨x, by simpa using h1, h2⟩
def rSumA (K : PySem.W.Frag) : List V → Hp → VK → Prop := fun vs H Q => ∃ a xs ns, vs = [V.ref a] ∧ SqA K H a xs ∧ optAll numV xs = some ns ∧ Q (.int ns.sum) H
theorem cr_sumA {X : Cx} (hc : X.calm = true) : CallR X (.builtin "sum") (rSumA X.K) := by
  intro pins s σ H vs us Q I r ⟨a, xs, ns, hv, hs, hn, q⟩
  subst hv
  rw [Vals.ref1 r]
  refine call_sum_walkAnyB (sq_gone hc I hs fun s2 its it fp St g => ⟨it, fp, [it], _, its.length, _, _, fun i => ns.getD i 0, rfl, g.walk.toS, g.at0, g.fps, fun i v hv => ?_, fun s' t' hm => ?_⟩)
  · obtain ⟨x, hx, rx⟩ := Vals.at g.vals hv
    obtain ⟨n, h1, h2⟩ := optAll_get hn hx
    have e : ns.getD i 0 = n := by rw [List.getD_eq_getElem?_getD, h2]; rfl
    simp only [e]
    cases x with
    | int j => cases h1; obtain ⟨t, rfl⟩ := rx; exact Or.inl ⟨t, rfl⟩
    | bl c => cases h1; cases rx; exact Or.inr ⟨c, rfl, rfl⟩
    | _ => cases h1
  · have e : preSum (fun i => ns.getD i 0) its.length = ns.sum := by
      rw [PyProof.Rows.preSum_getD, List.take_of_length_le]
      rw [optAll_length hn, g.vals.length]
      exact Nat.le_refl _
    rw [e]
    have e2 := Moved.eq_with hm
    rw [g.same] at e2
    rw [e2]
    exact ⟨.int _, H, g.back I (fun c o hc ho => hm.heap c o hc ho), ⟨_, rfl⟩, q⟩
def trV : V → Option Bool
  | .non => some false
  | .bl k => some k
  | .int i => some (i != 0)
  | _ => none
def trD : D → Option Bool
  | .non => some false
  | .bl k => some k
  | .int i => some (i != 0)
  | _ => none
def rAnyA (K : PySem.W.Frag) : List V → Hp → VK → Prop := fun vs H Q => ∃ a xs bs, vs = [V.ref a] ∧ SqA K H a xs ∧ optAll trV xs = some bs ∧ Q (.bl (bs.any id)) H
def rAllA (K : PySem.W.Frag) : List V → Hp → VK → Prop := fun vs H Q => ∃ a xs bs, vs = [V.ref a] ∧ SqA K H a xs ∧ optAll trV xs = some bs ∧ Q (.bl (bs.all id)) H
theorem truths {X : Cx} {xs : List V} {its : List Value} {bs : List Bool} (g : Vals xs its) (hn : optAll trV xs = some bs) : TruthOf X.prog X.w X.A.in1 (fun i v => its[i]? = some v) (fun i => bs.getD i false) := fun i v s Q E hv q => by
  obtain ⟨x, hx, rx⟩ := Vals.at g hv
  obtain ⟨n, h1, h2⟩ := optAll_get hn hx
  have e : bs.getD i false = n := by rw [List.getD_eq_getElem?_getD, h2]; rfl
  simp only [e] at q
  cases x with
  | non => cases h1; cases rx; exact wpAny_pure q
  | bl c => cases h1; cases rx; exact wpAny_truthy_bool q
  | int j => cases h1; obtain ⟨t, rfl⟩ := rx; exact PySem.P.truthy_int q
  | _ => cases h1
theorem cr_anyA {X : Cx} (hc : X.calm = true) : CallR X (.builtin "any") (rAnyA X.K) := by
  intro pins s σ H vs us Q I r ⟨a, xs, bs, hv, hs, hn, q⟩
  subst hv
  rw [Vals.ref1 r]
  refine call_any_walk (sq_gone hc I hs fun s2 its it fp St g => ⟨it, fp, [it], its.length, _, _, _, rfl, g.walk, g.at0, truths g.vals hn, fun h' tk hk => ?_⟩)
  have e : its.length = bs.length := by rw [optAll_length hn, g.vals.length]
  rw [e, any_range, g.same]
  exact ⟨.bl _, H, g.back I hk, rfl, q⟩
theorem cr_allA {X : Cx} (hc : X.calm = true) : CallR X (.builtin "all") (rAllA X.K) := by
  intro pins s σ H vs us Q I r ⟨a, xs, bs, hv, hs, hn, q⟩
  subst hv
  rw [Vals.ref1 r]
  refine call_all_walk (sq_gone hc I hs fun s2 its it fp St g => ⟨it, fp, [it], its.length, _, _, _, rfl, g.walk, g.at0, truths g.vals hn, fun h' tk hk => ?_⟩)
  have e : its.length = bs.length := by rw [optAll_length hn, g.vals.length]
  rw [e, all_range, g.same]
  exact ⟨.bl _, H, g.back I hk, rfl, q⟩
def sqDs : List D → Option (List D)
  | [.lst xs] => some xs
  | [.tup xs] => some xs
  | _ => none
def sumD (ds : List D) : Option R := match sqDs ds with
  | some xs => (optAll numD xs).map fun ns => .va (.int ns.sum)
  | none => none
def anyD (ds : List D) : Option R := match sqDs ds with
  | some xs => (optAll trD xs).map fun bs => .va (.bl (bs.any id))
  | none => none
def allD (ds : List D) : Option R := match sqDs ds with
  | some xs => (optAll trD xs).map fun bs => .va (.bl (bs.all id))
  | none => none
theorem rv_sq {b : Bs} {σ : L2.St} {S H : Hp} {ρ : ES} {vs : List V} {ds xs : List D} (G : Good b σ S H ρ) (h : RVs b S H vs ds) (e : sqDs ds = some xs) : ∃ a us, vs = [V.ref a] ∧ SqA b.K H a us ∧ Rps b.K b.mg S us xs := by
  unfold sqDs at e
  split at e
  · obtain ⟨v, rfl, a, us, rfl, h1, r1⟩ := rv1 h
    cases e
    exact ⟨a, us, rfl, Or.inl (SqL.of h1), r1⟩
  · obtain ⟨v, rfl, a, us, rfl, h1, r1⟩ := rv1 h
    cases e
    exact ⟨a, us, rfl, Or.inr (sqt_mono G.sub h1.1), r1⟩
  · cases e
theorem Rps.opt {K : PySem.W.Frag} {mg : Str → Option Value} {S : Hp} {β : Type} {f : V → Option β} {g : D → Option β} (hfg : ∀ v d y, Rp K mg S v d → g d = some y → f v = some y) : ∀ {vs : List V} {ds : List D} {ys : List β}, Rps K mg S vs ds → optAll g ds = some ys → optAll f vs = some ys
  | _, [], _, r, h => by cases r; exact h
  | _, d :: ds, _, r, h => by
    cases r with
    | cons r1 r2 =>
      unfold optAll at h
      split at h
      · rename_i y ys h1 h2
        cases h
        unfold optAll
        rw [hfg _ _ _ r1 h1, Rps.opt hfg r2 h2]
      · cases h
theorem num_rel {K : PySem.W.Frag} {mg : Str → Option Value} {S : Hp} {v : V} {d : D} {y : Int} (r : Rp K mg S v d) (h : numD d = some y) : numV v = some y := by
  cases r <;> first | exact h | cases h
theorem tr_rel {K : PySem.W.Frag} {mg : Str → Option Value} {S : Hp} {v : V} {d : D} {y : Bool} (r : Rp K mg S v d) (h : trD d = some y) : trV v = some y := by
  cases r <;> first | exact h | cases h
theorem sem_sum {K : PySem.W.Frag} : SemB K sumD (rSumA K) := by
  intro b eb σ S H ρ xs ds z G h hg Q q
  subst eb
  unfold sumD at hg
  split at hg
  · rename_i ys hy
    obtain ⟨a, us, rfl, h1, r1⟩ := rv_sq G h hy
    obtain ⟨ns, hn, rfl⟩ := Option.map_eq_some_iff.mp hg
    exact ⟨a, us, ns, rfl, h1, Rps.opt (fun _ _ _ => num_rel) r1 hn, q _ H S (Hsub.refl _) G (Rp.int _)⟩
  · cases hg
theorem sem_any {K : PySem.W.Frag} : SemB K anyD (rAnyA K) := by
  intro b eb σ S H ρ xs ds z G h hg Q q
  subst eb
  unfold anyD at hg
  split at hg
  · rename_i ys hy
    obtain ⟨a, us, rfl, h1, r1⟩ := rv_sq G h hy
    obtain ⟨ns, hn, rfl⟩ := Option.map_eq_some_iff.mp hg
    exact ⟨a, us, ns, rfl, h1, Rps.opt (fun _ _ _ => tr_rel) r1 hn, q _ H S (Hsub.refl _) G (Rp.bl _)⟩
  · cases hg
theorem sem_all {K : PySem.W.Frag} : SemB K allD (rAllA K) := by
  intro b eb σ S H ρ xs ds z G h hg Q q
  subst eb
  unfold allD at hg
  split at hg
  · rename_i ys hy
    obtain ⟨a, us, rfl, h1, r1⟩ := rv_sq G h hy
    obtain ⟨ns, hn, rfl⟩ := Option.map_eq_some_iff.mp hg
    exact ⟨a, us, ns, rfl, h1, Rps.opt (fun _ _ _ => tr_rel) r1 hn, q _ H S (Hsub.refl _) G (Rp.bl _)⟩
  · cases hg
end Mc
end
section
set_option Elab.async false
set_option linter.all false
set_option maxRecDepth 100000
set_option maxHeartbeats 4000000
set_option autoImplicit false
namespace Mc
open PySem PySem.Spec L2

/-! ### the best of some data -/
/-- a comparison where the heap is as Z says -/
def CmpIn (prog : Program) (w : World) (A : Around) (op : CmpOp) (P : Nat → Value → Prop) (bt : Nat → Nat → Bool) (Z : Heap → Prop) : Prop :=
  ∀ i j vi vj (s : Shared) (Q : Value → Shared → Prop) (E : Value → Shared → Prop), Z s.heap → P i vi → P j vj → Q (.bool (bt i j)) s → wpAny (model prog w) A (richCompare op vi vj) Q E s
abbrev pairL (xs : Array Value) (c : Nat) : Obj := { cls := .type "list", dict := none, data := .seq xs c, slots := #[] }
abbrev KeptBut (wr : List Addr) (tmp : Addr) (h h' : Heap) : Prop := ∀ c o, c ∉ wr → c ≠ tmp → h.get? c = some o → h'.get? c = some o
section
variable {prog : Program} {w : World} {A : Around} {R : Result → Shared → Prop} {it : Addr} {fp wr : List Addr} {n : Nat} {P : Nat → Value → Prop} {St : Nat → Heap → Prop}
theorem max_steps (W : Walks prog w A.in1 it fp wr n P St) (bt : Nat → Nat → Bool) (Z : Heap → Prop) (tmp : Addr) (hZ : ∀ h h', Z h → (∀ c o, c ∉ wr → c ≠ tmp → h.get? c = some o → h'.get? c = some o) → Z h')
    (cmp : CmpIn prog w A.in1 .Gt P bt Z) (hSf : tmp ∉ fp) : ∀ (m j : Nat) (s : Shared) (v0 : Value) (c0 : Nat), n - (j + 1) = m → j + 1 ≤ n → Z s.heap → St (j + 1) s.heap → P (argBest bt j) v0 → s.heap.get? tmp = some (pairL #[v0, v0] c0) →
    (∀ v h' tk, P (argBest bt (n - 1)) v → KeptBut wr tmp s.heap h' → R (.ok (.ret v)) { s with heap := h', toks := tk }) → codeAny (model prog w) A (.builtin "max.loop" ⟨[.ref it, .none, .ref tmp], []⟩) R s := by
  have hSw : tmp ∉ wr := fun z => hSf (W.sub _ z)
  have nmL : (toString "max" ++ toString ".loop" : String) = "max.loop" := by decide
  intro m
  induction m with
  | zero =>
    intro j s v0 c0 hm hj hz st hP hT hR
    have hin : j + 1 = n := by omega
    refine codeAny_builtin F.entry_max_loop ?_
    rw [Around.under_plainId F.plain_max_loop _]
    show wpAny _ A.in1 (seqItems? (.ref tmp) >>= _) _ _ s
    refine wpAny_bind (wpAny_seqItems hT rfl (?_ : wpAny _ A.in1 (tryCatch (pyNext (.ref it)) _ >>= _) _ _ s))
    refine wpAny_bind (wpAny_tryCatch (W.done s _ _ (hin ▸ st) fun h' tk k1 => (?_ : wpAny _ A.in1 (updateSeq tmp (fun _ => #[]) >>= _) _ _ _)))
    refine wpAny_bind (wpAny_updateSeq (k1 tmp _ hSw hT) rfl (wpAny_bind (wpAny_letGo (wpAny_pure (hR v0 _ tk (by rw [← hin]; exact hP) fun c o hc hs e => ?_)))))
    exact (Heap.get?_update_other _ _ (Ne.symm hs)).trans (k1 c o hc e)
  | succ m ih =>
    intro j s v0 c0 hm hj hz st hP hT hR
    have hlt : j + 1 < n := by omega
    refine codeAny_builtin F.entry_max_loop ?_
    rw [Around.under_plainId F.plain_max_loop _]
    show wpAny _ A.in1 (seqItems? (.ref tmp) >>= _) _ _ s
    refine wpAny_bind (wpAny_seqItems hT rfl (?_ : wpAny _ A.in1 (tryCatch (pyNext (.ref it)) _ >>= _) _ _ s))
    refine wpAny_bind (wpAny_tryCatch (W.item (j + 1) s _ _ hlt st fun v h' tk hv st' k1 => (?_ : wpAny _ A.in1 (tryCatch (holding [v, v] (richCompare .Gt v v0 >>= _)) _ >>= _) _ _ _)))
    have hT1 := k1 tmp _ hSw hT
    have hz1 : Z h' := hZ _ _ hz fun c o hc _ e => k1 c o hc e
    refine wpAny_bind (wpAny_tryCatch (wpAny_holding (wpAny_bind (cmp (j + 1) (argBest bt j) v v0 _ _ _ hz1 hv hP (wpAny_bind (wpAny_holding (wpAny_truthy_bool (wpAny_bind (wpAny_letGo (wpAny_pure ?_))))))))))
    cases hb : bt (j + 1) (argBest bt j) with
    | true =>
      simp only [if_true]
      refine wpAny_bind (wpAny_updateSeq hT1 rfl (wpAny_bind (wpAny_letGo ?_)))
      rw [nmL]
      have kU : ∀ c o, c ≠ tmp → h'.get? c = some o → Heap.get? (Heap.update h' tmp (Obj.mapSeq fun _ => #[v, v])) c = some o := fun c o hc e => (Heap.get?_update_other _ _ (Ne.symm hc)).trans e
      refine wpAny_pure ⟨plainId_quiet F.plain_max_loop _, ih (j + 1) _ v _ (by omega) hlt (hZ _ _ hz1 fun c o _ hs e => kU c o hs e) (W.frame _ _ _ st' fun c hc o e => kU c o (fun z => hSf (z ▸ hc)) e) (by simp only [argBest, hb, if_true]; exact hv)
        (Heap.get?_update_self _ hT1 rfl) fun v' h2 tk2 hv2 k2 => hR v' h2 tk2 hv2 fun c o hc hs e => k2 c o hc hs (kU c o hs (k1 c o hc e))⟩
    | false =>
      simp only [Bool.false_eq_true, if_false]
      refine wpAny_bind (wpAny_letGo ?_)
      rw [nmL]
      exact wpAny_pure ⟨plainId_quiet F.plain_max_loop _, ih (j + 1) _ v0 c0 (by omega) hlt hz1 st' (by simp only [argBest, hb, Bool.false_eq_true, if_false]; exact hP) hT1 fun v' h2 tk2 hv2 k2 => hR v' h2 tk2 hv2 fun c o hc hs e => k2 c o hc hs (k1 c o hc e)⟩
theorem max_first (W : Walks prog w A.in1 it fp wr n P St) (bt : Nat → Nat → Bool) (Z : Heap → Prop) (tmp : Addr) (hZ : ∀ h h', Z h → (∀ c o, c ∉ wr → c ≠ tmp → h.get? c = some o → h'.get? c = some o) → Z h')
    (cmp : CmpIn prog w A.in1 .Gt P bt Z) (hSf : tmp ∉ fp) (hn : 0 < n) {s : Shared} {c0 : Nat} (hz : Z s.heap) (st : St 0 s.heap) (hT : s.heap.get? tmp = some (pairL #[] c0))
    (hR : ∀ v h' tk, P (argBest bt (n - 1)) v → KeptBut wr tmp s.heap h' → R (.ok (.ret v)) { s with heap := h', toks := tk }) : codeAny (model prog w) A (.builtin "max.loop" ⟨[.ref it, .none, .ref tmp], []⟩) R s := by
  have hSw : tmp ∉ wr := fun z => hSf (W.sub _ z)
  have nmL : (toString "max" ++ toString ".loop" : String) = "max.loop" := by decide
  refine codeAny_builtin F.entry_max_loop ?_
  rw [Around.under_plainId F.plain_max_loop _]
  show wpAny _ A.in1 (seqItems? (.ref tmp) >>= _) _ _ s
  refine wpAny_bind (wpAny_seqItems hT rfl (?_ : wpAny _ A.in1 (tryCatch (pyNext (.ref it)) _ >>= _) _ _ s))
  refine wpAny_bind (wpAny_tryCatch (W.item 0 s _ _ hn st fun v h' tk hv st' k1 => (?_ : wpAny _ A.in1 (updateSeq tmp (fun _ => #[v, v]) >>= _) _ _ _)))
  have hT1 := k1 tmp _ hSw hT
  refine wpAny_bind (wpAny_updateSeq hT1 rfl ?_)
  rw [nmL]
  have kU : ∀ c o, c ≠ tmp → h'.get? c = some o → Heap.get? (Heap.update h' tmp (Obj.mapSeq fun _ => #[v, v])) c = some o := fun c o hc e => (Heap.get?_update_other _ _ (Ne.symm hc)).trans e
  exact wpAny_pure ⟨plainId_quiet F.plain_max_loop _, max_steps W bt Z tmp hZ cmp hSf _ 0 _ v _ rfl hn (hZ _ _ hz fun c o hc hs e => kU c o hs (k1 c o hc e)) (W.frame _ _ _ st' fun c hc o e => kU c o (fun z => hSf (z ▸ hc)) e) hv (Heap.get?_update_self _ hT1 rfl)
    fun v' h2 tk2 hv2 k2 => hR v' h2 tk2 hv2 fun c o hc hs e => k2 c o hc hs (kU c o hs (k1 c o hc e))⟩

theorem min_steps (W : Walks prog w A.in1 it fp wr n P St) (bt : Nat → Nat → Bool) (Z : Heap → Prop) (tmp : Addr) (hZ : ∀ h h', Z h → (∀ c o, c ∉ wr → c ≠ tmp → h.get? c = some o → h'.get? c = some o) → Z h')
    (cmp : CmpIn prog w A.in1 .Lt P bt Z) (hSf : tmp ∉ fp) : ∀ (m j : Nat) (s : Shared) (v0 : Value) (c0 : Nat), n - (j + 1) = m → j + 1 ≤ n → Z s.heap → St (j + 1) s.heap → P (argBest bt j) v0 → s.heap.get? tmp = some (pairL #[v0, v0] c0) →
    (∀ v h' tk, P (argBest bt (n - 1)) v → KeptBut wr tmp s.heap h' → R (.ok (.ret v)) { s with heap := h', toks := tk }) → codeAny (model prog w) A (.builtin "min.loop" ⟨[.ref it, .none, .ref tmp], []⟩) R s := by
  have hSw : tmp ∉ wr := fun z => hSf (W.sub _ z)
  have nmL : (toString "min" ++ toString ".loop" : String) = "min.loop" := by decide
  intro m
  induction m with
  | zero =>
    intro j s v0 c0 hm hj hz st hP hT hR
    have hin : j + 1 = n := by omega
    refine codeAny_builtin F.entry_min_loop ?_
    rw [Around.under_plainId F.plain_min_loop _]
    show wpAny _ A.in1 (seqItems? (.ref tmp) >>= _) _ _ s
    refine wpAny_bind (wpAny_seqItems hT rfl (?_ : wpAny _ A.in1 (tryCatch (pyNext (.ref it)) _ >>= _) _ _ s))
    refine wpAny_bind (wpAny_tryCatch (W.done s _ _ (hin ▸ st) fun h' tk k1 => (?_ : wpAny _ A.in1 (updateSeq tmp (fun _ => #[]) >>= _) _ _ _)))
    refine wpAny_bind (wpAny_updateSeq (k1 tmp _ hSw hT) rfl (wpAny_bind (wpAny_letGo (wpAny_pure (hR v0 _ tk (by rw [← hin]; exact hP) fun c o hc hs e => ?_)))))
    exact (Heap.get?_update_other _ _ (Ne.symm hs)).trans (k1 c o hc e)
  | succ m ih =>
    intro j s v0 c0 hm hj hz st hP hT hR
    have hlt : j + 1 < n := by omega
    refine codeAny_builtin F.entry_min_loop ?_
    rw [Around.under_plainId F.plain_min_loop _]
    show wpAny _ A.in1 (seqItems? (.ref tmp) >>= _) _ _ s
    refine wpAny_bind (wpAny_seqItems hT rfl (?_ : wpAny _ A.in1 (tryCatch (pyNext (.ref it)) _ >>= _) _ _ s))
    refine wpAny_bind (wpAny_tryCatch (W.item (j + 1) s _ _ hlt st fun v h' tk hv st' k1 => (?_ : wpAny _ A.in1 (tryCatch (holding [v, v] (richCompare .Lt v v0 >>= _)) _ >>= _) _ _ _)))
    have hT1 := k1 tmp _ hSw hT
    have hz1 : Z h' := hZ _ _ hz fun c o hc _ e => k1 c o hc e
    refine wpAny_bind (wpAny_tryCatch (wpAny_holding (wpAny_bind (cmp (j + 1) (argBest bt j) v v0 _ _ _ hz1 hv hP (wpAny_bind (wpAny_holding (wpAny_truthy_bool (wpAny_bind (wpAny_letGo (wpAny_pure ?_))))))))))
    cases hb : bt (j + 1) (argBest bt j) with
    | true =>
      simp only [if_true]
      refine wpAny_bind (wpAny_updateSeq hT1 rfl (wpAny_bind (wpAny_letGo ?_)))
      rw [nmL]
      have kU : ∀ c o, c ≠ tmp → h'.get? c = some o → Heap.get? (Heap.update h' tmp (Obj.mapSeq fun _ => #[v, v])) c = some o := fun c o hc e => (Heap.get?_update_other _ _ (Ne.symm hc)).trans e
      refine wpAny_pure ⟨plainId_quiet F.plain_min_loop _, ih (j + 1) _ v _ (by omega) hlt (hZ _ _ hz1 fun c o _ hs e => kU c o hs e) (W.frame _ _ _ st' fun c hc o e => kU c o (fun z => hSf (z ▸ hc)) e) (by simp only [argBest, hb, if_true]; exact hv)
        (Heap.get?_update_self _ hT1 rfl) fun v' h2 tk2 hv2 k2 => hR v' h2 tk2 hv2 fun c o hc hs e => k2 c o hc hs (kU c o hs (k1 c o hc e))⟩
    | false =>
      simp only [Bool.false_eq_true, if_false]
      refine wpAny_bind (wpAny_letGo ?_)
      rw [nmL]
      exact wpAny_pure ⟨plainId_quiet F.plain_min_loop _, ih (j + 1) _ v0 c0 (by omega) hlt hz1 st' (by simp only [argBest, hb, Bool.false_eq_true, if_false]; exact hP) hT1 fun v' h2 tk2 hv2 k2 => hR v' h2 tk2 hv2 fun c o hc hs e => k2 c o hc hs (k1 c o hc e)⟩
theorem min_first (W : Walks prog w A.in1 it fp wr n P St) (bt : Nat → Nat → Bool) (Z : Heap → Prop) (tmp : Addr) (hZ : ∀ h h', Z h → (∀ c o, c ∉ wr → c ≠ tmp → h.get? c = some o → h'.get? c = some o) → Z h')
    (cmp : CmpIn prog w A.in1 .Lt P bt Z) (hSf : tmp ∉ fp) (hn : 0 < n) {s : Shared} {c0 : Nat} (hz : Z s.heap) (st : St 0 s.heap) (hT : s.heap.get? tmp = some (pairL #[] c0))
    (hR : ∀ v h' tk, P (argBest bt (n - 1)) v → KeptBut wr tmp s.heap h' → R (.ok (.ret v)) { s with heap := h', toks := tk }) : codeAny (model prog w) A (.builtin "min.loop" ⟨[.ref it, .none, .ref tmp], []⟩) R s := by
  have hSw : tmp ∉ wr := fun z => hSf (W.sub _ z)
  have nmL : (toString "min" ++ toString ".loop" : String) = "min.loop" := by decide
  refine codeAny_builtin F.entry_min_loop ?_
  rw [Around.under_plainId F.plain_min_loop _]
  show wpAny _ A.in1 (seqItems? (.ref tmp) >>= _) _ _ s
  refine wpAny_bind (wpAny_seqItems hT rfl (?_ : wpAny _ A.in1 (tryCatch (pyNext (.ref it)) _ >>= _) _ _ s))
  refine wpAny_bind (wpAny_tryCatch (W.item 0 s _ _ hn st fun v h' tk hv st' k1 => (?_ : wpAny _ A.in1 (updateSeq tmp (fun _ => #[v, v]) >>= _) _ _ _)))
  have hT1 := k1 tmp _ hSw hT
  refine wpAny_bind (wpAny_updateSeq hT1 rfl ?_)
  rw [nmL]
  have kU : ∀ c o, c ≠ tmp → h'.get? c = some o → Heap.get? (Heap.update h' tmp (Obj.mapSeq fun _ => #[v, v])) c = some o := fun c o hc e => (Heap.get?_update_other _ _ (Ne.symm hc)).trans e
  exact wpAny_pure ⟨plainId_quiet F.plain_min_loop _, min_steps W bt Z tmp hZ cmp hSf _ 0 _ v _ rfl hn (hZ _ _ hz fun c o hc hs e => kU c o hs (k1 c o hc e)) (W.frame _ _ _ st' fun c hc o e => kU c o (fun z => hSf (z ▸ hc)) e) hv (Heap.get?_update_self _ hT1 rfl)
    fun v' h2 tk2 hv2 k2 => hR v' h2 tk2 hv2 fun c o hc hs e => k2 c o hc hs (kU c o hs (k1 c o hc e))⟩
end
section
variable {prog : Program} {w : World} {A : Around} {E : Value → Shared → Prop} {s : Shared}
theorem call_max1 {x : Value} {Q : Value → Shared → Prop}
    (h : wpAny (model prog w) A.in1 (pyIter x) (fun itv s2 => ∃ it fp wr n P St bt Z, itv = .ref it ∧ Walks prog w A.in1 it fp wr n P St ∧ St 0 s2.heap ∧ (∀ c ∈ fp, c < s2.heap.objs.size) ∧ 0 < n ∧ Z s2.heap ∧ (∀ tmp, s2.heap.get? tmp = none → ∀ h h', Z h → (∀ c o, c ∉ wr → c ≠ tmp → h.get? c = some o → h'.get? c = some o) → Z h') ∧
      CmpIn prog w A.in1 .Gt P bt Z ∧ ∀ v h' tk, P (argBest bt (n - 1)) v → (∀ c o, c ∉ wr → s2.heap.get? c = some o → h'.get? c = some o) → Q v { s2 with heap := h', toks := tk }) E s) : wpAny (model prog w) A (call (.builtin "max") [x]) Q E s := by
  have nmL : (toString "max" ++ toString ".loop" : String) = "max.loop" := by decide
  refine call_function_tree F.kind_max F.plain_max F.entry_max (F.args_max1 _) (?_ : wpAny _ A.in1 (Builtin.Builtins.bindParams "max" ["key", "default"] 0 ⟨[], []⟩ >>= _) _ _ s)
  refine wpAny_bind (wpAny_of_eq (show Builtin.Builtins.bindParams "max" ["key", "default"] 0 ⟨[], []⟩ = pure [none, none] from rfl) (wpAny_bind (wpAny_pure ?_)))
  refine wpAny_bind (wpAny_mono h (fun itv s2 h2 => ?_) fun _ _ e => e)
  obtain ⟨it, fp, wr, n, P, St, bt, Z, rfl, W, st, hfp, hn, hz, hZ, cmp, hQ⟩ := h2
  have hnew : s2.heap.get? s2.heap.objs.size = none := by
    cases e : s2.heap.get? s2.heap.objs.size with
    | none => rfl
    | some o => exact absurd (Heap.lt_size e) (Nat.lt_irrefl _)
  have up : ∀ c o, s2.heap.get? c = some o → (s2.heap.push { cls := .type "list", data := .seq #[] }).get? c = some o := fun c o e => Heap.get?_push_of_some _ e
  refine wpAny_bind (wpAny_newObj_type ?_)
  rw [nmL]
  exact wpAny_pure ⟨plainId_quiet F.plain_max_loop _, max_first W bt Z s2.heap.objs.size (hZ _ hnew) cmp (fun z => Nat.lt_irrefl _ (hfp _ z)) hn (hZ _ hnew _ _ hz fun c o _ _ e => up c o e) (W.frame _ _ _ st fun c _ o e => up c o e) (Heap.get?_push_size _ rfl)
    fun v h' tk hv k => hQ v h' tk hv fun c o hc e => k c o hc (Nat.ne_of_lt (Heap.lt_size e)) (up c o e)⟩
theorem call_max2 {a b : Value} {Q : Value → Shared → Prop}
    (h : wpAny (model prog w) A.in1 (pyIter (.ref s.heap.objs.size)) (fun itv s2 => ∃ it fp wr n P St bt Z, itv = .ref it ∧ Walks prog w A.in1 it fp wr n P St ∧ St 0 s2.heap ∧ (∀ c ∈ fp, c < s2.heap.objs.size) ∧ 0 < n ∧ Z s2.heap ∧ (∀ tmp, s2.heap.get? tmp = none → ∀ h h', Z h → (∀ c o, c ∉ wr → c ≠ tmp → h.get? c = some o → h'.get? c = some o) → Z h') ∧
      CmpIn prog w A.in1 .Gt P bt Z ∧ ∀ v h' tk, P (argBest bt (n - 1)) v → (∀ c o, c ∉ wr → s2.heap.get? c = some o → h'.get? c = some o) → Q v { s2 with heap := h', toks := tk }) E { s with heap := s.heap.push { cls := .type "tuple", data := .seq #[a, b] } }) : wpAny (model prog w) A (call (.builtin "max") [a, b]) Q E s := by
  have nmL : (toString "max" ++ toString ".loop" : String) = "max.loop" := by decide
  refine call_function_tree F.kind_max F.plain_max F.entry_max (F.args_max2 _ _) (?_ : wpAny _ A.in1 (Builtin.Builtins.bindParams "max" ["key", "default"] 0 ⟨[], []⟩ >>= _) _ _ s)
  refine wpAny_bind (wpAny_of_eq (show Builtin.Builtins.bindParams "max" ["key", "default"] 0 ⟨[], []⟩ = pure [none, none] from rfl) (?_ : wpAny _ A.in1 (newTuple [a, b] >>= _) _ _ s))
  refine wpAny_bind (wpAny_newObj_type (wpAny_bind (wpAny_mono h (fun itv s2 h2 => ?_) fun _ _ e => e)))
  obtain ⟨it, fp, wr, n, P, St, bt, Z, rfl, W, st, hfp, hn, hz, hZ, cmp, hQ⟩ := h2
  have hnew : s2.heap.get? s2.heap.objs.size = none := by
    cases e : s2.heap.get? s2.heap.objs.size with
    | none => rfl
    | some o => exact absurd (Heap.lt_size e) (Nat.lt_irrefl _)
  have up : ∀ c o, s2.heap.get? c = some o → (s2.heap.push { cls := .type "list", data := .seq #[] }).get? c = some o := fun c o e => Heap.get?_push_of_some _ e
  refine wpAny_bind (wpAny_newObj_type ?_)
  rw [nmL]
  exact wpAny_pure ⟨plainId_quiet F.plain_max_loop _, max_first W bt Z s2.heap.objs.size (hZ _ hnew) cmp (fun z => Nat.lt_irrefl _ (hfp _ z)) hn (hZ _ hnew _ _ hz fun c o _ _ e => up c o e) (W.frame _ _ _ st fun c _ o e => up c o e) (Heap.get?_push_size _ rfl)
    fun v h' tk hv k => hQ v h' tk hv fun c o hc e => k c o hc (Nat.ne_of_lt (Heap.lt_size e)) (up c o e)⟩

theorem call_min1 {x : Value} {Q : Value → Shared → Prop}
    (h : wpAny (model prog w) A.in1 (pyIter x) (fun itv s2 => ∃ it fp wr n P St bt Z, itv = .ref it ∧ Walks prog w A.in1 it fp wr n P St ∧ St 0 s2.heap ∧ (∀ c ∈ fp, c < s2.heap.objs.size) ∧ 0 < n ∧ Z s2.heap ∧ (∀ tmp, s2.heap.get? tmp = none → ∀ h h', Z h → (∀ c o, c ∉ wr → c ≠ tmp → h.get? c = some o → h'.get? c = some o) → Z h') ∧
      CmpIn prog w A.in1 .Lt P bt Z ∧ ∀ v h' tk, P (argBest bt (n - 1)) v → (∀ c o, c ∉ wr → s2.heap.get? c = some o → h'.get? c = some o) → Q v { s2 with heap := h', toks := tk }) E s) : wpAny (model prog w) A (call (.builtin "min") [x]) Q E s := by
  have nmL : (toString "min" ++ toString ".loop" : String) = "min.loop" := by decide
  refine call_function_tree F.kind_min F.plain_min F.entry_min (F.args_min1 _) (?_ : wpAny _ A.in1 (Builtin.Builtins.bindParams "min" ["key", "default"] 0 ⟨[], []⟩ >>= _) _ _ s)
  refine wpAny_bind (wpAny_of_eq (show Builtin.Builtins.bindParams "min" ["key", "default"] 0 ⟨[], []⟩ = pure [none, none] from rfl) (wpAny_bind (wpAny_pure ?_)))
  refine wpAny_bind (wpAny_mono h (fun itv s2 h2 => ?_) fun _ _ e => e)
  obtain ⟨it, fp, wr, n, P, St, bt, Z, rfl, W, st, hfp, hn, hz, hZ, cmp, hQ⟩ := h2
  have hnew : s2.heap.get? s2.heap.objs.size = none := by
    cases e : s2.heap.get? s2.heap.objs.size with
    | none => rfl
    | some o => exact absurd (Heap.lt_size e) (Nat.lt_irrefl _)
  have up : ∀ c o, s2.heap.get? c = some o → (s2.heap.push { cls := .type "list", data := .seq #[] }).get? c = some o := fun c o e => Heap.get?_push_of_some _ e
  refine wpAny_bind (wpAny_newObj_type ?_)
  rw [nmL]
  exact wpAny_pure ⟨plainId_quiet F.plain_min_loop _, min_first W bt Z s2.heap.objs.size (hZ _ hnew) cmp (fun z => Nat.lt_irrefl _ (hfp _ z)) hn (hZ _ hnew _ _ hz fun c o _ _ e => up c o e) (W.frame _ _ _ st fun c _ o e => up c o e) (Heap.get?_push_size _ rfl)
    fun v h' tk hv k => hQ v h' tk hv fun c o hc e => k c o hc (Nat.ne_of_lt (Heap.lt_size e)) (up c o e)⟩
theorem call_min2 {a b : Value} {Q : Value → Shared → Prop}
    (h : wpAny (model prog w) A.in1 (pyIter (.ref s.heap.objs.size)) (fun itv s2 => ∃ it fp wr n P St bt Z, itv = .ref it ∧ Walks prog w A.in1 it fp wr n P St ∧ St 0 s2.heap ∧ (∀ c ∈ fp, c < s2.heap.objs.size) ∧ 0 < n ∧ Z s2.heap ∧ (∀ tmp, s2.heap.get? tmp = none → ∀ h h', Z h → (∀ c o, c ∉ wr → c ≠ tmp → h.get? c = some o → h'.get? c = some o) → Z h') ∧
      CmpIn prog w A.in1 .Lt P bt Z ∧ ∀ v h' tk, P (argBest bt (n - 1)) v → (∀ c o, c ∉ wr → s2.heap.get? c = some o → h'.get? c = some o) → Q v { s2 with heap := h', toks := tk }) E { s with heap := s.heap.push { cls := .type "tuple", data := .seq #[a, b] } }) : wpAny (model prog w) A (call (.builtin "min") [a, b]) Q E s := by
  have nmL : (toString "min" ++ toString ".loop" : String) = "min.loop" := by decide
  refine call_function_tree F.kind_min F.plain_min F.entry_min (F.args_min2 _ _) (?_ : wpAny _ A.in1 (Builtin.Builtins.bindParams "min" ["key", "default"] 0 ⟨[], []⟩ >>= _) _ _ s)
  refine wpAny_bind (wpAny_of_eq (show Builtin.Builtins.bindParams "min" ["key", "default"] 0 ⟨[], []⟩ = pure [none, none] from rfl) (?_ : wpAny _ A.in1 (newTuple [a, b] >>= _) _ _ s))
  refine wpAny_bind (wpAny_newObj_type (wpAny_bind (wpAny_mono h (fun itv s2 h2 => ?_) fun _ _ e => e)))
  obtain ⟨it, fp, wr, n, P, St, bt, Z, rfl, W, st, hfp, hn, hz, hZ, cmp, hQ⟩ := h2
  have hnew : s2.heap.get? s2.heap.objs.size = none := by
    cases e : s2.heap.get? s2.heap.objs.size with
    | none => rfl
    | some o => exact absurd (Heap.lt_size e) (Nat.lt_irrefl _)
  have up : ∀ c o, s2.heap.get? c = some o → (s2.heap.push { cls := .type "list", data := .seq #[] }).get? c = some o := fun c o e => Heap.get?_push_of_some _ e
  refine wpAny_bind (wpAny_newObj_type ?_)
  rw [nmL]
  exact wpAny_pure ⟨plainId_quiet F.plain_min_loop _, min_first W bt Z s2.heap.objs.size (hZ _ hnew) cmp (fun z => Nat.lt_irrefl _ (hfp _ z)) hn (hZ _ hnew _ _ hz fun c o _ _ e => up c o e) (W.frame _ _ _ st fun c _ o e => up c o e) (Heap.get?_push_size _ rfl)
    fun v h' tk hv k => hQ v h' tk hv fun c o hc e => k c o hc (Nat.ne_of_lt (Heap.lt_size e)) (up c o e)⟩
end
def bIx (mx : Bool) (ps : List PyData) : Nat := argBest (fun i j => if mx = true then PySem.W.dataLt (ps.getD j .none) (ps.getD i .none) else PySem.W.dataLt (ps.getD i .none) (ps.getD j .none)) (ps.length - 1)
def okAll (ps : List PyData) : Bool := !ps.isEmpty && ps.all fun p => ps.all fun q => ordOk p q
theorem okAll_at {ps : List PyData} (h : okAll ps = true) : 0 < ps.length ∧ ∀ (i j : Nat) (p q : PyData), ps[i]? = some p → ps[j]? = some q → ordOk p q = true := by
  unfold okAll at h
  obtain ⟨h1, h2⟩ := Bool.and_eq_true_iff.mp h
  refine ⟨?_, fun i j p q hp hq => List.all_eq_true.mp (List.all_eq_true.mp h2 p (List.mem_of_getElem? hp)) q (List.mem_of_getElem? hq)⟩
  cases ps with
  | nil => cases h1
  | cons _ _ => simp
theorem ReadsAll.at' {h : Heap} : ∀ {vs : List Value} {ds : List PyData} {as : List Addr} {i : Nat} {v : Value}, ReadsAll h vs ds as → vs[i]? = some v → ∃ d as', ds[i]? = some d ∧ Reads h v d as'
  | _, _, _, _, _, .nil, e => by simp at e
  | _, _, _, i, v, .cons r rs, e => by
    cases i with
    | zero => cases e; exact ⟨_, _, rfl, r⟩
    | succ i =>
      obtain ⟨d, as', h1, h2⟩ := ReadsAll.at' (i := i) rs (by simpa using e)
      exact ⟨d, as', by simpa using h1, h2⟩
theorem cmp_max {prog : Program} {w : World} {A : Around} {h0 : Heap} {its : List Value} {ps : List PyData} {as : List Addr} (hr : ReadsAll h0 its ps as) (ok : okAll ps = true) (hu : A.units + 64 < cLine) :
    CmpIn prog w A .Gt (fun i v => its[i]? = some v) (fun i j => if true = true then PySem.W.dataLt (ps.getD j .none) (ps.getD i .none) else PySem.W.dataLt (ps.getD i .none) (ps.getD j .none)) (fun h => ∀ c o, h0.get? c = some o → h.get? c = some o) := by
  intro i j vi vj s Q E hz hi hj hq
  obtain ⟨p, as1, hp, r1⟩ := ReadsAll.at' hr hi
  obtain ⟨q, as2, hq', r2⟩ := ReadsAll.at' hr hj
  obtain ⟨h1, h2, h3⟩ := ordOk_of ((okAll_at ok).2 _ _ _ _ hp hq')
  refine PySem.W.rcGt_alike p q A s vi vj as1 as2 (PyProof.Rows.Reads.keeps hz r1) (PyProof.Rows.Reads.keeps hz r2) h1 h2 (by have := Nat.min_le_left p.depth q.depth; omega) prog w E Q ?_
  simp only [if_true, List.getD_eq_getElem?_getD, hp, hq', Option.getD_some] at hq
  exact hq
theorem cmp_min {prog : Program} {w : World} {A : Around} {h0 : Heap} {its : List Value} {ps : List PyData} {as : List Addr} (hr : ReadsAll h0 its ps as) (ok : okAll ps = true) (hu : A.units + 64 < cLine) :
    CmpIn prog w A .Lt (fun i v => its[i]? = some v) (fun i j => if false = true then PySem.W.dataLt (ps.getD j .none) (ps.getD i .none) else PySem.W.dataLt (ps.getD i .none) (ps.getD j .none)) (fun h => ∀ c o, h0.get? c = some o → h.get? c = some o) := by
  intro i j vi vj s Q E hz hi hj hq
  obtain ⟨p, as1, hp, r1⟩ := ReadsAll.at' hr hi
  obtain ⟨q, as2, hq', r2⟩ := ReadsAll.at' hr hj
  obtain ⟨h1, h2, h3⟩ := ordOk_of ((okAll_at ok).2 _ _ _ _ hp hq')
  refine PySem.W.rcLt_alike p q A s vi vj as1 as2 (PyProof.Rows.Reads.keeps hz r1) (PyProof.Rows.Reads.keeps hz r2) h1 h2 (by have := Nat.min_le_left p.depth q.depth; omega) prog w E Q ?_
  simp only [Bool.false_eq_true, if_false, List.getD_eq_getElem?_getD, hp, hq', Option.getD_some] at hq
  exact hq
theorem ReadsAll.len' {h : Heap} : ∀ {vs : List Value} {ds : List PyData} {as : List Addr}, ReadsAll h vs ds as → ds.length = vs.length
  | _, _, _, .nil => rfl
  | _, _, _, .cons _ rs => by simp only [List.length_cons, ReadsAll.len' rs]
def rBest1 (K : PySem.W.Frag) (mx : Bool) : List V → Hp → VK → Prop := fun vs H Q => ∃ a xs ps, vs = [V.ref a] ∧ SqA K H a xs ∧ DpAll K H xs ps ∧ okAll ps = true ∧ ∀ x, xs[bIx mx ps]? = some x → Q x H
def rBest2 (K : PySem.W.Frag) (mx : Bool) : List V → Hp → VK → Prop := fun vs H Q => ∃ x y p q, vs = [x, y] ∧ Dp K H x p ∧ Dp K H y q ∧ okAll [p, q] = true ∧ ∀ z, [x, y][bIx mx [p, q]]? = some z → Q z H
def D.isLst : D → Bool
  | .lst _ => true
  | _ => false
theorem RV.rpS {b : Bs} {S H : Hp} {v : V} {d : D} (h : RV b S H v d) (n : d.isLst = false) : Rp b.K b.mg S v d := by
  cases d with
  | lst ds => cases n
  | non => cases h; exact .non
  | bl c => cases h; exact .bl c
  | int i => cases h; exact .int i
  | str x => cases h; exact .str x
  | tup ds => obtain ⟨a, vs, rfl, p, q⟩ := h; exact .tup p q
  | ob c fs => exact h
  | dic k => exact h
  | fn x => exact h
section
variable {b : Bs} {L : Nat} {X : Cx}
theorem cr_max1 (ok : OKx b L X) : CallR X (.builtin "max") (rBest1 X.K true) := by
  intro pins s σ H vs us Q I r ⟨a, xs, ps, hv, hs, hd, ho, q⟩
  subst hv
  rw [Vals.ref1 r]
  have hu : X.A.in1.units + 64 < cLine := by have := ok.un; show X.A.units + 1 + 64 < cLine; omega
  refine call_max1 (sq_gone ok.calm I hs fun s2 its it fp St g => ?_)
  obtain ⟨as, hr⟩ := Dp.readsAll I ps xs its hd g.vals
  have hl := ReadsAll.len' hr
  refine ⟨it, fp, [it], its.length, _, _, _, _, rfl, g.walk, g.at0, g.fps, by rw [← hl]; exact (okAll_at ho).1, (fun c o e => g.keep c o e), (fun tmp ht h h' hz k c o e => ?_), cmp_max hr ho hu, fun v h' tk hv k => ?_⟩
  · refine k c o (fun z => ?_) (fun z => ?_) (hz c o e)
    · rw [List.mem_singleton.mp z, g.new] at e; cases e
    · rw [← z, g.keep c o e] at ht; cases ht
  · obtain ⟨x, hx, rx⟩ := Vals.at g.vals hv
    rw [g.same]
    exact ⟨x, H, g.back I k, rx, q x (by unfold bIx; rw [hl]; exact hx)⟩
theorem cr_max2d (ok : OKx b L X) : CallR X (.builtin "max") (rBest2 X.K true) := by
  intro pins s σ H vs us Q I r ⟨x, y, p, q, hv, hp, hq, ho, k0⟩
  subst hv
  obtain ⟨u, u', rfl, r1, r2⟩ := vals2 r
  obtain ⟨as1, h1⟩ := Dp.reads I p x u hp r1
  obtain ⟨as2, h2⟩ := Dp.reads I q y u' hq r2
  have hu : X.A.in1.units + 64 < cLine := by have := ok.un; show X.A.units + 1 + 64 < cLine; omega
  have hr : ReadsAll s.heap [u, u'] [p, q] (as1 ++ (as2 ++ [])) := .cons h1 (.cons h2 .nil)
  have pt : (s.heap.push { cls := .type "tuple", data := .seq #[u, u'] }).IsTuple s.heap.objs.size #[u, u'] := ⟨_, Heap.get?_push_size _ rfl, rfl, _, rfl⟩
  have hsz : (s.heap.push { cls := .type "tuple", data := .seq #[u, u'] }).objs.size = s.heap.objs.size + 1 := Heap.size_push ..
  have fr : ∀ {n : Nat} {o : Obj}, s.heap.objs.size ≤ n → s.heap.get? n = some o → False := fun hn e => absurd (Heap.lt_size e) (Nat.not_lt_of_le hn)
  have wk := Walks.tuple (prog := X.prog) (w := X.w) (A := X.A.in1) (I.ok.hd ok.calm) (s.heap.objs.size + 1) s.heap.objs.size (Nat.ne_of_lt (Nat.lt_succ_self _)) #[u, u']
  have wk2 : Walks X.prog X.w X.A.in1 (s.heap.objs.size + 1) [s.heap.objs.size + 1, s.heap.objs.size] [s.heap.objs.size + 1] 2 (fun i v => [u, u'][i]? = some v) (fun i h => h.IsTupleIter (s.heap.objs.size + 1) s.heap.objs.size i ∧ h.IsTuple s.heap.objs.size #[u, u']) := by simpa using wk
  refine call_max2 (wpAny_pyIter_tuple pt ⟨_, [s.heap.objs.size + 1, s.heap.objs.size], [s.heap.objs.size + 1], 2, _, _, _, _, by rw [hsz], wk2, ⟨⟨_, by rw [← hsz]; exact Heap.get?_push_size _ rfl, rfl, rfl⟩, pt.at fun o e => Heap.get?_push_of_some _ e⟩, fun c hc => ?_, by decide, (fun c o e => Heap.get?_push_of_some _ (Heap.get?_push_of_some _ e)), (fun tmp ht h h' hz k c o e => ?_), cmp_max hr ho hu, fun v h' tk hv k => ?_⟩)
  · rw [Heap.size_push, hsz]
    rcases List.mem_cons.mp hc with e | e
    · rw [e]; exact Nat.lt_succ_self _
    · rw [List.mem_singleton.mp e]; exact Nat.lt_succ_of_lt (Nat.lt_succ_self _)
  · refine k c o (fun z => ?_) (fun z => ?_) (hz c o e)
    · rw [List.mem_singleton.mp z] at e; exact fr (by omega) e
    · rw [← z, Heap.get?_push_of_some _ (Heap.get?_push_of_some _ e)] at ht; cases ht
  · obtain ⟨z, hz, rz⟩ := Vals.at (xs := [x, y]) (its := [u, u']) (.cons r1 (.cons r2 .nil)) hv
    refine ⟨z, H, I.kept fun c o e => k c o (fun z => ?_) (Heap.get?_push_of_some _ (Heap.get?_push_of_some _ e)), rz, k0 z hz⟩
    rw [List.mem_singleton.mp z] at e; exact fr (by omega) e
theorem cr_min1 (ok : OKx b L X) : CallR X (.builtin "min") (rBest1 X.K false) := by
  intro pins s σ H vs us Q I r ⟨a, xs, ps, hv, hs, hd, ho, q⟩
  subst hv
  rw [Vals.ref1 r]
  have hu : X.A.in1.units + 64 < cLine := by have := ok.un; show X.A.units + 1 + 64 < cLine; omega
  refine call_min1 (sq_gone ok.calm I hs fun s2 its it fp St g => ?_)
  obtain ⟨as, hr⟩ := Dp.readsAll I ps xs its hd g.vals
  have hl := ReadsAll.len' hr
  refine ⟨it, fp, [it], its.length, _, _, _, _, rfl, g.walk, g.at0, g.fps, by rw [← hl]; exact (okAll_at ho).1, (fun c o e => g.keep c o e), (fun tmp ht h h' hz k c o e => ?_), cmp_min hr ho hu, fun v h' tk hv k => ?_⟩
  · refine k c o (fun z => ?_) (fun z => ?_) (hz c o e)
    · rw [List.mem_singleton.mp z, g.new] at e; cases e
    · rw [← z, g.keep c o e] at ht; cases ht
  · obtain ⟨x, hx, rx⟩ := Vals.at g.vals hv
    rw [g.same]
    exact ⟨x, H, g.back I k, rx, q x (by unfold bIx; rw [hl]; exact hx)⟩
theorem cr_min2d (ok : OKx b L X) : CallR X (.builtin "min") (rBest2 X.K false) := by
  intro pins s σ H vs us Q I r ⟨x, y, p, q, hv, hp, hq, ho, k0⟩
  subst hv
  obtain ⟨u, u', rfl, r1, r2⟩ := vals2 r
  obtain ⟨as1, h1⟩ := Dp.reads I p x u hp r1
  obtain ⟨as2, h2⟩ := Dp.reads I q y u' hq r2
  have hu : X.A.in1.units + 64 < cLine := by have := ok.un; show X.A.units + 1 + 64 < cLine; omega
  have hr : ReadsAll s.heap [u, u'] [p, q] (as1 ++ (as2 ++ [])) := .cons h1 (.cons h2 .nil)
  have pt : (s.heap.push { cls := .type "tuple", data := .seq #[u, u'] }).IsTuple s.heap.objs.size #[u, u'] := ⟨_, Heap.get?_push_size _ rfl, rfl, _, rfl⟩
  have hsz : (s.heap.push { cls := .type "tuple", data := .seq #[u, u'] }).objs.size = s.heap.objs.size + 1 := Heap.size_push ..
  have fr : ∀ {n : Nat} {o : Obj}, s.heap.objs.size ≤ n → s.heap.get? n = some o → False := fun hn e => absurd (Heap.lt_size e) (Nat.not_lt_of_le hn)
  have wk := Walks.tuple (prog := X.prog) (w := X.w) (A := X.A.in1) (I.ok.hd ok.calm) (s.heap.objs.size + 1) s.heap.objs.size (Nat.ne_of_lt (Nat.lt_succ_self _)) #[u, u']
  have wk2 : Walks X.prog X.w X.A.in1 (s.heap.objs.size + 1) [s.heap.objs.size + 1, s.heap.objs.size] [s.heap.objs.size + 1] 2 (fun i v => [u, u'][i]? = some v) (fun i h => h.IsTupleIter (s.heap.objs.size + 1) s.heap.objs.size i ∧ h.IsTuple s.heap.objs.size #[u, u']) := by simpa using wk
  refine call_min2 (wpAny_pyIter_tuple pt ⟨_, [s.heap.objs.size + 1, s.heap.objs.size], [s.heap.objs.size + 1], 2, _, _, _, _, by rw [hsz], wk2, ⟨⟨_, by rw [← hsz]; exact Heap.get?_push_size _ rfl, rfl, rfl⟩, pt.at fun o e => Heap.get?_push_of_some _ e⟩, fun c hc => ?_, by decide, (fun c o e => Heap.get?_push_of_some _ (Heap.get?_push_of_some _ e)), (fun tmp ht h h' hz k c o e => ?_), cmp_min hr ho hu, fun v h' tk hv k => ?_⟩)
  · rw [Heap.size_push, hsz]
    rcases List.mem_cons.mp hc with e | e
    · rw [e]; exact Nat.lt_succ_self _
    · rw [List.mem_singleton.mp e]; exact Nat.lt_succ_of_lt (Nat.lt_succ_self _)
  · refine k c o (fun z => ?_) (fun z => ?_) (hz c o e)
    · rw [List.mem_singleton.mp z] at e; exact fr (by omega) e
    · rw [← z, Heap.get?_push_of_some _ (Heap.get?_push_of_some _ e)] at ht; cases ht
  · obtain ⟨z, hz, rz⟩ := Vals.at (xs := [x, y]) (its := [u, u']) (.cons r1 (.cons r2 .nil)) hv
    refine ⟨z, H, I.kept fun c o e => k c o (fun z => ?_) (Heap.get?_push_of_some _ (Heap.get?_push_of_some _ e)), rz, k0 z hz⟩
    rw [List.mem_singleton.mp z] at e; exact fr (by omega) e
end
def bestD (mx : Bool) (xs : List D) : Option D := match D.pys xs with
  | some ps => if okAll ps = true then xs[bIx mx ps]? else none
  | none => none
def best1D (mx : Bool) (ds : List D) : Option R := match sqDs ds with
  | some xs => (bestD mx xs).map .va
  | none => none
def best2D (mx : Bool) : List D → Option R
  | [x, y] => if (x.isLst || y.isLst) = true then none else (bestD mx [x, y]).map .va
  | _ => none
theorem bestD_some {mx : Bool} {xs : List D} {d : D} (h : bestD mx xs = some d) : ∃ ps, D.pys xs = some ps ∧ okAll ps = true ∧ xs[bIx mx ps]? = some d := by
  unfold bestD at h
  split at h
  · rename_i ps hp
    split at h
    · exact ⟨ps, hp, by assumption, h⟩
    · cases h
  · cases h
theorem sem_best1 {K : PySem.W.Frag} {mx : Bool} : SemB K (best1D mx) (rBest1 K mx) := by
  intro b eb σ S H ρ xs ds z G h hg Q q
  subst eb
  unfold best1D at hg
  split at hg
  · rename_i ys hy
    obtain ⟨a, us, rfl, h1, r1⟩ := rv_sq G h hy
    obtain ⟨d, hd, rfl⟩ := Option.map_eq_some_iff.mp hg
    obtain ⟨ps, hp, ho, hx⟩ := bestD_some hd
    obtain ⟨v, hv, rv⟩ := Rps.get r1 hx
    exact ⟨a, us, ps, rfl, h1, Rps.dp _ _ _ (Rps.mono G.sub _ _ r1) hp, ho, fun x e => by rw [hv] at e; cases e; exact q _ H S (Hsub.refl _) G rv⟩
  · cases hg
theorem sem_best2 {K : PySem.W.Frag} {mx : Bool} : SemB K (best2D mx) (rBest2 K mx) := by
  intro b eb σ S H ρ xs ds z G h hg Q q
  subst eb
  unfold best2D at hg
  split at hg
  · rename_i d e
    split at hg
    · cases hg
    rename_i hl
    obtain ⟨hl1, hl2⟩ := Bool.or_eq_false_iff.mp (Bool.eq_false_iff.mpr hl)
    obtain ⟨v, u, rfl, hv, hu⟩ := rv2 h
    obtain ⟨d', hd, rfl⟩ := Option.map_eq_some_iff.mp hg
    obtain ⟨ps, hp, ho, hx⟩ := bestD_some hd
    simp only [D.pys] at hp
    split at hp
    · rename_i p qs h1 h2
      split at h2
      · rename_i p2 q2 h3 h4
        cases h4
        cases h2
        cases hp
        refine ⟨v, u, p, p2, rfl, Rp.dp _ _ _ (hv.rp G.sub) h1, Rp.dp _ _ _ (hu.rp G.sub) h3, ho, fun x e => ?_⟩
        generalize bIx mx [p, p2] = k at hx e
        cases k with
        | zero => cases hx; cases e; exact q _ H S (Hsub.refl _) G (hv.rpS hl1)
        | succ k =>
          cases k with
          | zero => cases hx; cases e; exact q _ H S (Hsub.refl _) G (hu.rpS hl2)
          | succ k => simp at hx
      · cases h2
    · cases hp
  · cases hg
end Mc
end
section
set_option Elab.async false
set_option linter.all false
set_option maxRecDepth 100000
set_option maxHeartbeats 4000000
set_option autoImplicit false
namespace HT
open PySem PySem.Spec PyProof.Rows
section
variable {prog : Program} {w : World} {A : Around} {E : Value → Shared → Prop} {s : Shared}
theorem applied_back {sl : Addr} {u : Tok} {n : Nat} {Q : Int × Int × Nat → Shared → Prop} (hs : s.heap.get? sl = some { cls := .type "slice", data := .fields #[.none, .none, .int (-1) u] }) (h : Q ((n : Int) - 1, -1, n) s) :
    wpAny (model prog w) A (Builtin.Slice.sliceApplied (.ref sl) (pure (n : Int))) Q E s := by
  unfold Builtin.Slice.sliceApplied Builtin.Slice.sliceFields
  refine wpAny_bind (wpAny_bind (wpAny_field hs rfl (x := .none) rfl (wpAny_bind (wpAny_field hs rfl (x := .none) rfl (wpAny_bind (wpAny_field hs rfl (x := .int (-1) u) rfl (wpAny_pure ?_)))))))
  refine wpAny_bind (slicePart_int (?_ : wpAny _ _ (if ((-1 : Int) == 0) = true then _ else _) _ _ s))
  rw [if_neg (by decide)]
  refine wpAny_bind (slicePart_none (wpAny_bind (slicePart_none (wpAny_bind (wpAny_pure ?_)))))
  have e : Builtin.Slice.slicePlaces ((n : Int) - 1) (-1) (-1) = n := by
    unfold Builtin.Slice.slicePlaces
    rw [if_neg (by decide : ¬ ((-1 : Int) > 0))]
    by_cases h0 : (n : Int) - 1 > -1
    · rw [if_pos h0, Int.neg_neg, Int.ediv_one]; omega
    · rw [if_neg h0]; omega
  show wpAny _ _ (pure ((n : Int) - 1, (-1 : Int), Builtin.Slice.slicePlaces ((n : Int) - 1) (-1) (-1))) _ _ s
  rw [e]
  exact wpAny_pure h
theorem fm_map {α β : Type} {f : α → Option β} {g : α → β} : ∀ {l : List α}, (∀ x ∈ l, f x = some (g x)) → l.filterMap f = l.map g
  | [], _ => rfl
  | x :: l, h => by rw [List.filterMap_cons, h x (by simp), List.map_cons, fm_map fun y hy => h y (by simp [hy])]
theorem pick_back (xs : Array Value) : ((List.range xs.size).filterMap fun (m : Nat) => xs[((xs.size : Int) - 1 + (m : Int) * (-1)).toNat]?).toArray = xs.toList.reverse.toArray := by
  congr 1
  apply List.ext_getElem?
  intro i
  have e : ((List.range xs.size).filterMap fun (m : Nat) => xs[((xs.size : Int) - 1 + (m : Int) * (-1)).toNat]?) = (List.range xs.size).map fun m => xs.toList.getD (xs.size - 1 - m) .none := by
    refine fm_map fun m hm => ?_
    have hlt := List.mem_range.mp hm
    have e1 : ((xs.size : Int) - 1 + (m : Int) * (-1)).toNat = xs.size - 1 - m := by omega
    have h2 : xs.size - 1 - m < xs.toList.length := by rw [Array.length_toList]; omega
    rw [e1, ← Array.getElem?_toList, List.getElem?_eq_getElem h2]
    show some _ = some (xs.toList.getD _ _)
    rw [List.getD_eq_getElem?_getD, List.getElem?_eq_getElem h2]
    rfl
  rw [e, List.getElem?_map]
  by_cases hi : i < xs.size
  · have h2 : xs.size - 1 - i < xs.toList.length := by rw [Array.length_toList]; omega
    rw [List.getElem?_range hi, List.getElem?_reverse (by rw [Array.length_toList]; exact hi), Array.length_toList]
    show some (xs.toList.getD _ _) = _
    rw [List.getD_eq_getElem?_getD, List.getElem?_eq_getElem h2]
    rfl
  · rw [List.getElem?_eq_none (by simpa using hi), List.getElem?_eq_none (by simpa using hi)]
    rfl
theorem tuple_back {t sl : Addr} {items : Array Value} {u : Tok} {Q : Value → Shared → Prop} (ht : IsTup s.heap t items) (hs : s.heap.get? sl = some { cls := .type "slice", data := .fields #[.none, .none, .int (-1) u] })
    (h : Q (.ref s.heap.objs.size) { s with heap := s.heap.push { cls := .type "tuple", data := .seq items.toList.reverse.toArray } }) (hsz : items.size ≤ sizeLine) : wpAny (model prog w) A (getItem (.ref t) (.ref sl)) Q E s := by
  have hz : sizeOk (.seq items.toList.reverse.toArray) := by
    show items.toList.reverse.toArray.size ≤ sizeLine
    rw [List.size_toArray, List.length_reverse, Array.length_toList]
    exact hsz
  have hTs : s.TypeIs (.ref sl) "slice" := ⟨_, hs, rfl⟩
  unfold getItem
  try with_reducible refine wpAny_holding ?_
  first | refine wpAny_bind (wpAny_pure ?_) | skip
  refine wpAny_bind (wpAny_sequenceKey ht.typeIs (by decide) (wpAny_bind (wpAny_callSpecial?_slot (name := Str.ofString "__getitem__") ht.typeIs PyProof.Rows.slot_tuple_getitem (wpAny_call_entry PyProof.Rows.slot_tuple_getitem ht.typeIs entry_tuple_getitem ?_ (args_tuple_getitem _ _)))))
  refine wpAny_bind (m := Builtin.Tuple.tupleItemsOf (.ref t)) (tupleItemsOf_ ht (wpAny_bind (wpAny_typeOf hTs ?_)))
  rw [if_pos (by decide)]
  refine wpAny_bind (applied_back hs (?_ : wpAny _ _ (if (((items.size : Int) - 1 == 0) && ((-1 : Int) == 1) && (items.size == items.size)) = true then _ else _) _ _ s))
  rw [if_neg (by rw [show ((-1 : Int) == 1) = false from by decide, Bool.and_false, Bool.false_and]; exact Bool.false_ne_true), pick_back]
  first
    | exact wpAny_bind (m := Builtin.Tuple.tupleExact _) (wpAny_newObj_type (wpAny_pure ⟨_, rfl, wpAny_pure h⟩) hz)
    | exact wpAny_bind (m := Builtin.Tuple.tupleExact _) (wpAny_newObj_type (wpAny_bind (wpAny_pure (wpAny_pure ⟨_, rfl, wpAny_pure h⟩))) hz)
    | exact wpAny_bind (wpAny_bind (m := Builtin.Tuple.tupleExact _) (wpAny_newObj_type (wpAny_pure (wpAny_pure ⟨_, rfl, wpAny_pure h⟩)) hz))
    | exact wpAny_bind (wpAny_bind (m := Builtin.Tuple.tupleExact _) (wpAny_newObj_type (wpAny_pure ⟨_, rfl, wpAny_pure h⟩) hz))
end
end HT
namespace Mc
open PySem PySem.Spec L2

/-! ### xs[::-1] -/
def tBack (K : PySem.W.Frag) (te : TE) : TE := fun σ H Q => te σ H fun x H1 => ∃ a xs, x = .ref a ∧ ((SqL K H1 a xs ∧ ∀ p, H1 p = none → Q (.ref p) (upd H1 p (.lst xs.reverse))) ∨ (SqT K H1 a xs ∧ NewT H1 Q xs.reverse))
theorem pe_back {X : Cx} {e : Expr} {te : TE} {k : Nat} {p1 p2 p3 pos : Pos} (he : PE X e te) : PE X (.Subscript e (.Slice none none (some (.UnaryOp .USub (.Constant (.int 1) k p1) p2)) p3) pos) (tBack X.K te) := by
  refine ⟨fun pins s σ H Q I h => ?_⟩
  refine PyProof.Rows.Subscript_ (thn (he.run pins s σ H _ I h) fun v s1 ⟨x, H1, I1, r1, q1⟩ => ?_)
  obtain ⟨a, xs, rfl, q⟩ := q1
  cases r1
  have pm : PO X (some (.UnaryOp .USub (.Constant (.int 1) k p1) p2)) (tPart (tUn (rU fun i => .int (-i)) (tC (.int 1)))) := po_some (pe_un un_neg pe_int)
  refine wpAny_Slice (thn (po_none.run pins s1 σ H1 (fun o H2 => o = none ∧ H2 = H1) I1 ⟨rfl, rfl⟩) fun vl s2 ⟨l, H2, I2, pl, el, e2⟩ => ?_)
  obtain rfl := el; obtain rfl := e2
  refine thn (po_none.run pins s2 σ H2 (fun o H3 => o = none ∧ H3 = H2) I2 ⟨rfl, rfl⟩) fun vu s3 ⟨u, H3, I3, pu, eu, e3⟩ => ?_
  obtain rfl := eu; obtain rfl := e3
  refine thn (pm.run pins s3 σ H3 (fun o H4 => o = some (-1) ∧ H4 = H3) I3 ⟨1, rfl, -1, rfl, rfl, rfl⟩) fun vs s4 ⟨o, H4, I4, ps, eo, e4⟩ => ?_
  obtain rfl := eo; obtain rfl := e4
  have I5 : Inv X pins σ H4 { s4 with heap := s4.heap.push { cls := .type "slice", data := .fields #[vl, vu, vs] } } := I4.kept (t' := s4.toks) fun c ob q => Heap.get?_push_of_some _ q
  show wpAny (model X.prog X.w) X.A (PyProof.Rows.subscriptTail e (.Slice none none (some (.UnaryOp .USub (.Constant (.int 1) k p1) p2)) p3) (.ref a) (.ref s4.heap.objs.size)) (EP X pins σ Q) X.xe { s4 with heap := s4.heap.push { cls := .type "slice", data := .fields #[vl, vu, vs] } }
  rcases q with ⟨hx, q⟩ | ⟨hx, q⟩
  · obtain ⟨its, r, ht, hz⟩ := I5.list hx
    have hlen := r.length
    refine PyProof.Rows.tail_any (ops := [.ref a, .ref s4.heap.objs.size]) ht.isList.typeIs (PySem.slot_list_getitem.lookup) (wpAny_getItem_list_slice ht.isList (Heap.IsSliceOf.new _ vl vu vs) pl pu ps (by decide) ?_ (by rw [List.size_toArray]; omega)) (by with_unfolding_all rfl)
    rw [PySem.W.krv_pick]
    exact ⟨.ref _, _, I5.laid (t' := s4.toks) (o := .lst xs.reverse) (fun c ob q => Heap.get?_push_of_some _ q) (Nat.le_refl _) ⟨by rw [List.length_reverse]; exact hz, _, 0, r.reverse, Heap.get?_push_size _ rfl⟩, rfl, q _ (I5.hok.fresh (Nat.le_refl _))⟩
  · obtain ⟨its, r, ht, hz⟩ := I5.tuple hx
    have hlen := r.length
    cases pl
    cases pu
    generalize hm : (-1 : Int) = m at ps
    cases ps with
    | int i t =>
      subst hm
      refine PyProof.Rows.tail_any (ops := [.ref a, .ref s4.heap.objs.size]) ht.typeIs (PyProof.Rows.slot_tuple_getitem.lookup) (HT.tuple_back ht (Heap.get?_push_size _ rfl) ?_ (by rw [List.size_toArray]; omega)) (by with_unfolding_all rfl)
      exact q.use I5 r.reverse (by rw [List.length_reverse]; exact hz)
def backD : D → Option R
  | .lst xs => some (.ow xs.reverse)
  | .tup xs => some (.va (.tup xs.reverse))
  | _ => none
section
variable {b : Bs} {W : WX} {L : Nat} {X : Cx} {pos p1 p2 p3 : Pos} {e1 : Expr} {fa : M R} {k : Nat}
theorem pe_backM (o : OKx b L X) (ha : PE X e1 (rE b W fa)) : PE X (.Subscript e1 (.Slice none none (some (.UnaryOp .USub (.Constant (.int 1) k p1) p2)) p3) pos) (rE b W (evUn backD fa)) := by
  refine PE.weak (pe_back ha) fun σ H Q ⟨b', S, ρ, eb, G, w⟩ => ⟨b', S, ρ, eb, G, ev1_wp (r := fun x H1 Q => ∃ a xs, x = .ref a ∧ ((SqL X.K H1 a xs ∧ ∀ p, H1 p = none → Q (.ref p) (upd H1 p (.lst xs.reverse))) ∨ (SqT X.K H1 a xs ∧ NewT H1 Q xs.reverse))) ?_ w⟩
  intro σ S H ρ x d z G hx hz Q q
  have eK : X.K = b'.K := by rw [o.K, eb.1]
  cases d with
  | lst xs =>
    cases hz
    obtain ⟨a, vs, rfl, h1, r1⟩ := hx
    exact ⟨a, vs, rfl, Or.inl ⟨SqL.of h1, fun p hp => q _ _ S (Hsub.refl _) (G.newH hp) (RR.new G hp (Rps.reverse r1))⟩⟩
  | tup xs =>
    cases hz
    obtain ⟨a, vs, rfl, h1, r1⟩ := hx
    exact ⟨a, vs, rfl, Or.inr ⟨by rw [eK]; exact sqt_mono G.sub h1.1, fun p o hp ho => q _ _ _ (Hsub.new (G.sn hp)) (G.new hp) (RR.newT G hp ho (Rps.reverse r1))⟩⟩
  | _ => cases hz
end
end Mc
end
section
set_option Elab.async false
set_option linter.all false
set_option maxRecDepth 100000
set_option maxHeartbeats 4000000
set_option autoImplicit false
namespace Mc
open PySem PySem.Spec L2

/-! ### methods of tuples -/
section
variable {X : Cx} {pins : List (Addr × Obj)} {σ : L2.St} {H : Hp} {s : Shared}
theorem nod_is {a : Addr} (I : Inv X pins σ H s) (n : NoD X.K H a) : s.TypeIs (.ref a) "tuple" ∧ ∀ b, Value.ref a = .ref b → ∃ ob, s.heap.get? b = some ob ∧ ob.dict = none := by
  have key : ∃ o, s.heap.get? a = some o ∧ o.cls = .type "tuple" ∧ o.dict = none := by
    rcases n with ⟨o, u, e, h1, h2⟩ | ⟨o, e, h1, h2⟩
    · exact ⟨o, (show ObjOk X.prog X.w H s.heap a (.frz o u) from I.hok a _ e).1, h1, h2⟩
    · exact ⟨o, I.kIn a o e, h1, h2⟩
  obtain ⟨o, e, h1, h2⟩ := key
  exact ⟨⟨o, e, h1⟩, fun b hb => by cases hb; exact ⟨o, e, h2⟩⟩
def tTM (K : PySem.W.Frag) (rL rT : V → List V → Hp → VK → Prop) (to : TE) (t : TA) : TE := fun σ H Q => to σ H fun x H1 => ∃ a, x = .ref a ∧ (((∃ xs, SqL K H1 a xs) ∧ t σ H1 fun xs H2 => rL x xs H2 Q) ∨ (NoD K H1 a ∧ t σ H1 fun xs H2 => rT x xs H2 Q))
/-- o.m(e, ..), o a list or a tuple -/
theorem pe_tm {o e : Expr} {es : List Expr} {to : TE} {t : TA} {name : Str} {apos cpos : Pos} {idL idT : String} {rL rT : V → List V → Hp → VK → Prop} (slotL : Slot "list" name idL) (slotT : Slot "tuple" name idT) (htyL : typeOf (.builtin idL) = pure (.type "method_descriptor")) (htyT : typeOf (.builtin idT) = pure (.type "method_descriptor"))
    (hL : MtR X idL rL) (hT : MtR X idT rT) (ho : PE X o to) (ha : PA X (e :: es) t) (hbase : attributeBase o name X.env (eval o X.env) = eval o X.env := by rfl)
    (hfew : ((backTo cpos (starEach (e :: es) X.env)).all (fun x => !x.1) && (backToKw cpos (keywordEach [] X.env)).all (fun x => x.1.isSome) && decide ((e :: es).length + ([] : List Keyword).length + (if ([] : List Keyword).isEmpty then 0 else 1) < 30)) = true := by rfl)
    (hline : (apos.endLine == cpos.line) = true := by rfl) (hs : starEach (e :: es) X.env = (false, eval e X.env) :: starEach es X.env := by rfl) (hplain : (backTo cpos (starEach es X.env)).any (·.1) = false := by rfl) :
    PE X (.Call (.Attribute o name apos) (e :: es) [] cpos) (tTM X.K rL rT to t) := by
  refine ⟨fun pins s σ H Q I h => wpAny_Call_method_late hbase hfew hline rfl (thn (ho.run pins s σ H _ I h) fun v s1 ⟨x, H1, I1, r1, a, ex, q1⟩ => ?_)⟩
  subst ex
  obtain rfl : v = Value.ref a := r1
  have fl : (false || (backTo cpos (starEach es X.env)).any (·.1)) = false := by rw [hplain] <;> rfl
  rcases q1 with ⟨⟨ys, hy⟩, q1⟩ | ⟨hn, q1⟩
  · obtain ⟨its, _, ⟨o', n, ho', hc', hd', _⟩, _⟩ := I1.list hy
    refine ⟨"list", idL, PySem.F.plainAttrs_list, slotL, htyL, ⟨o', ho', hc'⟩, fun b hb => by cases hb; exact ⟨o', ho', hd'⟩, ?_⟩
    have hA := ha.run cpos pins s1 σ H1 _ I1 q1
    rw [hs] at hA ⊢
    exact Calls.callWith_builtin (show (false || (backTo cpos (starEach es X.env)).any (·.1)) = false from fl) (Calls.evalArgs_plain (thn hA fun us s2 ⟨vs, H2, I2, r2, q2⟩ => hL pins s2 σ H2 (.ref a) vs _ us Q I2 rfl r2 q2))
  · obtain ⟨h1, h2⟩ := nod_is I1 hn
    refine ⟨"tuple", idT, PySem.F.plainAttrs_tuple, slotT, htyT, h1, h2, ?_⟩
    have hA := ha.run cpos pins s1 σ H1 _ I1 q1
    rw [hs] at hA ⊢
    exact Calls.callWith_builtin (show (false || (backTo cpos (starEach es X.env)).any (·.1)) = false from fl) (Calls.evalArgs_plain (thn hA fun us s2 ⟨vs, H2, I2, r2, q2⟩ => hT pins s2 σ H2 (.ref a) vs _ us Q I2 rfl r2 q2))

/-! ### index, count -/
def rIdx (K : PySem.W.Frag) (tp : Bool) : V → List V → Hp → VK → Prop := fun x xs H Q => ∃ (a : Addr) (us : List V) (y : V) (d : PyData) (ds : List PyData) (j : Nat), x = V.ref a ∧ xs = [y] ∧ (if tp = true then SqT K H a us else SqL K H a us) ∧ DpAll K H us ds ∧ Dp K H y d ∧
  SeqAt.shaped (.list ds) = true ∧ SeqAt.shaped d = true ∧ (ds.findIdx? fun z => PyData.eqv z d) = some j ∧ Q (.int (j : Nat)) H
def rCnt (K : PySem.W.Frag) (tp : Bool) : V → List V → Hp → VK → Prop := fun x xs H Q => ∃ (a : Addr) (us : List V) (y : V) (d : PyData) (ds : List PyData), x = V.ref a ∧ xs = [y] ∧ (if tp = true then SqT K H a us else SqL K H a us) ∧ DpAll K H us ds ∧ Dp K H y d ∧
  (PyData.plainAll ds && d.plain && decide (d.depth ≤ 64)) = true ∧ Q (.int ((ds.countP fun z => PyData.eqv z d : Nat) : Int)) H
theorem mt_idxL (hu : X.A.units + 128 < cLine) : MtR X "list.index" (rIdx X.K false) := by
  intro pins s σ H x xs v us Q I rx rxs ⟨a, ws, y, d, ds, j, ex, exs, hl, hds, hd, sl, sd, hj, q⟩
  obtain ⟨h1, h2, h3⟩ := List.findIdx?_eq_some_iff_getElem.mp hj
  refine mt_indexD (by omega) pins s σ H x xs v us Q I rx rxs ⟨a, y, d, ds, j, ds[j], ex, exs, .lst hl hds, hd, sl, sd, List.getElem?_eq_getElem h1, h2, fun m z' hm hz => ?_, q⟩
  obtain ⟨hm2, rfl⟩ := List.getElem?_eq_some_iff.mp hz
  have := h3 m hm
  simpa using this
theorem mt_idxT (hu : X.A.units + 128 < cLine) : MtR X "tuple.index" (rIdx X.K true) := by
  intro pins s σ H x xs v us Q I rx rxs ⟨a, ws, y, d, ds, j, ex, exs, hl, hds, hd, sl, sd, hj, q⟩
  subst ex exs
  cases rx
  obtain ⟨uy, rfl, ry⟩ := vals1 rxs
  obtain ⟨bs, r1⟩ := Dp.reads I d y uy hd ry
  have hl' : SqT X.K H a ws := hl
  obtain ⟨its, rv, ⟨⟨cls, dd, data, sls⟩, ho, hc, n, hdt⟩, hz⟩ := I.tuple hl'
  simp only at hc hdt
  subst hc hdt
  obtain ⟨as, h4⟩ := Dp.readsAll I ds _ its hds rv
  have hxs : PyData.canLayAll0 ds = true := SeqAt.canLay_of_shaped sl
  have hn : its.length = ds.length := SeqAt.ReadsAll.length ds its as h4
  have hmap : its.map (SeqAt.readOf s.heap) = ds := SeqAt.readsAll_map ds its as hxs h4
  have hroom : X.A.units + 1 + min (PyData.depthAll ds) d.depth < cLine := room_sh sd (by omega)
  obtain ⟨h1, h2, h3⟩ := List.findIdx?_eq_some_iff_getElem.mp hj
  have at_ : ∀ (m : Nat) (hm : m < its.toArray.size) (hd' : m < ds.length), SeqAt.readOf s.heap its.toArray[m] = ds[m] := fun m hm hd' => by
    have hml : m < its.length := by omega
    have e : (its.map (SeqAt.readOf s.heap))[m]? = ds[m]? := by rw [hmap]
    rw [List.getElem?_map, List.getElem?_eq_getElem hml, List.getElem?_eq_getElem hd'] at e
    simpa using e
  have hjs : j < its.toArray.size := by rw [List.size_toArray]; omega
  refine call_meets PySem.F.slot_tuple_index ⟨_, ho, rfl⟩ PySem.F.entry_tuple_index (PySem.F.args_tuple_index_2 _ _) (TI.tuple_indexAt a its.toArray n dd sls uy (fun u => PyData.eqv (SeqAt.readOf s.heap u) d) j hjs ?_ fun m hm hmj => ?_)
    ⟨ho, SeqAt.items_eqAt (vs := its.toArray) (show ReadsAll s.heap its.toArray.toList ds as from h4) r1 hxs (SeqAt.canLay_of_shaped sd) hroom, ⟨.int (j : Nat), H, I.tok _, ⟨_, rfl⟩, q⟩⟩
  · show PyData.eqv (SeqAt.readOf s.heap its.toArray[j]) d = true
    rw [at_ j hjs h1]
    exact h2
  · show PyData.eqv (SeqAt.readOf s.heap its.toArray[m]) d = false
    rw [at_ m hm (by omega)]
    simpa using h3 m hmj
theorem cnt_ok {ds : List PyData} {d : PyData} (h : (PyData.plainAll ds && d.plain && decide (d.depth ≤ 64)) = true) : PyData.plainAll ds = true ∧ d.plain = true ∧ d.depth ≤ 64 := by
  obtain ⟨h, h3⟩ := Bool.and_eq_true_iff.mp h
  obtain ⟨h1, h2⟩ := Bool.and_eq_true_iff.mp h
  exact ⟨h1, h2, of_decide_eq_true h3⟩
theorem mt_cntL (hu : X.A.units + 128 < cLine) : MtR X "list.count" (rCnt X.K false) := by
  intro pins s σ H x xs v us Q I rx rxs ⟨a, ws, y, d, ds, ex, exs, hl, hds, hd, ok, q⟩
  subst ex exs
  cases rx
  obtain ⟨uy, rfl, ry⟩ := vals1 rxs
  obtain ⟨bs, r1⟩ := Dp.reads I d y uy hd ry
  have hl' : SqL X.K H a ws := hl
  obtain ⟨its, rv, p, hz⟩ := I.list hl'
  obtain ⟨as, h4⟩ := Dp.readsAll I ds _ its hds rv
  obtain ⟨k1, k2, k3⟩ := cnt_ok ok
  exact PySem.SeqAt.count_list_data p.isList (by simpa using h4) r1 k1 k2 (by have := Nat.min_le_right (PyData.depthAll ds) d.depth; omega) ⟨.int _, H, I.tok _, ⟨_, rfl⟩, q⟩
theorem mt_cntT (hu : X.A.units + 128 < cLine) : MtR X "tuple.count" (rCnt X.K true) := by
  intro pins s σ H x xs v us Q I rx rxs ⟨a, ws, y, d, ds, ex, exs, hl, hds, hd, ok, q⟩
  subst ex exs
  cases rx
  obtain ⟨uy, rfl, ry⟩ := vals1 rxs
  obtain ⟨bs, r1⟩ := Dp.reads I d y uy hd ry
  have hl' : SqT X.K H a ws := hl
  obtain ⟨its, rv, p, hz⟩ := I.tuple hl'
  obtain ⟨as, h4⟩ := Dp.readsAll I ds _ its hds rv
  obtain ⟨k1, k2, k3⟩ := cnt_ok ok
  have pt : s.heap.IsTuple a its.toArray := p
  exact PySem.SeqAt.count_tuple_data pt (by simpa using h4) r1 k1 k2 (by have := Nat.min_le_right (PyData.depthAll ds) d.depth; omega) ⟨.int _, H, I.tok _, ⟨_, rfl⟩, q⟩
end
def idxP (ds : List D) (e : D) : Option R := match D.pys ds, e.py with
  | some ps, some p => if (SeqAt.shaped (.list ps) && SeqAt.shaped p) = true then (ps.findIdx? fun z => PyData.eqv z p).map fun j => .va (.int (j : Nat)) else none
  | _, _ => none
def cntP (ds : List D) (e : D) : Option R := match D.pys ds, e.py with
  | some ps, some p => if (PyData.plainAll ps && p.plain && decide (p.depth ≤ 64)) = true then some (.va (.int ((ps.countP fun z => PyData.eqv z p : Nat) : Int))) else none
  | _, _ => none
def evTM (g : List D → D → Option R) (fa fb : M R) : M R := M.bnd (frzM fa) fun r1 ρ1 => match rdD ρ1 r1 with
  | some (.lst _) => M.bnd (evCons fb evNil) (fun rs ρ => match rdD ρ r1, rs with
    | some (.lst ds), [r2] => (match rdD ρ r2 with
      | some e => M.lift (g ds e) ρ
      | none => none)
    | _, _ => none) ρ1
  | some (.tup _) => M.bnd (evCons fb evNil) (fun rs ρ => match rdD ρ r1, rs with
    | some (.tup ds), [r2] => (match rdD ρ r2 with
      | some e => M.lift (g ds e) ρ
      | none => none)
    | _, _ => none) ρ1
  | _ => none
section
variable {b : Bs} {W : WX} {L : Nat} {X : Cx} {apos cpos : Pos} {e1 e2 : Expr} {fa fb : M R} {name : Str} {idL idT : String}
theorem tm_wp {g : List D → D → Option R} {rL rT : V → List V → Hp → VK → Prop} {b0 : Bs} (eb : EqB b b0)
    (semL : ∀ (σ : L2.St) (S H : Hp) (ρ : ES) (a : Addr) (vs : List V) (y : V) (ds : List D) (e : D) (z : R) (Q : VK), Good b σ S H ρ → SqL b.K H a vs → Rps b.K b.mg S vs ds → RV b S H y e → g ds e = some z → (∀ v, RR b σ S H ρ v z → Q v H) → rL (.ref a) [y] H Q)
    (semT : ∀ (σ : L2.St) (S H : Hp) (ρ : ES) (a : Addr) (vs : List V) (y : V) (ds : List D) (e : D) (z : R) (Q : VK), Good b σ S H ρ → SqT b.K H a vs → Rps b.K b.mg S vs ds → RV b S H y e → g ds e = some z → (∀ v, RR b σ S H ρ v z → Q v H) → rT (.ref a) [y] H Q)
    {σ : L2.St} {S H : Hp} {ρ : ES} {Q : VK} (w : Wp b W σ (evTM g fa fb) S H ρ fun S' H' ρ' r => ∀ v, RR b σ S' H' ρ' v r → Q v H') :
    Wp b W σ fa S H ρ fun S1 H1 ρ1 r1 => ∀ x, RR b σ S1 H1 ρ1 x r1 → ∃ a, x = .ref a ∧ (((∃ xs, SqL b.K H1 a xs) ∧ rAr b0 W (evCons fb evNil) σ H1 fun xs H2 => rL x xs H2 Q) ∨ (NoD b.K H1 a ∧ rAr b0 W (evCons fb evNil) σ H1 fun xs H2 => rT x xs H2 Q)) := by
  refine Wp.frz (K := fun x H1 => ∃ a, x = .ref a ∧ (((∃ xs, SqL b.K H1 a xs) ∧ rAr b0 W (evCons fb evNil) σ H1 fun xs H2 => rL x xs H2 Q) ∨ (NoD b.K H1 a ∧ rAr b0 W (evCons fb evNil) σ H1 fun xs H2 => rT x xs H2 Q))) w fun S1 H1 ρ1 r1 x s1 G1 f1 w1 => ?_
  cases h1 : rdD ρ1 r1 with
  | none => exact wp_none (by simp only [h1]) w1
  | some d =>
    have rv1' := f1.rv G1 h1
    cases d with
    | lst ds0 =>
      obtain ⟨a, vs0, rfl, p0, q0⟩ := rv1'
      have w2 := wp_is (g := M.bnd (evCons fb evNil) (fun rs ρ => match rdD ρ r1, rs with
        | some (.lst ds), [r2] => (match rdD ρ r2 with
          | some e => M.lift (g ds e) ρ
          | none => none)
        | _, _ => none)) (by simp only [h1]) w1
      refine ⟨a, rfl, Or.inl ⟨⟨vs0, SqL.of p0⟩, b, S1, ρ1, eb, G1, Wp.mono (Wp.bind w2) fun S2 H2 ρ2 rs s2 G2 w3 vs hvs => ?_⟩⟩
      cases h2 : rdD ρ2 r1 with
      | none => exact wp_none (by simp only [h2]) w3
      | some d2 =>
        cases d2 with
        | lst ds =>
          cases hvs with
          | nil => exact wp_none (by simp only [h2]) w3
          | cons hv ht =>
            cases ht with
            | cons _ _ => exact wp_none (by simp only [h2]) w3
            | nil =>
              rename_i y r2
              cases h3 : rdD ρ2 r2 with
              | none => exact wp_none (by simp only [h2, h3]) w3
              | some e =>
                cases h4 : g ds e with
                | none => exact wp_none (by simp only [h2, h3, h4, M.lift]) w3
                | some z =>
                  obtain ⟨a', vs, ea, p, q⟩ := (f1.mono s2).rv G2 h2
                  cases ea
                  exact semL σ S2 H2 ρ2 a vs y ds e z Q G2 (SqL.of p) q (hv.rv G2 h3) h4 fun v hr => wp_ok (a := z) (by simp only [h2, h3, h4, M.lift]) w3 (Hsub.refl _) G2 v hr
        | _ => exact wp_none (by simp only [h2]) w3
    | tup ds0 =>
      obtain ⟨a, vs0, rfl, p0, q0⟩ := rv1'
      have w2 := wp_is (g := M.bnd (evCons fb evNil) (fun rs ρ => match rdD ρ r1, rs with
        | some (.tup ds), [r2] => (match rdD ρ r2 with
          | some e => M.lift (g ds e) ρ
          | none => none)
        | _, _ => none)) (by simp only [h1]) w1
      refine ⟨a, rfl, Or.inr ⟨(sqx_mono G1.sub p0).2, b, S1, ρ1, eb, G1, Wp.mono (Wp.bind w2) fun S2 H2 ρ2 rs s2 G2 w3 vs hvs => ?_⟩⟩
      cases h2 : rdD ρ2 r1 with
      | none => exact wp_none (by simp only [h2]) w3
      | some d2 =>
        cases d2 with
        | tup ds =>
          cases hvs with
          | nil => exact wp_none (by simp only [h2]) w3
          | cons hv ht =>
            cases ht with
            | cons _ _ => exact wp_none (by simp only [h2]) w3
            | nil =>
              rename_i y r2
              cases h3 : rdD ρ2 r2 with
              | none => exact wp_none (by simp only [h2, h3]) w3
              | some e =>
                cases h4 : g ds e with
                | none => exact wp_none (by simp only [h2, h3, h4, M.lift]) w3
                | some z =>
                  obtain ⟨a', vs, ea, p, q⟩ := (f1.mono s2).rv G2 h2
                  cases ea
                  exact semT σ S2 H2 ρ2 a vs y ds e z Q G2 (sqt_mono G2.sub p.1) q (hv.rv G2 h3) h4 fun v hr => wp_ok (a := z) (by simp only [h2, h3, h4, M.lift]) w3 (Hsub.refl _) G2 v hr
        | _ => exact wp_none (by simp only [h2]) w3
    | _ => exact wp_none (by simp only [h1]) w1
theorem sem_idx {tp : Bool} {σ : L2.St} {S H : Hp} {ρ : ES} {a : Addr} {vs : List V} {y : V} {ds : List D} {e : D} {z : R} {Q : VK} (G : Good b σ S H ρ) (hs : if tp = true then SqT b.K H a vs else SqL b.K H a vs) (r : Rps b.K b.mg S vs ds) (hy : RV b S H y e) (hg : idxP ds e = some z)
    (q : ∀ v, RR b σ S H ρ v z → Q v H) : rIdx b.K tp (.ref a) [y] H Q := by
  unfold idxP at hg
  split at hg
  · rename_i ps p h1 h2
    split at hg
    · rename_i hsh
      obtain ⟨s1, s2⟩ := Bool.and_eq_true_iff.mp hsh
      obtain ⟨j, hj, rfl⟩ := Option.map_eq_some_iff.mp hg
      exact ⟨a, vs, y, p, ps, j, rfl, rfl, hs, Rps.dp _ _ _ (Rps.mono G.sub _ _ r) h1, Rp.dp _ _ _ (hy.rp G.sub) h2, s1, s2, hj, q _ (Rp.int _)⟩
    · cases hg
  · cases hg
theorem sem_cnt {tp : Bool} {σ : L2.St} {S H : Hp} {ρ : ES} {a : Addr} {vs : List V} {y : V} {ds : List D} {e : D} {z : R} {Q : VK} (G : Good b σ S H ρ) (hs : if tp = true then SqT b.K H a vs else SqL b.K H a vs) (r : Rps b.K b.mg S vs ds) (hy : RV b S H y e) (hg : cntP ds e = some z)
    (q : ∀ v, RR b σ S H ρ v z → Q v H) : rCnt b.K tp (.ref a) [y] H Q := by
  unfold cntP at hg
  split at hg
  · rename_i ps p h1 h2
    split at hg
    · rename_i hsh
      cases hg
      exact ⟨a, vs, y, p, ps, rfl, rfl, hs, Rps.dp _ _ _ (Rps.mono G.sub _ _ r) h1, Rp.dp _ _ _ (hy.rp G.sub) h2, hsh, q _ (Rp.int _)⟩
    · cases hg
  · cases hg
theorem pe_index (o : OKx b L X) (ha : PE X e1 (rE b W fa)) (hb : PE X e2 (rE b W fb)) (hbase : attributeBase e1 "index" X.env (eval e1 X.env) = eval e1 X.env := by rfl) (hline : (apos.endLine == cpos.line) = true := by rfl)
    (hs : starEach [e2] X.env = (false, eval e2 X.env) :: starEach [] X.env := by rfl)
    (hfew : ((backTo cpos (starEach [e2] X.env)).all (fun x => !x.1) && (backToKw cpos (keywordEach [] X.env)).all (fun x => x.1.isSome) && decide ([e2].length + ([] : List Keyword).length + (if ([] : List Keyword).isEmpty then 0 else 1) < 30)) = true := by rfl) :
    PE X (.Call (.Attribute e1 "index" apos) [e2] [] cpos) (rE b W (evTM idxP fa fb)) := by
  refine PE.weak (pe_tm PySem.F.slot_list_index PySem.F.slot_tuple_index PySem.F.type_list_index PySem.F.type_tuple_index (mt_idxL o.un) (mt_idxT o.un) ha (pa_c hb pa_n hs) hbase hfew hline hs) fun σ H Q ⟨b', S, ρ, eb, G, w⟩ => ⟨b', S, ρ, eb, G, ?_⟩
  rw [o.K, ← eb.1]
  exact tm_wp eb (fun σ S H ρ a vs y ds e z Q G h1 h2 h3 h4 h5 => sem_idx (tp := false) G h1 h2 h3 h4 h5) (fun σ S H ρ a vs y ds e z Q G h1 h2 h3 h4 h5 => sem_idx (tp := true) G h1 h2 h3 h4 h5) w
theorem pe_count (o : OKx b L X) (ha : PE X e1 (rE b W fa)) (hb : PE X e2 (rE b W fb)) (hbase : attributeBase e1 "count" X.env (eval e1 X.env) = eval e1 X.env := by rfl) (hline : (apos.endLine == cpos.line) = true := by rfl)
    (hs : starEach [e2] X.env = (false, eval e2 X.env) :: starEach [] X.env := by rfl)
    (hfew : ((backTo cpos (starEach [e2] X.env)).all (fun x => !x.1) && (backToKw cpos (keywordEach [] X.env)).all (fun x => x.1.isSome) && decide ([e2].length + ([] : List Keyword).length + (if ([] : List Keyword).isEmpty then 0 else 1) < 30)) = true := by rfl) :
    PE X (.Call (.Attribute e1 "count" apos) [e2] [] cpos) (rE b W (evTM cntP fa fb)) := by
  refine PE.weak (pe_tm PySem.F.slot_list_count PySem.F.slot_tuple_count PySem.F.type_list_count PySem.F.type_tuple_count (mt_cntL o.un) (mt_cntT o.un) ha (pa_c hb pa_n hs) hbase hfew hline hs) fun σ H Q ⟨b', S, ρ, eb, G, w⟩ => ⟨b', S, ρ, eb, G, ?_⟩
  rw [o.K, ← eb.1]
  exact tm_wp eb (fun σ S H ρ a vs y ds e z Q G h1 h2 h3 h4 h5 => sem_cnt (tp := false) G h1 h2 h3 h4 h5) (fun σ S H ρ a vs y ds e z Q G h1 h2 h3 h4 h5 => sem_cnt (tp := true) G h1 h2 h3 h4 h5) w
end
end Mc
end
section
set_option Elab.async false
set_option linter.all false
set_option maxRecDepth 100000
set_option maxHeartbeats 4000000
set_option autoImplicit false
namespace Mc
open PySem PySem.Spec L2

/-! ### a list of the frame is written -/
section
variable {b : Bs} {σ : L2.St} {S H : Hp} {ρ : ES}
theorem Good.put {i : Nat} {a : Addr} {vs vs' : List V} {ds ds' : List D} (G : Good b σ S H ρ) (hi : ρ[i]? = some (.ow ds)) (hv : σ[i]? = some (some (.ref a))) (hH : H a = some (.lst vs)) (hS : S a = none) (r : Rps b.K b.mg S vs' ds') : Good b σ S (upd H a (.lst vs')) (ρ.set i (.ow ds')) := by
  have w0 : Own ρ σ i a := ⟨hv, _, hi, rfl⟩
  have back : ∀ {j c}, Own (ρ.set i (.ow ds')) σ j c → Own ρ σ j c := by
    rintro j c ⟨h1, s, h2, h3⟩
    by_cases hj : i = j
    · subst hj; exact ⟨h1, _, hi, rfl⟩
    · rw [List.getElem?_set_ne hj] at h2; exact ⟨h1, s, h2, h3⟩
  refine ⟨fun x o e => ?_, by rw [List.length_set]; exact G.len, fun j s e => ?_, fun j k c h1 h2 => G.dis j k c (back h1) (back h2), fun x o e n => ?_, fun j c w => G.o0 j c (back w), G.s0, G.n0, fun x e => G.f0 x ?_⟩
  · rw [upd_ne (fun z => by subst z; rw [hS] at e; cases e)]; exact G.sub _ _ e
  · by_cases hj : i = j
    · subst hj
      rw [List.getElem?_set_self (List.getElem?_eq_some_iff.mp hi).1] at e
      cases e
      exact ⟨a, vs', hv, upd_same, hS, r⟩
    · rw [List.getElem?_set_ne hj] at e
      exact (G.sl j s e).heap fun c u hc ho hu => by
        rw [upd_ne (fun z => by subst z; exact hj (G.dis i j c w0 ⟨hc, s, e, ho⟩))]; exact hu
  · rw [upd_ne (fun z => by
      subst z
      rcases G.o0 i x w0 with q | q
      · rw [e] at q; cases q
      · exact n q)]
    exact G.k0 x o e n
  · by_cases h : x = a
    · subst h; rw [upd_same] at e; cases e
    · rw [upd_ne h] at e; exact e
end
def evLM (i : Nat) (m : List D → List D → Option (D × List D)) (fs : M (List R)) : M R := fun ρ => match ρ[i]? with
  | some (.ow _) => M.bnd fs (fun rs => M.bnd (frzSs rs) fun ds ρ => match ρ[i]? with
    | some (.ow xs) => (match m xs ds with
      | some (d, xs') => some (.ok (.va d) (ρ.set i (.ow xs')))
      | none => none)
    | _ => none) ρ
  | _ => none
def SemL (K : PySem.W.Frag) (m : List D → List D → Option (D × List D)) (r : V → List V → Hp → VK → Prop) : Prop := ∀ (b : Bs), b.K = K → ∀ (S H : Hp) (a : Addr) (vs us : List V) (xs ds : List D) (d : D) (xs' : List D), Hsub S H → H a = some (.lst vs) → Rps b.K b.mg S vs xs → Rps b.K b.mg S us ds → m xs ds = some (d, xs') →
  ∀ Q : VK, (∀ v vs', Rp b.K b.mg S v d → Rps b.K b.mg S vs' xs' → Q v (upd H a (.lst vs'))) → r (.ref a) us H Q
section
variable {b : Bs} {W : WX} {L : Nat} {X : Cx} {p1 p2 p3 apos cpos pos : Pos} {x : Str} {e1 e2 : Expr} {es : List Expr} {fa fb : M R} {fs : M (List R)} {name : Str} {id : String} {m : List D → List D → Option (D × List D)} {r : V → List V → Hp → VK → Prop}
theorem lm_wp {i : Nat} {σ : L2.St} {S H : Hp} {ρ : ES} {Q : VK} {b0 : Bs} (eb : EqB b b0) (sem : SemL b.K m r) (G : Good b σ S H ρ) (w : Wp b W σ (evLM i m fs) S H ρ fun S' H' ρ' r => ∀ v, RR b σ S' H' ρ' v r → Q v H') :
    ∃ a, σ[i]? = some (some (.ref a)) ∧ (∃ vs, H a = some (.lst vs)) ∧ Wp b W σ fs S H ρ fun S1 H1 ρ1 rs => ∀ vs, RFs b σ S1 vs rs → r (.ref a) vs H1 Q := by
  unfold Wp WpO evLM at w
  cases hi : ρ[i]? with
  | none => rw [hi] at w; exact w.elim
  | some s =>
    rw [hi] at w
    cases s with
    | ow xs0 =>
      obtain ⟨a, vs0, e1, h0, _, _⟩ := G.sl i _ hi
      refine ⟨a, e1, ⟨vs0, h0⟩, Wp.mono (Wp.bind (g := fun rs => M.bnd (frzSs rs) fun ds ρ => match ρ[i]? with
        | some (.ow xs) => (match m xs ds with
          | some (d, xs') => some (.ok (R.va d) (ρ.set i (.ow xs')))
          | none => none)
        | _ => none) w) fun S1 H1 ρ1 rs s1 G1 w1 vs hvs => ?_⟩
      obtain ⟨S2, ρ2, ds, s2, G2, r2, w2⟩ := Wp.frzSs G1 hvs (Wp.bind w1)
      cases hi2 : ρ2[i]? with
      | none => exact wp_none (by simp only [hi2]) w2
      | some s =>
        cases s with
        | ow xs =>
          cases hm : m xs ds with
          | none => exact wp_none (by simp only [hi2, hm]) w2
          | some dx =>
            obtain ⟨d, xs'⟩ := dx
            obtain ⟨a', ws, e2, h1, h2, h3⟩ := G2.sl i _ hi2
            rw [e1] at e2; cases e2
            refine sem b rfl S2 H1 a ws vs xs ds d xs' G2.sub h1 h3 r2 hm Q fun v vs' rv rvs => ?_
            have w3 := wp_step (o := some (.ok (R.va d) (ρ2.set i (.ow xs')))) (by simp only [hi2, hm]) w2
            exact w3 S2 _ (Hsub.refl _) (G2.put hi2 e1 h1 h2 rvs) v rv
        | _ => exact wp_none (by simp only [hi2]) w2
    | _ => exact w.elim
theorem pe_lm (i : Nat) (slot : Slot "list" name id) (hty : typeOf (.builtin id) = pure (.type "method_descriptor")) (hm : MtR X id r) (sem : SemL b.K m r) (ha : PA X (e1 :: es) (rAr b W fs)) (o : OKx b L X)
    (hN : X.N[i]? = some x := by rfl) (hv : Vis X.env.scope x := by first | exact Or.inl rfl | exact Or.inr (Or.inl rfl) | exact Or.inr (Or.inr rfl)) (hd : (x == ("__debug__" : Str)) = false := by decide) (hcd : (x == ("__classdict__" : Str)) = false := by decide)
    (hbase : attributeBase (.Name x p1) name X.env (eval (.Name x p1) X.env) = eval (.Name x p1) X.env := by rfl) (hline : (apos.endLine == cpos.line) = true := by rfl)
    (hfew : ((backTo cpos (starEach (e1 :: es) X.env)).all (fun x => !x.1) && (backToKw cpos (keywordEach [] X.env)).all (fun x => x.1.isSome) && decide ((e1 :: es).length + ([] : List Keyword).length + (if ([] : List Keyword).isEmpty then 0 else 1) < 30)) = true := by rfl)
    (hs : starEach (e1 :: es) X.env = (false, eval e1 X.env) :: starEach es X.env := by rfl) (hplain : (backTo cpos (starEach es X.env)).any (·.1) = false := by rfl) :
    PE X (.Call (.Attribute (.Name x p1) name apos) (e1 :: es) [] cpos) (rE b W (evLM i m fs)) := by
  refine PE.weak (pe_bm PySem.F.plainAttrs_list slot hty hm (pe_var hN hv hd hcd) ha hbase hfew hline hs hplain) fun σ H Q ⟨b', S, ρ, eb, G, w⟩ => ?_
  obtain ⟨a, h1, ⟨vs, h2⟩, w2⟩ := lm_wp eb (by rw [eb.1]; exact sem) G w
  exact ⟨_, h1, Or.inl ⟨rfl, vs, SqL.of h2⟩, b', S, ρ, eb, G, w2⟩
theorem pe_lm0 (i : Nat) (slot : Slot "list" name id) (hty : typeOf (.builtin id) = pure (.type "method_descriptor")) (hm : MtR X id r) (sem : SemL b.K m r) (o : OKx b L X)
    (hN : X.N[i]? = some x := by rfl) (hv : Vis X.env.scope x := by first | exact Or.inl rfl | exact Or.inr (Or.inl rfl) | exact Or.inr (Or.inr rfl)) (hd : (x == ("__debug__" : Str)) = false := by decide) (hcd : (x == ("__classdict__" : Str)) = false := by decide)
    (hbase : attributeBase (.Name x p1) name X.env (eval (.Name x p1) X.env) = eval (.Name x p1) X.env := by rfl) (hline : (apos.endLine == cpos.line) = true := by rfl) :
    PE X (.Call (.Attribute (.Name x p1) name apos) [] [] cpos) (rE b W (evLM i m evNil)) := by
  refine PE.weak (pe_bm0 PySem.F.plainAttrs_list slot hty hm (pe_var hN hv hd hcd) hbase hline) fun σ H Q ⟨b', S, ρ, eb, G, w⟩ => ?_
  obtain ⟨a, h1, ⟨vs, h2⟩, w2⟩ := lm_wp eb (by rw [eb.1]; exact sem) G w
  exact ⟨_, h1, Or.inl ⟨rfl, vs, SqL.of h2⟩, w2 S H (Hsub.refl _) G [] .nil⟩

/-! ### append, pop, extend, insert -/
def apM (xs ds : List D) : Option (D × List D) := match ds with
  | [d] => if few xs = true then some (.non, xs ++ [d]) else none
  | _ => none
theorem sem_ap {K : PySem.W.Frag} : SemL K apM rAppend := by
  intro b eb S H a vs us xs ds d xs' hS ha rx rd hm Q q
  unfold apM at hm
  split at hm
  · split at hm
    · rename_i e hf
      cases hm
      cases rd with
      | cons r1 r2 => cases r2; exact ⟨a, vs, _, rfl, rfl, ha, by rw [Rps.length rx]; exact few_lt hf, q _ _ .non (Rps.append rx (.cons r1 .nil))⟩
    · cases hm
  · cases hm
def popM (xs ds : List D) : Option (D × List D) := match ds with
  | [] => (xs[xs.length - 1]?).map fun d => (d, xs.dropLast)
  | _ => none
theorem Rps.dropLast {K : PySem.W.Frag} {mg : Str → Option Value} {S : Hp} {vs : List V} {ds : List D} (r : Rps K mg S vs ds) : Rps K mg S vs.dropLast ds.dropLast := by
  rw [List.dropLast_eq_take, List.dropLast_eq_take, Rps.length r]
  exact Rps.take _ r
theorem sem_pop {K : PySem.W.Frag} : SemL K popM rPop := by
  intro b eb S H a vs us xs ds d xs' hS ha rx rd hm Q q
  unfold popM at hm
  split at hm
  · obtain ⟨e, he, h2⟩ := Option.map_eq_some_iff.mp hm
    cases h2
    cases rd
    obtain ⟨v, hv, rv⟩ := Rps.get rx he
    exact ⟨a, vs, v, rfl, rfl, ha, by rw [Rps.length rx]; exact hv, q _ _ rv (Rps.dropLast rx)⟩
  · cases hm
def popAtM (xs ds : List D) : Option (D × List D) := match ds with
  | [.int i] => if smI i = true then (match ixN xs.length i with
    | some k => (xs[k]?).map fun d => (d, xs.eraseIdx k)
    | none => none) else none
  | _ => none
theorem Rps.eraseIdx {K : PySem.W.Frag} {mg : Str → Option Value} {S : Hp} : ∀ (n : Nat) {ds : List D} {vs : List V}, Rps K mg S vs ds → Rps K mg S (vs.eraseIdx n) (ds.eraseIdx n)
  | _, [], _, x => by cases x; exact .nil
  | 0, d :: ds, _, x => by cases x with | cons p q => exact q
  | n + 1, d :: ds, _, x => by cases x with | cons p q => exact .cons p (Rps.eraseIdx n q)
theorem sem_popAt {K : PySem.W.Frag} : SemL K popAtM rPopAt := by
  intro b eb S H a vs us xs ds d xs' hS ha rx rd hm Q q
  unfold popAtM at hm
  split at hm
  · rename_i i
    split at hm
    · split at hm
      · rename_i hsm _ k hk
        obtain ⟨b1, b2⟩ := smI_ok hsm
        obtain ⟨e, he, h2⟩ := Option.map_eq_some_iff.mp hm
        cases h2
        cases rd with
        | cons r1 r2 =>
          cases r2
          cases r1
          obtain ⟨v, hv, rv⟩ := Rps.get rx he
          obtain ⟨h1, h2, h3, h4⟩ := ixN_seq hk
          exact ⟨a, vs, i, k, v, rfl, rfl, ha, by omega, by omega, by rw [Rps.length rx]; exact h1, hv, q _ _ rv (Rps.eraseIdx k rx)⟩
      · cases hm
    · cases hm
  · cases hm
def extM (xs ds : List D) : Option (D × List D) := match ds with
  | [.lst ys] => if few (xs ++ ys) = true then some (.non, xs ++ ys) else none
  | _ => none
theorem sem_ext {K : PySem.W.Frag} : SemL K extM rExtend := by
  intro b eb S H a vs us xs ds d xs' hS ha rx rd hm Q q
  unfold extM at hm
  split at hm
  · split at hm
    · rename_i ys hf
      cases hm
      cases rd with
      | cons r1 r2 =>
        cases r2
        cases r1 with
        | lst p q1 => exact ⟨a, _, vs, _, rfl, rfl, ha, hS _ _ p, by have := few_sz hf; rw [List.length_append] at this; rw [Rps.length rx, Rps.length q1]; exact this, q _ _ .non (Rps.append rx q1)⟩
    · cases hm
  · cases hm
end
end Mc
end
section
set_option Elab.async false
set_option linter.all false
set_option maxRecDepth 100000
set_option maxHeartbeats 4000000
set_option autoImplicit false
namespace Mc
open PySem PySem.Spec L2

/-! ### xs[i] = v -/
def evLSet (i : Nat) (fi fv : M R) : M Fl := M.bnd (frzM fv) fun rv => M.bnd (frzS rv) fun d ρ => match ρ[i]? with
  | some (.ow _) => M.bnd fi (fun ri ρ => match ri, ρ[i]? with
    | .va (.int k), some (.ow xs) => (match ixN xs.length k with
      | some j => some (.ok .nx (ρ.set i (.ow (xs.set j d))))
      | none => none)
    | _, _ => none) ρ
  | _ => none
section
variable {b : Bs} {W : WX} {L : Nat} {X : Cx} {p1 p2 p3 pos : Pos} {x : Str} {e1 e2 e3 : Expr} {fa fb fc : M R}
theorem s_lset (i : Nat) (o : OKx b L X) (he : PE X e2 (rE b W fb)) (hi : PE X e1 (rE b W fa)) (hN : X.N[i]? = some x := by rfl) (hv : Vis X.env.scope x := by first | exact Or.inl rfl | exact Or.inr (Or.inl rfl) | exact Or.inr (Or.inr rfl)) (hd : (x == ("__debug__" : Str)) = false := by decide)
    (hcd : (x == ("__classdict__" : Str)) = false := by decide)
    (ha : ∀ v, assign (.Subscript (.Name x p1) e1 p2) X.env v = (do
      let ov ← holding [v] (eval (.Name x p1) X.env)
      let iv ← holding [v, ov] (eval e1 X.env)
      standAt p2
      holding [v, ov, iv] (setItem ov iv v)
      release [v, ov, iv] []) := by intro _; rfl)
    (hs : swapsWithSole [.Subscript (.Name x p1) e1 p2] e2 pos.line X.env = pure false := by rfl) (hw : swappedStores [.Subscript (.Name x p1) e1 p2] e2 X.env = pure none := by rfl)
    (h1 : (assignEach [.Subscript (.Name x p1) e1 p2] X.env).map (·.2) = [assign (.Subscript (.Name x p1) e1 p2) X.env] := by rfl) : PS X (.Assign [.Subscript (.Name x p1) e1 p2] e2 pos) (rS b W (evLSet i fa fb)) := by
  refine PS.weak (ps_asg he (pg_sub (pe_var hN hv hd hcd) hi set_list ha) hs hw h1) fun D σ H ⟨b', S, ρ, eb, G, w⟩ => ⟨b', S, ρ, eb, G, ?_⟩
  refine Wp.frz0 (K := fun v H1 => L2.gSub (tVar i) (rE b W fa) rSetL v σ H1 D.nx) (WpS.bind (σ := σ) (H := H) (f := frzM fb) w) fun S1 H1 ρ1 r v s1 G1 f1 w1 => ?_
  obtain ⟨S2, ρ2, d, s2, G2, r2, w2⟩ := Wp.frzS G1 f1 (WpS.bind (σ := σ) (H := H1) w1)
  cases h2 : ρ2[i]? with
  | none => exact wps_none (by simp only [h2]) w2
  | some sl =>
    cases sl with
    | ow xs0 =>
      simp only [h2] at w2
      obtain ⟨a, vs0, e1', _, _, _⟩ := G2.sl i _ h2
      refine ⟨.ref a, e1', b', S2, ρ2, eb, G2, ?_⟩
      refine Wp.mono (WpS.bind (σ := σ) (H := H1) w2) fun S3 H3 ρ3 ri s3 G3 w3 y hy => ?_
      cases ri with
      | ow ds => exact w3.elim
      | sl j => exact w3.elim
      | va e =>
        cases e with
        | int k =>
          cases hy
          cases h3 : ρ3[i]? with
          | none => exact wps_none (by simp only [h3]) w3
          | some sl =>
            cases sl with
            | ow xs =>
              cases h4 : ixN xs.length k with
              | none => exact wps_none (by simp only [h3, h4]) w3
              | some j =>
                simp only [h3, h4] at w3
                obtain ⟨a', vs, e2, hH, hS, hr⟩ := G3.sl i _ h3
                rw [e1'] at e2; cases e2
                exact ⟨a, vs, k, j, rfl, rfl, hH, by rw [Rps.length hr]; exact h4, w3 σ S3 _ (Hsub.refl _) (G3.put h3 e1' hH hS (Rps.set (Rp.mono s3 _ _ r2) j hr))⟩
            | _ => exact wps_none (by simp only [h3]) w3
        | _ => exact w3.elim
    | _ => exact wps_none (by simp only [h2]) w2

/-! ### slices -/
def evPart (f : M R) : M (Option Int) := M.bnd f fun r ρ => match r with
  | .va (.int i) => some (.ok (some i) ρ)
  | _ => none
def rO (b0 : Bs) (W : WX) (f : M (Option Int)) : TO := fun σ H Q => ∃ b S ρ, EqB b b0 ∧ Good b σ S H ρ ∧ Wp b W σ f S H ρ fun S' H' ρ' o => Q o H'
theorem PO.weak {e : Option Expr} {t t' : TO} (h : PO X e t) (k : ∀ σ H Q, t' σ H Q → t σ H Q) : PO X e t' := ⟨fun pins s σ H Q I hw => h.run pins s σ H Q I (k σ H Q hw)⟩
theorem po_n : PO X none (rO b W (M.ret none)) := PO.weak po_none fun σ H Q ⟨b', S, ρ, eb, G, w⟩ => Wp.ret (a := (none : Option Int)) w G
theorem po_s (ha : PE X e1 (rE b W fa)) : PO X (some e1) (rO b W (evPart fa)) := by
  refine PO.weak (po_some ha) fun σ H Q ⟨b', S, ρ, eb, G, w⟩ => ⟨b', S, ρ, eb, G, Wp.mono (Wp.bind w) fun S1 H1 ρ1 r s1 G1 w1 v hv => ?_⟩
  cases r with
  | ow ds => exact wp_none rfl w1
  | sl j => exact wp_none rfl w1
  | va e =>
    cases e with
    | int k => cases hv; exact ⟨k, rfl, wp_step (o := some (.ok (some k) ρ1)) rfl w1 S1 H1 (Hsub.refl _) G1⟩
    | _ => exact wp_none rfl w1
def cutG {α : Type} (xs : List α) (lo hi : Option Int) : List α := (xs.drop (HT.sIx xs.length 0 lo)).take (HT.sIx xs.length xs.length hi - HT.sIx xs.length 0 lo)
theorem Rps.cut {K : PySem.W.Frag} {mg : Str → Option Value} {S : Hp} {vs : List V} {ds : List D} (r : Rps K mg S vs ds) (lo hi : Option Int) : Rps K mg S (cutV vs lo hi) (cutG ds lo hi) := by
  unfold cutV cutG
  rw [Rps.length r]
  exact Rps.take _ (Rps.drop _ r)
def cutD (d : D) (lo hi : Option Int) : Option R := match d with
  | .lst xs => some (.ow (cutG xs lo hi))
  | .tup xs => some (.va (.tup (if HT.sIx xs.length 0 lo = 0 ∧ HT.sIx xs.length xs.length hi = xs.length then xs else cutG xs lo hi)))
  | .str z => if okN z.length = true then some (.va (.str (cutS z lo hi))) else none
  | _ => none
def rSlU (K : PySem.W.Frag) : V → Option Int → Option Int → Hp → VK → Prop := fun x lo hi H Q => (rSlL K x lo hi H Q ∨ rSlX K x lo hi H Q) ∨ rSlS x lo hi H Q
theorem sl_all : SlR X (rSlU X.K) := (sl_list.or sl_tupX).or sl_str
def evSlice (fa : M R) (fl fh : M (Option Int)) : M R := M.bnd (frzM fa) fun r => M.bnd fl fun lo => M.bnd fh fun hi ρ => match rdD ρ r with
  | some d => M.lift (cutD d lo hi) ρ
  | none => none
theorem pe_sl' {lo hi : Option Expr} {fl fh : M (Option Int)} (o : OKx b L X) (ha : PE X e1 (rE b W fa)) (hl : PO X lo (rO b W fl)) (hh : PO X hi (rO b W fh)) : PE X (.Subscript e1 (.Slice lo hi none p2) pos) (rE b W (evSlice fa fl fh)) := by
  refine PE.weak (pe_slice sl_all ha hl hh) fun σ H Q ⟨b', S, ρ, eb, G, w⟩ => ⟨b', S, ρ, eb, G, ?_⟩
  refine Wp.frz (K := fun x H1 => rO b W fl σ H1 fun l H2 => rO b W fh σ H2 fun u H3 => rSlU X.K x l u H3 Q) w fun S1 H1 ρ1 r x s1 G1 f1 w1 => ⟨b', S1, ρ1, eb, G1, Wp.mono (Wp.bind w1) fun S2 H2 ρ2 l s2 G2 w2 => ⟨b', S2, ρ2, eb, G2, Wp.mono (Wp.bind w2) fun S3 H3 ρ3 u s3 G3 w3 => ?_⟩⟩
  cases h1 : rdD ρ3 r with
  | none => exact wp_none (by simp only [h1]) w3
  | some d =>
    cases h2 : cutD d l u with
    | none => exact wp_none (by simp only [h1, h2, M.lift]) w3
    | some z =>
      have q : ∀ S' H', Hsub S3 S' → Good b' σ S' H' ρ3 → ∀ v, RR b' σ S' H' ρ3 v z → Q v H' := fun S' H' s' G' => wp_ok (a := z) (by simp only [h1, h2, M.lift]) w3 s' G'
      have rv := (f1.mono (s2.trans s3)).rv G3 h1
      rw [o.K, ← eb.1]
      cases d with
      | lst xs =>
        cases h2
        obtain ⟨a, vs, rfl, p, r1⟩ := rv
        exact Or.inl (Or.inl ⟨a, vs, rfl, SqL.of p, fun p' hp => q _ _ (Hsub.refl _) (G3.newH hp) _ (RR.new G3 hp (Rps.cut r1 l u))⟩)
      | tup xs =>
        cases h2
        obtain ⟨a, vs, rfl, p, r1⟩ := rv
        have hl := Rps.length r1
        refine Or.inl (Or.inr ⟨a, vs, rfl, sqt_mono G3.sub p.1, fun hw => ?_, fun hw p' ob hp ho => ?_⟩)
        · rw [hl] at hw
          rw [if_pos hw] at q
          exact q _ _ (Hsub.refl _) G3 _ (.tup p r1)
        · rw [hl] at hw
          rw [if_neg hw] at q
          exact q _ _ (Hsub.new (G3.sn hp)) (G3.new hp) _ (RR.newT G3 hp ho (Rps.cut r1 l u))
      | str z =>
        unfold cutD at h2
        simp only at h2
        split at h2
        · rename_i hz
          cases h2
          cases rv
          exact Or.inr ⟨z, rfl, okN_sz hz, q _ _ (Hsub.refl _) G3 _ (Rp.str _)⟩
        · cases h2
      | _ => cases h2
end
end Mc
end
section
set_option Elab.async false
set_option linter.all false
set_option maxRecDepth 100000
set_option maxHeartbeats 4000000
set_option autoImplicit false
namespace Mc
open PySem PySem.Spec L2

/-! ### isinstance -/
inductive Kd where
  | non | bl | int | str | tup | lst | ob (c : Str)
deriving DecidableEq
def D.kd : D → Option Kd
  | .non => some .non
  | .bl _ => some .bl
  | .int _ => some .int
  | .str _ => some .str
  | .tup _ => some .tup
  | .lst _ => some .lst
  | .ob c _ => some (.ob c)
  | _ => none
def Kd.nm : Kd → String
  | .non => "NoneType"
  | .bl => "bool"
  | .int => "int"
  | .str => "str"
  | .tup => "tuple"
  | .lst => "list"
  | .ob _ => ""
def isiA (cs : List Str) : Kd → Kd → Option Bool
  | .ob c0, .ob c => if c0 ∈ cs ∧ c ∈ cs then some (decide (c = c0)) else none
  | .ob c0, _ => if c0 ∈ cs then some false else none
  | _, .ob c => if c ∈ cs then some false else none
  | .int, .bl => some true
  | k0, k => some (decide (k = k0))
def KdV (mg : Str → Option Value) (k : Kd) (u : Value) : Prop := match k with
  | .ob c => ∃ C, mg c = some (.ref C) ∧ u = .ref C
  | .non => False
  | k => u = .type k.nm
def bts : List Kd := [.bl, .int, .str, .tup, .lst]
def bts' : List Kd := [.non, .bl, .int, .str, .tup, .lst]
structure Kits (K : PySem.W.Frag) (mg : Str → Option Value) (cs : List Str) : Prop where
  own : ∀ c ∈ cs, ∃ C, mg c = some (.ref C) ∧ C8.InsC K C
  oo : ∀ c ∈ cs, ∀ c' ∈ cs, ∀ C C', mg c = some (.ref C) → mg c' = some (.ref C') → PySem.W.kitOne K (.ref C) (.ref C') = some (decide (c = c'))
  ob : ∀ c ∈ cs, ∀ C, mg c = some (.ref C) → ∀ k ∈ bts, PySem.W.kitOne K (.ref C) (.type k.nm) = some false
  bo : ∀ c ∈ cs, ∀ C, mg c = some (.ref C) → ∀ k ∈ bts', PySem.W.kitOne K (.type k.nm) (.ref C) = some false
/-- the type's value -/
def KdT (mg : Str → Option Value) (k : Kd) (t : Value) : Prop := match k with
  | .ob c => ∃ C, mg c = some (.ref C) ∧ t = .ref C
  | k => t = .type k.nm
theorem kit_bb : ∀ k ∈ bts', ∀ k0 ∈ bts, kitB k.nm k0.nm = isiA [] k0 k := by decide +kernel
theorem isiA_ok {K : PySem.W.Frag} {mg : Str → Option Value} {cs : List Str} (kt : Kits K mg cs) {k0 k : Kd} {b : Bool} {u t : Value} (hu : KdV mg k0 u) (ht : KdT mg k t) (h : isiA cs k0 k = some b) : PySem.W.kitOne K t u = some b := by
  cases k0 with
  | non => exact hu.elim
  | ob c0 =>
    obtain ⟨C0, h0, rfl⟩ := hu
    cases k with
    | ob c =>
      obtain ⟨C, h1, rfl⟩ := ht
      unfold isiA at h
      simp only at h
      split at h
      · rename_i hc
        cases h
        exact kt.oo c hc.2 c0 hc.1 C C0 h1 h0
      · cases h
    | non => cases ht; simp only [isiA] at h; split at h <;> first | (rename_i hc; cases h; exact kt.bo c0 hc C0 h0 .non (by decide)) | cases h
    | bl => cases ht; simp only [isiA] at h; split at h <;> first | (rename_i hc; cases h; exact kt.bo c0 hc C0 h0 .bl (by decide)) | cases h
    | int => cases ht; simp only [isiA] at h; split at h <;> first | (rename_i hc; cases h; exact kt.bo c0 hc C0 h0 .int (by decide)) | cases h
    | str => cases ht; simp only [isiA] at h; split at h <;> first | (rename_i hc; cases h; exact kt.bo c0 hc C0 h0 .str (by decide)) | cases h
    | tup => cases ht; simp only [isiA] at h; split at h <;> first | (rename_i hc; cases h; exact kt.bo c0 hc C0 h0 .tup (by decide)) | cases h
    | lst => cases ht; simp only [isiA] at h; split at h <;> first | (rename_i hc; cases h; exact kt.bo c0 hc C0 h0 .lst (by decide)) | cases h
  | bl =>
    cases hu
    cases k with
    | ob c => obtain ⟨C, h1, rfl⟩ := ht; simp only [isiA] at h; split at h <;> first | (rename_i hc; cases h; exact kt.ob c hc C h1 .bl (by decide)) | cases h
    | _ => cases ht; exact kit_ty (by rw [kit_bb _ (by decide) .bl (by decide)]; exact h)
  | int =>
    cases hu
    cases k with
    | ob c => obtain ⟨C, h1, rfl⟩ := ht; simp only [isiA] at h; split at h <;> first | (rename_i hc; cases h; exact kt.ob c hc C h1 .int (by decide)) | cases h
    | _ => cases ht; exact kit_ty (by rw [kit_bb _ (by decide) .int (by decide)]; exact h)
  | str =>
    cases hu
    cases k with
    | ob c => obtain ⟨C, h1, rfl⟩ := ht; simp only [isiA] at h; split at h <;> first | (rename_i hc; cases h; exact kt.ob c hc C h1 .str (by decide)) | cases h
    | _ => cases ht; exact kit_ty (by rw [kit_bb _ (by decide) .str (by decide)]; exact h)
  | tup =>
    cases hu
    cases k with
    | ob c => obtain ⟨C, h1, rfl⟩ := ht; simp only [isiA] at h; split at h <;> first | (rename_i hc; cases h; exact kt.ob c hc C h1 .tup (by decide)) | cases h
    | _ => cases ht; exact kit_ty (by rw [kit_bb _ (by decide) .tup (by decide)]; exact h)
  | lst =>
    cases hu
    cases k with
    | ob c => obtain ⟨C, h1, rfl⟩ := ht; simp only [isiA] at h; split at h <;> first | (rename_i hc; cases h; exact kt.ob c hc C h1 .lst (by decide)) | cases h
    | _ => cases ht; exact kit_ty (by rw [kit_bb _ (by decide) .lst (by decide)]; exact h)
theorem isiA_own {cs : List Str} {k0 : Kd} {c : Str} {b : Bool} (h : isiA cs k0 (.ob c) = some b) : c ∈ cs := by
  cases k0 with
  | ob c0 => unfold isiA at h; simp only at h; split at h <;> first | (rename_i hc; exact hc.2) | cases h
  | _ => unfold isiA at h; simp only at h; split at h <;> first | assumption | cases h
theorem ty_of {b : Bs} {S H : Hp} {x : V} {d : D} {k : Kd} {cs : List Str} (kt : Kits b.K b.mg cs) (s : Hsub S H) (hx : RV b S H x d) (hk : d.kd = some k) (ho : ∀ c, k = .ob c → c ∈ cs) : ∃ t, KdT b.mg k t ∧ TyX b.K H x t := by
  cases d with
  | non => cases hk; cases hx; exact ⟨_, rfl, .base .non⟩
  | bl c => cases hk; cases hx; exact ⟨_, rfl, .base (.bl c)⟩
  | int c => cases hk; cases hx; exact ⟨_, rfl, .base (.int c)⟩
  | str c => cases hk; cases hx; exact ⟨_, rfl, .base (.str c)⟩
  | lst ds => cases hk; obtain ⟨a, vs, rfl, p, q⟩ := hx; exact ⟨_, rfl, .base (.lst p)⟩
  | tup ds =>
    cases hk
    obtain ⟨a, vs, rfl, p, q⟩ := hx
    rcases (sqt_mono s p.1) with (h | ⟨o, h⟩) | ⟨o, its, n, h, hc, _⟩
    · exact ⟨_, rfl, .base (.tup h)⟩
    · exact ⟨_, rfl, .fTuple h⟩
    · exact ⟨_, rfl, .kTuple h hc⟩
  | ob c fs =>
    cases hk
    have hx' : Rp b.K b.mg S x (.ob c fs) := hx
    cases hx' with
    | ob h1 h2 h3 =>
      obtain ⟨C, h4, i⟩ := kt.own c (ho c rfl)
      rw [h2] at h4; cases h4
      exact ⟨_, ⟨_, h2, rfl⟩, .base (.ins (s _ _ h1) i.cl i.ha i.hn i.htk i.hm)⟩
  | dic k => cases hk
  | fn x => cases hk
theorem RV.of' {b : Bs} {S H : Hp} {x : V} {d : D} {p : Addr} {o : HO} (h : RV b S H x d) (hp : H p = none) : RV b S (upd H p o) x d := by
  cases d with
  | lst ds => obtain ⟨a, vs, rfl, p', q⟩ := h; exact ⟨a, vs, rfl, by rw [upd_ne (ne_of_none p' hp)]; exact p', q⟩
  | _ => exact h
def isiD (cs : List Str) (k0 : Kd) (d : D) : Option R := match d.kd with
  | some k => (isiA cs k0 k).map fun b => .va (.bl b)
  | none => none
def isiD2 (cs : List Str) (k0 k1 : Kd) (d : D) : Option R := match d.kd with
  | some k => (match isiA cs k0 k, isiA cs k1 k with
    | some a, some b => some (.va (.bl (a || b)))
    | _, _ => none)
  | none => none
section
variable {b : Bs} {W : WX} {L : Nat} {X : Cx} {p p2 pos tpos : Pos} {e1 e2 e3 : Expr} {fa : M R} {cs : List Str} {x : Str} {k0 k1 : Kd}
/-- a class, written -/
structure ClX (X : Cx) (e : Expr) (k : Kd) : Prop where
  ex : ∃ v u, PE X e (tC v) ∧ ClsV v u ∧ KdV X.mg k u
theorem clx_own {c : Str} {C : Addr} (hm : X.mg c = some (.ref C)) (hg : Gl X c := by rfl) (hd : (c == ("__debug__" : Str)) = false := by decide) : ClX X (.Name c p) (.ob c) := ⟨.ref C, .ref C, pe_glob hg hm rfl hd, .own C, C, hm, rfl⟩
theorem clx_bl (hm : X.mg "bool" = none) (hg : Gl X "bool" := by rfl) : ClX X (.Name "bool" p) .bl := ⟨.ty "bool", .type "bool", pe_bltn hg hm PyProof.Rows.boot_bool rfl, .ty _, rfl⟩
theorem clx_int (hm : X.mg "int" = none) (hg : Gl X "int" := by rfl) : ClX X (.Name "int" p) .int := ⟨.ty "int", .type "int", pe_bltn hg hm PyProof.Rows.boot_int rfl, .ty _, rfl⟩
theorem clx_str (hm : X.mg "str" = none) (hg : Gl X "str" := by rfl) : ClX X (.Name "str" p) .str := ⟨.ty "str", .type "str", pe_bltn hg hm PyProof.Rows.boot_str rfl, .ty _, rfl⟩
theorem clx_tup (hm : X.mg "tuple" = none) (hg : Gl X "tuple" := by rfl) : ClX X (.Name "tuple" p) .tup := ⟨.ty "tuple", .type "tuple", pe_bltn hg hm PyProof.Rows.boot_tuple rfl, .ty _, rfl⟩
theorem clx_lst (hm : X.mg "list" = none) (hg : Gl X "list" := by rfl) : ClX X (.Name "list" p) .lst := ⟨.ty "list", .type "list", pe_bltn hg hm PyProof.Rows.boot_list rfl, .ty _, rfl⟩
theorem pe_isi (o : OKx b L X) (kt : Kits X.K X.mg cs) (ha : PE X e1 (rE b W fa)) (hc : ClX X e2 k0) (hm : X.mg "isinstance" = none) (hg : Gl X "isinstance" := by rfl)
    (hs1 : starEach [e1, e2] X.env = (false, eval e1 X.env) :: starEach [e2] X.env := by rfl) (hs2 : starEach [e2] X.env = (false, eval e2 X.env) :: starEach [] X.env := by rfl) (hpl : (backTo pos (starEach [e2] X.env)).any (·.1) = false := by rfl) :
    PE X (.Call (.Name "isinstance" p) [e1, e2] [] pos) (rE b W (evUn (isiD cs k0) fa)) := by
  obtain ⟨v, u, pe, cv, kv⟩ := hc.ex
  refine PE.weak (pe_callB call_isi hg hm PyProof.Rows.boot_isinstance (pa_cons ha (pa_cons pe pa_nil hs2) hs1) (by decide) (by decide) hs1 hpl) fun σ H Q ⟨b', S, ρ, eb, G, w⟩ => ⟨b', S, ρ, eb, G, ?_⟩
  refine ev1_wp (r := fun x H1 Q => rIsi X.K [x, v] H1 Q) (fun σ S H ρ x d z G hx hz Q q => ?_) w
  unfold isiD at hz
  split at hz
  · rename_i k hk
    obtain ⟨c, h1, rfl⟩ := Option.map_eq_some_iff.mp hz
    have kt' : Kits b'.K b'.mg cs := by rw [eb.1, eb.2, ← o.K, ← o.mg]; exact kt
    obtain ⟨t, ht, ty⟩ := ty_of kt' G.sub hx hk (fun c e => by subst e; exact isiA_own h1)
    rw [o.K, ← eb.1]
    exact ⟨x, v, t, u, c, rfl, cv, ty, isiA_ok kt' (by rw [eb.2, ← o.mg]; exact kv) ht h1, q _ H S (Hsub.refl _) G (Rp.bl _)⟩
  · cases hz
theorem pe_isi2 {kk : Nat} (o : OKx b L X) (kt : Kits X.K X.mg cs) (ha : PE X e1 (rE b W fa)) (hc : ClX X e2 k0) (hc' : ClX X e3 k1) (hm : X.mg "isinstance" = none) (hg : Gl X "isinstance" := by rfl)
    (hs1 : starEach [e1, .Tuple [e2, e3] kk tpos] X.env = (false, eval e1 X.env) :: starEach [.Tuple [e2, e3] kk tpos] X.env := by rfl) (hs2 : starEach [.Tuple [e2, e3] kk tpos] X.env = (false, eval (.Tuple [e2, e3] kk tpos) X.env) :: starEach [] X.env := by rfl)
    (hs3 : starEach [e2, e3] X.env = (false, eval e2 X.env) :: starEach [e3] X.env := by rfl) (hs4 : starEach [e3] X.env = (false, eval e3 X.env) :: starEach [] X.env := by rfl) (hpl : (backTo pos (starEach [.Tuple [e2, e3] kk tpos] X.env)).any (·.1) = false := by rfl) :
    PE X (.Call (.Name "isinstance" p) [e1, .Tuple [e2, e3] kk tpos] [] pos) (rE b W (evUn (isiD2 cs k0 k1) fa)) := by
  obtain ⟨v, u, pe, cv, kv⟩ := hc.ex
  obtain ⟨v', u', pe', cv', kv'⟩ := hc'.ex
  refine PE.weak (pe_callB call_isiT hg hm PyProof.Rows.boot_isinstance (pa_cons ha (pa_cons (pe_tup (pa_cons pe (pa_cons pe' pa_nil hs4) hs3)) pa_nil hs2) hs1) (by decide) (by decide) hs1 hpl) fun σ H Q ⟨b', S, ρ, eb, G, w⟩ => ⟨b', S, ρ, eb, G, ?_⟩
  refine ev1_wp (r := fun x H1 Q => 2 ≤ sizeLine ∧ ∀ p, H1 p = none → rIsiT X.K [x, .ref p] (upd H1 p (.tup [v, v'])) Q) (fun σ S H ρ x d z G hx hz Q q => ⟨by decide, fun p hp => ?_⟩) w
  unfold isiD2 at hz
  split at hz
  · rename_i k hk
    split at hz
    · rename_i c c' h1 h2
      cases hz
      have kt' : Kits b'.K b'.mg cs := by rw [eb.1, eb.2, ← o.K, ← o.mg]; exact kt
      obtain ⟨t, ht, ty⟩ := ty_of kt' (fun x o e => by rw [upd_ne (ne_of_none (G.sub _ _ e) hp)]; exact G.sub _ _ e : Hsub S (upd H p (.tup [v, v']))) (RV.of' hx hp) hk (fun c e => by subst e; exact isiA_own h1)
      rw [o.K, ← eb.1]
      have e1 := isiA_ok kt' (by rw [eb.2, ← o.mg]; exact kv) ht h1
      have e2 := isiA_ok kt' (by rw [eb.2, ← o.mg]; exact kv') ht h2
      refine ⟨x, p, [v, v'], t, [u, u'], c || c', rfl, upd_same, .cons cv (.cons cv' .nil), ty, ?_, q _ _ S (Hsub.refl _) (G.newH hp) (Rp.bl _)⟩
      refine kitAny_cons e1 (fun z => ?_) (fun z => by rw [z]; rfl)
      rw [z]
      refine kitAny_cons e2 (fun z2 => ?_) (fun z2 => by rw [z2]; rfl)
      rw [z2]
      exact kitAny_nil
    · cases hz
  · cases hz
end
end Mc
end
section
set_option Elab.async false
set_option linter.all false
set_option maxRecDepth 100000
set_option maxHeartbeats 4000000
set_option autoImplicit false
namespace Mc
open PySem PySem.Spec L2

/-! ### sorted -/
abbrev EIs {α β : Type} (R : α → β → Prop) := @PySem.W.EachIs α β R
section
variable {prog : Program} {w : World} {A : Around} {E : Value → Shared → Prop} {s : Shared}
abbrev lstO (its : List Value) : Obj := { cls := .type "list", data := .seq its.toArray }
abbrev midH (h1 : Heap) (its : List Value) : Heap := PySem.W.sortingHeap (h1.push (lstO its)) h1.objs.size its
theorem mid_old {h1 : Heap} {its : List Value} {c : Addr} {o : Obj} (e : h1.get? c = some o) : (midH h1 its).get? c = some o := PySem.W.sortingHeap_old (Nat.ne_of_lt (Heap.lt_size e)) (Heap.get?_push_of_some _ e)
theorem sorted_seq {a : Addr} {T : String} {o : Obj} {its : List Value} {n : Nat} {Q : Value → Shared → Prop} (hT : T = "list" ∨ T = "tuple") (ho : s.heap.get? a = some o) (hc : o.cls = .type T) (hd : o.data = .seq its.toArray n) (hz : its.length ≤ sizeLine)
    {ps : List PyData} (er : EIs (fun v d => ∃ as, Reads s.heap v d as) its ps) (hal : PySem.W.AllAlike ps) (hk : PySem.W.Sortable ps) (hu : ∀ d ∈ ps, A.units + 2 + d.depth < cLine)
    (h : ∀ h1 : Heap, (∀ c o', s.heap.get? c = some o' → h1.get? c = some o') → ∀ h2 : Heap, (∀ c o', h1.get? c = some o' → h2.get? c = some o') →
      (∃ e, h2.get? h1.objs.size = some { cls := .type "list", data := .seq (PySem.W.sortVals (PySem.W.dataKind (midH h1 its) ps) false its its).toArray e }) → Q (.ref h1.objs.size) { s with heap := h2 }) :
    wpAny (model prog w) A (call (.builtin "sorted") [.ref a]) Q E s := by
  refine PyProof.Rows.call_function_entry_kw PyProof.Rows.kind_sorted PyProof.Rows.plain_sorted PyProof.Rows.entry_sorted (PyProof.Rows.args_sorted1 _) ?_
  unfold Builtin.«sorted»
  refine wpAny_bind (m := checkCount "sorted" 1 1 _) (wpAny_pure (wpAny_bind (wpAny_collect_seq a hT ho hc hd (fun h1 k1 => ?_) (by rw [List.size_toArray]; exact hz))))
  refine wpAny_bind (wpAny_newList ?_ hz)
  have at0 : (h1.push (lstO its)).get? h1.objs.size = some (lstO its) := Heap.get?_push_size _ rfl
  refine wpAny_bind (wpAny_holding (PyProof.Rows.wpAny_call_entry_kw PyProof.Rows.slot_list_sort ⟨_, at0, rfl⟩ PyProof.Rows.entry_list_sort ?body (PyProof.Rows.args_list_sort _)))
  case body =>
    have er2 : EIs (fun v d => ∃ as, Reads (midH h1 its) v d as) its ps := er.mono fun _ _ ⟨as, r⟩ => ⟨as, PyProof.Rows.Reads.keeps (fun c o e => mid_old (k1 c o e)) r⟩
    have S := PySem.W.SortsAt.data (prog := prog) (w := w) (A := A.in1.in1) (s := { s with heap := midH h1 its }) er2 hal hk (fun d hd => by have := hu d hd; show A.units + 1 + 1 + d.depth < cLine; omega)
    refine wpAny_mono (PySem.W.list_sort_vals (P := fun f s' => f = .done (.ret .none) ∧ Q (.ref h1.objs.size) s') (s := { s with heap := h1.push (lstO its) }) (A := A.in1.in1) (n := 0) at0 S hz ⟨rfl, ?_⟩) (fun f s' hf => ?_) fun _ _ e => e
    · refine h h1 k1 _ (fun c o e => ?_) (PyProof.Rows.sortedHeap_at (n := 0) at0)
      rw [PyProof.Rows.sortedHeap_old (Nat.ne_of_lt (Heap.lt_size e)) (by rw [Heap.size_push]; exact Nat.lt_succ_of_lt (Heap.lt_size e))]
      exact Heap.get?_push_of_some _ e
    · obtain ⟨rfl, hq⟩ := hf
      exact ⟨_, rfl, wpAny_pure ⟨_, rfl, hq⟩⟩
end
/-- the values with what they read as, sorted -/
abbrev pLe {α : Type} : α × PyData → α × PyData → Bool := fun p q => !PySem.W.dataLt q.2 p.2
def srt {α : Type} (xs : List α) (ps : List PyData) : List α := ((xs.zip ps).mergeSort pLe).map (·.1)
def srtOk (ps : List PyData) : Bool := (ps.all fun p => ps.all fun q => PySem.W.alike p q) && ((ps.all fun p => match p with | .tuple (_ :: _) => true | _ => false) || ps.all fun p => match p with | .none => false | .tuple _ => false | _ => true) && ps.all fun p => decide (p.depth ≤ 64)
theorem srtOk_of {ps : List PyData} (h : srtOk ps = true) : PySem.W.AllAlike ps ∧ PySem.W.Sortable ps ∧ ∀ p ∈ ps, p.depth ≤ 64 := by
  unfold srtOk at h
  obtain ⟨h, h3⟩ := Bool.and_eq_true_iff.mp h
  obtain ⟨h1, h2⟩ := Bool.and_eq_true_iff.mp h
  refine ⟨fun d hd d' hd' => List.all_eq_true.mp (List.all_eq_true.mp h1 d hd) d' hd', ?_, fun p hp => of_decide_eq_true (List.all_eq_true.mp h3 p hp)⟩
  rcases Bool.or_eq_true_iff.mp h2 with z | z
  · refine Or.inl fun d hd => ?_
    have q := List.all_eq_true.mp z d hd
    split at q
    · exact ⟨_, _, rfl⟩
    · cases q
  · refine Or.inr fun d hd => ?_
    have q := List.all_eq_true.mp z d hd
    split at q
    · cases q
    · cases q
    · rename_i n1 n2; exact ⟨n1, fun xs e => n2 xs e⟩
theorem srt_map {α β : Type} (f : α → β) (xs : List α) (ps : List PyData) : (srt xs ps).map f = srt (xs.map f) ps := by
  unfold srt
  have e : (xs.map f).zip ps = (xs.zip ps).map fun p => (f p.1, p.2) := by
    have z : (xs.map f).zip (ps.map id) = (xs.zip ps).map (Prod.map f id) := List.zip_map
    rw [List.map_id] at z
    rw [z]
    rfl
  rw [e, ← List.map_mergeSort (r := pLe) (s := pLe) (f := fun p : α × PyData => (f p.1, p.2)) (fun a _ b _ => rfl), List.map_map, List.map_map]
  rfl
theorem vals_each {vs : List V} {its : List Value} {ps : List PyData} (r : Vals vs its) (hl : ps.length = vs.length) : EIs (fun (v : Value) (p : V × PyData) => RelV p.1 v) its (vs.zip ps) := by
  induction r generalizing ps with
  | nil => exact .nil
  | cons h t ih =>
    cases ps with
    | nil => cases hl
    | cons p ps => exact .cons h (ih (by simpa using hl))
theorem each_vals {its : List Value} {bs : List (V × PyData)} (h : EIs (fun (v : Value) (p : V × PyData) => RelV p.1 v) its bs) : Vals (bs.map (·.1)) its := by
  induction h with
  | nil => exact .nil
  | cons h _ ih => exact .cons h ih
theorem reads_each {h : Heap} : ∀ {vs : List V} {its : List Value} {ps : List PyData} {as : List Addr}, ReadsAll h its ps as → vs.length = its.length → EIs (fun (v : Value) (p : V × PyData) => ∃ as, Reads h v p.2 as) its (vs.zip ps)
  | [], [], _, _, .nil, _ => .nil
  | v :: vs, _ :: _, _, _, .cons r rs, hl => .cons ⟨_, r⟩ (reads_each rs (by simpa using hl))
theorem reads_each' {h : Heap} : ∀ {its : List Value} {ps : List PyData} {as : List Addr}, ReadsAll h its ps as → EIs (fun v d => ∃ as, Reads h v d as) its ps
  | _, _, _, .nil => .nil
  | _, _, _, .cons r rs => .cons ⟨_, r⟩ (reads_each' rs)
def rSrt (K : PySem.W.Frag) : List V → Hp → VK → Prop := fun vs H Q => ∃ a xs ps, vs = [V.ref a] ∧ SqA K H a xs ∧ DpAll K H xs ps ∧ srtOk ps = true ∧ ∀ p, H p = none → Q (.ref p) (upd H p (.lst (srt xs ps)))
theorem srt_length {α : Type} (xs : List α) (ps : List PyData) (h : ps.length = xs.length) : (srt xs ps).length = xs.length := by
  unfold srt
  rw [List.length_map, List.length_mergeSort, List.length_zip, h, Nat.min_self]
section
variable {b : Bs} {L : Nat} {X : Cx}
theorem cr_srt (o : OKx b L X) : CallR X (.builtin "sorted") (rSrt X.K) := by
  intro pins s σ H vs us Q I r ⟨a, xs, ps, hv, hs, hd, ok, q⟩
  subst hv
  rw [Vals.ref1 r]
  obtain ⟨h1, h2, h3⟩ := srtOk_of ok
  have hu : ∀ d ∈ ps, X.A.units + 2 + d.depth < cLine := fun d hd => by have := o.un; have := h3 d hd; omega
  have key : ∀ {T : String} {ob : Obj} {its : List Value} {n : Nat}, (T = "list" ∨ T = "tuple") → s.heap.get? a = some ob → ob.cls = .type T → ob.data = .seq its.toArray n → Vals xs its → xs.length ≤ sizeLine → wpAny (model X.prog X.w) X.A (call (.builtin "sorted") [.ref a]) (EP X pins σ Q) X.xe s := by
    intro T ob its n hT ho hc hdt rv hz
    obtain ⟨as, hr⟩ := Dp.readsAll I ps xs its hd rv
    have hl := rv.length
    have hlp : ps.length = xs.length := by rw [ReadsAll.len' hr, hl]
    refine sorted_seq hT ho hc hdt (by omega) (reads_each' hr) h1 h2 hu fun hp1 k1 hp2 k2 ⟨e, he⟩ => ?_
    have er : EIs (fun (v : Value) (p : V × PyData) => ∃ as, Reads (midH hp1 its) v p.2 as) its (xs.zip ps) := (reads_each (vs := xs) hr hl).mono fun _ _ ⟨as, r⟩ => ⟨as, PyProof.Rows.Reads.keeps (fun c o e => mid_old (k1 c o e)) r⟩
    have em : (xs.zip ps).map (·.2) = ps := by rw [List.map_snd_zip]; omega
    have S := PySem.W.sortVals_data (h' := midH hp1 its) (R := fun (v : Value) (p : V × PyData) => RelV p.1 v) (enc := fun p : V × PyData => p.2) false (vals_each rv hlp) er (by rw [em]; exact h1)
    rw [em] at S
    have S2 : Vals (srt xs ps) (PySem.W.sortVals (PySem.W.dataKind (midH hp1 its) ps) false its its) := each_vals S
    have I1 : Inv X pins σ H { s with heap := hp1 } := I.kept (t' := s.toks) k1
    exact ⟨.ref hp1.objs.size, _, I1.laid (t' := s.toks) (o := .lst (srt xs ps)) k2 (Nat.le_refl _) ⟨by rw [srt_length xs ps hlp]; exact hz, _, e, S2, he⟩, rfl, q _ (I1.hok.fresh (Nat.le_refl _))⟩
  rcases hs with hs | hs
  · obtain ⟨its, rv, ⟨ob, n, ho, hc, _, hdt⟩, hz⟩ := I.list hs
    exact key (Or.inl rfl) ho hc hdt rv hz
  · obtain ⟨its, rv, ⟨ob, ho, hc, n, hdt⟩, hz⟩ := I.tuple hs
    exact key (Or.inr rfl) ho hc hdt rv hz
end
def srtD (ds : List D) : Option R := match sqDs ds with
  | some xs => (match D.pys xs with
    | some ps => if srtOk ps = true then some (.ow (srt xs ps)) else none
    | none => none)
  | none => none
theorem pys_length : ∀ {xs : List D} {ps : List PyData}, D.pys xs = some ps → ps.length = xs.length
  | [], _, h => by simp only [D.pys] at h; cases h; rfl
  | x :: xs, _, h => by
    simp only [D.pys] at h
    split at h
    · rename_i y ys h1 h2
      cases h
      simp only [List.length_cons, pys_length h2]
    · cases h
theorem Rps.srt {K : PySem.W.Frag} {mg : Str → Option Value} {S : Hp} {vs : List V} {ds : List D} {ps : List PyData} (r : Rps K mg S vs ds) : Rps K mg S (Mc.srt vs ps) (Mc.srt ds ps) := by
  have hl := Rps.length r
  have e1 : vs = (vs.zip ds).map (·.1) := by rw [List.map_fst_zip]; omega
  have e2 : ds = (vs.zip ds).map (·.2) := by rw [List.map_snd_zip]; omega
  have all : ∀ p ∈ vs.zip ds, Rp K mg S p.1 p.2 := by
    clear e1 e2 hl
    induction vs generalizing ds with
    | nil => intro p hp; simp at hp
    | cons v vs ih =>
      intro p hp
      cases r with
      | cons r1 r2 =>
        rw [List.zip_cons_cons] at hp
        rcases List.mem_cons.mp hp with rfl | hp
        · exact r1
        · exact ih r2 p hp
  have mem : ∀ p ∈ Mc.srt (vs.zip ds) ps, p ∈ vs.zip ds := by
    intro p hp
    unfold Mc.srt at hp
    obtain ⟨q, hq, rfl⟩ := List.mem_map.mp hp
    exact (List.of_mem_zip ((List.mem_mergeSort).mp hq)).1
  have fin : ∀ l : List (V × D), (∀ p ∈ l, Rp K mg S p.1 p.2) → Rps K mg S (l.map (·.1)) (l.map (·.2)) := by
    intro l
    induction l with
    | nil => intro _; exact .nil
    | cons p l ih => intro h; exact .cons (h p (by simp)) (ih fun q hq => h q (by simp [hq]))
  have z := fin _ fun p hp => all p (mem p hp)
  rw [srt_map, srt_map, ← e1, ← e2] at z
  exact z
theorem sem_srt {K : PySem.W.Frag} : SemB K srtD (rSrt K) := by
  intro b eb σ S H ρ xs ds z G h hg Q q
  subst eb
  unfold srtD at hg
  split at hg
  · rename_i ys hy
    obtain ⟨a, us, rfl, h1, r1⟩ := rv_sq G h hy
    split at hg
    · rename_i ps hp
      split at hg
      · rename_i ok
        cases hg
        exact ⟨a, us, ps, rfl, h1, Rps.dp _ _ _ (Rps.mono G.sub _ _ r1) hp, ok, fun p hp => q _ _ S (Hsub.refl _) (G.newH hp) (RR.new G hp (Rps.srt r1))⟩
      · cases hg
    · cases hg
  · cases hg
end Mc
end
section
set_option Elab.async false
set_option linter.all false
set_option maxRecDepth 100000
set_option maxHeartbeats 4000000
set_option autoImplicit false
namespace Mc
open PySem PySem.Spec L2

/-! ### own classes -/
abbrev CTab := List (Str × List Str)
def hasF (ct : CTab) (c f : Str) : Bool := match ct.lookup c with
  | some fl => fl.contains f
  | none => false
structure CTok (K : PySem.W.Frag) (mg : Str → Option Value) (ct : CTab) : Prop where
  ex : ∀ c f, hasF ct c f = true → ∃ C, mg c = some (.ref C) ∧ Cls K C ∧ NoAttr K C f
theorem Rpf.lookup {K : PySem.W.Frag} {mg : Str → Option Value} {S : Hp} {f : Str} {d : D} : ∀ {fs : List (Str × D)} {fv : List (Str × V)}, Rpf K mg S fv fs → fs.lookup f = some d → ∃ v, fv.lookup f = some v ∧ Rp K mg S v d
  | [], _, r, h => by simp at h
  | (g, e) :: fs, _, r, h => by
    cases r with
    | cons r1 r2 =>
      rw [List.lookup_cons] at h ⊢
      cases hg : (f == g) with
      | true => rw [hg] at h; cases h; exact ⟨_, rfl, r1⟩
      | false => rw [hg] at h; exact Rpf.lookup r2 h
def putD (f : Str) (d : D) : List (Str × D) → List (Str × D)
  | [] => [(f, d)]
  | (g, e) :: r => if g = f then (g, d) :: r else (g, e) :: putD f d r
theorem Rpf.put {K : PySem.W.Frag} {mg : Str → Option Value} {S : Hp} {f : Str} {v : V} {d : D} (h : Rp K mg S v d) : ∀ {fs : List (Str × D)} {fv : List (Str × V)}, Rpf K mg S fv fs → Rpf K mg S (putF f v fv) (putD f d fs)
  | [], _, r => by cases r; exact .cons h .nil
  | (g, e) :: fs, _, r => by
    cases r with
    | cons r1 r2 =>
      unfold putD putF
      by_cases hg : g = f
      · rw [if_pos hg, if_pos hg]; exact .cons h r2
      · rw [if_neg hg, if_neg hg]; exact .cons r1 (Rpf.put h r2)
theorem Rpf.length {K : PySem.W.Frag} {mg : Str → Option Value} {S : Hp} : ∀ {fs : List (Str × D)} {fv : List (Str × V)}, Rpf K mg S fv fs → fv.length = fs.length
  | [], _, r => by cases r; rfl
  | _ :: fs, _, r => by cases r with | cons r1 r2 => simp only [List.length_cons, Rpf.length r2]
def fldD (ct : CTab) (f c : Str) (fs : List (Str × D)) : Option R := if hasF ct c f = true then (fs.lookup f).map .va else none
def evFld (ct : CTab) (f : Str) (fa : M R) : M R := M.bnd (frzM fa) fun r ρ => match r with
  | .va (.ob c fs) => M.lift (fldD ct f c fs) ρ
  | .sl i => (match ρ[i]? with
    | some (.pn (.ob c fs)) => M.lift (fldD ct f c fs) ρ
    | _ => none)
  | _ => none
section
variable {b : Bs} {W : WX} {L k n : Nat} {X : Cx} {p p1 p2 pos pos' : Pos} {e1 e2 : Expr} {es : List Expr} {fa fb : M R} {fs : M (List R)} {ct : CTab} {f x c : Str}
theorem fldD_some {f c : Str} {fs : List (Str × D)} {z : R} (h : fldD ct f c fs = some z) : hasF ct c f = true ∧ ∃ d, fs.lookup f = some d ∧ z = .va d := by
  unfold fldD at h
  split at h
  · rename_i hf
    obtain ⟨d, hd, rfl⟩ := Option.map_eq_some_iff.mp h
    exact ⟨hf, d, hd, rfl⟩
  · cases h
theorem pe_fldM (o : OKx b L X) (ok : CTok X.K X.mg ct) (ha : PE X e1 (rE b W fa)) (hb : attributeBase e1 f X.env (eval e1 X.env) = eval e1 X.env := by rfl) : PE X (.Attribute e1 f pos) (rE b W (evFld ct f fa)) := by
  refine PE.weak (pe_fld ha hb) fun σ H Q ⟨b', S, ρ, eb, G, w⟩ => ⟨b', S, ρ, eb, G, ?_⟩
  refine Wp.frz (K := fun x H1 => ∃ a C dx fs v, x = .ref a ∧ H1 a = some (.ins C dx fs) ∧ Cls X.K C ∧ NoAttr X.K C f ∧ fs.lookup f = some v ∧ Q v H1) w fun S1 H1 ρ1 r v s1 G1 f1 w1 => ?_
  have em : X.mg = b'.mg := by rw [o.mg, eb.2]
  cases r with
  | ow ds => exact wp_none rfl w1
  | va d =>
    cases d with
    | ob c fs =>
      cases hz : fldD ct f c fs with
      | none => exact wp_none (by simp only [hz, M.lift]) w1
      | some z =>
        obtain ⟨hf, d, hd, rfl⟩ := fldD_some hz
        obtain ⟨C, h1, h2, h3⟩ := ok.ex c f hf
        have f1' : Rp b'.K b'.mg S1 v (.ob c fs) := f1
        cases f1' with
        | ob q1 q2 q3 =>
          rw [← em, h1] at q2
          cases q2
          obtain ⟨u, hu, ru⟩ := Rpf.lookup q3 hd
          exact ⟨_, _, _, _, u, rfl, G1.sub _ _ q1, h2, h3, hu, wp_ok (a := R.va d) (by simp only [hz, M.lift]) w1 (Hsub.refl _) G1 u ru⟩
    | _ => exact wp_none rfl w1
  | sl i =>
    cases hi : ρ1[i]? with
    | none => exact wp_none (by simp only [hi]) w1
    | some s =>
      cases s with
      | pn m =>
        cases m with
        | pen _ => exact wp_none (by simp only [hi]) w1
        | ob c fs =>
          cases hz : fldD ct f c fs with
          | none => exact wp_none (by simp only [hi, hz, M.lift]) w1
          | some z =>
            obtain ⟨hf, d, hd, rfl⟩ := fldD_some hz
            obtain ⟨C, h1, h2, h3⟩ := ok.ex c f hf
            obtain ⟨a, dx, e1, ⟨_, C', fv, q1, q2, q3⟩, _⟩ := G1.sl i _ hi
            have hv : σ[i]? = some (some v) := f1
            have e2 := hv.symm.trans e1
            cases e2
            rw [← em, h1] at q2
            cases q2
            obtain ⟨u, hu, ru⟩ := Rpf.lookup q3 hd
            exact ⟨a, _, _, _, u, rfl, q1, h2, h3, hu, wp_ok (a := R.va d) (by simp only [hi, hz, M.lift]) w1 (Hsub.refl _) G1 u ru⟩
      | _ => exact wp_none (by simp only [hi]) w1

/-! ### self.f = e -/
def evSelf (ct : CTab) (i : Nat) (f : Str) (fa : M R) : M Fl := M.bnd (frzM fa) fun r => M.bnd (frzS r) fun d ρ => match ρ[i]? with
  | some (.pn (.ob c fs)) => if (hasF ct c f && decide (fs.length < 1000)) = true then some (.ok .nx (ρ.set i (.pn (.ob c (putD f d fs))))) else none
  | _ => none
theorem s_self (i : Nat) (o : OKx b L X) (ok : CTok X.K X.mg ct) (ha : PE X e1 (rE b W fa)) (hN : X.N[i]? = some x := by rfl) (hv : Vis X.env.scope x := by first | exact Or.inl rfl | exact Or.inr (Or.inl rfl) | exact Or.inr (Or.inr rfl)) (hd : (x == ("__debug__" : Str)) = false := by decide)
    (hcd : (x == ("__classdict__" : Str)) = false := by decide) (hs : swapsWith e1 (some (.Attribute (.Name x p1) f pos')) pos.line X.env = pure false := by rfl) : PS X (.Assign [.Attribute (.Name x p1) f pos'] e1 pos) (rS b W (evSelf ct i f fa)) := by
  refine PS.weak (ps_fld (pe_var hN hv hd hcd) ha hs) fun D σ H ⟨b', S, ρ, eb, G, w⟩ => ⟨b', S, ρ, eb, G, ?_⟩
  have em : X.mg = b'.mg := by rw [o.mg, eb.2]
  refine Wp.frz0 (K := fun y H1 => tVar i σ H1 fun x H2 => ∃ a C dx fs, x = .ref a ∧ H2 a = some (.ins C dx fs) ∧ Cls X.K C ∧ NoAttr X.K C f ∧ fs.length < 1000 ∧ D.nx σ (upd H2 a (.ins C dx (putF f y fs)))) (WpS.bind (σ := σ) (H := H) (f := frzM fa) w) fun S1 H1 ρ1 r v s1 G1 f1 w1 => ?_
  obtain ⟨S2, ρ2, d, s2, G2, r2, w2⟩ := Wp.frzS G1 f1 (WpS.bind (σ := σ) (H := H1) w1)
  cases hi : ρ2[i]? with
  | none => exact wps_none (by simp only [hi]) w2
  | some s =>
    cases s with
    | pn m =>
      cases m with
      | pen _ => exact wps_none (by simp only [hi]) w2
      | ob c fs =>
        cases hc : (hasF ct c f && decide (fs.length < 1000)) with
        | false => exact wps_none (by simp only [hi, hc]; rfl) w2
        | true =>
          simp only [hi, hc, if_true] at w2
          obtain ⟨hf, hl⟩ := Bool.and_eq_true_iff.mp hc
          obtain ⟨C, h1, h2, h3⟩ := ok.ex c f hf
          obtain ⟨a, dx, e1, ⟨q0, C', fv, q1, q2, q3⟩, e5⟩ := G2.sl i _ hi
          rw [← em, h1] at q2
          cases q2
          have na : ∀ {x : Addr} {o : HO}, S2 x = some o → x ≠ a := fun {x o} q z => by subst z; rw [q0] at q; cases q
          refine ⟨.ref a, e1, a, C, dx, fv, rfl, q1, h2, h3, by rw [Rpf.length q3]; exact of_decide_eq_true hl, ?_⟩
          refine w2 σ S2 _ (Hsub.refl _) (G2.step hi e1 (Hsub.refl _) (fun x o q => by rw [upd_ne (na q)]; exact G2.sub _ _ q) (fun x o q n => by rw [upd_ne n]; exact q) (fun j d w => (G2.ownat w).2) G2.n0 (fun x q => ?_) e5 (p' := .ob c (putD f d fs)) ⟨q0, C, _, upd_same, by rw [← em]; exact h1, Rpf.put r2 q3⟩)
          by_cases h : x = a
          · subst h; rw [upd_same] at q; cases q
          · rw [upd_ne h] at q; exact q
    | _ => exact wps_none (by simp only [hi]) w2

/-! ### C(..) -/
def mkK (c : Str) (F : Mo → List D → Option (DRes × Mo)) (rs : List R) : M R := fun ρ => match frzSs rs ρ with
  | some (.ok ds ρ1) => (match F (.ob c []) ds with
    | some (.va .non, .ob c' fs) => if c' = c then some (.ok (.va (.ob c fs)) ρ1) else none
    | some (.er x, _) => some (.er x ρ1)
    | _ => none)
  | _ => none
def evMake (c : Str) (F : Mo → List D → Option (DRes × Mo)) (fs : M (List R)) : M R := M.bnd fs fun rs => mkK c F rs
theorem run_mk {CX : CXT} {C f : Addr} {fd : FuncData} {ps : List Str} {sp : Sp} {E : L2.St → XK} {pins : List (Addr × Obj)} {σ : L2.St} {H : Hp} {s : Shared} {Q : VK} {us : List Value} {vs : List V} (Mk' : Mk X.K C f) (F : FnOk X.prog X.w X.K X.mg X.base CX k f fd ps sp) (hr : Room (k + 1) X.A) (hb : Binds X.K fd ps [])
    (hx : PassesAt CX X σ (E σ)) (I : Inv X pins σ H s) (r : Vals vs us) (h : ∀ x dx, H x = none → H dx = none → dx ≠ x → sp (.ref x :: vs) (upd (upd H dx (.own x)) x (.ins C dx [])) (fun v H2 => v = .non ∧ Q (.ref x) H2) (E σ)) :
    wpAny (model X.prog X.w) X.A (call (.ref C) us) (EP X pins σ Q) X.xe s := by
  have sz := s.heap.objs.size
  have hq := h (s.heap.objs.size + 1) s.heap.objs.size (I.hok.fresh (Nat.le_succ _)) (I.hok.fresh (Nat.le_refl _)) (Nat.ne_of_lt (Nat.lt_succ_self _))
  have J := Inv.made (C := C) I
  have r2 : Vals (V.ref (s.heap.objs.size + 1) :: vs) (Value.ref (s.heap.objs.size + 1) :: us) := .cons rfl r
  have hl : (Value.ref (s.heap.objs.size + 1) :: us).length = ps.length := by rw [← r2.length]; exact F.len _ _ _ _ hq
  have hbi := hb _ (Value.ref (s.heap.objs.size + 1) :: us) J.kIn (by rw [List.append_nil]; exact hl)
  rw [List.append_nil] at hbi
  refine wpAny_call (make_map (f := f) I.kIn Mk'.makes Mk'.init (beq_iff_eq.mp Mk'.fn) (codeAny_mono (F.run _ X.stack _ _ ⟨Value.ref (s.heap.objs.size + 1) :: us, []⟩ _ _ _ (E σ) (hr.make C us []) (J.env0.make C us []) hbi r2 hq) fun r s' hq' => ?_))
  cases r with
  | error e => exact hx pins _ _ e s' J hq'
  | ok fl =>
    cases fl with
    | ret u =>
      obtain ⟨v, H', I3, rv, ev, q3⟩ := J.after hq'
      subst ev
      exact ⟨rv, ⟨V.ref (s.heap.objs.size + 1), H', I3, rfl, q3⟩⟩
    | next => exact False.elim hq'
    | brk => exact False.elim hq'
    | cont => exact False.elim hq'
def tMk (C : Addr) (sp : Sp) (E : L2.St → XK) (t : TA) : TE := fun σ H Q => t σ H fun vs H1 => ∀ x dx, H1 x = none → H1 dx = none → dx ≠ x → sp (.ref x :: vs) (upd (upd H1 dx (.own x)) x (.ins C dx [])) (fun v H2 => v = .non ∧ Q (.ref x) H2) (E σ)
theorem pe_mkS {CX : CXT} {C f : Addr} {fd : FuncData} {ps : List Str} {sp : Sp} {E : L2.St → XK} {t : TA} (Mk' : Mk X.K C f) (F : FnOk X.prog X.w X.K X.mg X.base CX k f fd ps sp) (hr : Room (k + 1) X.A) (hg : Gl X x) (hm : X.mg x = some (.ref C)) (hb : Binds X.K fd ps []) (hx : ∀ σ, PassesAt CX X σ (E σ))
    (ha : PA X (e1 :: es) t) (hdb : (x == ("__debug__" : Str)) = false := by decide) (he : starEach (e1 :: es) X.env = (false, eval e1 X.env) :: starEach es X.env := by rfl) (hpl : (backTo pos (starEach es X.env)).any (·.1) = false := by rfl) :
    PE X (.Call (.Name x p) (e1 :: es) [] pos) (tMk C sp E t) := by
  refine ⟨fun pins s σ H Q I h => wpAny_Call_Name_kw (ld_glob I hg hm ?_ hdb)⟩
  exact PySem.W.callWith_K (h₀ := X.base) I.ok.mod.kin Mk'.kp (thn (ha.run pos pins s σ H _ I h) fun us s1 ⟨vs, H1, I1, r, q⟩ => ⟨I1.kIn, run_mk Mk' F hr hb (hx σ) I1 r q⟩) he hpl
/-- a class and its __init__ -/
structure DnC (P : Program) (w : World) (K : PySem.W.Frag) (mg : Str → Option Value) (base : Heap) (c : Str) (k n : Nat) (F : Mo → List D → Option (DRes × Mo)) : Prop where
  ex : ∃ C f fd ps, mg c = some (.ref C) ∧ Mk K C f ∧ Binds K fd ps [] ∧ FnOk P w K mg base (L2.CX P w) k f fd ps (spN K mg n F)
theorem mk_wp {n : Nat} {F : Mo → List D → Option (DRes × Mo)} {rs : List R} {vs : List V} {Q : VK} {σ : L2.St} {S H : Hp} {ρ : ES} {C x dx : Addr} (hm : b.mg c = some (.ref C)) (hn : rs.length = n) (G : Good b σ S H ρ) (h : RFs b σ S vs rs) (hx : H x = none) (hdx : H dx = none) (hne : dx ≠ x)
    (w : Wp b W σ (mkK c F rs) S H ρ fun S' H' ρ' r => ∀ v, RR b σ S' H' ρ' v r → Q v H') : spN b.K b.mg n F (.ref x :: vs) (upd (upd H dx (.own x)) x (.ins C dx [])) (fun v H2 => v = .non ∧ Q (.ref x) H2) (WE W σ) := by
  have hl : vs.length = n := by
    rw [← hn]
    clear hn w
    induction h with
    | nil => rfl
    | cons _ _ ih => simp only [List.length_cons, ih]
  refine ⟨by rw [List.length_cons, hl], ?_⟩
  unfold Wp WpO mkK at w
  cases e : frzSs rs ρ with
  | none => rw [e] at w; exact w.elim
  | some z =>
    rw [e] at w
    cases z with
    | er x ρ' => exact w.elim
    | ok ds ρ1 =>
      have wy : Wp b WF σ (frzSs rs) S H ρ fun _ _ ρ' d => ρ' = ρ1 ∧ d = ds := by
        unfold Wp WpO
        rw [e]
        exact fun _ _ _ _ => ⟨rfl, rfl⟩
      obtain ⟨S1, ρ', ds', s1, G1, r1, q1, q2⟩ := Wp.frzSs G h wy
      subst q1 q2
      simp only at w
      have up : ∀ {a : Addr} {o : HO}, H a = some o → upd (upd H dx (.own x)) x (.ins C dx []) a = some o := fun {a o} e => by rw [upd_ne (ne_of_none e hx), upd_ne (ne_of_none e hdx)]; exact e
      have hS1 : S1 x = none := G1.sn hx
      refine ⟨S1, x, dx, .ob c [], vs, ds', rfl, fun a o e => up (G1.sub _ _ e), ⟨hS1, C, [], upd_same, hm, .nil⟩, r1, ?_⟩
      have post : ∀ {S' H' S''}, Post (fun y => y = x) S1 (upd (upd H dx (.own x)) x (.ins C dx [])) S' H' → Hsub S' S'' → Hsub S'' H' → (∀ a, S'' a ≠ none → a = x ∨ S' a ≠ none) → Post (fun _ => False) S1 H S'' H' := fun {S' H' S''} po u1 u2 u3 =>
        ⟨po.s.trans u1, u2, fun a o e _ => po.keep a o (up e) (ne_of_none e hx), (fun a e => by
          rcases u3 a e with z | z
          · subst z; exact Or.inr hx
          · rcases po.new a z with y | y
            · exact Or.inl y
            · cases q : H a with
              | none => exact Or.inr rfl
              | some o => rw [up q] at y; cases y), fun a e => by
          cases q : H a with
          | none => rfl
          | some o =>
            have := po.there a e
            rw [up q] at this; cases this⟩
      cases hF : F (.ob c []) ds' with
      | none => rw [hF] at w; exact w.elim
      | some rp =>
        obtain ⟨r, m'⟩ := rp
        rw [hF] at w
        cases r with
        | er ex => exact fun S' H' cls d po pn hx' => w S' H' cls d (s1.trans po.s) (G1.post (post po (Hsub.refl _) po.sub fun a e => Or.inr e)) hx'
        | ow es => cases m' <;> exact w.elim
        | va d =>
          cases d with
          | non =>
            cases m' with
            | pen _ => exact w.elim
            | ob c' fs =>
              simp only at w
              by_cases hc : c' = c
              · rw [if_pos hc] at w
                intro S' H' v po ⟨q0, C', fv, q1, q2, q3⟩ hv
                cases hv
                refine ⟨rfl, ?_⟩
                have G2 := G1.post (post (S'' := upd S' x (.ins C' dx fv)) po (Hsub.new q0) (fun a o e => by
                  by_cases z : a = x
                  · subst z; rw [upd_same] at e; cases e; exact q1
                  · rw [upd_ne z] at e; exact po.sub _ _ e) (fun a e => by
                  by_cases z : a = x
                  · exact Or.inl z
                  · rw [upd_ne z] at e; exact Or.inr e))
                exact w _ H' (s1.trans (po.s.trans (Hsub.new q0))) G2 _ (.ob upd_same (by rw [← hc]; exact q2) (Rpf.mono (Hsub.new q0) _ _ q3))
              · rw [if_neg hc] at w; exact w.elim
          | _ => cases m' <;> exact w.elim
theorem pe_mk {F : Mo → List D → Option (DRes × Mo)} (d : DnC X.prog X.w X.K X.mg X.base c k n F) (o : OKx b L X) (tk : Takes X W) (ha : PA X (e1 :: es) (rAr b W fs)) (hk : k + 1 ≤ L := by decide) (hg : Gl X c := by rfl) (hdb : (c == ("__debug__" : Str)) = false := by decide)
    (he : starEach (e1 :: es) X.env = (false, eval e1 X.env) :: starEach es X.env := by rfl) (hpl : (backTo pos (starEach es X.env)).any (·.1) = false := by rfl) : PE X (.Call (.Name c p) (e1 :: es) [] pos) (rE b W (evMake c F (evN n fs))) := by
  obtain ⟨C, f, fd, ps, hm, M', hb, Fk⟩ := d.ex
  refine PE.weak (pe_mkS (E := WE W) M' Fk (o.rm.mono hk) hg hm hb (fun σ => passAt tk σ) ha hdb he hpl) fun σ H Q ⟨b', S, ρ, eb, G, w⟩ => ⟨b', S, ρ, eb, G, ?_⟩
  refine Wp.mono (Wp.bind (f := fs) (Wp.bind w)) fun S1 H1 ρ1 rs s1 G1 q vs hvs x dx hx hdx hne => ?_
  have h2 : rs.length = n := by
    by_cases h : rs.length = n
    · exact h
    · exact wp_none (if_neg h) q
  have q2 := wp_ok (a := rs) (if_pos h2) q (Hsub.refl _) G1
  have := mk_wp (C := C) (by rw [eb.2, ← o.mg]; exact hm) h2 G1 hvs hx hdx hne q2
  rw [o.K, o.mg, ← eb.1, ← eb.2]
  exact this
end
end Mc
end
section
set_option Elab.async false
set_option linter.all false
set_option maxRecDepth 100000
set_option maxHeartbeats 4000000
set_option autoImplicit false
namespace Mc
open PySem PySem.Spec L2

/-! ### ==, != of own instances -/
abbrev OTab := List (Str × (List D → Option DRes))
structure OpT (P : Program) (w : World) (K : PySem.W.Frag) (mg : Str → Option Value) (base : Heap) (nm : Str) (k : Nat) (T : OTab) : Prop where
  ex : ∀ c F, T.lookup c = some F → ∃ C f fd ps, mg c = some (.ref C) ∧ PySem.W.findIn K (.ref C) nm = some (some (.ref f)) ∧ PySem.W.isFn K (.ref f) = true ∧ Binds K fd ps [] ∧ FnOk P w K mg base (L2.CX P w) k f fd ps (spP K mg 2 F)
def rOwnX (X : Cx) (nm : Str) (k : Nat) : R2 := fun x y H Q => ∃ (C f : Addr) (fd : FuncData) (ps : List Str) (F : List D → Option DRes) (a dx : Addr) (fv : List (Str × V)) (t : Value), x = .ref a ∧ H a = some (.ins C dx fv) ∧ PySem.W.findIn X.K (.ref C) nm = some (some (.ref f)) ∧ PySem.W.isFn X.K (.ref f) = true ∧
  Binds X.K fd ps [] ∧ FnOk X.prog X.w X.K X.mg X.base (L2.CX X.prog X.w) k f fd ps (spP X.K X.mg 2 F) ∧ TyX X.K H y t ∧ PySem.W.notFirst X.K C t = true ∧ spP X.K X.mg 2 F [x, y] H Q E0
theorem looks_ty {X : Cx} {pins : List (Addr × Obj)} {σ : L2.St} {H : Hp} {s : Shared} {y : V} {v t : Value} {M : Model} (I : Inv X pins σ H s) (r : RelV y v) (ty : TyX X.K H y t) : PySem.W.Looks M s.heap (typeOf v) t := by
  have ofT : ∀ {a : Addr} {T : String}, s.TypeIs (.ref a) T → PySem.W.Looks M s.heap (typeOf (.ref a)) (.type T) := fun {a T} ⟨o, ho, hc⟩ A Q E s' k q => wpAny_typeOf ⟨o, k _ _ ho, hc⟩ q
  cases ty with
  | base b =>
    cases b with
    | non => cases r; exact fun A Q E s' k q => wpAny_pure q
    | bl x => cases r; exact fun A Q E s' k q => wpAny_pure q
    | int x => obtain ⟨t, rfl⟩ := r; exact fun A Q E s' k q => wpAny_pure q
    | str x => obtain ⟨t, rfl⟩ := r; exact fun A Q E s' k q => wpAny_pure q
    | flt x => obtain ⟨t, rfl⟩ := r; exact fun A Q E s' k q => wpAny_pure q
    | lst e =>
      obtain rfl : v = Value.ref _ := r
      obtain ⟨_, its, n, _, h1⟩ := I.hok _ _ e
      exact ofT ⟨_, h1, rfl⟩
    | frz e =>
      obtain rfl : v = Value.ref _ := r
      obtain ⟨_, _, its, n, _, h1⟩ := I.hok _ _ e
      exact ofT ⟨_, h1, rfl⟩
    | tup e =>
      obtain rfl : v = Value.ref _ := r
      obtain ⟨_, its, _, o, h1, h2, _⟩ := I.hok _ _ e
      exact ofT ⟨_, h1, h2⟩
    | dK e =>
      obtain rfl : v = Value.ref _ := r
      obtain ⟨_, _, vs, _, o, es, ep, h1, h2, _⟩ := I.hok _ _ e
      exact ofT ⟨_, h1, h2.1⟩
    | dT e =>
      obtain rfl : v = Value.ref _ := r
      obtain ⟨_, _, vs, _, o, es, ep, h1, h2, _⟩ := I.hok _ _ e
      exact ofT ⟨_, h1, h2.1⟩
    | ins e cl ha hn htk hm =>
      obtain rfl : v = Value.ref _ := r
      obtain ⟨mA, O, _⟩ := ins_get I.hok e
      obtain ⟨od, J, _⟩ := O.look
      exact J.type
  | byt b => obtain ⟨t, rfl⟩ := r; exact fun A Q E s' k q => wpAny_pure q
  | set e =>
    obtain rfl : v = Value.ref _ := r
    obtain ⟨o, _, _, _, h1, ex, _⟩ := I.hok _ _ e
    exact ofT ⟨o, h1, ex.1⟩
  | kList e c => obtain rfl : v = Value.ref _ := r; exact ofT ⟨_, I.kIn _ _ e, c⟩
  | kTuple e c => obtain rfl : v = Value.ref _ := r; exact ofT ⟨_, I.kIn _ _ e, c⟩
  | kDict e c => obtain rfl : v = Value.ref _ := r; exact ofT ⟨_, I.kIn _ _ e, c⟩
  | fTuple e =>
    obtain rfl : v = Value.ref _ := r
    obtain ⟨_, _, its, _, o, h1, h2, _⟩ := I.hok _ _ e
    exact ofT ⟨_, h1, h2⟩
  | fDict e =>
    obtain rfl : v = Value.ref _ := r
    obtain ⟨_, _, _, vs, _, o, es, ep, h1, h2, _⟩ := I.hok _ _ e
    exact ofT ⟨_, h1, h2.1⟩
theorem op_ownX {X : Cx} {op : CmpOp} {k : Nat} (hop : ∀ a b, compareOp op a b = richCompare op a b) (hr : Room k X.A) : OpR X (compareOp op) (rOwnX X (cmpInfo op).2.1 k) := by
  intro pins s σ H x y v u Q I rx ry ⟨C, f, fd, ps, F, a, dx, fv, t, ex, ha, hs, hf, hb, Fk, ty, hn, q⟩
  subst ex
  obtain rfl : v = Value.ref a := rx
  obtain ⟨mA, O, _⟩ := ins_get I.hok ha
  obtain ⟨od, J, _⟩ := O.look
  obtain ⟨m, hF⟩ := I.fr
  rw [hop]
  refine PySem.W.cmp_K (op := op) hr.units0 hF I.ok.mod.kin J (looks_ty I ry ty) hn hs hf ?_
  refine wpAny_mono (run_fn (dvs := []) (ds := []) (us := [.ref a, u]) (vs := [.ref a, y]) Fk hr hb .nil passL I (.cons rfl (.cons ry .nil)) q) (fun w' s' z => ?_) fun _ _ x => x
  obtain ⟨z', H', I', rz, qz⟩ := z
  exact SlX.cmpback rz ⟨z', H', I', rz, qz⟩
def okK (cs : List Str) : Kd → Bool
  | .ob c => cs.contains c
  | _ => true
def noer (m : M R) : M R := fun ρ => match m ρ with
  | some (.ok r ρ') => some (.ok r ρ')
  | _ => none
def evOwn (T : OTab) (cs : List Str) (g : D → D → Option R) (fa fb : M R) : M R := M.bnd (frzM fa) fun r1 => M.bnd (frzM fb) fun r2 ρ => match rdD ρ r1, rdD ρ r2 with
  | some (.ob c fs), some e => (match T.lookup c, e.kd with
    | some F, some k => if (okK cs k && cs.contains c) = true then noer (callK F [r1, r2]) ρ else none
    | _, _ => none)
  | some d, some e => M.lift (g d e) ρ
  | _, _ => none
section
variable {b : Bs} {W : WX} {L k : Nat} {X : Cx} {pos : Pos} {e1 e2 : Expr} {fa fb : M R} {T : OTab} {cs : List Str}
theorem kit_first {K : PySem.W.Frag} {mg : Str → Option Value} {C : Addr} {c : Str} {kd : Kd} {t : Value} (kt : Kits K mg cs) (hc : c ∈ cs) (hC : mg c = some (.ref C)) (ht : KdT mg kd t) (ok : okK cs kd = true) : PySem.W.notFirst K C t = true := by
  have sub : ∀ {t : Value}, PySem.W.kitOne K t (.ref C) = some false → PySem.W.subIn K t (.ref C) = some false := fun {t} h => by
    unfold PySem.W.kitOne at h
    split at h
    · cases h
    · unfold PySem.W.kitCls at h
      simp only at h
      split at h
      · exact h
      · cases h
  unfold PySem.W.notFirst
  cases kd with
  | ob c' =>
    obtain ⟨C', h1, rfl⟩ := ht
    have hc' : c' ∈ cs := by simpa [okK] using ok
    have q := kt.oo c' hc' c hc C' C h1 hC
    by_cases e : c' = c
    · subst e; rw [hC] at h1; cases h1; simp
    · rw [decide_eq_false e] at q
      rw [sub q]; simp
  | non => cases ht; rw [sub (kt.bo c hc C hC .non (by decide))]; simp
  | bl => cases ht; rw [sub (kt.bo c hc C hC .bl (by decide))]; simp
  | int => cases ht; rw [sub (kt.bo c hc C hC .int (by decide))]; simp
  | str => cases ht; rw [sub (kt.bo c hc C hC .str (by decide))]; simp
  | tup => cases ht; rw [sub (kt.bo c hc C hC .tup (by decide))]; simp
  | lst => cases ht; rw [sub (kt.bo c hc C hC .lst (by decide))]; simp
theorem own_wp {nm : Str} {b0 : Bs} {g : D → D → Option R} {r0 : R2} (eb : EqB b b0) (o : OKx b0 L X) (kt : Kits X.K X.mg cs) (ot : OpT X.prog X.w X.K X.mg X.base nm k T) (sem : Sem2b b g r0) {σ : L2.St} {S H : Hp} {ρ : ES} {Q : VK} (G : Good b σ S H ρ)
    (w : Wp b W σ (evOwn T cs g fa fb) S H ρ fun S' H' ρ' r => ∀ v, RR b σ S' H' ρ' v r → Q v H') :
    Wp b W σ fa S H ρ fun S1 H1 ρ1 r1 => ∀ x, RR b σ S1 H1 ρ1 x r1 → rE b0 W fb σ H1 fun y H2 => r0 x y H2 Q ∨ rOwnX X nm k x y H2 Q := by
  refine Wp.frz (K := fun x H1 => rE b0 W fb σ H1 fun y H2 => r0 x y H2 Q ∨ rOwnX X nm k x y H2 Q) w fun S1 H1 ρ1 r1 x s1 G1 f1 w1 => ⟨b, S1, ρ1, eb, G1, ?_⟩
  refine Wp.frz (K := fun y H2 => r0 x y H2 Q ∨ rOwnX X nm k x y H2 Q) w1 fun S2 H2 ρ2 r2 y s2 G2 f2 w2 => ?_
  have eK : X.K = b.K := by rw [o.K, eb.1]
  have em : X.mg = b.mg := by rw [o.mg, eb.2]
  cases h1 : rdD ρ2 r1 with
  | none => exact wp_none (by simp only [h1]) w2
  | some d =>
    cases h2 : rdD ρ2 r2 with
    | none => cases d <;> exact wp_none (by simp only [h1, h2]) w2
    | some e =>
      have rvx := (f1.mono s2).rv G2 h1
      have rvy := f2.rv G2 h2
      have dat : (∀ c fs, d ≠ .ob c fs) → r0 x y H2 Q ∨ rOwnX X nm k x y H2 Q := fun hno => by
        cases h3 : g d e with
        | none => cases d <;> first | exact absurd rfl (hno _ _) | exact wp_none (by simp only [h1, h2, h3, M.lift]) w2
        | some z => exact Or.inl (sem σ S2 H2 ρ2 x y d e z G2 rvx rvy h3 Q fun v H' S' s' G' r => by
            cases d <;> first | exact absurd rfl (hno _ _) | exact wp_step (o := some (.ok z ρ2)) (by simp only [h1, h2, h3, M.lift]) w2 S' H' s' G' v r)
      cases d with
      | ob c fs =>
        cases h3 : T.lookup c with
        | none => exact wp_none (by simp only [h1, h2, h3]) w2
        | some F =>
          cases h4 : e.kd with
          | none => exact wp_none (by simp only [h1, h2, h3, h4]) w2
          | some kd =>
            cases h5 : (okK cs kd && cs.contains c) with
            | false => exact wp_none (by simp only [h1, h2, h3, h4, h5]; rfl) w2
            | true =>
              have w3 : Wp b W σ (noer (callK F [r1, r2])) S2 H2 ρ2 fun S' H' ρ' r => ∀ v, RR b σ S' H' ρ' v r → Q v H' := wp_is (by simp only [h1, h2, h3, h4, h5, if_true]) w2
              have w4 : Wp b WF σ (callK F [r1, r2]) S2 H2 ρ2 fun S' H' ρ' r => ∀ v, RR b σ S' H' ρ' v r → Q v H' := by
                unfold Wp WpO noer at w3
                unfold Wp WpO
                cases hk : callK F [r1, r2] ρ2 with
                | none => rw [hk] at w3; exact w3.elim
                | some z =>
                  rw [hk] at w3
                  cases z with
                  | ok r ρ' => exact w3
                  | er _ _ => exact w3.elim
              obtain ⟨ok, hc⟩ := Bool.and_eq_true_iff.mp h5
              have hc' : c ∈ cs := by simpa using hc
              obtain ⟨C, f, fd, ps, g1, g2, g3, g4, g5⟩ := ot.ex c F h3
              have rx' : Rp b.K b.mg S2 x (.ob c fs) := rvx
              cases rx' with
              | ob q1 q2 q3 =>
                rw [← em, g1] at q2
                cases q2
                have kt' : Kits b.K b.mg cs := by rw [← eK, ← em]; exact kt
                obtain ⟨t, ht, ty⟩ := ty_of kt' G2.sub rvy h4 (fun c e => by subst e; simpa [okK] using ok)
                have sp := call_wp (n := 2) rfl G2 (.cons (f1.mono s2) (.cons f2 .nil)) w4
                refine Or.inr ⟨C, f, fd, ps, F, _, _, _, t, rfl, G2.sub _ _ q1, g2, g3, g4, g5, by rw [eK]; exact ty, ?_, ?_⟩
                · exact kit_first kt hc' g1 (by rw [em]; exact ht) ok
                · rw [eK, em]
                  exact sp
      | non => exact dat (fun _ _ z => by cases z)
      | bl _ => exact dat (fun _ _ z => by cases z)
      | int _ => exact dat (fun _ _ z => by cases z)
      | str _ => exact dat (fun _ _ z => by cases z)
      | tup _ => exact dat (fun _ _ z => by cases z)
      | lst _ => exact dat (fun _ _ z => by cases z)
      | dic _ => exact dat (fun _ _ z => by cases z)
      | fn _ => exact dat (fun _ _ z => by cases z)
theorem own_test {fa : M R} {σ : L2.St} {S H : Hp} {ρ : ES} {Q : Bool → Hp → Prop} (w : Wp b W σ (evBl fa) S H ρ fun S' H' ρ' c => Q c H') : Wp b W σ fa S H ρ fun S1 H1 ρ1 r1 => ∀ v, RR b σ S1 H1 ρ1 v r1 → ∃ k, v = .bl k ∧ Q k H1 := by
  refine Wp.mono (Wp.bind w) fun S1 H1 ρ1 r1 s1 G1 w1 v hv => ?_
  cases r1 with
  | va d =>
    cases d with
    | bl c => cases hv; exact ⟨c, rfl, wp_step (o := some (.ok c ρ1)) rfl w1 S1 H1 (Hsub.refl _) G1⟩
    | _ => exact wp_none rfl w1
  | _ => exact wp_none rfl w1
theorem pe_eqO (o : OKx b L X) (kt : Kits X.K X.mg cs) (ot : OpT X.prog X.w X.K X.mg X.base "__eq__" k T) (ha : PE X e1 (rE b W fa)) (hb : PE X e2 (rE b W fb)) (hk : k ≤ L := by decide) : PE X (.Compare e1 [.Eq] [e2] pos) (rE b W (evOwn T cs eqD fa fb)) :=
  PE.weak (pe_cmpR (op_or (op_eqD (by have := o.un; omega)) (op_ownX (op := .Eq) (k := k) (fun _ _ => rfl) (o.rm.mono hk))) ha hb (nomark _)) fun σ H Q ⟨b', S, ρ, eb, G, w⟩ => ⟨b', S, ρ, eb, G, own_wp eb o kt ot (by rw [o.K, ← eb.1]; exact sem_eq) G w⟩
theorem pe_neO (o : OKx b L X) (kt : Kits X.K X.mg cs) (ot : OpT X.prog X.w X.K X.mg X.base "__ne__" k T) (ha : PE X e1 (rE b W fa)) (hb : PE X e2 (rE b W fb)) (hk : k ≤ L := by decide) : PE X (.Compare e1 [.NotEq] [e2] pos) (rE b W (evOwn T cs neD fa fb)) :=
  PE.weak (pe_cmpR (op_or (op_neD (by have := o.un; omega)) (op_ownX (op := .NotEq) (k := k) (fun _ _ => rfl) (o.rm.mono hk))) ha hb (nomark _)) fun σ H Q ⟨b', S, ρ, eb, G, w⟩ => ⟨b', S, ρ, eb, G, own_wp eb o kt ot (by rw [o.K, ← eb.1]; exact sem_ne) G w⟩
theorem pt_eqO (o : OKx b L X) (kt : Kits X.K X.mg cs) (ot : OpT X.prog X.w X.K X.mg X.base "__eq__" k T) (ha : PE X e1 (rE b W fa)) (hb : PE X e2 (rE b W fb)) (hk : k ≤ L := by decide) : PT X (.Compare e1 [.Eq] [e2] pos) (rT b W (evBl (evOwn T cs eqD fa fb))) :=
  PT.weak (pt_cmpR (op_or (op_eqD (by have := o.un; omega)) (op_ownX (op := .Eq) (k := k) (fun _ _ => rfl) (o.rm.mono hk))) ha hb (nomark _)) fun σ H Q ⟨b', S, ρ, eb, G, w⟩ => ⟨b', S, ρ, eb, G, own_wp eb o kt ot (by rw [o.K, ← eb.1]; exact sem_eq) G (own_test w)⟩
theorem pt_neO (o : OKx b L X) (kt : Kits X.K X.mg cs) (ot : OpT X.prog X.w X.K X.mg X.base "__ne__" k T) (ha : PE X e1 (rE b W fa)) (hb : PE X e2 (rE b W fb)) (hk : k ≤ L := by decide) : PT X (.Compare e1 [.NotEq] [e2] pos) (rT b W (evBl (evOwn T cs neD fa fb))) :=
  PT.weak (pt_cmpR (op_or (op_neD (by have := o.un; omega)) (op_ownX (op := .NotEq) (k := k) (fun _ _ => rfl) (o.rm.mono hk))) ha hb (nomark _)) fun σ H Q ⟨b', S, ρ, eb, G, w⟩ => ⟨b', S, ρ, eb, G, own_wp eb o kt ot (by rw [o.K, ← eb.1]; exact sem_ne) G (own_test w)⟩
end
end Mc
end
section
set_option Elab.async false
set_option linter.all false
set_option maxRecDepth 100000
set_option maxHeartbeats 4000000
set_option autoImplicit false
namespace PySem
open Sem (wp)
set_option maxHeartbeats 1000000 in
theorem mc_enum_newT (l : Addr) (xs : Array Value) :
    Meets (Builtin.«enumerate.__new__» ⟨[.type "enumerate", .ref l], []⟩) (fun _ R s => s.heap.IsTuple l xs ∧
      R (.ok (.ret (.ref (s.heap.push { cls := .type "tuple_iterator", data := .fields #[.ref l, .int 0 0] }).objs.size)))
        { s with heap := (s.heap.push { cls := .type "tuple_iterator", data := .fields #[.ref l, .int 0 0] }).push { cls := .type "enumerate", data := .fields #[.none, .bool false, .ref s.heap.objs.size, rawInt 0, .none, .none] } }) :=
  .of_wp fun prog w A R s h => by
    obtain ⟨hp, g, d, tk, os⟩ := s; obtain ⟨hl, h⟩ := h
    have hsub := sub_enumerate
    have hL : Heap.IsTuple (Shared.heap ⟨hp, g, d, tk, os⟩) l xs := hl
    wp_walk
    refine wpAny_stack_any fun st => wpAny_pure ?_
    split
    · rename_i c _ _ _ _ _
      cases (c == Value.type "enumerate")
      · wp_walk using wpAny_pyIter_tuple hL
        exact ⟨_, rfl, h⟩
      · wp_walk using wpAny_pyIter_tuple hL
        exact ⟨_, rfl, h⟩
    · wp_walk using wpAny_pyIter_tuple hL
      exact ⟨_, rfl, h⟩
/-- an iterator record over a list or a tuple -/
def itN (tp : Bool) : String := if tp = true then "tuple_iterator" else "list_iterator"
abbrev itR (tp : Bool) (l : Addr) : Obj := { cls := .type (itN tp), data := .fields #[.ref l, .int 0 0] }
def IsSq (tp : Bool) (h : Heap) (l : Addr) (xs : Array Value) : Prop := if tp = true then h.IsTuple l xs else h.IsList l xs
def SIt (tp : Bool) (h : Heap) (it l : Addr) (i : Nat) : Prop := if tp = true then h.IsTupleIter it l i else h.IsListIter it l i
theorem SIt.new (tp : Bool) (h : Heap) (l : Addr) : SIt tp (h.push (itR tp l)) h.objs.size l 0 := by
  cases tp
  · exact ⟨_, Heap.get?_push_size _ rfl, rfl, rfl⟩
  · exact ⟨_, Heap.get?_push_size _ rfl, rfl, rfl⟩
theorem SIt.mono {tp : Bool} {h h' : Heap} {it l : Addr} {i : Nat} (x : SIt tp h it l i) (k : ∀ o, h.get? it = some o → h'.get? it = some o) : SIt tp h' it l i := by
  cases tp
  · exact Heap.IsListIter.at (show h.IsListIter it l i from x) k
  · exact Heap.IsTupleIter.at (show h.IsTupleIter it l i from x) k
theorem SIt.there {tp : Bool} {h : Heap} {it l : Addr} {i : Nat} (x : SIt tp h it l i) : ∃ o, h.get? it = some o ∧ o.data = .fields #[.ref l, .int i 0] := by
  cases tp
  · obtain ⟨o, a, _, c⟩ := (show h.IsListIter it l i from x); exact ⟨o, a, c⟩
  · obtain ⟨o, a, _, c⟩ := (show h.IsTupleIter it l i from x); exact ⟨o, a, c⟩
theorem IsSq.mono {tp : Bool} {h h' : Heap} {l : Addr} {xs : Array Value} (x : IsSq tp h l xs) (k : ∀ o, h.get? l = some o → h'.get? l = some o) : IsSq tp h' l xs := by
  cases tp
  · exact Heap.IsList.at (show h.IsList l xs from x) k
  · exact Heap.IsTuple.at (show h.IsTuple l xs from x) k
theorem IsSq.lt {tp : Bool} {h : Heap} {l : Addr} {xs : Array Value} (x : IsSq tp h l xs) : l < h.objs.size := by
  cases tp
  · obtain ⟨o, a, _⟩ := (show h.IsList l xs from x); exact Heap.lt_size a
  · obtain ⟨o, a, _⟩ := (show h.IsTuple l xs from x); exact Heap.lt_size a
theorem sq_draws {prog : Program} {w : World} {A : Around} (hh : A.handled = none) (tp : Bool) (it l : Addr) (hne : l ≠ it) (xs : Array Value) : Draws prog w A it [it, l] xs.size (fun i v => xs[i]? = some v) (fun i h => SIt tp h it l i ∧ IsSq tp h l xs) := by
  cases tp
  · exact Draws.list hh it l hne xs
  · exact Draws.tuple hh it l hne xs
theorem pyIter_sq {prog : Program} {w : World} {A : Around} {E : Value → Shared → Prop} {s : Shared} {tp : Bool} {l : Addr} {xs : Array Value} {Q : Value → Shared → Prop} (h : IsSq tp s.heap l xs) (q : Q (.ref s.heap.objs.size) { s with heap := s.heap.push (itR tp l) }) : wpAny (model prog w) A (pyIter (.ref l)) Q E s := by
  cases tp
  · exact wpAny_pyIter_list h q
  · exact wpAny_pyIter_tuple h q
section
variable {prog : Program} {w : World} {A : Around} {E : Value → Shared → Prop} {s : Shared}
theorem call_enumSq {tp : Bool} {l : Addr} {xs : Array Value} {Q : Value → Shared → Prop} (hl : IsSq tp s.heap l xs)
    (h : ∀ h', IsEnum h' (s.heap.objs.size + 1) s.heap.objs.size 0 .none → SIt tp h' s.heap.objs.size l 0 → h'.objs.size = s.heap.objs.size + 2 → (∀ c o, s.heap.get? c = some o → h'.get? c = some o) → Q (.ref (s.heap.objs.size + 1)) { s with heap := h' }) :
    wpAny (model prog w) A (call (.type "enumerate") [.ref l]) Q E s := by
  cases tp
  · exact call_enumerate_list hl h
  · have hL : s.heap.IsTuple l xs := hl
    refine callType_new F.called_enumerate (by decide) (F.typeCall_enumerate_1 _) (F.newCall_enumerate_1 _) (fun obj => F.args_object_init_2 obj _) F.entry_enumerate_new (mc_enum_newT l xs) ⟨hL, ?_⟩
    have hz : (s.heap.push (itR true l)).objs.size = s.heap.objs.size + 1 := Heap.size_push ..
    have he : IsEnum ((s.heap.push (itR true l)).push { cls := .type "enumerate", data := .fields #[.none, .bool false, .ref s.heap.objs.size, rawInt 0, .none, .none] }) (s.heap.objs.size + 1) s.heap.objs.size 0 .none := by
      rw [← hz]; exact Heap.get?_push_size _ rfl
    have hz' : (s.heap.push { cls := .type "tuple_iterator", data := .fields #[.ref l, .int 0 0] }).objs.size = s.heap.objs.size + 1 := hz
    show _ ∧ _
    rw [hz']
    exact ⟨⟨_, he, rfl⟩, h _ he ((SIt.new true s.heap l).mono fun o e => Heap.get?_push_of_some _ e) (by rw [Heap.size_push]; exact congrArg (· + 1) hz) fun c o x => Heap.get?_push_of_some _ (Heap.get?_push_of_some _ x)⟩
end
abbrev zq2 (a b : Bool) (h : Heap) (l1 l2 : Addr) : Heap := (h.push (itR a l1)).push (itR b l2)
abbrev zq3 (a b : Bool) (h : Heap) (l1 l2 : Addr) : Heap := (zq2 a b h l1 l2).push { cls := .type "tuple", data := .seq #[.ref h.objs.size, .ref (h.push (itR a l1)).objs.size] }
abbrev zq4 (a b : Bool) (h : Heap) (l1 l2 : Addr) : Heap := (zq3 a b h l1 l2).push { cls := .type "tuple", data := .seq #[.none, .none] }
abbrev zq5 (a b : Bool) (h : Heap) (l1 l2 : Addr) : Heap := (zq4 a b h l1 l2).push { cls := .type "zip", data := .fields #[.none, .bool false, .bool false, .ref (zq2 a b h l1 l2).objs.size, .ref (zq3 a b h l1 l2).objs.size] }
set_option maxHeartbeats 1000000 in
theorem mc_zip_new (a b : Bool) (l1 l2 : Addr) (xs ys : Array Value) :
    Meets (Builtin.«zip.__new__» ⟨[.type "zip", .ref l1, .ref l2], []⟩) (fun _ R s => IsSq a s.heap l1 xs ∧ IsSq b s.heap l2 ys ∧ R (.ok (.ret (.ref (zq4 a b s.heap l1 l2).objs.size))) { s with heap := zq5 a b s.heap l1 l2 }) :=
  .of_wp fun prog w A R s h => by
    obtain ⟨hp, g, d, tk, os⟩ := s; obtain ⟨hl1, hl2, h⟩ := h
    have hsub := sub_zip
    have hL1 : IsSq a (Shared.heap ⟨hp, g, d, tk, os⟩) l1 xs := hl1
    have hL2 : IsSq b (Shared.heap ⟨hp.push (itR a l1), g, d, tk, os⟩) l2 ys := IsSq.mono hl2 fun o e => Heap.get?_push_of_some _ e
    wp_walk using pyIter_sq hL1, pyIter_sq hL2
    exact ⟨_, rfl, h⟩
end PySem
end
section
set_option Elab.async false
set_option linter.all false
set_option maxRecDepth 100000
set_option maxHeartbeats 4000000
set_option autoImplicit false
namespace PySem
section
variable {prog : Program} {w : World} {A : Around} {E : Value → Shared → Prop} {s : Shared}
theorem call_zipSq {a b : Bool} {l1 l2 : Addr} {xs ys : Array Value} {Q : Value → Shared → Prop} (hl1 : IsSq a s.heap l1 xs) (hl2 : IsSq b s.heap l2 ys)
    (h : ∀ h', IsZip h' (s.heap.objs.size + 4) (s.heap.objs.size + 2) (s.heap.objs.size + 3) .none → IsTupOf2 h' (s.heap.objs.size + 2) (.ref s.heap.objs.size) (.ref (s.heap.objs.size + 1)) → IsTupOf2 h' (s.heap.objs.size + 3) .none .none →
      SIt a h' s.heap.objs.size l1 0 → SIt b h' (s.heap.objs.size + 1) l2 0 → h'.objs.size = s.heap.objs.size + 5 → (∀ c o, s.heap.get? c = some o → h'.get? c = some o) → Q (.ref (s.heap.objs.size + 4)) { s with heap := h' }) :
    wpAny (model prog w) A (call (.type "zip") [.ref l1, .ref l2]) Q E s := by
  refine callType_new F.called_zip (by decide) (F.typeCall_zip_2 _ _) (F.newCall_zip_2 _ _) (fun obj => F.args_object_init_3 obj _ _) F.entry_zip_new (mc_zip_new a b l1 l2 xs ys) ⟨hl1, hl2, ?_⟩
  have p1 : (s.heap.push (itR a l1)).objs.size = s.heap.objs.size + 1 := Heap.size_push ..
  have p2 : (zq2 a b s.heap l1 l2).objs.size = s.heap.objs.size + 2 := by rw [Heap.size_push, p1]
  have p3 : (zq3 a b s.heap l1 l2).objs.size = s.heap.objs.size + 3 := by rw [Heap.size_push, p2]
  have p4 : (zq4 a b s.heap l1 l2).objs.size = s.heap.objs.size + 4 := by rw [Heap.size_push, p3]
  have p5 : (zq5 a b s.heap l1 l2).objs.size = s.heap.objs.size + 5 := by rw [Heap.size_push, p4]
  have q5 : (zq5 a b s.heap l1 l2).get? (zq4 a b s.heap l1 l2).objs.size = some _ := Heap.get?_push_size _ rfl
  have q4 : (zq5 a b s.heap l1 l2).get? (zq3 a b s.heap l1 l2).objs.size = some _ := Heap.get?_push_of_some _ (Heap.get?_push_size _ rfl)
  have q3 : (zq5 a b s.heap l1 l2).get? (zq2 a b s.heap l1 l2).objs.size = some _ := Heap.get?_push_of_some _ (Heap.get?_push_of_some _ (Heap.get?_push_size _ rfl))
  have q2 : SIt b (zq5 a b s.heap l1 l2) (s.heap.push (itR a l1)).objs.size l2 0 := (SIt.new b (s.heap.push (itR a l1)) l2).mono fun o e => Heap.get?_push_of_some _ (Heap.get?_push_of_some _ (Heap.get?_push_of_some _ e))
  have q1 : SIt a (zq5 a b s.heap l1 l2) s.heap.objs.size l1 0 := (SIt.new a s.heap l1).mono fun o e => Heap.get?_push_of_some _ (Heap.get?_push_of_some _ (Heap.get?_push_of_some _ (Heap.get?_push_of_some _ e)))
  show _ ∧ _
  rw [p2, p3, p4] at q5
  rw [p1, p2] at q3
  rw [p3] at q4
  rw [p1] at q2
  rw [p4]
  exact ⟨⟨_, q5, rfl⟩, h _ q5 q3 q4 q1 q2 p5 fun c o x => Heap.get?_push_of_some _ (Heap.get?_push_of_some _ (Heap.get?_push_of_some _ (Heap.get?_push_of_some _ (Heap.get?_push_of_some _ x))))⟩
end
end PySem
namespace Mc
open PySem PySem.Spec L2

/-! ### enumerate, zip -/
def SqK (tp : Bool) (K : PySem.W.Frag) (H : Hp) (a : Addr) (xs : List V) : Prop := if tp = true then SqT K H a xs else SqL K H a xs
section
variable {X : Cx} {pins : List (Addr × Obj)} {σ : L2.St} {H : Hp} {s : Shared}
theorem sqk_is {tp : Bool} {a : Addr} {xs : List V} (I : Inv X pins σ H s) (h : SqK tp X.K H a xs) : ∃ its : List Value, Vals xs its ∧ IsSq tp s.heap a its.toArray := by
  cases tp
  · obtain ⟨its, rv, p, _⟩ := I.list (show SqL X.K H a xs from h); exact ⟨its, rv, p.isList⟩
  · obtain ⟨its, rv, p, _⟩ := I.tuple (show SqT X.K H a xs from h); exact ⟨its, rv, p⟩
theorem sqk_inj {tp : Bool} {a : Addr} {xs ys : List V} (I : Inv X pins σ H s) (h : SqK tp X.K H a xs) (h' : SqK tp X.K H a ys) : xs = ys := by
  cases tp
  · exact I.list_inj h h'
  · exact I.tuple_inj h h'
end
def IteX (tp : Bool) (K : PySem.W.Frag) (a : Addr) : It :=
  ⟨fun i H => ∃ xs x, SqK tp K H a xs ∧ xs[i]? = some x, fun i H v H' => ∃ T o x, v = .ref T ∧ H T = none ∧ TupO o ∧ H' = upd H T (.frz o (.tup [.int (i : Nat), x])) ∧ ∀ xs, SqK tp K H a xs → xs[i]? = some x, fun i H => ∃ xs, SqK tp K H a xs ∧ xs.length = i⟩
def ItzX (tp tq : Bool) (K : PySem.W.Frag) (a b : Addr) : It :=
  ⟨fun i H => ∃ xs ys x y, SqK tp K H a xs ∧ SqK tq K H b ys ∧ xs[i]? = some x ∧ ys[i]? = some y, fun i H v H' => ∃ T o x y, v = .ref T ∧ H T = none ∧ TupO o ∧ H' = upd H T (.frz o (.tup [x, y])) ∧ (∀ xs, SqK tp K H a xs → xs[i]? = some x) ∧ ∀ ys, SqK tq K H b ys → ys[i]? = some y,
    fun i H => ∃ xs ys, SqK tp K H a xs ∧ SqK tq K H b ys ∧ i ≤ xs.length ∧ i ≤ ys.length ∧ (i = xs.length ∨ i = ys.length)⟩
theorem get_lt {xs : List V} {its : List Value} {i : Nat} {x : V} (r : Vals xs its) (h : xs[i]? = some x) : i < its.toArray.size ∧ ∃ u, its.toArray[i]? = some u ∧ RelV x u := by
  obtain ⟨u, hu, ru⟩ := r.get h
  obtain ⟨hl, _⟩ := List.getElem?_eq_some_iff.mp hu
  exact ⟨by rw [List.size_toArray]; exact hl, u, by simpa using hu, ru⟩
theorem turn_enX {P : Program} {w : World} {K : PySem.W.Frag} {elts : List Expr} {kk : Nat} {tpos : Pos} (tp : Bool) (a e it : Addr) (ha : a ≠ it) (hae : a ≠ e) (hne : e ≠ it) :
    Turn P w K (.Tuple elts kk tpos) (IteX tp K a) [e, it] e (fun i h => (∃ old, IsEnum h e it (i : Nat) old) ∧ SIt tp h it a i) where
  mem := by simp
  obj := fun i h st c hc => by
    obtain ⟨⟨old, he⟩, hit⟩ := st
    rcases List.mem_cons.mp hc with z | z
    · rw [z]; exact ⟨_, he, fun v q => nomatch q⟩
    · rw [List.mem_singleton.mp z]
      obtain ⟨o, h1, h2⟩ := hit.there
      exact ⟨o, h1, fun v q => by rw [h2] at q; cases q⟩
  keep := fun i h h' st k => let ⟨⟨old, he⟩, hit⟩ := st; ⟨⟨old, k e (by simp) _ he⟩, hit.mono fun o q => k it (by simp) o q⟩
  item := by
    intro X hP hw hK hc i pins s σ H E I hf st hg
    subst hP hw hK
    obtain ⟨⟨old, he⟩, hit⟩ := st
    obtain ⟨xs, x, hq, hx⟩ := hg
    obtain ⟨its, rv, hs⟩ := sqk_is I hq
    obtain ⟨hlt, u, hu, ru⟩ := get_lt rv hx
    have hel : e < s.heap.objs.size := Heap.lt_size he
    have hil : it < s.heap.objs.size := by obtain ⟨o, q, _⟩ := hit.there; exact Heap.lt_size q
    have D := sq_draws (prog := X.prog) (w := X.w) (A := X.A.in1) (I.ok.hd hc) tp it a ha its.toArray
    refine wpAny_pyNext_enum_itemD D he ⟨hit, hs⟩ hlt hne (fun z => ?_) fun y h' tk hy ho hst hT hsz hk => ?_
    · rcases List.mem_cons.mp z with q | q
      · exact hne q
      · exact hae (List.mem_singleton.mp q).symm
    rw [hu] at hy
    cases hy
    refine ⟨_, rfl, wpAny_letOwnedTupleGo_enum (s := { s with heap := h', toks := tk + 1 }) ho fun h'' he' sb => ?_⟩
    have hT2 : h''.get? s.heap.objs.size = some { cls := .type "tuple", data := .seq #[.int i tk, u] } := (sb.2 _ (Nat.ne_of_gt hel)).trans hT
    have new : ObjOk X.prog X.w (upd H s.heap.objs.size (.frz { cls := .type "tuple", data := .seq #[.int i tk, u] } (.tup [.int (i : Nat), x]))) h'' s.heap.objs.size (.frz { cls := .type "tuple", data := .seq #[.int i tk, u] } (.tup [.int (i : Nat), x])) :=
      ⟨hT2, by show 2 ≤ sizeLine; decide, [.int i tk, u], .cons ⟨_, rfl⟩ (.cons ru .nil), ⟨_, hT2, rfl, _, rfl⟩⟩
    have I1 : Inv X pins σ _ { s with heap := h'', toks := tk + 1 } := I.turnedNew (ch := [e, it]) (fun c ob hc q => (sb.2 c (fun z => hc (by simp [z]))).trans (hk c ob (fun z => hc (by simp [z])) (fun z => hc (by simp [z])) q)) hf (Nat.le_refl _) new
    refine ⟨.ref s.heap.objs.size, _, I1, rfl, ⟨_, _, x, rfl, I.hok.fresh (Nat.le_refl _), ⟨rfl, rfl⟩, rfl, fun ys hy => by rw [sqk_inj I hy hq]; exact hx⟩, ⟨⟨u, ?_⟩, hst.1.mono fun o q => (sb.2 it (Ne.symm hne)).trans q⟩, fun c hc => ?_⟩
    · have e1 : ((i + 1 : Nat) : Int) = (i : Int) + 1 := by omega
      rw [e1]; exact he'
    · have hc' : c < s.heap.objs.size := by
        rcases List.mem_cons.mp hc with z | z
        · rw [z]; exact hel
        · rw [List.mem_singleton.mp z]; exact hil
      rw [upd_ne (Nat.ne_of_lt hc')]
      exact (hf c hc).1
  done := by
    intro X hP hw hK hc i pins s σ H E I hf st hg
    subst hP hw hK
    obtain ⟨⟨old, he⟩, hit⟩ := st
    obtain ⟨xs, hq, hx⟩ := hg
    obtain ⟨its, rv, hs⟩ := sqk_is I hq
    obtain ⟨f0, f1, f2, f3, f4, f5⟩ := hf it (by simp)
    have D := sq_draws (prog := X.prog) (w := X.w) (A := X.A.in1) (I.ok.hd hc) tp it a ha its.toArray
    have hi : i = its.toArray.size := by rw [List.size_toArray, ← rv.length]; exact hx.symm
    subst hi
    exact wpAny_pyNext_enum_endD D he ⟨hit, hs⟩ fun h' eb => ⟨rfl, I.turned (t' := s.toks) (fun b o hb q => eb b o hb q) f0 f1 f3 f4 f5⟩
  self := fun A i s Q E st h => let ⟨⟨_, he⟩, _⟩ := st; wpAny_pyIter_enum he h
theorem turn_zpX {P : Program} {w : World} {K : PySem.W.Frag} {elts : List Expr} {kk : Nat} {tpos : Pos} (tp tq : Bool) (a b z TI TO i1 i2 : Addr) (Sp : ZipSep2 z TI TO i1 i2 [i1, a] [i2, b]) (ha : a ≠ i1) (hb : b ≠ i2) :
    Turn P w K (.Tuple elts kk tpos) (ItzX tp tq K a b) [z, TI, TO, i1, i2] z (fun i h => IsZip h z TI TO .none ∧ IsTupOf2 h TI (.ref i1) (.ref i2) ∧ (∃ x y, IsTupOf2 h TO x y) ∧ SIt tp h i1 a i ∧ SIt tq h i2 b i) where
  mem := by simp
  obj := fun i h st c hc => by
    obtain ⟨hz, hTI, ⟨x, y, hTO⟩, h1, h2⟩ := st
    have e' : c = z ∨ c = TI ∨ c = TO ∨ c = i1 ∨ c = i2 := by simpa using hc
    rcases e' with q | q | q | q | q <;> rw [q]
    · exact ⟨_, hz, fun v q => nomatch q⟩
    · exact ⟨_, hTI, fun v q => nomatch q⟩
    · exact ⟨_, hTO, fun v q => nomatch q⟩
    · obtain ⟨o, g1, g2⟩ := h1.there; exact ⟨o, g1, fun v q => by rw [g2] at q; cases q⟩
    · obtain ⟨o, g1, g2⟩ := h2.there; exact ⟨o, g1, fun v q => by rw [g2] at q; cases q⟩
  keep := fun i h h' st k => by
    obtain ⟨hz, hTI, ⟨x, y, hTO⟩, h1, h2⟩ := st
    exact ⟨k z (by simp) _ hz, k TI (by simp) _ hTI, ⟨x, y, k TO (by simp) _ hTO⟩, h1.mono fun o q => k i1 (by simp) o q, h2.mono fun o q => k i2 (by simp) o q⟩
  item := by
    intro X hP hw hK hc i pins s σ H E I hf st hg
    subst hP hw hK
    obtain ⟨hz, hTI, ⟨x0, y0, hTO⟩, h1, h2⟩ := st
    obtain ⟨xs, ys, x, y, hqx, hqy, hx, hy⟩ := hg
    obtain ⟨its, rv, p⟩ := sqk_is I hqx
    obtain ⟨its2, rv2, p2⟩ := sqk_is I hqy
    obtain ⟨hl1, u, hu, ru⟩ := get_lt rv hx
    obtain ⟨hl2, u2, hu2, ru2⟩ := get_lt rv2 hy
    have hzl : z < s.heap.objs.size := Heap.lt_size hz
    have D1 := sq_draws (prog := X.prog) (w := X.w) (A := X.A.in1) (I.ok.hd hc) tp i1 a ha its.toArray
    have D2 := sq_draws (prog := X.prog) (w := X.w) (A := X.A.in1) (I.ok.hd hc) tq i2 b hb its2.toArray
    refine wpAny_pyNext_zipD2_item Sp D1 D2 hz hTI hTO ⟨h1, p⟩ ⟨h2, p2⟩ hl1 hl2 fun v1 v2 h' tk g1 g2 z' TO' st1 st2 hT hsz hk => ?_
    rw [hu] at g1; cases g1
    rw [hu2] at g2; cases g2
    refine ⟨_, rfl, wpAny_letOwnedTupleGo_zip (s := { s with heap := h', toks := tk }) z' fun h'' z'' sb => ?_⟩
    have hT2 : h''.get? s.heap.objs.size = some { cls := .type "tuple", data := .seq #[u, u2] } := (sb.2 _ (Nat.ne_of_gt hzl)).trans hT
    have new : ObjOk X.prog X.w (upd H s.heap.objs.size (.frz { cls := .type "tuple", data := .seq #[u, u2] } (.tup [x, y]))) h'' s.heap.objs.size (.frz { cls := .type "tuple", data := .seq #[u, u2] } (.tup [x, y])) :=
      ⟨hT2, by show 2 ≤ sizeLine; decide, [u, u2], .cons ru (.cons ru2 .nil), ⟨_, hT2, rfl, _, rfl⟩⟩
    have I1 : Inv X pins σ _ { s with heap := h'', toks := tk } := I.turnedNew (ch := [z, TI, TO, i1, i2]) (fun c o hb q => (sb.2 c (fun q' => hb (by simp [q']))).trans (hk c o (fun q' => hb (by simp [q'])) (fun q' => hb (by simp [q'])) (fun q' => hb (by simp [q'])) (fun q' => hb (by simp [q'])) q)) hf (Nat.le_refl _) new
    refine ⟨.ref s.heap.objs.size, _, I1, rfl, ⟨_, _, x, y, rfl, I.hok.fresh (Nat.le_refl _), ⟨rfl, rfl⟩, rfl, fun l hl => by rw [sqk_inj I hl hqx]; exact hx, fun l hl => by rw [sqk_inj I hl hqy]; exact hy⟩, ⟨z'', ?_, ⟨u, u2, ?_⟩, ?_, ?_⟩, fun c hcm => ?_⟩
    · exact (sb.2 _ Sp.TIz).trans (hk _ _ Sp.TIz Sp.TITO Sp.TIi1 Sp.TIi2 hTI)
    · exact (sb.2 _ Sp.TOz).trans TO'
    · exact st1.1.mono fun o q => (sb.2 _ (Ne.symm Sp.zi1)).trans q
    · exact st2.1.mono fun o q => (sb.2 _ (Ne.symm Sp.zi2)).trans q
    · have hlt : c < s.heap.objs.size := by
        have e' : c = z ∨ c = TI ∨ c = TO ∨ c = i1 ∨ c = i2 := by simpa using hcm
        rcases e' with q | q | q | q | q <;> rw [q]
        · exact hzl
        · exact Heap.lt_size hTI
        · exact Heap.lt_size hTO
        · obtain ⟨_, e1, _⟩ := h1.there; exact Heap.lt_size e1
        · obtain ⟨_, e2, _⟩ := h2.there; exact Heap.lt_size e2
      rw [upd_ne (Nat.ne_of_lt hlt)]
      exact (hf c hcm).1
  done := by
    intro X hP hw hK hc i pins s σ H E I hf st hg
    subst hP hw hK
    obtain ⟨hz, hTI, ⟨x0, y0, hTO⟩, h1, h2⟩ := st
    obtain ⟨xs, ys, hqx, hqy, l1, l2, hend⟩ := hg
    obtain ⟨its, rv, p⟩ := sqk_is I hqx
    obtain ⟨its2, rv2, p2⟩ := sqk_is I hqy
    have D1 := sq_draws (prog := X.prog) (w := X.w) (A := X.A.in1) (I.ok.hd hc) tp i1 a ha its.toArray
    have D2 := sq_draws (prog := X.prog) (w := X.w) (A := X.A.in1) (I.ok.hd hc) tq i2 b hb its2.toArray
    have e1 : its.toArray.size = xs.length := by rw [List.size_toArray, ← rv.length]
    have e2 : its2.toArray.size = ys.length := by rw [List.size_toArray, ← rv2.length]
    exact wpAny_pyNext_zipD2_end Sp D1 D2 hz hTI hTO ⟨h1, p⟩ ⟨h2, p2⟩ (by omega) (by omega) (by omega) fun h' tk hk => ⟨rfl, I.turnedL (ch := [z, TI, TO, i1, i2]) (fun c o hb q =>
      hk c o (fun q' => hb (by simp [q'])) (fun q' => hb (by simp [q'])) (fun q' => hb (by simp [q'])) (fun q' => hb (by simp [q'])) q) hf⟩
  self := fun A i s Q E st h => wpAny_pyIter_zip st.1 h
def iEnX (K : PySem.W.Frag) (ta : TA) : TI := fun σ H R => ta σ H fun vs H1 => ∃ a, vs = [.ref a] ∧ ∃ tp xs, SqK tp K H1 a xs ∧ R (IteX tp K a) H1
def iZpX (K : PySem.W.Frag) (ta : TA) : TI := fun σ H R => ta σ H fun vs H1 => ∃ a b, vs = [.ref a, .ref b] ∧ ∃ tp tq xs ys, SqK tp K H1 a xs ∧ SqK tq K H1 b ys ∧ R (ItzX tp tq K a b) H1
section
variable {X : Cx} {p pos tpos : Pos} {e e2 : Expr} {elts : List Expr} {kk : Nat} {ta : TA}
theorem pi_enX (hg : Gl X "enumerate") (hm : X.mg "enumerate" = none) (ha : PA X [e] ta) (hs : starEach [e] X.env = [(false, eval e X.env)] := by rfl) : PI X (.Tuple elts kk tpos) (.Call (.Name "enumerate" p) [e] [] pos) (iEnX X.K ta) := by
  refine ⟨fun pins s σ H R I h => PyProof.Rows.Call_ (ld_blt I hg hm PyProof.Rows.boot_enumerate (PyProof.Rows.callWith_type1 (thn (ha.run pos pins s σ H _ I h) fun us s1 ⟨vs, H1, I1, r1, q1⟩ => ?_) hs rfl))⟩
  obtain ⟨a, ev, tp, xs, hq, q⟩ := q1
  subst ev
  rw [Vals.ref1 r1]
  obtain ⟨its, rv, hl⟩ := sqk_is I1 hq
  have lt := hl.lt
  refine call_enumSq hl fun h' he hit hsz hk => wpAny_pyIter_enum he ?_
  refine ⟨s1.heap.objs.size + 1, [s1.heap.objs.size + 1, s1.heap.objs.size], _, _, H1, rfl, I1.kept (t' := s1.toks) hk, turn_enX tp a (s1.heap.objs.size + 1) s1.heap.objs.size (Nat.ne_of_lt lt) (Nat.ne_of_lt (Nat.lt_succ_of_lt lt)) (Nat.succ_ne_self _), ⟨⟨.none, he⟩, hit⟩, fun c hc => ?_, q⟩
  have hle : s1.heap.objs.size ≤ c := by
    rcases List.mem_cons.mp hc with z | z
    · rw [z]; exact Nat.le_succ _
    · rw [List.mem_singleton.mp z]; exact Nat.le_refl _
  exact I1.fpOk hle (I1.hok.fresh hle)
theorem zip_sep (n a b : Nat) (ha : a < n) (hb : b < n) : ZipSep2 (n + 4) (n + 2) (n + 3) n (n + 1) [n, a] [n + 1, b] := by
  have m : ∀ {x y z : Nat}, x ∈ ([y, z] : List Nat) → x = y ∨ x = z := fun h => by simpa using h
  exact ⟨by intro z; have z : (n + 2 : Nat) = n + 4 := z; omega, by intro z; have z : (n + 3 : Nat) = n + 4 := z; omega, by intro z; have z : (n + 2 : Nat) = n + 3 := z; omega, by intro z; have z : (n + 2 : Nat) = n := z; omega, by simp,
    fun z => by rcases m z with q | q <;> omega, fun z => by rcases m z with q | q <;> omega, by intro z; have z : (n + 2 : Nat) = n + 1 := z; omega, by simp, fun z => by rcases m z with q | q <;> omega, fun z => by rcases m z with q | q <;> omega, fun z => by rcases m z with q | q <;> omega, fun z => by rcases m z with q | q <;> omega⟩
theorem pi_zpX (hg : Gl X "zip") (hm : X.mg "zip" = none) (ha : PA X [e, e2] ta) (hs : starEach [e, e2] X.env = (false, eval e X.env) :: starEach [e2] X.env := by rfl) (hpl : (backTo pos (starEach [e2] X.env)).any (·.1) = false := by rfl) :
    PI X (.Tuple elts kk tpos) (.Call (.Name "zip" p) [e, e2] [] pos) (iZpX X.K ta) := by
  refine ⟨fun pins s σ H R I h => PyProof.Rows.Call_ (ld_blt I hg hm PyProof.Rows.boot_zip (PyProof.Rows.callWith_type1 (thn (ha.run pos pins s σ H _ I h) fun us s1 ⟨vs, H1, I1, r1, q1⟩ => ?_) hs hpl))⟩
  obtain ⟨a, b, ev, tp, tq, xs, ys, hqx, hqy, q⟩ := q1
  subst ev
  obtain ⟨u, u', rfl, ru, ru'⟩ := vals2 r1
  obtain rfl : u = Value.ref a := ru
  obtain rfl : u' = Value.ref b := ru'
  obtain ⟨its, rv, p1⟩ := sqk_is I1 hqx
  obtain ⟨its2, rv2, p2⟩ := sqk_is I1 hqy
  have la := p1.lt
  have lb := p2.lt
  refine call_zipSq p1 p2 fun h' hz hTI hTO h1 h2 hsz hk => wpAny_pyIter_zip hz ?_
  refine ⟨s1.heap.objs.size + 4, [s1.heap.objs.size + 4, s1.heap.objs.size + 2, s1.heap.objs.size + 3, s1.heap.objs.size, s1.heap.objs.size + 1], _, _, H1, rfl, I1.kept (t' := s1.toks) hk, turn_zpX tp tq a b _ _ _ _ _ (zip_sep s1.heap.objs.size a b la lb) (Nat.ne_of_lt la) (Nat.ne_of_lt (Nat.lt_succ_of_lt lb)), ⟨hz, hTI, ⟨_, _, hTO⟩, h1, h2⟩, fun c hcm => ?_, q⟩
  have hle : s1.heap.objs.size ≤ c := by
    have e' : c = s1.heap.objs.size + 4 ∨ c = s1.heap.objs.size + 2 ∨ c = s1.heap.objs.size + 3 ∨ c = s1.heap.objs.size ∨ c = s1.heap.objs.size + 1 := by simpa using hcm
    rcases e' with z | z | z | z | z <;> rw [z]
    · exact Nat.le_add_right _ _
    · exact Nat.le_add_right _ _
    · exact Nat.le_add_right _ _
    · exact Nat.le_refl _
    · exact Nat.le_add_right _ _
  exact I1.fpOk hle (I1.hok.fresh hle)
end
/-! ### the walks -/
def SqS (tp : Bool) (K : PySem.W.Frag) (S : Hp) (a : Addr) (vs : List V) : Prop := if tp = true then SqT K S a vs else S a = some (.lst vs)
theorem SqS.k {tp : Bool} {K : PySem.W.Frag} {S H : Hp} {a : Addr} {vs : List V} (h : SqS tp K S a vs) (s : Hsub S H) : SqK tp K H a vs := by
  cases tp
  · exact SqL.of (s _ _ h)
  · exact sqt_mono s h
def enD (ds : List D) : List D := (List.range ds.length).zipWith (fun i d => .tup [.int (i : Nat), d]) ds
def zpD (ds es : List D) : List D := ds.zipWith (fun d e => .tup [d, e]) es
theorem enD_length (ds : List D) : (enD ds).length = ds.length := by unfold enD; simp
theorem enD_get {ds : List D} {i : Nat} {d : D} (h : (enD ds)[i]? = some d) : ∃ e, ds[i]? = some e ∧ d = .tup [.int (i : Nat), e] := by
  have hl : i < ds.length := by rw [← enD_length ds]; exact (List.getElem?_eq_some_iff.mp h).1
  unfold enD at h
  rw [List.getElem?_zipWith, List.getElem?_range hl, List.getElem?_eq_getElem hl] at h
  cases h
  exact ⟨_, List.getElem?_eq_getElem hl, rfl⟩
theorem zpD_get {ds es : List D} {i : Nat} {d : D} (h : (zpD ds es)[i]? = some d) : ∃ e f, ds[i]? = some e ∧ es[i]? = some f ∧ d = .tup [e, f] := by
  unfold zpD at h
  rw [List.getElem?_zipWith] at h
  cases h1 : ds[i]? with
  | none => rw [h1] at h; cases h
  | some e =>
    cases h2 : es[i]? with
    | none => rw [h1, h2] at h; cases h
    | some f => rw [h1, h2] at h; cases h; exact ⟨e, f, rfl, rfl, rfl⟩
theorem Wk.en {K : PySem.W.Frag} {mg : Str → Option Value} {S : Hp} {tp : Bool} {a : Addr} {vs : List V} {ds : List D} (h : SqS tp K S a vs) (r : Rps K mg S vs ds) : Wk K mg (IteX tp K a) S (enD ds) where
  go := fun b σ S' H ρ i e1 e2 s G hi => by
    have hl := Rps.length r
    rw [enD_length] at hi
    exact ⟨vs, vs[i]'(by omega), h.k (s.trans G.sub), by simp⟩
  yld := fun b σ S' H H' ρ i d x e1 e2 s G hd ⟨T, o, y, ev, hT, ho, eH, hy⟩ => by
    obtain ⟨e, he, rfl⟩ := enD_get hd
    obtain ⟨v, hv, rv⟩ := Rps.get r he
    have hx := hy vs (h.k (s.trans G.sub))
    rw [hv] at hx; cases hx
    subst ev eH
    refine ⟨_, Hsub.new (G.sn hT), G.new hT, .tup (SqX.of upd_same ho.1 ho.2) (.cons (.int _) (.cons (Rp.mono (s.trans (Hsub.new (G.sn hT))) _ _ rv) .nil))⟩
  stop := fun b σ S' H ρ e1 e2 s G => ⟨vs, h.k (s.trans G.sub), by rw [Rps.length r, enD_length]⟩
theorem Wk.zp {K : PySem.W.Frag} {mg : Str → Option Value} {S : Hp} {tp tq : Bool} {a c : Addr} {vs ws : List V} {ds es : List D} (h : SqS tp K S a vs) (r : Rps K mg S vs ds) (h' : SqS tq K S c ws) (r' : Rps K mg S ws es) : Wk K mg (ItzX tp tq K a c) S (zpD ds es) where
  go := fun b σ S' H ρ i e1 e2 s G hi => by
    have hl := Rps.length r
    have hl' := Rps.length r'
    have hm : i < ds.length ∧ i < es.length := by unfold zpD at hi; rw [List.length_zipWith] at hi; omega
    exact ⟨vs, ws, vs[i]'(by omega), ws[i]'(by omega), h.k (s.trans G.sub), h'.k (s.trans G.sub), by simp, by simp⟩
  yld := fun b σ S' H H' ρ i d x e1 e2 s G hd ⟨T, o, y, z, ev, hT, ho, eH, hy, hz⟩ => by
    obtain ⟨e, f, he, hf, rfl⟩ := zpD_get hd
    obtain ⟨v, hv, rv⟩ := Rps.get r he
    obtain ⟨u, hu, ru⟩ := Rps.get r' hf
    have hx := hy vs (h.k (s.trans G.sub))
    have hx' := hz ws (h'.k (s.trans G.sub))
    rw [hv] at hx; cases hx
    rw [hu] at hx'; cases hx'
    subst ev eH
    exact ⟨_, Hsub.new (G.sn hT), G.new hT, .tup (SqX.of upd_same ho.1 ho.2) (.cons (Rp.mono (s.trans (Hsub.new (G.sn hT))) _ _ rv) (.cons (Rp.mono (s.trans (Hsub.new (G.sn hT))) _ _ ru) .nil))⟩
  stop := fun b σ S' H ρ e1 e2 s G => by
    have hl := Rps.length r
    have hl' := Rps.length r'
    refine ⟨vs, ws, h.k (s.trans G.sub), h'.k (s.trans G.sub), ?_⟩
    unfold zpD
    rw [List.length_zipWith]
    omega
def evEn (fa : M (List R)) : M (List D) := M.bnd fa fun rs => M.bnd (frzSs rs) fun ds => M.lift (match ds with
  | [d] => (sqD d).map enD
  | _ => none)
def evZp (fa : M (List R)) : M (List D) := M.bnd fa fun rs => M.bnd (frzSs rs) fun ds => M.lift (match ds with
  | [d, e] => (match sqD d, sqD e with
    | some xs, some ys => some (zpD xs ys)
    | _, _ => none)
  | _ => none)
theorem sqs_of {K : PySem.W.Frag} {mg : Str → Option Value} {S : Hp} {v : V} {d : D} {xs : List D} (r : Rp K mg S v d) (h : sqD d = some xs) : ∃ a tp vs, v = .ref a ∧ SqS tp K S a vs ∧ Rps K mg S vs xs := by
  cases r with
  | tup p q => cases h; exact ⟨_, true, _, rfl, p.1, q⟩
  | lst p q => cases h; exact ⟨_, false, _, rfl, p, q⟩
  | _ => cases h
section
variable {b : Bs} {W : WX} {L : Nat} {X : Cx} {p pos tpos : Pos} {e1 e2 : Expr} {elts : List Expr} {kk : Nat} {fs : M (List R)}
theorem pi_enM (o : OKx b L X) (ha : PA X [e1] (rAr b W fs)) (hm : X.mg "enumerate" = none) (hg : Gl X "enumerate" := by rfl) (hs : starEach [e1] X.env = [(false, eval e1 X.env)] := by rfl) : PI X (.Tuple elts kk tpos) (.Call (.Name "enumerate" p) [e1] [] pos) (iX b W (evEn fs)) := by
  refine PI.weak (pi_enX hg hm ha hs) fun σ H R ⟨b', S, ρ, eb, G, w⟩ => ⟨b', S, ρ, eb, G, Wp.mono (Wp.bind w) fun S1 H1 ρ1 rs s1 G1 w1 vs hvs => ?_⟩
  obtain ⟨S2, ρ2, ds, s2, G2, r2, w2⟩ := Wp.frzSs G1 hvs (Wp.bind w1)
  obtain ⟨xs, hx, k⟩ := Wp.lift G2 w2
  split at hx
  · obtain ⟨ys, hy, rfl⟩ := Option.map_eq_some_iff.mp hx
    cases r2 with
    | cons h1 h2 =>
      cases h2
      obtain ⟨a, tp, us, rfl, q1, q2⟩ := sqs_of h1 hy
      rw [o.K, ← eb.1]
      exact ⟨a, rfl, tp, us, q1.k G2.sub, k _ (Wk.en q1 q2)⟩
  · cases hx
theorem pi_zpM (o : OKx b L X) (ha : PA X [e1, e2] (rAr b W fs)) (hm : X.mg "zip" = none) (hg : Gl X "zip" := by rfl) (hs : starEach [e1, e2] X.env = (false, eval e1 X.env) :: starEach [e2] X.env := by rfl) (hpl : (backTo pos (starEach [e2] X.env)).any (·.1) = false := by rfl) :
    PI X (.Tuple elts kk tpos) (.Call (.Name "zip" p) [e1, e2] [] pos) (iX b W (evZp fs)) := by
  refine PI.weak (pi_zpX hg hm ha hs hpl) fun σ H R ⟨b', S, ρ, eb, G, w⟩ => ⟨b', S, ρ, eb, G, Wp.mono (Wp.bind w) fun S1 H1 ρ1 rs s1 G1 w1 vs hvs => ?_⟩
  obtain ⟨S2, ρ2, ds, s2, G2, r2, w2⟩ := Wp.frzSs G1 hvs (Wp.bind w1)
  obtain ⟨xs, hx, k⟩ := Wp.lift G2 w2
  split at hx
  · split at hx
    · rename_i _ xs' ys' hy hy'
      cases hx
      cases r2 with
      | cons h1 h2 =>
        cases h2 with
        | cons h2 h3 =>
          cases h3
          obtain ⟨a, tp, us, rfl, q1, q2⟩ := sqs_of h1 hy
          obtain ⟨c, tq, ws, rfl, q3, q4⟩ := sqs_of h2 hy'
          rw [o.K, ← eb.1]
          exact ⟨a, c, rfl, tp, tq, us, ws, q1.k G2.sub, q3.k G2.sub, k _ (Wk.zp q1 q2 q3 q4)⟩
    · cases hx
  · cases hx
end
end Mc
end
section
set_option Elab.async false
set_option linter.all false
set_option maxRecDepth 100000
set_option maxHeartbeats 4000000
set_option autoImplicit false
namespace Mc
open PySem PySem.Spec L2

/-! ### a, b = x, y -/
section
variable {b : Bs} {W : WX} {σ : L2.St} {S S' H H' : Hp} {ρ ρ' : ES}
theorem Wp.re {α : Type} {f : M α} {P : Hp → Hp → ES → α → Prop} (G : Good b σ S H ρ) (w : Wp b W σ f S H ρ P) : Wp (Mc.re b σ S H ρ) W σ f S H ρ P := by
  unfold Wp WpO at w ⊢
  cases e : f ρ with
  | none => rw [e] at w; exact w
  | some r =>
    rw [e] at w
    cases r with
    | ok a ρ' => exact fun S' H' s G' => w S' H' s (G.tr G')
    | er x ρ' => exact fun S' H' cls d s G' hx => w S' H' cls d s (G.tr G') hx
theorem RR.turn {v : V} {r : R} (G : Good b σ S H ρ) (h : RR b σ S H ρ v r) (s : Hsub S S') (G' : Good (Mc.re b σ S H ρ) σ S' H' ρ') : RR b σ S' H' ρ' v r := by
  cases r with
  | va d => exact Rp.mono s _ _ h
  | sl i => exact h
  | ow ds =>
    obtain ⟨a, vs, e, h1, h2, h3, h4, h5⟩ := h
    have nB : ¬ (Mc.re b σ S H ρ).B a := fun ⟨i, w⟩ => h4 i w
    refine ⟨a, vs, e, G'.k0 a _ h1 nB, ?_, Rps.mono s _ _ h3, fun i w => ?_, h5⟩
    · cases q : S' a with
      | none => rfl
      | some o =>
        rcases G'.n0 a (by rw [q]; exact fun z => nomatch z) with z | z | z
        · exact (z h2).elim
        · have z' : H a = none := z
          rw [h1] at z'; cases z'
        · exact (nB z).elim
    · rcases G'.o0 i a w with z | z
      · have z' : H a = none := z
        rw [h1] at z'; cases z'
      · exact nB z
/-- apart from an earlier new list -/
theorem RR.apart {v u : V} {ds es : List D} (h : RR b σ S H ρ v (.ow ds)) (h' : RR (Mc.re b σ S H ρ) σ S' H' ρ' u (.ow es)) : v ≠ u := by
  obtain ⟨a, vs, e, h1, h2, h3, h4, h5⟩ := h
  obtain ⟨c, ws, e', q1, q2, q3, q4, q5⟩ := h'
  intro z
  rw [e, e'] at z
  cases z
  rcases q5 with y | ⟨i, y⟩
  · have y' : H a = none := y
    rw [h1] at y'; cases y'
  · exact h4 i y
end
def setR (i : Nat) (r : R) (ρ : ES) : Option ES := if i < ρ.length then (match r with
  | .va d => some (ρ.set i (.va d))
  | .ow ds => some (ρ.set i (.ow ds))
  | .sl _ => none) else none
section
variable {b : Bs} {W : WX} {σ : L2.St} {S H : Hp} {ρ ρ' : ES}
theorem Good.setR {i : Nat} {r : R} {v : V} (G : Good b σ S H ρ) (h : RR b σ S H ρ v r) (e : Mc.setR i r ρ = some ρ') : Good b (σ.set i (some v)) S H ρ' := by
  unfold Mc.setR at e
  split at e
  · rename_i hi
    cases r with
    | va d => cases e; exact G.setVa hi h
    | ow ds => cases e; exact G.setOw hi h
    | sl _ => cases e
  · cases e
/-- a value that waits while a slot is stored -/
theorem RR.wait {i : Nat} {r q : R} {v u : V} (h : RR b σ S H ρ v r) (hq : RR b σ S H ρ u q) (hr : ∀ j, q ≠ .sl j) (ap : ∀ ds es, r = .ow ds → q = .ow es → v ≠ u) (e : Mc.setR i r ρ = some ρ') : RR b (σ.set i (some v)) S H ρ' u q := by
  cases q with
  | va d => exact hq
  | sl j => exact absurd rfl (hr j)
  | ow es =>
    obtain ⟨a, vs, e1, h1, h2, h3, h4, h5⟩ := hq
    refine ⟨a, vs, e1, h1, h2, h3, fun j w => ?_, h5⟩
    unfold Mc.setR at e
    split at e
    · rename_i hi
      cases r with
      | sl _ => cases e
      | va d =>
        cases e
        by_cases hj : j = i
        · subst hj
          obtain ⟨_, s, z, y⟩ := w
          rw [List.getElem?_set_self hi] at z
          cases z
          cases y
        · exact h4 j (w.set_ne hj)
      | ow ds =>
        cases e
        by_cases hj : j = i
        · subst hj
          obtain ⟨z, s, y, _⟩ := w
          obtain ⟨a', vs', e', h1', _⟩ := h
          have hl : j < σ.length ∨ ¬ j < σ.length := Nat.lt_or_ge j σ.length |>.imp id Nat.not_lt.mpr
          rcases hl with hl | hl
          · rw [List.getElem?_set_self hl] at z
            cases z
            exact ap ds es rfl rfl e1.symm
          · rw [List.getElem?_eq_none (by rw [List.length_set]; omega)] at z; cases z
        · exact h4 j (w.set_ne hj)
    · cases e
end
def noSl : R → Bool
  | .sl _ => false
  | _ => true
def evPar2 (i j : Nat) (fa fb : M R) : M Fl := M.bnd fa fun r1 => M.bnd fb fun r2 ρ => if (noSl r1 && noSl r2) = true then (match setR i r1 ρ with
  | some ρ1 => (match setR j r2 ρ1 with
    | some ρ2 => some (.ok .nx ρ2)
    | none => none)
  | none => none) else none
def evPar3 (i j l : Nat) (fa fb fc : M R) : M Fl := M.bnd fa fun r1 => M.bnd fb fun r2 => M.bnd fc fun r3 ρ => if (noSl r1 && (noSl r2 && noSl r3)) = true then (match setR i r1 ρ with
  | some ρ1 => (match setR j r2 ρ1 with
    | some ρ2 => (match setR l r3 ρ2 with
      | some ρ3 => some (.ok .nx ρ3)
      | none => none)
    | none => none)
  | none => none) else none
theorem noSl_ne {r : R} (h : noSl r = true) : ∀ j, r ≠ .sl j := fun j e => by subst e; cases h
section
variable {b : Bs} {W : WX} {L : Nat} {X : Cx} {px py pz pt pos : Pos} {kt k2 : Nat} {pt2 : Pos} {x y z : Str} {e1 e2 e3 : Expr} {fa fb fc : M R} {i j l : Nat}
theorem s_par2 (i j : Nat) (o : OKx b L X) (ha : PE X e1 (rE b W fa)) (hb : PE X e2 (rE b W fb)) (hi : X.N[i]? = some x := by rfl) (hj : X.N[j]? = some y := by rfl) (hij : i ≠ j := by decide) (hx : X.env.scope.names.lookup x = some .local := by rfl) (hy : X.env.scope.names.lookup y = some .local := by rfl)
    (hw : swappedStores [.Tuple [.Name x px, .Name y py] kt pt] (.Tuple [e1, e2] k2 pt2) X.env = pure (some [x, y]) := by rfl) (hs : swapsWithSole [.Tuple [.Name x px, .Name y py] kt pt] (.Tuple [e1, e2] k2 pt2) pos.line X.env = pure false := by rfl)
    (hs1 : starEach [e1, e2] X.env = (false, eval e1 X.env) :: starEach [e2] X.env := by rfl) (hs2 : starEach [e2] X.env = (false, eval e2 X.env) :: starEach [] X.env := by rfl) :
    PS X (.Assign [.Tuple [.Name x px, .Name y py] kt pt] (.Tuple [e1, e2] k2 pt2) pos) (rS b W (evPar2 i j fa fb)) := by
  refine PS.weak (ps_par o.calm o.nd hi hj hij hx hy (pa_cons ha (pa_cons hb pa_nil hs2) hs1) hw hs) fun D σ H ⟨b', S, ρ, eb, G, w⟩ => ⟨b', S, ρ, eb, G, ?_⟩
  refine Wp.mono (WpS.bind (σ := σ) (H := H) w) fun S1 H1 ρ1 r1 s1 G1 w1 v hv => ?_
  have w1' := Wp.re G1 (WpS.bind (σ := σ) (H := H1) w1)
  refine ⟨re b' σ S1 H1 ρ1, S1, ρ1, ⟨eb.1, eb.2⟩, G1.re, Wp.mono w1' fun S2 H2 ρ2 r2 s2 G2 w2 u hu => ⟨v, u, rfl, ?_⟩⟩
  have G3 := G1.tr G2
  have hv3 := RR.turn G1 hv s2 G2
  have hu3 := RR.re G1 hu
  cases hn : (noSl r1 && noSl r2) with
  | false => exact wps_none (by simp only [hn]; rfl) w2
  | true =>
    obtain ⟨n1, n2⟩ := Bool.and_eq_true_iff.mp hn
    simp only [hn, if_true] at w2
    cases q1 : setR i r1 ρ2 with
    | none => exact wps_none (by simp only [q1]) w2
    | some ρ3 =>
      cases q2 : setR j r2 ρ3 with
      | none => exact wps_none (by simp only [q1, q2]) w2
      | some ρ4 =>
        simp only [q1, q2] at w2
        have G4 := G3.setR hv3 q1
        have hu4 := RR.wait hv3 hu3 (noSl_ne n2) (fun ds es e1 e2 => by subst e1 e2; exact RR.apart hv hu) q1
        exact w2 _ S2 H2 (Hsub.refl _) (G4.setR hu4 q2)
theorem s_par3 (i j l : Nat) (o : OKx b L X) (ha : PE X e1 (rE b W fa)) (hb : PE X e2 (rE b W fb)) (hc : PE X e3 (rE b W fc)) (hi : X.N[i]? = some x := by rfl) (hj : X.N[j]? = some y := by rfl) (hl : X.N[l]? = some z := by rfl) (hij : i ≠ j := by decide) (hil : i ≠ l := by decide) (hjl : j ≠ l := by decide)
    (hx : X.env.scope.names.lookup x = some .local := by rfl) (hy : X.env.scope.names.lookup y = some .local := by rfl) (hz : X.env.scope.names.lookup z = some .local := by rfl)
    (hw : swappedStores [.Tuple [.Name x px, .Name y py, .Name z pz] kt pt] (.Tuple [e1, e2, e3] k2 pt2) X.env = pure (some [x, y, z]) := by rfl) (hs : swapsWithSole [.Tuple [.Name x px, .Name y py, .Name z pz] kt pt] (.Tuple [e1, e2, e3] k2 pt2) pos.line X.env = pure false := by rfl)
    (hs1 : starEach [e1, e2, e3] X.env = (false, eval e1 X.env) :: starEach [e2, e3] X.env := by rfl) (hs2 : starEach [e2, e3] X.env = (false, eval e2 X.env) :: starEach [e3] X.env := by rfl) (hs3 : starEach [e3] X.env = (false, eval e3 X.env) :: starEach [] X.env := by rfl) :
    PS X (.Assign [.Tuple [.Name x px, .Name y py, .Name z pz] kt pt] (.Tuple [e1, e2, e3] k2 pt2) pos) (rS b W (evPar3 i j l fa fb fc)) := by
  refine PS.weak (ps_par3 o.calm o.nd hi hj hl hij hil hjl hx hy hz (pa_cons ha (pa_cons hb (pa_cons hc pa_nil hs3) hs2) hs1) hw hs) fun D σ H ⟨b', S, ρ, eb, G, w⟩ => ⟨b', S, ρ, eb, G, ?_⟩
  refine Wp.mono (WpS.bind (σ := σ) (H := H) w) fun S1 H1 ρ1 r1 s1 G1 w1 v hv => ?_
  have w1' := Wp.re G1 (WpS.bind (σ := σ) (H := H1) w1)
  refine ⟨re b' σ S1 H1 ρ1, S1, ρ1, ⟨eb.1, eb.2⟩, G1.re, Wp.mono w1' fun S2 H2 ρ2 r2 s2 G2 w2 u hu => ?_⟩
  have G3 := G1.tr G2
  have hv3 := RR.turn G1 hv s2 G2
  have hu3 := RR.re G1 hu
  have w2' := Wp.re G3 (WpS.bind (σ := σ) (H := H2) w2)
  refine ⟨re b' σ S2 H2 ρ2, S2, ρ2, ⟨eb.1, eb.2⟩, G3.re, Wp.mono w2' fun S3 H3 ρ3 r3 s3 G4 w3 t ht => ⟨v, u, t, rfl, ?_⟩⟩
  have G5 := G3.tr G4
  have hv5 := RR.turn G3 hv3 s3 G4
  have hu5 := RR.turn G3 hu3 s3 G4
  have ht5 := RR.re G3 ht
  cases hn : (noSl r1 && (noSl r2 && noSl r3)) with
  | false => exact wps_none (by simp only [hn]; rfl) w3
  | true =>
    obtain ⟨n1, n23⟩ := Bool.and_eq_true_iff.mp hn
    obtain ⟨n2, n3⟩ := Bool.and_eq_true_iff.mp n23
    simp only [hn, if_true] at w3
    cases q1 : setR i r1 ρ3 with
    | none => exact wps_none (by simp only [q1]) w3
    | some ρ4 =>
      cases q2 : setR j r2 ρ4 with
      | none => exact wps_none (by simp only [q1, q2]) w3
      | some ρ5 =>
        cases q3 : setR l r3 ρ5 with
        | none => exact wps_none (by simp only [q1, q2, q3]) w3
        | some ρ6 =>
          simp only [q1, q2, q3] at w3
          have G6 := G5.setR hv5 q1
          have hu6 := RR.wait hv5 hu5 (noSl_ne n2) (fun ds es e1 e2 => by subst e1 e2; exact RR.apart hv hu) q1
          have ht6 := RR.wait hv5 ht5 (noSl_ne n3) (fun ds es e1 e2 => by subst e1 e2; exact RR.apart hv3 ht) q1
          have G7 := G6.setR hu6 q2
          have ht7 := RR.wait hu6 ht6 (noSl_ne n3) (fun ds es e1 e2 => by subst e1 e2; exact RR.apart hu3 ht) q2
          exact w3 _ S3 H3 (Hsub.refl _) (G7.setR ht7 q3)

/-! ### names of the module: a number, a def -/
theorem pe_gint {i : Int} (h : ∃ t, X.mg x = some (.int i t)) (hg : Gl X x := by rfl) (hd : (x == ("__debug__" : Str)) = false := by decide) : PE X (.Name x px) (rE b W (evC (.int i))) := by
  obtain ⟨t, ht⟩ := h
  exact PE.weak (pe_glob hg ht (v := .int i) ⟨t, rfl⟩ hd) fun σ H Q ⟨b', S, ρ, eb, G, w⟩ => w S H (Hsub.refl _) G _ (.int i)
theorem pe_gfn {f : Addr} (o : OKx b L X) (h : X.mg x = some (.ref f)) (hg : Gl X x := by rfl) (hd : (x == ("__debug__" : Str)) = false := by decide) : PE X (.Name x px) (rE b W (evC (.fn x))) :=
  PE.weak (pe_glob hg h (v := .ref f) rfl hd) fun σ H Q ⟨b', S, ρ, eb, G, w⟩ => w S H (Hsub.refl _) G _ (.fn (by rw [eb.2, ← o.mg]; exact h))

/-! ### what is not reached -/
def evNo {α : Type} : M α := fun _ => none
theorem pe_no {e : Expr} : PE X e (rE b W evNo) := ⟨fun pins s σ H Q I ⟨b', S, ρ, eb, G, w⟩ => w.elim⟩
theorem pt_no {e : Expr} : PT X e (rT b W evNo) := ⟨fun pins s σ H Q I ⟨b', S, ρ, eb, G, w⟩ => w.elim⟩
theorem s_no {e : Stmt} : PS X e (rS b W evNo) := ⟨fun pins s σ H D I ⟨b', S, ρ, eb, G, w⟩ => w.elim⟩
theorem pi_no {tg e : Expr} : PI X tg e (iX b W evNo) := ⟨fun pins s σ H R I ⟨b', S, ρ, eb, G, w⟩ => w.elim⟩
end
end Mc
end
section
set_option Elab.async false
set_option linter.all false
set_option maxRecDepth 100000
set_option maxHeartbeats 4000000
set_option autoImplicit false
namespace Mc
open PySem PySem.Spec L2

/-! ### a def that stands in a slot is called -/
abbrev FTab := List (Str × Nat × (List D → Option DRes))
structure FTok (P : Program) (w : World) (K : PySem.W.Frag) (mg : Str → Option Value) (base : Heap) (k : Nat) (T : FTab) : Prop where
  ex : ∀ x n F, T.lookup x = some (n, F) → Dn P w K mg base x k n F
def evCallL (i : Nat) (T : FTab) (fs : M (List R)) : M R := fun ρ => match ρ[i]? with
  | some (.va (.fn x)) => (match T.lookup x with
    | some (n, F) => M.bnd fs (fun rs => if rs.length = n then noer (callK F rs) else fun _ => none) ρ
    | none => none)
  | _ => none
section
variable {b : Bs} {W : WX} {L k : Nat} {X : Cx} {p pos : Pos} {x : Str} {e1 : Expr} {es : List Expr} {fs : M (List R)} {T : FTab}
theorem noer_wf {f : M R} {σ : L2.St} {S H : Hp} {ρ : ES} {P : Hp → Hp → ES → R → Prop} (w : Wp b W σ (noer f) S H ρ P) : Wp b WF σ f S H ρ P := by
  unfold Wp WpO noer at w
  unfold Wp WpO
  cases e : f ρ with
  | none => rw [e] at w; exact w.elim
  | some z =>
    rw [e] at w
    cases z with
    | ok r ρ' => exact w
    | er _ _ => exact w.elim
theorem pe_fnL (i : Nat) (o : OKx b L X) (ft : FTok X.prog X.w X.K X.mg X.base k T) (ha : PA X (e1 :: es) (rAr b W fs)) (hk : k ≤ L := by decide) (hN : X.N[i]? = some x := by rfl) (hv : Vis X.env.scope x := by first | exact Or.inl rfl | exact Or.inr (Or.inl rfl) | exact Or.inr (Or.inr rfl))
    (hdb : (x == ("__debug__" : Str)) = false := by decide) (hcd : (x == ("__classdict__" : Str)) = false := by decide) (he : starEach (e1 :: es) X.env = (false, eval e1 X.env) :: starEach es X.env := by rfl) (hpl : (backTo pos (starEach es X.env)).any (·.1) = false := by rfl) :
    PE X (.Call (.Name x p) (e1 :: es) [] pos) (rE b W (evCallL i T fs)) := by
  refine ⟨fun pins s σ H Q I ⟨b', S, ρ, eb, G, w⟩ => ?_⟩
  unfold Wp WpO evCallL at w
  cases hi : ρ[i]? with
  | none => rw [hi] at w; exact w.elim
  | some sl =>
    rw [hi] at w
    cases sl with
    | va d =>
      cases d with
      | fn y =>
        cases hT : T.lookup y with
        | none => simp only [hT] at w
        | some nF =>
          obtain ⟨n, F⟩ := nF
          simp only [hT] at w
          obtain ⟨f, fd, ps, hm, kp, hb, Fk⟩ := (ft.ex y n F hT).ex
          obtain ⟨v, e1', r1⟩ := G.sl i _ hi
          have em : X.mg = b'.mg := by rw [o.mg, eb.2]
          cases r1 with
          | fn hy =>
            rw [← em, hm] at hy
            cases hy
            refine (pe_callL (E := E0) (dvs := []) (ds := []) Fk (o.rm.mono hk) hN hv kp hb .nil passL ha hdb hcd he hpl).run pins s σ H Q I ⟨e1', b', S, ρ, eb, G, ?_⟩
            refine Wp.mono (Wp.bind (f := fs) (g := fun rs => if rs.length = n then noer (callK F rs) else fun _ => none) w) fun S1 H1 ρ1 rs s1 G1 q vs hvs => ?_
            by_cases hn : rs.length = n
            · have q2 := wp_is (g := noer (callK F rs)) (by simp only [hn, if_true]) q
              have sp := call_wp hn G1 hvs (noer_wf q2)
              show spP X.K X.mg n F (vs ++ []) H1 Q E0
              rw [List.append_nil, o.K, o.mg, ← eb.1, ← eb.2]
              exact sp
            · exact wp_none (by simp only [hn, if_false]) q
      | _ => exact w.elim
    | _ => exact w.elim
end
end Mc
end
section
set_option Elab.async false
set_option linter.all false
set_option maxRecDepth 100000
set_option maxHeartbeats 4000000
set_option autoImplicit false
namespace Mc
open PySem PySem.Spec L2

/-! ### comparisons in one form -/
structure Cm (X : Cx) (b : Bs) (op : CmpOp) (g : D → D → Option R) : Prop where
  ex : ∃ r, OpR X (compareOp op) r ∧ Sem2 b.K g r
section
variable {b : Bs} {W : WX} {L k n : Nat} {X : Cx} {pos p : Pos} {e1 e2 e3 : Expr} {fa fb fc : M R} {op op' : CmpOp} {g g' : D → D → Option R} {x : Str} {es : List Expr} {fs : M (List R)}
theorem cm_eq (o : OKx b L X) : Cm X b .Eq eqD := ⟨⟨rEqD X.K, op_eqD (by have := o.un; omega), by rw [o.K]; exact sem2 fun b => sem_eq⟩⟩
theorem cm_ne (o : OKx b L X) : Cm X b .NotEq neD := ⟨⟨rNeD X.K, op_neD (by have := o.un; omega), by rw [o.K]; exact sem2 fun b => sem_ne⟩⟩
theorem cm_lt (o : OKx b L X) : Cm X b .Lt ltD := ⟨⟨_, op_lt' o, by rw [o.K]; exact sem2 (r := fun K => rOrd K fun p q => PySem.W.dataLt p q) fun b => sem_lt⟩⟩
theorem cm_gt (o : OKx b L X) : Cm X b .Gt gtD := ⟨⟨_, op_gt' o, by rw [o.K]; exact sem2 (r := fun K => rOrd K fun p q => PySem.W.dataLt q p) fun b => sem_gt⟩⟩
theorem cm_le (o : OKx b L X) : Cm X b .LtE leD := ⟨⟨_, op_le' o, by rw [o.K]; exact sem2 (r := fun K => rOrd K fun p q => !PySem.W.dataLt q p) fun b => sem_le⟩⟩
theorem cm_ge (o : OKx b L X) : Cm X b .GtE geD := ⟨⟨_, op_ge' o, by rw [o.K]; exact sem2 (r := fun K => rOrd K fun p q => !PySem.W.dataLt p q) fun b => sem_ge⟩⟩
theorem cm_in (o : OKx b L X) : Cm X b .In inD := ⟨⟨_, op_inU o, by rw [o.K]; exact sem2 (r := fun K => rInU K false) fun b => sem_in⟩⟩
theorem cm_nin (o : OKx b L X) : Cm X b .NotIn ninD := ⟨⟨_, op_ninU o, by rw [o.K]; exact sem2 (r := fun K => rInU K true) fun b => sem_nin⟩⟩
theorem cm_is (o : OKx b L X) : Cm X b .Is isD := ⟨⟨_, op_isK, fun b _ => sem_is⟩⟩
theorem cm_isnt (o : OKx b L X) : Cm X b .IsNot isntD := ⟨⟨_, op_isntK, fun b _ => sem_isnt⟩⟩
theorem pe_c (c : Cm X b op g) (ha : PE X e1 (rE b W fa)) (hb : PE X e2 (rE b W fb)) (hm : behindInMarks op e2 = false := by first | exact nomark _ | rfl) : PE X (.Compare e1 [op] [e2] pos) (rE b W (evBin g fa fb)) := by
  obtain ⟨r, h1, h2⟩ := c.ex
  exact pe_cmpM h1 h2 hm ha hb
theorem pt_c (c : Cm X b op g) (ha : PE X e1 (rE b W fa)) (hb : PE X e2 (rE b W fb)) (hm : behindInMarks op e2 = false := by first | exact nomark _ | rfl) : PT X (.Compare e1 [op] [e2] pos) (rT b W (evBl (evBin g fa fb))) := by
  obtain ⟨r, h1, h2⟩ := c.ex
  exact pt_cmpM h1 h2 hm ha hb
theorem pe_ch (c : Cm X b op g) (c' : Cm X b op' g') (ha : PE X e1 (rE b W fa)) (hb : PE X e2 (rE b W fb)) (hc : PE X e3 (rE b W fc)) (hm : lastMarks [op, op'] [e2, e3] = false := by with_unfolding_all rfl) : PE X (.Compare e1 [op, op'] [e2, e3] pos) (rE b W (evChain g g' fa fb fc)) := by
  obtain ⟨r, h1, h2⟩ := c.ex
  obtain ⟨r', h1', h2'⟩ := c'.ex
  exact pe_chainM h1 h1' h2 h2' ha hb hc hm
theorem pt_ch (c : Cm X b op g) (c' : Cm X b op' g') (ha : PE X e1 (rE b W fa)) (hb : PE X e2 (rE b W fb)) (hc : PE X e3 (rE b W fc)) (hm : lastMarks [op, op'] [e2, e3] = false := by with_unfolding_all rfl) : PT X (.Compare e1 [op, op'] [e2, e3] pos) (rT b W (evBl (evChain g g' fa fb fc))) := by
  obtain ⟨r, h1, h2⟩ := c.ex
  obtain ⟨r', h1', h2'⟩ := c'.ex
  exact pt_chainM h1 h1' h2 h2' ha hb hc hm

/-! ### levels -/
theorem Dn.up {P : Program} {w : World} {K : PySem.W.Frag} {mg : Str → Option Value} {base : Heap} {F : List D → Option DRes} (d : Dn P w K mg base x k n F) {j : Nat} (h : k ≤ j) : Dn P w K mg base x j n F := by
  obtain ⟨f, fd, ps, h1, h2, h3, h4⟩ := d.ex
  exact ⟨f, fd, ps, h1, h2, h3, h4.mono h⟩

/-! ### built-in functions by name -/
structure Bi (K : PySem.W.Frag) (mg : Str → Option Value) : Prop where
  len : mg "len" = none
  abs : mg "abs" = none
  int : mg "int" = none
  str : mg "str" = none
  bool : mg "bool" = none
  tuple : mg "tuple" = none
  list : mg "list" = none
  sum : mg "sum" = none
  any : mg "any" = none
  all : mg "all" = none
  max : mg "max" = none
  min : mg "min" = none
  sorted : mg "sorted" = none
  isinstance : mg "isinstance" = none
  range : mg "range" = none
  enumerate : mg "enumerate" = none
  zip : mg "zip" = none
end
end Mc
end
section
set_option Elab.async false
set_option linter.all false
set_option maxRecDepth 100000
set_option maxHeartbeats 4000000
set_option autoImplicit false
namespace Mc
open PySem PySem.Spec L2
section
variable {b : Bs} {W : WX} {L k n : Nat} {X : Cx} {pos p : Pos} {e1 e2 e3 : Expr} {fa fb fc : M R} {x : Str} {es : List Expr} {fs : M (List R)}
theorem pe_len (o : OKx b L X) (bi : Bi X.K X.mg) (ha : PA X (e1 :: es) (rAr b W fs)) (hg : Gl X "len" := by rfl)
    (he : starEach (e1 :: es) X.env = (false, eval e1 X.env) :: starEach es X.env := by rfl) (hpl : (backTo pos (starEach es X.env)).any (·.1) = false := by rfl) : PE X (.Call (.Name "len" p) (e1 :: es) [] pos) (rE b W (evB lenD fs)) :=
  pe_cB call_len (by first | exact sem_len | (rw [o.K]; exact sem_len)) ha bi.len (by decide +kernel) hg (by decide) (by decide) he hpl
theorem pe_abs (o : OKx b L X) (bi : Bi X.K X.mg) (ha : PA X (e1 :: es) (rAr b W fs)) (hg : Gl X "abs" := by rfl)
    (he : starEach (e1 :: es) X.env = (false, eval e1 X.env) :: starEach es X.env := by rfl) (hpl : (backTo pos (starEach es X.env)).any (·.1) = false := by rfl) : PE X (.Call (.Name "abs" p) (e1 :: es) [] pos) (rE b W (evB absD fs)) :=
  pe_cB call_abs (by first | exact sem_abs | (rw [o.K]; exact sem_abs)) ha bi.abs (by decide +kernel) hg (by decide) (by decide) he hpl
theorem pe_int (o : OKx b L X) (bi : Bi X.K X.mg) (ha : PA X (e1 :: es) (rAr b W fs)) (hg : Gl X "int" := by rfl)
    (he : starEach (e1 :: es) X.env = (false, eval e1 X.env) :: starEach es X.env := by rfl) (hpl : (backTo pos (starEach es X.env)).any (·.1) = false := by rfl) : PE X (.Call (.Name "int" p) (e1 :: es) [] pos) (rE b W (evB toiD fs)) :=
  pe_cT call_int1 (by first | exact sem_toi | (rw [o.K]; exact sem_toi)) ha bi.int (by decide +kernel) hg (by decide) (by decide) he hpl
theorem pe_str (o : OKx b L X) (bi : Bi X.K X.mg) (ha : PA X (e1 :: es) (rAr b W fs)) (hg : Gl X "str" := by rfl)
    (he : starEach (e1 :: es) X.env = (false, eval e1 X.env) :: starEach es X.env := by rfl) (hpl : (backTo pos (starEach es X.env)).any (·.1) = false := by rfl) : PE X (.Call (.Name "str" p) (e1 :: es) [] pos) (rE b W (evB strD fs)) :=
  pe_cT call_str_int (by first | exact sem_str | (rw [o.K]; exact sem_str)) ha bi.str (by decide +kernel) hg (by decide) (by decide) he hpl
theorem pe_tuple (o : OKx b L X) (bi : Bi X.K X.mg) (ha : PA X (e1 :: es) (rAr b W fs)) (hg : Gl X "tuple" := by rfl)
    (he : starEach (e1 :: es) X.env = (false, eval e1 X.env) :: starEach es X.env := by rfl) (hpl : (backTo pos (starEach es X.env)).any (·.1) = false := by rfl) : PE X (.Call (.Name "tuple" p) (e1 :: es) [] pos) (rE b W (evB tupD fs)) :=
  pe_cT call_tupX (by first | exact sem_tup | (rw [o.K]; exact sem_tup)) ha bi.tuple (by decide +kernel) hg (by decide) (by decide) he hpl
theorem pe_list (o : OKx b L X) (bi : Bi X.K X.mg) (ha : PA X (e1 :: es) (rAr b W fs)) (hg : Gl X "list" := by rfl)
    (he : starEach (e1 :: es) X.env = (false, eval e1 X.env) :: starEach es X.env := by rfl) (hpl : (backTo pos (starEach es X.env)).any (·.1) = false := by rfl) : PE X (.Call (.Name "list" p) (e1 :: es) [] pos) (rE b W (evB listD fs)) :=
  pe_cT call_list_of (by first | exact sem_list | (rw [o.K]; exact sem_list)) ha bi.list (by decide +kernel) hg (by decide) (by decide) he hpl
theorem pe_sum (o : OKx b L X) (bi : Bi X.K X.mg) (ha : PA X (e1 :: es) (rAr b W fs)) (hg : Gl X "sum" := by rfl)
    (he : starEach (e1 :: es) X.env = (false, eval e1 X.env) :: starEach es X.env := by rfl) (hpl : (backTo pos (starEach es X.env)).any (·.1) = false := by rfl) : PE X (.Call (.Name "sum" p) (e1 :: es) [] pos) (rE b W (evB sumD fs)) :=
  pe_cB (cr_sumA o.calm) (by first | exact sem_sum | (rw [o.K]; exact sem_sum)) ha bi.sum (by decide +kernel) hg (by decide) (by decide) he hpl
theorem pe_any (o : OKx b L X) (bi : Bi X.K X.mg) (ha : PA X (e1 :: es) (rAr b W fs)) (hg : Gl X "any" := by rfl)
    (he : starEach (e1 :: es) X.env = (false, eval e1 X.env) :: starEach es X.env := by rfl) (hpl : (backTo pos (starEach es X.env)).any (·.1) = false := by rfl) : PE X (.Call (.Name "any" p) (e1 :: es) [] pos) (rE b W (evB anyD fs)) :=
  pe_cB (cr_anyA o.calm) (by first | exact sem_any | (rw [o.K]; exact sem_any)) ha bi.any (by decide +kernel) hg (by decide) (by decide) he hpl
theorem pe_all (o : OKx b L X) (bi : Bi X.K X.mg) (ha : PA X (e1 :: es) (rAr b W fs)) (hg : Gl X "all" := by rfl)
    (he : starEach (e1 :: es) X.env = (false, eval e1 X.env) :: starEach es X.env := by rfl) (hpl : (backTo pos (starEach es X.env)).any (·.1) = false := by rfl) : PE X (.Call (.Name "all" p) (e1 :: es) [] pos) (rE b W (evB allD fs)) :=
  pe_cB (cr_allA o.calm) (by first | exact sem_all | (rw [o.K]; exact sem_all)) ha bi.all (by decide +kernel) hg (by decide) (by decide) he hpl
theorem pe_max1 (o : OKx b L X) (bi : Bi X.K X.mg) (ha : PA X (e1 :: es) (rAr b W fs)) (hg : Gl X "max" := by rfl)
    (he : starEach (e1 :: es) X.env = (false, eval e1 X.env) :: starEach es X.env := by rfl) (hpl : (backTo pos (starEach es X.env)).any (·.1) = false := by rfl) : PE X (.Call (.Name "max" p) (e1 :: es) [] pos) (rE b W (evB (best1D true) fs)) :=
  pe_cB (cr_max1 o) (by first | exact sem_best1 | (rw [o.K]; exact sem_best1)) ha bi.max (by decide +kernel) hg (by decide) (by decide) he hpl
theorem pe_max2 (o : OKx b L X) (bi : Bi X.K X.mg) (ha : PA X (e1 :: es) (rAr b W fs)) (hg : Gl X "max" := by rfl)
    (he : starEach (e1 :: es) X.env = (false, eval e1 X.env) :: starEach es X.env := by rfl) (hpl : (backTo pos (starEach es X.env)).any (·.1) = false := by rfl) : PE X (.Call (.Name "max" p) (e1 :: es) [] pos) (rE b W (evB (best2D true) fs)) :=
  pe_cB (cr_max2d o) (by first | exact sem_best2 | (rw [o.K]; exact sem_best2)) ha bi.max (by decide +kernel) hg (by decide) (by decide) he hpl
theorem pe_min1 (o : OKx b L X) (bi : Bi X.K X.mg) (ha : PA X (e1 :: es) (rAr b W fs)) (hg : Gl X "min" := by rfl)
    (he : starEach (e1 :: es) X.env = (false, eval e1 X.env) :: starEach es X.env := by rfl) (hpl : (backTo pos (starEach es X.env)).any (·.1) = false := by rfl) : PE X (.Call (.Name "min" p) (e1 :: es) [] pos) (rE b W (evB (best1D false) fs)) :=
  pe_cB (cr_min1 o) (by first | exact sem_best1 | (rw [o.K]; exact sem_best1)) ha bi.min (by decide +kernel) hg (by decide) (by decide) he hpl
theorem pe_min2 (o : OKx b L X) (bi : Bi X.K X.mg) (ha : PA X (e1 :: es) (rAr b W fs)) (hg : Gl X "min" := by rfl)
    (he : starEach (e1 :: es) X.env = (false, eval e1 X.env) :: starEach es X.env := by rfl) (hpl : (backTo pos (starEach es X.env)).any (·.1) = false := by rfl) : PE X (.Call (.Name "min" p) (e1 :: es) [] pos) (rE b W (evB (best2D false) fs)) :=
  pe_cB (cr_min2d o) (by first | exact sem_best2 | (rw [o.K]; exact sem_best2)) ha bi.min (by decide +kernel) hg (by decide) (by decide) he hpl
theorem pe_sorted (o : OKx b L X) (bi : Bi X.K X.mg) (ha : PA X (e1 :: es) (rAr b W fs)) (hg : Gl X "sorted" := by rfl)
    (he : starEach (e1 :: es) X.env = (false, eval e1 X.env) :: starEach es X.env := by rfl) (hpl : (backTo pos (starEach es X.env)).any (·.1) = false := by rfl) : PE X (.Call (.Name "sorted" p) (e1 :: es) [] pos) (rE b W (evB srtD fs)) :=
  pe_cB (cr_srt o) (by first | exact sem_srt | (rw [o.K]; exact sem_srt)) ha bi.sorted (by decide +kernel) hg (by decide) (by decide) he hpl
end
end Mc
end
section
set_option Elab.async false
set_option linter.all false
set_option maxRecDepth 100000
set_option maxHeartbeats 4000000
set_option autoImplicit false
namespace Mc
open PySem PySem.Spec L2

/-! ### a dict of tuple keys, by its entries alone: the keys are known elsewhere -/
abbrev Ks := List (List Key × Addr × Value)
abbrev TKd (P : Program) (w : World) : HeapKind P w (List Key) := tupleKind (mixKind P w)
def RawP (P : Program) (w : World) (D : Addr) (xs : Ks) (h : Heap) : Prop := (D == sysModules) = false ∧ (xs.map (·.1)).Nodup ∧ ∃ o es ep, h.get? D = some o ∧ o.ExactDict ∧ o.data = .dict es ep ∧ es.toList = xs.map (entryOfKey (TKd P w))
def rawO (P : Program) (w : World) (D : Addr) (xs : Ks) : HO := .ext (RawP P w D xs)
def KeysIn (K : PySem.W.Frag) (S : Hp) (xs : Ks) : Prop := ∀ x ∈ xs, SqT K S x.2.1 (x.1.map kV)
theorem rawO_ok {P : Program} {w : World} {H : Hp} {h : Heap} {D : Addr} {xs : Ks} (r : RawP P w D xs h) : ObjOk P w H h D (rawO P w D xs) := by
  obtain ⟨a1, a2, o, es, ep, h1, h2⟩ := r
  exact ⟨⟨a1, a2, o, es, ep, h1, h2⟩, ⟨o, h1⟩, fun g g' ⟨_, _, o', es', ep', q, q2⟩ k => ⟨a1, a2, o', es', ep', k _ q, q2⟩⟩
section
variable {X : Cx} {pins : List (Addr × Obj)} {σ : L2.St} {H : Hp} {s : Shared} {D : Addr} {xs : Ks}
theorem raw_of (I : Inv X pins σ H s) (e : H D = some (rawO X.prog X.w D xs)) : RawP X.prog X.w D xs s.heap := (show ObjOk X.prog X.w H s.heap D (rawO X.prog X.w D xs) from I.hok D _ e).1
theorem key_sqt (I : Inv X pins σ H s) {a : Addr} {ks : List Key} (t : SqT X.K H a (ks.map kV)) : (TKd X.prog X.w).is s.heap ks a := by
  obtain ⟨its, r, ⟨o, h1, h2, n, h3⟩, hz⟩ := I.tuple t
  exact ⟨o, its.toArray, n, h1, h2, h3, by simpa using items_are r⟩
theorem raw_dict (I : Inv X pins σ H s) (e : H D = some (rawO X.prog X.w D xs)) (ki : KeysIn X.K H xs) : s.heap.DictOfH (TKd X.prog X.w) D xs := by
  obtain ⟨_, nd, o, es, ep, h1, h2, h3, h4⟩ := raw_of I e
  exact ⟨o, es, ep, h1, h2, h3, h4, fun x hx => key_sqt I (ki x hx), nd⟩
theorem raw_put {E : Value → Shared → Prop} {k : List Key} {q : Addr} {r : Value} {Q : Unit → Shared → Prop} (hu : X.A.units < cLine) (I : Inv X pins σ H s) (e : H D = some (rawO X.prog X.w D xs)) (ki : KeysIn X.K H xs) (hk : SqT X.K H q (k.map kV)) (hz : xs.length < sizeLine)
    (h : ∀ s', Inv X pins σ (upd H D (rawO X.prog X.w D (storedH xs k q r))) s' → Q () s') : wpAny (model X.prog X.w) X.A (dictSet D (.ref q) r) Q E s := by
  have hd := (raw_of I e).1
  refine wpAny_dictSet_heap (hsz := Nat.le_of_lt hz) (knd := TKd X.prog X.w) hu (key_sqt I hk) (raw_dict I e ki) fun h' dd sb => h _ ?_
  obtain ⟨o, es, ep, h1, h2, h3, h4, _, h5⟩ := dd
  exact d_write I (by rw [e]; exact True.intro) sb ⟨o, h1⟩ (rawO_ok ⟨hd, h5, o, es, ep, h1, h2, h3, h4⟩)
def rLenX (P : Program) (w : World) (K : PySem.W.Frag) : List V → Hp → VK → Prop := fun vs H Q => ∃ D xs, vs = [.ref D] ∧ H D = some (rawO P w D xs) ∧ KeysIn K H xs ∧ xs.length < sizeLine ∧ Q (.int xs.length) H
theorem call_lenX : CallR X (.builtin "len") (rLenX X.prog X.w X.K) := by
  intro pins s σ H vs us Q I r ⟨D, xs, e, eD, ki, hz, q⟩
  subst e
  obtain ⟨u, rfl, rx⟩ := vals1 r
  cases rx
  have hl : ((xs.length : Nat) : Int) < 2 ^ 63 := by rw [sizeLine_eq] at hz; omega
  exact call_len_dictH (raw_of I eD).1 (raw_dict I eD ki) hl ⟨.int _, H, I.tok _, ⟨_, rfl⟩, q⟩
/-- {k: v for ..}: the keys tuples -/
def tDcX (P : Program) (w : World) (K : PySem.W.Frag) (wi : TI) (g : TG) (tt : TT) (tk tv : TE) (vs : List Nat) : TE := fun σ H Q => wi σ H fun J H1 => ∀ D, H1 D = none → ∃ Z : Nat → Nat → Hp → Prop, (∃ m, Z 0 m (upd H1 D (rawO P w D []))) ∧
  ∀ i m H', Z i m H' → (J.stop i H' ∧ Q (.ref D) H') ∨ (J.go i H' ∧ ∃ Y : Hp → Prop, (∀ G, Y G → ∃ m', m' < m ∧ Z (i + 1) m' G) ∧ ∀ x G, J.yld i H' x G → g x (L2.wipe σ vs) G fun σ2 H2 => L2.wipe σ2 vs = L2.wipe σ vs ∧
    tt σ2 H2 fun c H3 => if c = true then tk σ2 H3 fun y H4 => tv σ2 H4 fun _ H5 => ∃ xs k q, y = .ref q ∧ SqT K H5 q (k.map kV) ∧ KeysIn K H5 xs ∧ H5 D = some (rawO P w D xs) ∧ xs.length < sizeLine ∧ ∀ r : Value, Y (upd H5 D (rawO P w D (storedH xs k q r))) else Y H3)
end
end Mc
end
section
set_option Elab.async false
set_option linter.all false
set_option maxRecDepth 100000
set_option maxHeartbeats 4000000
set_option autoImplicit false
namespace Mc
open PySem PySem.Spec L2
section
variable {X : Cx}
abbrev AtB (X : Cx) (scope : Scope) (F : Cx → Prop) : Prop := ∀ (s : Shared) (H : Hp) (C : Addr) (cl : List (Str × Addr)) (fp : List Addr), F (X.blk s H scope (compEnvC scope cl C X.env) fp)
theorem pe_dcX {kx vx tg iter : Expr} {ifs : List Expr} {scope : Scope} {own : List (Str × Nat)} {pos : Pos} {wi : TI} {g : TG} {tt : TT} {tk tv : TE} (hu : X.A.units < cLine) (hc : X.calm = true) (hN : X.N.Nodup) (hi : PI X tg iter wi) (ok : BlkOk X.N X.env.scope scope own)
    (hg : AtB X scope fun Y => PG Y tg g) (ht : AtB X scope fun Y => PTs Y ifs tt) (hk : AtB X scope fun Y => PE Y kx tk) (he : AtB X scope fun Y => PE Y vx tv) (hs : ∀ x, foldedSetIterable iter X.env x = pure x := by intro _; rfl) :
    PE X (.DictComp kx vx [⟨tg, iter, ifs, 0⟩] scope pos) (tDcX X.prog X.w X.K wi g tt tk tv (own.map (·.2))) := by
  refine ⟨fun pins s σ H Q I h => ?_⟩
  rw [arm_eval_DictComp]
  have hfr : ∀ y ∈ scope.names, y.2 = .free → ∃ c, X.env.cells.lookup y.1 = some c := fun y hy e => (ok.free y hy e).elim (fun k => I.ok.has _ (.inl k)) fun k => I.ok.has _ (.inr k)
  refine wpAny_comprehension_free (use := none) rfl hs (closure_ok hfr) ok.kind (fun y hy e => by rw [ok.uniq y hy, e]) (thn (hi.run pins s σ H _ I h) fun xv s1 hx => thn hx fun itv s2 ⟨it, fp, tn, J, H2, e, I2, T, st2, f2, q⟩ => ?_)
  subst e
  refine wpAny_newObj_type (newEnv_comp ?_)
  generalize hD : s2.heap.objs.size = D
  have nD : H2 D = none := I2.hok.fresh (Nat.le_of_eq hD)
  obtain ⟨Z, ⟨m0, z0⟩, turn⟩ := q D nD
  generalize e3 : ({ s2 with heap := s2.heap.push { cls := .type "dict", data := .dict #[] } } : Shared) = s3
  generalize eH : upd H2 D (rawO X.prog X.w D []) = H3 at z0
  have I3 : Inv X pins σ H3 s3 := by
    rw [← e3, ← eH]
    refine I2.laid (t' := s2.toks) (fun b o e => Heap.get?_push_of_some _ e) (Nat.le_of_eq hD) ?_
    subst hD
    exact rawO_ok ⟨beq_eq_false_iff_ne.mpr (Ne.symm (Nat.ne_of_lt I2.big)), List.nodup_nil, _, #[], 0, Heap.get?_push_size _ rfl, ⟨rfl, rfl, rfl⟩, rfl, rfl⟩
  have p3 : s3.heap = s2.heap.push { cls := .type "dict", data := .dict #[] } := by rw [← e3]
  have lt : ∀ b ∈ fp, b < s2.heap.objs.size := fun b hb => let ⟨_, e, _⟩ := T.obj _ _ st2 b hb; Heap.lt_size e
  have f3 : ∀ b ∈ fp, FpOk X pins H3 b ∧ b < s3.heap.objs.size := fun b hb => by
    have l := lt b hb
    refine ⟨⟨?_, (f2 b hb).2⟩, by rw [p3, Heap.size_push]; exact Nat.lt_succ_of_lt l⟩
    rw [← eH, upd_ne (by rw [← hD]; exact Nat.ne_of_lt l)]
    exact (f2 b hb).1
  have st3 : tn 0 s3.heap := T.keep _ _ _ st2 fun b _ o e => by rw [p3]; exact Heap.get?_push_of_some _ e
  have I4 := block_start I3 ok hN f3
  have qg := hg s3 H3 s3.heap.objs.size (cellsFrom (s3.heap.objs.size + 1) scope.names (cloFrom X.env.cells scope.names [])) fp
  have qt := ht s3 H3 s3.heap.objs.size (cellsFrom (s3.heap.objs.size + 1) scope.names (cloFrom X.env.cells scope.names [])) fp
  have qk := hk s3 H3 s3.heap.objs.size (cellsFrom (s3.heap.objs.size + 1) scope.names (cloFrom X.env.cells scope.names [])) fp
  have qv := he s3 H3 s3.heap.objs.size (cellsFrom (s3.heap.objs.size + 1) scope.names (cloFrom X.env.cells scope.names [])) fp
  show codeAny _ _ (.compStart (.DictComp kx vx [⟨tg, iter, ifs, 0⟩] scope pos) 0 (.ref it) (.ref D) (compEnvC scope (cellsFrom (s3.heap.objs.size + 1) scope.names (cloFrom X.env.cells scope.names [])) s3.heap.objs.size X.env)) (compPost (model X.prog X.w) X.A X.xe none _ (.ref D) s3.heap.objs.size) { s3 with heap := pushCells (s3.heap.push { cls := .type "dict", data := .dict #[] }) scope.names }
  have nfp : ∀ b ∈ fp, H3 b = none := fun b hb => (f3 b hb).1.1
  generalize ece : compEnvC scope (cellsFrom (s3.heap.objs.size + 1) scope.names (cloFrom X.env.cells scope.names [])) s3.heap.objs.size X.env = ce at I4 qg qt qk qv ⊢
  have eL : ce.locals = s3.heap.objs.size := by subst ece; rfl
  generalize e4 : ({ s3 with heap := pushCells (s3.heap.push { cls := .type "dict", data := .dict #[] }) scope.names } : Shared) = s4 at I4 ⊢
  have st4 : tn 0 s4.heap := T.keep _ _ _ st3 fun b _ o e => by rw [← e4]; exact pushCells_keeps _ _ _ _ (Heap.get?_push_of_some _ e)
  have stat : ∀ {τ : L2.St} {G : Hp} {t : Shared}, Inv (X.blk s3 H3 scope ce fp) [] τ G t → (∀ b ∈ fp, G b = none) → ∀ b ∈ fp, FpOk (X.blk s3 H3 scope ce fp) [] G b := fun I' hn b hb =>
    ⟨hn b hb, (I'.ok.exf b hb).1, I'.ok.exfs b hb, .inl hb, fun x c e => (I'.ok.exf b hb).2 x c e, fun p hp => absurd (show p ∈ ([] : List (Addr × Obj)) ++ [] from hp) (by simp)⟩
  have lp : codeAny (model X.prog X.w) X.A (.compLoop (.DictComp kx vx [⟨tg, iter, ifs, 0⟩] scope pos) 0 (.ref it) (.ref D) ce) (compPost (model X.prog X.w) X.A X.xe none (fun v s' => EP X pins σ Q v s') (.ref D) s3.heap.objs.size) s4 := by
    refine compLoop_anyD (fun n t => ∃ i G, Inv (X.blk s3 H3 scope ce fp) [] (L2.wipe σ (own.map (·.2))) G t ∧ tn i t.heap ∧ (∀ b ∈ fp, G b = none) ∧ Z i n G) ?_ m0 ⟨0, H3, I4, st4, nfp, z0⟩
    rintro n s5 ⟨i, H5, I5, st5, n5, z5⟩
    rcases turn i n H5 z5 with ⟨stop, qq⟩ | ⟨go, Y, hY, step⟩
    · refine thnF (T.done (X.blk s3 H3 scope ce fp) rfl rfl rfl hc i [] s5 _ H5 (fun _ _ => False) I5 (stat I5 n5) st5 stop) fun r s6 ⟨hr, I6⟩ => ?_
      subst hr
      have I7 : Inv X pins σ H5 s6 := I3.call' (ch := fp) I6.os I6.base I6.hok I6.bare fun b hb => ⟨(f3 b hb).1.2.2.2.1, (f3 b hb).1.2.1, (f3 b hb).1.2.2.2.2.1, (f3 b hb).1.2.2.2.2.2⟩
      have nC : H5 s3.heap.objs.size = none := eL ▸ (show H5 ce.locals = none from I6.free)
      obtain ⟨m, hn, _⟩ := I6.loc
      have hn2 : s6.heap.Ns ce.locals m := hn
      rw [eL] at hn2
      refine ⟨m, hn2, fun h'' sb => ?_⟩
      obtain ⟨g0, g1, g2, g3, g4, g5⟩ := I3.fpOk (Nat.le_refl _) nC
      exact ⟨.ref D, H5, I7.turned (t' := s6.toks) (fun b o hb e => (sb.2 b hb).trans e) g0 g1 g3 g4 g5, rfl, qq⟩
    · refine thnF (T.item (X.blk s3 H3 scope ce fp) rfl rfl rfl hc i [] s5 _ H5 (fun _ _ => False) I5 (stat I5 n5) st5 go) fun r s6 ⟨u, hr, h6⟩ => ?_
      subst hr
      refine thnF h6 fun _ s7 ⟨x, H7, I7, r7, y7, st7, n7⟩ => ?_
      refine thnF (qg.run _ s7 _ H7 x u _ (I7.pinned (stat I7 n7) (T.obj _ _ st7)) r7 (step x H7 y7)) fun _ s8 ⟨σ8, H8, I8, hw8, q8⟩ => ?_
      refine thnF (qt.run _ s8 σ8 H8 _ I8 q8) fun c s9 ⟨H9, I9, q9⟩ => ?_
      have fin : ∀ {t : Shared} {G : Hp}, Inv (X.blk s3 H3 scope ce fp) ([] ++ pinsAt fp s7.heap) σ8 G t → Y G → ∃ m, m < n ∧ ∃ i G, Inv (X.blk s3 H3 scope ce fp) [] (L2.wipe σ (own.map (·.2))) G t ∧ tn i t.heap ∧ (∀ b ∈ fp, G b = none) ∧ Z i m G := fun {t G} I' y => by
        obtain ⟨m', hm, w'⟩ := hY G y
        have pn : ∀ b ∈ fp, ∀ o, s7.heap.get? b = some o → t.heap.get? b = some o ∧ G b = none := fun b hb o e => let z := I'.pin (b, o) (List.mem_append_right _ (List.mem_append_right _ (mem_pinsAt hb e))); ⟨z.1, z.2.1⟩
        have hl : (L2.wipe σ (own.map (·.2))).length = σ8.length := by rw [← hw8, L2.wipe_length]
        exact ⟨m', hm, i + 1, G, (I'.unpinned (pins := [])).weak hl (fun j v e => (wipe_some (hw8 ▸ e)).1), T.keep _ _ _ st7 fun b hb o e => (pn b hb o e).1, fun b hb => let ⟨o, e, _⟩ := T.obj _ _ st7 b hb; (pn b hb o e).2, w'⟩
      cases c with
      | false =>
        simp only [Bool.false_eq_true, if_false] at q9 ⊢
        exact fin I9 q9
      | true =>
        simp only [if_true] at q9 ⊢
        refine thnF (qk.run _ s9 σ8 H9 _ I9 q9) fun z s10 ⟨yk, H10, I10, r10, q10⟩ => ?_
        refine thnF (qv.run _ s10 σ8 H10 _ I10 q10) fun z2 s11 ⟨yv, H11, I11, r11, xs, k, a, ek, hk11, ki11, hD11, hz11, y⟩ => ?_
        subst ek
        cases r10
        exact raw_put (X := X.blk s3 H3 scope ce fp) hu I11 hD11 ki11 hk11 hz11 fun s12 I12 => fin I12 (y z2)
  exact codeAny_compStart_dict lp (T.self X.A 0 _ _ _ st4 lp)
end
end Mc
end
section
set_option Elab.async false
set_option linter.all false
set_option maxRecDepth 100000
set_option maxHeartbeats 4000000
set_option autoImplicit false
namespace Mc
open PySem PySem.Spec L2

/-! ### len({k: v for ..}), the keys tuples of numbers and texts -/
def keyOf : D → Option Key
  | .int i => some (.inl i)
  | .str s => some (.inr s)
  | _ => none
def keysOf : List D → Option (List Key)
  | [] => some []
  | d :: ds => match keyOf d, keysOf ds with
    | some k, some ks => some (k :: ks)
    | _, _ => none
def keyT : D → Option (List Key)
  | .tup ds => keysOf ds
  | _ => none
def insK (k : List Key) (ks : List (List Key)) : List (List Key) := if (ks.any fun x => decide (x = k)) = true then ks else ks ++ [k]
theorem Rps.keys {K : PySem.W.Frag} {mg : Str → Option Value} {S : Hp} : ∀ {ds : List D} {vs : List V} {ks : List Key}, Rps K mg S vs ds → keysOf ds = some ks → vs = ks.map kV
  | [], _, _, r, h => by cases r; cases h; rfl
  | d :: ds, _, ks, r, h => by
    cases r with
    | cons r1 r2 =>
      unfold keysOf at h
      cases h1 : keyOf d with
      | none => rw [h1] at h; cases h
      | some k =>
        cases h2 : keysOf ds with
        | none => rw [h1, h2] at h; cases h
        | some ks' =>
          rw [h1, h2] at h
          cases h
          rw [List.map_cons, ← Rps.keys r2 h2]
          cases d with
          | int i => cases h1; cases r1; rfl
          | str s => cases h1; cases r1; rfl
          | _ => cases h1
theorem stored_keys {xs : Ks} {k : List Key} {q : Addr} {r : Value} : (storedH xs k q r).map (·.1) = insK k (xs.map (·.1)) := by
  unfold insK
  cases h : atKey xs k with
  | none =>
    rw [storedH_new h, if_neg]
    · simp
    · intro hm
      unfold atKey at h
      obtain ⟨z, hz, ez⟩ := List.any_eq_true.mp hm
      obtain ⟨x, hx, e⟩ := List.mem_map.mp hz
      have e := e.trans (of_decide_eq_true ez)
      have := List.find?_eq_none.mp (Option.map_eq_none_iff.mp h) x hx
      simp [e] at this
  | some p =>
    rw [storedH_old h, keys_map_putAt, if_pos]
    unfold atKey at h
    obtain ⟨x, hx, _⟩ := Option.map_eq_some_iff.mp h
    have h1 := List.find?_some hx
    exact List.any_eq_true.mpr ⟨x.1, List.mem_map.mpr ⟨x, List.mem_of_find?_eq_some hx, rfl⟩, h1⟩
theorem stored_in {K : PySem.W.Frag} {S : Hp} {xs : Ks} {k : List Key} {q : Addr} {r : Value} (h : KeysIn K S xs) (hk : SqT K S q (k.map kV)) : KeysIn K S (storedH xs k q r) := by
  intro x hx
  cases e : atKey xs k with
  | none =>
    rw [storedH_new e] at hx
    rcases List.mem_append.mp hx with z | z
    · exact h x z
    · rw [List.mem_singleton.mp z]; exact hk
  | some p =>
    rw [storedH_old e] at hx
    obtain ⟨y, hy, rfl⟩ := List.mem_map.mp hx
    unfold putAt
    split
    · exact h y hy
    · exact h y hy
def dcM (vs : List Nat) (t : Tg) (c : M Bool) (fk fv : M R) : List D → List (List Key) → ES → Option (ES × List (List Key))
  | [], acc, ρ => some (ρ, acc)
  | d :: ds, acc, ρ => match t d ρ with
    | none => none
    | some ρ1 => match c ρ1 with
      | some (.ok false ρ2) => dcM vs t c fk fv ds acc (wipeE ρ2 vs)
      | some (.ok true ρ2) => (match M.bnd (frzM fk) frzS ρ2 with
        | some (.ok y ρ3) => (match keyT y, M.bnd (frzM fv) frzS ρ3 with
          | some k, some (.ok _ ρ4) => if few acc = true then dcM vs t c fk fv ds (insK k acc) (wipeE ρ4 vs) else none
          | _, _ => none)
        | _ => none)
      | _ => none
def evDcLen (vs : List Nat) (fi : M (List D)) (t : Tg) (c : M Bool) (fk fv : M R) : M R := M.bnd fi fun ds ρ => match dcM vs t c fk fv ds [] (wipeE ρ vs) with
  | some (ρ', acc) => if few acc = true then some (.ok (.va (.int acc.length)) (unwipe ρ ρ' vs)) else none
  | none => none
section
variable {b : Bs} {W : WX} {L : Nat} {X : Cx} {pos p0 p1 : Pos} {tg iter kx vx : Expr} {fk fv : M R} {ifs : List Expr}
structure GrowD (P : Program) (w : World) (b : Bs) (σ : L2.St) (S H : Hp) (ρ : ES) (p : Addr) (ks : List (List Key)) : Prop where
  good : Good b σ S H ρ
  at_ : ∃ xs : Ks, H p = some (rawO P w p xs) ∧ KeysIn b.K S xs ∧ xs.map (·.1) = ks
  fr : S p = none
  no : ∀ i, ¬ Own ρ σ i p
  h0 : b.H0 p = none
theorem KeysIn.mono {K : PySem.W.Frag} {S S' : Hp} {xs : Ks} (h : KeysIn K S xs) (s : Hsub S S') : KeysIn K S' xs := fun x hx => sqt_mono s (h x hx)
theorem GrowD.turn {P : Program} {w : World} {σ σ' : L2.St} {S S' H H' : Hp} {ρ ρ' : ES} {p : Addr} {ks : List (List Key)} (g : GrowD P w b σ S H ρ p ks) (s : Hsub S S') (G' : Good (re b σ S H ρ) σ' S' H' ρ') : GrowD P w b σ' S' H' ρ' p ks := by
  obtain ⟨xs, h1, h2, h3⟩ := g.at_
  have nB : ¬ (re b σ S H ρ).B p := fun ⟨i, w⟩ => g.no i w
  refine ⟨g.good.tr G', ⟨xs, G'.k0 p _ h1 nB, h2.mono s, h3⟩, ?_, fun i w => ?_, g.h0⟩
  · cases e : S' p with
    | none => rfl
    | some o =>
      rcases G'.n0 p (by rw [e]; exact fun z => nomatch z) with z | z | z
      · exact (z g.fr).elim
      · have z' : H p = none := z
        rw [h1] at z'; cases z'
      · exact (nB z).elim
  · rcases G'.o0 i p w with z | z
    · have z' : H p = none := z
      rw [h1] at z'; cases z'
    · exact nB z
theorem dcl_wp {P : Program} {wd : World} {is vs : List Nat} {fi : M (List D)} {t : Tg} {c : M Bool} {σ : L2.St} {S H : Hp} {ρ : ES} {Q : VK} {b0 : Bs} (eb : EqB b b0) (his : ∀ j ∈ is, j ∈ vs) (G : Good b σ S H ρ)
    (w : Wp b W σ (evDcLen vs fi t c fk fv) S H ρ fun S' H' ρ' r => ∀ v, RR b σ S' H' ρ' v r → Q v H') :
    tDcX P wd b.K (iX b0 W fi) (rG b0 is t) (rT b0 WF c) (rE b0 WF fk) (rE b0 WF fv) vs σ H fun x H1 => rLenX P wd b.K [x] H1 Q := by
  refine ⟨b, S, ρ, eb, G, Wp.mono (Wp.bind w) fun S1 H1 ρ1 ds s1 G1 w1 J wk p hp => ?_⟩
  cases hc : dcM vs t c fk fv ds [] (wipeE ρ1 vs) with
  | none => exact wp_none (by simp only [hc]) w1
  | some r =>
    obtain ⟨ρf, accf⟩ := r
    have hfew : few accf = true := by
      cases h : few accf with
      | true => rfl
      | false => exact wp_none (by simp only [hc, h]; rfl) w1
    have wend : ∀ S' H', Hsub S1 S' → Good b σ S' H' (unwipe ρ1 ρf vs) → ∀ v, RR b σ S' H' (unwipe ρ1 ρf vs) v (.va (.int accf.length)) → Q v H' := fun S' H' s' G' =>
      wp_ok (a := R.va (.int accf.length)) (by simp only [hc, hfew, if_true]) w1 s' G'
    have g0 : GrowD P wd b (L2.wipe σ vs) S1 (upd H1 p (rawO P wd p [])) (wipeE ρ1 vs) p [] := ⟨(G1.wipe vs).newH hp, ⟨[], upd_same, (fun x hx => nomatch hx), rfl⟩, G1.sn hp, (fun i wo => by
      obtain ⟨⟨u, e⟩, _⟩ := (G1.wipe vs).ownat wo
      rw [hp] at e; cases e), G1.f0 _ hp⟩
    refine ⟨fun i m H2 => m = ds.length - i ∧ i ≤ ds.length ∧ ∃ S2 ρ2 acc, Hsub S1 S2 ∧ GrowD P wd b (L2.wipe σ vs) S2 H2 ρ2 p acc ∧ dcM vs t c fk fv (ds.drop i) acc ρ2 = some (ρf, accf), ⟨ds.length, by simp, Nat.zero_le _, S1, _, [], Hsub.refl _, g0, by rw [List.drop_zero]; exact hc⟩, ?_⟩
    rintro i m H2 ⟨rfl, hi, S2, ρ2, acc, s2, g2, hc2⟩
    by_cases hlt : i < ds.length
    · refine Or.inr ⟨wk.go b _ S2 H2 ρ2 i rfl rfl s2 g2.good hlt, fun H3 => ∃ S3 ρ3 acc, Hsub S1 S3 ∧ GrowD P wd b (L2.wipe σ vs) S3 H3 ρ3 p acc ∧ dcM vs t c fk fv (ds.drop (i + 1)) acc ρ3 = some (ρf, accf), fun H3 q => ⟨ds.length - (i + 1), by omega, rfl, hlt, q⟩, fun x H3 y => ?_⟩
      have eb2 : EqB (re b (L2.wipe σ vs) S2 H2 ρ2) b0 := ⟨eb.1, eb.2⟩
      obtain ⟨S3, s3, G3, r3⟩ := wk.yld (re b (L2.wipe σ vs) S2 H2 ρ2) _ S2 H2 H3 ρ2 i _ x rfl rfl s2 g2.good.re (List.getElem?_eq_getElem hlt) y
      rw [List.drop_eq_getElem_cons hlt] at hc2
      unfold dcM at hc2
      cases ht : t ds[i] ρ2 with
      | none => rw [ht] at hc2; cases hc2
      | some ρ3 =>
        simp only [ht] at hc2
        refine ⟨_, S3, ρ2, ds[i], ρ3, eb2, G3, r3, ht, fun σ4 G4 k4 l4 => ?_⟩
        have hw : L2.wipe σ4 vs = L2.wipe σ vs := by
          refine wipe_eq (by rw [l4, wipe_length]) fun j hj => ?_
          rw [k4 j (fun z => hj (his j z)), wipe_get, if_neg hj]
        refine ⟨hw, _, S3, ρ3, eb2, G4, ?_⟩
        unfold Wp WpO
        cases hk : c ρ3 with
        | none => rw [hk] at hc2; cases hc2
        | some r =>
          rw [hk] at hc2
          cases r with
          | er x ρ4 => cases hc2
          | ok k ρ4 =>
            cases k with
            | false =>
              refine fun S5 H5 s5 G5 => ?_
              have G6 := G5.wipe vs
              rw [hw] at G6
              exact ⟨S5, _, acc, s2.trans (s3.trans s5), g2.turn (s3.trans s5) G6, hc2⟩
            | true =>
              simp only at hc2
              cases hy : M.bnd (frzM fk) frzS ρ4 with
              | none => rw [hy] at hc2; cases hc2
              | some r =>
                rw [hy] at hc2
                cases r with
                | er x ρ5 => cases hc2
                | ok y ρ5 =>
                  simp only at hc2
                  cases hq : keyT y with
                  | none => rw [hq] at hc2; cases hc2
                  | some k =>
                  cases hv : M.bnd (frzM fv) frzS ρ5 with
                  | none => rw [hq, hv] at hc2; cases hc2
                  | some rz =>
                  cases rz with
                  | er x ρ6 => rw [hq, hv] at hc2; cases hc2
                  | ok z ρ6 =>
                  simp only [hq, hv] at hc2
                  cases hf : few acc with
                  | false => rw [hf] at hc2; cases hc2
                  | true =>
                    simp only [hf, if_true] at hc2
                    refine fun S5 H5 s5 G5 => ⟨_, S5, ρ4, eb2, G5, ?_⟩
                    have wy : Wp (re b (L2.wipe σ vs) S2 H2 ρ2) WF σ4 (M.bnd (frzM fk) frzS) S5 H5 ρ4 fun S' H' ρ' d => ρ' = ρ5 ∧ d = y := by
                      unfold Wp WpO
                      rw [hy]
                      exact fun S' H' s' G' => ⟨rfl, rfl⟩
                    refine Wp.frz (K := fun y H4 => rE b0 WF fv σ4 H4 fun _ H5 => ∃ xs k q, y = .ref q ∧ SqT b.K H5 q (k.map kV) ∧ KeysIn b.K H5 xs ∧ H5 p = some (rawO P wd p xs) ∧ xs.length < sizeLine ∧
                      ∀ r : Value, ∃ S3 ρ3 acc_1, Hsub S1 S3 ∧ GrowD P wd b (L2.wipe σ vs) S3 (upd H5 p (rawO P wd p (storedH xs k q r))) ρ3 p acc_1 ∧ dcM vs t c fk fv (ds.drop (i + 1)) acc_1 ρ3 = some (ρf, accf)) wy fun S6 H6 ρ6' r v s6 G6 f6 w6 => ?_
                    obtain ⟨S7, ρ7, d, s7, G7, r7, e1, e2⟩ := Wp.frzS G6 f6 w6
                    subst e1 e2
                    refine ⟨_, S7, ρ7, eb2, G7, ?_⟩
                    have wz : Wp (re b (L2.wipe σ vs) S2 H2 ρ2) WF σ4 (M.bnd (frzM fv) frzS) S7 H6 ρ7 fun S' H' ρ' d => ρ' = ρ6 ∧ d = z := by
                      unfold Wp WpO
                      rw [hv]
                      exact fun S' H' s' G' => ⟨rfl, rfl⟩
                    refine Wp.frz (K := fun _ H5 => ∃ xs k q, v = .ref q ∧ SqT b.K H5 q (k.map kV) ∧ KeysIn b.K H5 xs ∧ H5 p = some (rawO P wd p xs) ∧ xs.length < sizeLine ∧
                      ∀ r : Value, ∃ S3 ρ3 acc_1, Hsub S1 S3 ∧ GrowD P wd b (L2.wipe σ vs) S3 (upd H5 p (rawO P wd p (storedH xs k q r))) ρ3 p acc_1 ∧ dcM vs t c fk fv (ds.drop (i + 1)) acc_1 ρ3 = some (ρf, accf)) wz fun S8 H8 ρ8 r' v' s8 G8 f8 w8 => ?_
                    obtain ⟨S9, ρ9, d', s9, G9, r9, e3, e4⟩ := Wp.frzS G8 f8 w8
                    subst e3 e4
                    have G10 := G9.wipe vs
                    rw [hw] at G10
                    have g10 := g2.turn (s3.trans (s5.trans (s6.trans (s7.trans (s8.trans s9))))) G10
                    obtain ⟨xs, hx1, hx2, hx3⟩ := g10.at_
                    have r7' := Rp.mono (s8.trans s9) _ _ r7
                    cases r7' with
                    | tup q1 q2 =>
                      have ev : _ = k.map kV := Rps.keys q2 hq
                      have q3 := q1.1
                      rw [ev] at q3
                      have lx : xs.length = acc.length := by rw [← hx3, List.length_map]
                      refine ⟨xs, k, _, rfl, sqt_mono G10.sub q3, hx2.mono G10.sub, hx1, by rw [lx]; exact few_lt hf, fun r => ⟨S9, _, insK k acc, s2.trans (s3.trans (s5.trans (s6.trans (s7.trans (s8.trans s9))))), ⟨g10.good.chg hx1 g10.fr g10.no (Or.inl g10.h0), ⟨_, upd_same, stored_in hx2 q3, by rw [stored_keys, hx3]⟩, g10.fr, g10.no, g10.h0⟩, hc2⟩⟩
                    | _ => cases hq
    · have e : i = ds.length := by omega
      subst e
      rw [List.drop_length] at hc2
      unfold dcM at hc2
      cases hc2
      obtain ⟨xs, hx1, hx2, hx3⟩ := g2.at_
      have lx : xs.length = accf.length := by rw [← hx3, List.length_map]
      refine Or.inl ⟨wk.stop b _ S2 H2 _ rfl rfl s2 g2.good, p, xs, rfl, hx1, hx2.mono g2.good.sub, by rw [lx]; exact few_lt hfew, ?_⟩
      rw [lx]
      exact wend S2 H2 s2 (G1.unwipe s2 g2.good) _ (.int _)
theorem pe_lenDc {is : List Nat} {scope : Scope} {own : List (Str × Nat)} {fi : M (List D)} {t : Tg} {c : M Bool} (o : OKx b L X) (bi : Bi X.K X.mg) (hi : PI X tg iter (iX b W fi)) (ok : BlkOk X.N X.env.scope scope own) (his : ∀ j ∈ is, j ∈ own.map (·.2))
    (hg : ∀ (s : Shared) (H : Hp) (C : Addr) (cl : List (Str × Addr)) (fp : List Addr), OKx b L (X.blk s H scope (compEnvC scope cl C X.env) fp) → PG (X.blk s H scope (compEnvC scope cl C X.env) fp) tg (rG b is t))
    (ht : ∀ (s : Shared) (H : Hp) (C : Addr) (cl : List (Str × Addr)) (fp : List Addr), OKx b L (X.blk s H scope (compEnvC scope cl C X.env) fp) → PTs (X.blk s H scope (compEnvC scope cl C X.env) fp) ifs (rT b WF c))
    (hk : ∀ (s : Shared) (H : Hp) (C : Addr) (cl : List (Str × Addr)) (fp : List Addr), OKx b L (X.blk s H scope (compEnvC scope cl C X.env) fp) → PE (X.blk s H scope (compEnvC scope cl C X.env) fp) kx (rE b WF fk))
    (he : ∀ (s : Shared) (H : Hp) (C : Addr) (cl : List (Str × Addr)) (fp : List Addr), OKx b L (X.blk s H scope (compEnvC scope cl C X.env) fp) → PE (X.blk s H scope (compEnvC scope cl C X.env) fp) vx (rE b WF fv))
    (hs : ∀ x, foldedSetIterable iter X.env x = pure x := by intro _; rfl) (hgl : Gl X "len" := by rfl)
    (hse : starEach [.DictComp kx vx [⟨tg, iter, ifs, 0⟩] scope p1] X.env = (false, eval (.DictComp kx vx [⟨tg, iter, ifs, 0⟩] scope p1) X.env) :: starEach [] X.env := by rfl) :
    PE X (.Call (.Name "len" p0) [.DictComp kx vx [⟨tg, iter, ifs, 0⟩] scope p1] [] pos) (rE b W (evDcLen (own.map (·.2)) fi t c fk fv)) := by
  have hu := o.un
  have ob : ∀ (s : Shared) (H : Hp) (C : Addr) (cl : List (Str × Addr)) (fp : List Addr), OKx b L (X.blk s H scope (compEnvC scope cl C X.env) fp) := fun _ _ _ _ _ => ⟨o.K, o.mg, o.calm, o.nd, o.rm⟩
  refine PE.weak (pe_callB call_lenX hgl bi.len (by decide +kernel) (pa_cons (pe_dcX (by omega) o.calm o.nd hi ok (fun s H C cl fp => hg s H C cl fp (ob s H C cl fp)) (fun s H C cl fp => ht s H C cl fp (ob s H C cl fp)) (fun s H C cl fp => hk s H C cl fp (ob s H C cl fp)) (fun s H C cl fp => he s H C cl fp (ob s H C cl fp)) hs) pa_nil hse) (by decide) (by decide) hse rfl) fun σ H Q ⟨b', S, ρ, eb, G, w⟩ => ?_
  have := dcl_wp (P := X.prog) (wd := X.w) eb his G w
  rw [eb.1, ← o.K] at this
  exact this
end
end Mc
end
section
set_option Elab.async false
set_option linter.all false
set_option maxRecDepth 100000
set_option maxHeartbeats 4000000
set_option autoImplicit false
namespace Mc
open PySem PySem.Spec L2

/-! ### _law_pen -/
def fE : M R := evBin (intD gMod) (evB toiD (evCons (evBin addD (evBin mulD (evVar 1) (evC (.int 47))) (evVar 2)) evNil)) (evC (.int 1000000007))
theorem fE_eq (x c : Int) : ∃ z, fE [.no, .va (.int x), .va (.int c)] = some (.ok (.va (.int z)) [.no, .va (.int x), .va (.int c)]) := by
  refine ⟨(x * 47 + c) % 1000000007, ?_⟩
  simp [fE, evBin, evB, evCons, evNil, evVar, evC, M.bnd, M.ret, M.lift, frzM, R.frz, rdD, rdDs, intD, addD, mulD, toiD, gMod, gMul, small64]
abbrev rLs (K : PySem.W.Frag) : List V → Hp → VK → Prop := fun xs H Q => ∃ p ys, xs = [.ref p] ∧ (SqL K H p ys ∨ SqT K H p ys) ∧ ∀ l, H l = none → Q (.ref l) (upd H l (.lst ys))
def tPen (K : PySem.W.Frag) (b : Bs) (W : WX) : TS := tSeq (tAsg (tC (.int 0)) (gName 1)) (tSeq (tFor (iSq K (tVar 0)) (gName 2) (tAsg (rE b W fE) (gName 1)))
  (tRet (tDisp [(tC (.str "cells"), tCB (rLs K) (tCons (tVar 0) tNil)), (tC (.str "at"), tC (.int 0)), (tC (.str "digits"), tC (.int 0)), (tC (.str "count"), tC (.int 0)), (tC (.str "fold"), tVar 1)])))
def PenAt (H : Hp) (p l : Addr) (q : Pn) : Prop := p ≠ l ∧ H p = some (.dK (penK l q)) ∧ H l = some (.lst (q.cells.map V.int))
def spPen (K : PySem.W.Frag) : Sp := fun vs H Q _ => ∃ a ns, vs = [.ref a] ∧ SqL K H a (ns.map V.int) ∧ ∀ p l fold H', PenAt H' p l ⟨ns, 0, 0, 0, fold⟩ → Q (.ref p) H'
theorem sql_up {K : PySem.W.Frag} {H H' : Hp} {a : Addr} {xs : List V} (h : SqL K H a xs) (s : Hsub H H') : SqL K H' a xs := by
  rcases h with (h | ⟨o, h⟩) | h
  · exact Or.inl (Or.inl (s _ _ h))
  · exact Or.inl (Or.inr ⟨o, s _ _ h⟩)
  · exact Or.inr h
theorem hsub_new {H : Hp} {p : Addr} {o : HO} (h : H p = none) : Hsub H (upd H p o) := Hsub.new h
def baseN (K : PySem.W.Frag) (mg : Str → Option Value) (H : Hp) : Bs := ⟨K, mg, H, fun _ => none, fun _ => False, none⟩
theorem good_flat {K : PySem.W.Frag} {mg : Str → Option Value} {H : Hp} {σ : L2.St} {x c : Int} (h1 : σ[1]? = some (some (.int x))) (h2 : σ[2]? = some (some (.int c))) (hl : σ.length = 3) : Good (baseN K mg H) σ (fun _ => none) H [.no, .va (.int x), .va (.int c)] where
  sub := fun a o e => nomatch e
  len := hl.symm
  sl := fun i s e => by
    match i, e with
    | 0, e => cases e; trivial
    | 1, e => cases e; exact ⟨_, h1, .int x⟩
    | 2, e => cases e; exact ⟨_, h2, .int c⟩
    | n + 3, e => simp at e
  dis := fun i j a ⟨_, s, e, o⟩ => by
    match i, e with
    | 0, e => cases e; cases o
    | 1, e => cases e; cases o
    | 2, e => cases e; cases o
    | n + 3, e => simp at e
  k0 := fun a o e _ => e
  o0 := fun i a ⟨_, s, e, o⟩ => by
    match i, e with
    | 0, e => cases e; cases o
    | 1, e => cases e; cases o
    | 2, e => cases e; cases o
    | n + 3, e => simp at e
  s0 := fun a o e => nomatch e
  n0 := fun a e => (e rfl).elim
  f0 := fun a e => e
theorem pen_pure {K : PySem.W.Frag} {mg : Str → Option Value} {W : WX} {b : Bs} (eb : EqB b (baseN K mg (fun _ => none))) {vs : List V} {H : Hp} {Q : VK} {E : XK} (h : spPen K vs H Q E) : tPen K b W { nx := fun _ H' => Q .non H', rt := Q } (L2.start ["script", "fold", "cell"] vs) H := by
  obtain ⟨a, ns, rfl, hS, q⟩ := h
  show tFor (iSq K (tVar 0)) (gName 2) (tAsg (rE b W fE) (gName 1)) _ [some (.ref a), some (.int 0), none] H
  refine ⟨.ref a, rfl, a, rfl, Or.inl ⟨⟨_, hS⟩, ?_⟩⟩
  refine ⟨fun i m σ H2 => m = ns.length - i ∧ i ≤ ns.length ∧ Hsub H H2 ∧ ∃ x c, σ = [some (.ref a), some (.int x), c], ⟨ns.length, by simp, Nat.zero_le _, Hsub.refl _, 0, none, rfl⟩, ?_⟩
  rintro i m σ H2 ⟨rfl, hi, s2, x, c, rfl⟩
  by_cases hlt : i < ns.length
  · refine Or.inr ⟨⟨ns.map V.int, .int ns[i], sql_up hS s2, by simp [hlt]⟩, fun σ3 H3 => Hsub H H3 ∧ ∃ x c, σ3 = [some (.ref a), some (.int x), c], fun σ3 H3 q => ⟨ns.length - (i + 1), by omega, rfl, hlt, q⟩, fun y H3 ⟨e1, e2⟩ => ?_⟩
    subst e1
    have ey := e2 _ (sql_up hS s2)
    rw [List.getElem?_map, List.getElem?_eq_getElem hlt] at ey
    cases ey
    obtain ⟨z, ez⟩ := fE_eq x ns[i]
    refine ⟨baseN K mg H3, _, _, ⟨eb.1.symm, eb.2.symm⟩, good_flat (K := K) (mg := mg) (H := H3) (σ := [some (.ref a), some (.int x), some (.int ns[i])]) rfl rfl rfl, ?_⟩
    unfold Wp WpO
    rw [ez]
    intro S' H' s' G' v hv
    cases hv
    exact ⟨fun p o e => G'.k0 p o (s2 p o e) (fun z => z), z, some (.int ns[i]), rfl⟩
  · have e : i = ns.length := by omega
    subst e
    refine Or.inl ⟨⟨ns.map V.int, sql_up hS s2, Nat.le_of_eq (List.length_map ..)⟩, ?_⟩
    intro p hp
    have s3 : Hsub H2 (upd H2 p (.dK [])) := Hsub.new hp
    refine ⟨.ref a, rfl, a, ns.map V.int, rfl, Or.inl (sql_up (sql_up hS s2) s3), fun l hl => ?_⟩
    have hpl : p ≠ l := fun e => by subst e; rw [upd_same] at hl; cases hl
    refine ⟨.int x, rfl, ?_⟩
    refine ⟨by rw [upd_ne hpl, upd_same], [(.inr "cells", .ref l), (.inr "at", .int 0), (.inr "digits", .int 0), (.inr "count", .int 0), (.inr "fold", .int x)], rfl, Nat.le_of_ble_eq_true rfl, q p l x _ ⟨hpl, ?_, ?_⟩⟩
    · rw [upd_same]
      exact congrArg (fun z => some (HO.dK z)) (show mergeK [] [(.inr "cells", .ref l), (.inr "at", .int 0), (.inr "digits", .int 0), (.inr "count", .int 0), (.inr "fold", .int x)] = penK l ⟨ns, 0, 0, 0, x⟩ by with_unfolding_all rfl)
    · rw [upd_ne (Ne.symm hpl), upd_same]
end Mc
end
section
set_option Elab.async false
set_option linter.all false
set_option maxRecDepth 100000
set_option maxHeartbeats 4000000
set_option autoImplicit false
namespace Mc
open PySem PySem.Spec L2

/-! ### the law's frame behind pen = _law_pen(script) -/
def iniL (N : Nat) (p : Pn) : ES := .no :: .pn (.pen p) :: List.replicate (N - 2) .no
def tLaw (b : Bs) (W : WX) (m : M Fl) : TS := tSeq (tAsg (tCallSD (spPen b.K) [] (WE W) (tCons (tVar 0) tNil)) (gName 1)) (rS b W m)
def spLaw (K : PySem.W.Frag) (n : Nat) : Sp := fun vs H Q _ => ∃ (a : Addr) (ns : List Int), vs = [.ref a] ∧ ns.length ≤ n ∧ SqL K H a (ns.map V.int) ∧ ∀ v H', v = .bl true → Q v H'
/-- the plain law: what the body says at every pen -/
def Plain (N n : Nat) (m : M Fl) : Prop := ∀ cells : List Int, cells.length ≤ n → ∀ fold : Int, ∃ ρ, m (iniL N ⟨cells, 0, 0, 0, fold⟩) = some (.ok (.rt (.va (.bl true))) ρ)
theorem law_pure {K : PySem.W.Frag} {mg : Str → Option Value} {W : WX} {b : Bs} {N : List Str} {m : M Fl} {vs : List V} {H : Hp} {Q : VK} {E : XK} {n : Nat} (hN : 2 ≤ N.length) (eK : b.K = K) (em : b.mg = mg) (pl : Plain N.length n m) (h : spLaw K n vs H Q E) :
    tLaw b W m { nx := fun _ H' => Q .non H', rt := Q } (L2.start N vs) H := by
  obtain ⟨a, ns, rfl, hn, hS, q⟩ := h
  have h0 : (L2.start N [V.ref a])[0]? = some (some (.ref a)) := start_get rfl
  refine ⟨.ref a, h0, a, ns, rfl, by rw [eK]; exact hS, fun p l fold H' ⟨hpl, hp, hl⟩ => ?_⟩
  obtain ⟨ρe, hm⟩ := pl ns hn fold
  let b' : Bs := ⟨K, mg, H', fun x => if x = l then some (.lst (ns.map V.int)) else none, fun x => x = p, some (p, l)⟩
  have hlen : (L2.start N [V.ref a]).length = N.length := by
    unfold L2.start
    simp only [List.length_append, List.length_map, List.length_replicate, List.length_cons, List.length_nil]
    omega
  have h1 : ((L2.start N [V.ref a]).set 1 (some (.ref p)))[1]? = some (some (.ref p)) := List.getElem?_set_self (by omega)
  have own : ∀ {i x}, Own (iniL N.length ⟨ns, 0, 0, 0, fold⟩) ((L2.start N [V.ref a]).set 1 (some (.ref p))) i x → i = 1 ∧ x = p := fun {i x} ⟨e, s, e2, e3⟩ => by
    match i, e, e2 with
    | 0, e, e2 => cases e2; cases e3
    | 1, e, e2 => rw [h1] at e; cases e; exact ⟨rfl, rfl⟩
    | i + 2, e, e2 =>
      have e2' : (List.replicate (N.length - 2) Sl.no)[i]? = some s := e2
      rw [List.eq_of_mem_replicate (List.mem_of_getElem? e2')] at e3
      cases e3
  have hSl : b'.S0 p = none := if_neg hpl
  have G : Good b' ((L2.start N [V.ref a]).set 1 (some (.ref p))) b'.S0 H' (iniL N.length ⟨ns, 0, 0, 0, fold⟩) := by
    refine ⟨fun x o e => ?_, ?_, fun i s e => ?_, fun i j x w1 w2 => (own w1).1.trans (own w2).1.symm, fun x o e _ => e, fun i x w => Or.inr (own w).2, Hsub.refl _, fun x e => Or.inl e, fun x e => e⟩
    · by_cases hx : x = l
      · subst hx
        rw [show b'.S0 x = some (.lst (ns.map V.int)) from if_pos rfl] at e
        cases e; exact hl
      · rw [show b'.S0 x = none from if_neg hx] at e; cases e
    · rw [List.length_set, hlen]
      unfold iniL
      simp only [List.length_cons, List.length_replicate]
      omega
    · match i, e with
      | 0, e => cases e; trivial
      | 1, e => cases e; exact ⟨p, l, h1, ⟨hSl, hp, if_pos rfl⟩, rfl⟩
      | i + 2, e =>
        have e' : (List.replicate (N.length - 2) Sl.no)[i]? = some s := e
        rw [List.eq_of_mem_replicate (List.mem_of_getElem? e')]
        trivial
  refine ⟨b', b'.S0, _, ⟨eK.symm, em.symm⟩, G, ?_⟩
  rw [hm]
  exact fun σ' S' H2 v _ _ hv => by cases hv; exact q _ _ rfl
theorem fn_law {P : Program} {w : World} {K : PySem.W.Frag} {mg : Str → Option Value} {base : Heap} {x qual : Str} {params : Arguments} {body rest : List Stmt} {st : Stmt} {scope : Scope} {f : Addr} {fd : FuncData} {N : List Str} {k n : Nat} {m : M Fl} (F : FunD K x qual params body scope [] [] f fd)
    (S : FnScope N ["script"] scope) (hN : 2 ≤ N.length) (he : body = st :: rest)
    (h1 : ∀ (X : Cx) (W : WX), (∃ cdv A outer s H E, X = bodyX P w K mg base N qual scope f cdv A outer s H E) → Room k X.A → X.N.Nodup → Takes X W → PS X st (tAsg (tCallSD (spPen K) [] (WE W) (tCons (tVar 0) tNil)) (gName 1)))
    (hb : BodyIs P w K mg base N qual scope f k rest m) (pl : Plain N.length n m) : FnOk P w K mg base (L2.CX P w) (k + 1) f fd ["script"] (spLaw K n) := by
  refine F.ok S (fun vs H Q E ⟨_, _, h, _⟩ => by rw [h]; rfl) fun cdv A outer s H vs Q E hr h => ?_
  have tk : Takes (bodyX P w K mg base N qual scope f cdv A outer s H E) (fun cls d _ H => E cls d H) := takes_of rfl rfl rfl rfl
  subst he
  exact ⟨_, pss_cons (h1 (bodyX P w K mg base N qual scope f cdv A outer s H E) (fun cls d _ H => E cls d H) ⟨cdv, A, outer, s, H, E, rfl⟩ hr S.nd tk)
    (hb (bodyX P w K mg base N qual scope f cdv A outer s H E) (fun cls d _ H => E cls d H) (baseN K mg H) ⟨cdv, A, outer, s, H, E, rfl⟩ rfl rfl ⟨rfl, rfl, rfl, S.nd, hr⟩ tk (passes_of rfl)), law_pure (b := baseN K mg H) hN rfl rfl pl h⟩
theorem fn_pen {P : Program} {w : World} {K : PySem.W.Frag} {mg : Str → Option Value} {base : Heap} {x qual : Str} {params : Arguments} {body : List Stmt} {scope : Scope} {f : Addr} {fd : FuncData} (F : FunD K x qual params body scope [] [] f fd)
    (S : FnScope ["script", "fold", "cell"] ["script"] scope)
    (hb : ∀ (X : Cx) (W : WX) (b : Bs), (∃ cdv A outer s H E, X = bodyX P w K mg base ["script", "fold", "cell"] qual scope f cdv A outer s H E) → b.K = K → b.mg = mg → OKx b 0 X → PassesOwn (model X.prog X.w) X.A X.env X.xe → PSs X body (tPen K b W)) :
    FnOk P w K mg base (L2.CX P w) 1 f fd ["script"] (spPen K) := by
  refine F.ok S (fun vs H Q E ⟨_, _, h, _⟩ => by rw [h]; rfl) fun cdv A outer s H vs Q E hr h => ?_
  exact ⟨_, hb (bodyX P w K mg base ["script", "fold", "cell"] qual scope f cdv A outer s H E) (fun cls d _ H => E cls d H) (baseN K mg H) ⟨cdv, A, outer, s, H, E, rfl⟩ rfl rfl ⟨rfl, rfl, rfl, S.nd, hr⟩ (passes_of rfl), pen_pure (K := K) (mg := mg) ⟨rfl, rfl⟩ h⟩
end Mc
end
section
set_option Elab.async false
set_option linter.all false
set_option maxRecDepth 100000
set_option maxHeartbeats 4000000
set_option autoImplicit false
namespace Mc
open PySem PySem.Spec L2

/-! ### what the head tells of own classes -/
def insB (K : PySem.W.Frag) (x : Str) : Bool := (He.Fa.cls x).ok K && (He.eqO (PySem.W.findIn K (.ref (He.ga K x)) "__class__") (some (some (.builtin "object.__class__"))) && (He.eqO (PySem.W.specialIn K (.builtin "object.__class__") "__get__") (some (some (.builtin "getset_descriptor.__get__"))) &&
  (decide (PySem.W.takesIn K (.builtin "object.__class__") = some true) && (decide (PySem.W.mroIn K (He.ga K x) (.type "object") = some true) && decide (PySem.W.kitOne K (.ref (He.ga K x)) (.ref (He.ga K x)) = some true)))))
def kitsB (K : PySem.W.Frag) (cs : List Str) : Bool := cs.all fun c => (He.Fa.glo c).ok K && (insB K c && ((cs.all fun c' => decide (PySem.W.kitOne K (.ref (He.ga K c)) (.ref (He.ga K c')) = some (decide (c = c')))) &&
  ((bts.all fun k => decide (PySem.W.kitOne K (.ref (He.ga K c)) (.type k.nm) = some false)) && (bts'.all fun k => decide (PySem.W.kitOne K (.type k.nm) (.ref (He.ga K c)) = some false)))))
def ctB (K : PySem.W.Frag) (ct : CTab) : Bool := ct.all fun q => (He.Fa.glo q.1).ok K && ((He.Fa.cls q.1).ok K && q.2.all fun f => (He.Fa.noat q.1 f).ok K)
section
variable {K : PySem.W.Frag} {h : Heap} {mg : Str → Option Value} {cs : List Str} {ct : CTab}
theorem insB_ok {x : Str} (e : insB K x = true) : C8.InsC K (He.ga K x) := by
  unfold insB at e
  simp only [Bool.and_eq_true] at e
  obtain ⟨e1, e2, e3, e4, e5, e6⟩ := e
  exact ⟨He.cls_ok e1, He.eqO_ok e2, He.eqO_ok e3, of_decide_eq_true e4, of_decide_eq_true e5, of_decide_eq_true e6⟩
theorem kitsB_ok (X : K.In h) (G : h.Ns mainGlobals mg) (e : kitsB K cs = true) : Kits K mg cs := by
  have e' : ∀ c ∈ cs, (He.Fa.glo c).ok K = true ∧ insB K c = true ∧ (∀ c' ∈ cs, PySem.W.kitOne K (.ref (He.ga K c)) (.ref (He.ga K c')) = some (decide (c = c'))) ∧ (∀ k ∈ bts, PySem.W.kitOne K (.ref (He.ga K c)) (.type k.nm) = some false) ∧ ∀ k ∈ bts', PySem.W.kitOne K (.type k.nm) (.ref (He.ga K c)) = some false := fun c hc => by
    have z := List.all_eq_true.mp e c hc
    simp only [Bool.and_eq_true] at z
    obtain ⟨z1, z2, z3, z4, z5⟩ := z
    exact ⟨z1, z2, fun c' hc' => of_decide_eq_true (List.all_eq_true.mp z3 c' hc'), fun k hk => of_decide_eq_true (List.all_eq_true.mp z4 k hk), fun k hk => of_decide_eq_true (List.all_eq_true.mp z5 k hk)⟩
  refine ⟨fun c hc => ⟨_, He.glo_ok X G (e' c hc).1, insB_ok (e' c hc).2.1⟩, fun c hc c' hc' C C' h1 h2 => ?_, fun c hc C h1 k hk => ?_, fun c hc C h1 k hk => ?_⟩
  · rw [He.glo_ok X G (e' c hc).1] at h1
    rw [He.glo_ok X G (e' c' hc').1] at h2
    cases h1
    cases h2
    exact (e' c hc).2.2.1 c' hc'
  · rw [He.glo_ok X G (e' c hc).1] at h1
    cases h1
    exact (e' c hc).2.2.2.1 k hk
  · rw [He.glo_ok X G (e' c hc).1] at h1
    cases h1
    exact (e' c hc).2.2.2.2 k hk
theorem lookup_mem {α : Type} {x : Str} {v : α} : ∀ {l : List (Str × α)}, l.lookup x = some v → (x, v) ∈ l
  | (y, u) :: r, e => by
    rw [List.lookup_cons] at e
    cases q : (x == y) with
    | true => rw [q] at e; cases e; rw [eq_of_beq q]; exact List.mem_cons_self
    | false => rw [q] at e; exact List.mem_cons_of_mem _ (lookup_mem e)
theorem ctB_ok (X : K.In h) (G : h.Ns mainGlobals mg) (e : ctB K ct = true) : CTok K mg ct := by
  refine ⟨fun c f hf => ?_⟩
  unfold hasF at hf
  split at hf
  · rename_i fl hl
    have z := List.all_eq_true.mp e _ (lookup_mem hl)
    simp only [Bool.and_eq_true] at z
    obtain ⟨z1, z2, z3⟩ := z
    exact ⟨_, He.glo_ok X G z1, He.cls_ok z2, He.noat_ok (List.all_eq_true.mp z3 f (by simpa using hf))⟩
  · cases hf
end
/-- the end, where what a def may let out depends on the world -/
theorem walk_ofW {l : PySem.W.OpenLaw} {n k : Nat} {q : Program} {loose : List Str} {XP : (Str → Option Value) → Heap → Prop} {YP : World → Heap → Prop} {d : DefRec} {CX : World → CXT} {x : Str} (hn : l.most = some n) (hn2 : n ≤ sizeLine) (hdf : d.params.defaults = []) (hr : Room k callerA)
    (F : ∀ (w : World) (mg : Str → Option Value) (fa : Addr) (h : Heap), YP w h → h.Ns mainGlobals mg → mg d.name = some (.ref fa) → ∃ (K : PySem.W.Frag) (fd : FuncData) (sp : Sp), K.In h ∧ (∀ (s : Shared) (u : Value), BindsTo s fd ⟨[u], []⟩ [(x, u)]) ∧
      (∀ (H : Hp) (a : Addr) (ns : List Int), ns.length ≤ n → Only H → SqL K H a (ns.map V.int) → sp [.ref a] H (fun v _ => v = .bl true) fun _ _ _ => False) ∧ ∀ base : Heap, K.In base → base.Ns mainGlobals mg → FnOk l.prog w K mg base (CX w) k fa fd [x] sp)
    (hC : ∀ (w : World) (H : Hp) (s : Shared) (e : Value) (s' : Shared), CX w [] H s (fun _ _ _ => False) e s' → False) : PySem.W.WalkO q loose XP YP l.row.toRowW d [] (fun f vs => PySem.call f vs) := by
  refine Att.attach_call hn hdf fun wd s₀ s₁ mg mb f o pm cd doc a vs ns GG Y ho hd hcd hmg hobj hints hl hgn => ?_
  have ⟨K, fd, sp, KX, hb, hsp, hF⟩ := F wd mg f _ Y GG.T.g hmg
  exact law_call KX GG.T.g GG.T.b GG.T.builtins GG.T.nolimit hgn hobj hints (Nat.le_trans hl hn2) hr hF hb (fun H hO hS => hsp H a ns hl hO hS) (fun H e s' => hC wd H s₁ e s')
/-! ### tables -/
section
variable {P : Program} {w : World} {K : PySem.W.Frag} {mg : Str → Option Value} {base : Heap} {nm : Str} {k j n : Nat}
theorem OpT.nil : OpT P w K mg base nm k [] := ⟨fun c F h => by cases h⟩
theorem OpT.cons {c : Str} {C f : Addr} {fd : FuncData} {ps : List Str} {F : List D → Option DRes} {T : OTab} (h1 : mg c = some (.ref C)) (h2 : Meth K C nm f) (h3 : Binds K fd ps []) (h4 : FnOk P w K mg base (L2.CX P w) j f fd ps (spP K mg 2 F)) (hj : j ≤ k) (t : OpT P w K mg base nm k T) :
    OpT P w K mg base nm k ((c, F) :: T) := ⟨fun c' F' e => by
  rw [List.lookup_cons] at e
  cases q : (c' == c) with
  | true => rw [q] at e; cases e; rw [eq_of_beq q]; exact ⟨C, f, fd, ps, h1, h2.at_, h2.fn, h3, h4.mono hj⟩
  | false => rw [q] at e; exact t.ex c' F' e⟩
theorem FTok.nil : FTok P w K mg base k [] := ⟨fun c n F h => by cases h⟩
theorem FTok.cons {c : Str} {F : List D → Option DRes} {T : FTab} (d : Dn P w K mg base c j n F) (hj : j ≤ k) (t : FTok P w K mg base k T) : FTok P w K mg base k ((c, n, F) :: T) := ⟨fun c' n' F' e => by
  rw [List.lookup_cons] at e
  cases q : (c' == c) with
  | true => rw [q] at e; cases e; rw [eq_of_beq q]; exact d.up hj
  | false => rw [q] at e; exact t.ex c' n' F' e⟩
theorem bi_of {h : Heap} (X : K.In h) (G : h.Ns mainGlobals mg) (e : ([.free "len", .free "abs", .free "int", .free "str", .free "bool", .free "tuple", .free "list", .free "sum", .free "any", .free "all", .free "max", .free "min", .free "sorted", .free "isinstance", .free "range", .free "enumerate", .free "zip"] : List He.Fa).all (fun f => f.ok K) = true) : Bi K mg := by
  have e' := fun f hf => List.all_eq_true.mp e f hf
  exact ⟨He.free_ok X G (e' _ (by simp)), He.free_ok X G (e' _ (by simp)), He.free_ok X G (e' _ (by simp)), He.free_ok X G (e' _ (by simp)), He.free_ok X G (e' _ (by simp)), He.free_ok X G (e' _ (by simp)), He.free_ok X G (e' _ (by simp)), He.free_ok X G (e' _ (by simp)), He.free_ok X G (e' _ (by simp)), He.free_ok X G (e' _ (by simp)), He.free_ok X G (e' _ (by simp)), He.free_ok X G (e' _ (by simp)), He.free_ok X G (e' _ (by simp)), He.free_ok X G (e' _ (by simp)), He.free_ok X G (e' _ (by simp)), He.free_ok X G (e' _ (by simp)), He.free_ok X G (e' _ (by simp))⟩
end
end Mc
end
section
set_option Elab.async false
set_option linter.all false
set_option maxRecDepth 100000
set_option maxHeartbeats 4000000
set_option autoImplicit false
namespace Mc
open PySem PySem.Spec L2

/-! ### gcd of three -/
theorem run_gcd3 (a : Int) (t : Tok) (b : Int) (u : Tok) (c : Int) (v : Tok) :
    Gives (Builtin.«math.gcd» ⟨[.int a t, .int b u, .int c v], []⟩) (.int (((((Nat.gcd 0 a.natAbs).gcd b.natAbs).gcd c.natAbs : Nat) : Int))) :=
  .of_wp fun M A E s Q h => by obtain ⟨hp, g, d, tk, os⟩ := s; wp_walk; exact ⟨_, rfl, h⟩
theorem args_gcd3 (a b c : Value) : argsOk "math.gcd" ⟨[a, b, c], []⟩ := by unfold argsOk; kernel_rfl
def rGcd3 : List V → Hp → VK → Prop := fun vs H Q => ∃ a b c : Int, vs = [.int a, .int b, .int c] ∧ Q (.int ((((Nat.gcd a.natAbs b.natAbs).gcd c.natAbs : Nat) : Int))) H
section
variable {X : Cx} {b : Bs} {W : WX} {L : Nat} {pos p : Pos} {e1 e2 e3 tg : Expr} {es : List Expr} {fa fb : M R} {fs fr : M (List R)}
theorem cr_gcd3 : CallR X (.builtin "math.gcd") rGcd3 := by
  intro pins s σ H vs us Q I r h
  obtain ⟨i, j, k, rfl, q⟩ := h
  cases r with
  | cons h1 h2 =>
    cases h2 with
    | cons h3 h4 =>
      cases h4 with
      | cons h5 h6 =>
        cases h6
        obtain ⟨t1, rfl⟩ := h1
        obtain ⟨t2, rfl⟩ := h3
        obtain ⟨t3, rfl⟩ := h5
        have g := run_gcd3 i t1 j t2 k t3
        rw [Nat.gcd_zero_left] at g
        exact call_function_meets PySem.W.MGF.kind_gcd PySem.W.MGF.plain_gcd PySem.W.MGF.entry_gcd (args_gcd3 _ _ _) g.meets ⟨.int _, H, I.tok _, ⟨_, rfl⟩, q⟩
def gcd3D : List D → Option R
  | [.int a, .int b, .int c] => some (.va (.int (((Nat.gcd a.natAbs b.natAbs).gcd c.natAbs : Nat) : Int)))
  | _ => none
/-! ### the difference of two truths -/
def subT : D → D → Option R
  | .bl a, .bl b => some (.va (.int ((if a = true then 1 else 0) - (if b = true then 1 else 0))))
  | _, _ => none
theorem op_subT : OpR X (binaryOp .Sub) (fun x y H Q => ∃ i j : Bool, x = .bl i ∧ y = .bl j ∧ Q (.int ((if i = true then 1 else 0) - (if j = true then 1 else 0))) H) := by
  intro pins s σ H x y v u Q I rx ry h
  obtain ⟨i, j, rfl, rfl, q⟩ := h
  cases rx
  cases ry
  exact PyProof.Rows.sub_bool ⟨.int _, H, I.tok _, ⟨_, rfl⟩, q⟩
theorem pe_subT (ha : PE X e1 (rE b W fa)) (hb : PE X e2 (rE b W fb)) : PE X (.BinOp e1 .Sub e2 pos) (rE b W (evBin subT fa fb)) :=
  pe_bin op_subT (fun b _ => by
    intro σ S H ρ x y d e z G hx hy hz Q q
    unfold subT at hz
    split at hz
    · rename_i i j
      cases hx
      cases hy
      cases hz
      exact ⟨i, j, rfl, rfl, q _ H S (Hsub.refl _) G (Rp.int _)⟩
    · cases hz) ha hb
/-! ### a star in a display -/
def evStar (fa : M R) (fr : M (List R)) : M (List R) := M.bnd (evSq fa) fun ds => M.bnd fr fun rs => M.ret (ds.map R.va ++ rs)
theorem RFs.app {σ : L2.St} {S : Hp} {vs ws : List V} {rs qs : List R} (h : RFs b σ S vs rs) (k : RFs b σ S ws qs) : RFs b σ S (vs ++ ws) (rs ++ qs) := by
  induction h with
  | nil => exact k
  | cons p _ ih => exact .cons p ih
theorem RFs.of {σ : L2.St} {S : Hp} : ∀ {vs : List V} {ds : List D}, Rps b.K b.mg S vs ds → RFs b σ S vs (ds.map R.va)
  | _, [], h => by cases h; exact .nil
  | _, d :: ds, h => by cases h with | cons p q => exact .cons p (RFs.of q)
theorem pa_st (o : OKx b L X) (ha : PE X e1 (rE b W fa)) (hr : PA X es (rAr b W fr)) (hs : starEach (.Starred e1 p :: es) X.env = (true, eval e1 X.env) :: starEach es X.env := by rfl) :
    PA X (.Starred e1 p :: es) (rAr b W (evStar fa fr)) := by
  refine PA.weak (StX.pa_star ha hr hs) fun σ H Q ⟨b', S, ρ, eb, G, h⟩ => ⟨b', S, ρ, eb, G, ?_⟩
  have h1 := Wp.bind h
  unfold evSq at h1
  refine Wp.frz (K := fun x H1 => ∃ p xs, x = V.ref p ∧ (SqT X.K H1 p xs ∨ SqL X.K H1 p xs) ∧ rAr b W fr σ H1 fun ys H2 => Q (xs ++ ys) H2) h1 fun S1 H1 ρ1 r v s1 G1 f1 w1 => ?_
  obtain ⟨S2, ρ2, d, s2, G2, r2, w2⟩ := Wp.frzS G1 f1 (Wp.bind w1)
  obtain ⟨ds, hd, k⟩ := Wp.lift G2 w2
  have eK : X.K = b'.K := by rw [o.K, eb.1]
  have fin : ∀ {xs : List V}, Rps b'.K b'.mg S2 xs ds → rAr b W fr σ H1 fun ys H2 => Q (xs ++ ys) H2 := fun {xs} r => by
    refine ⟨b', S2, ρ2, eb, G2, Wp.mono (Wp.bind k) fun S3 H3 ρ3 rs s3 G3 q ys hy => ?_⟩
    exact q S3 H3 (Hsub.refl _) G3 _ (RFs.app (RFs.of (Rps.mono s3 _ _ r)) hy)
  cases d with
  | lst xs =>
    cases hd
    cases r2 with
    | lst p q => exact ⟨_, _, rfl, Or.inr (SqL.of (G2.sub _ _ p)), fin q⟩
  | tup xs =>
    cases hd
    cases r2 with
    | tup p q => exact ⟨_, _, rfl, Or.inl (by rw [eK]; exact sqt_mono G2.sub p.1), fin q⟩
  | _ => cases hd
/-! ### range with a step -/
def rngR3 : List R → Option (List D)
  | [.va (.int i), .va (.int j), .va (.int c)] => if (smI i && smI j && decide (c = -1)) = true then some (rngD i (-1) (i - j).toNat) else none
  | _ => none
theorem pi_rng3 (hg : Gl X "range") (hm : X.mg "range" = none) (ha : PA X [e1, e2, e3] (rAr b W fs))
    (hs : starEach [e1, e2, e3] X.env = (false, eval e1 X.env) :: starEach [e2, e3] X.env := by rfl) (hpl : (backTo pos (starEach [e2, e3] X.env)).any (·.1) = false := by rfl) :
    PI X tg (.Call (.Name "range" p) [e1, e2, e3] [] pos) (iX b W (evRng rngR3 fs)) := by
  refine PI.weak (pi_range3 hg hm ha hs hpl) fun σ H R ⟨b', S, ρ, eb, G, w⟩ => ⟨b', S, ρ, eb, G, Wp.mono (Wp.bind w) fun S1 H1 ρ1 rs s1 G1 w1 vs hvs => ?_⟩
  obtain ⟨ds, hd, k⟩ := Wp.lift G1 w1
  unfold rngR3 at hd
  split at hd
  · rename_i i j c
    split at hd
    · rename_i hj
      cases hd
      cases hvs with
      | cons h1 h2 =>
        cases h2 with
        | cons h3 h4 =>
          cases h4 with
          | cons h5 h6 =>
            cases h6
            cases h1
            cases h3
            cases h5
            obtain ⟨qa, qc⟩ := Bool.and_eq_true_iff.mp hj
            obtain ⟨qa, qb⟩ := Bool.and_eq_true_iff.mp qa
            obtain ⟨q1, q2⟩ := smI_ok qa
            obtain ⟨q3, q4⟩ := smI_ok qb
            have qc := of_decide_eq_true qc
            subst qc
            exact ⟨i, j, -1, _, rfl, RgC.neg q1 q2 q3 q4, k _ Wk.rngC⟩
    · cases hd
  · cases hd
end
end Mc
end
section
set_option Elab.async false
set_option linter.all false
set_option maxRecDepth 100000
set_option maxHeartbeats 4000000
set_option autoImplicit false
namespace Mc
open PySem PySem.Spec L2

/-! ### a function of another module, by its name -/
def biB (K : PySem.W.Frag) (x : Str) (id : String) : Bool := He.eqO (PySem.W.nsIn K mainGlobals x) (some (some (.builtin id)))
theorem biB_ok {K : PySem.W.Frag} {h : Heap} {mg : Str → Option Value} {x : Str} {id : String} (X : K.In h) (G : h.Ns mainGlobals mg) (c : biB K x id = true) : mg x = some (.builtin id) := PySem.W.mg_of X G (He.eqO_ok c)
section
variable {X : Cx} {b : Bs} {W : WX} {L : Nat} {pos p p1 p2 p3 p4 pt' : Pos} {x : Str} {id : String} {k : Nat} {e1 e2 e3 ev tg : Expr} {es : List Expr} {fa fb fv f1 f2 : M R} {fs fr : M (List R)} {g : List D → Option R} {r : List V → Hp → VK → Prop}
theorem pe_cBf (hc : CallR X (.builtin id) r) (sem : SemB b.K g r) (ha : PA X (e1 :: es) (rAr b W fs)) (hm : X.mg x = some (.builtin id)) (hg : Gl X x := by rfl) (hdb : (x == ("__debug__" : Str)) = false := by decide)
    (he : starEach (e1 :: es) X.env = (false, eval e1 X.env) :: starEach es X.env := by rfl) (hpl : (backTo pos (starEach es X.env)).any (·.1) = false := by rfl) : PE X (.Call (.Name x p) (e1 :: es) [] pos) (rE b W (evB g fs)) :=
  PE.weak (pe_callBfun hc hg hm ha hdb he hpl) fun σ H Q ⟨b', S, ρ, eb, G, w⟩ => ⟨b', S, ρ, eb, G, evB_wp (by rw [eb.1]; exact sem) w⟩
theorem sem_gcd3 {K : PySem.W.Frag} : SemB K gcd3D rGcd3 := by
  intro b eb σ S H ρ xs ds z G h hg Q q
  unfold gcd3D at hg
  split at hg
  · cases hg
    obtain ⟨v, u, w, rfl, h1, h2, h3⟩ := rv3 h
    cases h1
    cases h2
    cases h3
    exact ⟨_, _, _, rfl, q _ H S (Hsub.refl _) G (Rp.int _)⟩
  · cases hg
theorem pe_gcd3 (ha : PA X (e1 :: es) (rAr b W fs)) (hm : X.mg x = some (.builtin "math.gcd")) (hg : Gl X x := by rfl) (hdb : (x == ("__debug__" : Str)) = false := by decide)
    (he : starEach (e1 :: es) X.env = (false, eval e1 X.env) :: starEach es X.env := by rfl) (hpl : (backTo pos (starEach es X.env)).any (·.1) = false := by rfl) : PE X (.Call (.Name x p) (e1 :: es) [] pos) (rE b W (evB gcd3D fs)) :=
  pe_cBf cr_gcd3 sem_gcd3 ha hm hg hdb he hpl
/-! ### two places of a list are set at once -/
def evLSt (i : Nat) (fi : M R) (d : D) : M Unit := fun ρ => match ρ[i]? with
  | some (.ow _) => M.bnd fi (fun ri ρ => match ri, ρ[i]? with
    | .va (.int k), some (.ow xs) => (match ixN xs.length k with
      | some j => some (.ok () (ρ.set i (.ow (xs.set j d))))
      | none => none)
    | _, _ => none) ρ
  | _ => none
def evSwp (i : Nat) (f1 f2 fv : M R) : M Fl := M.bnd (frzM fv) fun rv => M.bnd (frzS rv) fun d => match d with
  | .tup [u, v] => M.bnd (evLSt i f1 u) fun _ => M.bnd (evLSt i f2 v) fun _ => M.ret .nx
  | _ => fun _ => none
theorem lst_go {b' : Bs} {i : Nat} {fi : M R} {d : D} {v : V} {σ : L2.St} {S H : Hp} {ρ : ES} {P : Hp → Hp → ES → Unit → Prop} (eb : EqB b' b) (G : Good b' σ S H ρ) (r : Rp b'.K b'.mg S v d) (w : Wp b' W σ (evLSt i fi d) S H ρ P) {Q : L2.St → Hp → Prop}
    (q : ∀ S' H' ρ', Hsub S S' → Good b' σ S' H' ρ' → P S' H' ρ' () → Q σ H') : L2.gSub (tVar i) (rE b W fi) rSetL v σ H Q := by
  unfold evLSt at w
  cases h2 : ρ[i]? with
  | none => exact wp_none (by simp only [h2]) w
  | some sl =>
    cases sl with
    | ow xs0 =>
      have w2 : Wp b' W σ (M.bnd fi fun ri ρ => match ri, ρ[i]? with
        | .va (.int k), some (.ow xs) => (match ixN xs.length k with
          | some j => some (.ok () (ρ.set i (.ow (xs.set j d))))
          | none => none)
        | _, _ => none) S H ρ P := by
        unfold Wp at w ⊢
        simp only [h2] at w
        exact w
      obtain ⟨a, vs0, e1', _, _, _⟩ := G.sl i _ h2
      refine ⟨.ref a, e1', b', S, ρ, eb, G, ?_⟩
      refine Wp.mono (Wp.bind w2) fun S3 H3 ρ3 ri s3 G3 w3 y hy => ?_
      cases ri with
      | ow ds => exact w3.elim
      | sl j => exact w3.elim
      | va e =>
        cases e with
        | int k =>
          cases hy
          cases h3 : ρ3[i]? with
          | none => exact wp_none (by simp only [h3]) w3
          | some sl =>
            cases sl with
            | ow xs =>
              cases h4 : ixN xs.length k with
              | none => exact wp_none (by simp only [h3, h4]) w3
              | some j =>
                unfold Wp at w3
                simp only [h3, h4] at w3
                obtain ⟨a', vs, e2, hH, hS, hr⟩ := G3.sl i _ h3
                rw [e1'] at e2; cases e2
                have G4 := G3.put h3 e1' hH hS (Rps.set (Rp.mono s3 _ _ r) j hr)
                exact ⟨a, vs, k, j, rfl, rfl, hH, by rw [Rps.length hr]; exact h4, q _ _ _ s3 G4 (w3 S3 _ (Hsub.refl _) G4)⟩
            | _ => exact wp_none (by simp only [h3]) w3
        | _ => exact w3.elim
    | _ => exact wp_none (by simp only [h2]) w
theorem s_swp (i : Nat) (o : OKx b L X) (he : PE X ev (rE b W fv)) (h1 : PE X e1 (rE b W f1)) (h2 : PE X e2 (rE b W f2)) (hN : X.N[i]? = some x := by rfl) (hv : Vis X.env.scope x := by first | exact Or.inl rfl | exact Or.inr (Or.inl rfl) | exact Or.inr (Or.inr rfl)) (hd : (x == ("__debug__" : Str)) = false := by decide)
    (hcd : (x == ("__classdict__" : Str)) = false := by decide)
    (ha1 : ∀ v, assign (.Subscript (.Name x p1) e1 p2) X.env v = (do
      let ov ← holding [v] (eval (.Name x p1) X.env)
      let iv ← holding [v, ov] (eval e1 X.env)
      standAt p2
      holding [v, ov, iv] (setItem ov iv v)
      release [v, ov, iv] []) := by intro _; rfl)
    (ha2 : ∀ v, assign (.Subscript (.Name x p3) e2 p4) X.env v = (do
      let ov ← holding [v] (eval (.Name x p3) X.env)
      let iv ← holding [v, ov] (eval e2 X.env)
      standAt p4
      holding [v, ov, iv] (setItem ov iv v)
      release [v, ov, iv] []) := by intro _; rfl)
    (hs1 : (assignEach [.Subscript (.Name x p1) e1 p2, .Subscript (.Name x p3) e2 p4] X.env).map (·.2) = assign (.Subscript (.Name x p1) e1 p2) X.env :: (assignEach [.Subscript (.Name x p3) e2 p4] X.env).map (·.2) := by rfl)
    (hs2 : (assignEach [.Subscript (.Name x p3) e2 p4] X.env).map (·.2) = assign (.Subscript (.Name x p3) e2 p4) X.env :: (assignEach [] X.env).map (·.2) := by rfl)
    (hn : (assignEach [.Subscript (.Name x p1) e1 p2, .Subscript (.Name x p3) e2 p4] X.env).length = 2 := by rfl) (hst : (assignEach [.Subscript (.Name x p1) e1 p2, .Subscript (.Name x p3) e2 p4] X.env).findIdx? (·.1) = none := by rfl)
    (hs : swapsWithSole [.Tuple [.Subscript (.Name x p1) e1 p2, .Subscript (.Name x p3) e2 p4] k pt'] ev pos.line X.env = pure false := by rfl) (hw : swappedStores [.Tuple [.Subscript (.Name x p1) e1 p2, .Subscript (.Name x p3) e2 p4] k pt'] ev X.env = pure none := by rfl)
    (hh : (assignEach [.Tuple [.Subscript (.Name x p1) e1 p2, .Subscript (.Name x p3) e2 p4] k pt'] X.env).map (·.2) = [assign (.Tuple [.Subscript (.Name x p1) e1 p2, .Subscript (.Name x p3) e2 p4] k pt') X.env] := by rfl) :
    PS X (.Assign [.Tuple [.Subscript (.Name x p1) e1 p2, .Subscript (.Name x p3) e2 p4] k pt'] ev pos) (rS b W (evSwp i f1 f2 fv)) := by
  refine PS.weak (ps_asg he (pg_tup o.calm (pgs_cons (pg_sub (pe_var hN hv hd hcd) h1 set_list ha1) (pgs_cons (pg_sub (pe_var hN hv hd hcd) h2 set_list ha2) pgs_nil hs2) hs1) hn hst) hs hw hh) fun D σ H ⟨b', S, ρ, eb, G, w⟩ => ⟨b', S, ρ, eb, G, ?_⟩
  refine Wp.frz0 (K := fun v H1 => gTup X.K 2 (gCons (L2.gSub (tVar i) (rE b W f1) rSetL) (gCons (L2.gSub (tVar i) (rE b W f2) rSetL) gNil)) v σ H1 D.nx) (WpS.bind (σ := σ) (H := H) (f := frzM fv) w) fun S1 H1 ρ1 r v s1 G1 fr1 w1 => ?_
  obtain ⟨S2, ρ2, d, s2, G2, r2, w2⟩ := Wp.frzS G1 fr1 (WpS.bind (σ := σ) (H := H1) w1)
  cases d with
  | tup ds =>
    match ds, r2, w2 with
    | [u1, u2], .tup pp qq, w2 =>
      cases qq with
      | cons q1 q2 =>
        cases q2 with
        | cons q3 q4 =>
          cases q4
          refine ⟨_, _, rfl, by rw [o.K, ← eb.1]; exact sqt_mono G2.sub pp.1, rfl, _, _, rfl, ?_⟩
          refine lst_go eb G2 q1 (WpS.bind (σ := σ) (H := H1) w2) fun S3 H3 ρ3 s3 G3 w3 => ⟨_, _, rfl, ?_⟩
          refine lst_go eb G3 (Rp.mono s3 _ _ q3) (WpS.bind (σ := σ) (H := H3) w3) fun S4 H4 ρ4 s4 G4 w4 => ⟨rfl, ?_⟩
          exact w4 σ S4 H4 (Hsub.refl _) G4
    | [], _, w2 => exact w2.elim
    | [_], _, w2 => exact w2.elim
    | _ :: _ :: _ :: _, _, w2 => exact w2.elim
  | _ => exact w2.elim
end
end Mc
end
section
set_option Elab.async false
set_option linter.all false
set_option maxRecDepth 100000
set_option maxHeartbeats 4000000
set_option autoImplicit false
namespace Mc
open PySem PySem.Spec L2

/-! ### plain reckoning: what a term gives -/
def Ho {α : Type} (o : Option (Res α)) (Q : α → ES → Prop) : Prop := match o with
  | some (.ok a ρ) => Q a ρ
  | _ => False
section
variable {α β : Type} {ρ : ES}
theorem Ho.get {o : Option (Res α)} {Q : α → ES → Prop} (h : Ho o Q) : ∃ a ρ, o = some (.ok a ρ) ∧ Q a ρ := by
  unfold Ho at h
  split at h
  · exact ⟨_, _, rfl, h⟩
  · exact h.elim
theorem Ho.mk {o : Option (Res α)} {Q : α → ES → Prop} {a : α} (e : o = some (.ok a ρ)) (q : Q a ρ) : Ho o Q := by rw [e]; exact q
theorem Ho.imp {o : Option (Res α)} {Q Q' : α → ES → Prop} (h : Ho o Q) (k : ∀ a ρ, Q a ρ → Q' a ρ) : Ho o Q' := by
  obtain ⟨a, ρ, e, q⟩ := h.get
  exact Ho.mk e (k a ρ q)
theorem ho_ok {Q : α → ES → Prop} {a : α} : Ho (some (.ok a ρ)) Q = Q a ρ := rfl
theorem ho_none {Q : α → ES → Prop} : Ho (none : Option (Res α)) Q = False := rfl
theorem ho_er {Q : α → ES → Prop} {x : Ex} : Ho (some (.er x ρ)) Q = False := rfl
theorem ho_ret {Q : α → ES → Prop} {a : α} : Ho (M.ret a ρ) Q = Q a ρ := rfl
theorem ho_bnd {f : M α} {g : α → M β} {Q : β → ES → Prop} : Ho (M.bnd f g ρ) Q = Ho (f ρ) fun a ρ' => Ho (g a ρ') Q := by
  unfold M.bnd Ho
  cases f ρ with
  | none => rfl
  | some r => cases r <;> rfl
theorem ho_lift {o : Option α} {Q : α → ES → Prop} : Ho (M.lift o ρ) Q = (match o with
    | some a => Q a ρ
    | none => False) := by
  unfold M.lift
  cases o <;> rfl
theorem ho_frzM {f : M R} {Q : R → ES → Prop} : Ho (frzM f ρ) Q = Ho (f ρ) fun r ρ' => Q r.frz ρ' := by
  unfold frzM
  rw [ho_bnd]
  rfl
theorem ho_evC {d : D} {Q : R → ES → Prop} : Ho (evC d ρ) Q = Q (.va d) ρ := rfl
theorem ho_evVar {i : Nat} {Q : R → ES → Prop} : Ho (evVar i ρ) Q = (match ρ[i]? with
    | some (.va d) => Q (.va d) ρ
    | some (.ow _) => Q (.sl i) ρ
    | some (.pn _) => Q (.sl i) ρ
    | _ => False) := by
  unfold evVar
  cases ρ[i]? with
  | none => rfl
  | some s => cases s <;> rfl
theorem ho_evNil {Q : List R → ES → Prop} : Ho (evNil ρ) Q = Q [] ρ := rfl
theorem ho_evCons {fa : M R} {fr : M (List R)} {Q : List R → ES → Prop} : Ho (evCons fa fr ρ) Q = Ho (fa ρ) fun r ρ1 => Ho (fr ρ1) fun rs ρ2 => Q (r.frz :: rs) ρ2 := by
  unfold evCons
  rw [ho_bnd, ho_frzM]
  simp only [ho_bnd, ho_ret]
theorem ho_frzS_va {d : D} {Q : D → ES → Prop} : Ho (frzS (.va d) ρ) Q = Q d ρ := rfl
theorem ho_frzS_sl {i : Nat} {Q : D → ES → Prop} : Ho (frzS (.sl i) ρ) Q = (match ρ[i]? with
    | some (.ow ds) => Q (.lst ds) (ρ.set i (.va (.lst ds)))
    | some (.va d) => Q d ρ
    | _ => False) := by
  unfold frzS
  simp only
  cases ρ[i]? with
  | none => rfl
  | some s => cases s <;> rfl
theorem ho_frzSs_nil {Q : List D → ES → Prop} : Ho (frzSs [] ρ) Q = Q [] ρ := rfl
theorem ho_frzSs_cons {r : R} {rs : List R} {Q : List D → ES → Prop} : Ho (frzSs (r :: rs) ρ) Q = Ho (frzS r ρ) fun d ρ1 => Ho (frzSs rs ρ1) fun ds ρ2 => Q (d :: ds) ρ2 := by
  show Ho (M.bnd (frzS r) (fun d => M.bnd (frzSs rs) fun ds => M.ret (d :: ds)) ρ) Q = _
  rw [ho_bnd]
  simp only [ho_bnd, ho_ret]
theorem ho_if {c : Bool} {f : M α} {Q : α → ES → Prop} : Ho ((if c = true then f else fun _ => none) ρ) Q = (c = true ∧ Ho (f ρ) Q) := by
  cases c <;> simp [Ho]
theorem ho_evTup {fs : M (List R)} {Q : R → ES → Prop} : Ho (evTup fs ρ) Q = Ho (fs ρ) fun rs ρ1 => Ho (frzSs rs ρ1) fun ds ρ2 => few ds = true ∧ Q (.va (.tup ds)) ρ2 := by
  unfold evTup
  simp only [ho_bnd, ho_if, ho_ret]
theorem ho_evLst {fs : M (List R)} {Q : R → ES → Prop} : Ho (evLst fs ρ) Q = Ho (fs ρ) fun rs ρ1 => Ho (frzSs rs ρ1) fun ds ρ2 => few ds = true ∧ Q (.ow ds) ρ2 := by
  unfold evLst
  simp only [ho_bnd, ho_if, ho_ret]
def optH {γ : Type} (o : Option γ) (Q : γ → Prop) : Prop := match o with
  | some z => Q z
  | none => False
theorem optH_some {γ : Type} {z : γ} {Q : γ → Prop} : optH (some z) Q = Q z := rfl
theorem optH_none {γ : Type} {Q : γ → Prop} : optH (none : Option γ) Q = False := rfl
theorem optH_map {γ δ : Type} {o : Option γ} {f : γ → δ} {Q : δ → Prop} : optH (o.map f) Q = optH o fun z => Q (f z) := by cases o <;> rfl
theorem ho_evBin {g : D → D → Option R} {fa fb : M R} {Q : R → ES → Prop} : Ho (evBin g fa fb ρ) Q = Ho (fa ρ) fun r1 ρ1 => Ho (fb ρ1) fun r2 ρ2 => optH (rdD ρ2 r1.frz) fun d => optH (rdD ρ2 r2.frz) fun e => optH (g d e) fun z => Q z ρ2 := by
  unfold evBin
  simp only [ho_bnd, ho_frzM]
  congr 1; funext r1 ρ1; congr 1; funext r2 ρ2
  cases rdD ρ2 r1.frz with
  | none => rfl
  | some d =>
    cases rdD ρ2 r2.frz with
    | none => rfl
    | some e =>
      simp only [ho_lift, optH]
theorem ho_evUn {g : D → Option R} {fa : M R} {Q : R → ES → Prop} : Ho (evUn g fa ρ) Q = Ho (fa ρ) fun r ρ1 => optH (rdD ρ1 r.frz) fun d => optH (g d) fun z => Q z ρ1 := by
  unfold evUn
  simp only [ho_bnd, ho_frzM]
  congr 1; funext r1 ρ1
  cases rdD ρ1 r1.frz with
  | none => rfl
  | some d =>
    simp only [ho_lift, optH]
theorem ho_evB {g : List D → Option R} {fs : M (List R)} {Q : R → ES → Prop} : Ho (evB g fs ρ) Q = Ho (fs ρ) fun rs ρ1 => optH (rdDs ρ1 rs) fun ds => optH (g ds) fun z => Q z ρ1 := by
  unfold evB
  simp only [ho_bnd]
  congr 1; funext r1 ρ1
  cases rdDs ρ1 r1 with
  | none => rfl
  | some d =>
    simp only [ho_lift, optH]
theorem ho_evAnd {fa fb : M R} {Q : R → ES → Prop} : Ho (evAnd fa fb ρ) Q = Ho (fa ρ) fun r ρ1 => optH (truR ρ1 r.frz) fun c => if c = true then Ho (fb ρ1) Q else Q r.frz ρ1 := by
  unfold evAnd
  simp only [ho_bnd, ho_frzM]
  congr 1; funext r ρ1
  cases truR ρ1 r.frz with
  | none => rfl
  | some c => cases c <;> rfl
theorem ho_evOr {fa fb : M R} {Q : R → ES → Prop} : Ho (evOr fa fb ρ) Q = Ho (fa ρ) fun r ρ1 => optH (truR ρ1 r.frz) fun c => if c = true then Q r.frz ρ1 else Ho (fb ρ1) Q := by
  unfold evOr
  simp only [ho_bnd, ho_frzM]
  congr 1; funext r ρ1
  cases truR ρ1 r.frz with
  | none => rfl
  | some c => cases c <;> rfl
theorem ho_evNot {fa : M R} {Q : R → ES → Prop} : Ho (evNot fa ρ) Q = Ho (fa ρ) fun r ρ1 => optH (truR ρ1 r.frz) fun c => Q (.va (.bl (!c))) ρ1 := by
  unfold evNot
  simp only [ho_bnd, ho_frzM]
  congr 1; funext r ρ1
  cases truR ρ1 r.frz <;> rfl
theorem ho_evTru {fa : M R} {Q : Bool → ES → Prop} : Ho (evTru fa ρ) Q = Ho (fa ρ) fun r ρ1 => optH (truR ρ1 r.frz) fun c => Q c ρ1 := by
  unfold evTru
  simp only [ho_bnd, ho_frzM]
  congr 1; funext r ρ1
  cases truR ρ1 r.frz <;> rfl
theorem ho_ite {c : Bool} {f g : M α} {Q : α → ES → Prop} : Ho ((if c = true then f else g) ρ) Q = (if c = true then Ho (f ρ) Q else Ho (g ρ) Q) := by cases c <;> rfl
theorem ho_evAndT {f g : M Bool} {Q : Bool → ES → Prop} : Ho (evAndT f g ρ) Q = Ho (f ρ) fun c ρ1 => if c = true then Ho (g ρ1) Q else Q false ρ1 := by
  unfold evAndT
  simp only [ho_bnd, ho_ite, ho_ret]
theorem ho_evOrT {f g : M Bool} {Q : Bool → ES → Prop} : Ho (evOrT f g ρ) Q = Ho (f ρ) fun c ρ1 => if c = true then Q true ρ1 else Ho (g ρ1) Q := by
  unfold evOrT
  simp only [ho_bnd, ho_ite, ho_ret]
theorem ho_evNotT {f : M Bool} {Q : Bool → ES → Prop} : Ho (evNotT f ρ) Q = Ho (f ρ) fun c ρ1 => Q (!c) ρ1 := by
  unfold evNotT
  simp only [ho_bnd, ho_ret]
theorem ho_evIf {c : M Bool} {f g : M α} {Q : α → ES → Prop} : Ho (evIf c f g ρ) Q = Ho (c ρ) fun k ρ1 => if k = true then Ho (f ρ1) Q else Ho (g ρ1) Q := by
  unfold evIf
  simp only [ho_bnd, ho_ite]
def blH (r : R) (Q : Bool → Prop) : Prop := match r with
  | .va (.bl c) => Q c
  | _ => False
theorem blH_bl {c : Bool} {Q : Bool → Prop} : blH (.va (.bl c)) Q = Q c := rfl
theorem ho_evBl {fa : M R} {Q : Bool → ES → Prop} : Ho (evBl fa ρ) Q = Ho (fa ρ) fun r ρ1 => blH r fun c => Q c ρ1 := by
  unfold evBl
  simp only [ho_bnd]
  congr 1; funext r ρ1
  cases r with
  | va d => cases d <;> rfl
  | _ => rfl
theorem ho_evChain {g g' : D → D → Option R} {fa fb fc : M R} {Q : R → ES → Prop} : Ho (evChain g g' fa fb fc ρ) Q = Ho (fa ρ) fun r1 ρ1 => Ho (fb ρ1) fun r2 ρ2 => optH (rdD ρ2 r1.frz) fun d => optH (rdD ρ2 r2.frz) fun e => optH (g d e) fun z => blH z fun k =>
    if k = true then Ho (fc ρ2) (fun r3 ρ3 => optH (rdD ρ3 r2.frz) fun d' => optH (rdD ρ3 r3.frz) fun e' => optH (g' d' e') fun z => Q z ρ3) else Q (.va (.bl false)) ρ2 := by
  unfold evChain
  simp only [ho_bnd, ho_frzM]
  congr 1; funext r1 ρ1; congr 1; funext r2 ρ2
  cases rdD ρ2 r1.frz with
  | none => rfl
  | some d =>
    cases rdD ρ2 r2.frz with
    | none => rfl
    | some e =>
      simp only [optH]
      cases g d e with
      | none => rfl
      | some z =>
        cases z with
        | va z =>
          cases z with
          | bl k =>
            cases k with
            | false => rfl
            | true =>
              simp only [blH, if_true]
              rw [ho_bnd, ho_frzM]
              congr 1; funext r3 ρ3
              cases rdD ρ3 r2.frz with
              | none => rfl
              | some d' =>
                cases rdD ρ3 r3.frz with
                | none => rfl
                | some e' => simp only [ho_lift]
          | _ => rfl
        | _ => rfl
/-! ### statements -/
def nxH (fl : Fl) (ρ : ES) (k : Prop) (Q : Fl → ES → Prop) : Prop := match fl with
  | .nx => k
  | fl => Q fl ρ
theorem nxH_nx {k : Prop} {Q : Fl → ES → Prop} : nxH .nx ρ k Q = k := rfl
theorem nxH_rt {k : Prop} {Q : Fl → ES → Prop} {r : R} : nxH (.rt r) ρ k Q = Q (.rt r) ρ := rfl
theorem nxH_bk {k : Prop} {Q : Fl → ES → Prop} : nxH .bk ρ k Q = Q .bk ρ := rfl
theorem nxH_ct {k : Prop} {Q : Fl → ES → Prop} : nxH .ct ρ k Q = Q .ct ρ := rfl
theorem ho_evSeq {f g : M Fl} {Q : Fl → ES → Prop} : Ho (evSeq f g ρ) Q = Ho (f ρ) fun fl ρ1 => nxH fl ρ1 (Ho (g ρ1) Q) Q := by
  unfold evSeq
  cases f ρ with
  | none => rfl
  | some r =>
    cases r with
    | er x ρ1 => rfl
    | ok fl ρ1 => cases fl <;> rfl
theorem ho_evSkip {Q : Fl → ES → Prop} : Ho (evSkip ρ) Q = Q .nx ρ := rfl
theorem ho_evDrop {fa : M R} {Q : Fl → ES → Prop} : Ho (evDrop fa ρ) Q = Ho (fa ρ) fun _ ρ1 => Q .nx ρ1 := by
  unfold evDrop
  simp only [ho_bnd, ho_ret]
def retH (r : R) (ρ : ES) (Q : Fl → ES → Prop) : Prop := match r with
  | .sl i => (match ρ[i]? with
    | some (.ow ds) => Q (.rt (.ow ds)) (ρ.set i .no)
    | _ => False)
  | r => Q (.rt r) ρ
theorem retH_va {d : D} {Q : Fl → ES → Prop} : retH (.va d) ρ Q = Q (.rt (.va d)) ρ := rfl
theorem retH_ow {ds : List D} {Q : Fl → ES → Prop} : retH (.ow ds) ρ Q = Q (.rt (.ow ds)) ρ := rfl
theorem retH_sl {i : Nat} {Q : Fl → ES → Prop} : retH (.sl i) ρ Q = (match ρ[i]? with
    | some (.ow ds) => Q (.rt (.ow ds)) (ρ.set i .no)
    | _ => False) := rfl
theorem ho_evRet {fa : M R} {Q : Fl → ES → Prop} : Ho (evRet fa ρ) Q = Ho (fa ρ) fun r ρ1 => retH r ρ1 Q := by
  unfold evRet
  simp only [ho_bnd]
  congr 1; funext r ρ1
  cases r with
  | va d => rfl
  | ow ds => rfl
  | sl i =>
    simp only [retH]
    cases ρ1[i]? with
    | none => rfl
    | some s => cases s <;> rfl
def asgH (i : Nat) (r : R) (ρ : ES) (Q : Fl → ES → Prop) : Prop := i < ρ.length ∧ (match r with
  | .va d => Q .nx (ρ.set i (.va d))
  | .ow ds => Q .nx (ρ.set i (.ow ds))
  | .sl j => (match ρ[j]? with
    | some (.ow ds) => Q .nx ((ρ.set j (.va (.lst ds))).set i (.va (.lst ds)))
    | _ => False))
theorem asgH_va {i : Nat} {d : D} {Q : Fl → ES → Prop} : asgH i (.va d) ρ Q = (i < ρ.length ∧ Q .nx (ρ.set i (.va d))) := rfl
theorem asgH_ow {i : Nat} {d : List D} {Q : Fl → ES → Prop} : asgH i (.ow d) ρ Q = (i < ρ.length ∧ Q .nx (ρ.set i (.ow d))) := rfl
theorem ho_evAsg {i : Nat} {fa : M R} {Q : Fl → ES → Prop} : Ho (evAsg i fa ρ) Q = Ho (fa ρ) fun r ρ1 => asgH i r ρ1 Q := by
  unfold evAsg
  simp only [ho_bnd]
  congr 1; funext r ρ1
  unfold asgH
  by_cases hi : i < ρ1.length
  · simp only [hi, if_true, true_and]
    cases r with
    | va d => rfl
    | ow ds => rfl
    | sl j =>
      simp only
      cases ρ1[j]? with
      | none => rfl
      | some s => cases s <;> rfl
  · simp [hi, Ho]
theorem ho_evAsgT {t : Tg} {fa : M R} {Q : Fl → ES → Prop} : Ho (evAsgT t fa ρ) Q = Ho (fa ρ) fun r ρ1 => Ho (frzS r.frz ρ1) fun d ρ2 => optH (t d ρ2) fun ρ3 => Q .nx ρ3 := by
  unfold evAsgT
  simp only [ho_bnd, ho_frzM]
  congr 1; funext r ρ1; congr 1; funext d ρ2
  cases t d ρ2 <;> rfl
theorem ho_evPar2 {i j : Nat} {fa fb : M R} {Q : Fl → ES → Prop} : Ho (evPar2 i j fa fb ρ) Q = Ho (fa ρ) fun r1 ρ1 => Ho (fb ρ1) fun r2 ρ2 => (noSl r1 && noSl r2) = true ∧ optH (setR i r1 ρ2) fun ρ3 => optH (setR j r2 ρ3) fun ρ4 => Q .nx ρ4 := by
  unfold evPar2
  simp only [ho_bnd]
  congr 1; funext r1 ρ1; congr 1; funext r2 ρ2
  cases noSl r1 && noSl r2 with
  | false => simp [Ho]
  | true =>
    simp only [if_true, true_and]
    cases setR i r1 ρ2 with
    | none => rfl
    | some ρ3 =>
      simp only [optH]
      cases setR j r2 ρ3 <;> rfl
theorem ho_evPar3 {i j l : Nat} {fa fb fc : M R} {Q : Fl → ES → Prop} : Ho (evPar3 i j l fa fb fc ρ) Q = Ho (fa ρ) fun r1 ρ1 => Ho (fb ρ1) fun r2 ρ2 => Ho (fc ρ2) fun r3 ρ3 => (noSl r1 && (noSl r2 && noSl r3)) = true ∧ optH (setR i r1 ρ3) fun ρ4 => optH (setR j r2 ρ4) fun ρ5 => optH (setR l r3 ρ5) fun ρ6 => Q .nx ρ6 := by
  unfold evPar3
  simp only [ho_bnd]
  congr 1; funext r1 ρ1; congr 1; funext r2 ρ2; congr 1; funext r3 ρ3
  cases noSl r1 && (noSl r2 && noSl r3) with
  | false => simp [Ho]
  | true =>
    simp only [if_true, true_and]
    cases setR i r1 ρ3 with
    | none => rfl
    | some ρ4 =>
      simp only [optH]
      cases setR j r2 ρ4 with
      | none => rfl
      | some ρ5 =>
        simp only [optH]
        cases setR l r3 ρ5 <;> rfl
/-! ### calls -/
def resH (o : Option DRes) (Q : R → Prop) (Q' : R → Prop) : Prop := match o with
  | some (.va d) => if d.flat = true then Q (.va d) else Q' (.va d)
  | some (.ow ds) => Q' (.ow ds)
  | _ => False
theorem ho_callK {F : List D → Option DRes} {rs : List R} {Q : R → ES → Prop} : Ho (callK F rs ρ) Q = Ho (frzSs rs ρ) fun ds ρ1 => resH (F ds) (fun r => Q r ρ) (fun r => Q r ρ1) := by
  unfold callK
  cases frzSs rs ρ with
  | none => rfl
  | some r =>
    cases r with
    | er x ρ1 => rfl
    | ok ds ρ1 =>
      simp only [ho_ok]
      cases F ds with
      | none => rfl
      | some z =>
        cases z with
        | va d => unfold resH; simp only [Ho]; cases d.flat <;> rfl
        | ow es => rfl
        | er x => rfl
theorem ho_evCall {F : List D → Option DRes} {fs : M (List R)} {Q : R → ES → Prop} : Ho (evCall F fs ρ) Q = Ho (fs ρ) fun rs ρ1 => Ho (frzSs rs ρ1) fun ds ρ2 => resH (F ds) (fun r => Q r ρ1) (fun r => Q r ρ2) := by
  unfold evCall
  simp only [ho_bnd, ho_callK]
theorem ho_evN {n : Nat} {fs : M (List R)} {Q : List R → ES → Prop} : Ho (evN n fs ρ) Q = Ho (fs ρ) fun rs ρ1 => rs.length = n ∧ Q rs ρ1 := by
  unfold evN
  simp only [ho_bnd]
  congr 1; funext rs ρ1
  by_cases h : rs.length = n
  · simp [h, Ho]
  · simp [h, Ho]
def resNH (o : Option (DRes × Mo)) (p : Mo) (i : Nat) (ρ ρ1 : ES) (Q : R → ES → Prop) : Prop := match o with
  | some (.va d, p') => if (d.flat && p.isPen && p'.isPen) = true then Q (.va d) (ρ.set i (.pn p')) else Q (.va d) (ρ1.set i (.pn p'))
  | some (.ow ds, p') => Q (.ow ds) (ρ1.set i (.pn p'))
  | _ => False
theorem ho_callN {F : Mo → List D → Option (DRes × Mo)} {i : Nat} {rs : List R} {p : Mo} {Q : R → ES → Prop} (h : ρ[i]? = some (.pn p)) : Ho (callN F (.sl i :: rs) ρ) Q = Ho (frzSs rs ρ) fun ds ρ1 => resNH (F p ds) p i ρ ρ1 Q := by
  unfold callN
  simp only [h]
  cases frzSs rs ρ with
  | none => rfl
  | some r =>
    cases r with
    | er x ρ1 => rfl
    | ok ds ρ1 =>
      simp only [ho_ok]
      cases F p ds with
      | none => rfl
      | some z =>
        obtain ⟨z, p'⟩ := z
        cases z with
        | va d => unfold resNH; simp only [Ho]; cases (d.flat && p.isPen && p'.isPen) <;> rfl
        | ow es => rfl
        | er x => rfl
theorem ho_evCallN {F : Mo → List D → Option (DRes × Mo)} {fs : M (List R)} {Q : R → ES → Prop} : Ho (evCallN F fs ρ) Q = Ho (fs ρ) fun rs ρ1 => Ho (callN F rs ρ1) Q := by
  unfold evCallN
  simp only [ho_bnd]
end
end Mc
end
section
set_option Elab.async false
set_option linter.all false
set_option maxRecDepth 100000
set_option maxHeartbeats 4000000
set_option autoImplicit false
namespace Mc
open PySem PySem.Spec L2
section
variable {α β : Type} {ρ : ES}
theorem ho_evPart {f : M R} {Q : Option Int → ES → Prop} : Ho (evPart f ρ) Q = Ho (f ρ) fun r ρ1 => (match r with
    | .va (.int i) => Q (some i) ρ1
    | _ => False) := by
  unfold evPart
  simp only [ho_bnd]
  congr 1; funext r ρ1
  cases r with
  | va d => cases d <;> rfl
  | _ => rfl
theorem ho_evSlice {fa : M R} {fl fh : M (Option Int)} {Q : R → ES → Prop} : Ho (evSlice fa fl fh ρ) Q = Ho (fa ρ) fun r ρ1 => Ho (fl ρ1) fun lo ρ2 => Ho (fh ρ2) fun hi ρ3 => optH (rdD ρ3 r.frz) fun d => optH (cutD d lo hi) fun z => Q z ρ3 := by
  unfold evSlice
  simp only [ho_bnd, ho_frzM]
  congr 1; funext r ρ1; congr 1; funext lo ρ2; congr 1; funext hi ρ3
  cases rdD ρ3 r.frz with
  | none => rfl
  | some d => simp only [ho_lift, optH]
def fldH (ct : CTab) (f : Str) (r : R) (ρ : ES) (Q : R → Prop) : Prop := match r with
  | .va (.ob c fs) => optH (fldD ct f c fs) Q
  | .sl i => (match ρ[i]? with
    | some (.pn (.ob c fs)) => optH (fldD ct f c fs) Q
    | _ => False)
  | _ => False
theorem fldH_ob {ct : CTab} {f c : Str} {fs : List (Str × D)} {Q : R → Prop} : fldH ct f (.va (.ob c fs)) ρ Q = optH (fldD ct f c fs) Q := rfl
theorem ho_evFld {ct : CTab} {f : Str} {fa : M R} {Q : R → ES → Prop} : Ho (evFld ct f fa ρ) Q = Ho (fa ρ) fun r ρ1 => fldH ct f r.frz ρ1 fun z => Q z ρ1 := by
  unfold evFld
  simp only [ho_bnd, ho_frzM]
  congr 1; funext r ρ1
  cases r.frz with
  | va d => cases d <;> first | rfl | simp only [ho_lift, fldH, optH]
  | ow ds => rfl
  | sl i =>
    simp only [fldH]
    cases ρ1[i]? with
    | none => rfl
    | some s =>
      cases s with
      | pn m => cases m <;> first | rfl | simp only [ho_lift, optH]
      | _ => rfl
theorem ho_evPnGet {i : Nat} {x : Str} {p : Pn} {Q : R → ES → Prop} (h : ρ[i]? = some (.pn (.pen p))) : Ho (evPnGet i x ρ) Q = optH (pnGet x p) fun d => Q (.va d) ρ := by
  unfold evPnGet
  simp only [h]
  cases pnGet x p <;> rfl
theorem ho_evPnPut {i : Nat} {x : Str} {fa : M R} {Q : Fl → ES → Prop} : Ho (evPnPut i x fa ρ) Q = Ho (fa ρ) fun r ρ1 => (match r, ρ1[i]? with
    | .va (.int j), some (.pn (.pen p)) => optH (pnPut x j p) fun p' => Q .nx (ρ1.set i (.pn (.pen p')))
    | _, _ => False) := by
  unfold evPnPut
  simp only [ho_bnd]
  congr 1; funext r ρ1
  cases r with
  | va d =>
    cases d with
    | int j =>
      cases ρ1[i]? with
      | none => rfl
      | some s =>
        cases s with
        | pn m =>
          cases m with
          | pen p =>
            simp only
            cases pnPut x j p <;> rfl
          | ob _ _ => rfl
        | _ => rfl
    | _ => rfl
  | _ => rfl
theorem ho_evLM {i : Nat} {m : List D → List D → Option (D × List D)} {fs : M (List R)} {xs0 : List D} {Q : R → ES → Prop} (h : ρ[i]? = some (.ow xs0)) : Ho (evLM i m fs ρ) Q = Ho (fs ρ) fun rs ρ1 => Ho (frzSs rs ρ1) fun ds ρ2 => (match ρ2[i]? with
    | some (.ow xs) => optH (m xs ds) fun z => Q (.va z.1) (ρ2.set i (.ow z.2))
    | _ => False) := by
  unfold evLM
  simp only [h, ho_bnd]
  congr 1; funext rs ρ1; congr 1; funext ds ρ2
  cases ρ2[i]? with
  | none => rfl
  | some s =>
    cases s with
    | ow xs =>
      simp only
      cases m xs ds with
      | none => rfl
      | some z => obtain ⟨z1, z2⟩ := z; rfl
    | _ => rfl
theorem ho_evLSet {i : Nat} {fi fv : M R} {Q : Fl → ES → Prop} : Ho (evLSet i fi fv ρ) Q = Ho (fv ρ) fun rv ρ1 => Ho (frzS rv.frz ρ1) fun d ρ2 => (match ρ2[i]? with
    | some (.ow _) => Ho (fi ρ2) fun ri ρ3 => (match ri, ρ3[i]? with
      | .va (.int k), some (.ow xs) => optH (ixN xs.length k) fun j => Q .nx (ρ3.set i (.ow (xs.set j d)))
      | _, _ => False)
    | _ => False) := by
  unfold evLSet
  simp only [ho_bnd, ho_frzM]
  congr 1; funext rv ρ1; congr 1; funext d ρ2
  cases ρ2[i]? with
  | none => rfl
  | some s =>
    cases s with
    | ow xs0 =>
      simp only [ho_bnd]
      congr 1; funext ri ρ3
      cases ri with
      | va e =>
        cases e with
        | int k =>
          cases ρ3[i]? with
          | none => rfl
          | some s =>
            cases s with
            | ow xs =>
              simp only
              cases ixN xs.length k <;> rfl
            | _ => rfl
        | _ => rfl
      | _ => rfl
    | _ => rfl
def tmH (g : List D → D → Option R) (d : D) (k : (List D → Prop) → Prop) : Prop := match d with
  | .lst _ => k fun _ => True
  | _ => True
/-- xs.index(x), xs.count(x) on data -/
theorem ho_evTM_tup {g : List D → D → Option R} {fa fb : M R} {Q : R → ES → Prop} {r : R} {ρ1 : ES} {xs : List D} (h : fa ρ = some (.ok r ρ1)) (hd : r.frz = .va (.tup xs)) : Ho (evTM g fa fb ρ) Q = Ho (fb ρ1) fun r2 ρ2 => optH (rdD ρ2 r2.frz) fun e => optH (g xs e) fun z => Q z ρ2 := by
  unfold evTM
  rw [ho_bnd, ho_frzM, h, ho_ok, hd]
  show Ho (M.bnd (evCons fb evNil) _ ρ1) Q = _
  rw [ho_bnd, ho_evCons]
  congr 1; funext r2 ρ2
  rw [ho_evNil]
  show Ho (match rdD ρ2 r2.frz with
    | some e => M.lift (g xs e) ρ2
    | none => none) Q = _
  cases rdD ρ2 r2.frz with
  | none => rfl
  | some d => simp only [ho_lift, optH]
theorem ho_evSq {fa : M R} {Q : List D → ES → Prop} : Ho (evSq fa ρ) Q = Ho (fa ρ) fun r ρ1 => Ho (frzS r.frz ρ1) fun d ρ2 => optH (sqD d) fun ds => Q ds ρ2 := by
  unfold evSq
  simp only [ho_bnd, ho_frzM]
  congr 1; funext r ρ1; congr 1; funext d ρ2
  simp only [ho_lift, optH]
theorem ho_evRng {g : List R → Option (List D)} {fs : M (List R)} {Q : List D → ES → Prop} : Ho (evRng g fs ρ) Q = Ho (fs ρ) fun rs ρ1 => optH (g rs) fun ds => Q ds ρ1 := by
  unfold evRng
  simp only [ho_bnd, ho_lift, optH]
theorem ho_evEn {fs : M (List R)} {Q : List D → ES → Prop} : Ho (evEn fs ρ) Q = Ho (fs ρ) fun rs ρ1 => Ho (frzSs rs ρ1) fun ds ρ2 => (match ds with
    | [d] => optH (sqD d) fun xs => Q (enD xs) ρ2
    | _ => False) := by
  unfold evEn
  simp only [ho_bnd, ho_lift]
  congr 1; funext rs ρ1; congr 1; funext ds ρ2
  match ds with
  | [] => rfl
  | [d] => simp only; cases sqD d <;> rfl
  | _ :: _ :: _ => rfl
theorem ho_evZp {fs : M (List R)} {Q : List D → ES → Prop} : Ho (evZp fs ρ) Q = Ho (fs ρ) fun rs ρ1 => Ho (frzSs rs ρ1) fun ds ρ2 => (match ds with
    | [d, e] => optH (sqD d) fun xs => optH (sqD e) fun ys => Q (zpD xs ys) ρ2
    | _ => False) := by
  unfold evZp
  simp only [ho_bnd, ho_lift]
  congr 1; funext rs ρ1; congr 1; funext ds ρ2
  match ds with
  | [] => rfl
  | [d] => rfl
  | [d, e] =>
    simp only
    cases sqD d with
    | none => rfl
    | some xs => cases sqD e <;> rfl
  | _ :: _ :: _ :: _ => rfl
/-! ### loops -/
theorem ho_evFor {fi : M (List D)} {t : Tg} {f : M Fl} {Q : Fl → ES → Prop} : Ho (evFor fi t f ρ) Q = Ho (fi ρ) fun ds ρ1 => Ho (forM t f ds ρ1) Q := by
  unfold evFor
  rw [ho_bnd]
def stepH (fl : Fl) (ρ : ES) (k : Prop) (Q : Fl → ES → Prop) : Prop := match fl with
  | .nx => k
  | .ct => k
  | .bk => Q .nx ρ
  | .rt r => Q (.rt r) ρ
theorem stepH_nx {k : Prop} {Q : Fl → ES → Prop} : stepH .nx ρ k Q = k := rfl
theorem stepH_ct {k : Prop} {Q : Fl → ES → Prop} : stepH .ct ρ k Q = k := rfl
theorem stepH_bk {k : Prop} {Q : Fl → ES → Prop} : stepH .bk ρ k Q = Q .nx ρ := rfl
theorem stepH_rt {k : Prop} {Q : Fl → ES → Prop} {r : R} : stepH (.rt r) ρ k Q = Q (.rt r) ρ := rfl
theorem forM_inv {t : Tg} {f : M Fl} {Q : Fl → ES → Prop} (I : List D → ES → Prop) (h : ∀ d ds ρ, I (d :: ds) ρ → optH (t d ρ) fun ρ1 => Ho (f ρ1) fun fl ρ2 => stepH fl ρ2 (I ds ρ2) Q) (h0 : ∀ ρ, I [] ρ → Q .nx ρ) :
    ∀ (ds : List D) (ρ : ES), I ds ρ → Ho (forM t f ds ρ) Q
  | [], ρ, i => h0 ρ i
  | d :: ds, ρ, i => by
    have q := h d ds ρ i
    unfold forM
    cases ht : t d ρ with
    | none => rw [ht] at q; exact q.elim
    | some ρ1 =>
      rw [ht] at q
      obtain ⟨fl, ρ2, e, q2⟩ := Ho.get (show Ho (f ρ1) _ from q)
      simp only [e]
      cases fl with
      | nx => exact forM_inv I h h0 ds ρ2 q2
      | ct => exact forM_inv I h h0 ds ρ2 q2
      | bk => exact q2
      | rt r => exact q2
theorem whileM_inv {c : M Bool} {f : M Fl} {Q : Fl → ES → Prop} (I : Nat → ES → Prop) (h : ∀ n ρ, I n ρ → Ho (c ρ) fun k ρ1 => if k = true then Ho (f ρ1) (fun fl ρ2 => stepH fl ρ2 (∃ m, m < n ∧ I m ρ2) Q) else Q .nx ρ1) :
    ∀ (n : Nat) (ρ : ES), I n ρ → ∃ m, Ho (whileM c f m ρ) Q := by
  intro n
  induction n using Nat.strongRecOn with
  | ind n ih =>
    intro ρ i
    obtain ⟨k, ρ1, e, q⟩ := (h n ρ i).get
    cases k with
    | false => exact ⟨1, by unfold whileM; simp only [e]; exact q⟩
    | true =>
      simp only [if_true] at q
      obtain ⟨fl, ρ2, e2, q2⟩ := q.get
      cases fl with
      | nx =>
        obtain ⟨m, hm, i2⟩ := q2
        obtain ⟨j, hj⟩ := ih m hm ρ2 i2
        exact ⟨j + 1, by unfold whileM; simp only [e, e2]; exact hj⟩
      | ct =>
        obtain ⟨m, hm, i2⟩ := q2
        obtain ⟨j, hj⟩ := ih m hm ρ2 i2
        exact ⟨j + 1, by unfold whileM; simp only [e, e2]; exact hj⟩
      | bk => exact ⟨1, by unfold whileM; simp only [e, e2]; exact q2⟩
      | rt r => exact ⟨1, by unfold whileM; simp only [e, e2]; exact q2⟩
theorem ho_evWhile {c : M Bool} {f : M Fl} {Q : Fl → ES → Prop} (I : Nat → ES → Prop) (h : ∀ n ρ, I n ρ → Ho (c ρ) fun k ρ1 => if k = true then Ho (f ρ1) (fun fl ρ2 => stepH fl ρ2 (∃ m, m < n ∧ I m ρ2) Q) else Q .nx ρ1) (n : Nat) (i : I n ρ) : Ho (evWhile c f ρ) Q := by
  obtain ⟨m, hm⟩ := whileM_inv I h n ρ i
  obtain ⟨a, ρ', e, q⟩ := hm.get
  exact Ho.mk (evWhile_of e) q
theorem ho_evComp {vs : List Nat} {fi : M (List D)} {t : Tg} {c : M Bool} {f : M R} {Q : R → ES → Prop} : Ho (evComp vs fi t c f ρ) Q = Ho (fi ρ) fun ds ρ1 => Ho (compE vs t c f ds ρ1) Q := by
  unfold evComp
  rw [ho_bnd]
theorem compM_map {vs : List Nat} {t : Tg} {c : M Bool} {f : M R} {ρ0 : ES} {g : D → Option D} : ∀ (ds acc : List D), (∀ d ∈ ds, optH (t d ρ0) fun ρ1 => Ho (c ρ1) fun k ρ2 => if k = true then Ho (f ρ2) (fun r ρ3 => Ho (frzS r.frz ρ3) fun y ρ4 => wipeE ρ4 vs = ρ0 ∧ g d = some y) else wipeE ρ2 vs = ρ0 ∧ g d = none) →
    acc.length + ds.length ≤ 100000 → compM vs t c f ds acc ρ0 = some (ρ0, acc ++ ds.filterMap g)
  | [], acc, _, _ => by simp [compM]
  | d :: ds, acc, h, hl => by
    have q := h d List.mem_cons_self
    rw [List.length_cons] at hl
    unfold compM
    cases ht : t d ρ0 with
    | none => rw [ht] at q; exact q.elim
    | some ρ1 =>
      rw [ht] at q
      obtain ⟨k, ρ2, e, q2⟩ := Ho.get (show Ho (c ρ1) _ from q)
      simp only [e]
      cases k with
      | false =>
        simp only [Bool.false_eq_true, if_false] at q2 ⊢
        rw [q2.1, compM_map ds acc (fun d' hd => h d' (List.mem_cons_of_mem _ hd)) (by omega), List.filterMap_cons_none q2.2]
      | true =>
        simp only [if_true] at q2 ⊢
        have q3 : Ho (M.bnd (frzM f) frzS ρ2) fun y ρ4 => wipeE ρ4 vs = ρ0 ∧ g d = some y := by rw [ho_bnd, ho_frzM]; exact q2
        obtain ⟨y, ρ4, e4, q4⟩ := q3.get
        have hf : few acc = true := decide_eq_true (by omega)
        simp only [e4, hf, if_true]
        rw [q4.1, compM_map ds (acc ++ [y]) (fun d' hd => h d' (List.mem_cons_of_mem _ hd)) (by rw [List.length_append]; simp; omega), List.filterMap_cons_some q4.2]
        simp
theorem ho_compE {vs : List Nat} {t : Tg} {c : M Bool} {f : M R} {ds : List D} {Q : R → ES → Prop} (g : D → Option D) (h : ∀ d ∈ ds, optH (t d (wipeE ρ vs)) fun ρ1 => Ho (c ρ1) fun k ρ2 => if k = true then Ho (f ρ2) (fun r ρ3 => Ho (frzS r.frz ρ3) fun y ρ4 => wipeE ρ4 vs = wipeE ρ vs ∧ g d = some y) else wipeE ρ2 vs = wipeE ρ vs ∧ g d = none)
    (hl : ds.length ≤ 100000) (q : Q (.ow (ds.filterMap g)) (unwipe ρ (wipeE ρ vs) vs)) : Ho (compE vs t c f ds ρ) Q := by
  unfold compE
  rw [compM_map ds [] h (by simpa using hl)]
  simp only [List.nil_append]
  exact q
/-! ### a def's answer -/
def flR (fl : Fl) (P : DRes → Prop) : Prop := match fl with
  | .nx => P (.va .non)
  | .rt (.va d) => P (.va d)
  | .rt (.ow ds) => P (.ow ds)
  | _ => False
theorem runD_ex {N : Nat} {m : M Fl} {ds : List D} {P : DRes → Prop} (h : Ho (m (ini N ds)) fun fl _ => flR fl P) : ∃ r, runD N m ds = some r ∧ P r := by
  obtain ⟨fl, ρ, e, q⟩ := h.get
  unfold runD
  rw [e]
  cases fl with
  | nx => exact ⟨_, rfl, q⟩
  | rt r =>
    cases r with
    | va d => exact ⟨_, rfl, q⟩
    | ow es => exact ⟨_, rfl, q⟩
    | sl i => exact q.elim
  | _ => exact q.elim
theorem runD_eq {N : Nat} {m : M Fl} {ds : List D} {r : DRes} (h : Ho (m (ini N ds)) fun fl _ => flR fl fun z => z = r) : runD N m ds = some r := by
  obtain ⟨z, e, q⟩ := runD_ex h
  rw [e, q]
theorem runN_ex {N : Nat} {m : M Fl} {p : Mo} {ds : List D} {P : DRes → Mo → Prop} (h : Ho (m (.pn p :: ini (N - 1) ds)) fun fl ρ => flR fl fun r => ∃ p', ρ[0]? = some (.pn p') ∧ P r p') : ∃ r p', runN N m p ds = some (r, p') ∧ P r p' := by
  obtain ⟨fl, ρ, e, q⟩ := h.get
  unfold runN
  rw [e]
  cases fl with
  | nx => obtain ⟨p', e2, q2⟩ := q; exact ⟨_, p', by simp only [resP, e2], q2⟩
  | rt r =>
    cases r with
    | va d => obtain ⟨p', e2, q2⟩ := q; exact ⟨_, p', by simp only [resP, resR, e2], q2⟩
    | ow es => obtain ⟨p', e2, q2⟩ := q; exact ⟨_, p', by simp only [resP, resR, e2], q2⟩
    | sl i => exact q.elim
  | _ => exact q.elim
end
end Mc
end
section
set_option Elab.async false
set_option linter.all false
set_option maxRecDepth 100000
set_option maxHeartbeats 4000000
set_option autoImplicit false
namespace Mc
open PySem PySem.Spec L2

/-! ### values -/
section
variable {i j : Int} {xs ys : List D} {ρ : ES} {d : D}
theorem beqI : (i == j) = decide (i = j) := by
  by_cases h : i = j <;> simp [h]
theorem v_add : addD (.int i) (.int j) = some (.va (.int (i + j))) := rfl
theorem v_sub : intD gSub (.int i) (.int j) = some (.va (.int (i - j))) := rfl
theorem v_mul (h : (small64 i || small64 j) = true) : mulD (.int i) (.int j) = some (.va (.int (i * j))) := by
  simp only [mulD, h, if_true, gMul, Option.map]
theorem v_mod (h : 0 < j) : intD gMod (.int i) (.int j) = some (.va (.int (i % j))) := by
  simp only [intD, gMod, h, if_true, Option.map]
theorem v_div (h : 0 < j ∧ j < 1073741824) : intD gDiv (.int i) (.int j) = some (.va (.int (i / j))) := by
  simp only [intD, gDiv, h, and_self, if_true, Option.map]
theorem v_neg : negD (.int i) = some (.va (.int (-i))) := rfl
theorem v_eqI : eqD (.int i) (.int j) = some (.va (.bl (decide (i = j)))) := by
  have : eqB (.int i) (.int j) = some (i == j) := rfl
  unfold eqD
  rw [this, beqI]
  rfl
theorem v_neI : neD (.int i) (.int j) = some (.va (.bl (!decide (i = j)))) := by
  have : eqB (.int i) (.int j) = some (i == j) := rfl
  unfold neD
  rw [this, beqI]
  rfl
theorem v_ltB : ltB (.int i) (.int j) = some (decide (i < j)) := by
  rw [← PySem.W.dataLt_int]
  rfl
theorem v_gtB : gtB (.int i) (.int j) = some (decide (j < i)) := by
  rw [← PySem.W.dataLt_int]
  rfl
theorem v_lt : ltD (.int i) (.int j) = some (.va (.bl (decide (i < j)))) := by unfold ltD; rw [v_ltB]; rfl
theorem v_gt : gtD (.int i) (.int j) = some (.va (.bl (decide (j < i)))) := by unfold gtD; rw [v_gtB]; rfl
theorem v_le : leD (.int i) (.int j) = some (.va (.bl (!decide (j < i)))) := by unfold leD; rw [v_gtB]; rfl
theorem v_ge : geD (.int i) (.int j) = some (.va (.bl (!decide (i < j)))) := by unfold geD; rw [v_ltB]; rfl
theorem v_lenL : lenD [.lst xs] = some (.va (.int xs.length)) := rfl
theorem v_lenT : lenD [.tup xs] = some (.va (.int xs.length)) := rfl
theorem v_toi : toiD [.int i] = some (.va (.int i)) := rfl
theorem v_abs : absD [.int i] = some (.va (.int (if i < 0 then -i else i))) := rfl
theorem v_tupL : tupD [.lst xs] = some (.va (.tup xs)) := rfl
theorem v_tupT : tupD [.tup xs] = some (.va (.tup xs)) := rfl
theorem v_ixL : ixD (.lst xs) (.int i) = (atI xs i).map .va := rfl
theorem v_ixT : ixD (.tup xs) (.int i) = (atI xs i).map .va := rfl
theorem v_sqL : sqD (.lst xs) = some xs := rfl
theorem v_sqT : sqD (.tup xs) = some xs := rfl
theorem r_va : rdD ρ (.va d) = some d := rfl
theorem r_sl {i : Nat} : rdD ρ (.sl i) = (match ρ[i]? with
    | some (.ow ds) => some (.lst ds)
    | some (.va d) => some d
    | _ => none) := rfl
theorem z_va : R.frz (.va d) = .va d := rfl
theorem z_ow : R.frz (.ow xs) = .va (.lst xs) := rfl
theorem z_sl {i : Nat} : R.frz (.sl i) = .sl i := rfl
theorem rs_nil : rdDs ρ [] = some [] := rfl
theorem rs_cons {r : R} {rs : List R} : rdDs ρ (r :: rs) = (match rdD ρ r, rdDs ρ rs with
    | some d, some ds => some (d :: ds)
    | _, _ => none) := rfl
theorem tru_def {r : R} : truR ρ r = (match rdD ρ r with
    | some d => truD d
    | none => none) := rfl
theorem v_pow : intD gPow (.int i) (.int j) = (gPow i j).map fun n => .va (.int n) := rfl
end
/-- the term is reckoned -/
def hos := (And.intro @ho_ok (And.intro @ho_ret (And.intro @ho_evC (And.intro @ho_evVar (And.intro @ho_evNil (And.intro @ho_evCons (And.intro @ho_evBin (And.intro @ho_evUn (And.intro @ho_evB (And.intro @ho_evAnd (And.intro @ho_evOr (And.intro @ho_evNot (And.intro @ho_evTru (And.intro @ho_evAndT (And.intro @ho_evOrT (And.intro @ho_evNotT (And.intro @ho_evIf (And.intro @ho_evBl (And.intro @ho_evChain (And.intro @ho_evSeq (And.intro @ho_evSkip (And.intro @ho_evDrop (And.intro @ho_evRet (And.intro @ho_evAsg (And.intro @ho_evAsgT (And.intro @ho_evPar2 (And.intro @ho_evPar3 (And.intro @ho_evCall (And.intro @ho_evCallN (And.intro @ho_evN (And.intro @ho_evTup (And.intro @ho_evLst (And.intro @ho_evPart (And.intro @ho_evSlice (And.intro @ho_evFld (And.intro @ho_evPnPut (And.intro @ho_frzS_va (And.intro @ho_frzS_sl (And.intro @ho_frzSs_nil (And.intro @ho_frzSs_cons (And.intro @ho_evSq (And.intro @ho_evRng (And.intro @ho_evFor (And.intro @ho_evComp (And.intro @ho_evLSet (And.intro @ho_evEn (And.intro @ho_evZp (And.intro @optH_some (And.intro @optH_none (And.intro @optH_map (And.intro @blH_bl (And.intro @nxH_nx (And.intro @nxH_rt (And.intro @nxH_bk (And.intro @nxH_ct (And.intro @retH_va (And.intro @retH_ow (And.intro @retH_sl (And.intro @asgH_va (And.intro @asgH_ow (And.intro @fldH_ob (And.intro @r_va (And.intro @r_sl (And.intro @z_va (And.intro @z_ow (And.intro @z_sl (And.intro @rs_nil (And.intro @rs_cons (And.intro @tru_def (And.intro @v_add (And.intro @v_sub (And.intro @v_neg (And.intro @v_eqI (And.intro @v_neI (And.intro @v_lt (And.intro @v_gt (And.intro @v_le (And.intro @v_ge (And.intro @v_lenL (And.intro @v_lenT (And.intro @v_toi (And.intro @v_abs (And.intro @v_tupL (And.intro @v_tupT (And.intro @v_ixL (And.intro @v_ixT (And.intro @v_sqL @v_sqT)))))))))))))))))))))))))))))))))))))))))))))))))))))))))))))))))))))))))))))))))))))))
theorem gz {α : Type} {a : α} {l : List α} : (a :: l)[0]? = some a := rfl
/-! ### _law_draw -/
def drawM : M Fl := (evSeq (evPnPut 0 "count" (evBin addD (evPnGet 0 "count") (evC (.int 1)))) (evSeq (evIf (evAndT (evBl (evBin eqD (evPnGet 0 "digits") (evC (.int 0)))) (evBl (evBin ltD (evPnGet 0 "at") (evB lenD (evCons (evPnGet 0 "cells") evNil))))) (evSeq (evAsg 2 (evBin ixD (evPnGet 0 "cells") (evPnGet 0 "at"))) (evSeq (evPnPut 0 "at" (evBin addD (evPnGet 0 "at") (evC (.int 1)))) (evIf (evBl (evBin geD (evVar 2) (evBin (intD gPow) (evC (.int 10)) (evC (.int 18))))) (evPnPut 0 "digits" (evBin (intD gSub) (evVar 2) (evBin (intD gPow) (evC (.int 10)) (evC (.int 18))))) (evPnPut 0 "fold" (evBin (intD gMod) (evB toiD (evCons (evBin addD (evBin mulD (evPnGet 0 "fold") (evC (.int 69069))) (evVar 2)) evNil)) (evC (.int 2147483587))))))) evSkip) (evSeq (evIf (evBl (evBin gtD (evPnGet 0 "digits") (evC (.int 0)))) (evSeq (evAsg 3 (evBin (intD gMod) (evB toiD (evCons (evPnGet 0 "digits") evNil)) (evVar 1))) (evSeq (evPnPut 0 "digits" (evBin (intD gDiv) (evPnGet 0 "digits") (evVar 1))) (evRet (evVar 3)))) evSkip) (evSeq (evAsg 4 (evBin (intD gMod) (evB toiD (evCons (evBin addD (evBin addD (evBin mulD (evPnGet 0 "fold") (evC (.int 48271))) (evBin mulD (evPnGet 0 "count") (evC (.int 7919)))) (evC (.int 13))) evNil)) (evC (.int 2147483647)))) (evSeq (evAsg 4 (evBin (intD gMod) (evB toiD (evCons (evBin addD (evBin addD (evBin mulD (evVar 4) (evVar 4)) (evBin mulD (evC (.int 31)) (evVar 4))) (evPnGet 0 "count")) evNil)) (evC (.int 2147483629)))) (evSeq (evPnPut 0 "fold" (evBin (intD gMod) (evB toiD (evCons (evBin addD (evBin mulD (evVar 4) (evC (.int 16807))) (evC (.int 7))) evNil)) (evC (.int 2147483647)))) (evRet (evBin (intD gMod) (evB toiD (evCons (evBin (intD gDiv) (evVar 4) (evC (.int 64))) evNil)) (evVar 1)))))))))
/-- a pen as it may stand -/
def PnOk (p : Pn) : Prop := 0 ≤ p.at_ ∧ 0 ≤ p.digits
theorem g_count {p : Pn} : pnGet "count" p = some (.int p.count) := by with_unfolding_all rfl
theorem g_digits {p : Pn} : pnGet "digits" p = some (.int p.digits) := by with_unfolding_all rfl
theorem g_at {p : Pn} : pnGet "at" p = some (.int p.at_) := by with_unfolding_all rfl
theorem g_fold {p : Pn} : pnGet "fold" p = some (.int p.fold) := by with_unfolding_all rfl
theorem g_cells {p : Pn} : pnGet "cells" p = some (.lst (p.cells.map .int)) := by with_unfolding_all rfl
theorem u_count {p : Pn} {i : Int} : pnPut "count" i p = some { p with count := i } := by with_unfolding_all rfl
theorem u_digits {p : Pn} {i : Int} : pnPut "digits" i p = some { p with digits := i } := by with_unfolding_all rfl
theorem u_at {p : Pn} {i : Int} : pnPut "at" i p = some { p with at_ := i } := by with_unfolding_all rfl
theorem u_fold {p : Pn} {i : Int} : pnPut "fold" i p = some { p with fold := i } := by with_unfolding_all rfl
theorem ho_get {ρ : ES} {i : Nat} {x : Str} {p : Pn} {d : D} {Q : R → ES → Prop} (h : ρ[i]? = some (.pn (.pen p))) (e : pnGet x p = some d) : Ho (evPnGet i x ρ) Q = Q (.va d) ρ := by rw [ho_evPnGet h, e]; rfl

theorem seq_i {f g : M Fl} {ρ : ES} {Q : Fl → ES → Prop} (I : ES → Prop) (h : Ho (f ρ) fun fl ρ' => nxH fl ρ' (I ρ') Q) (k : ∀ ρ', I ρ' → Ho (g ρ') Q) : Ho (evSeq f g ρ) Q := by
  rw [ho_evSeq]
  refine h.imp fun fl ρ' q => ?_
  cases fl with
  | nx => exact k ρ' q
  | _ => exact q
theorem if_t {α : Type} {c : M Bool} {f g : M α} {ρ : ES} {Q : α → ES → Prop} (h : Ho (c ρ) fun k ρ' => k = true ∧ ρ' = ρ) (k : Ho (f ρ) Q) : Ho (evIf c f g ρ) Q := by
  rw [ho_evIf]
  refine h.imp fun b ρ' ⟨e1, e2⟩ => ?_
  subst e1 e2
  exact k
theorem if_f {α : Type} {c : M Bool} {f g : M α} {ρ : ES} {Q : α → ES → Prop} (h : Ho (c ρ) fun k ρ' => k = false ∧ ρ' = ρ) (k : Ho (g ρ) Q) : Ho (evIf c f g ρ) Q := by
  rw [ho_evIf]
  refine h.imp fun b ρ' ⟨e1, e2⟩ => ?_
  subst e1 e2
  exact k
theorem atI_get {xs : List Int} {i : Int} (h0 : 0 ≤ i) (h1 : i < xs.length) : ∃ c, atI (xs.map D.int) i = some (.int c) := by
  refine ⟨xs[i.toNat]'(by omega), ?_⟩
  unfold L2.atI L2.ixN
  rw [List.length_map, if_pos h0, if_pos h1]
  simp only [Option.bind_some, List.getElem?_map]
  rw [List.getElem?_eq_getElem (by omega)]
  rfl
def drawA : M Fl := (evSeq (evAsg 2 (evBin ixD (evPnGet 0 "cells") (evPnGet 0 "at"))) (evSeq (evPnPut 0 "at" (evBin addD (evPnGet 0 "at") (evC (.int 1)))) (evIf (evBl (evBin geD (evVar 2) (evBin (intD gPow) (evC (.int 10)) (evC (.int 18))))) (evPnPut 0 "digits" (evBin (intD gSub) (evVar 2) (evBin (intD gPow) (evC (.int 10)) (evC (.int 18))))) (evPnPut 0 "fold" (evBin (intD gMod) (evB toiD (evCons (evBin addD (evBin mulD (evPnGet 0 "fold") (evC (.int 69069))) (evVar 2)) evNil)) (evC (.int 2147483587)))))))
theorem draw_a {p : Pn} {many : D} (hp : PnOk p) (hl : p.at_ < p.cells.length) : Ho (drawA [.pn (.pen p), .va many, .no, .no, .no]) fun fl ρ => fl = .nx ∧ ∃ p' c, PnOk p' ∧ ρ = [.pn (.pen p'), .va many, .va (.int c), .no, .no] := by
  obtain ⟨ha, hd⟩ := hp
  obtain ⟨c, hc⟩ := atI_get ha hl
  have e2 : gPow 10 18 = some 1000000000000000000 := by decide +kernel
  have e3 : ∀ i : Int, (small64 i || small64 69069) = true := fun i => by simp [small64]
  unfold drawA
  refine seq_i (fun ρ => ρ = [.pn (.pen p), .va many, .va (.int c), .no, .no]) ?_ fun ρ e => ?_
  · simp only [↓hos, ↓ho_get gz g_cells, ↓ho_get gz g_at, ↓hc, Option.map, List.length_cons, List.length_nil, List.set_cons_zero, List.set_cons_succ]
    exact ⟨by decide, trivial⟩
  subst e
  refine seq_i (fun ρ => ρ = [.pn (.pen { p with at_ := p.at_ + 1 }), .va many, .va (.int c), .no, .no]) ?_ fun ρ e => ?_
  · simp only [↓hos, ↓ho_evPnPut, ↓ho_get gz g_at, ↓gz, ↓u_at, List.set_cons_zero]
  subst e
  by_cases h : (1000000000000000000 : Int) ≤ c
  · refine if_t ?_ ?_
    · simp only [↓hos, ↓gz, ↓List.getElem?_cons_succ, v_pow, e2, Option.map]
      simp; omega
    · simp only [↓hos, ↓ho_evPnPut, ↓gz, ↓List.getElem?_cons_succ, v_pow, e2, Option.map, ↓u_digits, List.set_cons_zero]
      refine ⟨trivial, _, c, ?_, rfl⟩
      constructor <;> simp only <;> omega
  · refine if_f ?_ ?_
    · simp only [↓hos, ↓gz, ↓List.getElem?_cons_succ, v_pow, e2, Option.map]
      simp; omega
    · simp only [↓hos, ↓ho_evPnPut, ↓ho_get gz g_fold, ↓gz, ↓List.getElem?_cons_succ, v_mul (e3 _), v_mod (show (0 : Int) < 2147483587 by decide), ↓u_fold, List.set_cons_zero]
      refine ⟨trivial, _, c, ?_, rfl⟩
      constructor <;> simp only <;> omega
def drawB : M Fl := (evSeq (evAsg 3 (evBin (intD gMod) (evB toiD (evCons (evPnGet 0 "digits") evNil)) (evVar 1))) (evSeq (evPnPut 0 "digits" (evBin (intD gDiv) (evPnGet 0 "digits") (evVar 1))) (evRet (evVar 3))))
def drawC : M Fl := (evSeq (evAsg 4 (evBin (intD gMod) (evB toiD (evCons (evBin addD (evBin addD (evBin mulD (evPnGet 0 "fold") (evC (.int 48271))) (evBin mulD (evPnGet 0 "count") (evC (.int 7919)))) (evC (.int 13))) evNil)) (evC (.int 2147483647)))) (evSeq (evAsg 4 (evBin (intD gMod) (evB toiD (evCons (evBin addD (evBin addD (evBin mulD (evVar 4) (evVar 4)) (evBin mulD (evC (.int 31)) (evVar 4))) (evPnGet 0 "count")) evNil)) (evC (.int 2147483629)))) (evSeq (evPnPut 0 "fold" (evBin (intD gMod) (evB toiD (evCons (evBin addD (evBin mulD (evVar 4) (evC (.int 16807))) (evC (.int 7))) evNil)) (evC (.int 2147483647)))) (evRet (evBin (intD gMod) (evB toiD (evCons (evBin (intD gDiv) (evVar 4) (evC (.int 64))) evNil)) (evVar 1))))))
theorem drawM_is : drawM = evSeq (evPnPut 0 "count" (evBin addD (evPnGet 0 "count") (evC (.int 1)))) (evSeq (evIf (evAndT (evBl (evBin eqD (evPnGet 0 "digits") (evC (.int 0)))) (evBl (evBin ltD (evPnGet 0 "at") (evB lenD (evCons (evPnGet 0 "cells") evNil))))) drawA evSkip) (evSeq (evIf (evBl (evBin gtD (evPnGet 0 "digits") (evC (.int 0)))) drawB evSkip) drawC)) := rfl
def DrawP (many : Int) (r : DRes) (q : Mo) : Prop := ∃ i p', r = .va (.int i) ∧ q = .pen p' ∧ 0 ≤ i ∧ i < many ∧ PnOk p'
theorem draw_b {p : Pn} {many : Int} {x y z : Sl} (hp : PnOk p) (h0 : 0 < many) (h1 : many < 1073741824) : Ho (drawB [.pn (.pen p), .va (.int many), x, y, z]) fun fl ρ => flR fl fun r => ∃ p', ρ[0]? = some (.pn p') ∧ DrawP many r p' := by
  unfold drawB
  refine seq_i (fun ρ => ρ = [.pn (.pen p), .va (.int many), x, .va (.int (p.digits % many)), z]) ?_ fun ρ e => ?_
  · simp only [↓hos, ↓ho_get gz g_digits, ↓gz, ↓List.getElem?_cons_succ, ↓v_mod h0, List.length_cons, List.length_nil, List.set_cons_zero, List.set_cons_succ]
    exact ⟨by decide, trivial⟩
  subst e
  refine seq_i (fun ρ => ρ = [.pn (.pen { p with digits := p.digits / many }), .va (.int many), x, .va (.int (p.digits % many)), z]) ?_ fun ρ e => ?_
  · simp only [↓hos, ↓ho_evPnPut, ↓ho_get gz g_digits, ↓gz, ↓List.getElem?_cons_succ, ↓v_div ⟨h0, h1⟩, ↓u_digits, List.set_cons_zero]
  subst e
  simp only [↓hos, ↓gz, ↓List.getElem?_cons_succ]
  exact ⟨_, rfl, _, _, rfl, rfl, Int.emod_nonneg _ (by omega), Int.emod_lt_of_pos _ h0, hp.1, Int.ediv_nonneg hp.2 (by omega)⟩
theorem small_of {i : Int} (h0 : 0 ≤ i) (h1 : i < 18446744073709551616) : small64 i = true := by
  unfold small64
  exact decide_eq_true ⟨by omega, h1⟩
theorem draw_c {p : Pn} {many : Int} {x y z : Sl} (hp : PnOk p) (h0 : 0 < many) : Ho (drawC [.pn (.pen p), .va (.int many), x, y, z]) fun fl ρ => flR fl fun r => ∃ p', ρ[0]? = some (.pn p') ∧ DrawP many r p' := by
  unfold drawC
  have e1 : ∀ i : Int, (small64 i || small64 48271) = true := fun i => by simp [small64]
  have e2 : ∀ i : Int, (small64 i || small64 7919) = true := fun i => by simp [small64]
  have e3 : ∀ i : Int, (small64 i || small64 16807) = true := fun i => by simp [small64]
  have e4 : ∀ i : Int, (small64 31 || small64 i) = true := fun i => by simp [small64]
  obtain ⟨b, hb, hb0, hb1⟩ : ∃ b : Int, b = (p.fold * 48271 + p.count * 7919 + 13) % 2147483647 ∧ 0 ≤ b ∧ b < 2147483647 := ⟨_, rfl, Int.emod_nonneg _ (by decide), Int.emod_lt_of_pos _ (by decide)⟩
  refine seq_i (fun ρ => ρ = [.pn (.pen p), .va (.int many), x, y, .va (.int b)]) ?_ fun ρ e => ?_
  · simp only [↓hos, ↓ho_get gz g_fold, ↓ho_get gz g_count, ↓gz, ↓List.getElem?_cons_succ, ↓v_mul (e1 _), ↓v_mul (e2 _), ↓v_mod (show (0 : Int) < 2147483647 by decide), List.length_cons, List.length_nil, List.set_cons_zero, List.set_cons_succ, ← hb]
    exact ⟨by decide, trivial⟩
  subst e
  have e5 : (small64 b || small64 b) = true := by rw [small_of hb0 (by omega)]; rfl
  obtain ⟨c, hc⟩ : ∃ c : Int, c = (b * b + 31 * b + p.count) % 2147483629 := ⟨_, rfl⟩
  refine seq_i (fun ρ => ρ = [.pn (.pen p), .va (.int many), x, y, .va (.int c)]) ?_ fun ρ e => ?_
  · simp only [↓hos, ↓ho_get gz g_count, ↓gz, ↓List.getElem?_cons_succ, ↓v_mul e5, ↓v_mul (e4 _), ↓v_mod (show (0 : Int) < 2147483629 by decide), List.length_cons, List.length_nil, List.set_cons_zero, List.set_cons_succ, ← hc]
    exact ⟨by decide, trivial⟩
  subst e
  obtain ⟨g, hg⟩ : ∃ g : Int, g = (c * 16807 + 7) % 2147483647 := ⟨_, rfl⟩
  refine seq_i (fun ρ => ρ = [.pn (.pen { p with fold := g }), .va (.int many), x, y, .va (.int c)]) ?_ fun ρ e => ?_
  · simp only [↓hos, ↓ho_evPnPut, ↓gz, ↓List.getElem?_cons_succ, ↓v_mul (e3 _), ↓v_mod (show (0 : Int) < 2147483647 by decide), ↓u_fold, List.set_cons_zero, ← hg]
  subst e
  simp only [↓hos, ↓gz, ↓List.getElem?_cons_succ, ↓v_div (show (0 : Int) < 64 ∧ (64 : Int) < 1073741824 by decide), ↓v_mod h0]
  exact ⟨_, rfl, _, _, rfl, rfl, Int.emod_nonneg _ (by omega), Int.emod_lt_of_pos _ h0, hp⟩
theorem draw_ok {p : Pn} {many : Int} (hp : PnOk p) (h0 : 0 < many) (h1 : many < 1073741824) : ∃ i p', runN 5 drawM (.pen p) [.int many] = some (.va (.int i), .pen p') ∧ 0 ≤ i ∧ i < many ∧ PnOk p' := by
  have key : ∃ r q, runN 5 drawM (.pen p) [.int many] = some (r, q) ∧ DrawP many r q := by
    refine runN_ex ?_
    rw [drawM_is]
    show Ho (evSeq _ _ [.pn (.pen p), .va (.int many), .no, .no, .no]) _
    refine seq_i (fun ρ => ρ = [.pn (.pen { p with count := p.count + 1 }), .va (.int many), .no, .no, .no]) ?_ fun ρ e => ?_
    · simp only [↓hos, ↓ho_evPnPut, ↓ho_get gz g_count, ↓gz, ↓u_count, List.set_cons_zero]
    subst e
    have hp1 : PnOk { p with count := p.count + 1 } := hp
    generalize ({ p with count := p.count + 1 } : Pn) = p1 at hp1
    refine seq_i (fun ρ => ∃ p2 x, PnOk p2 ∧ ρ = [.pn (.pen p2), .va (.int many), x, .no, .no]) ?_ fun ρ ⟨p2, x, hp2, e⟩ => ?_
    · by_cases hc : p1.digits = 0 ∧ p1.at_ < p1.cells.length
      · refine if_t ?_ ?_
        · simp only [↓hos, ↓ho_get gz g_digits, ↓ho_get gz g_at, ↓ho_get gz g_cells, hc.1, decide_true, if_true, List.length_map, hc.2]
          exact ⟨trivial, trivial⟩
        · refine (draw_a hp1 hc.2).imp fun fl ρ ⟨e1, p', c, h2, e2⟩ => ?_
          subst e1 e2
          exact ⟨p', _, h2, rfl⟩
      · refine if_f ?_ ?_
        · by_cases hd : p1.digits = 0
          · have hl : ¬ p1.at_ < p1.cells.length := fun z => hc ⟨hd, z⟩
            simp only [↓hos, ↓ho_get gz g_digits, ↓ho_get gz g_at, ↓ho_get gz g_cells, hd, decide_true, if_true, List.length_map, hl, decide_false]
            exact ⟨trivial, trivial⟩
          · simp only [↓hos, ↓ho_get gz g_digits, hd, decide_false, Bool.false_eq_true, if_false]
            exact ⟨trivial, trivial⟩
        · exact ⟨p1, .no, hp1, rfl⟩
    subst e
    by_cases hd : 0 < p2.digits
    · refine seq_i (fun _ => False) ?_ fun ρ z => z.elim
      refine if_t ?_ ?_
      · simp only [↓hos, ↓ho_get gz g_digits, hd, decide_true]
        exact ⟨trivial, trivial⟩
      · refine (draw_b hp2 h0 h1).imp fun fl ρ q => ?_
        cases fl with
        | nx => obtain ⟨_, _, _, _, z, _⟩ := q; cases z
        | rt r => exact q
        | _ => exact q.elim
    · refine seq_i (fun ρ => ρ = [.pn (.pen p2), .va (.int many), x, .no, .no]) ?_ fun ρ e => ?_
      · refine if_f ?_ ?_
        · simp only [↓hos, ↓ho_get gz g_digits, hd, decide_false]
          exact ⟨trivial, trivial⟩
        · exact rfl
      · subst e
        exact draw_c hp2 h0
  obtain ⟨r, q, e, i, p', rfl, rfl, h⟩ := key
  exact ⟨i, p', e, h⟩
end Mc
end
section
set_option Elab.async false
set_option linter.all false
set_option maxRecDepth 100000
set_option maxHeartbeats 4000000
set_option autoImplicit false
namespace Mc
open PySem PySem.Spec L2

/-! ### calls with the pen -/
def drawF : Mo → List D → Option (DRes × Mo) := runN 5 drawM
theorem call_draw {i : Nat} {fa : M R} {ρ : ES} {Q : R → ES → Prop} {sl : Sl} (h0 : ρ[i]? = some sl) (hs : ∃ p, sl = .pn p) (ha : Ho (fa ρ) fun r ρ1 => ∃ many p, r = .va (.int many) ∧ ρ1[i]? = some (.pn (.pen p)) ∧ PnOk p ∧ 0 < many ∧ many < 1073741824 ∧ ∀ j p', 0 ≤ j → j < many → PnOk p' → Q (.va (.int j)) (ρ1.set i (.pn (.pen p')))) :
    Ho (evCallN drawF (evN 2 (evCons (evVar i) (evCons fa evNil))) ρ) Q := by
  obtain ⟨p0, rfl⟩ := hs
  rw [ho_evCallN, ho_evN, ho_evCons, ho_evVar]
  simp only [h0]
  rw [ho_evCons]
  refine ha.imp fun r ρ1 ⟨many, p, e, h1, h2, h3, h4, k⟩ => ?_
  subst e
  rw [ho_evNil]
  refine ⟨rfl, ?_⟩
  show Ho (callN drawF (.sl i :: [.va (.int many)]) ρ1) Q
  rw [ho_callN h1]
  simp only [↓hos]
  obtain ⟨j, p', e, q1, q2, q3⟩ := draw_ok h2 h3 h4
  rw [show drawF (.pen p) [.int many] = some (.va (.int j), .pen p') from e]
  exact k j p' q1 q2 q3
def pickM : M Fl := (evRet (evBin ixD (evVar 1) (evCallN drawF (evN 2 (evCons (evVar 0) (evCons (evB lenD (evCons (evVar 1) evNil)) evNil))))))
def pickF : Mo → List D → Option (DRes × Mo) := runN 2 pickM
theorem atI_mem {xs : List D} {i : Int} (h0 : 0 ≤ i) (h1 : i < xs.length) : ∃ d ∈ xs, atI xs i = some d := by
  refine ⟨xs[i.toNat]'(by omega), List.getElem_mem _, ?_⟩
  unfold L2.atI L2.ixN
  rw [if_pos h0, if_pos h1]
  simp only [Option.bind_some]
  rw [List.getElem?_eq_getElem (by omega)]
theorem pick_ok {p : Pn} {xs : List D} (hp : PnOk p) (h0 : 0 < xs.length) (h1 : xs.length < 1000000000) : ∃ d ∈ xs, ∃ p', pickF (.pen p) [.lst xs] = some (.va d, .pen p') ∧ PnOk p' := by
  have key : ∃ r q, pickF (.pen p) [.lst xs] = some (r, q) ∧ (∃ d ∈ xs, ∃ p', r = .va d ∧ q = .pen p' ∧ PnOk p') := by
    refine runN_ex ?_
    show Ho (pickM [.pn (.pen p), .va (.lst xs)]) _
    unfold pickM
    rw [ho_evRet, ho_evBin, ho_evVar]
    simp only [↓List.getElem?_cons_succ, ↓gz]
    refine call_draw (i := 0) rfl ⟨_, rfl⟩ ?_
    simp only [↓hos, ↓List.getElem?_cons_succ, ↓gz]
    refine ⟨_, p, rfl, rfl, hp, by omega, by omega, fun j p' q0 q1 q2 => ?_⟩
    obtain ⟨d, hd, e⟩ := atI_mem q0 q1
    simp only [↓hos, e, Option.map]
    exact ⟨_, rfl, d, hd, p', rfl, rfl, q2⟩
  obtain ⟨r, q, e, d, hd, p', rfl, rfl, h⟩ := key
  exact ⟨d, hd, p', e, h⟩
theorem call_pick {i : Nat} {fa : M R} {ρ : ES} {Q : R → ES → Prop} {sl : Sl} (h0 : ρ[i]? = some sl) (hs : ∃ p, sl = .pn p) (ha : Ho (fa ρ) fun r ρ1 => ∃ xs p, r.frz = .va (.lst xs) ∧ ρ1[i]? = some (.pn (.pen p)) ∧ PnOk p ∧ 0 < xs.length ∧ xs.length < 1000000000 ∧ ∀ d ∈ xs, ∀ p', PnOk p' → Q (.va d) (ρ1.set i (.pn (.pen p')))) :
    Ho (evCallN pickF (evN 2 (evCons (evVar i) (evCons fa evNil))) ρ) Q := by
  obtain ⟨p0, rfl⟩ := hs
  rw [ho_evCallN, ho_evN, ho_evCons, ho_evVar]
  simp only [h0]
  rw [ho_evCons]
  refine ha.imp fun r ρ1 ⟨xs, p, e, h1, h2, h3, h4, k⟩ => ?_
  rw [ho_evNil]
  refine ⟨rfl, ?_⟩
  rw [e]
  show Ho (callN pickF (.sl i :: [.va (.lst xs)]) ρ1) Q
  rw [ho_callN h1]
  simp only [↓hos]
  obtain ⟨d, hd, p', e, q3⟩ := pick_ok h2 h3 h4
  rw [e]
  have := k d hd p' q3
  unfold resNH
  simp only
  split <;> exact this
end Mc
end
section
set_option Elab.async false
set_option linter.all false
set_option maxRecDepth 100000
set_option maxHeartbeats 4000000
set_option autoImplicit false
namespace Mc
namespace Lw
open PySem PySem.Spec L2
theorem ho_evSelf {ct : CTab} {i : Nat} {f : Str} {fa : M R} {ρ : ES} {Q : Fl → ES → Prop} : Ho (evSelf ct i f fa ρ) Q = Ho (fa ρ) fun r ρ1 => Ho (frzS r.frz ρ1) fun d ρ2 => (match ρ2[i]? with
    | some (.pn (.ob c fs)) => (hasF ct c f && decide (fs.length < 1000)) = true ∧ Q .nx (ρ2.set i (.pn (.ob c (putD f d fs))))
    | _ => False) := by
  unfold evSelf
  simp only [ho_bnd, ho_frzM]
  congr 1; funext r ρ1; congr 1; funext d ρ2
  cases ρ2[i]? with
  | none => rfl
  | some s =>
    cases s with
    | pn m =>
      cases m with
      | pen _ => rfl
      | ob c fs =>
        simp only
        cases hasF ct c f && decide (fs.length < 1000) <;> simp [Ho]
    | _ => rfl
abbrev Pt := Int × Int
def pt (a : Pt) : D := .tup [.int a.1, .int a.2]
def Sm (a : Pt) : Prop := -1000 ≤ a.1 ∧ a.1 ≤ 1000 ∧ -1000 ≤ a.2 ∧ a.2 ≤ 1000
def crs (a b c : Pt) : Int := (b.1 - a.1) * (c.2 - a.2) - (b.2 - a.2) * (c.1 - a.1)
theorem sm_l {i j : Int} (h : -1000000 ≤ i) (h' : i ≤ 1000000) : (small64 i || small64 j) = true := by
  have : small64 i = true := decide_eq_true ⟨by omega, by omega⟩
  rw [this]; rfl
theorem at0 {a b : D} : atI [a, b] 0 = some a := rfl
theorem at1 {a b : D} : atI [a, b] 1 = some b := rfl
/-- all the keys differ -/
theorem dcM_all {vs : List Nat} {t : Tg} {c : M Bool} {fk fv : M R} {ρ0 : ES} {g : D → List Key} : ∀ (ds : List D) (acc : List (List Key)), (∀ d ∈ ds, optH (t d ρ0) fun ρ1 => Ho (c ρ1) fun k ρ2 => k = true ∧ Ho (fk ρ2) (fun r ρ3 => Ho (frzS r.frz ρ3) fun y ρ4 => keyT y = some (g d) ∧ Ho (fv ρ4) (fun r ρ5 => Ho (frzS r.frz ρ5) fun _ ρ6 => wipeE ρ6 vs = ρ0))) →
    (acc ++ ds.map g).Nodup → acc.length + ds.length ≤ 100000 → dcM vs t c fk fv ds acc ρ0 = some (ρ0, acc ++ ds.map g)
  | [], acc, _, _, _ => by simp [dcM]
  | d :: ds, acc, h, hn, hl => by
    have q := h d List.mem_cons_self
    rw [List.length_cons] at hl
    rw [List.map_cons] at hn
    unfold dcM
    cases ht : t d ρ0 with
    | none => rw [ht] at q; exact q.elim
    | some ρ1 =>
      rw [ht] at q
      obtain ⟨k, ρ2, e, rfl, q2⟩ := Ho.get (show Ho (c ρ1) _ from q)
      simp only [e]
      have q3 : Ho (M.bnd (frzM fk) frzS ρ2) fun y ρ4 => keyT y = some (g d) ∧ Ho (fv ρ4) (fun r ρ5 => Ho (frzS r.frz ρ5) fun _ ρ6 => wipeE ρ6 vs = ρ0) := by rw [ho_bnd, ho_frzM]; exact q2
      obtain ⟨y, ρ4, e4, q4, q5⟩ := q3.get
      have q6 : Ho (M.bnd (frzM fv) frzS ρ4) fun _ ρ6 => wipeE ρ6 vs = ρ0 := by rw [ho_bnd, ho_frzM]; exact q5
      obtain ⟨z, ρ6, e6, q7⟩ := q6.get
      have hf : few acc = true := decide_eq_true (by omega)
      simp only [e4, q4, e6, hf, if_true]
      have hi : insK (g d) acc = acc ++ [g d] := by
        unfold insK
        rw [if_neg]
        intro hm
        obtain ⟨x, hx, ex⟩ := List.any_eq_true.mp hm
        have ex := of_decide_eq_true ex
        subst ex
        have := (List.nodup_append.mp hn).2.2 _ hx _ List.mem_cons_self
        exact this rfl
      rw [hi, q7, dcM_all ds (acc ++ [g d]) (fun d' hd => h d' (List.mem_cons_of_mem _ hd)) (by simpa using hn) (by rw [List.length_append]; simp; omega)]
      simp
theorem ho_evDcLen {vs : List Nat} {fi : M (List D)} {t : Tg} {c : M Bool} {fk fv : M R} {ρ : ES} {Q : R → ES → Prop} : Ho (evDcLen vs fi t c fk fv ρ) Q = Ho (fi ρ) fun ds ρ1 => optH (dcM vs t c fk fv ds [] (wipeE ρ1 vs)) fun z => few z.2 = true ∧ Q (.va (.int z.2.length)) (unwipe ρ1 z.1 vs) := by
  unfold evDcLen
  rw [ho_bnd]
  congr 1; funext ds ρ1
  cases dcM vs t c fk fv ds [] (wipeE ρ1 vs) with
  | none => rfl
  | some z =>
    obtain ⟨z1, z2⟩ := z
    simp only [optH]
    cases few z2 with
    | true => simp [Ho]
    | false => simp [Ho]
def keyP (d : D) : List Key := match keyT d with
  | some k => k
  | none => []
theorem keyT_pt {a : Pt} : keyT (pt a) = some [.inl a.1, .inl a.2] := rfl
theorem keyP_pt {a : Pt} : keyP (pt a) = [.inl a.1, .inl a.2] := rfl
theorem all_true {ds : List D} (h : ∀ d ∈ ds, d = .bl true) : allD [.lst ds] = some (.va (.bl true)) := by
  have : optAll trD ds = some (ds.map fun _ => true) := by
    induction ds with
    | nil => rfl
    | cons d ds ih =>
      unfold optAll
      rw [h d List.mem_cons_self, ih fun d' hd => h d' (List.mem_cons_of_mem _ hd)]
      rfl
  unfold allD
  simp only [sqDs, this, Option.map]
  simp
theorem fm_some {ds : List D} {g : D → D} : ds.filterMap (fun d => some (g d)) = ds.map g := by simp
def py (a : Pt) : PyData := .tuple [.int a.1, .int a.2]
theorem py_pt {a : Pt} : (pt a).py = some (py a) := rfl
theorem pys_pts : ∀ ps : List Pt, D.pys (ps.map pt) = some (ps.map py)
  | [] => rfl
  | p :: ps => by
    rw [List.map_cons, D.pys, py_pt, pys_pts ps]
    rfl
theorem lay_pts : ∀ ps : List Pt, PyData.canLayAll0 (ps.map py) = true
  | [] => by simp [PyData.canLayAll0]
  | p :: ps => by
    rw [List.map_cons, PyData.canLayAll0, lay_pts ps]
    simp [py, PyData.canLay0, PyData.canLayAll0]
theorem dep_pts : ∀ ps : List Pt, PyData.depthAll (ps.map py) ≤ 1
  | [] => by simp [PyData.depthAll]
  | p :: ps => by
    rw [List.map_cons, PyData.depthAll]
    have := dep_pts ps
    have h : PyData.depth (py p) = 1 := by simp [py, PyData.depth, PyData.depthAll]
    rw [h]
    omega
theorem sh_pts {ps : List Pt} : SeqAt.shaped (.list (ps.map py)) = true := by
  have := dep_pts ps
  unfold SeqAt.shaped
  rw [show PyData.canLay0 (.list (ps.map py)) = true by rw [PyData.canLay0]; exact lay_pts ps]
  rw [show PyData.depth (.list (ps.map py)) = PyData.depthAll (ps.map py) + 1 by rw [PyData.depth]]
  simp; omega
theorem sh_pt {a : Pt} : SeqAt.shaped (py a) = true := by
  simp [SeqAt.shaped, py, PyData.canLay0, PyData.canLayAll0, PyData.depth, PyData.depthAll]
theorem eqv_pt {a b : Pt} : PyData.eqv (py a) (py b) = decide (a = b) := by
  have : PyData.eqv (py a) (py b) = ((a.1 == b.1) && (a.2 == b.2)) := by simp [py, PyData.eqv, PyData.eqvAll]
  rw [this]
  obtain ⟨a1, a2⟩ := a
  obtain ⟨b1, b2⟩ := b
  by_cases h1 : a1 = b1 <;> by_cases h2 : a2 = b2 <;> simp [h1, h2]
theorem idx_pts {ps : List Pt} {c : Pt} (hc : c ∈ ps) : ∃ j : Nat, j < ps.length ∧ idxP (ps.map pt) (pt c) = some (.va (.int j)) := by
  have h : ∃ j, (ps.map py).findIdx? (fun z => PyData.eqv z (py c)) = some j ∧ j < (ps.map py).length := by
    cases e : (ps.map py).findIdx? (fun z => PyData.eqv z (py c)) with
    | none =>
      have := List.findIdx?_eq_none_iff.mp e (py c) (List.mem_map.mpr ⟨c, hc, rfl⟩)
      rw [eqv_pt] at this
      simp at this
    | some j => exact ⟨j, rfl, (List.findIdx?_eq_some_iff_getElem.mp e).1⟩
  obtain ⟨j, e, hj⟩ := h
  refine ⟨j, by simpa using hj, ?_⟩
  unfold idxP
  rw [pys_pts, py_pt]
  simp only [sh_pts, sh_pt, Bool.and_self, if_true, e, Option.map]
def iss (ws : List Int) : List D := ws.map .int
def prD (q : Pt × Int) : D := .tup [pt q.1, .int q.2]
theorem argBest_le (bt : Nat → Nat → Bool) : ∀ k, PySem.argBest bt k ≤ k
  | 0 => Nat.le_refl _
  | k + 1 => by
    unfold PySem.argBest
    split
    · exact Nat.le_refl _
    · exact Nat.le_succ_of_le (argBest_le bt k)
theorem bIx_le {mx : Bool} {ps : List PyData} : bIx mx ps ≤ ps.length - 1 := argBest_le _ _
theorem ho_evMake {c : Str} {F : Mo → List D → Option (DRes × Mo)} {fs : M (List R)} {ρ : ES} {Q : R → ES → Prop} : Ho (evMake c F fs ρ) Q = Ho (fs ρ) fun rs ρ1 => Ho (frzSs rs ρ1) fun ds ρ2 => (match F (.ob c []) ds with
    | some (.va .non, .ob c' fs) => if c' = c then Q (.va (.ob c fs)) ρ2 else False
    | _ => False) := by
  unfold evMake
  rw [ho_bnd]
  congr 1; funext rs ρ1
  unfold mkK
  cases frzSs rs ρ1 with
  | none => rfl
  | some r =>
    cases r with
    | er x ρ2 => rfl
    | ok ds ρ2 =>
      simp only [ho_ok]
      cases F (.ob c []) ds with
      | none => rfl
      | some z =>
        obtain ⟨z, m⟩ := z
        cases z with
        | va d =>
          cases d with
          | non =>
            cases m with
            | pen _ => rfl
            | ob c' fs =>
              simp only
              by_cases h : c' = c
              · simp only [h, if_true]; rfl
              · simp only [h, if_false]; rfl
          | _ => cases m <;> rfl
        | _ => cases m <;> rfl
theorem ord_pt {a b : Pt} : ordOk (py a) (py b) = true := by with_unfolding_all rfl
theorem le_pt {a b : Pt} : ∃ k, leD (pt a) (pt b) = some (.va (.bl k)) := by
  unfold leD gtB
  rw [py_pt, py_pt]
  simp only [ord_pt, if_true, Option.map]
  exact ⟨_, rfl⟩
theorem ok2 {a b : Pt} : okAll [py a, py b] = true := by
  unfold okAll
  simp [ord_pt]
theorem best2_pt {mx : Bool} {a b : Pt} : ∃ e, (e = a ∨ e = b) ∧ best2D mx [pt a, pt b] = some (.va (pt e)) := by
  have h : bIx mx [py a, py b] ≤ 1 := bIx_le
  have hp : D.pys [pt a, pt b] = some [py a, py b] := rfl
  have hl : ((pt a).isLst || (pt b).isLst) = false := rfl
  rcases (show bIx mx [py a, py b] = 0 ∨ bIx mx [py a, py b] = 1 by omega) with e | e
  · exact ⟨a, Or.inl rfl, by unfold best2D bestD; simp only [hl, hp, ok2, e, if_true, Bool.false_eq_true, if_false]; rfl⟩
  · exact ⟨b, Or.inr rfl, by unfold best2D bestD; simp only [hl, hp, ok2, e, if_true, Bool.false_eq_true, if_false]; rfl⟩
theorem ok2i {a b : Int} : okAll [.int a, .int b] = true := by
  have : ∀ x y : Int, ordOk (.int x) (.int y) = true := fun x y => by with_unfolding_all rfl
  unfold okAll
  simp [this]
theorem best2_int {mx : Bool} {a b : Int} : ∃ e, (e = a ∨ e = b) ∧ best2D mx [.int a, .int b] = some (.va (.int e)) := by
  have h : bIx mx [.int a, .int b] ≤ 1 := bIx_le
  have hp : D.pys [.int a, .int b] = some [.int a, .int b] := rfl
  have hl : ((D.int a).isLst || (D.int b).isLst) = false := rfl
  rcases (show bIx mx [.int a, .int b] = 0 ∨ bIx mx [.int a, .int b] = 1 by omega) with e | e
  · exact ⟨a, Or.inl rfl, by unfold best2D bestD; simp only [hl, hp, ok2i, e, if_true, Bool.false_eq_true, if_false]; rfl⟩
  · exact ⟨b, Or.inr rfl, by unfold best2D bestD; simp only [hl, hp, ok2i, e, if_true, Bool.false_eq_true, if_false]; rfl⟩
theorem pys_ints : ∀ ws : List Int, D.pys (iss ws) = some (ws.map .int)
  | [] => rfl
  | w :: ws => by
    unfold iss at *
    rw [List.map_cons, D.pys]
    rw [show D.pys (ws.map D.int) = some (ws.map .int) from pys_ints ws]
    rfl
theorem best1_ints {mx : Bool} {ws : List Int} (h : 0 < ws.length) : ∃ m ∈ ws, best1D mx [.lst (iss ws)] = some (.va (.int m)) := by
  have ok : okAll (ws.map PyData.int) = true := by
    have : ∀ x y : Int, ordOk (.int x) (.int y) = true := fun x y => by with_unfolding_all rfl
    unfold okAll
    rw [Bool.and_eq_true]
    constructor
    · cases ws with
      | nil => simp at h
      | cons _ _ => rfl
    · simp [this]
  have hb := bIx_le (mx := mx) (ps := ws.map PyData.int)
  rw [List.length_map] at hb
  have hlt : bIx mx (ws.map PyData.int) < ws.length := by omega
  refine ⟨ws[bIx mx (ws.map PyData.int)], List.getElem_mem _, ?_⟩
  unfold best1D bestD
  simp only [sqDs, pys_ints, ok, if_true]
  unfold iss
  rw [List.getElem?_map, List.getElem?_eq_getElem hlt]
  rfl
theorem resH_same {d : D} {Q : R → Prop} : resH (some (.va d)) Q Q = Q (.va d) := by
  unfold resH
  simp only [ite_self]
/-- one thing of a row -/
def Atom (d : D) : Prop := (∃ i, d = .int i) ∨ (∃ c, d = .bl c) ∨ d = .non
theorem fm_id {ds : List D} : ds.filterMap some = ds := by simp
/-- a number is small -/
def Bd (n : Nat) (i : Int) : Prop := i.natAbs ≤ n
theorem Bd.mul {m n : Nat} {i j : Int} (hi : Bd m i) (hj : Bd n j) : Bd (m * n) (i * j) := by
  unfold Bd at *
  rw [Int.natAbs_mul]
  exact Nat.mul_le_mul hi hj
theorem Bd.add {m n : Nat} {i j : Int} (hi : Bd m i) (hj : Bd n j) : Bd (m + n) (i + j) := by
  unfold Bd at *
  omega
theorem Bd.neg {m : Nat} {i : Int} (hi : Bd m i) : Bd m (-i) := by
  unfold Bd at *
  omega
theorem Bd.up {m n : Nat} {i : Int} (hi : Bd m i) (h : m ≤ n) : Bd n i := Nat.le_trans hi h
theorem bd_of {n : Nat} {i : Int} (h : -(n : Int) ≤ i) (h' : i ≤ n) : Bd n i := by
  unfold Bd
  omega
theorem Sm.x {a : Pt} (h : Sm a) : Bd 1000 a.1 := bd_of (by have := h.1; omega) (by have := h.2.1; omega)
theorem Sm.y {a : Pt} (h : Sm a) : Bd 1000 a.2 := bd_of (by have := h.2.2.1; omega) (by have := h.2.2.2; omega)
theorem fm_map {α : Type} {ps : List α} {h : α → D} {g : D → D} : (ps.map h).filterMap (fun d => some (g d)) = ps.map fun a => g (h a) := by
  rw [List.filterMap_map]
  exact List.filterMap_eq_map' (f := fun a => g (h a)) ▸ rfl
/-- the two parts of a pair of numbers -/
def fst_ (d : D) : Int := match d with
  | .tup [.int x, _] => x
  | _ => 0
def snd_ (d : D) : Int := match d with
  | .tup [_, .int y] => y
  | _ => 0
theorem at_pt {hs : List Pt} {i : Int} (h0 : -(hs.length : Int) ≤ i) (h1 : i < hs.length) : ∃ a ∈ hs, atI (hs.map pt) i = some (pt a) := by
  by_cases h : 0 ≤ i
  · refine ⟨hs[i.toNat]'(by omega), List.getElem_mem _, ?_⟩
    unfold L2.atI L2.ixN
    rw [List.length_map, if_pos h, if_pos h1]
    simp only [Option.bind_some, List.getElem?_map]
    rw [List.getElem?_eq_getElem (by omega)]
    rfl
  · refine ⟨hs[(i + hs.length).toNat]'(by omega), List.getElem_mem _, ?_⟩
    unfold L2.atI L2.ixN
    rw [List.length_map, if_neg h, if_pos h0]
    simp only [Option.bind_some, List.getElem?_map]
    rw [List.getElem?_eq_getElem (by omega)]
    rfl
def unp (d : D) : Pt := (fst_ d, snd_ d)
theorem unp_pt {a : Pt} : unp (pt a) = a := rfl
theorem srt_pts (ps : List Pt) : ∃ rs : List Pt, srt (ps.map pt) (ps.map py) = rs.map pt ∧ rs.length = ps.length ∧ ∀ r ∈ rs, r ∈ ps := by
  have hz : (ps.map pt).zip (ps.map py) = ps.map fun a => (pt a, py a) := by
    rw [List.zip_map']
  have hp := List.mergeSort_perm (ps.map fun a => (pt a, py a)) pLe
  refine ⟨((ps.map fun a => (pt a, py a)).mergeSort pLe).map fun z => unp z.1, ?_, by rw [List.length_map, hp.length_eq, List.length_map], fun r hr => ?_⟩
  · unfold srt
    rw [hz, List.map_map]
    refine List.map_congr_left fun z hz' => ?_
    obtain ⟨a, _, rfl⟩ := List.mem_map.mp (hp.mem_iff.mp hz')
    rfl
  · obtain ⟨z, hz', rfl⟩ := List.mem_map.mp hr
    obtain ⟨a, ha, rfl⟩ := List.mem_map.mp (hp.mem_iff.mp hz')
    exact ha
theorem srt_ok {ps : List Pt} : srtOk (ps.map py) = true := by
  have al : ∀ a b : Pt, PySem.W.alike (py a) (py b) = true := fun a b => by with_unfolding_all rfl
  have dp : ∀ a : Pt, (py a).depth = 1 := fun a => by simp [py, PyData.depth, PyData.depthAll]
  unfold srtOk
  simp only [List.all_map, Bool.and_eq_true, Bool.or_eq_true, List.all_eq_true]
  refine ⟨⟨fun a _ => ?_, Or.inl fun a _ => rfl⟩, fun a _ => ?_⟩
  · show (ps.all ((fun q => PySem.W.alike (py a) q) ∘ py)) = true
    exact List.all_eq_true.mpr fun b _ => al a b
  · show decide ((py a).depth ≤ 64) = true
    rw [dp]
    rfl
theorem sorted_pts {ps : List Pt} {d : D} (hd : d = .tup (ps.map pt) ∨ d = .lst (ps.map pt)) : ∃ rs : List Pt, srtD [d] = some (.ow (rs.map pt)) ∧ rs.length = ps.length ∧ ∀ r ∈ rs, r ∈ ps := by
  obtain ⟨rs, e, h⟩ := srt_pts ps
  refine ⟨rs, ?_, h⟩
  have hs : sqDs [d] = some (ps.map pt) := by rcases hd with rfl | rfl <;> rfl
  unfold srtD
  simp only [hs, pys_pts, srt_ok, if_true, e]
theorem cut_last {xs : List D} : cutG xs none (some (-1)) = xs.dropLast := by
  unfold cutG
  have h : HT.sIx xs.length xs.length (some (-1)) = xs.length - 1 := by
    show (if (-1 : Int) < 0 then ((-1 : Int) + (xs.length : Int)).toNat else min (-1 : Int).toNat xs.length) = _
    rw [if_pos (by decide)]
    omega
  have h' : HT.sIx xs.length 0 none = 0 := rfl
  rw [h', h, List.drop_zero, Nat.sub_zero, List.dropLast_eq_take]
def hh (hs : List Pt) (i : Nat) : Pt := (hs[i]?).getD (0, 0)
theorem hh_eq {hs : List Pt} {i : Nat} (h : i < hs.length) : hh hs i = hs[i] := by
  unfold hh
  rw [List.getElem?_eq_getElem h]
  rfl
theorem hh_mem {hs : List Pt} {i : Nat} (h : i < hs.length) : hh hs i ∈ hs := by
  rw [hh_eq h]
  exact List.getElem_mem h
theorem at_hh {hs : List Pt} {i : Nat} {j : Int} (e : j = i) (h : i < hs.length) : atI (hs.map pt) j = some (pt (hh hs i)) := by
  subst e
  unfold L2.atI L2.ixN
  rw [List.length_map, if_pos (by omega), if_pos (by omega)]
  simp only [Option.bind_some, List.getElem?_map, Int.toNat_natCast]
  rw [List.getElem?_eq_getElem h, hh_eq h]
  rfl
theorem at_last {hs : List Pt} (h : 0 < hs.length) : atI (hs.map pt) (-1) = some (pt (hh hs (hs.length - 1))) := by
  unfold L2.atI L2.ixN
  rw [List.length_map, if_neg (by decide), if_pos (by omega)]
  have : ((-1 : Int) + (hs.length : Int)).toNat = hs.length - 1 := by omega
  simp only [Option.bind_some, List.getElem?_map, this]
  rw [List.getElem?_eq_getElem (by omega), hh_eq (by omega)]
  rfl
theorem en_pts {hs : List Pt} : enD (hs.map pt) = (List.range' 0 hs.length).map fun i => D.tup [.int (i : Nat), pt (hh hs i)] := by
  refine List.ext_getElem? fun i => ?_
  by_cases h : i < hs.length
  · unfold enD
    rw [List.getElem?_zipWith, List.length_map, List.getElem?_range h, List.getElem?_map, List.getElem?_map, List.getElem?_eq_getElem h, List.getElem?_range' h]
    simp only [Nat.zero_add, Nat.one_mul, Option.map_some]
    rw [hh_eq h]
  · rw [List.getElem?_eq_none (by rw [enD_length, List.length_map]; omega), List.getElem?_eq_none (by rw [List.length_map, List.length_range']; omega)]
theorem rng2_at {m n : Nat} (h : n < 1000) : rngR2 [.va (.int 1), .va (.int (n : Nat))] = some ((List.range' 0 (n - 1)).map fun k => D.int ((k : Nat) + 1 : Nat)) := by
  have hs : smI (n : Nat) = true := by
    unfold smI
    rw [decide_eq_true (by omega), decide_eq_true (by omega)]
    rfl
  show (if (smI 1 && smI (n : Nat)) = true then some (rngD 1 1 ((n : Int) - 1).toNat) else none) = _
  rw [show smI 1 = true from rfl, hs]
  simp only [Bool.and_self, if_true]
  unfold rngD
  rw [show ((n : Int) - 1).toNat = n - 1 by omega, List.range_eq_range']
  exact congrArg some (List.map_congr_left fun k _ => congrArg D.int (by omega))
def kp (s : Sl) : Sl := match s with
  | .va d => .va d
  | _ => .no
theorem all3 {p q r : Bool} : allD [.lst [.bl p, .bl q, .bl r]] = some (.va (.bl (p && (q && r)))) := by cases p <;> cases q <;> cases r <;> rfl
theorem lt_ok {m n : Nat} (h : Nat.ble (m + 1) n = true) : m < n := Nat.le_of_ble_eq_true h
theorem eq_pt {a b : Pt} : eqD (pt a) (pt b) = some (.va (.bl (decide (a = b)))) := by
  unfold eqD eqB
  rw [py_pt, py_pt]
  simp only [sh_pt, Bool.and_self, if_true, eqv_pt, Option.map]
theorem strOk_int (i : Int) : PyData.strOk (toString i : String) = true := by
  unfold PyData.strOk
  rw [Array.all_eq_true']
  intro c hc
  by_cases h : c < 0x110000
  · exact decide_eq_true h
  · exact absurd (Array.mem_toList_iff.mpr hc) (PyProof.Rows.int_text_free' c ⟨by omega, Or.inr (by omega)⟩ i)
/-- one thing that may stand in a paper -/
def Atm (d : D) : Prop := d = .non ∨ (∃ c, d = .bl c) ∨ (∃ s, d = .str s ∧ PyData.strOk s = true) ∨ ∃ i, d = .int i
theorem Atom.atm {d : D} (h : Atom d) : Atm d := by
  rcases h with h | h | h
  · exact .inr (.inr (.inr h))
  · exact .inr (.inl h)
  · exact .inl h
def whl : D → Bool
  | .int _ => true
  | _ => false
def geI (l : Int) : D → Bool
  | .int i => decide (l ≤ i)
  | _ => false
theorem allD_bls {bs : List Bool} : allD [.lst (bs.map D.bl)] = some (.va (.bl (bs.all id))) := by
  have : ∀ bs : List Bool, optAll trD (bs.map D.bl) = some bs := fun bs => by
    induction bs with
    | nil => rfl
    | cons b bs ih =>
      rw [List.map_cons]
      unfold optAll
      rw [ih]
      rfl
  unfold allD
  simp only [sqDs, this, Option.map]
theorem allD_map {ds : List D} {g : D → Bool} : allD [.lst (ds.map fun d => D.bl (g d))] = some (.va (.bl (ds.all g))) := by
  have := allD_bls (bs := ds.map g)
  rw [List.map_map] at this
  rw [show (ds.map fun d => D.bl (g d)) = ds.map (D.bl ∘ g) from rfl, this, List.all_map]
  rfl
theorem whl_int {d : D} (h : whl d = true) : ∃ i, d = .int i := by
  cases d <;> first | exact ⟨_, rfl⟩ | cases h
theorem pys_atm : ∀ {ds : List D}, (∀ d ∈ ds, Atm d) → ∃ ps, D.pys ds = some ps ∧ PyData.canLayAll0 ps = true ∧ PyData.depthAll ps ≤ 1 ∧ ps.length = ds.length
  | [], _ => ⟨[], rfl, by simp [PyData.canLayAll0], by simp [PyData.depthAll], rfl⟩
  | d :: ds, h => by
    obtain ⟨ps, e1, e2, e3, e4⟩ := pys_atm (ds := ds) fun d' hd => h d' (List.mem_cons_of_mem _ hd)
    rw [D.pys, e1]
    rcases h d List.mem_cons_self with rfl | ⟨c, rfl⟩ | ⟨s, rfl, hs⟩ | ⟨i, rfl⟩
    · exact ⟨.none :: ps, rfl, by simp [PyData.canLayAll0, PyData.canLay0, e2], by simp [PyData.depthAll, PyData.depth]; omega, by simp [e4]⟩
    · exact ⟨.bool c :: ps, rfl, by simp [PyData.canLayAll0, PyData.canLay0, e2], by simp [PyData.depthAll, PyData.depth]; omega, by simp [e4]⟩
    · exact ⟨.str s :: ps, rfl, by simp [PyData.canLayAll0, PyData.canLay0, e2, hs], by simp [PyData.depthAll, PyData.depth]; omega, by simp [e4]⟩
    · exact ⟨.int i :: ps, rfl, by simp [PyData.canLayAll0, PyData.canLay0, e2], by simp [PyData.depthAll, PyData.depth]; omega, by simp [e4]⟩
theorem eqB_nil {ds : List D} {ps : List PyData} (e1 : D.pys ds = some ps) (e2 : PyData.canLayAll0 ps = true) (e3 : PyData.depthAll ps ≤ 60) (e4 : ps.length = ds.length) : eqB (.lst ds) (.lst []) = some ds.isEmpty := by
  have h : D.py (.lst ds) = some (.list ps) := by rw [D.py, e1]
  have h' : D.py (.lst []) = some (.list []) := rfl
  have s1 : SeqAt.shaped (.list ps) = true := by
    unfold SeqAt.shaped
    rw [show PyData.canLay0 (.list ps) = true by rw [PyData.canLay0]; exact e2]
    rw [show PyData.depth (.list ps) = PyData.depthAll ps + 1 by rw [PyData.depth]]
    simp; omega
  have s2 : SeqAt.shaped (.list []) = true := by
    simp [SeqAt.shaped, PyData.canLay0, PyData.canLayAll0, PyData.depth, PyData.depthAll]
  unfold eqB
  rw [h, h']
  simp only [s1, s2, Bool.and_self, if_true]
  cases ds with
  | nil =>
    cases ps with
    | nil => simp [PyData.eqv, PyData.eqvAll]
    | cons _ _ => cases e4
  | cons d ds =>
    cases ps with
    | nil => cases e4
    | cons _ _ => simp [PyData.eqv, PyData.eqvAll]
theorem eq_nil {ds : List D} (h : ∀ d ∈ ds, Atm d) : eqD (.lst ds) (.lst []) = some (.va (.bl ds.isEmpty)) := by
  obtain ⟨ps, e1, e2, e3, e4⟩ := pys_atm h
  unfold eqD
  rw [eqB_nil e1 e2 (by omega) e4]
  rfl
theorem ne_nil_pts {ps : List Pt} : neD (.lst (ps.map pt)) (.lst []) = some (.va (.bl (!ps.isEmpty))) := by
  unfold neD
  have := dep_pts ps
  rw [eqB_nil (pys_pts ps) (lay_pts ps) (by omega) (by simp)]
  cases ps <;> rfl
theorem filt_empty {ds : List D} {g : D → Bool} : (ds.filterMap fun d => if g d = true then none else some d).isEmpty = ds.all g := by
  induction ds with
  | nil => rfl
  | cons d ds ih =>
    rw [List.filterMap_cons, List.all_cons]
    cases e : g d with
    | true => simpa [e] using ih
    | false => simp
theorem numD_iss {ws : List Int} : optAll numD (iss ws) = some ws := by
  unfold iss
  induction ws with
  | nil => rfl
  | cons w ws ih =>
    rw [List.map_cons]
    unfold optAll
    rw [ih]
    rfl
theorem sumL {ws : List Int} : sumD [.lst (iss ws)] = some (.va (.int ws.sum)) := by
  unfold sumD
  simp only [sqDs, numD_iss, Option.map]
theorem sumT {ws : List Int} : sumD [.tup (iss ws)] = some (.va (.int ws.sum)) := by
  unfold sumD
  simp only [sqDs, numD_iss, Option.map]
theorem anyT {ws : List Int} : anyD [.tup (iss ws)] = some (.va (.bl (ws.any fun w => w != 0))) := by
  have : ∀ ws : List Int, optAll trD (iss ws) = some (ws.map fun w => w != 0) := fun ws => by
    unfold iss
    induction ws with
    | nil => rfl
    | cons w ws ih =>
      rw [List.map_cons]
      unfold optAll
      rw [ih]
      rfl
  unfold anyD
  simp only [sqDs, this, Option.map, List.any_map]
  rfl
/-- the product of a pair of numbers -/
def mulP (d : D) : Int := fst_ d * snd_ d
def dot (xs ws : List Int) : Int := (List.zipWith (fun x w => x * w) xs ws).sum
theorem zip_iss {xs ws : List Int} : (zpD (iss xs) (iss ws)).map (fun d => D.int (mulP d)) = iss (List.zipWith (fun x w => x * w) xs ws) := by
  unfold zpD iss
  rw [List.zipWith_map, List.map_zipWith, List.map_zipWith]
  rfl
theorem mem_zp {d : D} : ∀ {xs ys : List D}, d ∈ zpD xs ys → ∃ x ∈ xs, ∃ y ∈ ys, d = .tup [x, y]
  | [], _, h => by simp [zpD] at h
  | _ :: _, [], h => by simp [zpD] at h
  | x :: xs, y :: ys, h => by
    have h' : d ∈ D.tup [x, y] :: zpD xs ys := h
    rcases List.mem_cons.mp h' with rfl | h'
    · exact ⟨x, List.mem_cons_self, y, List.mem_cons_self, rfl⟩
    · obtain ⟨x', hx, y', hy, e⟩ := mem_zp h'
      exact ⟨x', List.mem_cons_of_mem _ hx, y', List.mem_cons_of_mem _ hy, e⟩
theorem zp_iss {xs ws : List Int} {d : D} (h : d ∈ zpD (iss xs) (iss ws)) : ∃ x ∈ xs, ∃ w, d = .tup [.int x, .int w] := by
  obtain ⟨a, ha, b, hb, rfl⟩ := mem_zp h
  obtain ⟨x, hx, rfl⟩ := List.mem_map.mp ha
  obtain ⟨w, hw, rfl⟩ := List.mem_map.mp hb
  exact ⟨x, hx, w, rfl⟩
theorem zp_pts {ps : List Pt} {ws : List Int} {d : D} (h : d ∈ zpD (ps.map pt) (iss ws)) : ∃ p ∈ ps, ∃ w, d = .tup [pt p, .int w] := by
  obtain ⟨a, ha, b, hb, rfl⟩ := mem_zp h
  obtain ⟨x, hx, rfl⟩ := List.mem_map.mp ha
  obtain ⟨w, hw, rfl⟩ := List.mem_map.mp hb
  exact ⟨x, hx, w, rfl⟩
def fsts (ps : List Pt) : List Int := ps.map (·.1)
def snds (ps : List Pt) : List Int := ps.map (·.2)
def hd_ (d : D) : D := match d with
  | .tup [x, _] => x
  | _ => .non
theorem zip_pts {ps : List Pt} {ws : List Int} {g : Pt → Int} : (zpD (ps.map pt) (iss ws)).map (fun d => D.int (g (unp (hd_ d)) * snd_ d)) = iss (List.zipWith (fun x w => x * w) (ps.map g) ws) := by
  unfold zpD iss
  rw [List.zipWith_map, List.map_zipWith, List.map_zipWith, List.zipWith_map_left]
  rfl
theorem sum_nn : ∀ {ws : List Int}, (∀ w ∈ ws, 0 ≤ w) → 0 ≤ ws.sum ∧ ((ws.any fun w => w != 0) = decide (ws.sum ≠ 0))
  | [], _ => ⟨by simp, by simp⟩
  | w :: ws, h => by
    obtain ⟨h1, h2⟩ := sum_nn (ws := ws) fun x hx => h x (List.mem_cons_of_mem _ hx)
    have h0 := h w List.mem_cons_self
    rw [List.sum_cons, List.any_cons, h2]
    refine ⟨by omega, ?_⟩
    by_cases e : w = 0
    · subst e
      simp
    · have e1 : (w != 0) = true := by simpa using e
      rw [e1, Bool.true_or]
      exact (decide_eq_true (by omega)).symm
theorem iss_of : ∀ {ds : List D} {l : Int}, ds.all (geI l) = true → ∃ ws : List Int, ds = iss ws ∧ ∀ w ∈ ws, l ≤ w
  | [], _, _ => ⟨[], rfl, fun _ h => by cases h⟩
  | d :: ds, l, h => by
    rw [List.all_cons] at h
    obtain ⟨h1, h2⟩ := Bool.and_eq_true_iff.mp h
    obtain ⟨ws, e, hw⟩ := iss_of h2
    cases d with
    | int i =>
      refine ⟨i :: ws, by rw [e]; rfl, fun w hw' => ?_⟩
      rcases List.mem_cons.mp hw' with rfl | hw'
      · exact of_decide_eq_true h1
      · exact hw w hw'
    | _ => cases h1
theorem sm_r {i j : Int} (h : -1000000 ≤ j) (h' : j ≤ 1000000) : (small64 i || small64 j) = true := by
  have : small64 j = true := decide_eq_true ⟨by omega, by omega⟩
  rw [this, Bool.or_true]
theorem filt_pts {ps : List Pt} {P : Pt → Bool} : (ps.map pt).filterMap (fun d => if P (unp d) = true then some d else none) = (ps.filter P).map pt := by
  induction ps with
  | nil => rfl
  | cons p ps ih =>
    rw [List.map_cons, List.filterMap_cons, ih, unp_pt, List.filter_cons]
    cases P p <;> rfl
theorem filt_nil {ps : List Pt} {P : Pt → Bool} : (!(ps.filter P).isEmpty) = !ps.all fun p => !P p := by
  congr 1
  induction ps with
  | nil => rfl
  | cons p ps ih =>
    rw [List.filter_cons, List.all_cons]
    cases e : P p with
    | true => rfl
    | false => simpa using ih
theorem pow9 : gPow 10 9 = some 1000000000 := by decide +kernel
theorem call_pen {F : Mo → List D → Option (DRes × Mo)} {i n : Nat} {fs : M (List R)} {ρ : ES} {Q : R → ES → Prop} {p0 : Mo} (h0 : ρ[i]? = some (.pn p0)) (hf : Ho (fs ρ) fun rs ρ1 => rs.length = n ∧ Ho (frzSs rs ρ1) fun ds ρ2 => ρ2 = ρ1 ∧ ∃ p d p', ρ1[i]? = some (.pn (.pen p)) ∧ F (.pen p) ds = some (.va d, .pen p') ∧ Q (.va d) (ρ1.set i (.pn (.pen p')))) : Ho (evCallN F (evN (n + 1) (evCons (evVar i) fs)) ρ) Q := by
  rw [ho_evCallN, ho_evN, ho_evCons, ho_evVar]
  simp only [h0]
  refine hf.imp fun rs ρ1 ⟨hl, hz⟩ => ?_
  refine ⟨by rw [List.length_cons, hl], ?_⟩
  obtain ⟨ds, ρ2, e, rfl, p, d, p', h1, h2, h3⟩ := hz.get
  show Ho (callN F (.sl i :: rs) ρ2) Q
  rw [ho_callN h1, e, ho_ok, h2]
  unfold resNH
  simp only
  split <;> exact h3
/-- a draw, by one name -/
def cD (i : Nat) (fa : M R) : M R := evCallN drawF (evN 2 (evCons (evVar i) (evCons fa evNil)))
theorem ho_cD {i : Nat} {fa : M R} {ρ : ES} {Q : R → ES → Prop} {p0 : Mo} (h0 : ρ[i]? = some (.pn p0)) (hf : Ho (fa ρ) fun r ρ1 => ∃ many p, r = .va (.int many) ∧ ρ1[i]? = some (.pn (.pen p)) ∧ PnOk p ∧ 0 < many ∧ many < 1000000000 ∧ ∀ j p', 0 ≤ j → j < many → PnOk p' → Q (.va (.int j)) (ρ1.set i (.pn (.pen p')))) : Ho (cD i fa ρ) Q :=
  call_draw h0 ⟨_, rfl⟩ (hf.imp fun r ρ1 ⟨many, p, h1, h2, h3, h4, h5, h6⟩ => ⟨many, p, h1, h2, h3, h4, by omega, h6⟩)
def cP (i : Nat) (fa : M R) : M R := evCallN pickF (evN 2 (evCons (evVar i) (evCons fa evNil)))
theorem ho_cP {i : Nat} {fa : M R} {ρ : ES} {Q : R → ES → Prop} {p0 : Mo} (h0 : ρ[i]? = some (.pn p0)) (hf : Ho (fa ρ) fun r ρ1 => ∃ xs p, r.frz = .va (.lst xs) ∧ ρ1[i]? = some (.pn (.pen p)) ∧ PnOk p ∧ 0 < xs.length ∧ xs.length < 1000000000 ∧ ∀ d ∈ xs, ∀ p', PnOk p' → Q (.va d) (ρ1.set i (.pn (.pen p')))) : Ho (cP i fa ρ) Q :=
  call_pick h0 ⟨_, rfl⟩ hf
/-- a pick from a list in a slot -/
theorem ho_cP_sl {i j : Nat} {ρ : ES} {Q : R → ES → Prop} {p : Pn} {xs : List D} (h0 : ρ[i]? = some (.pn (.pen p))) (hj : ρ[j]? = some (.ow xs) ∨ ρ[j]? = some (.va (.lst xs))) (hp : PnOk p) (h1 : 0 < xs.length) (h2 : xs.length < 1000000000) (k : ∀ d ∈ xs, ∀ p' ρ', PnOk p' → (ρ' = ρ ∨ ρ' = ρ.set j (.va (.lst xs))) → Q (.va d) (ρ'.set i (.pn (.pen p')))) : Ho (cP i (evVar j) ρ) Q := by
  unfold cP
  rw [ho_evCallN, ho_evN, ho_evCons, ho_evVar]
  simp only [h0]
  rw [ho_evCons, ho_evVar]
  rcases hj with hj | hj
  · simp only [hj]
    rw [ho_evNil]
    refine ⟨rfl, ?_⟩
    show Ho (callN pickF (.sl i :: [.sl j]) ρ) Q
    rw [ho_callN h0]
    simp only [↓hos, hj]
    obtain ⟨d, hd, p', e, q3⟩ := pick_ok hp h1 h2
    rw [e]
    unfold resNH
    simp only
    split
    · exact k d hd p' ρ q3 (Or.inl rfl)
    · exact k d hd p' _ q3 (Or.inr rfl)
  · simp only [hj]
    rw [ho_evNil]
    refine ⟨rfl, ?_⟩
    show Ho (callN pickF (.sl i :: [.va (.lst xs)]) ρ) Q
    rw [ho_callN h0]
    simp only [↓hos, hj]
    obtain ⟨d, hd, p', e, q3⟩ := pick_ok hp h1 h2
    rw [e]
    unfold resNH
    simp only
    split
    · exact k d hd p' ρ q3 (Or.inl rfl)
    · exact k d hd p' _ q3 (Or.inl rfl)
/-- a point in a square about the origin -/
def Wd (w : Int) (a : Pt) : Prop := -w ≤ a.1 ∧ a.1 ≤ w ∧ -w ≤ a.2 ∧ a.2 ≤ w
theorem Wd.sm {w : Int} {a : Pt} (h : Wd w a) (hw : w ≤ 1000) : Sm a := by
  obtain ⟨h1, h2, h3, h4⟩ := h
  exact ⟨by omega, by omega, by omega, by omega⟩
theorem any_pts {ps : List Pt} {a : Pt} : ((ps.map py).any fun z => PyData.eqv z (py a)) = decide (a ∈ ps) := by
  rw [List.any_map]
  rw [show ((fun z => PyData.eqv z (py a)) ∘ py) = fun b => decide (b = a) from funext fun b => eqv_pt]
  by_cases h : a ∈ ps
  · rw [decide_eq_true h]
    exact List.any_eq_true.mpr ⟨a, h, decide_eq_true rfl⟩
  · rw [decide_eq_false h]
    refine Bool.eq_false_iff.mpr fun z => ?_
    obtain ⟨b, hb, e⟩ := List.any_eq_true.mp z
    have := of_decide_eq_true e
    subst this
    exact h hb
theorem nin_pts {ps : List Pt} {a : Pt} : ninD (pt a) (.lst (ps.map pt)) = some (.va (.bl (!decide (a ∈ ps)))) := by
  unfold ninD inB
  rw [py_pt]
  simp only [pys_pts, sh_pt, sh_pts, Bool.and_self, if_true, any_pts, Option.map]
theorem rng1 {n : Int} (h : n < 1000000) (h0 : 0 ≤ n) : ∃ ds, rngR1 [.va (.int n)] = some ds ∧ ds.length = n.toNat := by
  have hs : smI n = true := by
    unfold smI
    rw [decide_eq_true (by omega), decide_eq_true (by omega)]
    rfl
  refine ⟨rngD 0 1 n.toNat, ?_, rngD_length _ _ _⟩
  show (if smI n = true then some (rngD 0 1 n.toNat) else none) = _
  rw [hs]
  rfl
theorem cut_tup {xs : List D} {lo hi : Option Int} : ∃ zs, cutD (.tup xs) lo hi = some (.va (.tup zs)) ∧ zs.length ≤ xs.length ∧ ∀ z ∈ zs, z ∈ xs := by
  refine ⟨_, rfl, ?_, ?_⟩
  · split
    · exact Nat.le_refl _
    · unfold cutG
      rw [List.length_take, List.length_drop]
      omega
  · intro z hz
    split at hz
    · exact hz
    · unfold cutG at hz
      exact List.mem_of_mem_drop (List.mem_of_mem_take hz)
theorem add_tup {xs ys : List D} (h : xs.length + ys.length ≤ 1000) : addD (.tup xs) (.tup ys) = some (.va (.tup (xs ++ ys))) := by
  have : okN (xs.length + ys.length) = true := decide_eq_true (by omega)
  simp only [addD, this, if_true]
theorem rep_tup {c : Int} {n : Nat} (h1 : 1 ≤ n) (h2 : n ≤ 100) : ∃ zs, mulD (.tup [.int c]) (.int (n : Nat)) = some (.va (.tup zs)) ∧ zs.length ≤ 1000 ∧ ∀ z ∈ zs, Atom z := by
  by_cases e : ((n : Nat) : Int) = 1
  · refine ⟨[.int c], by simp only [mulD, e, if_true], by simp, fun z hz => ?_⟩
    rw [List.mem_singleton.mp hz]
    exact .inl ⟨c, rfl⟩
  · refine ⟨(List.replicate ((n : Nat) : Int).toNat [.int c]).flatten, ?_, ?_, fun z hz => ?_⟩
    · simp only [mulD, e, if_false]
      rw [if_pos ⟨by omega, by omega, by simp⟩]
    · simp
      omega
    · obtain ⟨l, hl, hz'⟩ := List.mem_flatten.mp hz
      rw [List.eq_of_mem_replicate hl] at hz'
      rw [List.mem_singleton.mp hz']
      exact .inl ⟨c, rfl⟩
theorem iss_atom {ws : List Int} {d : D} (h : d ∈ iss ws) : Atom d := by
  obtain ⟨i, _, rfl⟩ := List.mem_map.mp h
  exact .inl ⟨i, rfl⟩
theorem iss_len {ws : List Int} : (iss ws).length = ws.length := by
  unfold iss
  rw [List.length_map]
theorem rng_c {n : Int} (h : n < 1000000) (h0 : 0 ≤ n) : ∃ ds, rngR1 [.va (.int n)] = some ds ∧ ∀ d ∈ ds, ∃ i, d = .int i := by
  have hs : smI n = true := by
    unfold smI
    rw [decide_eq_true (by omega), decide_eq_true (by omega)]
    rfl
  refine ⟨rngD 0 1 n.toNat, ?_, fun d hd => ?_⟩
  · show (if smI n = true then some (rngD 0 1 n.toNat) else none) = _
    rw [hs]
    rfl
  · obtain ⟨k, _, rfl⟩ := List.mem_map.mp hd
    exact ⟨_, rfl⟩
theorem crs_anti {a b c : Pt} : crs a b c = -crs b a c := by
  unfold crs
  have : ∀ x y z w : Int, x * y - z * w = -(z * w - x * y) := fun x y z w => by omega
  have e : ∀ p q r s t u : Int, (p - q) * (r - s) - (t - s) * (u - q) = p * r - p * s - q * r - (t * u - t * q - s * u) := fun p q r s t u => by
    rw [Int.sub_mul, Int.mul_sub, Int.mul_sub, Int.sub_mul, Int.mul_sub, Int.mul_sub]
    have := Int.mul_comm s q
    omega
  rw [e, e]
  have h1 : b.1 * a.2 = a.2 * b.1 := Int.mul_comm _ _
  have h2 : a.1 * b.2 = b.2 * a.1 := Int.mul_comm _ _
  rw [Int.mul_comm a.2 c.1, Int.mul_comm b.2 c.1, Int.mul_comm a.2 b.1, Int.mul_comm b.2 a.1]
  omega
end Lw
end Mc
end
section
set_option Elab.async false
set_option linter.all false
set_option maxRecDepth 100000
set_option maxHeartbeats 4000000
set_option autoImplicit false
namespace Mc
namespace Lw
open PySem PySem.Spec L2
/-! ### the order of points -/
def llt (a b : Pt) : Bool := decide (a.1 < b.1) || (decide (a.1 = b.1) && decide (a.2 < b.2))
theorem eqv_int {i j : Int} : PyData.eqv (.int i) (.int j) = decide (i = j) := by
  have : PyData.eqv (.int i) (.int j) = (i == j) := by simp [PyData.eqv]
  rw [this, beqI]
theorem lt_py {a b : Pt} : PySem.W.dataLt (py a) (py b) = llt a b := by
  have al : ∀ i j : Int, PySem.W.alike (.int i) (.int j) = true := fun i j => by simp only [PySem.W.alike]
  unfold py llt
  rw [PySem.W.dataLt_tuple]
  by_cases h1 : a.1 = b.1
  · rw [PySem.W.dataLt_all_yes (al _ _) (by rw [eqv_int]; exact decide_eq_true h1)]
    rw [decide_eq_true h1, decide_eq_false (by omega : ¬ a.1 < b.1), Bool.true_and, Bool.false_or]
    by_cases h2 : a.2 = b.2
    · rw [PySem.W.dataLt_all_yes (al _ _) (by rw [eqv_int]; exact decide_eq_true h2), decide_eq_false (by omega : ¬ a.2 < b.2)]
      exact PyProof.Rows.lex_irrefl _
    · rw [PySem.W.dataLt_all_no (al _ _) (by rw [eqv_int]; exact decide_eq_false h2), PySem.W.dataLt_int]
  · rw [PySem.W.dataLt_all_no (al _ _) (by rw [eqv_int]; exact decide_eq_false h1), PySem.W.dataLt_int, decide_eq_false h1, Bool.false_and, Bool.or_false]
theorem leD_pt {a b : Pt} : leD (pt a) (pt b) = some (.va (.bl (!llt b a))) := by
  unfold leD gtB
  rw [py_pt, py_pt]
  simp only [ord_pt, if_true, Option.map, lt_py]
theorem gtD_pt {a b : Pt} : gtD (pt a) (pt b) = some (.va (.bl (llt b a))) := by
  unfold gtD gtB
  rw [py_pt, py_pt]
  simp only [ord_pt, if_true, Option.map, lt_py]
theorem ltD_pt {a b : Pt} : ltD (pt a) (pt b) = some (.va (.bl (llt a b))) := by
  unfold ltD ltB
  rw [py_pt, py_pt]
  simp only [ord_pt, if_true, Option.map, lt_py]
theorem argBest_congr {f g : Nat → Nat → Bool} : ∀ {k : Nat}, (∀ i j, i ≤ k → j ≤ k → f i j = g i j) → PySem.argBest f k = PySem.argBest g k
  | 0, _ => rfl
  | k + 1, h => by
    have ih := argBest_congr (f := f) (g := g) (k := k) fun i j hi hj => h i j (by omega) (by omega)
    unfold PySem.argBest
    rw [ih, h _ _ (Nat.le_refl _) (Nat.le_succ_of_le (argBest_le g k))]
def btP (mx : Bool) (ps : List Pt) (i j : Nat) : Bool := if mx = true then llt (hh ps j) (hh ps i) else llt (hh ps i) (hh ps j)
/-- the least or greatest point, the first one of equals -/
def bestP (mx : Bool) (ps : List Pt) : Pt := hh ps (PySem.argBest (btP mx ps) (ps.length - 1))
theorem getD_py {ps : List Pt} {i : Nat} (h : i < ps.length) : (ps.map py).getD i .none = py (hh ps i) := by
  rw [List.getD_eq_getElem?_getD, List.getElem?_map, List.getElem?_eq_getElem h, hh_eq h]
  rfl
theorem bIx_pts {mx : Bool} {ps : List Pt} (h : 0 < ps.length) : bIx mx (ps.map py) = PySem.argBest (btP mx ps) (ps.length - 1) := by
  unfold bIx
  rw [List.length_map]
  refine argBest_congr fun i j hi hj => ?_
  unfold btP
  rw [getD_py (by omega), getD_py (by omega), lt_py, lt_py]
theorem ok_pts {ps : List Pt} (h : 0 < ps.length) : okAll (ps.map py) = true := by
  unfold okAll
  rw [Bool.and_eq_true]
  refine ⟨?_, ?_⟩
  · cases ps with
    | nil => cases h
    | cons _ _ => rfl
  · simp [ord_pt]
theorem bestD_pts {mx : Bool} {ps : List Pt} (h : 0 < ps.length) : bestD mx (ps.map pt) = some (pt (bestP mx ps)) := by
  unfold bestD
  simp only [pys_pts, ok_pts h, if_true, bIx_pts h]
  have hl : PySem.argBest (btP mx ps) (ps.length - 1) < ps.length := by
    have := argBest_le (btP mx ps) (ps.length - 1)
    omega
  rw [List.getElem?_map, List.getElem?_eq_getElem hl]
  unfold bestP
  rw [hh_eq hl]
  rfl
theorem best1T {mx : Bool} {ps : List Pt} (h : 0 < ps.length) : best1D mx [.tup (ps.map pt)] = some (.va (pt (bestP mx ps))) := by
  unfold best1D
  simp only [sqDs, bestD_pts h, Option.map]
theorem best1L {mx : Bool} {ps : List Pt} (h : 0 < ps.length) : best1D mx [.lst (ps.map pt)] = some (.va (pt (bestP mx ps))) := by
  unfold best1D
  simp only [sqDs, bestD_pts h, Option.map]
def lmn (a b : Pt) : Pt := if llt b a = true then b else a
def lmx (a b : Pt) : Pt := if llt a b = true then b else a
theorem bestP_mn {a b : Pt} : bestP false [a, b] = lmn a b := by
  show hh [a, b] (PySem.argBest (btP false [a, b]) 1) = _
  unfold lmn PySem.argBest
  show hh [a, b] (if btP false [a, b] 1 0 = true then 1 else 0) = _
  show hh [a, b] (if llt b a = true then 1 else 0) = _
  split <;> rfl
theorem bestP_mx {a b : Pt} : bestP true [a, b] = lmx a b := by
  show hh [a, b] (PySem.argBest (btP true [a, b]) 1) = _
  unfold lmx PySem.argBest
  show hh [a, b] (if btP true [a, b] 1 0 = true then 1 else 0) = _
  show hh [a, b] (if llt a b = true then 1 else 0) = _
  split <;> rfl
theorem mn2 {a b : Pt} : best2D false [pt a, pt b] = some (.va (pt (lmn a b))) := by
  show (if false = true then none else (bestD false [pt a, pt b]).map R.va) = _
  rw [if_neg Bool.false_ne_true]
  have := bestD_pts (mx := false) (ps := [a, b]) (by simp)
  rw [bestP_mn] at this
  exact congrArg (Option.map R.va) this
theorem mx2 {a b : Pt} : best2D true [pt a, pt b] = some (.va (pt (lmx a b))) := by
  show (if false = true then none else (bestD true [pt a, pt b]).map R.va) = _
  rw [if_neg Bool.false_ne_true]
  have := bestD_pts (mx := true) (ps := [a, b]) (by simp)
  rw [bestP_mx] at this
  exact congrArg (Option.map R.va) this
/-! ### sides -/
abbrev Sd := Pt × Pt
def sd (s : Sd) : D := .tup [pt s.1, pt s.2]
theorem mn1 {s : Sd} : best1D false [sd s] = some (.va (pt (lmn s.1 s.2))) := by
  have := best1T (mx := false) (ps := [s.1, s.2]) (by simp)
  rw [bestP_mn] at this
  exact this
theorem mx1 {s : Sd} : best1D true [sd s] = some (.va (pt (lmx s.1 s.2))) := by
  have := best1T (mx := true) (ps := [s.1, s.2]) (by simp)
  rw [bestP_mx] at this
  exact this
theorem lmn_or {a b : Pt} : lmn a b = a ∨ lmn a b = b := by
  unfold lmn
  split
  · exact Or.inr rfl
  · exact Or.inl rfl
theorem lmx_or {a b : Pt} : lmx a b = a ∨ lmx a b = b := by
  unfold lmx
  split
  · exact Or.inr rfl
  · exact Or.inl rfl
theorem lmn_sm {a b : Pt} (ha : Sm a) (hb : Sm b) : Sm (lmn a b) := by rcases lmn_or (a := a) (b := b) with e | e <;> rw [e] <;> assumption
theorem lmx_sm {a b : Pt} (ha : Sm a) (hb : Sm b) : Sm (lmx a b) := by rcases lmx_or (a := a) (b := b) with e | e <;> rw [e] <;> assumption
def sg (i : Int) : Int := if 0 < i then 1 else if i < 0 then -1 else 0
/-- whether a point is on the way from one to another one -/
def btw (a b c : Pt) : Bool := decide (crs a b c = 0) && (!llt c (lmn a b) && !llt (lmx a b) c)
/-- what two sides have in common -/
inductive Cmn where
  | no
  | seg (a b : Pt)
  | spo (x y d : Int)
def spt (x y d : Int) : Cmn :=
  let g : Int := ((Nat.gcd x.natAbs y.natAbs).gcd d.natAbs : Nat)
  let g := if d < 0 then -g else g
  .spo (x.fdiv g) (y.fdiv g) (d.fdiv g)
def crSpot (s t : Sd) : Cmn :=
  let top := crs t.1 t.2 s.1
  let bot := top - crs t.1 t.2 s.2
  spt (s.1.1 * bot + (s.2.1 - s.1.1) * top) (s.1.2 * bot + (s.2.2 - s.1.2) * top) bot
def cmn (s t : Sd) : Cmn :=
  if crs s.1 s.2 t.1 = 0 ∧ crs s.1 s.2 t.2 = 0 then
    (if llt (lmn (lmx s.1 s.2) (lmx t.1 t.2)) (lmx (lmn s.1 s.2) (lmn t.1 t.2)) = true then .no
    else if lmx (lmn s.1 s.2) (lmn t.1 t.2) = lmn (lmx s.1 s.2) (lmx t.1 t.2) then .spo (lmx (lmn s.1 s.2) (lmn t.1 t.2)).1 (lmx (lmn s.1 s.2) (lmn t.1 t.2)).2 1
    else .seg (lmx (lmn s.1 s.2) (lmn t.1 t.2)) (lmn (lmx s.1 s.2) (lmx t.1 t.2)))
  else if 0 < sg (crs s.1 s.2 t.1) * sg (crs s.1 s.2 t.2) then .no
  else if 0 < sg (crs t.1 t.2 s.1) * sg (crs t.1 t.2 s.2) then .no
  else crSpot s t
def Cmn.d : Cmn → D
  | .no => .non
  | .seg a b => sd (a, b)
  | .spo x y d => .tup [.int x, .int y, .int d]
def how (s t : Sd) : Str := match cmn s t with
  | .no => "none"
  | .seg _ _ => "share"
  | .spo x y d => if d = 1 ∧ (x, y) ∈ [s.1, s.2, t.1, t.2] then "touch" else "cross"
end Lw
end Mc
end
section
set_option Elab.async false
set_option linter.all false
set_option maxRecDepth 100000
set_option maxHeartbeats 4000000
set_option autoImplicit false
namespace Mc
open PySem PySem.Spec L2
/-- a loop that looks for the first thing to return -/
theorem for_find {t : Tg} {f : M Fl} (I : ES → Prop) (r : D → Option R) : ∀ (ds : List D) (ρ : ES), I ρ → (∀ d ∈ ds, ∀ ρ, I ρ → optH (t d ρ) fun ρ1 => Ho (f ρ1) fun fl ρ2 => (match r d with
    | some v => fl = .rt v
    | none => fl = .nx ∧ I ρ2)) → Ho (forM t f ds ρ) fun fl ρ' => (match ds.findSome? r with
    | some v => fl = .rt v
    | none => fl = .nx ∧ I ρ')
  | [], ρ, i, _ => ⟨rfl, i⟩
  | d :: ds, ρ, i, h => by
    have q := h d List.mem_cons_self ρ i
    unfold forM
    cases ht : t d ρ with
    | none => rw [ht] at q; exact q.elim
    | some ρ1 =>
      rw [ht] at q
      obtain ⟨fl, ρ2, e, q2⟩ := Ho.get (show Ho (f ρ1) _ from q)
      simp only [e]
      rw [List.findSome?_cons]
      cases hr : r d with
      | some v =>
        rw [hr] at q2
        simp only at q2
        subst q2
        rfl
      | none =>
        rw [hr] at q2
        simp only at q2
        obtain ⟨rfl, i2⟩ := q2
        exact for_find I r ds ρ2 i2 fun d' hd => h d' (List.mem_cons_of_mem _ hd)
namespace Lw
theorem rng1_eq {n : Nat} (h : n ≤ 100000) : rngR1 [.va (.int (n : Nat))] = some ((List.range n).map fun i => D.int (i : Nat)) := by
  have hs : smI (n : Nat) = true := by
    unfold smI
    rw [decide_eq_true (by omega), decide_eq_true (by omega)]
    rfl
  show (if smI (n : Nat) = true then some (rngD 0 1 ((n : Int)).toNat) else none) = _
  rw [hs]
  simp only [if_true]
  unfold rngD
  exact congrArg some (List.map_congr_left fun k _ => congrArg D.int (by omega))
theorem rng2_eq {i n : Nat} (h : n ≤ 100000) (hi : i ≤ 100000) : rngR2 [.va (.int (i : Nat)), .va (.int (n : Nat))] = some ((List.range' i (n - i)).map fun j => D.int (j : Nat)) := by
  have hs : smI (n : Nat) = true := by
    unfold smI
    rw [decide_eq_true (by omega), decide_eq_true (by omega)]
    rfl
  have hs2 : smI (i : Nat) = true := by
    unfold smI
    rw [decide_eq_true (by omega), decide_eq_true (by omega)]
    rfl
  show (if (smI (i : Nat) && smI (n : Nat)) = true then some (rngD i 1 ((n : Int) - i).toNat) else none) = _
  rw [hs, hs2]
  simp only [Bool.and_self, if_true]
  unfold rngD
  rw [show ((n : Int) - i).toNat = n - i by omega, List.range_eq_range']
  refine congrArg some (List.ext_getElem? fun k => ?_)
  by_cases hk : k < n - i
  · rw [List.getElem?_map, List.getElem?_map, List.getElem?_range' hk, List.getElem?_range' hk]
    simp only [Option.map_some]
    exact congrArg (fun z => some (D.int z)) (by omega)
  · rw [List.getElem?_eq_none (by simp; omega), List.getElem?_eq_none (by simp; omega)]
def tl_ (d : D) : D := match d with
  | .tup [_, y] => y
  | _ => .non
/-- the number that a datum is -/
def toN : D → Nat
  | .int i => i.toNat
  | _ => 0
theorem toN_int {i : Nat} : toN (.int (i : Nat)) = i := by
  show ((i : Int)).toNat = i
  omega
theorem rng_map {n : Nat} {g : Nat → D} : ((List.range n).map fun i => D.int (i : Nat)).filterMap (fun d => some (g (toN d))) = (List.range n).map g := by
  rw [fm_map]
  refine List.map_congr_left fun i _ => ?_
  rw [toN_int]
theorem sh_ptsT {ps : List Pt} : SeqAt.shaped (.tuple (ps.map py)) = true := by
  have := dep_pts ps
  unfold SeqAt.shaped
  rw [show PyData.canLay0 (.tuple (ps.map py)) = true by rw [PyData.canLay0]; exact lay_pts ps]
  rw [show PyData.depth (.tuple (ps.map py)) = PyData.depthAll (ps.map py) + 1 by rw [PyData.depth]]
  simp; omega
theorem in_ptsT {ps : List Pt} {a : Pt} : inD (pt a) (.tup (ps.map pt)) = some (.va (.bl (decide (a ∈ ps)))) := by
  unfold inD inB
  rw [py_pt]
  simp only [pys_pts, sh_pt, sh_ptsT, Bool.and_self, if_true, any_pts, Option.map]
def lo2 (s t : Sd) : Pt := lmx (lmn s.1 s.2) (lmn t.1 t.2)
def hi2 (s t : Sd) : Pt := lmn (lmx s.1 s.2) (lmx t.1 t.2)
theorem sg_mul {i j : Int} : (0 < sg i * sg j) = ((0 < i ∧ 0 < j) ∨ (i < 0 ∧ j < 0)) := by
  have c : ∀ i : Int, (0 < i ∧ sg i = 1) ∨ (i = 0 ∧ sg i = 0) ∨ (i < 0 ∧ sg i = -1) := fun i => by
    unfold sg
    rcases (show 0 < i ∨ i = 0 ∨ i < 0 by omega) with h | h | h
    · exact Or.inl ⟨h, if_pos h⟩
    · exact Or.inr (Or.inl ⟨h, by rw [if_neg (by omega), if_neg (by omega)]⟩)
    · exact Or.inr (Or.inr ⟨h, by rw [if_neg (by omega), if_pos h]⟩)
  rcases c i with ⟨h1, e1⟩ | ⟨h1, e1⟩ | ⟨h1, e1⟩ <;> rcases c j with ⟨h2, e2⟩ | ⟨h2, e2⟩ | ⟨h2, e2⟩ <;> rw [e1, e2] <;> simp <;> omega
/-! ### how two sides meet -/
inductive Hw where
  | none | touch | cross | share
  deriving DecidableEq
def Hw.s : Hw → Str
  | .none => "none"
  | .touch => "touch"
  | .cross => "cross"
  | .share => "share"
def Cmn.hw (s t : Sd) : Cmn → Hw
  | .no => .none
  | .seg _ _ => .share
  | .spo x y d => if d = 1 ∧ (x, y) ∈ [s.1, s.2, t.1, t.2] then .touch else .cross
def hw (s t : Sd) : Hw := (cmn s t).hw s t
theorem hw_eqN {h : Hw} : eqD (.str h.s) (.str "none") = some (.va (.bl (decide (h = .none)))) := by cases h <;> with_unfolding_all rfl
theorem hw_eqS {h : Hw} : eqD (.str h.s) (.str "share") = some (.va (.bl (decide (h = .share)))) := by cases h <;> with_unfolding_all rfl
theorem hw_neS {h : Hw} : neD (.str h.s) (.str "share") = some (.va (.bl (!decide (h = .share)))) := by cases h <;> with_unfolding_all rfl
theorem hw_neN {h : Hw} : neD (.str h.s) (.str "none") = some (.va (.bl (!decide (h = .none)))) := by cases h <;> with_unfolding_all rfl
/-! ### rings -/
def side (ps : List Pt) (i : Nat) : Sd := (hh ps i, hh ps ((i + 1) % ps.length))
def sds (ps : List Pt) : List Sd := (List.range ps.length).map (side ps)
def dbl (ps : List Pt) : Int := ((sds ps).map fun s => s.1.1 * s.2.2 - s.1.2 * s.2.1).sum
def fst0 (r : List Pt) (a : Pt) : Nat := r.findIdx fun b => decide (b = a)
def rot (r : List Pt) (i : Nat) : List Pt := r.drop i ++ r.take i
def ahd (ps : List Pt) : List Pt := if 0 < dbl ps then ps else ps.reverse
def led (ps : List Pt) : List Pt := rot (ahd ps) (fst0 (ahd ps) (bestP false (ahd ps)))
def prv (n i : Nat) : Nat := if i = 0 then n - 1 else i - 1
def tat (ps : List Pt) (i : Nat) : Int := sg (crs (hh ps (prv ps.length i)) (hh ps i) (hh ps ((i + 1) % ps.length)))
inductive Ft where
  | str (i : Nat)
  | flt (i j : Nat) (h : Hw)
def bes (n i j : Nat) : Bool := decide (j - i = 1 ∨ j - i = n - 1)
def ft (ps : List Pt) (i j : Nat) : Option Hw :=
  if hw (side ps i) (side ps j) = .none ∨ (bes ps.length i j = true ∧ hw (side ps i) (side ps j) ≠ .share) then none else some (hw (side ps i) (side ps j))
def ffS (ps : List Pt) : Option Ft := (List.range ps.length).findSome? fun i => if tat ps i = 0 then some (.str i) else none
def ffF (ps : List Pt) : Option Ft := (List.range ps.length).findSome? fun i => (List.range' (i + 1) (ps.length - (i + 1))).findSome? fun j => (ft ps i j).map (Ft.flt i j)
def ff (ps : List Pt) : Option Ft := match ffS ps with
  | some f => some f
  | none => ffF ps
def Ft.d : Ft → D
  | .str i => .ob "Straight" [("index", .int (i : Nat))]
  | .flt i j h => .ob "Fault" [("one", .int (i : Nat)), ("other", .int (j : Nat)), ("how", .str h.s)]
def ffD (o : Option Ft) : D := match o with
  | some f => f.d
  | none => .non
def SmR (ps : List Pt) : Prop := ∀ p ∈ ps, Sm p
theorem hh_sm {ps : List Pt} {i : Nat} (hp : SmR ps) : Sm (hh ps i) := by
  by_cases h : i < ps.length
  · exact hp _ (hh_mem h)
  · unfold hh
    rw [List.getElem?_eq_none (by omega)]
    exact ⟨by decide, by decide, by decide, by decide⟩
theorem side_sm {ps : List Pt} {i : Nat} (hp : SmR ps) : Sm (side ps i).1 ∧ Sm (side ps i).2 := ⟨hh_sm hp, hh_sm hp⟩
theorem at_prv {ps : List Pt} {i : Nat} (h : i < ps.length) : atI (ps.map pt) ((i : Int) - 1) = some (pt (hh ps (prv ps.length i))) := by
  unfold prv
  by_cases h0 : i = 0
  · rw [if_pos h0]
    have := at_last (hs := ps) (by omega)
    rw [← this]
    congr 1
    omega
  · rw [if_neg h0]
    exact at_hh (by omega) (by omega)
theorem at_nxt {ps : List Pt} {i : Nat} (h : i < ps.length) : atI (ps.map pt) (((i : Int) + 1) % (ps.length : Nat)) = some (pt (hh ps ((i + 1) % ps.length))) :=
  at_hh (by rw [Int.natCast_emod]; rfl) (Nat.mod_lt _ (by omega))
theorem at_sds {ps : List Pt} {i : Nat} (h : i < ps.length) : atI ((sds ps).map sd) (i : Nat) = some (sd (side ps i)) := by
  unfold L2.atI L2.ixN sds
  rw [List.length_map, List.length_map, List.length_range, if_pos (by omega), if_pos (by omega)]
  simp only [Option.bind_some, List.getElem?_map, Int.toNat_natCast]
  rw [List.getElem?_range h]
  rfl
end Lw
end Mc
end
section
set_option Elab.async false
set_option linter.all false
set_option maxRecDepth 100000
set_option maxHeartbeats 4000000
set_option autoImplicit false
namespace Mc
namespace Lw
open PySem PySem.Spec L2
theorem resH_flat {d : D} {Q Q' : R → Prop} (h : d.flat = true) : resH (some (.va d)) Q Q' = Q (.va d) := by
  unfold resH
  simp only [h, if_true]
theorem fs_map {α β γ : Type} {g : α → Option β} {f : β → γ} : ∀ {l : List α}, (l.findSome? fun a => (g a).map f) = (l.findSome? g).map f
  | [] => rfl
  | a :: l => by
    rw [List.findSome?_cons, List.findSome?_cons]
    cases g a with
    | some b => rfl
    | none => exact fs_map
theorem lay_ints : ∀ ws : List Int, PyData.canLayAll0 (ws.map .int) = true
  | [] => by simp [PyData.canLayAll0]
  | p :: ps => by
    rw [List.map_cons, PyData.canLayAll0, lay_ints ps]
    simp [PyData.canLay0]
theorem dep_ints : ∀ ws : List Int, PyData.depthAll (ws.map .int) ≤ 1
  | [] => by simp [PyData.depthAll]
  | p :: ps => by
    rw [List.map_cons, PyData.depthAll]
    have := dep_ints ps
    have h : PyData.depth (.int p) = 0 := by simp [PyData.depth]
    rw [h]
    omega
theorem sh_intsT {ws : List Int} : SeqAt.shaped (.tuple (ws.map .int)) = true := by
  have := dep_ints ws
  unfold SeqAt.shaped
  rw [show PyData.canLay0 (.tuple (ws.map .int)) = true by rw [PyData.canLay0]; exact lay_ints ws]
  rw [show PyData.depth (.tuple (ws.map .int)) = PyData.depthAll (ws.map .int) + 1 by rw [PyData.depth]]
  simp; omega
theorem sh_int {i : Int} : SeqAt.shaped (.int i) = true := by
  simp [SeqAt.shaped, PyData.canLay0, PyData.depth]
theorem any_ints {ws : List Int} {a : Int} : ((ws.map PyData.int).any fun z => PyData.eqv z (.int a)) = decide (a ∈ ws) := by
  rw [List.any_map]
  rw [show ((fun z => PyData.eqv z (.int a)) ∘ PyData.int) = fun b => decide (b = a) from funext fun b => eqv_int]
  by_cases h : a ∈ ws
  · rw [decide_eq_true h]
    exact List.any_eq_true.mpr ⟨a, h, decide_eq_true rfl⟩
  · rw [decide_eq_false h]
    refine Bool.eq_false_iff.mpr fun z => ?_
    obtain ⟨b, hb, e⟩ := List.any_eq_true.mp z
    have := of_decide_eq_true e
    subst this
    exact h hb
theorem in_intsT {ws : List Int} {a : Int} : inD (.int a) (.tup (iss ws)) = some (.va (.bl (decide (a ∈ ws)))) := by
  unfold inD inB
  rw [show (D.int a).py = some (.int a) from rfl]
  simp only [pys_ints, sh_int, sh_intsT, Bool.and_self, if_true, any_ints, Option.map]
theorem nin_intsT {ws : List Int} {a : Int} : ninD (.int a) (.tup (iss ws)) = some (.va (.bl (!decide (a ∈ ws)))) := by
  unfold ninD inB
  rw [show (D.int a).py = some (.int a) from rfl]
  simp only [pys_ints, sh_int, sh_intsT, Bool.and_self, if_true, any_ints, Option.map]
def hwO : Option Hw → D
  | some h => .str h.s
  | none => .non
theorem hwO_flat {o : Option Hw} : (hwO o).flat = true := by cases o <;> rfl
theorem bes_int {n i j : Nat} (h : i < j) (hj : j < n) : (((j : Int) - i) % (n : Nat) ∈ ([1, (n : Int) - 1] : List Int)) ↔ bes n i j = true := by
  rw [Int.emod_eq_of_lt (by omega) (by omega)]
  unfold bes
  rw [decide_eq_true_iff]
  simp only [List.mem_cons, List.not_mem_nil, or_false]
  omega
end Lw
end Mc
end
section
set_option Elab.async false
set_option linter.all false
set_option maxRecDepth 100000
set_option maxHeartbeats 4000000
set_option autoImplicit false
namespace Mc
namespace Lw
open PySem PySem.Spec L2
def nts (l : List Nat) : List D := l.map fun i => D.int (i : Nat)
def tats (qs : List Pt) : List Int := (List.range qs.length).map (tat qs)
def bys (qs : List Pt) : List Nat := (List.range qs.length).filter fun i => decide (tat qs i < 0)
def bsd (qs : List Pt) : Option (Nat × Nat) := (List.range qs.length).findSome? fun i => (List.range qs.length).findSome? fun j => if sg (crs (side qs i).1 (side qs i).2 (hh qs j)) < 0 then some (i, j) else none
def obd (qs : List Pt) (p : Pt) : Bool := (sds qs).any fun s => btw s.1 s.2 p
def upw (s : Sd) : Bool := decide (0 < s.2.2 - s.1.2) || (decide (s.2.2 - s.1.2 = 0) && decide (0 < s.2.1 - s.1.1))
def gbk (qs : List Pt) (i : Nat) : Bool := decide (tat qs i = 0) && !btw (hh qs (prv qs.length i)) (hh qs ((i + 1) % qs.length)) (hh qs i)
def trs (qs : List Pt) (t : Int) (i : Nat) : Int :=
  let t := if 0 < tat qs i ∧ upw (side qs i) = true ∧ upw (side qs (prv qs.length i)) = false then t + 1 else t
  if tat qs i < 0 ∧ upw (side qs (prv qs.length i)) = true ∧ upw (side qs i) = false then t - 1 else t
def trn (qs : List Pt) : Int := (List.range qs.length).foldl (trs qs) 0
theorem en_gen {ds : List D} {g : Nat → D} {n : Nat} (hl : ds.length = n) (h : ∀ i, i < n → ds[i]? = some (g i)) : enD ds = (List.range n).map fun i => D.tup [.int (i : Nat), g i] := by
  refine List.ext_getElem? fun i => ?_
  by_cases hi : i < n
  · unfold enD
    rw [List.getElem?_zipWith, hl, List.getElem?_range hi, h i hi, List.getElem?_map, List.getElem?_range hi]
    rfl
  · rw [List.getElem?_eq_none (by rw [enD_length]; omega), List.getElem?_eq_none (by simp; omega)]
theorem getD_pts {qs : List Pt} {i : Nat} (h : i < qs.length) : (qs.map pt)[i]? = some (pt (hh qs i)) := by
  rw [List.getElem?_map, List.getElem?_eq_getElem h, hh_eq h]
  rfl
theorem getD_sds {qs : List Pt} {i : Nat} (h : i < qs.length) : ((sds qs).map sd)[i]? = some (sd (side qs i)) := by
  unfold sds
  rw [List.getElem?_map, List.getElem?_map, List.getElem?_range h]
  rfl
theorem getD_tats {qs : List Pt} {i : Nat} (h : i < qs.length) : (iss (tats qs))[i]? = some (D.int (tat qs i)) := by
  unfold iss tats
  rw [List.getElem?_map, List.getElem?_map, List.getElem?_range h]
  rfl
theorem filt_nts {n : Nat} {P : Nat → Bool} {x : Nat → D} {t : D → Bool} (ht : ∀ i, t (.tup [.int (i : Nat), x i]) = P i) : ((List.range n).map fun i => D.tup [.int (i : Nat), x i]).filterMap (fun d => if t d = true then some (hd_ d) else none) = nts ((List.range n).filter P) := by
  unfold nts
  generalize List.range n = l
  induction l with
  | nil => rfl
  | cons a l ih =>
    rw [List.map_cons, List.filterMap_cons, ih, ht, List.filter_cons]
    cases P a with
    | false => rfl
    | true => rfl
end Lw
end Mc
end
section
set_option Elab.async false
set_option linter.all false
set_option maxRecDepth 100000
set_option maxHeartbeats 4000000
set_option autoImplicit false
namespace Mc
namespace Lw
open PySem PySem.Spec L2
theorem ms2 {α : Type} {le : α → α → Bool} {x y : α} : [x, y].mergeSort le = if le x y = true then [x, y] else [y, x] := by
  simp [List.mergeSort, List.MergeSort.Internal.splitInTwo, List.merge]
def lgt (a b : Pt) : Pt := if llt b a = true then a else b
theorem srt2 {a b : Pt} : srtD [.lst [pt a, pt b]] = some (.ow [pt (lmn a b), pt (lgt a b)]) := by
  have hp : D.pys [pt a, pt b] = some [py a, py b] := pys_pts [a, b]
  have ho : srtOk [py a, py b] = true := srt_ok (ps := [a, b])
  unfold srtD
  simp only [sqDs, hp, ho, if_true]
  unfold srt
  show some (R.ow (([(pt a, py a), (pt b, py b)].mergeSort pLe).map (·.1))) = _
  rw [ms2]
  show some (R.ow ((if (!PySem.W.dataLt (py b) (py a)) = true then [(pt a, py a), (pt b, py b)] else [(pt b, py b), (pt a, py a)]).map (·.1))) = _
  rw [lt_py]
  unfold lmn lgt
  cases llt b a <;> rfl
theorem llt_iff {a b : Pt} : llt a b = true ↔ (a.1 < b.1 ∨ (a.1 = b.1 ∧ a.2 < b.2)) := by
  unfold llt
  simp
theorem pt_ext {a b : Pt} (h1 : a.1 = b.1) (h2 : a.2 = b.2) : a = b := by
  cases a; cases b
  simp only at h1 h2
  rw [h1, h2]
theorem lgt_mx {a b : Pt} : lgt a b = lmx a b := by
  unfold lgt lmx
  by_cases h1 : llt b a = true
  · rw [if_pos h1]
    by_cases h2 : llt a b = true
    · rw [llt_iff] at h1 h2
      omega
    · rw [if_neg h2]
  · rw [if_neg h1]
    by_cases h2 : llt a b = true
    · rw [if_pos h2]
    · rw [if_neg h2]
      rw [llt_iff] at h1 h2
      exact pt_ext (by omega) (by omega)
theorem llt_eq {a b : Pt} (h1 : llt a b = false) (h2 : llt b a = false) : a = b := by
  have h1' : ¬ llt a b = true := by rw [h1]; simp
  have h2' : ¬ llt b a = true := by rw [h2]; simp
  rw [llt_iff] at h1' h2'
  exact pt_ext (by omega) (by omega)
theorem llt_self {a : Pt} : llt a a = false := by
  refine Bool.eq_false_iff.mpr fun z => ?_
  rw [llt_iff] at z
  omega
/-! ### two sides, by the law's own sums -/
def bt0 (s t : Sd) : Int := (s.2.1 - s.1.1) * (t.2.2 - t.1.2) - (s.2.2 - s.1.2) * (t.2.1 - t.1.1)
def fi0 (s t : Sd) : Int := (t.1.1 - s.1.1) * (t.2.2 - t.1.2) - (t.1.2 - s.1.2) * (t.2.1 - t.1.1)
def se0 (s t : Sd) : Int := (t.1.1 - s.1.1) * (s.2.2 - s.1.2) - (t.1.2 - s.1.2) * (s.2.1 - s.1.1)
theorem crs_se {s t : Sd} : crs s.1 s.2 t.1 = -se0 s t := by
  unfold crs se0
  grind
theorem crs_sb {s t : Sd} : crs s.1 s.2 t.2 = bt0 s t - se0 s t := by
  unfold crs se0 bt0
  grind
theorem crs_fi {s t : Sd} : crs t.1 t.2 s.1 = fi0 s t := by
  unfold crs fi0
  grind
theorem crs_fb {s t : Sd} : crs t.1 t.2 s.2 = fi0 s t - bt0 s t := by
  unfold crs fi0 bt0
  grind
def lspt (x y d : Int) : Cmn := .spo (x / (((Nat.gcd x.natAbs y.natAbs).gcd d.natAbs : Nat) : Int)) (y / (((Nat.gcd x.natAbs y.natAbs).gcd d.natAbs : Nat) : Int)) (d / (((Nat.gcd x.natAbs y.natAbs).gcd d.natAbs : Nat) : Int))
theorem spt_pos {x y d : Int} (h : 0 < d) : spt x y d = lspt x y d := by
  unfold spt lspt
  simp only
  rw [if_neg (by omega)]
  rw [Int.fdiv_eq_ediv_of_nonneg _ (Int.natCast_nonneg _), Int.fdiv_eq_ediv_of_nonneg _ (Int.natCast_nonneg _), Int.fdiv_eq_ediv_of_nonneg _ (Int.natCast_nonneg _)]
theorem spt_neg {x y d : Int} (h : d < 0) : spt x y d = lspt (-x) (-y) (-d) := by
  rw [← spt_pos (by omega : 0 < -d)]
  unfold spt
  simp only [Int.natAbs_neg]
  rw [if_pos h, if_neg (by omega)]
  generalize ((Nat.gcd x.natAbs y.natAbs).gcd d.natAbs : Nat) = g
  have e : ∀ a : Int, a.fdiv (-(g : Int)) = (-a).fdiv g := fun a => by
    have := Int.neg_fdiv_neg a (-(g : Int))
    rw [Int.neg_neg] at this
    exact this.symm
  rw [e, e, e]
def lcmn (s t : Sd) : Cmn :=
  if bt0 s t = 0 then
    (if crs s.1 s.2 t.1 ≠ 0 then .no
    else if llt (hi2 s t) (lo2 s t) = true then .no
    else if llt (lo2 s t) (hi2 s t) = true then .seg (lo2 s t) (hi2 s t) else .spo (lo2 s t).1 (lo2 s t).2 1)
  else
    let b := if bt0 s t < 0 then -bt0 s t else bt0 s t
    let f := if bt0 s t < 0 then -fi0 s t else fi0 s t
    let e := if bt0 s t < 0 then -se0 s t else se0 s t
    if ¬ (0 ≤ f ∧ f ≤ b) ∨ ¬ (0 ≤ e ∧ e ≤ b) then .no
    else lspt (s.1.1 * b + (s.2.1 - s.1.1) * f) (s.1.2 * b + (s.2.2 - s.1.2) * f) b
theorem lcmn_eq {s t : Sd} : lcmn s t = cmn s t := by
  unfold lcmn cmn
  rw [crs_se, crs_sb, crs_fi, crs_fb]
  show _ = if _ then (if llt (hi2 s t) (lo2 s t) = true then Cmn.no else if lo2 s t = hi2 s t then .spo (lo2 s t).1 (lo2 s t).2 1 else .seg (lo2 s t) (hi2 s t)) else _
  by_cases hb : bt0 s t = 0
  · rw [if_pos hb, hb]
    by_cases he : se0 s t = 0
    · rw [if_neg (show ¬ (-se0 s t ≠ 0) by omega), if_pos (show -se0 s t = 0 ∧ 0 - se0 s t = 0 from ⟨by omega, by omega⟩)]
      cases h1 : llt (hi2 s t) (lo2 s t) with
      | true => rfl
      | false =>
        simp only [Bool.false_eq_true, if_false]
        cases h2 : llt (lo2 s t) (hi2 s t) with
        | true =>
          rw [if_neg (show ¬ lo2 s t = hi2 s t from fun z => by rw [z, llt_self] at h2; cases h2)]
          rfl
        | false =>
          rw [if_pos (llt_eq h2 h1)]
          rfl
    · rw [if_pos (show -se0 s t ≠ 0 by omega), if_neg (show ¬ (-se0 s t = 0 ∧ 0 - se0 s t = 0) by omega), if_pos]
      rw [sg_mul]
      omega
  · rw [if_neg hb, if_neg (show ¬ (-se0 s t = 0 ∧ bt0 s t - se0 s t = 0) by omega)]
    have e1 : (0 < sg (-se0 s t) * sg (bt0 s t - se0 s t)) = ((0 < -se0 s t ∧ 0 < bt0 s t - se0 s t) ∨ (-se0 s t < 0 ∧ bt0 s t - se0 s t < 0)) := sg_mul
    have e2 : (0 < sg (fi0 s t) * sg (fi0 s t - bt0 s t)) = ((0 < fi0 s t ∧ 0 < fi0 s t - bt0 s t) ∨ (fi0 s t < 0 ∧ fi0 s t - bt0 s t < 0)) := sg_mul
    simp only [e1, e2]
    have hsp : crSpot s t = spt (s.1.1 * bt0 s t + (s.2.1 - s.1.1) * fi0 s t) (s.1.2 * bt0 s t + (s.2.2 - s.1.2) * fi0 s t) (bt0 s t) := by
      unfold crSpot
      simp only
      rw [crs_fi, crs_fb]
      rw [show fi0 s t - (fi0 s t - bt0 s t) = bt0 s t by omega]
    by_cases hn : bt0 s t < 0
    · simp only [hn, if_true]
      by_cases h1 : (¬ (0 ≤ -fi0 s t ∧ -fi0 s t ≤ -bt0 s t)) ∨ (¬ (0 ≤ -se0 s t ∧ -se0 s t ≤ -bt0 s t))
      · rw [if_pos h1]
        by_cases h2 : ((0 < -se0 s t ∧ 0 < bt0 s t - se0 s t) ∨ (-se0 s t < 0 ∧ bt0 s t - se0 s t < 0))
        · rw [if_pos h2]
        · rw [if_neg h2, if_pos (show ((0 < fi0 s t ∧ 0 < fi0 s t - bt0 s t) ∨ (fi0 s t < 0 ∧ fi0 s t - bt0 s t < 0)) by omega)]
      · rw [if_neg h1, if_neg (show ¬ ((0 < -se0 s t ∧ 0 < bt0 s t - se0 s t) ∨ (-se0 s t < 0 ∧ bt0 s t - se0 s t < 0)) by omega), if_neg (show ¬ ((0 < fi0 s t ∧ 0 < fi0 s t - bt0 s t) ∨ (fi0 s t < 0 ∧ fi0 s t - bt0 s t < 0)) by omega), hsp, spt_neg hn]
        congr 1 <;> grind
    · simp only [hn, if_false]
      by_cases h1 : (¬ (0 ≤ fi0 s t ∧ fi0 s t ≤ bt0 s t)) ∨ (¬ (0 ≤ se0 s t ∧ se0 s t ≤ bt0 s t))
      · rw [if_pos h1]
        by_cases h2 : ((0 < -se0 s t ∧ 0 < bt0 s t - se0 s t) ∨ (-se0 s t < 0 ∧ bt0 s t - se0 s t < 0))
        · rw [if_pos h2]
        · rw [if_neg h2, if_pos (show ((0 < fi0 s t ∧ 0 < fi0 s t - bt0 s t) ∨ (fi0 s t < 0 ∧ fi0 s t - bt0 s t < 0)) by omega)]
      · rw [if_neg h1, if_neg (show ¬ ((0 < -se0 s t ∧ 0 < bt0 s t - se0 s t) ∨ (-se0 s t < 0 ∧ bt0 s t - se0 s t < 0)) by omega), if_neg (show ¬ ((0 < fi0 s t ∧ 0 < fi0 s t - bt0 s t) ∨ (fi0 s t < 0 ∧ fi0 s t - bt0 s t < 0)) by omega), hsp, spt_pos (by omega)]
end Lw
end Mc
end
section
set_option Elab.async false
set_option linter.all false
set_option maxRecDepth 100000
set_option maxHeartbeats 4000000
set_option autoImplicit false
namespace Mc
namespace Lw
open PySem PySem.Spec L2
/-! ### moved rings -/
def tr (x y : Int) (a : Pt) : Pt := (x + a.1, y + a.2)
section
variable {x y : Int}
theorem tr_inj {a b : Pt} : (tr x y a = tr x y b) ↔ a = b := by
  unfold tr
  constructor
  · intro h
    have h1 := congrArg Prod.fst h
    have h2 := congrArg Prod.snd h
    simp only at h1 h2
    exact pt_ext (by omega) (by omega)
  · rintro rfl
    rfl
theorem crs_tr {a b c : Pt} : crs (tr x y a) (tr x y b) (tr x y c) = crs a b c := by
  unfold crs tr
  simp only
  rw [show x + b.1 - (x + a.1) = b.1 - a.1 by omega, show y + c.2 - (y + a.2) = c.2 - a.2 by omega, show y + b.2 - (y + a.2) = b.2 - a.2 by omega, show x + c.1 - (x + a.1) = c.1 - a.1 by omega]
theorem bool_iff {a b : Bool} (h : a = true ↔ b = true) : a = b := by
  cases a <;> cases b <;> simp_all
theorem llt_tr {a b : Pt} : llt (tr x y a) (tr x y b) = llt a b := by
  refine bool_iff ?_
  rw [llt_iff, llt_iff]
  unfold tr
  simp only
  omega
theorem lmn_tr {a b : Pt} : lmn (tr x y a) (tr x y b) = tr x y (lmn a b) := by
  unfold lmn
  rw [llt_tr]
  split <;> rfl
theorem lmx_tr {a b : Pt} : lmx (tr x y a) (tr x y b) = tr x y (lmx a b) := by
  unfold lmx
  rw [llt_tr]
  split <;> rfl
def trS (x y : Int) (s : Sd) : Sd := (tr x y s.1, tr x y s.2)
def Cmn.kd : Cmn → Nat
  | .no => 0
  | .seg _ _ => 1
  | .spo _ _ _ => 2
theorem kd_crSpot {s t : Sd} : (crSpot s t).kd = 2 := rfl
theorem cmn_tr {s t : Sd} : (cmn (trS x y s) (trS x y t)).kd = (cmn s t).kd := by
  unfold cmn trS
  simp only
  rw [crs_tr, crs_tr, crs_tr, crs_tr, lmn_tr, lmn_tr, lmx_tr, lmx_tr, lmx_tr, lmn_tr, llt_tr]
  by_cases h : crs s.1 s.2 t.1 = 0 ∧ crs s.1 s.2 t.2 = 0
  · rw [if_pos h, if_pos h]
    split
    · rfl
    · by_cases he : lmx (lmn s.1 s.2) (lmn t.1 t.2) = lmn (lmx s.1 s.2) (lmx t.1 t.2)
      · rw [if_pos he, if_pos (tr_inj.mpr he)]
        rfl
      · rw [if_neg he, if_neg (fun z => he (tr_inj.mp z))]
        rfl
  · rw [if_neg h, if_neg h]
    split
    · rfl
    · split
      · rfl
      · rfl
theorem hw_none {s t : Sd} : hw s t = .none ↔ (cmn s t).kd = 0 := by
  unfold hw
  cases cmn s t with
  | no => exact ⟨fun _ => rfl, fun _ => rfl⟩
  | seg a b => exact ⟨fun h => (by cases h), fun h => (by cases h)⟩
  | spo a b d =>
    unfold Cmn.hw
    simp only
    refine ⟨fun h => ?_, fun h => (by cases h)⟩
    split at h <;> cases h
theorem hw_share {s t : Sd} : hw s t = .share ↔ (cmn s t).kd = 1 := by
  unfold hw
  cases cmn s t with
  | no => exact ⟨fun h => (by cases h), fun h => (by cases h)⟩
  | seg a b => exact ⟨fun _ => rfl, fun _ => rfl⟩
  | spo a b d =>
    unfold Cmn.hw
    simp only
    refine ⟨fun h => ?_, fun h => (by cases h)⟩
    split at h <;> cases h
theorem hh_tr {ps : List Pt} {i : Nat} (h : i < ps.length) : hh (ps.map (tr x y)) i = tr x y (hh ps i) := by
  rw [hh_eq (by rw [List.length_map]; exact h), hh_eq h, List.getElem_map]
theorem side_tr {ps : List Pt} {i : Nat} (h : i < ps.length) : side (ps.map (tr x y)) i = trS x y (side ps i) := by
  unfold side trS
  rw [hh_tr h, List.length_map, hh_tr (Nat.mod_lt _ (by omega))]
theorem prv_lt {n i : Nat} (h : i < n) : prv n i < n := by
  unfold prv
  split <;> omega
theorem tat_tr {ps : List Pt} {i : Nat} (h : i < ps.length) : tat (ps.map (tr x y)) i = tat ps i := by
  unfold tat
  rw [List.length_map, hh_tr (prv_lt h), hh_tr h, hh_tr (Nat.mod_lt _ (by omega)), crs_tr]
theorem ft_tr {ps : List Pt} {i j : Nat} (hi : i < ps.length) (hj : j < ps.length) : ft (ps.map (tr x y)) i j = none ↔ ft ps i j = none := by
  unfold ft
  rw [side_tr hi, side_tr hj, List.length_map]
  have h0 := hw_none (s := trS x y (side ps i)) (t := trS x y (side ps j))
  have h1 := hw_share (s := trS x y (side ps i)) (t := trS x y (side ps j))
  rw [cmn_tr, ← hw_none] at h0
  rw [cmn_tr, ← hw_share] at h1
  by_cases hc : hw (side ps i) (side ps j) = .none ∨ (bes ps.length i j = true ∧ hw (side ps i) (side ps j) ≠ .share)
  · rw [if_pos hc, if_pos]
    rcases hc with z | ⟨z1, z2⟩
    · exact Or.inl (h0.mpr z)
    · exact Or.inr ⟨z1, fun q => z2 (h1.mp q)⟩
  · rw [if_neg hc, if_neg]
    · simp
    · rintro (z | ⟨z1, z2⟩)
      · exact hc (Or.inl (h0.mp z))
      · exact hc (Or.inr ⟨z1, fun q => z2 (h1.mpr q)⟩)
theorem ff_none {ps : List Pt} : ff ps = none ↔ (∀ i, i < ps.length → tat ps i ≠ 0) ∧ ∀ i j, i < j → j < ps.length → ft ps i j = none := by
  have h1 : ffS ps = none ↔ ∀ i, i < ps.length → tat ps i ≠ 0 := by
    unfold ffS
    rw [List.findSome?_eq_none_iff]
    constructor
    · intro h i hi z
      have := h i (List.mem_range.mpr hi)
      rw [if_pos z] at this
      cases this
    · intro h i hi
      rw [if_neg (h i (List.mem_range.mp hi))]
  have h2 : ffF ps = none ↔ ∀ i j, i < j → j < ps.length → ft ps i j = none := by
    unfold ffF
    rw [List.findSome?_eq_none_iff]
    constructor
    · intro h i j hij hj
      have q := h i (List.mem_range.mpr (by omega))
      rw [List.findSome?_eq_none_iff] at q
      have q := q j (List.mem_range'_1.mpr (by omega))
      cases e : ft ps i j with
      | none => rfl
      | some w => rw [e] at q; cases q
    · intro h i hi
      rw [List.findSome?_eq_none_iff]
      intro j hj
      have hj := List.mem_range'_1.mp hj
      rw [h i j (by omega) (by omega)]
      rfl
  rw [← h1, ← h2]
  unfold ff
  cases ffS ps with
  | some f => exact ⟨fun z => (by cases z), fun z => (by cases z.1)⟩
  | none => exact ⟨fun z => ⟨rfl, z⟩, fun z => z.2⟩
theorem ff_tr {ps : List Pt} : ff (ps.map (tr x y)) = none ↔ ff ps = none := by
  rw [ff_none, ff_none, List.length_map]
  constructor
  · rintro ⟨h1, h2⟩
    exact ⟨fun i hi => by rw [← tat_tr hi]; exact h1 i hi, fun i j a b => (ft_tr (by omega) b).mp (h2 i j a b)⟩
  · rintro ⟨h1, h2⟩
    exact ⟨fun i hi => by rw [tat_tr hi]; exact h1 i hi, fun i j a b => (ft_tr (by omega) b).mpr (h2 i j a b)⟩
/-! the doubled area stays -/
theorem sum_rot {n : Nat} {f : Nat → Int} (h : 0 < n) : ((List.range n).map fun i => f ((i + 1) % n)).sum = ((List.range n).map f).sum := by
  obtain ⟨m, rfl⟩ : ∃ m, n = m + 1 := ⟨n - 1, by omega⟩
  rw [List.range_succ, List.map_append, List.sum_append, List.map_cons, List.map_nil, List.sum_cons, List.sum_nil, Nat.mod_self]
  have e1 : (List.range m).map (fun i => f ((i + 1) % (m + 1))) = (List.range m).map fun i => f (i + 1) := List.map_congr_left fun i hi => by
    rw [Nat.mod_eq_of_lt (by have := List.mem_range.mp hi; omega)]
  rw [e1, ← List.range_succ, List.range_succ_eq_map, List.map_cons, List.sum_cons, List.map_map]
  have e2 : (List.range m).map (f ∘ Nat.succ) = (List.range m).map fun i => f (i + 1) := rfl
  rw [e2]
  omega
theorem sum_add {l : List Nat} {f g : Nat → Int} : (l.map fun i => f i + g i).sum = (l.map f).sum + (l.map g).sum := by
  induction l with
  | nil => rfl
  | cons a l ih =>
    simp only [List.map_cons, List.sum_cons, ih]
    omega
theorem sum_mul {l : List Nat} {f : Nat → Int} {c : Int} : (l.map fun i => c * f i).sum = c * (l.map f).sum := by
  induction l with
  | nil => simp
  | cons a l ih =>
    simp only [List.map_cons, List.sum_cons, ih, Int.mul_add]
theorem dbl_tr {ps : List Pt} (h : 0 < ps.length) : dbl (ps.map (tr x y)) = dbl ps := by
  unfold dbl sds
  rw [List.map_map, List.map_map, List.length_map]
  have r1 := sum_rot (f := fun i => (hh ps i).1) h
  have r2 := sum_rot (f := fun i => (hh ps i).2) h
  have e : (List.range ps.length).map ((fun s : Sd => s.1.1 * s.2.2 - s.1.2 * s.2.1) ∘ side (ps.map (tr x y))) = (List.range ps.length).map fun i => ((fun s : Sd => s.1.1 * s.2.2 - s.1.2 * s.2.1) ∘ side ps) i + (x * ((hh ps ((i + 1) % ps.length)).2 + -1 * (hh ps i).2) + y * ((hh ps i).1 + -1 * (hh ps ((i + 1) % ps.length)).1)) := List.map_congr_left fun i hi => by
    have hi := List.mem_range.mp hi
    show (side (ps.map (tr x y)) i).1.1 * (side (ps.map (tr x y)) i).2.2 - (side (ps.map (tr x y)) i).1.2 * (side (ps.map (tr x y)) i).2.1 = ((side ps i).1.1 * (side ps i).2.2 - (side ps i).1.2 * (side ps i).2.1) + _
    rw [side_tr hi]
    unfold trS side tr
    simp only
    grind
  rw [e, sum_add, sum_add, sum_mul, sum_mul, sum_add, sum_add, sum_mul, sum_mul, r1, r2]
  grind
theorem ahd_tr {ps : List Pt} (h : 0 < ps.length) : ahd (ps.map (tr x y)) = (ahd ps).map (tr x y) := by
  unfold ahd
  rw [dbl_tr h]
  split
  · rfl
  · rw [List.map_reverse]
theorem bestP_tr {mx : Bool} {ps : List Pt} (h : 0 < ps.length) : bestP mx (ps.map (tr x y)) = tr x y (bestP mx ps) := by
  unfold bestP
  rw [List.length_map]
  have e : PySem.argBest (btP mx (ps.map (tr x y))) (ps.length - 1) = PySem.argBest (btP mx ps) (ps.length - 1) := argBest_congr fun i j hi hj => by
    unfold btP
    rw [hh_tr (by omega), hh_tr (by omega), llt_tr, llt_tr]
  rw [e, hh_tr]
  have := argBest_le (btP mx ps) (ps.length - 1)
  omega
theorem fst0_tr {r : List Pt} {a : Pt} : fst0 (r.map (tr x y)) (tr x y a) = fst0 r a := by
  unfold fst0
  rw [List.findIdx_map]
  congr 1
  funext b
  show decide (tr x y b = tr x y a) = decide (b = a)
  by_cases h : b = a
  · rw [decide_eq_true h, decide_eq_true (tr_inj.mpr h)]
  · rw [decide_eq_false h, decide_eq_false fun z => h (tr_inj.mp z)]
theorem ahd_len {ps : List Pt} : (ahd ps).length = ps.length := by
  unfold ahd
  split
  · rfl
  · exact List.length_reverse
theorem led_tr {ps : List Pt} (h : 0 < ps.length) : led (ps.map (tr x y)) = (led ps).map (tr x y) := by
  unfold led rot
  rw [ahd_tr h, bestP_tr (by rw [ahd_len]; exact h), fst0_tr, List.map_append, List.map_drop, List.map_take]
theorem bys_tr {qs : List Pt} : bys (qs.map (tr x y)) = bys qs := by
  unfold bys
  rw [List.length_map]
  exact List.filter_congr fun i hi => by rw [tat_tr (List.mem_range.mp hi)]
theorem bsd_tr {qs : List Pt} : bsd (qs.map (tr x y)) = bsd qs := by
  unfold bsd
  rw [List.length_map]
  have e : ∀ {α β : Type} {l : List α} {f g : α → Option β}, (∀ a ∈ l, f a = g a) → l.findSome? f = l.findSome? g := fun {α β l f g} h => by
    induction l with
    | nil => rfl
    | cons a l ih => rw [List.findSome?_cons, List.findSome?_cons, h a List.mem_cons_self, ih fun b hb => h b (List.mem_cons_of_mem _ hb)]
  refine e fun i hi => e fun j hj => ?_
  rw [side_tr (List.mem_range.mp hi), hh_tr (List.mem_range.mp hj)]
  unfold trS
  simp only
  rw [crs_tr]
theorem btw_tr {a b c : Pt} : btw (tr x y a) (tr x y b) (tr x y c) = btw a b c := by
  unfold btw
  rw [crs_tr, lmn_tr, lmx_tr, llt_tr, llt_tr]
theorem obd_tr {qs : List Pt} {p : Pt} : obd (qs.map (tr x y)) (tr x y p) = obd qs p := by
  unfold obd sds
  rw [List.any_map, List.any_map, List.length_map]
  have e : ∀ {l : List Nat} {f g : Nat → Bool}, (∀ a ∈ l, f a = g a) → l.any f = l.any g := fun {l f g} h => by
    induction l with
    | nil => rfl
    | cons a l ih => rw [List.any_cons, List.any_cons, h a List.mem_cons_self, ih fun b hb => h b (List.mem_cons_of_mem _ hb)]
  refine e fun i hi => ?_
  show btw (side (qs.map (tr x y)) i).1 (side (qs.map (tr x y)) i).2 (tr x y p) = btw (side qs i).1 (side qs i).2 p
  rw [side_tr (List.mem_range.mp hi)]
  exact btw_tr
theorem upw_tr {s : Sd} : upw (trS x y s) = upw s := by
  unfold upw trS tr
  simp only
  rw [show y + s.2.2 - (y + s.1.2) = s.2.2 - s.1.2 by omega, show x + s.2.1 - (x + s.1.1) = s.2.1 - s.1.1 by omega]
theorem gbk_tr {qs : List Pt} {i : Nat} (h : i < qs.length) : gbk (qs.map (tr x y)) i = gbk qs i := by
  unfold gbk
  rw [tat_tr h, List.length_map, hh_tr (prv_lt h), hh_tr h, hh_tr (Nat.mod_lt _ (by omega)), btw_tr]
theorem trn_tr {qs : List Pt} : trn (qs.map (tr x y)) = trn qs := by
  unfold trn
  rw [List.length_map]
  have e : ∀ {l : List Nat} {t : Int}, (∀ a ∈ l, a < qs.length) → l.foldl (trs (qs.map (tr x y))) t = l.foldl (trs qs) t := fun {l} => by
    induction l with
    | nil => exact fun _ => rfl
    | cons a l ih =>
      intro t h
      have ha := h a List.mem_cons_self
      rw [List.foldl_cons, List.foldl_cons]
      have : trs (qs.map (tr x y)) t a = trs qs t a := by
        unfold trs
        rw [tat_tr ha, List.length_map, side_tr ha, side_tr (prv_lt ha), upw_tr, upw_tr]
      rw [this]
      exact ih fun b hb => h b (List.mem_cons_of_mem _ hb)
  exact e fun a ha => List.mem_range.mp ha
end
end Lw
end Mc
end
section
set_option Elab.async false
set_option linter.all false
set_option maxRecDepth 100000
set_option maxHeartbeats 4000000
set_option autoImplicit false
namespace Mc
namespace Lw
open PySem PySem.Spec L2
/-! ### the fields of the law -/
def tsq (m : Nat) : List Int := (List.range m).map fun i => (m : Int) - 1 - (i : Nat)
def tsw (m : Nat) : List Int := (List.range (m - 1)).map fun i => (m : Int) - 1 - (i : Nat)
def cstep (m h : Int) (row : List Pt) (t : Int) : List Pt := row ++ [(4 * t + 4, if t = m - 1 then h + 1 else h), (4 * t + 2, h)] ++ (if 0 < t then [(4 * t + 2, 1), (4 * t, 1)] else [])
def crow (m : Nat) (h : Int) : List Pt := (tsq m).foldl (cstep m h) [(0, 0), (4 * (m : Int), 0)]
def comb (m : Nat) (h : Int) : List Pt := (crow m h).dropLast ++ [(0, h)]
def sstep (h : Int) (row : List Pt) (t : Int) : List Pt := row ++ [(2 * t + 1, h + t), (2 * t, 1)]
def srow (m : Nat) (h : Int) : List Pt := (tsw m).foldl (sstep h) [(0, 0), (2 * (m : Int), 0)]
def saw (m : Nat) (h : Int) : List Pt := srow m h ++ [(1, h)]
def bowl (m : Nat) : List Pt := (List.range (2 * m + 1)).map fun (i : Nat) => ((i : Int) - m, ((i : Int) - m) * ((i : Int) - m))
def swp (r : List Pt) (i : Nat) : List Pt := (r.set i (hh r (i + 1))).set (i + 1) (hh r i)
def sma (a : Pt) : Bool := decide (-200 ≤ a.1) && decide (a.1 ≤ 200) && decide (-200 ≤ a.2) && decide (a.2 ≤ 200)
def ndp : List Pt → Bool
  | [] => true
  | a :: l => !(l.any fun b => decide (b.1 = a.1) && decide (b.2 = a.2)) && ndp l
def okL (r : List Pt) : Bool := decide (3 ≤ r.length) && decide (r.length ≤ 40) && ndp r && r.all sma
def okR (r : List Pt) : Bool := okL r && (ff r).isNone
def okC (m : Nat) (h : Int) : Bool := okR (comb m h) && okL (led (comb m h)) && decide ((bys (led (comb m h))).length = 2 * (m - 1)) && decide (trn (led (comb m h)) = 1) && (List.range (led (comb m h)).length).all fun i => !gbk (led (comb m h)) i
def okS (m : Nat) (h : Int) : Bool := okR (saw m h) && okL (led (saw m h)) && decide ((bys (led (saw m h))).length = m - 1) && (bsd (led (saw m h))).isSome
def okB (m : Nat) : Bool := okR (bowl m) && okL (led (bowl m)) && (bys (led (bowl m))).isEmpty && (bsd (led (bowl m))).isNone && obd (led (bowl m)) (0, (m : Int) * m) && !obd (led (bowl m)) (0, 1)
def okF (m i : Nat) : Bool := okL (swp (bowl m) i) && (match ff (swp (bowl m) i) with
  | some (.flt _ _ _) => true
  | _ => false)
theorem allC : (List.range 6).all (fun i => (List.range 9).all fun j => okC (i + 2) ((j : Nat) + 2 : Nat)) = true := by decide +kernel
theorem allS : (List.range 6).all (fun i => (List.range 9).all fun j => okS (i + 2) ((j : Nat) + 2 : Nat)) = true := by decide +kernel
theorem allB : (List.range 6).all (fun i => okB (i + 2)) = true := by decide +kernel
theorem allF : (List.range 6).all (fun i => (List.range (2 * (i + 2))).all fun j => okF (i + 2) j) = true := by decide +kernel
end Lw
end Mc
end
section
set_option Elab.async false
set_option linter.all false
set_option maxRecDepth 100000
set_option maxHeartbeats 4000000
namespace Mc
namespace Lw
open PySem PySem.Spec L2
noncomputable section
def top (i : Nat) : Stmt := PySem.Challenge.pw_landparcels_k13_whole_known_fields.main.body.getD i (.Pass ⟨0, 0, 0, 0⟩)
abbrev s0 : Stmt := inClass (top 3) 0
abbrev s1 : Stmt := inClass (top 4) 0
abbrev s2 : Stmt := inClass (top 5) 0
abbrev s3 : Stmt := top 7
abbrev s4 : Stmt := top 8
abbrev s5 : Stmt := top 10
abbrev s6 : Stmt := top 11
abbrev s7 : Stmt := top 12
abbrev s8 : Stmt := top 13
abbrev s9 : Stmt := top 14
abbrev s10 : Stmt := top 15
abbrev s11 : Stmt := top 16
abbrev s12 : Stmt := top 17
abbrev s13 : Stmt := top 18
abbrev s14 : Stmt := top 19
abbrev s15 : Stmt := top 20
abbrev s16 : Stmt := top 21
abbrev s17 : Stmt := top 22
abbrev s18 : Stmt := inClass (top 26) 0
abbrev s19 : Stmt := inClass (top 26) 1
abbrev s20 : Stmt := inClass (top 26) 2
abbrev s21 : Stmt := inClass (top 27) 0
abbrev s22 : Stmt := inClass (top 27) 1
abbrev s23 : Stmt := inClass (top 27) 2
abbrev s24 : Stmt := inClass (top 28) 0
abbrev s25 : Stmt := inClass (top 28) 1
abbrev s26 : Stmt := inClass (top 28) 2
abbrev s27 : Stmt := top 29
abbrev s28 : Stmt := top 30
abbrev s29 : Stmt := top 31
abbrev s30 : Stmt := top 32
abbrev s31 : Stmt := top 33
abbrev s32 : Stmt := top 34
abbrev s33 : Stmt := top 35
abbrev s34 : Stmt := top 36
abbrev s35 : Stmt := top 37
abbrev s36 : Stmt := top 38
abbrev s37 : Stmt := top 39
abbrev s38 : Stmt := top 40
abbrev s39 : Stmt := top 41
abbrev s40 : Stmt := top 42
abbrev s41 : Stmt := top 43
abbrev s42 : Stmt := top 44
abbrev s43 : Stmt := top 45
abbrev s44 : Stmt := top 46
abbrev s45 : Stmt := top 47
abbrev s46 : Stmt := top 48
abbrev s47 : Stmt := top 50
abbrev s48 : Stmt := top 51
abbrev s49 : Stmt := top 52
abbrev s50 : Stmt := top 53
abbrev s51 : Stmt := top 54
abbrev s52 : Stmt := top 55
abbrev s53 : Stmt := top 56
abbrev s54 : Stmt := top 57
abbrev s55 : Stmt := top 58
abbrev s56 : Stmt := top 59
abbrev s57 : Stmt := top 60
abbrev s58 : Stmt := top 61
abbrev s59 : Stmt := top 62
abbrev s60 : Stmt := top 63
/-! ### bodies -/
def csL : List Str := ["Straight", "Fault", "Field"]
def ct : CTab := [("Straight", ["index"]), ("Fault", ["one", "other", "how"]), ("Field", ["corners"])]
structure Ev (K : PySem.W.Frag) (mg : Str → Option Value) : Prop where
  bi : Bi K mg
  kt : Kits K mg csL
  ct : CTok K mg ct
  g_LEAST_CORNERS : ∃ t, mg "LEAST_CORNERS" = some (.int 3 t)
  g_MOST_CORNERS : ∃ t, mg "MOST_CORNERS" = some (.int 40 t)
  b_gcd : mg "gcd" = some (.builtin "math.gcd")
  v_is_point : ∃ f, mg "is_point" = some (.ref f)
  v_Straight : ∃ f, mg "Straight" = some (.ref f)
  v_Fault : ∃ f, mg "Fault" = some (.ref f)
  v_Field : ∃ f, mg "Field" = some (.ref f)
/-! is_whole -/
abbrev N3 : List Str := ["value"]
def m3 : M Fl := (evRet (evAnd (evUn (isiD csL .int) (evVar 0)) (evNot (evUn (isiD csL .bl) (evVar 0)))))
def F3 : List D → Option DRes := runD 1 m3
theorem b3 {P : Program} {w : World} {K : PySem.W.Frag} {mg : Str → Option Value} {base : Heap} {f : Addr} (E : Ev K mg) : BodyIs P w K mg base N3 "is_whole" (defScope s3) f 0 (defBody s3) m3 := by
  rintro X W b ⟨cdv, A, outer, s, H, E', rfl⟩ eK em o tk hp
  exact (ss_one (s_ret (pe_andM o (pe_isi o E.kt (pe_v 0) (clx_int E.bi.int) E.bi.isinstance) (pe_one1 (pe_notM o (pe_isi o E.kt (pe_v 0) (clx_bl E.bi.bool) E.bi.isinstance))))))
/-! sign_of -/
abbrev N5 : List Str := ["number"]
def m5 : M Fl := (evRet (evBin subT (evBin gtD (evVar 0) (evC (.int 0))) (evBin ltD (evVar 0) (evC (.int 0)))))
def F5 : List D → Option DRes := runD 1 m5
theorem b5 {P : Program} {w : World} {K : PySem.W.Frag} {mg : Str → Option Value} {base : Heap} {f : Addr} (E : Ev K mg) : BodyIs P w K mg base N5 "sign_of" (defScope s5) f 0 (defBody s5) m5 := by
  rintro X W b ⟨cdv, A, outer, s, H, E', rfl⟩ eK em o tk hp
  exact (ss_one (s_ret (pe_subT (pe_c (cm_gt o) (pe_v 0) pe_ci) (pe_c (cm_lt o) (pe_v 0) pe_ci))))
/-! cross_by -/
abbrev N9 : List Str := ["a", "b", "c"]
def m9 : M Fl := (evRet (evBin (intD gSub) (evBin mulD (evBin (intD gSub) (evBin ixD (evVar 1) (evC (.int 0))) (evBin ixD (evVar 0) (evC (.int 0)))) (evBin (intD gSub) (evBin ixD (evVar 2) (evC (.int 1))) (evBin ixD (evVar 0) (evC (.int 1))))) (evBin mulD (evBin (intD gSub) (evBin ixD (evVar 1) (evC (.int 1))) (evBin ixD (evVar 0) (evC (.int 1)))) (evBin (intD gSub) (evBin ixD (evVar 2) (evC (.int 0))) (evBin ixD (evVar 0) (evC (.int 0)))))))
def F9 : List D → Option DRes := runD 3 m9
theorem b9 {P : Program} {w : World} {K : PySem.W.Frag} {mg : Str → Option Value} {base : Heap} {f : Addr} (E : Ev K mg) : BodyIs P w K mg base N9 "cross_by" (defScope s9) f 0 (defBody s9) m9 := by
  rintro X W b ⟨cdv, A, outer, s, H, E', rfl⟩ eK em o tk hp
  exact (ss_one (s_ret (pe_sub' (pe_mul' o (pe_sub' (pe_ix' o (pe_v 1) pe_ci) (pe_ix' o (pe_v 0) pe_ci)) (pe_sub' (pe_ix' o (pe_v 2) pe_ci) (pe_ix' o (pe_v 0) pe_ci))) (pe_mul' o (pe_sub' (pe_ix' o (pe_v 1) pe_ci) (pe_ix' o (pe_v 0) pe_ci)) (pe_sub' (pe_ix' o (pe_v 2) pe_ci) (pe_ix' o (pe_v 0) pe_ci))))))
/-! spot_by -/
abbrev N12 : List Str := ["x", "y", "d", "divisor"]
def m12 : M Fl := (evSeq (evAsg 3 (evB gcd3D (evCons (evVar 0) (evCons (evVar 1) (evCons (evVar 2) evNil))))) (evSeq (evAsg 3 (evIf (evBl (evBin ltD (evVar 2) (evC (.int 0)))) (evUn negD (evVar 3)) (evVar 3))) (evRet (evTup (evCons (evBin (intD gDivN) (evVar 0) (evVar 3)) (evCons (evBin (intD gDivN) (evVar 1) (evVar 3)) (evCons (evBin (intD gDivN) (evVar 2) (evVar 3)) evNil)))))))
def F12 : List D → Option DRes := runD 4 m12
theorem b12 {P : Program} {w : World} {K : PySem.W.Frag} {mg : Str → Option Value} {base : Heap} {f : Addr} (E : Ev K mg) : BodyIs P w K mg base N12 "spot_by" (defScope s12) f 0 (defBody s12) m12 := by
  rintro X W b ⟨cdv, A, outer, s, H, E', rfl⟩ eK em o tk hp
  exact (ss_cons (s_set 3 o (pe_gcd3 (pa_c (pe_v 0) (pa_c (pe_v 1) (pa_c (pe_v 2) pa_n))) E.b_gcd)) (ss_cons (s_set 3 o (pe_ifM (pt_c (cm_lt o) (pe_v 2) pe_ci) (pe_neg' (pe_v 3)) (pe_v 3))) (ss_one (s_ret (pe_tupM (pa_c (pe_divN' (pe_v 0) (pe_v 3)) (pa_c (pe_divN' (pe_v 1) (pe_v 3)) (pa_c (pe_divN' (pe_v 2) (pe_v 3)) pa_n))))))))
/-! shared_by -/
abbrev N13 : List Str := ["one", "other", "low", "high"]
def m13 : M Fl := (evSeq (evPar2 2 3 (evB (best2D true) (evCons (evB (best1D false) (evCons (evVar 0) evNil)) (evCons (evB (best1D false) (evCons (evVar 1) evNil)) evNil))) (evB (best2D false) (evCons (evB (best1D true) (evCons (evVar 0) evNil)) (evCons (evB (best1D true) (evCons (evVar 1) evNil)) evNil)))) (evRet (evIf (evBl (evBin leD (evVar 2) (evVar 3))) (evTup (evCons (evVar 2) (evCons (evVar 3) evNil))) (evC .non))))
def F13 : List D → Option DRes := runD 4 m13
theorem b13 {P : Program} {w : World} {K : PySem.W.Frag} {mg : Str → Option Value} {base : Heap} {f : Addr} (E : Ev K mg) : BodyIs P w K mg base N13 "shared_by" (defScope s13) f 0 (defBody s13) m13 := by
  rintro X W b ⟨cdv, A, outer, s, H, E', rfl⟩ eK em o tk hp
  exact (ss_cons (s_par2 2 3 o (pe_max2 o E.bi (pa_c (pe_min1 o E.bi (pa_c (pe_v 0) pa_n)) (pa_c (pe_min1 o E.bi (pa_c (pe_v 1) pa_n)) pa_n))) (pe_min2 o E.bi (pa_c (pe_max1 o E.bi (pa_c (pe_v 0) pa_n)) (pa_c (pe_max1 o E.bi (pa_c (pe_v 1) pa_n)) pa_n)))) (ss_one (s_ret (pe_ifM (pt_c (cm_le o) (pe_v 2) (pe_v 3)) (pe_tupM (pa_c (pe_v 2) (pa_c (pe_v 3) pa_n))) pe_cn))))
/-! Straight.__eq__ -/
abbrev N19 : List Str := ["self", "other"]
def m19 : M Fl := (evRet (evAnd (evUn (isiD csL (.ob "Straight")) (evVar 1)) (evBin eqD (evFld ct "index" (evVar 0)) (evFld ct "index" (evVar 1)))))
def F19 : List D → Option DRes := runD 2 m19
theorem b19 {P : Program} {w : World} {K : PySem.W.Frag} {mg : Str → Option Value} {base : Heap} {f : Addr} (E : Ev K mg) : BodyIs P w K mg base N19 "Straight.__eq__" (defScope s19) f 0 (defBody s19) m19 := by
  rintro X W b ⟨cdv, A, outer, s, H, E', rfl⟩ eK em o tk hp
  obtain ⟨_, gf_Straight⟩ := E.v_Straight
  exact (ss_one (s_ret (pe_andM o (pe_isi o E.kt (pe_v 1) (clx_own gf_Straight) E.bi.isinstance) (pe_one1 (pe_c (cm_eq o) (pe_fldM o E.ct (pe_v 0)) (pe_fldM o E.ct (pe_v 1)))))))
/-! Field.__eq__ -/
abbrev N25 : List Str := ["self", "other"]
def m25 : M Fl := (evRet (evAnd (evUn (isiD csL (.ob "Field")) (evVar 1)) (evBin eqD (evFld ct "corners" (evVar 0)) (evFld ct "corners" (evVar 1)))))
def F25 : List D → Option DRes := runD 2 m25
theorem b25 {P : Program} {w : World} {K : PySem.W.Frag} {mg : Str → Option Value} {base : Heap} {f : Addr} (E : Ev K mg) : BodyIs P w K mg base N25 "Field.__eq__" (defScope s25) f 0 (defBody s25) m25 := by
  rintro X W b ⟨cdv, A, outer, s, H, E', rfl⟩ eK em o tk hp
  obtain ⟨_, gf_Field⟩ := E.v_Field
  exact (ss_one (s_ret (pe_andM o (pe_isi o E.kt (pe_v 1) (clx_own gf_Field) E.bi.isinstance) (pe_one1 (pe_c (cm_eq o) (pe_fldM o E.ct (pe_v 0)) (pe_fldM o E.ct (pe_v 1)))))))
/-! fault_parts -/
abbrev N27 : List Str := ["fault"]
def m27 : M Fl := (evRet (evTup (evCons (evFld ct "one" (evVar 0)) (evCons (evFld ct "other" (evVar 0)) (evCons (evFld ct "how" (evVar 0)) evNil)))))
def F27 : List D → Option DRes := runD 1 m27
theorem b27 {P : Program} {w : World} {K : PySem.W.Frag} {mg : Str → Option Value} {base : Heap} {f : Addr} (E : Ev K mg) : BodyIs P w K mg base N27 "fault_parts" (defScope s27) f 0 (defBody s27) m27 := by
  rintro X W b ⟨cdv, A, outer, s, H, E', rfl⟩ eK em o tk hp
  exact (ss_one (s_ret (pe_tupM (pa_c (pe_fldM o E.ct (pe_v 0)) (pa_c (pe_fldM o E.ct (pe_v 0)) (pa_c (pe_fldM o E.ct (pe_v 0)) pa_n))))))
/-! sides_by -/
abbrev N30 : List Str := ["corners", "at"]
def m30 : M Fl := (evRet (evComp [1] (evRng rngR1 (evCons (evB lenD (evCons (evVar 0) evNil)) evNil)) (tgN 1) (M.ret true) (evTup (evCons (evBin ixD (evVar 0) (evVar 1)) (evCons (evBin ixD (evVar 0) (evBin (intD gMod) (evBin addD (evVar 1) (evC (.int 1))) (evB lenD (evCons (evVar 0) evNil)))) evNil)))))
def F30 : List D → Option DRes := runD 2 m30
theorem b30 {P : Program} {w : World} {K : PySem.W.Frag} {mg : Str → Option Value} {base : Heap} {f : Addr} (E : Ev K mg) : BodyIs P w K mg base N30 "sides_by" (defScope s30) f 0 (defBody s30) m30 := by
  rintro X W b ⟨cdv, A, outer, s, H, E', rfl⟩ eK em o tk hp
  exact (ss_one (s_ret (pe_lcM o (own := [("at", 1)]) (pi_rng1 rfl E.bi.range (pa_c (pe_len o E.bi (pa_c (pe_v 0) pa_n)) pa_n)) (blkOk_by rfl) (by decide) (fun s H C cl fp o => (pg_n 1 o)) (fun s H C cl fp o => pts_n) (fun s H C cl fp o => (pe_tupM (pa_c (pe_ix' o (pe_v 0) (pe_v 1)) (pa_c (pe_ix' o (pe_v 0) (pe_mod' (pe_add' o (pe_v 1) pe_ci) (pe_len o E.bi (pa_c (pe_v 0) pa_n)))) pa_n)))))))
/-! are_beside -/
abbrev N34 : List Str := ["many", "one", "other"]
def m34 : M Fl := (evRet (evBin inD (evBin (intD gMod) (evBin (intD gSub) (evVar 2) (evVar 1)) (evVar 0)) (evTup (evCons (evC (.int 1)) (evCons (evBin (intD gSub) (evVar 0) (evC (.int 1))) evNil)))))
def F34 : List D → Option DRes := runD 3 m34
theorem b34 {P : Program} {w : World} {K : PySem.W.Frag} {mg : Str → Option Value} {base : Heap} {f : Addr} (E : Ev K mg) : BodyIs P w K mg base N34 "are_beside" (defScope s34) f 0 (defBody s34) m34 := by
  rintro X W b ⟨cdv, A, outer, s, H, E', rfl⟩ eK em o tk hp
  exact (ss_one (s_ret (pe_c (cm_in o) (pe_mod' (pe_sub' (pe_v 2) (pe_v 1)) (pe_v 0)) (pe_tupM (pa_c pe_ci (pa_c (pe_sub' (pe_v 0) pe_ci) pa_n))))))
/-! is_upward -/
abbrev N44 : List Str := ["side", "x", "y"]
def m44 : M Fl := (evSeq (evPar2 1 2 (evBin (intD gSub) (evBin ixD (evBin ixD (evVar 0) (evC (.int 1))) (evC (.int 0))) (evBin ixD (evBin ixD (evVar 0) (evC (.int 0))) (evC (.int 0)))) (evBin (intD gSub) (evBin ixD (evBin ixD (evVar 0) (evC (.int 1))) (evC (.int 1))) (evBin ixD (evBin ixD (evVar 0) (evC (.int 0))) (evC (.int 1))))) (evRet (evOr (evBin gtD (evVar 2) (evC (.int 0))) (evAnd (evBin eqD (evVar 2) (evC (.int 0))) (evBin gtD (evVar 1) (evC (.int 0)))))))
def F44 : List D → Option DRes := runD 3 m44
theorem b44 {P : Program} {w : World} {K : PySem.W.Frag} {mg : Str → Option Value} {base : Heap} {f : Addr} (E : Ev K mg) : BodyIs P w K mg base N44 "is_upward" (defScope s44) f 0 (defBody s44) m44 := by
  rintro X W b ⟨cdv, A, outer, s, H, E', rfl⟩ eK em o tk hp
  exact (ss_cons (s_par2 1 2 o (pe_sub' (pe_ix' o (pe_ix' o (pe_v 0) pe_ci) pe_ci) (pe_ix' o (pe_ix' o (pe_v 0) pe_ci) pe_ci)) (pe_sub' (pe_ix' o (pe_ix' o (pe_v 0) pe_ci) pe_ci) (pe_ix' o (pe_ix' o (pe_v 0) pe_ci) pe_ci))) (ss_one (s_ret (pe_orM o (pe_c (cm_gt o) (pe_v 2) pe_ci) (pe_one1 (pe_andM o (pe_c (cm_eq o) (pe_v 2) pe_ci) (pe_one1 (pe_c (cm_gt o) (pe_v 1) pe_ci))))))))
/-! _law_draw -/
abbrev N48 : List Str := ["pen", "many", "cell", "digit", "blend"]
def m48 : M Fl := (evSeq (evPnPut 0 "count" (evBin addD (evPnGet 0 "count") (evC (.int 1)))) (evSeq (evIf (evAndT (evBl (evBin eqD (evPnGet 0 "digits") (evC (.int 0)))) (evBl (evBin ltD (evPnGet 0 "at") (evB lenD (evCons (evPnGet 0 "cells") evNil))))) (evSeq (evAsg 2 (evBin ixD (evPnGet 0 "cells") (evPnGet 0 "at"))) (evSeq (evPnPut 0 "at" (evBin addD (evPnGet 0 "at") (evC (.int 1)))) (evIf (evBl (evBin geD (evVar 2) (evBin (intD gPow) (evC (.int 10)) (evC (.int 18))))) (evPnPut 0 "digits" (evBin (intD gSub) (evVar 2) (evBin (intD gPow) (evC (.int 10)) (evC (.int 18))))) (evPnPut 0 "fold" (evBin (intD gMod) (evB toiD (evCons (evBin addD (evBin mulD (evPnGet 0 "fold") (evC (.int 69069))) (evVar 2)) evNil)) (evC (.int 2147483587))))))) evSkip) (evSeq (evIf (evBl (evBin gtD (evPnGet 0 "digits") (evC (.int 0)))) (evSeq (evAsg 3 (evBin (intD gMod) (evB toiD (evCons (evPnGet 0 "digits") evNil)) (evVar 1))) (evSeq (evPnPut 0 "digits" (evBin (intD gDiv) (evPnGet 0 "digits") (evVar 1))) (evRet (evVar 3)))) evSkip) (evSeq (evAsg 4 (evBin (intD gMod) (evB toiD (evCons (evBin addD (evBin addD (evBin mulD (evPnGet 0 "fold") (evC (.int 48271))) (evBin mulD (evPnGet 0 "count") (evC (.int 7919)))) (evC (.int 13))) evNil)) (evC (.int 2147483647)))) (evSeq (evAsg 4 (evBin (intD gMod) (evB toiD (evCons (evBin addD (evBin addD (evBin mulD (evVar 4) (evVar 4)) (evBin mulD (evC (.int 31)) (evVar 4))) (evPnGet 0 "count")) evNil)) (evC (.int 2147483629)))) (evSeq (evPnPut 0 "fold" (evBin (intD gMod) (evB toiD (evCons (evBin addD (evBin mulD (evVar 4) (evC (.int 16807))) (evC (.int 7))) evNil)) (evC (.int 2147483647)))) (evRet (evBin (intD gMod) (evB toiD (evCons (evBin (intD gDiv) (evVar 4) (evC (.int 64))) evNil)) (evVar 1)))))))))
def F48 : Mo → List D → Option (DRes × Mo) := runN 5 m48
theorem b48 {P : Program} {w : World} {K : PySem.W.Frag} {mg : Str → Option Value} {base : Heap} {f : Addr} (E : Ev K mg) : BodyIs P w K mg base N48 "_law_draw" (defScope s48) f 0 (defBody s48) m48 := by
  rintro X W b ⟨cdv, A, outer, s, H, E', rfl⟩ eK em o tk hp
  exact (ss_cons (s_pnPut o 0 (pe_add' o (pe_pnGet o 0) pe_ci)) (ss_cons (s_if (PW.pt (pw_andM (pt_c (cm_eq o) (pe_pnGet o 0) pe_ci) (pw_and1M (pt_c (cm_lt o) (pe_pnGet o 0) (pe_len o E.bi (pa_c (pe_pnGet o 0) pa_n)))))) (ss_cons (s_set 2 o (pe_ix' o (pe_pnGet o 0) (pe_pnGet o 0))) (ss_cons (s_pnPut o 0 (pe_add' o (pe_pnGet o 0) pe_ci)) (ss_one (s_if (pt_c (cm_ge o) (pe_v 2) (pe_pow' pe_ci pe_ci)) (ss_one (s_pnPut o 0 (pe_sub' (pe_v 2) (pe_pow' pe_ci pe_ci)))) (ss_one (s_pnPut o 0 (pe_mod' (pe_int o E.bi (pa_c (pe_add' o (pe_mul' o (pe_pnGet o 0) pe_ci) (pe_v 2)) pa_n)) pe_ci))))))) ss_nil) (ss_cons (s_if (pt_c (cm_gt o) (pe_pnGet o 0) pe_ci) (ss_cons (s_set 3 o (pe_mod' (pe_int o E.bi (pa_c (pe_pnGet o 0) pa_n)) (pe_v 1))) (ss_cons (s_pnPut o 0 (pe_div' (pe_pnGet o 0) (pe_v 1))) (ss_one (s_ret (pe_v 3))))) ss_nil) (ss_cons (s_set 4 o (pe_mod' (pe_int o E.bi (pa_c (pe_add' o (pe_add' o (pe_mul' o (pe_pnGet o 0) pe_ci) (pe_mul' o (pe_pnGet o 0) pe_ci)) pe_ci) pa_n)) pe_ci)) (ss_cons (s_set 4 o (pe_mod' (pe_int o E.bi (pa_c (pe_add' o (pe_add' o (pe_mul' o (pe_v 4) (pe_v 4)) (pe_mul' o pe_ci (pe_v 4))) (pe_pnGet o 0)) pa_n)) pe_ci)) (ss_cons (s_pnPut o 0 (pe_mod' (pe_int o E.bi (pa_c (pe_add' o (pe_mul' o (pe_v 4) pe_ci) pe_ci) pa_n)) pe_ci)) (ss_one (s_ret (pe_mod' (pe_int o E.bi (pa_c (pe_div' (pe_v 4) pe_ci) pa_n)) (pe_v 1))))))))))
/-! _law_divisor -/
abbrev N50 : List Str := ["one", "other"]
def m50 : M Fl := (evSeq (evPar2 0 1 (evB absD (evCons (evVar 0) evNil)) (evB absD (evCons (evVar 1) evNil))) (evSeq (evWhile (evBl (evBin neD (evVar 1) (evC (.int 0)))) (evPar2 0 1 (evVar 1) (evBin (intD gMod) (evB toiD (evCons (evVar 0) evNil)) (evVar 1)))) (evRet (evVar 0))))
def F50 : List D → Option DRes := runD 2 m50
theorem b50 {P : Program} {w : World} {K : PySem.W.Frag} {mg : Str → Option Value} {base : Heap} {f : Addr} (E : Ev K mg) : BodyIs P w K mg base N50 "_law_divisor" (defScope s50) f 0 (defBody s50) m50 := by
  rintro X W b ⟨cdv, A, outer, s, H, E', rfl⟩ eK em o tk hp
  exact (ss_cons (s_par2 0 1 o (pe_abs o E.bi (pa_c (pe_v 0) pa_n)) (pe_abs o E.bi (pa_c (pe_v 1) pa_n))) (ss_cons (s_while hp (pt_c (cm_ne o) (pe_v 1) pe_ci) (ss_one (s_par2 0 1 o (pe_v 1) (pe_mod' (pe_int o E.bi (pa_c (pe_v 0) pa_n)) (pe_v 1))))) (ss_one (s_ret (pe_v 0)))))
/-! _law_cross -/
abbrev N52 : List Str := ["a", "b", "c"]
def m52 : M Fl := (evRet (evBin (intD gSub) (evBin mulD (evBin (intD gSub) (evBin ixD (evVar 1) (evC (.int 0))) (evBin ixD (evVar 0) (evC (.int 0)))) (evBin (intD gSub) (evBin ixD (evVar 2) (evC (.int 1))) (evBin ixD (evVar 0) (evC (.int 1))))) (evBin mulD (evBin (intD gSub) (evBin ixD (evVar 1) (evC (.int 1))) (evBin ixD (evVar 0) (evC (.int 1)))) (evBin (intD gSub) (evBin ixD (evVar 2) (evC (.int 0))) (evBin ixD (evVar 0) (evC (.int 0)))))))
def F52 : List D → Option DRes := runD 3 m52
theorem b52 {P : Program} {w : World} {K : PySem.W.Frag} {mg : Str → Option Value} {base : Heap} {f : Addr} (E : Ev K mg) : BodyIs P w K mg base N52 "_law_cross" (defScope s52) f 0 (defBody s52) m52 := by
  rintro X W b ⟨cdv, A, outer, s, H, E', rfl⟩ eK em o tk hp
  exact (ss_one (s_ret (pe_sub' (pe_mul' o (pe_sub' (pe_ix' o (pe_v 1) pe_ci) (pe_ix' o (pe_v 0) pe_ci)) (pe_sub' (pe_ix' o (pe_v 2) pe_ci) (pe_ix' o (pe_v 0) pe_ci))) (pe_mul' o (pe_sub' (pe_ix' o (pe_v 1) pe_ci) (pe_ix' o (pe_v 0) pe_ci)) (pe_sub' (pe_ix' o (pe_v 2) pe_ci) (pe_ix' o (pe_v 0) pe_ci))))))
/-! _law_sides -/
abbrev N57 : List Str := ["ring", "at"]
def m57 : M Fl := (evRet (evComp [1] (evRng rngR1 (evCons (evB lenD (evCons (evVar 0) evNil)) evNil)) (tgN 1) (M.ret true) (evTup (evCons (evBin ixD (evVar 0) (evVar 1)) (evCons (evBin ixD (evVar 0) (evBin (intD gSub) (evBin addD (evVar 1) (evC (.int 1))) (evB lenD (evCons (evVar 0) evNil)))) evNil)))))
def F57 : List D → Option DRes := runD 2 m57
theorem b57 {P : Program} {w : World} {K : PySem.W.Frag} {mg : Str → Option Value} {base : Heap} {f : Addr} (E : Ev K mg) : BodyIs P w K mg base N57 "_law_sides" (defScope s57) f 0 (defBody s57) m57 := by
  rintro X W b ⟨cdv, A, outer, s, H, E', rfl⟩ eK em o tk hp
  exact (ss_one (s_ret (pe_lcM o (own := [("at", 1)]) (pi_rng1 rfl E.bi.range (pa_c (pe_len o E.bi (pa_c (pe_v 0) pa_n)) pa_n)) (blkOk_by rfl) (by decide) (fun s H C cl fp o => (pg_n 1 o)) (fun s H C cl fp o => pts_n) (fun s H C cl fp o => (pe_tupM (pa_c (pe_ix' o (pe_v 0) (pe_v 1)) (pa_c (pe_ix' o (pe_v 0) (pe_sub' (pe_add' o (pe_v 1) pe_ci) (pe_len o E.bi (pa_c (pe_v 0) pa_n)))) pa_n)))))))
/-! is_point -/
abbrev N6 : List Str := ["value", "one"]
def m6 : M Fl := (evRet (evAnd (evUn (isiD csL .tup) (evVar 0)) (evAnd (evBin eqD (evB lenD (evCons (evVar 0) evNil)) (evC (.int 2))) (evB allD (evCons (evComp [1] (evSq (evVar 0)) (tgN 1) (M.ret true) (evCall F3 (evN 1 (evCons (evVar 1) evNil)))) evNil)))))
def F6 : List D → Option DRes := runD 2 m6
theorem b6 {P : Program} {w : World} {K : PySem.W.Frag} {mg : Str → Option Value} {base : Heap} {f : Addr} (E : Ev K mg) (h_is_whole : Dn P w K mg base "is_whole" 1 1 F3) : BodyIs P w K mg base N6 "is_point" (defScope s6) f 1 (defBody s6) m6 := by
  rintro X W b ⟨cdv, A, outer, s, H, E', rfl⟩ eK em o tk hp
  exact (ss_one (s_ret (pe_andM o (pe_isi o E.kt (pe_v 0) (clx_tup E.bi.tuple) E.bi.isinstance) (pe_andM o (pe_c (cm_eq o) (pe_len o E.bi (pa_c (pe_v 0) pa_n)) pe_ci) (pe_one1 (pe_all o E.bi (pa_c (pe_lcM o (own := [("one", 1)]) (pi_sqM o (pe_v 0)) (blkOk_by rfl) (by decide) (fun s H C cl fp o => (pg_n 1 o)) (fun s H C cl fp o => pts_n) (fun s H C cl fp o => (pe_fn h_is_whole o takes0 (pa_c (pe_v 1) pa_n)))) pa_n)))))))
/-! turn_by -/
abbrev N10 : List Str := ["a", "b", "c"]
def m10 : M Fl := (evRet (evCall F5 (evN 1 (evCons (evCall F9 (evN 3 (evCons (evVar 0) (evCons (evVar 1) (evCons (evVar 2) evNil))))) evNil))))
def F10 : List D → Option DRes := runD 3 m10
theorem b10 {P : Program} {w : World} {K : PySem.W.Frag} {mg : Str → Option Value} {base : Heap} {f : Addr} (E : Ev K mg) (h_cross_by : Dn P w K mg base "cross_by" 1 3 F9) (h_sign_of : Dn P w K mg base "sign_of" 1 1 F5) : BodyIs P w K mg base N10 "turn_by" (defScope s10) f 1 (defBody s10) m10 := by
  rintro X W b ⟨cdv, A, outer, s, H, E', rfl⟩ eK em o tk hp
  exact (ss_one (s_ret (pe_fn h_sign_of o tk (pa_c (pe_fn h_cross_by o tk (pa_c (pe_v 0) (pa_c (pe_v 1) (pa_c (pe_v 2) pa_n)))) pa_n))))
/-! between_by -/
abbrev N11 : List Str := ["a", "b", "c"]
def m11 : M Fl := (evSeq (evIf (evBl (evBin neD (evCall F9 (evN 3 (evCons (evVar 0) (evCons (evVar 1) (evCons (evVar 2) evNil))))) (evC (.int 0)))) (evRet (evC (.bl false))) evSkip) (evRet (evChain leD leD (evB (best2D false) (evCons (evVar 0) (evCons (evVar 1) evNil))) (evVar 2) (evB (best2D true) (evCons (evVar 0) (evCons (evVar 1) evNil))))))
def F11 : List D → Option DRes := runD 3 m11
theorem b11 {P : Program} {w : World} {K : PySem.W.Frag} {mg : Str → Option Value} {base : Heap} {f : Addr} (E : Ev K mg) (h_cross_by : Dn P w K mg base "cross_by" 1 3 F9) : BodyIs P w K mg base N11 "between_by" (defScope s11) f 1 (defBody s11) m11 := by
  rintro X W b ⟨cdv, A, outer, s, H, E', rfl⟩ eK em o tk hp
  exact (ss_cons (s_if (pt_c (cm_ne o) (pe_fn h_cross_by o tk (pa_c (pe_v 0) (pa_c (pe_v 1) (pa_c (pe_v 2) pa_n)))) pe_ci) (ss_one (s_ret pe_cb)) ss_nil) (ss_one (s_ret (pe_ch (cm_le o) (cm_le o) (pe_min2 o E.bi (pa_c (pe_v 0) (pa_c (pe_v 1) pa_n))) (pe_v 2) (pe_max2 o E.bi (pa_c (pe_v 0) (pa_c (pe_v 1) pa_n)))))))
/-! are_in_line -/
abbrev N14 : List Str := ["one", "other"]
def m14 : M Fl := (evRet (evAnd (evBin eqD (evCall F9 (evN 3 (evCons (evBin ixD (evVar 0) (evC (.int 0))) (evCons (evBin ixD (evVar 0) (evC (.int 1))) (evCons (evBin ixD (evVar 1) (evC (.int 0))) evNil))))) (evC (.int 0))) (evBin eqD (evCall F9 (evN 3 (evCons (evBin ixD (evVar 0) (evC (.int 0))) (evCons (evBin ixD (evVar 0) (evC (.int 1))) (evCons (evBin ixD (evVar 1) (evC (.int 1))) evNil))))) (evC (.int 0)))))
def F14 : List D → Option DRes := runD 2 m14
theorem b14 {P : Program} {w : World} {K : PySem.W.Frag} {mg : Str → Option Value} {base : Heap} {f : Addr} (E : Ev K mg) (h_cross_by : Dn P w K mg base "cross_by" 1 3 F9) : BodyIs P w K mg base N14 "are_in_line" (defScope s14) f 1 (defBody s14) m14 := by
  rintro X W b ⟨cdv, A, outer, s, H, E', rfl⟩ eK em o tk hp
  exact (ss_one (s_ret (pe_andM o (pe_c (cm_eq o) (pe_fn h_cross_by o tk (pa_c (pe_ix' o (pe_v 0) pe_ci) (pa_c (pe_ix' o (pe_v 0) pe_ci) (pa_c (pe_ix' o (pe_v 1) pe_ci) pa_n)))) pe_ci) (pe_one1 (pe_c (cm_eq o) (pe_fn h_cross_by o tk (pa_c (pe_ix' o (pe_v 0) pe_ci) (pa_c (pe_ix' o (pe_v 0) pe_ci) (pa_c (pe_ix' o (pe_v 1) pe_ci) pa_n)))) pe_ci)))))
/-! crossing_spot -/
abbrev N15 : List Str := ["one", "other", "top", "bottom", "across", "up"]
def m15 : M Fl := (evSeq (evAsg 2 (evCall F9 (evN 3 (evCons (evBin ixD (evVar 1) (evC (.int 0))) (evCons (evBin ixD (evVar 1) (evC (.int 1))) (evCons (evBin ixD (evVar 0) (evC (.int 0))) evNil)))))) (evSeq (evAsg 3 (evBin (intD gSub) (evVar 2) (evCall F9 (evN 3 (evCons (evBin ixD (evVar 1) (evC (.int 0))) (evCons (evBin ixD (evVar 1) (evC (.int 1))) (evCons (evBin ixD (evVar 0) (evC (.int 1))) evNil))))))) (evSeq (evPar2 4 5 (evBin (intD gSub) (evBin ixD (evBin ixD (evVar 0) (evC (.int 1))) (evC (.int 0))) (evBin ixD (evBin ixD (evVar 0) (evC (.int 0))) (evC (.int 0)))) (evBin (intD gSub) (evBin ixD (evBin ixD (evVar 0) (evC (.int 1))) (evC (.int 1))) (evBin ixD (evBin ixD (evVar 0) (evC (.int 0))) (evC (.int 1))))) (evRet (evCall F12 (evN 3 (evCons (evBin addD (evBin mulD (evBin ixD (evBin ixD (evVar 0) (evC (.int 0))) (evC (.int 0))) (evVar 3)) (evBin mulD (evVar 4) (evVar 2))) (evCons (evBin addD (evBin mulD (evBin ixD (evBin ixD (evVar 0) (evC (.int 0))) (evC (.int 1))) (evVar 3)) (evBin mulD (evVar 5) (evVar 2))) (evCons (evVar 3) evNil)))))))))
def F15 : List D → Option DRes := runD 6 m15
theorem b15 {P : Program} {w : World} {K : PySem.W.Frag} {mg : Str → Option Value} {base : Heap} {f : Addr} (E : Ev K mg) (h_spot_by : Dn P w K mg base "spot_by" 1 3 F12) (h_cross_by : Dn P w K mg base "cross_by" 1 3 F9) : BodyIs P w K mg base N15 "crossing_spot" (defScope s15) f 1 (defBody s15) m15 := by
  rintro X W b ⟨cdv, A, outer, s, H, E', rfl⟩ eK em o tk hp
  exact (ss_cons (s_set 2 o (pe_fn h_cross_by o tk (pa_c (pe_ix' o (pe_v 1) pe_ci) (pa_c (pe_ix' o (pe_v 1) pe_ci) (pa_c (pe_ix' o (pe_v 0) pe_ci) pa_n))))) (ss_cons (s_set 3 o (pe_sub' (pe_v 2) (pe_fn h_cross_by o tk (pa_c (pe_ix' o (pe_v 1) pe_ci) (pa_c (pe_ix' o (pe_v 1) pe_ci) (pa_c (pe_ix' o (pe_v 0) pe_ci) pa_n)))))) (ss_cons (s_par2 4 5 o (pe_sub' (pe_ix' o (pe_ix' o (pe_v 0) pe_ci) pe_ci) (pe_ix' o (pe_ix' o (pe_v 0) pe_ci) pe_ci)) (pe_sub' (pe_ix' o (pe_ix' o (pe_v 0) pe_ci) pe_ci) (pe_ix' o (pe_ix' o (pe_v 0) pe_ci) pe_ci))) (ss_one (s_ret (pe_fn h_spot_by o tk (pa_c (pe_add' o (pe_mul' o (pe_ix' o (pe_ix' o (pe_v 0) pe_ci) pe_ci) (pe_v 3)) (pe_mul' o (pe_v 4) (pe_v 2))) (pa_c (pe_add' o (pe_mul' o (pe_ix' o (pe_ix' o (pe_v 0) pe_ci) pe_ci) (pe_v 3)) (pe_mul' o (pe_v 5) (pe_v 2))) (pa_c (pe_v 3) pa_n)))))))))
/-! Fault.__eq__ -/
abbrev N22 : List Str := ["self", "other"]
def m22 : M Fl := (evRet (evAnd (evUn (isiD csL (.ob "Fault")) (evVar 1)) (evBin eqD (evCall F27 (evN 1 (evCons (evVar 0) evNil))) (evCall F27 (evN 1 (evCons (evVar 1) evNil))))))
def F22 : List D → Option DRes := runD 2 m22
theorem b22 {P : Program} {w : World} {K : PySem.W.Frag} {mg : Str → Option Value} {base : Heap} {f : Addr} (E : Ev K mg) (h_fault_parts : Dn P w K mg base "fault_parts" 1 1 F27) : BodyIs P w K mg base N22 "Fault.__eq__" (defScope s22) f 1 (defBody s22) m22 := by
  rintro X W b ⟨cdv, A, outer, s, H, E', rfl⟩ eK em o tk hp
  obtain ⟨_, gf_Fault⟩ := E.v_Fault
  exact (ss_one (s_ret (pe_andM o (pe_isi o E.kt (pe_v 1) (clx_own gf_Fault) E.bi.isinstance) (pe_one1 (pe_c (cm_eq o) (pe_fn h_fault_parts o tk (pa_c (pe_v 0) pa_n)) (pe_fn h_fault_parts o tk (pa_c (pe_v 1) pa_n)))))))
/-! doubled_by -/
abbrev N31 : List Str := ["corners", "a", "b"]
def m31 : M Fl := (evRet (evB sumD (evCons (evComp [1, 2] (evSq (evCall F30 (evN 1 (evCons (evVar 0) evNil)))) (tgTup 2 (tgCons (tgN 1) (tgCons (tgN 2) tgNil))) (M.ret true) (evBin (intD gSub) (evBin mulD (evBin ixD (evVar 1) (evC (.int 0))) (evBin ixD (evVar 2) (evC (.int 1)))) (evBin mulD (evBin ixD (evVar 1) (evC (.int 1))) (evBin ixD (evVar 2) (evC (.int 0)))))) evNil)))
def F31 : List D → Option DRes := runD 3 m31
theorem b31 {P : Program} {w : World} {K : PySem.W.Frag} {mg : Str → Option Value} {base : Heap} {f : Addr} (E : Ev K mg) (h_sides_by : Dn P w K mg base "sides_by" 1 1 F30) : BodyIs P w K mg base N31 "doubled_by" (defScope s31) f 1 (defBody s31) m31 := by
  rintro X W b ⟨cdv, A, outer, s, H, E', rfl⟩ eK em o tk hp
  exact (ss_one (s_ret (pe_sum o E.bi (pa_c (pe_lcM o (own := [("a", 1), ("b", 2)]) (pi_sqM o (pe_fn h_sides_by o tk (pa_c (pe_v 0) pa_n))) (blkOk_by rfl) (by decide) (fun s H C cl fp o => (pg_t o (pgs_c (pg_n 1 o) (pgs_c (pg_n 2 o) pgs_n)))) (fun s H C cl fp o => pts_n) (fun s H C cl fp o => (pe_sub' (pe_mul' o (pe_ix' o (pe_v 1) pe_ci) (pe_ix' o (pe_v 2) pe_ci)) (pe_mul' o (pe_ix' o (pe_v 1) pe_ci) (pe_ix' o (pe_v 2) pe_ci))))) pa_n))))
/-! _law_spot -/
abbrev N51 : List Str := ["x", "y", "d", "divisor"]
def m51 : M Fl := (evSeq (evAsg 3 (evCall F50 (evN 2 (evCons (evCall F50 (evN 2 (evCons (evVar 0) (evCons (evVar 1) evNil)))) (evCons (evVar 2) evNil))))) (evSeq (evAsg 3 (evIf (evBl (evBin ltD (evVar 2) (evC (.int 0)))) (evUn negD (evVar 3)) (evVar 3))) (evRet (evTup (evCons (evBin (intD gDiv) (evVar 0) (evVar 3)) (evCons (evBin (intD gDiv) (evVar 1) (evVar 3)) (evCons (evBin (intD gDiv) (evVar 2) (evVar 3)) evNil)))))))
def F51 : List D → Option DRes := runD 4 m51
theorem b51 {P : Program} {w : World} {K : PySem.W.Frag} {mg : Str → Option Value} {base : Heap} {f : Addr} (E : Ev K mg) (h__law_divisor : Dn P w K mg base "_law_divisor" 1 2 F50) : BodyIs P w K mg base N51 "_law_spot" (defScope s51) f 1 (defBody s51) m51 := by
  rintro X W b ⟨cdv, A, outer, s, H, E', rfl⟩ eK em o tk hp
  exact (ss_cons (s_set 3 o (pe_fn h__law_divisor o tk (pa_c (pe_fn h__law_divisor o tk (pa_c (pe_v 0) (pa_c (pe_v 1) pa_n))) (pa_c (pe_v 2) pa_n)))) (ss_cons (s_set 3 o (pe_ifM (pt_c (cm_lt o) (pe_v 2) pe_ci) (pe_neg' (pe_v 3)) (pe_v 3))) (ss_one (s_ret (pe_tupM (pa_c (pe_div' (pe_v 0) (pe_v 3)) (pa_c (pe_div' (pe_v 1) (pe_v 3)) (pa_c (pe_div' (pe_v 2) (pe_v 3)) pa_n))))))))
/-! _law_turn -/
abbrev N53 : List Str := ["a", "b", "c", "number"]
def m53 : M Fl := (evSeq (evAsg 3 (evCall F52 (evN 3 (evCons (evVar 0) (evCons (evVar 1) (evCons (evVar 2) evNil)))))) (evRet (evIf (evBl (evBin gtD (evVar 3) (evC (.int 0)))) (evC (.int 1)) (evIf (evBl (evBin ltD (evVar 3) (evC (.int 0)))) (evUn negD (evC (.int 1))) (evC (.int 0))))))
def F53 : List D → Option DRes := runD 4 m53
theorem b53 {P : Program} {w : World} {K : PySem.W.Frag} {mg : Str → Option Value} {base : Heap} {f : Addr} (E : Ev K mg) (h__law_cross : Dn P w K mg base "_law_cross" 1 3 F52) : BodyIs P w K mg base N53 "_law_turn" (defScope s53) f 1 (defBody s53) m53 := by
  rintro X W b ⟨cdv, A, outer, s, H, E', rfl⟩ eK em o tk hp
  exact (ss_cons (s_set 3 o (pe_fn h__law_cross o tk (pa_c (pe_v 0) (pa_c (pe_v 1) (pa_c (pe_v 2) pa_n))))) (ss_one (s_ret (pe_ifM (pt_c (cm_gt o) (pe_v 3) pe_ci) pe_ci (pe_ifM (pt_c (cm_lt o) (pe_v 3) pe_ci) (pe_neg' pe_ci) pe_ci)))))
/-! _law_drawn_point -/
abbrev N56 : List Str := ["pen", "wide"]
def m56 : M Fl := (evRet (evTup (evCons (evBin (intD gSub) (evCallN F48 (evN 2 (evCons (evVar 0) (evCons (evBin addD (evBin mulD (evC (.int 2)) (evVar 1)) (evC (.int 1))) evNil)))) (evVar 1)) (evCons (evBin (intD gSub) (evCallN F48 (evN 2 (evCons (evVar 0) (evCons (evBin addD (evBin mulD (evC (.int 2)) (evVar 1)) (evC (.int 1))) evNil)))) (evVar 1)) evNil))))
def F56 : Mo → List D → Option (DRes × Mo) := runN 2 m56
theorem b56 {P : Program} {w : World} {K : PySem.W.Frag} {mg : Str → Option Value} {base : Heap} {f : Addr} (E : Ev K mg) (h__law_draw : DnN P w K mg base "_law_draw" 1 1 F48) : BodyIs P w K mg base N56 "_law_drawn_point" (defScope s56) f 1 (defBody s56) m56 := by
  rintro X W b ⟨cdv, A, outer, s, H, E', rfl⟩ eK em o tk hp
  exact (ss_one (s_ret (pe_tupM (pa_c (pe_sub' (pe_fnN h__law_draw o tk (pa_c (pe_v 0) (pa_c (pe_add' o (pe_mul' o pe_ci (pe_v 1)) pe_ci) pa_n))) (pe_v 1)) (pa_c (pe_sub' (pe_fnN h__law_draw o tk (pa_c (pe_v 0) (pa_c (pe_add' o (pe_mul' o pe_ci (pe_v 1)) pe_ci) pa_n))) (pe_v 1)) pa_n)))))
def TF : FTab := [("is_point", 1, F6)]
/-! need_as -/
abbrev N7 : List Str := ["what", "value", "is_right", "known"]
def m7 : M Fl := (evSeq (evAsg 3 (evIf (evTru (evUn (isiD csL .lst) (evVar 1))) (evB tupD (evCons (evVar 1) evNil)) (evVar 1))) (evSeq (evIf (evNotT (evTru (evCallL 2 TF (evCons (evVar 3) evNil)))) evNo evSkip) (evRet (evVar 3))))
def F7 : List D → Option DRes := runD 4 m7
theorem b7 {P : Program} {w : World} {K : PySem.W.Frag} {mg : Str → Option Value} {base : Heap} {f : Addr} (E : Ev K mg) (ft : FTok P w K mg base 2 TF) : BodyIs P w K mg base N7 "need_as" (defScope s7) f 2 (defBody s7) m7 := by
  rintro X W b ⟨cdv, A, outer, s, H, E', rfl⟩ eK em o tk hp
  exact (ss_cons (s_set 3 o (pe_ifM (pt_tru o (pe_isi o E.kt (pe_v 1) (clx_lst E.bi.list) E.bi.isinstance)) (pe_tuple o E.bi (pa_c (pe_v 1) pa_n)) (pe_v 1))) (ss_cons (s_if (pt_notM (pt_tru o (pe_fnL 2 o ft (pa_c (pe_v 3) pa_n)))) (ss_one s_no) ss_nil) (ss_one (s_ret (pe_v 3)))))
/-! common_by -/
abbrev N16 : List Str := ["one", "other", "shared"]
def m16 : M Fl := (evSeq (evIf (evTru (evCall F14 (evN 2 (evCons (evVar 0) (evCons (evVar 1) evNil))))) (evSeq (evAsg 2 (evCall F13 (evN 2 (evCons (evVar 0) (evCons (evVar 1) evNil))))) (evSeq (evIf (evOrT (evBl (evBin isD (evVar 2) (evC .non))) (evBl (evBin neD (evBin ixD (evVar 2) (evC (.int 0))) (evBin ixD (evVar 2) (evC (.int 1)))))) (evRet (evVar 2)) evSkip) (evRet (evTup (evCons (evBin ixD (evBin ixD (evVar 2) (evC (.int 0))) (evC (.int 0))) (evCons (evBin ixD (evBin ixD (evVar 2) (evC (.int 0))) (evC (.int 1))) (evCons (evC (.int 1)) evNil))))))) evSkip) (evSeq (evIf (evBl (evBin gtD (evBin mulD (evCall F10 (evN 3 (evCons (evBin ixD (evVar 0) (evC (.int 0))) (evCons (evBin ixD (evVar 0) (evC (.int 1))) (evCons (evBin ixD (evVar 1) (evC (.int 0))) evNil))))) (evCall F10 (evN 3 (evCons (evBin ixD (evVar 0) (evC (.int 0))) (evCons (evBin ixD (evVar 0) (evC (.int 1))) (evCons (evBin ixD (evVar 1) (evC (.int 1))) evNil)))))) (evC (.int 0)))) (evRet (evC .non)) evSkip) (evSeq (evIf (evBl (evBin gtD (evBin mulD (evCall F10 (evN 3 (evCons (evBin ixD (evVar 1) (evC (.int 0))) (evCons (evBin ixD (evVar 1) (evC (.int 1))) (evCons (evBin ixD (evVar 0) (evC (.int 0))) evNil))))) (evCall F10 (evN 3 (evCons (evBin ixD (evVar 1) (evC (.int 0))) (evCons (evBin ixD (evVar 1) (evC (.int 1))) (evCons (evBin ixD (evVar 0) (evC (.int 1))) evNil)))))) (evC (.int 0)))) (evRet (evC .non)) evSkip) (evRet (evCall F15 (evN 2 (evCons (evVar 0) (evCons (evVar 1) evNil))))))))
def F16 : List D → Option DRes := runD 3 m16
theorem b16 {P : Program} {w : World} {K : PySem.W.Frag} {mg : Str → Option Value} {base : Heap} {f : Addr} (E : Ev K mg) (h_crossing_spot : Dn P w K mg base "crossing_spot" 2 2 F15) (h_turn_by : Dn P w K mg base "turn_by" 2 3 F10) (h_are_in_line : Dn P w K mg base "are_in_line" 2 2 F14) (h_shared_by : Dn P w K mg base "shared_by" 1 2 F13) : BodyIs P w K mg base N16 "common_by" (defScope s16) f 2 (defBody s16) m16 := by
  rintro X W b ⟨cdv, A, outer, s, H, E', rfl⟩ eK em o tk hp
  exact (ss_cons (s_if (pt_tru o (pe_fn h_are_in_line o tk (pa_c (pe_v 0) (pa_c (pe_v 1) pa_n)))) (ss_cons (s_set 2 o (pe_fn h_shared_by o tk (pa_c (pe_v 0) (pa_c (pe_v 1) pa_n)))) (ss_cons (s_if (PW.pt (pw_orM (pt_c (cm_is o) (pe_v 2) pe_cn) (pw_or1M (pt_c (cm_ne o) (pe_ix' o (pe_v 2) pe_ci) (pe_ix' o (pe_v 2) pe_ci))))) (ss_one (s_ret (pe_v 2))) ss_nil) (ss_one (s_ret (pe_tupM (pa_c (pe_ix' o (pe_ix' o (pe_v 2) pe_ci) pe_ci) (pa_c (pe_ix' o (pe_ix' o (pe_v 2) pe_ci) pe_ci) (pa_c pe_ci pa_n)))))))) ss_nil) (ss_cons (s_if (pt_c (cm_gt o) (pe_mul' o (pe_fn h_turn_by o tk (pa_c (pe_ix' o (pe_v 0) pe_ci) (pa_c (pe_ix' o (pe_v 0) pe_ci) (pa_c (pe_ix' o (pe_v 1) pe_ci) pa_n)))) (pe_fn h_turn_by o tk (pa_c (pe_ix' o (pe_v 0) pe_ci) (pa_c (pe_ix' o (pe_v 0) pe_ci) (pa_c (pe_ix' o (pe_v 1) pe_ci) pa_n))))) pe_ci) (ss_one (s_ret pe_cn)) ss_nil) (ss_cons (s_if (pt_c (cm_gt o) (pe_mul' o (pe_fn h_turn_by o tk (pa_c (pe_ix' o (pe_v 1) pe_ci) (pa_c (pe_ix' o (pe_v 1) pe_ci) (pa_c (pe_ix' o (pe_v 0) pe_ci) pa_n)))) (pe_fn h_turn_by o tk (pa_c (pe_ix' o (pe_v 1) pe_ci) (pa_c (pe_ix' o (pe_v 1) pe_ci) (pa_c (pe_ix' o (pe_v 0) pe_ci) pa_n))))) pe_ci) (ss_one (s_ret pe_cn)) ss_nil) (ss_one (s_ret (pe_fn h_crossing_spot o tk (pa_c (pe_v 0) (pa_c (pe_v 1) pa_n))))))))
def Teq : OTab := [("Straight", F19), ("Fault", F22), ("Field", F25)]
/-! Straight.__ne__ -/
abbrev N20 : List Str := ["self", "other"]
def m20 : M Fl := (evRet (evNot (evOwn Teq csL eqD (evVar 0) (evVar 1))))
def F20 : List D → Option DRes := runD 2 m20
theorem b20 {P : Program} {w : World} {K : PySem.W.Frag} {mg : Str → Option Value} {base : Heap} {f : Addr} (E : Ev K mg) (oeq : OpT P w K mg base "__eq__" 2 Teq) : BodyIs P w K mg base N20 "Straight.__ne__" (defScope s20) f 2 (defBody s20) m20 := by
  rintro X W b ⟨cdv, A, outer, s, H, E', rfl⟩ eK em o tk hp
  exact (ss_one (s_ret (pe_notM o (pe_eqO o E.kt oeq (pe_v 0) (pe_v 1)))))
/-! Fault.__ne__ -/
abbrev N23 : List Str := ["self", "other"]
def m23 : M Fl := (evRet (evNot (evOwn Teq csL eqD (evVar 0) (evVar 1))))
def F23 : List D → Option DRes := runD 2 m23
theorem b23 {P : Program} {w : World} {K : PySem.W.Frag} {mg : Str → Option Value} {base : Heap} {f : Addr} (E : Ev K mg) (oeq : OpT P w K mg base "__eq__" 2 Teq) : BodyIs P w K mg base N23 "Fault.__ne__" (defScope s23) f 2 (defBody s23) m23 := by
  rintro X W b ⟨cdv, A, outer, s, H, E', rfl⟩ eK em o tk hp
  exact (ss_one (s_ret (pe_notM o (pe_eqO o E.kt oeq (pe_v 0) (pe_v 1)))))
/-! Field.__ne__ -/
abbrev N26 : List Str := ["self", "other"]
def m26 : M Fl := (evRet (evNot (evOwn Teq csL eqD (evVar 0) (evVar 1))))
def F26 : List D → Option DRes := runD 2 m26
theorem b26 {P : Program} {w : World} {K : PySem.W.Frag} {mg : Str → Option Value} {base : Heap} {f : Addr} (E : Ev K mg) (oeq : OpT P w K mg base "__eq__" 2 Teq) : BodyIs P w K mg base N26 "Field.__ne__" (defScope s26) f 2 (defBody s26) m26 := by
  rintro X W b ⟨cdv, A, outer, s, H, E', rfl⟩ eK em o tk hp
  exact (ss_one (s_ret (pe_notM o (pe_eqO o E.kt oeq (pe_v 0) (pe_v 1)))))
/-! is_points -/
abbrev N28 : List Str := ["value", "point"]
def m28 : M Fl := (evSeq (evIf (evOrT (evNotT (evTru (evUn (isiD2 csL .lst .tup) (evVar 0)))) (evNotT (evBl (evChain leD leD (evC (.int 3)) (evB lenD (evCons (evVar 0) evNil)) (evC (.int 40)))))) (evRet (evC (.bl false))) evSkip) (evRet (evAnd (evB allD (evCons (evComp [1] (evSq (evVar 0)) (tgN 1) (M.ret true) (evCall F6 (evN 1 (evCons (evVar 1) evNil)))) evNil)) (evBin eqD (evDcLen [1] (evSq (evVar 0)) (tgN 1) (M.ret true) (evVar 1) (evC (.bl true))) (evB lenD (evCons (evVar 0) evNil))))))
def F28 : List D → Option DRes := runD 2 m28
theorem b28 {P : Program} {w : World} {K : PySem.W.Frag} {mg : Str → Option Value} {base : Heap} {f : Addr} (E : Ev K mg) (h_is_point : Dn P w K mg base "is_point" 2 1 F6) : BodyIs P w K mg base N28 "is_points" (defScope s28) f 2 (defBody s28) m28 := by
  rintro X W b ⟨cdv, A, outer, s, H, E', rfl⟩ eK em o tk hp
  exact (ss_cons (s_if (PW.pt (pw_orM (pt_notM (pt_tru o (pe_isi2 o E.kt (pe_v 0) (clx_lst E.bi.list) (clx_tup E.bi.tuple) E.bi.isinstance))) (pw_or1M (pt_notM (pt_ch (cm_le o) (cm_le o) (pe_gint E.g_LEAST_CORNERS) (pe_len o E.bi (pa_c (pe_v 0) pa_n)) (pe_gint E.g_MOST_CORNERS)))))) (ss_one (s_ret pe_cb)) ss_nil) (ss_one (s_ret (pe_andM o (pe_all o E.bi (pa_c (pe_lcM o (own := [("point", 1)]) (pi_sqM o (pe_v 0)) (blkOk_by rfl) (by decide) (fun s H C cl fp o => (pg_n 1 o)) (fun s H C cl fp o => pts_n) (fun s H C cl fp o => (pe_fn h_is_point o takes0 (pa_c (pe_v 1) pa_n)))) pa_n)) (pe_one1 (pe_c (cm_eq o) (pe_lenDc (own := [("point", 1)]) o E.bi (pi_sqM o (pe_v 0)) (blkOk_by rfl) (by decide) (fun s H C cl fp o => (pg_n 1 o)) (fun s H C cl fp o => pts_n) (fun s H C cl fp o => (pe_v 1)) (fun s H C cl fp o => pe_cb)) (pe_len o E.bi (pa_c (pe_v 0) pa_n))))))))
/-! led_round -/
abbrev N32 : List Str := ["corners", "row", "at"]
def m32 : M Fl := (evSeq (evAsg 1 (evIf (evBl (evBin gtD (evCall F31 (evN 1 (evCons (evVar 0) evNil))) (evC (.int 0)))) (evVar 0) (evUn backD (evVar 0)))) (evSeq (evAsg 2 (evTM idxP (evVar 1) (evB (best1D false) (evCons (evVar 1) evNil)))) (evRet (evBin addD (evSlice (evVar 1) (evPart (evVar 2)) (M.ret none)) (evSlice (evVar 1) (M.ret none) (evPart (evVar 2)))))))
def F32 : List D → Option DRes := runD 3 m32
theorem b32 {P : Program} {w : World} {K : PySem.W.Frag} {mg : Str → Option Value} {base : Heap} {f : Addr} (E : Ev K mg) (h_doubled_by : Dn P w K mg base "doubled_by" 2 1 F31) : BodyIs P w K mg base N32 "led_round" (defScope s32) f 2 (defBody s32) m32 := by
  rintro X W b ⟨cdv, A, outer, s, H, E', rfl⟩ eK em o tk hp
  exact (ss_cons (s_set 1 o (pe_ifM (pt_c (cm_gt o) (pe_fn h_doubled_by o tk (pa_c (pe_v 0) pa_n)) pe_ci) (pe_v 0) (pe_backM o (pe_v 0)))) (ss_cons (s_set 2 o (pe_index o (pe_v 1) (pe_min1 o E.bi (pa_c (pe_v 1) pa_n)))) (ss_one (s_ret (pe_add' o (pe_sl' o (pe_v 1) (po_s (pe_v 2)) po_n) (pe_sl' o (pe_v 1) po_n (po_s (pe_v 2))))))))
/-! turn_at -/
abbrev N33 : List Str := ["corners", "at"]
def m33 : M Fl := (evRet (evCall F10 (evN 3 (evCons (evBin ixD (evVar 0) (evBin (intD gSub) (evVar 1) (evC (.int 1)))) (evCons (evBin ixD (evVar 0) (evVar 1)) (evCons (evBin ixD (evVar 0) (evBin (intD gMod) (evBin addD (evVar 1) (evC (.int 1))) (evB lenD (evCons (evVar 0) evNil)))) evNil))))))
def F33 : List D → Option DRes := runD 2 m33
theorem b33 {P : Program} {w : World} {K : PySem.W.Frag} {mg : Str → Option Value} {base : Heap} {f : Addr} (E : Ev K mg) (h_turn_by : Dn P w K mg base "turn_by" 2 3 F10) : BodyIs P w K mg base N33 "turn_at" (defScope s33) f 2 (defBody s33) m33 := by
  rintro X W b ⟨cdv, A, outer, s, H, E', rfl⟩ eK em o tk hp
  exact (ss_one (s_ret (pe_fn h_turn_by o tk (pa_c (pe_ix' o (pe_v 0) (pe_sub' (pe_v 1) pe_ci)) (pa_c (pe_ix' o (pe_v 0) (pe_v 1)) (pa_c (pe_ix' o (pe_v 0) (pe_mod' (pe_add' o (pe_v 1) pe_ci) (pe_len o E.bi (pa_c (pe_v 0) pa_n)))) pa_n))))))
/-! beyond_side -/
abbrev N41 : List Str := ["field", "at", "one", "other", "index", "corner"]
def m41 : M Fl := (evSeq (evFor (evEn (evCons (evCall F30 (evN 1 (evCons (evFld ct "corners" (evVar 0)) evNil))) evNil)) (tgTup 2 (tgCons (tgN 1) (tgCons (tgTup 2 (tgCons (tgN 2) (tgCons (tgN 3) tgNil))) tgNil))) (evFor (evEn (evCons (evFld ct "corners" (evVar 0)) evNil)) (tgTup 2 (tgCons (tgN 4) (tgCons (tgN 5) tgNil))) (evIf (evBl (evBin ltD (evCall F10 (evN 3 (evCons (evVar 2) (evCons (evVar 3) (evCons (evVar 5) evNil))))) (evC (.int 0)))) (evRet (evTup (evCons (evVar 1) (evCons (evVar 4) evNil)))) evSkip))) (evRet (evC .non)))
def F41 : List D → Option DRes := runD 6 m41
theorem b41 {P : Program} {w : World} {K : PySem.W.Frag} {mg : Str → Option Value} {base : Heap} {f : Addr} (E : Ev K mg) (h_sides_by : Dn P w K mg base "sides_by" 1 1 F30) (h_turn_by : Dn P w K mg base "turn_by" 2 3 F10) : BodyIs P w K mg base N41 "beyond_side" (defScope s41) f 2 (defBody s41) m41 := by
  rintro X W b ⟨cdv, A, outer, s, H, E', rfl⟩ eK em o tk hp
  exact (ss_cons (s_for o hp (pi_enM o (pa_c (pe_fn h_sides_by o tk (pa_c (pe_fldM o E.ct (pe_v 0)) pa_n)) pa_n) E.bi.enumerate) (pg_t o (pgs_c (pg_n 1 o) (pgs_c (pg_t o (pgs_c (pg_n 2 o) (pgs_c (pg_n 3 o) pgs_n))) pgs_n))) (ss_one (s_for o hp (pi_enM o (pa_c (pe_fldM o E.ct (pe_v 0)) pa_n) E.bi.enumerate) (pg_t o (pgs_c (pg_n 4 o) (pgs_c (pg_n 5 o) pgs_n))) (ss_one (s_if (pt_c (cm_lt o) (pe_fn h_turn_by o tk (pa_c (pe_v 2) (pa_c (pe_v 3) (pa_c (pe_v 5) pa_n)))) pe_ci) (ss_one (s_ret (pe_tupM (pa_c (pe_v 1) (pa_c (pe_v 4) pa_n))))) ss_nil))))) (ss_one (s_ret pe_cn)))
/-! on_border_by -/
abbrev N42 : List Str := ["corners", "point", "one", "other"]
def m42 : M Fl := (evRet (evB anyD (evCons (evComp [2, 3] (evSq (evCall F30 (evN 1 (evCons (evVar 0) evNil)))) (tgTup 2 (tgCons (tgN 2) (tgCons (tgN 3) tgNil))) (M.ret true) (evCall F11 (evN 3 (evCons (evVar 2) (evCons (evVar 3) (evCons (evVar 1) evNil)))))) evNil)))
def F42 : List D → Option DRes := runD 4 m42
theorem b42 {P : Program} {w : World} {K : PySem.W.Frag} {mg : Str → Option Value} {base : Heap} {f : Addr} (E : Ev K mg) (h_sides_by : Dn P w K mg base "sides_by" 1 1 F30) (h_between_by : Dn P w K mg base "between_by" 2 3 F11) : BodyIs P w K mg base N42 "on_border_by" (defScope s42) f 2 (defBody s42) m42 := by
  rintro X W b ⟨cdv, A, outer, s, H, E', rfl⟩ eK em o tk hp
  exact (ss_one (s_ret (pe_any o E.bi (pa_c (pe_lcM o (own := [("one", 2), ("other", 3)]) (pi_sqM o (pe_fn h_sides_by o tk (pa_c (pe_v 0) pa_n))) (blkOk_by rfl) (by decide) (fun s H C cl fp o => (pg_t o (pgs_c (pg_n 2 o) (pgs_c (pg_n 3 o) pgs_n)))) (fun s H C cl fp o => pts_n) (fun s H C cl fp o => (pe_fn h_between_by o takes0 (pa_c (pe_v 2) (pa_c (pe_v 3) (pa_c (pe_v 1) pa_n)))))) pa_n))))
/-! goes_back -/
abbrev N45 : List Str := ["corners", "at", "a", "b", "c"]
def m45 : M Fl := (evSeq (evPar3 2 3 4 (evBin ixD (evVar 0) (evBin (intD gSub) (evVar 1) (evC (.int 1)))) (evBin ixD (evVar 0) (evVar 1)) (evBin ixD (evVar 0) (evBin (intD gMod) (evBin addD (evVar 1) (evC (.int 1))) (evB lenD (evCons (evVar 0) evNil))))) (evRet (evAnd (evBin eqD (evCall F10 (evN 3 (evCons (evVar 2) (evCons (evVar 3) (evCons (evVar 4) evNil))))) (evC (.int 0))) (evNot (evCall F11 (evN 3 (evCons (evVar 2) (evCons (evVar 4) (evCons (evVar 3) evNil)))))))))
def F45 : List D → Option DRes := runD 5 m45
theorem b45 {P : Program} {w : World} {K : PySem.W.Frag} {mg : Str → Option Value} {base : Heap} {f : Addr} (E : Ev K mg) (h_turn_by : Dn P w K mg base "turn_by" 2 3 F10) (h_between_by : Dn P w K mg base "between_by" 2 3 F11) : BodyIs P w K mg base N45 "goes_back" (defScope s45) f 2 (defBody s45) m45 := by
  rintro X W b ⟨cdv, A, outer, s, H, E', rfl⟩ eK em o tk hp
  exact (ss_cons (s_par3 2 3 4 o (pe_ix' o (pe_v 0) (pe_sub' (pe_v 1) pe_ci)) (pe_ix' o (pe_v 0) (pe_v 1)) (pe_ix' o (pe_v 0) (pe_mod' (pe_add' o (pe_v 1) pe_ci) (pe_len o E.bi (pa_c (pe_v 0) pa_n))))) (ss_one (s_ret (pe_andM o (pe_c (cm_eq o) (pe_fn h_turn_by o tk (pa_c (pe_v 2) (pa_c (pe_v 3) (pa_c (pe_v 4) pa_n)))) pe_ci) (pe_one1 (pe_notM o (pe_fn h_between_by o tk (pa_c (pe_v 2) (pa_c (pe_v 4) (pa_c (pe_v 3) pa_n))))))))))
/-! _law_common -/
abbrev N54 : List Str := ["one", "other", "a", "b", "c", "d", "across", "up", "far", "high", "bottom", "low", "top", "first", "second"]
def m54 : M Fl := (evSeq (evAsgT (tgTup 2 (tgCons (tgTup 2 (tgCons (tgN 2) (tgCons (tgN 3) tgNil))) (tgCons (tgTup 2 (tgCons (tgN 4) (tgCons (tgN 5) tgNil))) tgNil))) (evTup (evCons (evVar 0) (evCons (evVar 1) evNil)))) (evSeq (evAsgT (tgTup 4 (tgCons (tgN 6) (tgCons (tgN 7) (tgCons (tgN 8) (tgCons (tgN 9) tgNil))))) (evTup (evCons (evBin (intD gSub) (evBin ixD (evVar 3) (evC (.int 0))) (evBin ixD (evVar 2) (evC (.int 0)))) (evCons (evBin (intD gSub) (evBin ixD (evVar 3) (evC (.int 1))) (evBin ixD (evVar 2) (evC (.int 1)))) (evCons (evBin (intD gSub) (evBin ixD (evVar 5) (evC (.int 0))) (evBin ixD (evVar 4) (evC (.int 0)))) (evCons (evBin (intD gSub) (evBin ixD (evVar 5) (evC (.int 1))) (evBin ixD (evVar 4) (evC (.int 1)))) evNil)))))) (evSeq (evAsg 10 (evBin (intD gSub) (evBin mulD (evVar 6) (evVar 9)) (evBin mulD (evVar 7) (evVar 8)))) (evSeq (evIf (evBl (evBin eqD (evVar 10) (evC (.int 0)))) (evSeq (evIf (evBl (evBin neD (evCall F52 (evN 3 (evCons (evVar 2) (evCons (evVar 3) (evCons (evVar 4) evNil))))) (evC (.int 0)))) (evRet (evC .non)) evSkip) (evSeq (evPar2 11 12 (evB (best2D true) (evCons (evBin ixD (evB srtD (evCons (evLst (evCons (evVar 2) (evCons (evVar 3) evNil))) evNil)) (evC (.int 0))) (evCons (evBin ixD (evB srtD (evCons (evLst (evCons (evVar 4) (evCons (evVar 5) evNil))) evNil)) (evC (.int 0))) evNil))) (evB (best2D false) (evCons (evBin ixD (evB srtD (evCons (evLst (evCons (evVar 2) (evCons (evVar 3) evNil))) evNil)) (evC (.int 1))) (evCons (evBin ixD (evB srtD (evCons (evLst (evCons (evVar 4) (evCons (evVar 5) evNil))) evNil)) (evC (.int 1))) evNil)))) (evSeq (evIf (evBl (evBin gtD (evVar 11) (evVar 12))) (evRet (evC .non)) evSkip) (evRet (evIf (evBl (evBin ltD (evVar 11) (evVar 12))) (evTup (evCons (evVar 11) (evCons (evVar 12) evNil))) (evTup (evCons (evBin ixD (evVar 11) (evC (.int 0))) (evCons (evBin ixD (evVar 11) (evC (.int 1))) (evCons (evC (.int 1)) evNil))))))))) evSkip) (evSeq (evAsg 13 (evBin (intD gSub) (evBin mulD (evBin (intD gSub) (evBin ixD (evVar 4) (evC (.int 0))) (evBin ixD (evVar 2) (evC (.int 0)))) (evVar 9)) (evBin mulD (evBin (intD gSub) (evBin ixD (evVar 4) (evC (.int 1))) (evBin ixD (evVar 2) (evC (.int 1)))) (evVar 8)))) (evSeq (evAsg 14 (evBin (intD gSub) (evBin mulD (evBin (intD gSub) (evBin ixD (evVar 4) (evC (.int 0))) (evBin ixD (evVar 2) (evC (.int 0)))) (evVar 7)) (evBin mulD (evBin (intD gSub) (evBin ixD (evVar 4) (evC (.int 1))) (evBin ixD (evVar 2) (evC (.int 1)))) (evVar 6)))) (evSeq (evIf (evBl (evBin ltD (evVar 10) (evC (.int 0)))) (evPar3 10 13 14 (evUn negD (evVar 10)) (evUn negD (evVar 13)) (evUn negD (evVar 14))) evSkip) (evSeq (evIf (evOrT (evNotT (evBl (evChain leD leD (evC (.int 0)) (evVar 13) (evVar 10)))) (evNotT (evBl (evChain leD leD (evC (.int 0)) (evVar 14) (evVar 10))))) (evRet (evC .non)) evSkip) (evRet (evCall F51 (evN 3 (evCons (evBin addD (evBin mulD (evBin ixD (evVar 2) (evC (.int 0))) (evVar 10)) (evBin mulD (evVar 6) (evVar 13))) (evCons (evBin addD (evBin mulD (evBin ixD (evVar 2) (evC (.int 1))) (evVar 10)) (evBin mulD (evVar 7) (evVar 13))) (evCons (evVar 10) evNil))))))))))))))
def F54 : List D → Option DRes := runD 15 m54
theorem b54 {P : Program} {w : World} {K : PySem.W.Frag} {mg : Str → Option Value} {base : Heap} {f : Addr} (E : Ev K mg) (h__law_spot : Dn P w K mg base "_law_spot" 2 3 F51) (h__law_cross : Dn P w K mg base "_law_cross" 1 3 F52) : BodyIs P w K mg base N54 "_law_common" (defScope s54) f 2 (defBody s54) m54 := by
  rintro X W b ⟨cdv, A, outer, s, H, E', rfl⟩ eK em o tk hp
  exact (ss_cons (s_asgT (pe_tupM (pa_c (pe_v 0) (pa_c (pe_v 1) pa_n))) (pg_t o (pgs_c (pg_t o (pgs_c (pg_n 2 o) (pgs_c (pg_n 3 o) pgs_n))) (pgs_c (pg_t o (pgs_c (pg_n 4 o) (pgs_c (pg_n 5 o) pgs_n))) pgs_n)))) (ss_cons (s_asgT (pe_tupM (pa_c (pe_sub' (pe_ix' o (pe_v 3) pe_ci) (pe_ix' o (pe_v 2) pe_ci)) (pa_c (pe_sub' (pe_ix' o (pe_v 3) pe_ci) (pe_ix' o (pe_v 2) pe_ci)) (pa_c (pe_sub' (pe_ix' o (pe_v 5) pe_ci) (pe_ix' o (pe_v 4) pe_ci)) (pa_c (pe_sub' (pe_ix' o (pe_v 5) pe_ci) (pe_ix' o (pe_v 4) pe_ci)) pa_n))))) (pg_t o (pgs_c (pg_n 6 o) (pgs_c (pg_n 7 o) (pgs_c (pg_n 8 o) (pgs_c (pg_n 9 o) pgs_n)))))) (ss_cons (s_set 10 o (pe_sub' (pe_mul' o (pe_v 6) (pe_v 9)) (pe_mul' o (pe_v 7) (pe_v 8)))) (ss_cons (s_if (pt_c (cm_eq o) (pe_v 10) pe_ci) (ss_cons (s_if (pt_c (cm_ne o) (pe_fn h__law_cross o tk (pa_c (pe_v 2) (pa_c (pe_v 3) (pa_c (pe_v 4) pa_n)))) pe_ci) (ss_one (s_ret pe_cn)) ss_nil) (ss_cons (s_par2 11 12 o (pe_max2 o E.bi (pa_c (pe_ix' o (pe_sorted o E.bi (pa_c (pe_lstM (pa_c (pe_v 2) (pa_c (pe_v 3) pa_n))) pa_n)) pe_ci) (pa_c (pe_ix' o (pe_sorted o E.bi (pa_c (pe_lstM (pa_c (pe_v 4) (pa_c (pe_v 5) pa_n))) pa_n)) pe_ci) pa_n))) (pe_min2 o E.bi (pa_c (pe_ix' o (pe_sorted o E.bi (pa_c (pe_lstM (pa_c (pe_v 2) (pa_c (pe_v 3) pa_n))) pa_n)) pe_ci) (pa_c (pe_ix' o (pe_sorted o E.bi (pa_c (pe_lstM (pa_c (pe_v 4) (pa_c (pe_v 5) pa_n))) pa_n)) pe_ci) pa_n)))) (ss_cons (s_if (pt_c (cm_gt o) (pe_v 11) (pe_v 12)) (ss_one (s_ret pe_cn)) ss_nil) (ss_one (s_ret (pe_ifM (pt_c (cm_lt o) (pe_v 11) (pe_v 12)) (pe_tupM (pa_c (pe_v 11) (pa_c (pe_v 12) pa_n))) (pe_tupM (pa_c (pe_ix' o (pe_v 11) pe_ci) (pa_c (pe_ix' o (pe_v 11) pe_ci) (pa_c pe_ci pa_n)))))))))) ss_nil) (ss_cons (s_set 13 o (pe_sub' (pe_mul' o (pe_sub' (pe_ix' o (pe_v 4) pe_ci) (pe_ix' o (pe_v 2) pe_ci)) (pe_v 9)) (pe_mul' o (pe_sub' (pe_ix' o (pe_v 4) pe_ci) (pe_ix' o (pe_v 2) pe_ci)) (pe_v 8)))) (ss_cons (s_set 14 o (pe_sub' (pe_mul' o (pe_sub' (pe_ix' o (pe_v 4) pe_ci) (pe_ix' o (pe_v 2) pe_ci)) (pe_v 7)) (pe_mul' o (pe_sub' (pe_ix' o (pe_v 4) pe_ci) (pe_ix' o (pe_v 2) pe_ci)) (pe_v 6)))) (ss_cons (s_if (pt_c (cm_lt o) (pe_v 10) pe_ci) (ss_one (s_par3 10 13 14 o (pe_neg' (pe_v 10)) (pe_neg' (pe_v 13)) (pe_neg' (pe_v 14)))) ss_nil) (ss_cons (s_if (PW.pt (pw_orM (pt_notM (pt_ch (cm_le o) (cm_le o) pe_ci (pe_v 13) (pe_v 10))) (pw_or1M (pt_notM (pt_ch (cm_le o) (cm_le o) pe_ci (pe_v 14) (pe_v 10)))))) (ss_one (s_ret pe_cn)) ss_nil) (ss_one (s_ret (pe_fn h__law_spot o tk (pa_c (pe_add' o (pe_mul' o (pe_ix' o (pe_v 2) pe_ci) (pe_v 10)) (pe_mul' o (pe_v 6) (pe_v 13))) (pa_c (pe_add' o (pe_mul' o (pe_ix' o (pe_v 2) pe_ci) (pe_v 10)) (pe_mul' o (pe_v 7) (pe_v 13))) (pa_c (pe_v 10) pa_n))))))))))))))
/-! _law_turn_at -/
abbrev N58 : List Str := ["ring", "at"]
def m58 : M Fl := (evRet (evCall F53 (evN 3 (evCons (evBin ixD (evVar 0) (evBin (intD gSub) (evVar 1) (evC (.int 1)))) (evCons (evBin ixD (evVar 0) (evVar 1)) (evCons (evBin ixD (evVar 0) (evBin (intD gSub) (evBin addD (evVar 1) (evC (.int 1))) (evB lenD (evCons (evVar 0) evNil)))) evNil))))))
def F58 : List D → Option DRes := runD 2 m58
theorem b58 {P : Program} {w : World} {K : PySem.W.Frag} {mg : Str → Option Value} {base : Heap} {f : Addr} (E : Ev K mg) (h__law_turn : Dn P w K mg base "_law_turn" 2 3 F53) : BodyIs P w K mg base N58 "_law_turn_at" (defScope s58) f 2 (defBody s58) m58 := by
  rintro X W b ⟨cdv, A, outer, s, H, E', rfl⟩ eK em o tk hp
  exact (ss_one (s_ret (pe_fn h__law_turn o tk (pa_c (pe_ix' o (pe_v 0) (pe_sub' (pe_v 1) pe_ci)) (pa_c (pe_ix' o (pe_v 0) (pe_v 1)) (pa_c (pe_ix' o (pe_v 0) (pe_sub' (pe_add' o (pe_v 1) pe_ci) (pe_len o E.bi (pa_c (pe_v 0) pa_n)))) pa_n))))))
/-! need_point -/
abbrev N8 : List Str := ["what", "value"]
def m8 : M Fl := (evRet (evCall F7 (evN 3 (evCons (evVar 0) (evCons (evVar 1) (evCons (evC (.fn "is_point")) evNil))))))
def F8 : List D → Option DRes := runD 2 m8
theorem b8 {P : Program} {w : World} {K : PySem.W.Frag} {mg : Str → Option Value} {base : Heap} {f : Addr} (E : Ev K mg) (h_need_as : Dn P w K mg base "need_as" 3 3 F7) : BodyIs P w K mg base N8 "need_point" (defScope s8) f 3 (defBody s8) m8 := by
  rintro X W b ⟨cdv, A, outer, s, H, E', rfl⟩ eK em o tk hp
  obtain ⟨_, gf_is_point⟩ := E.v_is_point
  exact (ss_one (s_ret (pe_fn h_need_as o tk (pa_c (pe_v 0) (pa_c (pe_v 1) (pa_c (pe_gfn o gf_is_point) pa_n))))))
/-! meeting_by -/
abbrev N17 : List Str := ["one", "other", "told"]
def m17 : M Fl := (evSeq (evAsg 2 (evCall F16 (evN 2 (evCons (evVar 0) (evCons (evVar 1) evNil))))) (evSeq (evIf (evBl (evBin isD (evVar 2) (evC .non))) (evRet (evC (.str "none"))) evSkip) (evSeq (evIf (evBl (evBin eqD (evB lenD (evCons (evVar 2) evNil)) (evC (.int 2)))) (evRet (evC (.str "share"))) evSkip) (evRet (evIf (evAndT (evBl (evBin eqD (evBin ixD (evVar 2) (evC (.int 2))) (evC (.int 1)))) (evBl (evBin inD (evSlice (evVar 2) (M.ret none) (evPart (evC (.int 2)))) (evTup (evStar (evVar 0) (evStar (evVar 1) evNil)))))) (evC (.str "touch")) (evC (.str "cross")))))))
def F17 : List D → Option DRes := runD 3 m17
theorem b17 {P : Program} {w : World} {K : PySem.W.Frag} {mg : Str → Option Value} {base : Heap} {f : Addr} (E : Ev K mg) (h_common_by : Dn P w K mg base "common_by" 3 2 F16) : BodyIs P w K mg base N17 "meeting_by" (defScope s17) f 3 (defBody s17) m17 := by
  rintro X W b ⟨cdv, A, outer, s, H, E', rfl⟩ eK em o tk hp
  exact (ss_cons (s_set 2 o (pe_fn h_common_by o tk (pa_c (pe_v 0) (pa_c (pe_v 1) pa_n)))) (ss_cons (s_if (pt_c (cm_is o) (pe_v 2) pe_cn) (ss_one (s_ret pe_cs)) ss_nil) (ss_cons (s_if (pt_c (cm_eq o) (pe_len o E.bi (pa_c (pe_v 2) pa_n)) pe_ci) (ss_one (s_ret pe_cs)) ss_nil) (ss_one (s_ret (pe_ifM (PW.pt (pw_andM (pt_c (cm_eq o) (pe_ix' o (pe_v 2) pe_ci) pe_ci) (pw_and1M (pt_c (cm_in o) (pe_sl' o (pe_v 2) po_n (po_s pe_ci)) (pe_tupM (pa_st o (pe_v 0) (pa_st o (pe_v 1) pa_n))))))) pe_cs pe_cs))))))
/-! need_ring -/
abbrev N29 : List Str := ["corners"]
def m29 : M Fl := (evSeq (evIf (evNotT (evTru (evCall F28 (evN 1 (evCons (evVar 0) evNil))))) evNo evSkip) (evRet (evB tupD (evCons (evVar 0) evNil))))
def F29 : List D → Option DRes := runD 1 m29
theorem b29 {P : Program} {w : World} {K : PySem.W.Frag} {mg : Str → Option Value} {base : Heap} {f : Addr} (E : Ev K mg) (h_is_points : Dn P w K mg base "is_points" 3 1 F28) : BodyIs P w K mg base N29 "need_ring" (defScope s29) f 3 (defBody s29) m29 := by
  rintro X W b ⟨cdv, A, outer, s, H, E', rfl⟩ eK em o tk hp
  exact (ss_cons (s_if (pt_notM (pt_tru o (pe_fn h_is_points o tk (pa_c (pe_v 0) pa_n)))) (ss_one s_no) ss_nil) (ss_one (s_ret (pe_tuple o E.bi (pa_c (pe_v 0) pa_n)))))
/-! turns_of -/
abbrev N38 : List Str := ["field", "at"]
def m38 : M Fl := (evRet (evB tupD (evCons (evComp [1] (evRng rngR1 (evCons (evB lenD (evCons (evFld ct "corners" (evVar 0)) evNil)) evNil)) (tgN 1) (M.ret true) (evCall F33 (evN 2 (evCons (evFld ct "corners" (evVar 0)) (evCons (evVar 1) evNil))))) evNil)))
def F38 : List D → Option DRes := runD 2 m38
theorem b38 {P : Program} {w : World} {K : PySem.W.Frag} {mg : Str → Option Value} {base : Heap} {f : Addr} (E : Ev K mg) (h_turn_at : Dn P w K mg base "turn_at" 3 2 F33) : BodyIs P w K mg base N38 "turns_of" (defScope s38) f 3 (defBody s38) m38 := by
  rintro X W b ⟨cdv, A, outer, s, H, E', rfl⟩ eK em o tk hp
  exact (ss_one (s_ret (pe_tuple o E.bi (pa_c (pe_lcM o (own := [("at", 1)]) (pi_rng1 rfl E.bi.range (pa_c (pe_len o E.bi (pa_c (pe_fldM o E.ct (pe_v 0)) pa_n)) pa_n)) (blkOk_by rfl) (by decide) (fun s H C cl fp o => (pg_n 1 o)) (fun s H C cl fp o => pts_n) (fun s H C cl fp o => (pe_fn h_turn_at o takes0 (pa_c (pe_fldM o E.ct (pe_v 0)) (pa_c (pe_v 1) pa_n))))) pa_n))))
/-! _law_meeting -/
abbrev N55 : List Str := ["one", "other", "told"]
def m55 : M Fl := (evSeq (evAsg 2 (evCall F54 (evN 2 (evCons (evVar 0) (evCons (evVar 1) evNil))))) (evSeq (evIf (evBl (evBin isD (evVar 2) (evC .non))) (evRet (evC (.str "none"))) evSkip) (evSeq (evIf (evBl (evBin eqD (evB lenD (evCons (evVar 2) evNil)) (evC (.int 2)))) (evRet (evC (.str "share"))) evSkip) (evRet (evIf (evAndT (evBl (evBin eqD (evBin ixD (evVar 2) (evC (.int 2))) (evC (.int 1)))) (evBl (evBin inD (evSlice (evVar 2) (M.ret none) (evPart (evC (.int 2)))) (evBin addD (evVar 0) (evVar 1))))) (evC (.str "touch")) (evC (.str "cross")))))))
def F55 : List D → Option DRes := runD 3 m55
theorem b55 {P : Program} {w : World} {K : PySem.W.Frag} {mg : Str → Option Value} {base : Heap} {f : Addr} (E : Ev K mg) (h__law_common : Dn P w K mg base "_law_common" 3 2 F54) : BodyIs P w K mg base N55 "_law_meeting" (defScope s55) f 3 (defBody s55) m55 := by
  rintro X W b ⟨cdv, A, outer, s, H, E', rfl⟩ eK em o tk hp
  exact (ss_cons (s_set 2 o (pe_fn h__law_common o tk (pa_c (pe_v 0) (pa_c (pe_v 1) pa_n)))) (ss_cons (s_if (pt_c (cm_is o) (pe_v 2) pe_cn) (ss_one (s_ret pe_cs)) ss_nil) (ss_cons (s_if (pt_c (cm_eq o) (pe_len o E.bi (pa_c (pe_v 2) pa_n)) pe_ci) (ss_one (s_ret pe_cs)) ss_nil) (ss_one (s_ret (pe_ifM (PW.pt (pw_andM (pt_c (cm_eq o) (pe_ix' o (pe_v 2) pe_ci) pe_ci) (pw_and1M (pt_c (cm_in o) (pe_sl' o (pe_v 2) po_n (po_s pe_ci)) (pe_add' o (pe_v 0) (pe_v 1)))))) pe_cs pe_cs))))))
/-! is_fault -/
abbrev N35 : List Str := ["sides", "one", "other", "how"]
def m35 : M Fl := (evSeq (evAsg 3 (evCall F17 (evN 2 (evCons (evBin ixD (evVar 0) (evVar 1)) (evCons (evBin ixD (evVar 0) (evVar 2)) evNil))))) (evSeq (evIf (evOrT (evBl (evBin eqD (evVar 3) (evC (.str "none")))) (evAndT (evTru (evCall F34 (evN 3 (evCons (evB lenD (evCons (evVar 0) evNil)) (evCons (evVar 1) (evCons (evVar 2) evNil)))))) (evBl (evBin neD (evVar 3) (evC (.str "share")))))) (evRet (evC .non)) evSkip) (evRet (evVar 3))))
def F35 : List D → Option DRes := runD 4 m35
theorem b35 {P : Program} {w : World} {K : PySem.W.Frag} {mg : Str → Option Value} {base : Heap} {f : Addr} (E : Ev K mg) (h_are_beside : Dn P w K mg base "are_beside" 1 3 F34) (h_meeting_by : Dn P w K mg base "meeting_by" 4 2 F17) : BodyIs P w K mg base N35 "is_fault" (defScope s35) f 4 (defBody s35) m35 := by
  rintro X W b ⟨cdv, A, outer, s, H, E', rfl⟩ eK em o tk hp
  exact (ss_cons (s_set 3 o (pe_fn h_meeting_by o tk (pa_c (pe_ix' o (pe_v 0) (pe_v 1)) (pa_c (pe_ix' o (pe_v 0) (pe_v 2)) pa_n)))) (ss_cons (s_if (PW.pt (pw_orM (pt_c (cm_eq o) (pe_v 3) pe_cs) (pw_or1M (PW.pt (pw_andM (pt_tru o (pe_fn h_are_beside o tk (pa_c (pe_len o E.bi (pa_c (pe_v 0) pa_n)) (pa_c (pe_v 1) (pa_c (pe_v 2) pa_n))))) (pw_and1M (pt_c (cm_ne o) (pe_v 3) pe_cs))))))) (ss_one (s_ret pe_cn)) ss_nil) (ss_one (s_ret (pe_v 3)))))
/-! bays -/
abbrev N39 : List Str := ["field", "at", "told"]
def m39 : M Fl := (evRet (evB tupD (evCons (evComp [1, 2] (evEn (evCons (evCall F38 (evN 1 (evCons (evVar 0) evNil))) evNil)) (tgTup 2 (tgCons (tgN 1) (tgCons (tgN 2) tgNil))) (evBl (evBin ltD (evVar 2) (evC (.int 0)))) (evVar 1)) evNil)))
def F39 : List D → Option DRes := runD 3 m39
theorem b39 {P : Program} {w : World} {K : PySem.W.Frag} {mg : Str → Option Value} {base : Heap} {f : Addr} (E : Ev K mg) (h_turns_of : Dn P w K mg base "turns_of" 4 1 F38) : BodyIs P w K mg base N39 "bays" (defScope s39) f 4 (defBody s39) m39 := by
  rintro X W b ⟨cdv, A, outer, s, H, E', rfl⟩ eK em o tk hp
  exact (ss_one (s_ret (pe_tuple o E.bi (pa_c (pe_lcM o (own := [("at", 1), ("told", 2)]) (pi_enM o (pa_c (pe_fn h_turns_of o tk (pa_c (pe_v 0) pa_n)) pa_n) E.bi.enumerate) (blkOk_by rfl) (by decide) (fun s H C cl fp o => (pg_t o (pgs_c (pg_n 1 o) (pgs_c (pg_n 2 o) pgs_n)))) (fun s H C cl fp o => (pts_1 (pt_c (cm_lt o) (pe_v 2) pe_ci))) (fun s H C cl fp o => (pe_v 1))) pa_n))))
/-! on_border -/
abbrev N43 : List Str := ["field", "point"]
def m43 : M Fl := (evRet (evCall F42 (evN 2 (evCons (evFld ct "corners" (evVar 0)) (evCons (evCall F8 (evN 2 (evCons (evC (.str "point")) (evCons (evVar 1) evNil)))) evNil)))))
def F43 : List D → Option DRes := runD 2 m43
theorem b43 {P : Program} {w : World} {K : PySem.W.Frag} {mg : Str → Option Value} {base : Heap} {f : Addr} (E : Ev K mg) (h_need_point : Dn P w K mg base "need_point" 4 2 F8) (h_on_border_by : Dn P w K mg base "on_border_by" 3 2 F42) : BodyIs P w K mg base N43 "on_border" (defScope s43) f 4 (defBody s43) m43 := by
  rintro X W b ⟨cdv, A, outer, s, H, E', rfl⟩ eK em o tk hp
  exact (ss_one (s_ret (pe_fn h_on_border_by o tk (pa_c (pe_fldM o E.ct (pe_v 0)) (pa_c (pe_fn h_need_point o tk (pa_c pe_cs (pa_c (pe_v 1) pa_n))) pa_n)))))
/-! turnings -/
abbrev N46 : List Str := ["corners", "known", "sides", "total", "at", "before", "behind", "told"]
def m46 : M Fl := (evSeq (evAsg 1 (evCall F29 (evN 1 (evCons (evVar 0) evNil)))) (evSeq (evIf (evTru (evB anyD (evCons (evComp [4] (evRng rngR1 (evCons (evB lenD (evCons (evVar 1) evNil)) evNil)) (tgN 4) (M.ret true) (evCall F45 (evN 2 (evCons (evVar 1) (evCons (evVar 4) evNil))))) evNil))) evNo evSkip) (evSeq (evPar2 2 3 (evCall F30 (evN 1 (evCons (evVar 1) evNil))) (evC (.int 0))) (evSeq (evFor (evRng rngR1 (evCons (evB lenD (evCons (evVar 1) evNil)) evNil)) (tgN 4) (evSeq (evPar3 5 6 7 (evCall F44 (evN 1 (evCons (evBin ixD (evVar 2) (evBin (intD gSub) (evVar 4) (evC (.int 1)))) evNil))) (evCall F44 (evN 1 (evCons (evBin ixD (evVar 2) (evVar 4)) evNil))) (evCall F33 (evN 2 (evCons (evVar 1) (evCons (evVar 4) evNil))))) (evSeq (evIf (evAndT (evBl (evBin gtD (evVar 7) (evC (.int 0)))) (evAndT (evTru (evVar 6)) (evNotT (evTru (evVar 5))))) (evAsg 3 (evBin addD (evVar 3) (evC (.int 1)))) evSkip) (evIf (evAndT (evBl (evBin ltD (evVar 7) (evC (.int 0)))) (evAndT (evTru (evVar 5)) (evNotT (evTru (evVar 6))))) (evAsg 3 (evBin (intD gSub) (evVar 3) (evC (.int 1)))) evSkip)))) (evRet (evVar 3))))))
def F46 : List D → Option DRes := runD 8 m46
theorem b46 {P : Program} {w : World} {K : PySem.W.Frag} {mg : Str → Option Value} {base : Heap} {f : Addr} (E : Ev K mg) (h_is_upward : Dn P w K mg base "is_upward" 1 1 F44) (h_turn_at : Dn P w K mg base "turn_at" 3 2 F33) (h_sides_by : Dn P w K mg base "sides_by" 1 1 F30) (h_goes_back : Dn P w K mg base "goes_back" 3 2 F45) (h_need_ring : Dn P w K mg base "need_ring" 4 1 F29) : BodyIs P w K mg base N46 "turnings" (defScope s46) f 4 (defBody s46) m46 := by
  rintro X W b ⟨cdv, A, outer, s, H, E', rfl⟩ eK em o tk hp
  exact (ss_cons (s_set 1 o (pe_fn h_need_ring o tk (pa_c (pe_v 0) pa_n))) (ss_cons (s_if (pt_tru o (pe_any o E.bi (pa_c (pe_lcM o (own := [("at", 4)]) (pi_rng1 rfl E.bi.range (pa_c (pe_len o E.bi (pa_c (pe_v 1) pa_n)) pa_n)) (blkOk_by rfl) (by decide) (fun s H C cl fp o => (pg_n 4 o)) (fun s H C cl fp o => pts_n) (fun s H C cl fp o => (pe_fn h_goes_back o takes0 (pa_c (pe_v 1) (pa_c (pe_v 4) pa_n))))) pa_n))) (ss_one s_no) ss_nil) (ss_cons (s_par2 2 3 o (pe_fn h_sides_by o tk (pa_c (pe_v 1) pa_n)) pe_ci) (ss_cons (s_for o hp (pi_rng1 rfl E.bi.range (pa_c (pe_len o E.bi (pa_c (pe_v 1) pa_n)) pa_n)) (pg_n 4 o) (ss_cons (s_par3 5 6 7 o (pe_fn h_is_upward o tk (pa_c (pe_ix' o (pe_v 2) (pe_sub' (pe_v 4) pe_ci)) pa_n)) (pe_fn h_is_upward o tk (pa_c (pe_ix' o (pe_v 2) (pe_v 4)) pa_n)) (pe_fn h_turn_at o tk (pa_c (pe_v 1) (pa_c (pe_v 4) pa_n)))) (ss_cons (s_if (PW.pt (pw_andM (pt_c (cm_gt o) (pe_v 7) pe_ci) (pw_andM (pt_tru o (pe_v 6)) (pw_and1M (pt_notM (pt_tru o (pe_v 5))))))) (ss_one (s_set 3 o (pe_add' o (pe_v 3) pe_ci))) ss_nil) (ss_one (s_if (PW.pt (pw_andM (pt_c (cm_lt o) (pe_v 7) pe_ci) (pw_andM (pt_tru o (pe_v 5)) (pw_and1M (pt_notM (pt_tru o (pe_v 6))))))) (ss_one (s_set 3 o (pe_sub' (pe_v 3) pe_ci))) ss_nil))))) (ss_one (s_ret (pe_v 3)))))))
/-! _law_first_fault -/
abbrev N59 : List Str := ["ring", "many", "sides", "at", "one", "other", "how"]
def m59 : M Fl := (evSeq (evPar2 1 2 (evB lenD (evCons (evVar 0) evNil)) (evCall F57 (evN 1 (evCons (evVar 0) evNil)))) (evSeq (evFor (evRng rngR1 (evCons (evVar 1) evNil)) (tgN 3) (evIf (evBl (evBin eqD (evCall F58 (evN 2 (evCons (evVar 0) (evCons (evVar 3) evNil)))) (evC (.int 0)))) (evRet (evTup (evCons (evC (.str "straight")) (evCons (evVar 3) evNil)))) evSkip)) (evSeq (evFor (evRng rngR1 (evCons (evVar 1) evNil)) (tgN 4) (evFor (evRng rngR2 (evCons (evBin addD (evVar 4) (evC (.int 1))) (evCons (evVar 1) evNil))) (tgN 5) (evSeq (evAsg 6 (evCall F55 (evN 2 (evCons (evBin ixD (evVar 2) (evVar 4)) (evCons (evBin ixD (evVar 2) (evVar 5)) evNil))))) (evIf (evOrT (evBl (evBin eqD (evVar 6) (evC (.str "share")))) (evAndT (evBl (evBin neD (evVar 6) (evC (.str "none")))) (evBl (evBin ninD (evBin (intD gSub) (evVar 5) (evVar 4)) (evTup (evCons (evC (.int 1)) (evCons (evBin (intD gSub) (evVar 1) (evC (.int 1))) evNil))))))) (evRet (evTup (evCons (evC (.str "fault")) (evCons (evVar 4) (evCons (evVar 5) (evCons (evVar 6) evNil)))))) evSkip)))) (evRet (evC .non)))))
def F59 : List D → Option DRes := runD 7 m59
theorem b59 {P : Program} {w : World} {K : PySem.W.Frag} {mg : Str → Option Value} {base : Heap} {f : Addr} (E : Ev K mg) (h__law_meeting : Dn P w K mg base "_law_meeting" 4 2 F55) (h__law_turn_at : Dn P w K mg base "_law_turn_at" 3 2 F58) (h__law_sides : Dn P w K mg base "_law_sides" 1 1 F57) : BodyIs P w K mg base N59 "_law_first_fault" (defScope s59) f 4 (defBody s59) m59 := by
  rintro X W b ⟨cdv, A, outer, s, H, E', rfl⟩ eK em o tk hp
  exact (ss_cons (s_par2 1 2 o (pe_len o E.bi (pa_c (pe_v 0) pa_n)) (pe_fn h__law_sides o tk (pa_c (pe_v 0) pa_n))) (ss_cons (s_for o hp (pi_rng1 rfl E.bi.range (pa_c (pe_v 1) pa_n)) (pg_n 3 o) (ss_one (s_if (pt_c (cm_eq o) (pe_fn h__law_turn_at o tk (pa_c (pe_v 0) (pa_c (pe_v 3) pa_n))) pe_ci) (ss_one (s_ret (pe_tupM (pa_c pe_cs (pa_c (pe_v 3) pa_n))))) ss_nil))) (ss_cons (s_for o hp (pi_rng1 rfl E.bi.range (pa_c (pe_v 1) pa_n)) (pg_n 4 o) (ss_one (s_for o hp (pi_rng2 rfl E.bi.range (pa_c (pe_add' o (pe_v 4) pe_ci) (pa_c (pe_v 1) pa_n))) (pg_n 5 o) (ss_cons (s_set 6 o (pe_fn h__law_meeting o tk (pa_c (pe_ix' o (pe_v 2) (pe_v 4)) (pa_c (pe_ix' o (pe_v 2) (pe_v 5)) pa_n)))) (ss_one (s_if (PW.pt (pw_orM (pt_c (cm_eq o) (pe_v 6) pe_cs) (pw_or1M (PW.pt (pw_andM (pt_c (cm_ne o) (pe_v 6) pe_cs) (pw_and1M (pt_c (cm_nin o) (pe_sub' (pe_v 5) (pe_v 4)) (pe_tupM (pa_c pe_ci (pa_c (pe_sub' (pe_v 1) pe_ci) pa_n)))))))))) (ss_one (s_ret (pe_tupM (pa_c pe_cs (pa_c (pe_v 4) (pa_c (pe_v 5) (pa_c (pe_v 6) pa_n))))))) ss_nil)))))) (ss_one (s_ret pe_cn)))))
/-! is_convex -/
abbrev N40 : List Str := ["field"]
def m40 : M Fl := (evRet (evNot (evCall F39 (evN 1 (evCons (evVar 0) evNil)))))
def F40 : List D → Option DRes := runD 1 m40
theorem b40 {P : Program} {w : World} {K : PySem.W.Frag} {mg : Str → Option Value} {base : Heap} {f : Addr} (E : Ev K mg) (h_bays : Dn P w K mg base "bays" 5 1 F39) : BodyIs P w K mg base N40 "is_convex" (defScope s40) f 5 (defBody s40) m40 := by
  rintro X W b ⟨cdv, A, outer, s, H, E', rfl⟩ eK em o tk hp
  exact (ss_one (s_ret (pe_notM o (pe_fn h_bays o tk (pa_c (pe_v 0) pa_n)))))
/-! as_tuples -/
abbrev N4 : List Str := ["value", "one"]
def m4 (F' : List D → Option DRes) : M Fl := (evSeq (evIf (evTru (evUn (isiD2 csL .lst .tup) (evVar 0))) (evRet (evB tupD (evCons (evComp [1] (evSq (evVar 0)) (tgN 1) (M.ret true) (evCall F' (evN 1 (evCons (evVar 1) evNil)))) evNil))) evSkip) (evRet (evVar 0)))
def F4 : Nat → List D → Option DRes
  | 0 => fun _ => none
  | n + 1 => runD 2 (m4 (F4 n))
theorem b4 {P : Program} {w : World} {K : PySem.W.Frag} {mg : Str → Option Value} {base : Heap} {f : Addr} {k : Nat} {F' : List D → Option DRes} (E : Ev K mg) (h_as_tuples : Dn P w K mg base "as_tuples" k 1 F') : BodyIs P w K mg base N4 "as_tuples" (defScope s4) f k (defBody s4) (m4 F') := by
  rintro X W b ⟨cdv, A, outer, s, H, E', rfl⟩ eK em o tk hp
  exact (ss_cons (s_if (pt_tru o (pe_isi2 o E.kt (pe_v 0) (clx_lst E.bi.list) (clx_tup E.bi.tuple) E.bi.isinstance)) (ss_one (s_ret (pe_tuple o E.bi (pa_c (pe_lcM o (own := [("one", 1)]) (pi_sqM o (pe_v 0)) (blkOk_by rfl) (by decide) (fun s H C cl fp o => (pg_n 1 o)) (fun s H C cl fp o => pts_n) (fun s H C cl fp o => (pe_fn h_as_tuples o takes0 (hk := Nat.le_refl _) (pa_c (pe_v 1) pa_n)))) pa_n)))) ss_nil) (ss_one (s_ret (pe_v 0))))
/-! _law_is -/
abbrev N49 : List Str := ["told", "due", "at"]
def m49 (F' : List D → Option DRes) : M Fl := (evSeq (evIf (evTru (evUn (isiD csL .tup) (evVar 1))) (evSeq (evIf (evOrT (evNotT (evTru (evUn (isiD csL .tup) (evVar 0)))) (evBl (evBin neD (evB lenD (evCons (evVar 0) evNil)) (evB lenD (evCons (evVar 1) evNil))))) (evRet (evC (.bl false))) evSkip) (evRet (evBin eqD (evComp [2] (evRng rngR1 (evCons (evB lenD (evCons (evVar 1) evNil)) evNil)) (tgN 2) (evNotT (evTru (evCall F' (evN 2 (evCons (evBin ixD (evVar 0) (evVar 2)) (evCons (evBin ixD (evVar 1) (evVar 2)) evNil)))))) (evVar 2)) (evLst evNil)))) evSkip) (evSeq (evIf (evBl (evBin isD (evVar 1) (evC .non))) (evRet (evBin isD (evVar 0) (evC .non))) evSkip) (evSeq (evIf (evBl (evBin isD (evVar 1) (evC (.bl true)))) (evRet (evBin isD (evVar 0) (evC (.bl true)))) evSkip) (evSeq (evIf (evBl (evBin isD (evVar 1) (evC (.bl false)))) (evRet (evBin isD (evVar 0) (evC (.bl false)))) evSkip) (evSeq (evIf (evTru (evUn (isiD csL .str) (evVar 1))) (evRet (evAnd (evUn (isiD csL .str) (evVar 0)) (evBin eqD (evVar 0) (evVar 1)))) evSkip) (evRet (evAnd (evUn (isiD csL .int) (evVar 0)) (evAnd (evNot (evUn (isiD csL .bl) (evVar 0))) (evBin eqD (evVar 0) (evVar 1))))))))))
def F49 : Nat → List D → Option DRes
  | 0 => fun _ => none
  | n + 1 => runD 3 (m49 (F49 n))
theorem b49 {P : Program} {w : World} {K : PySem.W.Frag} {mg : Str → Option Value} {base : Heap} {f : Addr} {k : Nat} {F' : List D → Option DRes} (E : Ev K mg) (h__law_is : Dn P w K mg base "_law_is" k 2 F') : BodyIs P w K mg base N49 "_law_is" (defScope s49) f k (defBody s49) (m49 F') := by
  rintro X W b ⟨cdv, A, outer, s, H, E', rfl⟩ eK em o tk hp
  exact (ss_cons (s_if (pt_tru o (pe_isi o E.kt (pe_v 1) (clx_tup E.bi.tuple) E.bi.isinstance)) (ss_cons (s_if (PW.pt (pw_orM (pt_notM (pt_tru o (pe_isi o E.kt (pe_v 0) (clx_tup E.bi.tuple) E.bi.isinstance))) (pw_or1M (pt_c (cm_ne o) (pe_len o E.bi (pa_c (pe_v 0) pa_n)) (pe_len o E.bi (pa_c (pe_v 1) pa_n)))))) (ss_one (s_ret pe_cb)) ss_nil) (ss_one (s_ret (pe_c (cm_eq o) (pe_lcM o (own := [("at", 2)]) (pi_rng1 rfl E.bi.range (pa_c (pe_len o E.bi (pa_c (pe_v 1) pa_n)) pa_n)) (blkOk_by rfl) (by decide) (fun s H C cl fp o => (pg_n 2 o)) (fun s H C cl fp o => (pts_1 (pt_notM (pt_tru o (pe_fn h__law_is o takes0 (hk := Nat.le_refl _) (pa_c (pe_ix' o (pe_v 0) (pe_v 2)) (pa_c (pe_ix' o (pe_v 1) (pe_v 2)) pa_n))))))) (fun s H C cl fp o => (pe_v 2))) (pe_lstM pa_n))))) ss_nil) (ss_cons (s_if (pt_c (cm_is o) (pe_v 1) pe_cn) (ss_one (s_ret (pe_c (cm_is o) (pe_v 0) pe_cn))) ss_nil) (ss_cons (s_if (pt_c (cm_is o) (pe_v 1) pe_cb) (ss_one (s_ret (pe_c (cm_is o) (pe_v 0) pe_cb))) ss_nil) (ss_cons (s_if (pt_c (cm_is o) (pe_v 1) pe_cb) (ss_one (s_ret (pe_c (cm_is o) (pe_v 0) pe_cb))) ss_nil) (ss_cons (s_if (pt_tru o (pe_isi o E.kt (pe_v 1) (clx_str E.bi.str) E.bi.isinstance)) (ss_one (s_ret (pe_andM o (pe_isi o E.kt (pe_v 0) (clx_str E.bi.str) E.bi.isinstance) (pe_one1 (pe_c (cm_eq o) (pe_v 0) (pe_v 1)))))) ss_nil) (ss_one (s_ret (pe_andM o (pe_isi o E.kt (pe_v 0) (clx_int E.bi.int) E.bi.isinstance) (pe_andM o (pe_notM o (pe_isi o E.kt (pe_v 0) (clx_bl E.bi.bool) E.bi.isinstance)) (pe_one1 (pe_c (cm_eq o) (pe_v 0) (pe_v 1))))))))))))
/-! Straight.__init__ -/
abbrev N18 : List Str := ["self", "index"]
def m18 : M Fl := (evSelf ct 0 "index" (evCall (F4 6) (evN 1 (evCons (evVar 1) evNil))))
def F18 : Mo → List D → Option (DRes × Mo) := runN 2 m18
theorem b18 {P : Program} {w : World} {K : PySem.W.Frag} {mg : Str → Option Value} {base : Heap} {f : Addr} (E : Ev K mg) (h_as_tuples : Dn P w K mg base "as_tuples" 7 1 (F4 6)) : BodyIs P w K mg base N18 "Straight.__init__" (defScope s18) f 7 (defBody s18) m18 := by
  rintro X W b ⟨cdv, A, outer, s, H, E', rfl⟩ eK em o tk hp
  exact (ss_one (s_self 0 o E.ct (pe_fn h_as_tuples o tk (pa_c (pe_v 1) pa_n))))
/-! Fault.__init__ -/
abbrev N21 : List Str := ["self", "one", "other", "how"]
def m21 : M Fl := (evSeq (evSelf ct 0 "one" (evCall (F4 6) (evN 1 (evCons (evVar 1) evNil)))) (evSeq (evSelf ct 0 "other" (evCall (F4 6) (evN 1 (evCons (evVar 2) evNil)))) (evSelf ct 0 "how" (evCall (F4 6) (evN 1 (evCons (evVar 3) evNil))))))
def F21 : Mo → List D → Option (DRes × Mo) := runN 4 m21
theorem b21 {P : Program} {w : World} {K : PySem.W.Frag} {mg : Str → Option Value} {base : Heap} {f : Addr} (E : Ev K mg) (h_as_tuples : Dn P w K mg base "as_tuples" 7 1 (F4 6)) : BodyIs P w K mg base N21 "Fault.__init__" (defScope s21) f 7 (defBody s21) m21 := by
  rintro X W b ⟨cdv, A, outer, s, H, E', rfl⟩ eK em o tk hp
  exact (ss_cons (s_self 0 o E.ct (pe_fn h_as_tuples o tk (pa_c (pe_v 1) pa_n))) (ss_cons (s_self 0 o E.ct (pe_fn h_as_tuples o tk (pa_c (pe_v 2) pa_n))) (ss_one (s_self 0 o E.ct (pe_fn h_as_tuples o tk (pa_c (pe_v 3) pa_n))))))
/-! first_fault -/
abbrev N36 : List Str := ["corners", "at", "sides", "one", "other", "how"]
def m36 : M Fl := (evSeq (evFor (evRng rngR1 (evCons (evB lenD (evCons (evVar 0) evNil)) evNil)) (tgN 1) (evIf (evBl (evBin eqD (evCall F33 (evN 2 (evCons (evVar 0) (evCons (evVar 1) evNil)))) (evC (.int 0)))) (evRet (evMake "Straight" F18 (evN 1 (evCons (evVar 1) evNil)))) evSkip)) (evSeq (evAsg 2 (evCall F30 (evN 1 (evCons (evVar 0) evNil)))) (evSeq (evFor (evRng rngR1 (evCons (evB lenD (evCons (evVar 2) evNil)) evNil)) (tgN 3) (evFor (evRng rngR2 (evCons (evBin addD (evVar 3) (evC (.int 1))) (evCons (evB lenD (evCons (evVar 2) evNil)) evNil))) (tgN 4) (evSeq (evAsg 5 (evCall F35 (evN 3 (evCons (evVar 2) (evCons (evVar 3) (evCons (evVar 4) evNil)))))) (evIf (evBl (evBin isntD (evVar 5) (evC .non))) (evRet (evMake "Fault" F21 (evN 3 (evCons (evVar 3) (evCons (evVar 4) (evCons (evVar 5) evNil)))))) evSkip)))) (evRet (evC .non)))))
def F36 : List D → Option DRes := runD 6 m36
theorem b36 {P : Program} {w : World} {K : PySem.W.Frag} {mg : Str → Option Value} {base : Heap} {f : Addr} (E : Ev K mg) (h_Fault : DnC P w K mg base "Fault" 8 3 F21) (h_is_fault : Dn P w K mg base "is_fault" 5 3 F35) (h_sides_by : Dn P w K mg base "sides_by" 1 1 F30) (h_turn_at : Dn P w K mg base "turn_at" 3 2 F33) (h_Straight : DnC P w K mg base "Straight" 8 1 F18) : BodyIs P w K mg base N36 "first_fault" (defScope s36) f 9 (defBody s36) m36 := by
  rintro X W b ⟨cdv, A, outer, s, H, E', rfl⟩ eK em o tk hp
  exact (ss_cons (s_for o hp (pi_rng1 rfl E.bi.range (pa_c (pe_len o E.bi (pa_c (pe_v 0) pa_n)) pa_n)) (pg_n 1 o) (ss_one (s_if (pt_c (cm_eq o) (pe_fn h_turn_at o tk (pa_c (pe_v 0) (pa_c (pe_v 1) pa_n))) pe_ci) (ss_one (s_ret (pe_mk h_Straight o tk (pa_c (pe_v 1) pa_n)))) ss_nil))) (ss_cons (s_set 2 o (pe_fn h_sides_by o tk (pa_c (pe_v 0) pa_n))) (ss_cons (s_for o hp (pi_rng1 rfl E.bi.range (pa_c (pe_len o E.bi (pa_c (pe_v 2) pa_n)) pa_n)) (pg_n 3 o) (ss_one (s_for o hp (pi_rng2 rfl E.bi.range (pa_c (pe_add' o (pe_v 3) pe_ci) (pa_c (pe_len o E.bi (pa_c (pe_v 2) pa_n)) pa_n))) (pg_n 4 o) (ss_cons (s_set 5 o (pe_fn h_is_fault o tk (pa_c (pe_v 2) (pa_c (pe_v 3) (pa_c (pe_v 4) pa_n))))) (ss_one (s_if (pt_c (cm_isnt o) (pe_v 5) pe_cn) (ss_one (s_ret (pe_mk h_Fault o tk (pa_c (pe_v 3) (pa_c (pe_v 4) (pa_c (pe_v 5) pa_n)))))) ss_nil)))))) (ss_one (s_ret pe_cn)))))
/-! Field.__init__ -/
abbrev N24 : List Str := ["self", "corners", "known", "paper"]
def m24 : M Fl := (evSeq (evAsg 2 (evCall F29 (evN 1 (evCons (evVar 1) evNil)))) (evSeq (evAsg 3 (evCall F36 (evN 1 (evCons (evVar 2) evNil)))) (evSeq (evIf (evBl (evBin isntD (evVar 3) (evC .non))) evNo evSkip) (evSelf ct 0 "corners" (evCall F32 (evN 1 (evCons (evVar 2) evNil)))))))
def F24 : Mo → List D → Option (DRes × Mo) := runN 4 m24
theorem b24 {P : Program} {w : World} {K : PySem.W.Frag} {mg : Str → Option Value} {base : Heap} {f : Addr} (E : Ev K mg) (h_led_round : Dn P w K mg base "led_round" 3 1 F32) (h_first_fault : Dn P w K mg base "first_fault" 10 1 F36) (h_need_ring : Dn P w K mg base "need_ring" 4 1 F29) : BodyIs P w K mg base N24 "Field.__init__" (defScope s24) f 10 (defBody s24) m24 := by
  rintro X W b ⟨cdv, A, outer, s, H, E', rfl⟩ eK em o tk hp
  exact (ss_cons (s_set 2 o (pe_fn h_need_ring o tk (pa_c (pe_v 1) pa_n))) (ss_cons (s_set 3 o (pe_fn h_first_fault o tk (pa_c (pe_v 2) pa_n))) (ss_cons (s_if (pt_c (cm_isnt o) (pe_v 3) pe_cn) (ss_one s_no) ss_nil) (ss_one (s_self 0 o E.ct (pe_fn h_led_round o tk (pa_c (pe_v 2) pa_n)))))))
/-! fault_of -/
abbrev N37 : List Str := ["corners"]
def m37 : M Fl := (evRet (evCall F36 (evN 1 (evCons (evCall F29 (evN 1 (evCons (evVar 0) evNil))) evNil))))
def F37 : List D → Option DRes := runD 1 m37
theorem b37 {P : Program} {w : World} {K : PySem.W.Frag} {mg : Str → Option Value} {base : Heap} {f : Addr} (E : Ev K mg) (h_need_ring : Dn P w K mg base "need_ring" 4 1 F29) (h_first_fault : Dn P w K mg base "first_fault" 10 1 F36) : BodyIs P w K mg base N37 "fault_of" (defScope s37) f 10 (defBody s37) m37 := by
  rintro X W b ⟨cdv, A, outer, s, H, E', rfl⟩ eK em o tk hp
  exact (ss_one (s_ret (pe_fn h_first_fault o tk (pa_c (pe_fn h_need_ring o tk (pa_c (pe_v 0) pa_n)) pa_n))))
def Tne : OTab := [("Straight", F20), ("Fault", F23), ("Field", F26)]
/-! law -/
abbrev N60 : List Str := ["script", "pen", "many", "high", "x", "y", "row", "tooth", "comb", "saw", "bowl", "ring", "at", "told", "a", "b"]
def m60 : M Fl := (evSeq (evPar2 2 3 (evBin addD (evC (.int 2)) (evCallN F48 (evN 2 (evCons (evVar 1) (evCons (evC (.int 6)) evNil))))) (evBin addD (evC (.int 2)) (evCallN F48 (evN 2 (evCons (evVar 1) (evCons (evC (.int 9)) evNil)))))) (evSeq (evAsgT (tgTup 2 (tgCons (tgN 4) (tgCons (tgN 5) tgNil))) (evCallN F56 (evN 2 (evCons (evVar 1) (evCons (evC (.int 50)) evNil))))) (evSeq (evAsg 6 (evLst (evCons (evTup (evCons (evC (.int 0)) (evCons (evC (.int 0)) evNil))) (evCons (evTup (evCons (evBin mulD (evC (.int 4)) (evVar 2)) (evCons (evC (.int 0)) evNil))) evNil)))) (evSeq (evFor (evRng rngR3 (evCons (evBin (intD gSub) (evVar 2) (evC (.int 1))) (evCons (evUn negD (evC (.int 1))) (evCons (evUn negD (evC (.int 1))) evNil)))) (tgN 7) (evAsg 6 (evBin addD (evBin addD (evVar 6) (evLst (evCons (evTup (evCons (evBin addD (evBin mulD (evC (.int 4)) (evVar 7)) (evC (.int 4))) (evCons (evIf (evBl (evOwn Teq csL eqD (evVar 7) (evBin (intD gSub) (evVar 2) (evC (.int 1))))) (evBin addD (evVar 3) (evC (.int 1))) (evVar 3)) evNil))) (evCons (evTup (evCons (evBin addD (evBin mulD (evC (.int 4)) (evVar 7)) (evC (.int 2))) (evCons (evVar 3) evNil))) evNil)))) (evIf (evBl (evBin gtD (evVar 7) (evC (.int 0)))) (evLst (evCons (evTup (evCons (evBin addD (evBin mulD (evC (.int 4)) (evVar 7)) (evC (.int 2))) (evCons (evC (.int 1)) evNil))) (evCons (evTup (evCons (evBin mulD (evC (.int 4)) (evVar 7)) (evCons (evC (.int 1)) evNil))) evNil))) (evLst evNil))))) (evSeq (evAsg 8 (evMake "Field" F24 (evN 1 (evCons (evComp [14, 15] (evSq (evBin addD (evSlice (evVar 6) (M.ret none) (evPart (evUn negD (evC (.int 1))))) (evLst (evCons (evTup (evCons (evC (.int 0)) (evCons (evVar 3) evNil))) evNil)))) (tgTup 2 (tgCons (tgN 14) (tgCons (tgN 15) tgNil))) (M.ret true) (evTup (evCons (evBin addD (evVar 4) (evVar 14)) (evCons (evBin addD (evVar 5) (evVar 15)) evNil)))) evNil)))) (evSeq (evIf (evOrT (evBl (evOwn Tne csL neD (evB lenD (evCons (evCall F39 (evN 1 (evCons (evVar 8) evNil))) evNil)) (evBin mulD (evC (.int 2)) (evBin (intD gSub) (evVar 2) (evC (.int 1)))))) (evOrT (evBl (evOwn Tne csL neD (evCall F40 (evN 1 (evCons (evVar 8) evNil))) (evBin eqD (evVar 2) (evC (.int 1))))) (evNotT (evTru (evCall (F49 6) (evN 2 (evCons (evCall F46 (evN 1 (evCons (evFld ct "corners" (evVar 8)) evNil))) (evCons (evC (.int 1)) evNil)))))))) (evRet (evC (.bl false))) evSkip) (evSeq (evAsg 9 (evLst (evCons (evTup (evCons (evC (.int 0)) (evCons (evC (.int 0)) evNil))) (evCons (evTup (evCons (evBin mulD (evC (.int 2)) (evVar 2)) (evCons (evC (.int 0)) evNil))) evNil)))) (evSeq (evFor (evRng rngR3 (evCons (evBin (intD gSub) (evVar 2) (evC (.int 1))) (evCons (evC (.int 0)) (evCons (evUn negD (evC (.int 1))) evNil)))) (tgN 7) (evAsg 9 (evBin addD (evVar 9) (evLst (evCons (evTup (evCons (evBin addD (evBin mulD (evC (.int 2)) (evVar 7)) (evC (.int 1))) (evCons (evBin addD (evVar 3) (evVar 7)) evNil))) (evCons (evTup (evCons (evBin mulD (evC (.int 2)) (evVar 7)) (evCons (evC (.int 1)) evNil))) evNil)))))) (evSeq (evAsg 9 (evMake "Field" F24 (evN 1 (evCons (evComp [14, 15] (evSq (evBin addD (evVar 9) (evLst (evCons (evTup (evCons (evC (.int 1)) (evCons (evVar 3) evNil))) evNil)))) (tgTup 2 (tgCons (tgN 14) (tgCons (tgN 15) tgNil))) (M.ret true) (evTup (evCons (evBin addD (evVar 4) (evVar 14)) (evCons (evBin addD (evVar 5) (evVar 15)) evNil)))) evNil)))) (evSeq (evIf (evOrT (evBl (evOwn Tne csL neD (evB lenD (evCons (evCall F39 (evN 1 (evCons (evVar 9) evNil))) evNil)) (evBin (intD gSub) (evVar 2) (evC (.int 1))))) (evBl (evOwn Tne csL neD (evBin isD (evCall F41 (evN 1 (evCons (evVar 9) evNil))) (evC .non)) (evBin eqD (evVar 2) (evC (.int 1)))))) (evRet (evC (.bl false))) evSkip) (evSeq (evAsg 10 (evMake "Field" F24 (evN 1 (evCons (evComp [12] (evRng rngR2 (evCons (evUn negD (evVar 2)) (evCons (evBin addD (evVar 2) (evC (.int 1))) evNil))) (tgN 12) (M.ret true) (evTup (evCons (evBin addD (evVar 4) (evVar 12)) (evCons (evBin addD (evVar 5) (evBin mulD (evVar 12) (evVar 12))) evNil)))) evNil)))) (evSeq (evIf (evOrT (evNotT (evTru (evCall F40 (evN 1 (evCons (evVar 10) evNil))))) (evOrT (evBl (evBin isntD (evCall F41 (evN 1 (evCons (evVar 10) evNil))) (evC .non))) (evOrT (evNotT (evTru (evCall F43 (evN 2 (evCons (evVar 10) (evCons (evTup (evCons (evVar 4) (evCons (evBin addD (evVar 5) (evBin mulD (evVar 2) (evVar 2))) evNil))) evNil)))))) (evTru (evCall F43 (evN 2 (evCons (evVar 10) (evCons (evTup (evCons (evVar 4) (evCons (evBin addD (evVar 5) (evC (.int 1))) evNil))) evNil)))))))) (evRet (evC (.bl false))) evSkip) (evSeq (evAsg 11 (evComp [12] (evRng rngR2 (evCons (evUn negD (evVar 2)) (evCons (evBin addD (evVar 2) (evC (.int 1))) evNil))) (tgN 12) (M.ret true) (evTup (evCons (evVar 12) (evCons (evBin mulD (evVar 12) (evVar 12)) evNil))))) (evSeq (evAsg 12 (evCallN F48 (evN 2 (evCons (evVar 1) (evCons (evBin mulD (evC (.int 2)) (evVar 2)) evNil))))) (evSeq (evSwp 11 (evVar 12) (evBin addD (evVar 12) (evC (.int 1))) (evTup (evCons (evBin ixD (evVar 11) (evBin addD (evVar 12) (evC (.int 1)))) (evCons (evBin ixD (evVar 11) (evVar 12)) evNil)))) (evSeq (evAsg 13 (evCall F37 (evN 1 (evCons (evVar 11) evNil)))) (evSeq (evIf (evOrT (evNotT (evTru (evUn (isiD csL (.ob "Fault")) (evVar 13)))) (evNotT (evTru (evCall (F49 6) (evN 2 (evCons (evTup (evCons (evFld ct "one" (evVar 13)) (evCons (evFld ct "other" (evVar 13)) (evCons (evFld ct "how" (evVar 13)) evNil)))) (evCons (evSlice (evCall F59 (evN 1 (evCons (evB tupD (evCons (evVar 11) evNil)) evNil))) (evPart (evC (.int 1))) (M.ret none)) evNil))))))) (evRet (evC (.bl false))) evSkip) (evRet (evCall (F49 6) (evN 2 (evCons (evFld ct "corners" (evMake "Field" F24 (evN 1 (evCons (evTup (evCons (evTup (evCons (evC (.int 3)) (evCons (evC (.int 3)) evNil))) (evCons (evTup (evCons (evC (.int 0)) (evCons (evC (.int 3)) evNil))) (evCons (evTup (evCons (evC (.int 0)) (evCons (evC (.int 0)) evNil))) (evCons (evTup (evCons (evC (.int 3)) (evCons (evC (.int 0)) evNil))) evNil))))) evNil)))) (evCons (evTup (evCons (evTup (evCons (evC (.int 0)) (evCons (evC (.int 0)) evNil))) (evCons (evTup (evCons (evC (.int 3)) (evCons (evC (.int 0)) evNil))) (evCons (evTup (evCons (evC (.int 3)) (evCons (evC (.int 3)) evNil))) (evCons (evTup (evCons (evC (.int 0)) (evCons (evC (.int 3)) evNil))) evNil))))) evNil))))))))))))))))))))))
theorem b60 {P : Program} {w : World} {K : PySem.W.Frag} {mg : Str → Option Value} {base : Heap} {f : Addr} (E : Ev K mg) (h_Field : DnC P w K mg base "Field" 11 1 F24) (h__law_is : Dn P w K mg base "_law_is" 7 2 (F49 6)) (h__law_first_fault : Dn P w K mg base "_law_first_fault" 5 1 F59) (h_fault_of : Dn P w K mg base "fault_of" 11 1 F37) (h__law_draw : DnN P w K mg base "_law_draw" 1 1 F48) (h_is_convex : Dn P w K mg base "is_convex" 6 1 F40) (h_beyond_side : Dn P w K mg base "beyond_side" 3 1 F41) (h_on_border : Dn P w K mg base "on_border" 5 2 F43) (h_bays : Dn P w K mg base "bays" 5 1 F39) (h_turnings : Dn P w K mg base "turnings" 5 1 F46) (h__law_drawn_point : DnN P w K mg base "_law_drawn_point" 2 1 F56) (oeq : OpT P w K mg base "__eq__" 2 Teq) (one : OpT P w K mg base "__ne__" 3 Tne) : BodyIs P w K mg base N60 "law" (defScope s60) f 12 ((defBody s60).tail) m60 := by
  rintro X W b ⟨cdv, A, outer, s, H, E', rfl⟩ eK em o tk hp
  obtain ⟨_, gf_Fault⟩ := E.v_Fault
  exact (ss_cons (s_par2 2 3 o (pe_add' o pe_ci (pe_fnN h__law_draw o tk (pa_c (pe_v 1) (pa_c pe_ci pa_n)))) (pe_add' o pe_ci (pe_fnN h__law_draw o tk (pa_c (pe_v 1) (pa_c pe_ci pa_n))))) (ss_cons (s_asgT (pe_fnN h__law_drawn_point o tk (pa_c (pe_v 1) (pa_c pe_ci pa_n))) (pg_t o (pgs_c (pg_n 4 o) (pgs_c (pg_n 5 o) pgs_n)))) (ss_cons (s_set 6 o (pe_lstM (pa_c (pe_tupM (pa_c pe_ci (pa_c pe_ci pa_n))) (pa_c (pe_tupM (pa_c (pe_mul' o pe_ci (pe_v 2)) (pa_c pe_ci pa_n))) pa_n)))) (ss_cons (s_for o hp (pi_rng3 rfl E.bi.range (pa_c (pe_sub' (pe_v 2) pe_ci) (pa_c (pe_neg' pe_ci) (pa_c (pe_neg' pe_ci) pa_n)))) (pg_n 7 o) (ss_one (s_set 6 o (pe_add' o (pe_add' o (pe_v 6) (pe_lstM (pa_c (pe_tupM (pa_c (pe_add' o (pe_mul' o pe_ci (pe_v 7)) pe_ci) (pa_c (pe_ifM (pt_eqO o E.kt oeq (pe_v 7) (pe_sub' (pe_v 2) pe_ci)) (pe_add' o (pe_v 3) pe_ci) (pe_v 3)) pa_n))) (pa_c (pe_tupM (pa_c (pe_add' o (pe_mul' o pe_ci (pe_v 7)) pe_ci) (pa_c (pe_v 3) pa_n))) pa_n)))) (pe_ifM (pt_c (cm_gt o) (pe_v 7) pe_ci) (pe_lstM (pa_c (pe_tupM (pa_c (pe_add' o (pe_mul' o pe_ci (pe_v 7)) pe_ci) (pa_c pe_ci pa_n))) (pa_c (pe_tupM (pa_c (pe_mul' o pe_ci (pe_v 7)) (pa_c pe_ci pa_n))) pa_n))) (pe_lstM pa_n)))))) (ss_cons (s_set 8 o (pe_mk h_Field o tk (pa_c (pe_lcM o (own := [("a", 14), ("b", 15)]) (pi_sqM o (pe_add' o (pe_sl' o (pe_v 6) po_n (po_s (pe_neg' pe_ci))) (pe_lstM (pa_c (pe_tupM (pa_c pe_ci (pa_c (pe_v 3) pa_n))) pa_n)))) (blkOk_by rfl) (by decide) (fun s H C cl fp o => (pg_t o (pgs_c (pg_n 14 o) (pgs_c (pg_n 15 o) pgs_n)))) (fun s H C cl fp o => pts_n) (fun s H C cl fp o => (pe_tupM (pa_c (pe_add' o (pe_v 4) (pe_v 14)) (pa_c (pe_add' o (pe_v 5) (pe_v 15)) pa_n))))) pa_n))) (ss_cons (s_if (PW.pt (pw_orM (pt_neO o E.kt one (pe_len o E.bi (pa_c (pe_fn h_bays o tk (pa_c (pe_v 8) pa_n)) pa_n)) (pe_mul' o pe_ci (pe_sub' (pe_v 2) pe_ci))) (pw_orM (pt_neO o E.kt one (pe_fn h_is_convex o tk (pa_c (pe_v 8) pa_n)) (pe_c (cm_eq o) (pe_v 2) pe_ci)) (pw_or1M (pt_notM (pt_tru o (pe_fn h__law_is o tk (pa_c (pe_fn h_turnings o tk (pa_c (pe_fldM o E.ct (pe_v 8)) pa_n)) (pa_c pe_ci pa_n))))))))) (ss_one (s_ret pe_cb)) ss_nil) (ss_cons (s_set 9 o (pe_lstM (pa_c (pe_tupM (pa_c pe_ci (pa_c pe_ci pa_n))) (pa_c (pe_tupM (pa_c (pe_mul' o pe_ci (pe_v 2)) (pa_c pe_ci pa_n))) pa_n)))) (ss_cons (s_for o hp (pi_rng3 rfl E.bi.range (pa_c (pe_sub' (pe_v 2) pe_ci) (pa_c pe_ci (pa_c (pe_neg' pe_ci) pa_n)))) (pg_n 7 o) (ss_one (s_set 9 o (pe_add' o (pe_v 9) (pe_lstM (pa_c (pe_tupM (pa_c (pe_add' o (pe_mul' o pe_ci (pe_v 7)) pe_ci) (pa_c (pe_add' o (pe_v 3) (pe_v 7)) pa_n))) (pa_c (pe_tupM (pa_c (pe_mul' o pe_ci (pe_v 7)) (pa_c pe_ci pa_n))) pa_n))))))) (ss_cons (s_set 9 o (pe_mk h_Field o tk (pa_c (pe_lcM o (own := [("a", 14), ("b", 15)]) (pi_sqM o (pe_add' o (pe_v 9) (pe_lstM (pa_c (pe_tupM (pa_c pe_ci (pa_c (pe_v 3) pa_n))) pa_n)))) (blkOk_by rfl) (by decide) (fun s H C cl fp o => (pg_t o (pgs_c (pg_n 14 o) (pgs_c (pg_n 15 o) pgs_n)))) (fun s H C cl fp o => pts_n) (fun s H C cl fp o => (pe_tupM (pa_c (pe_add' o (pe_v 4) (pe_v 14)) (pa_c (pe_add' o (pe_v 5) (pe_v 15)) pa_n))))) pa_n))) (ss_cons (s_if (PW.pt (pw_orM (pt_neO o E.kt one (pe_len o E.bi (pa_c (pe_fn h_bays o tk (pa_c (pe_v 9) pa_n)) pa_n)) (pe_sub' (pe_v 2) pe_ci)) (pw_or1M (pt_neO o E.kt one (pe_c (cm_is o) (pe_fn h_beyond_side o tk (pa_c (pe_v 9) pa_n)) pe_cn) (pe_c (cm_eq o) (pe_v 2) pe_ci))))) (ss_one (s_ret pe_cb)) ss_nil) (ss_cons (s_set 10 o (pe_mk h_Field o tk (pa_c (pe_lcM o (own := [("at", 12)]) (pi_rng2 rfl E.bi.range (pa_c (pe_neg' (pe_v 2)) (pa_c (pe_add' o (pe_v 2) pe_ci) pa_n))) (blkOk_by rfl) (by decide) (fun s H C cl fp o => (pg_n 12 o)) (fun s H C cl fp o => pts_n) (fun s H C cl fp o => (pe_tupM (pa_c (pe_add' o (pe_v 4) (pe_v 12)) (pa_c (pe_add' o (pe_v 5) (pe_mul' o (pe_v 12) (pe_v 12))) pa_n))))) pa_n))) (ss_cons (s_if (PW.pt (pw_orM (pt_notM (pt_tru o (pe_fn h_is_convex o tk (pa_c (pe_v 10) pa_n)))) (pw_orM (pt_c (cm_isnt o) (pe_fn h_beyond_side o tk (pa_c (pe_v 10) pa_n)) pe_cn) (pw_orM (pt_notM (pt_tru o (pe_fn h_on_border o tk (pa_c (pe_v 10) (pa_c (pe_tupM (pa_c (pe_v 4) (pa_c (pe_add' o (pe_v 5) (pe_mul' o (pe_v 2) (pe_v 2))) pa_n))) pa_n))))) (pw_or1M (pt_tru o (pe_fn h_on_border o tk (pa_c (pe_v 10) (pa_c (pe_tupM (pa_c (pe_v 4) (pa_c (pe_add' o (pe_v 5) pe_ci) pa_n))) pa_n))))))))) (ss_one (s_ret pe_cb)) ss_nil) (ss_cons (s_setLc (i := 11) o (own := [("at", 12)]) (pi_rng2 rfl E.bi.range (pa_c (pe_neg' (pe_v 2)) (pa_c (pe_add' o (pe_v 2) pe_ci) pa_n))) (blkOk_by rfl) (by decide) (fun s H C cl fp o => (pg_n 12 o)) (fun s H C cl fp o => pts_n) (fun s H C cl fp o => (pe_tupM (pa_c (pe_v 12) (pa_c (pe_mul' o (pe_v 12) (pe_v 12)) pa_n))))) (ss_cons (s_set 12 o (pe_fnN h__law_draw o tk (pa_c (pe_v 1) (pa_c (pe_mul' o pe_ci (pe_v 2)) pa_n)))) (ss_cons (s_swp 11 o (pe_tupM (pa_c (pe_ix' o (pe_v 11) (pe_add' o (pe_v 12) pe_ci)) (pa_c (pe_ix' o (pe_v 11) (pe_v 12)) pa_n))) (pe_v 12) (pe_add' o (pe_v 12) pe_ci)) (ss_cons (s_set 13 o (pe_fn h_fault_of o tk (pa_c (pe_v 11) pa_n))) (ss_cons (s_if (PW.pt (pw_orM (pt_notM (pt_tru o (pe_isi o E.kt (pe_v 13) (clx_own gf_Fault) E.bi.isinstance))) (pw_or1M (pt_notM (pt_tru o (pe_fn h__law_is o tk (pa_c (pe_tupM (pa_c (pe_fldM o E.ct (pe_v 13)) (pa_c (pe_fldM o E.ct (pe_v 13)) (pa_c (pe_fldM o E.ct (pe_v 13)) pa_n)))) (pa_c (pe_sl' o (pe_fn h__law_first_fault o tk (pa_c (pe_tuple o E.bi (pa_c (pe_v 11) pa_n)) pa_n)) (po_s pe_ci) po_n) pa_n)))))))) (ss_one (s_ret pe_cb)) ss_nil) (ss_one (s_ret (pe_fn h__law_is o tk (pa_c (pe_fldM o E.ct (pe_mk h_Field o tk (pa_c (pe_tupM (pa_c (pe_tupM (pa_c pe_ci (pa_c pe_ci pa_n))) (pa_c (pe_tupM (pa_c pe_ci (pa_c pe_ci pa_n))) (pa_c (pe_tupM (pa_c pe_ci (pa_c pe_ci pa_n))) (pa_c (pe_tupM (pa_c pe_ci (pa_c pe_ci pa_n))) pa_n))))) pa_n))) (pa_c (pe_tupM (pa_c (pe_tupM (pa_c pe_ci (pa_c pe_ci pa_n))) (pa_c (pe_tupM (pa_c pe_ci (pa_c pe_ci pa_n))) (pa_c (pe_tupM (pa_c pe_ci (pa_c pe_ci pa_n))) (pa_c (pe_tupM (pa_c pe_ci (pa_c pe_ci pa_n))) pa_n))))) pa_n))))))))))))))))))))))

end
end Lw
end Mc
end
section
set_option Elab.async false
set_option linter.all false
set_option maxRecDepth 100000
set_option maxHeartbeats 4000000
set_option autoImplicit false
namespace Mc
open PySem PySem.Spec L2
theorem ho_evStar {fa : M R} {fr : M (List R)} {ρ : ES} {Q : List R → ES → Prop} : Ho (evStar fa fr ρ) Q = Ho (evSq fa ρ) fun ds ρ1 => Ho (fr ρ1) fun rs ρ2 => Q (ds.map R.va ++ rs) ρ2 := by
  unfold evStar
  simp only [ho_bnd, ho_ret]
namespace Lw
theorem v_subT {a b : Bool} : subT (.bl a) (.bl b) = some (.va (.int ((if a = true then 1 else 0) - (if b = true then 1 else 0)))) := rfl
theorem v_gcd3 {a b c : Int} : gcd3D [.int a, .int b, .int c] = some (.va (.int (((Nat.gcd a.natAbs b.natAbs).gcd c.natAbs : Nat) : Int))) := rfl
theorem v_fdiv {i j : Int} (h : j ≠ 0) (h' : j.natAbs < 1073741824) : intD gDivN (.int i) (.int j) = some (.va (.int (i.fdiv j))) := by
  simp only [intD, gDivN, h, h', ne_eq, not_false_eq_true, and_self, if_true, Option.map]
theorem cross_ok {a b c : Pt} (ha : Sm a) (hb : Sm b) : F9 [pt a, pt b, pt c] = some (.va (.int (crs a b c))) := by
  obtain ⟨a1, a2, a3, a4⟩ := ha
  obtain ⟨b1, b2, b3, b4⟩ := hb
  refine runD_eq ?_
  show Ho (m9 [.va (pt a), .va (pt b), .va (pt c)]) _
  unfold m9 pt
  simp only [↓hos, ↓gz, ↓List.getElem?_cons_succ, at0, at1, Option.map, v_mul (sm_l (j := c.2 - a.2) (show -1000000 ≤ b.1 - a.1 by omega) (by omega)), v_mul (sm_l (j := c.1 - a.1) (show -1000000 ≤ b.2 - a.2 by omega) (by omega))]
  rfl
theorem whole_int {i : Int} : F3 [.int i] = some (.va (.bl true)) := by with_unfolding_all rfl
theorem point_is {a : Pt} : F6 [pt a] = some (.va (.bl true)) := by with_unfolding_all rfl
theorem need_pt {a : Pt} {x : Str} : F8 [.str x, pt a] = some (.va (pt a)) := by with_unfolding_all rfl
theorem sign_ok {i : Int} : F5 [.int i] = some (.va (.int (sg i))) := by
  refine runD_eq ?_
  show Ho (m5 [.va (.int i)]) _
  unfold m5 sg
  simp only [↓hos, ↓gz, v_subT]
  rcases (show 0 < i ∨ i = 0 ∨ i < 0 by omega) with h | h | h
  · have h' : ¬ i < 0 := by omega
    simp [h, h', flR]
  · subst h
    simp [flR]
  · have h' : ¬ 0 < i := by omega
    simp [h, h', flR]
theorem turn_ok {a b c : Pt} (ha : Sm a) (hb : Sm b) : F10 [pt a, pt b, pt c] = some (.va (.int (sg (crs a b c)))) := by
  refine runD_eq ?_
  show Ho (m10 [.va (pt a), .va (pt b), .va (pt c)]) _
  unfold m10
  simp only [↓hos, ↓gz, ↓List.getElem?_cons_succ, cross_ok ha hb, sign_ok, ↓resH_same]
  exact ⟨rfl, rfl, rfl⟩
theorem btw_ok {a b c : Pt} (ha : Sm a) (hb : Sm b) : F11 [pt a, pt b, pt c] = some (.va (.bl (btw a b c))) := by
  refine runD_eq ?_
  show Ho (m11 [.va (pt a), .va (pt b), .va (pt c)]) _
  unfold m11
  by_cases h : crs a b c = 0
  · refine seq_i (fun ρ => ρ = [.va (pt a), .va (pt b), .va (pt c)]) ?_ fun ρ e => ?_
    · refine if_f ?_ rfl
      simp only [↓hos, ↓gz, ↓List.getElem?_cons_succ, cross_ok ha hb, ↓resH_same, h, decide_true]
      exact ⟨rfl, rfl, trivial⟩
    · subst e
      simp only [↓hos, ↓gz, ↓List.getElem?_cons_succ, mn2, mx2, leD_pt]
      unfold btw
      rw [decide_eq_true h, Bool.true_and]
      cases llt c (lmn a b) with
      | true => rfl
      | false => rfl
  · refine seq_i (fun ρ => False) ?_ fun ρ e => e.elim
    refine if_t ?_ ?_
    · simp only [↓hos, ↓gz, ↓List.getElem?_cons_succ, cross_ok ha hb, ↓resH_same, h, decide_false]
      exact ⟨rfl, rfl, trivial⟩
    · simp only [↓hos]
      unfold btw
      rw [decide_eq_false h]
      rfl
theorem gcd_pos {x y d : Int} (hd : d ≠ 0) : 0 < (Nat.gcd x.natAbs y.natAbs).gcd d.natAbs ∧ (Nat.gcd x.natAbs y.natAbs).gcd d.natAbs ≤ d.natAbs := by
  have h : 0 < d.natAbs := by omega
  exact ⟨Nat.gcd_pos_of_pos_right _ h, Nat.le_of_dvd h (Nat.gcd_dvd_right _ _)⟩
theorem spot_ok {x y d : Int} (hd : d ≠ 0) (hb : d.natAbs < 1073741824) : F12 [.int x, .int y, .int d] = some (.va (spt x y d).d) := by
  obtain ⟨g1, g2⟩ := gcd_pos (x := x) (y := y) hd
  refine runD_eq ?_
  show Ho (m12 [.va (.int x), .va (.int y), .va (.int d), .no]) _
  unfold m12 spt
  refine seq_i (fun ρ => ρ = [.va (.int x), .va (.int y), .va (.int d), .va (.int (((Nat.gcd x.natAbs y.natAbs).gcd d.natAbs : Nat) : Int))]) ?_ fun ρ e => ?_
  · simp only [↓hos, ↓gz, ↓List.getElem?_cons_succ, v_gcd3]
    exact ⟨lt_ok rfl, rfl⟩
  subst e
  generalize (Nat.gcd x.natAbs y.natAbs).gcd d.natAbs = g at g1 g2
  refine seq_i (fun ρ => ρ = [.va (.int x), .va (.int y), .va (.int d), .va (.int (if d < 0 then -(g : Int) else g))]) ?_ fun ρ e => ?_
  · by_cases h : d < 0
    · simp only [↓hos, ↓gz, ↓List.getElem?_cons_succ, h, decide_true, if_true]
      exact ⟨lt_ok rfl, rfl⟩
    · simp only [↓hos, ↓gz, ↓List.getElem?_cons_succ, h, decide_false, Bool.false_eq_true, if_false]
      exact ⟨lt_ok rfl, rfl⟩
  subst e
  have q : (if d < 0 then -(g : Int) else g) ≠ 0 ∧ (if d < 0 then -(g : Int) else g).natAbs < 1073741824 := by
    split <;> omega
  simp only [↓hos, ↓gz, ↓List.getElem?_cons_succ, v_fdiv q.1 q.2]
  exact ⟨rfl, rfl⟩
/-! ### what two sides have in common -/
def SmS (s : Sd) : Prop := Sm s.1 ∧ Sm s.2
theorem crs_bd {a b c : Pt} (ha : Sm a) (hb : Sm b) (hc : Sm c) : Bd 8000000 (crs a b c) := by
  obtain ⟨a1, a2, a3, a4⟩ := ha
  obtain ⟨b1, b2, b3, b4⟩ := hb
  obtain ⟨c1, c2, c3, c4⟩ := hc
  have h1 : Bd 2000 (b.1 - a.1) := bd_of (by omega) (by omega)
  have h2 : Bd 2000 (c.2 - a.2) := bd_of (by omega) (by omega)
  have h3 : Bd 2000 (b.2 - a.2) := bd_of (by omega) (by omega)
  have h4 : Bd 2000 (c.1 - a.1) := bd_of (by omega) (by omega)
  have m1 := h1.mul h2
  have m2 := h3.mul h4
  unfold crs
  have := m1.add m2.neg
  unfold Bd at *
  omega
theorem sd_at0 {s : Sd} : ixD (sd s) (.int 0) = some (.va (pt s.1)) := rfl
theorem sd_at1 {s : Sd} : ixD (sd s) (.int 1) = some (.va (pt s.2)) := rfl
theorem pt_at0 {a : Pt} : ixD (pt a) (.int 0) = some (.va (.int a.1)) := rfl
theorem pt_at1 {a : Pt} : ixD (pt a) (.int 1) = some (.va (.int a.2)) := rfl
theorem ne_ptD {a b : Pt} : neD (pt a) (pt b) = some (.va (.bl (!decide (a = b)))) := by
  unfold neD eqB
  rw [py_pt, py_pt]
  simp only [sh_pt, Bool.and_self, if_true, eqv_pt, Option.map]
theorem line_ok {s t : Sd} (hs : SmS s) : F14 [sd s, sd t] = some (.va (.bl (decide (crs s.1 s.2 t.1 = 0 ∧ crs s.1 s.2 t.2 = 0)))) := by
  refine runD_eq ?_
  show Ho (m14 [.va (sd s), .va (sd t)]) _
  unfold m14
  simp only [↓hos, ↓gz, ↓List.getElem?_cons_succ, sd_at0, sd_at1, cross_ok hs.1 hs.2, ↓resH_same, truD]
  refine ⟨rfl, ?_⟩
  by_cases h : crs s.1 s.2 t.1 = 0
  · simp only [h, decide_true, if_true, ↓hos, ↓gz, ↓List.getElem?_cons_succ, sd_at0, sd_at1, cross_ok hs.1 hs.2, ↓resH_same, true_and]
    exact ⟨rfl, rfl⟩
  · simp only [h, decide_false, Bool.false_eq_true, if_false, ↓hos, false_and]
    rfl
theorem shared_ok {s t : Sd} : F13 [sd s, sd t] = some (.va (if llt (hi2 s t) (lo2 s t) = true then .non else sd (lo2 s t, hi2 s t))) := by
  refine runD_eq ?_
  show Ho (m13 [.va (sd s), .va (sd t), .no, .no]) _
  unfold m13
  refine seq_i (fun ρ => ρ = [.va (sd s), .va (sd t), .va (pt (lo2 s t)), .va (pt (hi2 s t))]) ?_ fun ρ e => ?_
  · simp only [↓hos, ↓gz, ↓List.getElem?_cons_succ, mn1, mx1, mn2, mx2]
    exact ⟨rfl, rfl⟩
  subst e
  simp only [↓hos, ↓gz, ↓List.getElem?_cons_succ, leD_pt]
  cases llt (hi2 s t) (lo2 s t) with
  | true => rfl
  | false => exact ⟨rfl, rfl⟩
theorem cross_id {a b c d : Pt} : crs c d a - crs c d b = crs a b d - crs a b c := by
  unfold crs
  grind
theorem crSpot_ok {s t : Sd} (hs : SmS s) (ht : SmS t) (h : crs t.1 t.2 s.1 - crs t.1 t.2 s.2 ≠ 0) : F15 [sd s, sd t] = some (.va (crSpot s t).d) := by
  refine runD_eq ?_
  show Ho (m15 [.va (sd s), .va (sd t), .no, .no, .no, .no]) _
  unfold m15
  have b1 := crs_bd ht.1 ht.2 hs.1
  have b2 := crs_bd ht.1 ht.2 hs.2
  unfold Bd at b1 b2
  refine seq_i (fun ρ => ρ = [.va (sd s), .va (sd t), .va (.int (crs t.1 t.2 s.1)), .no, .no, .no]) ?_ fun ρ e => ?_
  · simp only [↓hos, ↓gz, ↓List.getElem?_cons_succ, sd_at0, sd_at1, cross_ok ht.1 ht.2, ↓resH_same]
    exact ⟨rfl, lt_ok rfl, rfl⟩
  subst e
  refine seq_i (fun ρ => ρ = [.va (sd s), .va (sd t), .va (.int (crs t.1 t.2 s.1)), .va (.int (crs t.1 t.2 s.1 - crs t.1 t.2 s.2)), .no, .no]) ?_ fun ρ e => ?_
  · simp only [↓hos, ↓gz, ↓List.getElem?_cons_succ, sd_at0, sd_at1, cross_ok ht.1 ht.2, ↓resH_same]
    exact ⟨rfl, lt_ok rfl, rfl⟩
  subst e
  refine seq_i (fun ρ => ρ = [.va (sd s), .va (sd t), .va (.int (crs t.1 t.2 s.1)), .va (.int (crs t.1 t.2 s.1 - crs t.1 t.2 s.2)), .va (.int (s.2.1 - s.1.1)), .va (.int (s.2.2 - s.1.2))]) ?_ fun ρ e => ?_
  · simp only [↓hos, ↓gz, ↓List.getElem?_cons_succ, sd_at0, sd_at1, pt_at0, pt_at1]
    exact ⟨rfl, rfl⟩
  subst e
  obtain ⟨⟨x1, x2, x3, x4⟩, ⟨y1, y2, y3, y4⟩⟩ := hs
  have m1 := v_mul (sm_l (j := crs t.1 t.2 s.1 - crs t.1 t.2 s.2) (show -1000000 ≤ s.1.1 by omega) (by omega))
  have m2 := v_mul (sm_l (j := crs t.1 t.2 s.1 - crs t.1 t.2 s.2) (show -1000000 ≤ s.1.2 by omega) (by omega))
  have m3 := v_mul (sm_l (j := crs t.1 t.2 s.1) (show -1000000 ≤ s.2.1 - s.1.1 by omega) (by omega))
  have m4 := v_mul (sm_l (j := crs t.1 t.2 s.1) (show -1000000 ≤ s.2.2 - s.1.2 by omega) (by omega))
  simp only [↓hos, ↓gz, ↓List.getElem?_cons_succ, sd_at0, pt_at0, pt_at1, m1, m2, m3, m4, spot_ok h (by omega), ↓resH_same]
  exact ⟨rfl, rfl⟩
theorem common_ok {s t : Sd} (hs : SmS s) (ht : SmS t) : F16 [sd s, sd t] = some (.va (cmn s t).d) := by
  refine runD_eq ?_
  show Ho (m16 [.va (sd s), .va (sd t), .no]) _
  unfold m16 cmn
  by_cases h : crs s.1 s.2 t.1 = 0 ∧ crs s.1 s.2 t.2 = 0
  · rw [if_pos h]
    refine seq_i (fun _ => False) ?_ fun ρ z => z.elim
    refine if_t ?_ ?_
    · simp only [↓hos, ↓gz, ↓List.getElem?_cons_succ, line_ok hs, ↓resH_same, truD, h, and_self, decide_true]
      first | trivial | exact ⟨rfl, trivial, trivial⟩
    · show Ho _ _
      refine seq_i (fun ρ => ρ = [.va (sd s), .va (sd t), .va (if llt (hi2 s t) (lo2 s t) = true then .non else sd (lo2 s t, hi2 s t))]) ?_ fun ρ e => ?_
      · simp only [↓hos, ↓gz, ↓List.getElem?_cons_succ, shared_ok, ↓resH_same]
        exact ⟨rfl, lt_ok rfl, rfl⟩
      subst e
      show Ho _ fun fl ρ' => nxH fl ρ' False fun fl _ => flR fl fun z => z = .va (if llt (hi2 s t) (lo2 s t) = true then Cmn.no else if lo2 s t = hi2 s t then .spo (lo2 s t).1 (lo2 s t).2 1 else .seg (lo2 s t) (hi2 s t)).d
      cases hl : llt (hi2 s t) (lo2 s t) with
      | true =>
        simp only [if_true]
        refine seq_i (fun _ => False) ?_ fun ρ z => z.elim
        refine if_t ?_ ?_
        · rw [ho_evOrT]
          simp only [↓hos, ↓gz, ↓List.getElem?_cons_succ]
          exact ⟨trivial, trivial⟩
        · simp only [↓hos, ↓gz, ↓List.getElem?_cons_succ]
          rfl
      | false =>
        simp only [Bool.false_eq_true, if_false]
        have nn : isD (sd (lo2 s t, hi2 s t)) .non = some (.va (.bl false)) := rfl
        by_cases he : lo2 s t = hi2 s t
        · refine seq_i (fun ρ => ρ = [.va (sd s), .va (sd t), .va (sd (lo2 s t, hi2 s t))]) ?_ fun ρ e => ?_
          · refine if_f ?_ rfl
            simp only [↓hos, ↓gz, ↓List.getElem?_cons_succ, nn, Bool.false_eq_true, if_false, sd_at0, sd_at1]
            rw [show neD (pt (lo2 s t)) (pt (hi2 s t)) = some (.va (.bl false)) from by rw [ne_ptD, he]; simp]
            exact ⟨rfl, trivial⟩
          subst e
          simp only [↓hos, ↓gz, ↓List.getElem?_cons_succ, sd_at0, pt_at0, pt_at1, he, if_true]
          exact ⟨rfl, rfl⟩
        · refine seq_i (fun _ => False) ?_ fun ρ z => z.elim
          refine if_t ?_ ?_
          · simp only [↓hos, ↓gz, ↓List.getElem?_cons_succ, nn, Bool.false_eq_true, if_false, sd_at0, sd_at1]
            rw [show neD (pt (lo2 s t)) (pt (hi2 s t)) = some (.va (.bl true)) from by rw [ne_ptD, decide_eq_false he]; rfl]
            exact ⟨rfl, trivial⟩
          · simp only [↓hos, ↓gz, ↓List.getElem?_cons_succ, he, if_false]
            rfl
  · rw [if_neg h]
    refine seq_i (fun ρ => ρ = [.va (sd s), .va (sd t), .no]) ?_ fun ρ e => ?_
    · refine if_f ?_ rfl
      simp only [↓hos, ↓gz, ↓List.getElem?_cons_succ, line_ok hs, ↓resH_same, truD, h, decide_false]
      exact ⟨rfl, trivial, trivial⟩
    subst e
    have sgs : ∀ i j : Int, (small64 (sg i) || small64 j) = true := fun i j => sm_l (by unfold sg; split <;> (try split) <;> omega) (by unfold sg; split <;> (try split) <;> omega)
    by_cases h1 : 0 < sg (crs s.1 s.2 t.1) * sg (crs s.1 s.2 t.2)
    · rw [if_pos h1]
      refine seq_i (fun _ => False) ?_ fun ρ z => z.elim
      refine if_t ?_ ?_
      · simp only [↓hos, ↓gz, ↓List.getElem?_cons_succ, sd_at0, sd_at1, turn_ok hs.1 hs.2, ↓resH_same, v_mul (sgs _ _), h1, decide_true]
        exact ⟨rfl, rfl, trivial, trivial⟩
      · simp only [↓hos]
        rfl
    · rw [if_neg h1]
      refine seq_i (fun ρ => ρ = [.va (sd s), .va (sd t), .no]) ?_ fun ρ e => ?_
      · refine if_f ?_ rfl
        simp only [↓hos, ↓gz, ↓List.getElem?_cons_succ, sd_at0, sd_at1, turn_ok hs.1 hs.2, ↓resH_same, v_mul (sgs _ _), h1, decide_false]
        exact ⟨rfl, rfl, trivial, trivial⟩
      subst e
      by_cases h2 : 0 < sg (crs t.1 t.2 s.1) * sg (crs t.1 t.2 s.2)
      · rw [if_pos h2]
        refine seq_i (fun _ => False) ?_ fun ρ z => z.elim
        refine if_t ?_ ?_
        · simp only [↓hos, ↓gz, ↓List.getElem?_cons_succ, sd_at0, sd_at1, turn_ok ht.1 ht.2, ↓resH_same, v_mul (sgs _ _), h2, decide_true]
          exact ⟨rfl, rfl, trivial, trivial⟩
        · simp only [↓hos]
          rfl
      · rw [if_neg h2]
        refine seq_i (fun ρ => ρ = [.va (sd s), .va (sd t), .no]) ?_ fun ρ e => ?_
        · refine if_f ?_ rfl
          simp only [↓hos, ↓gz, ↓List.getElem?_cons_succ, sd_at0, sd_at1, turn_ok ht.1 ht.2, ↓resH_same, v_mul (sgs _ _), h2, decide_false]
          exact ⟨rfl, rfl, trivial, trivial⟩
        subst e
        have hb : crs t.1 t.2 s.1 - crs t.1 t.2 s.2 ≠ 0 := by
          rw [cross_id]
          rw [sg_mul] at h1
          omega
        simp only [↓hos, ↓gz, ↓List.getElem?_cons_succ, crSpot_ok hs ht hb, ↓resH_same]
        exact ⟨rfl, rfl⟩
end Lw
end Mc
end
section
set_option Elab.async false
set_option linter.all false
set_option maxRecDepth 100000
set_option maxHeartbeats 4000000
set_option autoImplicit false
namespace Mc
namespace Lw
open PySem PySem.Spec L2
theorem meet_ok {s t : Sd} (hs : SmS s) (ht : SmS t) : F17 [sd s, sd t] = some (.va (.str (hw s t).s)) := by
  refine runD_eq ?_
  show Ho (m17 [.va (sd s), .va (sd t), .no]) _
  unfold m17 hw
  refine seq_i (fun ρ => ρ = [.va (sd s), .va (sd t), .va (cmn s t).d]) ?_ fun ρ e => ?_
  · simp only [↓hos, ↓gz, ↓List.getElem?_cons_succ, common_ok hs ht, ↓resH_same]
    exact ⟨rfl, lt_ok rfl, rfl⟩
  subst e
  generalize cmn s t = c
  cases c with
  | no =>
    refine seq_i (fun _ => False) ?_ fun ρ z => z.elim
    refine if_t ?_ ?_
    · simp only [↓hos, ↓gz, ↓List.getElem?_cons_succ]
      first | exact ⟨rfl, rfl⟩ | exact ⟨trivial, rfl⟩ | exact ⟨rfl, trivial⟩ | exact ⟨trivial, trivial⟩
    · simp only [↓hos]
      rfl
  | seg a b =>
    refine seq_i (fun ρ => ρ = [.va (sd s), .va (sd t), .va (sd (a, b))]) ?_ fun ρ e => ?_
    · refine if_f ?_ rfl
      simp only [↓hos, ↓gz, ↓List.getElem?_cons_succ]
      first | exact ⟨rfl, rfl⟩ | exact ⟨trivial, rfl⟩ | exact ⟨rfl, trivial⟩ | exact ⟨trivial, trivial⟩
    subst e
    refine seq_i (fun _ => False) ?_ fun ρ z => z.elim
    refine if_t ?_ ?_
    · unfold sd
      simp only [↓hos, ↓gz, ↓List.getElem?_cons_succ]
      first | exact ⟨rfl, rfl⟩ | exact ⟨trivial, rfl⟩ | exact ⟨rfl, trivial⟩ | exact ⟨trivial, trivial⟩
    · simp only [↓hos]
      rfl
  | spo x y d =>
    refine seq_i (fun ρ => ρ = [.va (sd s), .va (sd t), .va (.tup [.int x, .int y, .int d])]) ?_ fun ρ e => ?_
    · refine if_f ?_ rfl
      simp only [↓hos, ↓gz, ↓List.getElem?_cons_succ]
      first | exact ⟨rfl, rfl⟩ | exact ⟨trivial, rfl⟩ | exact ⟨rfl, trivial⟩ | exact ⟨trivial, trivial⟩
    subst e
    refine seq_i (fun ρ => ρ = [.va (sd s), .va (sd t), .va (.tup [.int x, .int y, .int d])]) ?_ fun ρ e => ?_
    · refine if_f ?_ rfl
      simp only [↓hos, ↓gz, ↓List.getElem?_cons_succ]
      first | exact ⟨rfl, rfl⟩ | exact ⟨trivial, rfl⟩ | exact ⟨rfl, trivial⟩ | exact ⟨trivial, trivial⟩
    subst e
    have c2 : cutD (.tup [.int x, .int y, .int d]) none (some 2) = some (.va (pt (x, y))) := rfl
    have i4 : inD (pt (x, y)) (.tup [pt s.1, pt s.2, pt t.1, pt t.2]) = some (.va (.bl (decide ((x, y) ∈ [s.1, s.2, t.1, t.2])))) := in_ptsT (ps := [s.1, s.2, t.1, t.2])
    have a2 : atI [D.int x, .int y, .int d] 2 = some (.int d) := rfl
    by_cases h1 : d = 1
    · subst h1
      rw [ho_evRet]
      have tst : ∀ {Q : Bool → ES → Prop}, Q (decide ((x, y) ∈ [s.1, s.2, t.1, t.2])) [.va (sd s), .va (sd t), .va (.tup [.int x, .int y, .int 1])] → Ho (evAndT (evBl (evBin eqD (evBin ixD (evVar 2) (evC (.int 2))) (evC (.int 1)))) (evBl (evBin inD (evSlice (evVar 2) (M.ret none) (evPart (evC (.int 2)))) (evTup (evStar (evVar 0) (evStar (evVar 1) evNil))))) [.va (sd s), .va (sd t), .va (.tup [.int x, .int y, .int 1])]) Q := fun {Q} hQ => by
        unfold sd at hQ ⊢
        simp only [↓hos, ↓gz, ↓List.getElem?_cons_succ, a2, Option.map, decide_true, if_true, c2, ↓ho_evStar, List.map_cons, List.map_nil, List.append_nil, List.cons_append, List.nil_append, i4]
        exact ⟨rfl, hQ⟩
      rw [ho_evIf]
      refine tst ?_
      by_cases hm : (x, y) ∈ [s.1, s.2, t.1, t.2]
      · rw [decide_eq_true hm]
        simp only [if_true, ↓hos]
        show _ = DRes.va (D.str (Hw.s (if (1 : Int) = 1 ∧ (x, y) ∈ [s.1, s.2, t.1, t.2] then .touch else .cross)))
        rw [if_pos ⟨rfl, hm⟩]
        rfl
      · rw [decide_eq_false hm]
        simp only [Bool.false_eq_true, if_false, ↓hos]
        show _ = DRes.va (D.str (Hw.s (if (1 : Int) = 1 ∧ (x, y) ∈ [s.1, s.2, t.1, t.2] then .touch else .cross)))
        rw [if_neg fun z => hm z.2]
        rfl
    · simp only [↓hos, ↓gz, ↓List.getElem?_cons_succ, a2, Option.map, h1, decide_false, Bool.false_eq_true, if_false]
      show _ = DRes.va (D.str (Hw.s (if d = 1 ∧ (x, y) ∈ [s.1, s.2, t.1, t.2] then .touch else .cross)))
      rw [if_neg fun z => h1 z.1]
      rfl
theorem v_modn {i : Int} {n : Nat} (h : 0 < n) : intD gMod (.int i) (.int (n : Nat)) = some (.va (.int (i % (n : Nat)))) := v_mod (by omega)
theorem sides_ok {ps : List Pt} (h1 : ps.length ≤ 1000) : F30 [.tup (ps.map pt)] = some (.ow ((sds ps).map sd)) := by
  refine runD_eq ?_
  show Ho (m30 [.va (.tup (ps.map pt)), .no]) _
  unfold m30
  simp only [↓hos, ↓gz, ↓List.getElem?_cons_succ, List.length_map, rng1_eq (show ps.length ≤ 100000 by omega)]
  refine ho_compE (fun d => some (sd (side ps (toN d)))) (fun d hd => ?_) (by simp; omega) ?_
  · obtain ⟨i, hi, rfl⟩ := List.mem_map.mp hd
    have hi := List.mem_range.mp hi
    rw [show wipeE [Sl.va (.tup (ps.map pt)), .no] [1] = [.va (.tup (ps.map pt)), .no] from rfl, show tgN 1 (D.int (i : Nat)) [Sl.va (.tup (ps.map pt)), .no] = some [.va (.tup (ps.map pt)), .va (.int (i : Nat))] from rfl, optH_some]
    simp only [↓hos, if_true, ↓gz, ↓List.getElem?_cons_succ, at_hh (rfl : ((i : Nat) : Int) = i) hi, List.length_map, v_modn (show 0 < ps.length by omega), at_nxt hi, Option.map, toN_int]
    exact ⟨rfl, rfl, rfl⟩
  · rw [rng_map (g := fun i => sd (side ps i))]
    unfold sds
    rw [List.map_map]
    rfl
theorem doubled_ok {ps : List Pt} (h1 : ps.length ≤ 1000) (hp : SmR ps) : F31 [.tup (ps.map pt)] = some (.va (.int (dbl ps))) := by
  refine runD_eq ?_
  show Ho (m31 [.va (.tup (ps.map pt)), .no, .no]) _
  unfold m31
  simp only [↓hos, ↓gz, ↓List.getElem?_cons_succ, sides_ok h1, resH]
  refine ⟨rfl, ?_⟩
  refine ho_compE (fun d => some (.int ((unp (hd_ d)).1 * (unp (tl_ d)).2 - (unp (hd_ d)).2 * (unp (tl_ d)).1))) (fun d hd => ?_) (by unfold sds; simp; omega) ?_
  · obtain ⟨s, hs, rfl⟩ := List.mem_map.mp hd
    obtain ⟨i, hi, rfl⟩ := List.mem_map.mp hs
    obtain ⟨⟨x1, x2, x3, x4⟩, ⟨y1, y2, y3, y4⟩⟩ := side_sm (i := i) hp
    rw [show wipeE [Sl.va (.tup (ps.map pt)), .no, .no] [1, 2] = [.va (.tup (ps.map pt)), .no, .no] from rfl, show tgTup 2 (tgCons (tgN 1) (tgCons (tgN 2) tgNil)) (sd (side ps i)) [Sl.va (.tup (ps.map pt)), .no, .no] = some [.va (.tup (ps.map pt)), .va (pt (side ps i).1), .va (pt (side ps i).2)] from rfl, optH_some]
    simp only [↓hos, if_true, ↓gz, ↓List.getElem?_cons_succ, pt_at0, pt_at1, v_mul (sm_l (j := (side ps i).2.2) (show -1000000 ≤ (side ps i).1.1 by omega) (by omega)), v_mul (sm_l (j := (side ps i).2.1) (show -1000000 ≤ (side ps i).1.2 by omega) (by omega))]
    exact ⟨rfl, rfl⟩
  · rw [fm_some, List.map_map]
    have e : (sds ps).map ((fun d => D.int ((unp (hd_ d)).1 * (unp (tl_ d)).2 - (unp (hd_ d)).2 * (unp (tl_ d)).1)) ∘ sd) = iss ((sds ps).map fun s => s.1.1 * s.2.2 - s.1.2 * s.2.1) := by
      unfold iss
      rw [List.map_map]
      rfl
    rw [e]
    simp only [↓hos, sumL]
    rfl
theorem idx_fst {r : List Pt} {a : Pt} (h : a ∈ r) : idxP (r.map pt) (pt a) = some (.va (.int (fst0 r a : Nat))) ∧ fst0 r a < r.length := by
  have hl : fst0 r a < r.length := List.findIdx_lt_length_of_exists ⟨a, h, decide_eq_true rfl⟩
  refine ⟨?_, hl⟩
  unfold idxP
  rw [pys_pts, py_pt]
  simp only [sh_pts, sh_pt, Bool.and_self, if_true]
  rw [List.findIdx?_map, show ((fun z => PyData.eqv z (py a)) ∘ py) = fun b => decide (b = a) from funext fun b => eqv_pt]
  rw [show r.findIdx? (fun b => decide (b = a)) = some (fst0 r a) from List.findIdx?_eq_some_iff_findIdx_eq.mpr ⟨hl, rfl⟩]
  rfl
theorem bestP_mem {mx : Bool} {ps : List Pt} (h : 0 < ps.length) : bestP mx ps ∈ ps := by
  unfold bestP
  refine hh_mem ?_
  have := argBest_le (btP mx ps) (ps.length - 1)
  omega
theorem cut_drop {xs : List D} {i : Nat} (h : i ≤ xs.length) : cutD (.tup xs) (some (i : Nat)) none = some (.va (.tup (xs.drop i))) := by
  have h1 : HT.sIx xs.length 0 (some (i : Nat)) = i := by
    show (if ((i : Int)) < 0 then ((i : Int) + (xs.length : Int)).toNat else min (i : Int).toNat xs.length) = _
    rw [if_neg (by omega)]
    omega
  have h2 : HT.sIx xs.length xs.length none = xs.length := rfl
  show some (R.va (.tup (if HT.sIx xs.length 0 (some (i : Nat)) = 0 ∧ HT.sIx xs.length xs.length none = xs.length then xs else cutG xs (some (i : Nat)) none))) = _
  rw [h1, h2]
  by_cases h0 : i = 0
  · subst h0
    rw [if_pos ⟨rfl, rfl⟩]
    rfl
  · rw [if_neg fun z => h0 z.1]
    unfold cutG
    rw [h1, h2, List.take_of_length_le (by simp)]
theorem cut_take {xs : List D} {i : Nat} (h : i ≤ xs.length) : cutD (.tup xs) none (some (i : Nat)) = some (.va (.tup (xs.take i))) := by
  have h1 : HT.sIx xs.length xs.length (some (i : Nat)) = i := by
    show (if ((i : Int)) < 0 then ((i : Int) + (xs.length : Int)).toNat else min (i : Int).toNat xs.length) = _
    rw [if_neg (by omega)]
    omega
  have h2 : HT.sIx xs.length 0 none = 0 := rfl
  show some (R.va (.tup (if HT.sIx xs.length 0 none = 0 ∧ HT.sIx xs.length xs.length (some (i : Nat)) = xs.length then xs else cutG xs none (some (i : Nat))))) = _
  rw [h1, h2]
  by_cases h0 : i = xs.length
  · subst h0
    rw [if_pos ⟨rfl, rfl⟩, List.take_length]
  · rw [if_neg fun z => h0 z.2]
    unfold cutG
    rw [h1, h2, List.drop_zero, Nat.sub_zero]
theorem led_ok {ps : List Pt} (h0 : 0 < ps.length) (h1 : ps.length ≤ 1000) (hp : SmR ps) : F32 [.tup (ps.map pt)] = some (.va (.tup ((led ps).map pt))) := by
  refine runD_eq ?_
  show Ho (m32 [.va (.tup (ps.map pt)), .no, .no]) _
  unfold m32
  have hd := doubled_ok h1 hp
  generalize F31 = G at hd
  refine seq_i (fun ρ => ρ = [.va (.tup (ps.map pt)), .va (.tup ((ahd ps).map pt)), .no]) ?_ fun ρ e => ?_
  · unfold ahd
    by_cases h : 0 < dbl ps
    · simp only [↓hos, ↓gz, ↓List.getElem?_cons_succ, hd, ↓resH_same, h, decide_true, if_true]
      exact ⟨rfl, lt_ok rfl, rfl⟩
    · have hb : backD (.tup (ps.map pt)) = some (.va (.tup (ps.reverse.map pt))) := by
        show some (R.va (.tup (ps.map pt).reverse)) = _
        rw [List.map_reverse]
      simp only [↓hos, ↓gz, ↓List.getElem?_cons_succ, hd, ↓resH_same, h, decide_false, Bool.false_eq_true, if_false, hb]
      exact ⟨rfl, lt_ok rfl, rfl⟩
  subst e
  have hl : (ahd ps).length = ps.length := by
    unfold ahd
    split
    · rfl
    · exact List.length_reverse
  have hled : led ps = rot (ahd ps) (fst0 (ahd ps) (bestP false (ahd ps))) := rfl
  rw [hled]
  generalize ahd ps = r at hl
  obtain ⟨e1, e2⟩ := idx_fst (bestP_mem (mx := false) (ps := r) (by omega))
  refine seq_i (fun ρ => ρ = [.va (.tup (ps.map pt)), .va (.tup (r.map pt)), .va (.int (fst0 r (bestP false r) : Nat))]) ?_ fun ρ e => ?_
  · rw [ho_evAsg, ho_evTM_tup (r := .va (.tup (r.map pt))) (ρ1 := [.va (.tup (ps.map pt)), .va (.tup (r.map pt)), .no]) (xs := r.map pt) rfl rfl]
    simp only [↓hos, ↓gz, ↓List.getElem?_cons_succ, best1T (show 0 < r.length by omega), e1]
    exact ⟨lt_ok rfl, rfl⟩
  subst e
  generalize fst0 r (bestP false r) = i at e2
  have ha : addD (.tup ((r.map pt).drop i)) (.tup ((r.map pt).take i)) = some (.va (.tup ((rot r i).map pt))) := by
    have : okN (((r.map pt).drop i).length + ((r.map pt).take i).length) = true := decide_eq_true (by simp; omega)
    simp only [addD, this, if_true]
    unfold rot
    rw [List.map_append, List.map_drop, List.map_take]
  simp only [↓hos, ↓gz, ↓List.getElem?_cons_succ, cut_drop (xs := r.map pt) (i := i) (by simp; omega), cut_take (xs := r.map pt) (i := i) (by simp; omega), ha]
  rfl
theorem tat_ok {ps : List Pt} {i : Nat} (h : i < ps.length) (hp : SmR ps) : F33 [.tup (ps.map pt), .int (i : Nat)] = some (.va (.int (tat ps i))) := by
  refine runD_eq ?_
  show Ho (m33 [.va (.tup (ps.map pt)), .va (.int (i : Nat))]) _
  unfold m33
  simp only [↓hos, ↓gz, ↓List.getElem?_cons_succ, at_prv h, at_hh (rfl : ((i : Nat) : Int) = i) h, List.length_map, v_modn (show 0 < ps.length by omega), at_nxt h, Option.map, turn_ok (hh_sm hp) (hh_sm hp), ↓resH_same]
  exact ⟨rfl, rfl⟩
end Lw
end Mc
end
section
set_option Elab.async false
set_option linter.all false
set_option maxRecDepth 100000
set_option maxHeartbeats 4000000
set_option autoImplicit false
namespace Mc
namespace Lw
open PySem PySem.Spec L2
theorem beside_ok {n i j : Nat} (h : i < j) (hj : j < n) : F34 [.int (n : Nat), .int (i : Nat), .int (j : Nat)] = some (.va (.bl (bes n i j))) := by
  refine runD_eq ?_
  show Ho (m34 [.va (.int (n : Nat)), .va (.int (i : Nat)), .va (.int (j : Nat))]) _
  unfold m34
  have e : inD (.int (((j : Int) - i) % (n : Nat))) (.tup [.int 1, .int ((n : Int) - 1)]) = some (.va (.bl (bes n i j))) := by
    have q := in_intsT (ws := [1, (n : Int) - 1]) (a := ((j : Int) - i) % (n : Nat))
    rw [show decide (((j : Int) - i) % (n : Nat) ∈ ([1, (n : Int) - 1] : List Int)) = bes n i j from by
      cases hb : bes n i j with
      | true => exact decide_eq_true ((bes_int h hj).mpr hb)
      | false => exact decide_eq_false fun z => by rw [(bes_int h hj).mp z] at hb; cases hb] at q
    exact q
  simp only [↓hos, ↓gz, ↓List.getElem?_cons_succ, v_modn (show 0 < n by omega), e]
  exact ⟨rfl, rfl⟩
theorem isf_ok {ps : List Pt} {i j : Nat} (hp : SmR ps) (h : i < j) (hj : j < ps.length) : F35 [.lst ((sds ps).map sd), .int (i : Nat), .int (j : Nat)] = some (.va (hwO (ft ps i j))) := by
  have hl : (sds ps).length = ps.length := by unfold sds; simp
  refine runD_eq ?_
  show Ho (m35 [.va (.lst ((sds ps).map sd)), .va (.int (i : Nat)), .va (.int (j : Nat)), .no]) _
  unfold m35
  have hm := meet_ok (s := side ps i) (t := side ps j) (side_sm hp) (side_sm hp)
  have hb := beside_ok (n := ps.length) h hj
  generalize F17 = G at hm
  generalize F34 = B at hb
  refine seq_i (fun ρ => ρ = [.va (.lst ((sds ps).map sd)), .va (.int (i : Nat)), .va (.int (j : Nat)), .va (.str (hw (side ps i) (side ps j)).s)]) ?_ fun ρ e => ?_
  · simp only [↓hos, ↓gz, ↓List.getElem?_cons_succ, at_sds (show i < ps.length by omega), at_sds hj, Option.map, hm, ↓resH_same]
    exact ⟨rfl, lt_ok rfl, rfl⟩
  subst e
  unfold ft
  generalize hw (side ps i) (side ps j) = w
  by_cases h1 : w = .none
  · rw [if_pos (Or.inl h1)]
    refine seq_i (fun _ => False) ?_ fun ρ z => z.elim
    refine if_t ?_ ?_
    · simp only [↓hos, ↓gz, ↓List.getElem?_cons_succ, hw_eqN, h1, decide_true, if_true]
      first | exact ⟨rfl, rfl⟩ | exact ⟨trivial, rfl⟩ | exact ⟨rfl, trivial⟩ | exact ⟨trivial, trivial⟩
    · simp only [↓hos]
      rfl
  · by_cases h2 : bes ps.length i j = true
    · by_cases h3 : w = .share
      · rw [if_neg (by rintro (z | z); exact h1 z; exact z.2 h3)]
        refine seq_i (fun ρ => ρ = [.va (.lst ((sds ps).map sd)), .va (.int (i : Nat)), .va (.int (j : Nat)), .va (.str w.s)]) ?_ fun ρ e => ?_
        · refine if_f ?_ rfl
          simp only [↓hos, ↓gz, ↓List.getElem?_cons_succ, hw_eqN, h1, decide_false, Bool.false_eq_true, if_false, List.length_map, hl, hb, ↓resH_same, truD, h2, if_true, hw_neS]
          rw [h3]
          exact ⟨rfl, rfl, trivial⟩
        subst e
        simp only [↓hos, ↓gz, ↓List.getElem?_cons_succ]
        rfl
      · rw [if_pos (Or.inr ⟨h2, h3⟩)]
        refine seq_i (fun _ => False) ?_ fun ρ z => z.elim
        refine if_t ?_ ?_
        · simp only [↓hos, ↓gz, ↓List.getElem?_cons_succ, hw_eqN, h1, decide_false, Bool.false_eq_true, if_false, List.length_map, hl, hb, ↓resH_same, truD, h2, if_true, hw_neS, h3]
          exact ⟨rfl, rfl, trivial⟩
        · simp only [↓hos]
          rfl
    · rw [if_neg (by rintro (z | z); exact h1 z; exact h2 z.1)]
      have h2' : bes ps.length i j = false := by simpa using h2
      refine seq_i (fun ρ => ρ = [.va (.lst ((sds ps).map sd)), .va (.int (i : Nat)), .va (.int (j : Nat)), .va (.str w.s)]) ?_ fun ρ e => ?_
      · refine if_f ?_ rfl
        simp only [↓hos, ↓gz, ↓List.getElem?_cons_succ, hw_eqN, h1, decide_false, Bool.false_eq_true, if_false, List.length_map, hl, hb, ↓resH_same, truD, h2']
        exact ⟨rfl, trivial, trivial⟩
      subst e
      simp only [↓hos, ↓gz, ↓List.getElem?_cons_succ]
      rfl
theorem ast_at {n : Nat} {d : D} (h : Atm d) : F4 (n + 1) [d] = some (.va d) := by
  rcases h with rfl | ⟨c, rfl⟩ | ⟨s, rfl, _⟩ | ⟨i, rfl⟩ <;> with_unfolding_all rfl
theorem hw_atm {h : Hw} : Atm (.str h.s) := .inr (.inr (.inl ⟨_, rfl, by cases h <;> with_unfolding_all rfl⟩))
theorem int_atm {i : Int} : Atm (.int i) := .inr (.inr (.inr ⟨i, rfl⟩))
theorem straight_ok {d : D} (h : Atm d) : F18 (.ob "Straight" []) [d] = some (.va .non, .ob "Straight" [("index", d)]) := by
  have key : ∃ r q, F18 (.ob "Straight" []) [d] = some (r, q) ∧ (r = .va .non ∧ q = .ob "Straight" [("index", d)]) := by
    refine runN_ex ?_
    show Ho (m18 [.pn (.ob "Straight" []), .va d]) _
    unfold m18
    simp only [↓ho_evSelf, ↓hos, ↓gz, ↓List.getElem?_cons_succ, ast_at h, resH_same]
    refine ⟨rfl, rfl, ?_⟩
    exact ⟨_, rfl, rfl, rfl⟩
  obtain ⟨r, q, e, rfl, rfl⟩ := key
  exact e
theorem fault_ok {a b c : D} (ha : Atm a) (hb : Atm b) (hc : Atm c) : F21 (.ob "Fault" []) [a, b, c] = some (.va .non, .ob "Fault" [("one", a), ("other", b), ("how", c)]) := by
  have key : ∃ r q, F21 (.ob "Fault" []) [a, b, c] = some (r, q) ∧ (r = .va .non ∧ q = .ob "Fault" [("one", a), ("other", b), ("how", c)]) := by
    refine runN_ex ?_
    show Ho (m21 [.pn (.ob "Fault" []), .va a, .va b, .va c]) _
    unfold m21
    refine seq_i (fun ρ => ρ = [.pn (.ob "Fault" [("one", a)]), .va a, .va b, .va c]) ?_ fun ρ e => ?_
    · simp only [↓ho_evSelf, ↓hos, ↓gz, ↓List.getElem?_cons_succ, ast_at ha, resH_same]
      exact ⟨rfl, rfl, rfl⟩
    subst e
    refine seq_i (fun ρ => ρ = [.pn (.ob "Fault" [("one", a), ("other", b)]), .va a, .va b, .va c]) ?_ fun ρ e => ?_
    · simp only [↓ho_evSelf, ↓hos, ↓gz, ↓List.getElem?_cons_succ, ast_at hb, resH_same]
      exact ⟨rfl, rfl, rfl⟩
    subst e
    simp only [↓ho_evSelf, ↓hos, ↓gz, ↓List.getElem?_cons_succ, ast_at hc, resH_same]
    refine ⟨rfl, rfl, ?_⟩
    exact ⟨_, rfl, rfl, rfl⟩
  obtain ⟨r, q, e, rfl, rfl⟩ := key
  exact e
theorem ff_ok {ps : List Pt} (h1 : ps.length ≤ 1000) (hp : SmR ps) : F36 [.tup (ps.map pt)] = some (.va (ffD (ff ps))) := by
  have hl : (sds ps).length = ps.length := by unfold sds; simp
  refine runD_eq ?_
  show Ho (m36 [.va (.tup (ps.map pt)), .no, .no, .no, .no, .no]) _
  unfold m36
  have ht : ∀ i, i < ps.length → F33 [.tup (ps.map pt), .int (i : Nat)] = some (.va (.int (tat ps i))) := fun i h => tat_ok h hp
  have hs := sides_ok h1
  have hf : ∀ i j, i < j → j < ps.length → F35 [.lst ((sds ps).map sd), .int (i : Nat), .int (j : Nat)] = some (.va (hwO (ft ps i j))) := fun i j a b => isf_ok hp a b
  have r1 := rng1_eq (n := ps.length) (by omega)
  have r2 : ∀ i, i < ps.length → rngR2 [.va (.int ((i : Int) + 1)), .va (.int (ps.length : Nat))] = some ((List.range' (i + 1) (ps.length - (i + 1))).map fun j => D.int (j : Nat)) := fun i h => rng2_eq (i := i + 1) (by omega) (by omega)
  generalize F33 = T at ht
  generalize F30 = S at hs
  generalize F35 = G at hf
  generalize rngR1 = R1 at r1
  generalize rngR2 = R2 at r2
  have fin : ∀ {o : Option Ft} {ρ : ES} {k : M Fl} {P : ES → Prop}, ffS ps = o → P ρ → True := fun _ _ => trivial
  refine seq_i (fun ρ => ffS ps = none ∧ ∃ a, ρ = [.va (.tup (ps.map pt)), a, .no, .no, .no, .no]) ?_ fun ρ ⟨hn, a, e⟩ => ?_
  · simp only [↓hos, ↓gz, ↓List.getElem?_cons_succ, List.length_map, r1]
    refine (for_find (fun ρ => ∃ a, ρ = [.va (.tup (ps.map pt)), a, .no, .no, .no, .no]) (fun d => if tat ps (toN d) = 0 then some (.va (Ft.str (toN d)).d) else none) _ _ ⟨_, rfl⟩ ?_).imp fun fl ρ q => ?_
    · rintro d hd ρ ⟨a, rfl⟩
      obtain ⟨i, hi, rfl⟩ := List.mem_map.mp hd
      have hi := List.mem_range.mp hi
      rw [show tgN 1 (D.int (i : Nat)) [.va (.tup (ps.map pt)), a, .no, .no, .no, .no] = some [.va (.tup (ps.map pt)), .va (.int (i : Nat)), .no, .no, .no, .no] from rfl, optH_some, toN_int]
      by_cases h0 : tat ps i = 0
      · rw [if_pos h0]
        refine if_t ?_ ?_
        · simp only [↓hos, ↓gz, ↓List.getElem?_cons_succ, ht i hi, ↓resH_same, h0, decide_true]
          exact ⟨rfl, trivial, trivial⟩
        · simp only [↓ho_evMake, ↓hos, ↓gz, ↓List.getElem?_cons_succ, straight_ok int_atm]
          exact ⟨rfl, rfl⟩
      · rw [if_neg h0]
        refine if_f ?_ ?_
        · simp only [↓hos, ↓gz, ↓List.getElem?_cons_succ, ht i hi, ↓resH_same, h0, decide_false]
          exact ⟨rfl, trivial, trivial⟩
        · exact ⟨rfl, _, rfl⟩
    · rw [List.findSome?_map] at q
      have e : ((fun d => if tat ps (toN d) = 0 then some (R.va (Ft.str (toN d)).d) else none) ∘ fun (i : Nat) => D.int (i : Nat)) = fun i => (if tat ps i = 0 then some (Ft.str i) else none).map fun f => R.va f.d := funext fun i => by
        show (if tat ps (toN (.int (i : Nat))) = 0 then some (R.va (Ft.str (toN (.int (i : Nat)))).d) else none) = _
        rw [toN_int]
        split <;> rfl
      rw [e, fs_map] at q
      change (match (ffS ps).map (fun f => R.va f.d) with
        | some v => fl = .rt v
        | none => _) at q
      cases hS : ffS ps with
      | some f =>
        rw [hS] at q
        simp only [Option.map] at q
        subst q
        show _ = _
        unfold ff
        rw [hS]
        rfl
      | none =>
        rw [hS] at q
        simp only [Option.map] at q
        obtain ⟨rfl, a, rfl⟩ := q
        exact ⟨rfl, a, rfl⟩
  subst e
  have hff : ff ps = ffF ps := by unfold ff; rw [hn]
  rw [hff]
  refine seq_i (fun ρ => ρ = [.va (.tup (ps.map pt)), a, .ow ((sds ps).map sd), .no, .no, .no]) ?_ fun ρ e => ?_
  · simp only [↓hos, ↓gz, ↓List.getElem?_cons_succ, hs, resH]
    exact ⟨rfl, lt_ok rfl, rfl⟩
  subst e
  refine seq_i (fun ρ => ffF ps = none) ?_ fun ρ e => ?_
  · simp only [↓hos, ↓gz, ↓List.getElem?_cons_succ, List.length_map, hl, r1]
    refine (for_find (fun ρ => ∃ x y z, ρ = [.va (.tup (ps.map pt)), a, .ow ((sds ps).map sd), x, y, z]) (fun d => (List.range' (toN d + 1) (ps.length - (toN d + 1))).findSome? fun j => (ft ps (toN d) j).map fun h => R.va (Ft.flt (toN d) j h).d) _ _ ⟨_, _, _, rfl⟩ ?_).imp fun fl ρ q => ?_
    · rintro d hd ρ ⟨x, y, z, rfl⟩
      obtain ⟨i, hi, rfl⟩ := List.mem_map.mp hd
      have hi := List.mem_range.mp hi
      rw [show tgN 3 (D.int (i : Nat)) [.va (.tup (ps.map pt)), a, .ow ((sds ps).map sd), x, y, z] = some [.va (.tup (ps.map pt)), a, .ow ((sds ps).map sd), .va (.int (i : Nat)), y, z] from rfl, optH_some, toN_int]
      simp only [↓hos, ↓gz, ↓List.getElem?_cons_succ, List.length_map, hl, r2 i hi]
      refine (for_find (fun ρ => ∃ y z, ρ = [.va (.tup (ps.map pt)), a, .ow ((sds ps).map sd), .va (.int (i : Nat)), y, z]) (fun d => (ft ps i (toN d)).map fun h => R.va (Ft.flt i (toN d) h).d) _ _ ⟨_, _, rfl⟩ ?_).imp fun fl ρ q => ?_
      · rintro d hd ρ ⟨y, z, rfl⟩
        obtain ⟨j, hj, rfl⟩ := List.mem_map.mp hd
        have hj := List.mem_range'_1.mp hj
        rw [show tgN 4 (D.int (j : Nat)) [.va (.tup (ps.map pt)), a, .ow ((sds ps).map sd), .va (.int (i : Nat)), y, z] = some [.va (.tup (ps.map pt)), a, .ow ((sds ps).map sd), .va (.int (i : Nat)), .va (.int (j : Nat)), z] from rfl, optH_some, toN_int]
        refine seq_i (fun ρ => ρ = [.va (.tup (ps.map pt)), a, .ow ((sds ps).map sd), .va (.int (i : Nat)), .va (.int (j : Nat)), .va (hwO (ft ps i j))]) ?_ fun ρ e => ?_
        · simp only [↓hos, ↓gz, ↓List.getElem?_cons_succ, hf i j (by omega) (by omega), resH_flat hwO_flat]
          exact ⟨rfl, lt_ok rfl, rfl⟩
        subst e
        cases ft ps i j with
        | none =>
          refine if_f ?_ ?_
          · simp only [↓hos, ↓gz, ↓List.getElem?_cons_succ]
            first | exact ⟨rfl, rfl⟩ | exact ⟨trivial, rfl⟩ | exact ⟨rfl, trivial⟩ | exact ⟨trivial, trivial⟩
          · exact ⟨rfl, _, _, rfl⟩
        | some w =>
          refine if_t ?_ ?_
          · simp only [↓hos, ↓gz, ↓List.getElem?_cons_succ]
            first | exact ⟨rfl, rfl⟩ | exact ⟨trivial, rfl⟩ | exact ⟨rfl, trivial⟩ | exact ⟨trivial, trivial⟩
          · simp only [↓ho_evMake, ↓hos, ↓gz, ↓List.getElem?_cons_succ]
            refine ⟨rfl, ?_⟩
            show (match F21 (.ob "Fault" []) [.int (i : Nat), .int (j : Nat), .str w.s] with
              | some (.va .non, .ob c' fs) => if c' = "Fault" then _ else False
              | _ => False)
            rw [fault_ok int_atm int_atm hw_atm]
            rfl
      · rw [List.findSome?_map] at q
        have e : ((fun d => (ft ps i (toN d)).map fun h => R.va (Ft.flt i (toN d) h).d) ∘ fun (j : Nat) => D.int (j : Nat)) = fun j => (ft ps i j).map fun h => R.va (Ft.flt i j h).d := funext fun j => by
          show (ft ps i (toN (.int (j : Nat)))).map _ = _
          rw [toN_int]
        rw [e] at q
        cases hc : (List.range' (i + 1) (ps.length - (i + 1))).findSome? fun j => (ft ps i j).map fun h => R.va (Ft.flt i j h).d with
        | some v =>
          rw [hc] at q
          exact q
        | none =>
          rw [hc] at q
          obtain ⟨q1, y, z, q2⟩ := q
          exact ⟨q1, _, y, z, q2⟩
    · rw [List.findSome?_map] at q
      have e : ((fun d => (List.range' (toN d + 1) (ps.length - (toN d + 1))).findSome? fun j => (ft ps (toN d) j).map fun h => R.va (Ft.flt (toN d) j h).d) ∘ fun (i : Nat) => D.int (i : Nat)) = fun i => ((List.range' (i + 1) (ps.length - (i + 1))).findSome? fun j => (ft ps i j).map (Ft.flt i j)).map fun f => R.va f.d := funext fun i => by
        show ((List.range' (toN (.int (i : Nat)) + 1) (ps.length - (toN (.int (i : Nat)) + 1))).findSome? fun j => (ft ps (toN (.int (i : Nat))) j).map fun h => R.va (Ft.flt (toN (.int (i : Nat))) j h).d) = _
        rw [toN_int, ← fs_map]
        congr 1
        funext j
        rw [Option.map_map]
        rfl
      rw [e, fs_map] at q
      change (match (ffF ps).map (fun f => R.va f.d) with
        | some v => fl = .rt v
        | none => _) at q
      cases hS : ffF ps with
      | some f =>
        rw [hS] at q
        simp only [Option.map] at q
        subst q
        rfl
      | none =>
        rw [hS] at q
        simp only [Option.map] at q
        obtain ⟨rfl, _⟩ := q
        exact rfl
  · rw [e]
    simp only [↓hos]
    rfl
end Lw
end Mc
end
section
set_option Elab.async false
set_option linter.all false
set_option maxRecDepth 100000
set_option maxHeartbeats 4000000
set_option autoImplicit false
namespace Mc
namespace Lw
open PySem PySem.Spec L2
def SqP (d : D) (ps : List Pt) : Prop := d = .tup (ps.map pt) ∨ d = .lst (ps.map pt)
theorem points_ok {d : D} {ps : List Pt} (hd : SqP d ps) (h0 : 3 ≤ ps.length) (h1 : ps.length ≤ 40) (nd : ps.Nodup) : F28 [d] = some (.va (.bl true)) := by
  refine runD_eq ?_
  show Ho (m28 [.va d, .no]) _
  unfold m28
  have hi : isiD2 csL .lst .tup d = some (.va (.bl true)) := by rcases hd with rfl | rfl <;> rfl
  have hs : sqD d = some (ps.map pt) := by rcases hd with rfl | rfl <;> rfl
  have hl : lenD [d] = some (.va (.int (ps.length : Nat))) := by rcases hd with rfl | rfl <;> (show some (R.va (D.int ((ps.map pt).length : Nat))) = _; rw [List.length_map])
  refine seq_i (fun ρ => ρ = [.va d, .no]) ?_ fun ρ e => ?_
  · refine if_f ?_ rfl
    simp only [↓hos, ↓gz, hi, truD, Bool.not_true, Bool.false_eq_true, if_false, hl]
    have a1 : ¬ ((ps.length : Int) < 3) := by omega
    have a2 : ¬ ((40 : Int) < ps.length) := by omega
    simp only [a1, a2, decide_false, Bool.not_false, if_true, ↓hos, Bool.not_true, ↓gz, hl]
    first | exact ⟨rfl, rfl⟩ | exact ⟨trivial, rfl⟩ | exact ⟨rfl, trivial⟩ | exact ⟨trivial, trivial⟩
  subst e
  simp only [↓hos, ↓gz, hs]
  refine ho_compE (fun d => some (.bl true)) (fun d' hd' => ?_) (by simp; omega) ?_
  · obtain ⟨a, _, rfl⟩ := List.mem_map.mp hd'
    rw [show wipeE [Sl.va d, .no] [1] = [.va d, .no] from rfl, show tgN 1 (pt a) [Sl.va d, .no] = some [.va d, .va (pt a)] from rfl, optH_some]
    simp only [↓hos, if_true, ↓gz, ↓List.getElem?_cons_succ]
    rw [point_is]
    simp only [resH, D.flat, if_true, ↓hos]
    exact ⟨rfl, rfl, trivial⟩
  · rw [fm_some]
    simp only [↓hos, all_true (ds := (ps.map pt).map fun _ => D.bl true) (fun d hd => by obtain ⟨_, _, rfl⟩ := List.mem_map.mp hd; rfl), truD, if_true]
    rw [ho_evDcLen]
    simp only [↓hos]
    rw [show unwipe [Sl.va d, .no] (wipeE [Sl.va d, .no] [1]) [1] = [.va d, .no] from rfl]
    simp only [↓gz, hs, ↓hos]
    have key : dcM [1] (tgN 1) (M.ret true) (evVar 1) (evC (.bl true)) (ps.map pt) [] [.va d, .no] = some ([.va d, .no], [] ++ (ps.map pt).map keyP) := by
      refine dcM_all _ _ (fun d' hd' => ?_) ?_ (by simp; omega)
      · obtain ⟨a, _, rfl⟩ := List.mem_map.mp hd'
        rw [show tgN 1 (pt a) [Sl.va d, .no] = some [.va d, .va (pt a)] from rfl, optH_some]
        simp only [↓hos, ↓gz, ↓List.getElem?_cons_succ]
        exact ⟨trivial, rfl, rfl⟩
      · simp only [List.nil_append, List.map_map]
        refine List.Pairwise.map _ (fun a b hab e => hab ?_) nd
        have e' : keyP (pt a) = keyP (pt b) := e
        rw [keyP_pt, keyP_pt] at e'
        cases a; cases b
        simp at e'
        simp [e']
    rw [show wipeE [Sl.va d, .no] [1] = [.va d, .no] from rfl, key]
    simp only [optH_some, List.nil_append]
    rw [show unwipe [Sl.va d, .no] [.va d, .no] [1] = [.va d, .no] from rfl]
    refine ⟨decide_eq_true (by simp; omega), ?_⟩
    simp only [↓hos, ↓gz, List.length_map, hl, decide_true]
    rfl
theorem ring_ok {d : D} {ps : List Pt} (hd : SqP d ps) (h0 : 3 ≤ ps.length) (h1 : ps.length ≤ 40) (nd : ps.Nodup) : F29 [d] = some (.va (.tup (ps.map pt))) := by
  have hp := points_ok hd h0 h1 nd
  refine runD_eq ?_
  show Ho (m29 [.va d]) _
  unfold m29
  generalize F28 = G at hp
  refine seq_i (fun ρ => ρ = [.va d]) ?_ fun ρ e => ?_
  · refine if_f ?_ rfl
    simp only [↓hos, ↓gz, hp, ↓resH_same, truD]
    exact ⟨rfl, rfl, trivial⟩
  subst e
  rcases hd with rfl | rfl
  · simp only [↓hos, ↓gz]
    rfl
  · simp only [↓hos, ↓gz]
    rfl
def fo (qs : List Pt) : D := .ob "Field" [("corners", .tup (qs.map pt))]
theorem field_ok {d : D} {ps : List Pt} (hd : SqP d ps) (h0 : 3 ≤ ps.length) (h1 : ps.length ≤ 40) (nd : ps.Nodup) (hp : SmR ps) (hf : ff ps = none) : F24 (.ob "Field" []) [d] = some (.va .non, .ob "Field" [("corners", .tup ((led ps).map pt))]) := by
  have e1 := ring_ok hd h0 h1 nd
  have e2 := ff_ok (ps := ps) (by omega) hp
  have e3 := led_ok (ps := ps) (by omega) (by omega) hp
  rw [hf] at e2
  have e2' : F36 [.tup (ps.map pt)] = some (.va .non) := e2
  have key : ∃ r q, F24 (.ob "Field" []) [d] = some (r, q) ∧ (r = .va .non ∧ q = .ob "Field" [("corners", .tup ((led ps).map pt))]) := by
    refine runN_ex ?_
    show Ho (m24 [.pn (.ob "Field" []), .va d, .no, .no]) _
    unfold m24
    generalize F29 = G1 at e1
    generalize F36 = G2 at e2'
    generalize F32 = G3 at e3
    refine seq_i (fun ρ => ρ = [.pn (.ob "Field" []), .va d, .va (.tup (ps.map pt)), .no]) ?_ fun ρ e => ?_
    · simp only [↓hos, ↓gz, ↓List.getElem?_cons_succ, e1, resH_same]
      exact ⟨rfl, lt_ok rfl, rfl⟩
    subst e
    refine seq_i (fun ρ => ρ = [.pn (.ob "Field" []), .va d, .va (.tup (ps.map pt)), .va .non]) ?_ fun ρ e => ?_
    · simp only [↓hos, ↓gz, ↓List.getElem?_cons_succ, e2', resH_same]
      exact ⟨rfl, lt_ok rfl, rfl⟩
    subst e
    refine seq_i (fun ρ => ρ = [.pn (.ob "Field" []), .va d, .va (.tup (ps.map pt)), .va .non]) ?_ fun ρ e => ?_
    · refine if_f ?_ rfl
      simp only [↓hos, ↓gz, ↓List.getElem?_cons_succ]
      first | exact ⟨rfl, rfl⟩ | exact ⟨trivial, rfl⟩ | exact ⟨rfl, trivial⟩ | exact ⟨trivial, trivial⟩
    subst e
    simp only [↓ho_evSelf, ↓hos, ↓gz, ↓List.getElem?_cons_succ, e3, resH_same]
    refine ⟨rfl, rfl, ?_⟩
    exact ⟨_, rfl, rfl, rfl⟩
  obtain ⟨r, q, e, rfl, rfl⟩ := key
  exact e
theorem faultof_ok {d : D} {ps : List Pt} (hd : SqP d ps) (h0 : 3 ≤ ps.length) (h1 : ps.length ≤ 40) (nd : ps.Nodup) (hp : SmR ps) : F37 [d] = some (.va (ffD (ff ps))) := by
  have e1 := ring_ok hd h0 h1 nd
  have e2 := ff_ok (ps := ps) (by omega) hp
  refine runD_eq ?_
  show Ho (m37 [.va d]) _
  unfold m37
  generalize F29 = G1 at e1
  generalize F36 = G2 at e2
  simp only [↓hos, ↓gz, ↓List.getElem?_cons_succ, e1, e2, resH_same]
  exact ⟨rfl, rfl, rfl⟩
theorem fld_c {x : D} : fldD ct "corners" "Field" [("corners", x)] = some (.va x) := by with_unfolding_all rfl
theorem turns_ok {qs : List Pt} (h1 : qs.length ≤ 1000) (hp : SmR qs) : F38 [fo qs] = some (.va (.tup (iss (tats qs)))) := by
  have ht : ∀ i, i < qs.length → F33 [.tup (qs.map pt), .int (i : Nat)] = some (.va (.int (tat qs i))) := fun i h => tat_ok h hp
  refine runD_eq ?_
  show Ho (m38 [.va (fo qs), .no]) _
  unfold m38 fo
  generalize F33 = G at ht
  simp only [↓hos, ↓gz, ↓List.getElem?_cons_succ, ↓fld_c, List.length_map, rng1_eq (show qs.length ≤ 100000 by omega)]
  refine ho_compE (fun d => some (.int (tat qs (toN d)))) (fun d hd => ?_) (by simp; omega) ?_
  · obtain ⟨i, hi, rfl⟩ := List.mem_map.mp hd
    have hi := List.mem_range.mp hi
    rw [show ∀ x : Sl, wipeE [x, Sl.no] [1] = [x, .no] from fun _ => rfl, show ∀ x : Sl, tgN 1 (D.int (i : Nat)) [x, .no] = some [x, .va (.int (i : Nat))] from fun _ => rfl, optH_some]
    simp only [↓hos, if_true, ↓gz, ↓List.getElem?_cons_succ, ↓fld_c, ht i hi, ↓resH_same, toN_int]
    exact ⟨rfl, rfl, trivial⟩
  · rw [rng_map (g := fun i => D.int (tat qs i))]
    simp only [↓hos]
    unfold iss tats
    rw [List.map_map]
    rfl
theorem bays_ok {qs : List Pt} (h1 : qs.length ≤ 1000) (hp : SmR qs) : F39 [fo qs] = some (.va (.tup (nts (bys qs)))) := by
  have ht := turns_ok h1 hp
  refine runD_eq ?_
  show Ho (m39 [.va (fo qs), .no, .no]) _
  unfold m39
  generalize F38 = G at ht
  have hlen : (iss (tats qs)).length = qs.length := by unfold iss tats; simp
  simp only [↓hos, ↓gz, ↓List.getElem?_cons_succ, ht, ↓resH_same, en_gen hlen (fun i h => getD_tats h)]
  refine ⟨rfl, ?_⟩
  refine ho_compE (fun d => if decide (snd_ d < 0) = true then some (hd_ d) else none) (fun d hd => ?_) (by simp; omega) ?_
  · obtain ⟨i, hi, rfl⟩ := List.mem_map.mp hd
    rw [show wipeE [Sl.va (fo qs), .no, .no] [1, 2] = [.va (fo qs), .no, .no] from rfl, show tgTup 2 (tgCons (tgN 1) (tgCons (tgN 2) tgNil)) (D.tup [.int (i : Nat), .int (tat qs i)]) [Sl.va (fo qs), .no, .no] = some [.va (fo qs), .va (.int (i : Nat)), .va (.int (tat qs i))] from rfl, optH_some]
    simp only [↓hos, ↓gz, ↓List.getElem?_cons_succ]
    show (if decide (tat qs i < 0) = true then _ else _)
    by_cases h : tat qs i < 0
    · rw [decide_eq_true h]
      simp only [if_true]
      exact ⟨rfl, by rw [if_pos (decide_eq_true (show snd_ (D.tup [.int (i : Nat), .int (tat qs i)]) < 0 from h))]; rfl⟩
    · rw [decide_eq_false h]
      simp only [Bool.false_eq_true, if_false]
      exact ⟨rfl, by rw [decide_eq_false (show ¬ snd_ (D.tup [.int (i : Nat), .int (tat qs i)]) < 0 from h)]; rfl⟩
  · rw [filt_nts (P := fun i => decide (tat qs i < 0)) (x := fun i => D.int (tat qs i)) (t := fun d => decide (snd_ d < 0)) fun i => rfl]
    simp only [↓hos]
    rfl
theorem convex_ok {qs : List Pt} (h1 : qs.length ≤ 1000) (hp : SmR qs) : F40 [fo qs] = some (.va (.bl (bys qs).isEmpty)) := by
  have ht := bays_ok h1 hp
  refine runD_eq ?_
  show Ho (m40 [.va (fo qs)]) _
  unfold m40
  generalize F39 = G at ht
  simp only [↓hos, ↓gz, ↓List.getElem?_cons_succ, ht, ↓resH_same, truD]
  refine ⟨rfl, ?_⟩
  unfold nts
  cases bys qs <;> rfl
theorem beyond_ok {qs : List Pt} (h1 : qs.length ≤ 1000) (hp : SmR qs) : F41 [fo qs] = some (.va (match bsd qs with
    | some (i, j) => .tup [.int (i : Nat), .int (j : Nat)]
    | none => .non)) := by
  have hs := sides_ok h1
  have ht : ∀ i (c : Pt), F10 [pt (side qs i).1, pt (side qs i).2, pt c] = some (.va (.int (sg (crs (side qs i).1 (side qs i).2 c)))) := fun i c => turn_ok (side_sm hp).1 (side_sm hp).2
  refine runD_eq ?_
  show Ho (m41 [.va (fo qs), .no, .no, .no, .no, .no]) _
  unfold m41
  generalize F30 = S at hs
  generalize F10 = T at ht
  have hlen : ((sds qs).map sd).length = qs.length := by unfold sds; simp
  have hlen2 : (qs.map pt).length = qs.length := by simp
  refine seq_i (fun ρ => bsd qs = none) ?_ fun ρ e => ?_
  · have fc : ∀ {Q : R → ES → Prop} {a b c d e : Sl}, Q (.va (.tup (qs.map pt))) [.va (fo qs), a, b, c, d, e] → Ho (evFld ct "corners" (evVar 0) [.va (fo qs), a, b, c, d, e]) Q := fun {Q a b c d e} h => by
      unfold fo at h ⊢
      simp only [↓hos, ↓gz, ↓fld_c]
      exact h
    rw [ho_evFor, ho_evEn, ho_evCons, ho_evCall, ho_evN, ho_evCons]
    refine fc ?_
    simp only [↓hos, ↓gz, ↓List.getElem?_cons_succ, hs, resH, en_gen hlen (fun i h => getD_sds h)]
    refine ⟨rfl, ?_⟩
    refine (for_find (fun ρ => ∃ a b c d e, ρ = [.va (fo qs), a, b, c, d, e]) (fun d => (List.range qs.length).findSome? fun j => if sg (crs (side qs (toN (hd_ d))).1 (side qs (toN (hd_ d))).2 (hh qs j)) < 0 then some (.va (.tup [.int (toN (hd_ d) : Nat), .int (j : Nat)])) else none) _ _ ⟨_, _, _, _, _, rfl⟩ ?_).imp fun fl ρ q => ?_
    · rintro d hd ρ ⟨a, b, c, x, y, rfl⟩
      obtain ⟨i, hi, rfl⟩ := List.mem_map.mp hd
      rw [show tgTup 2 (tgCons (tgN 1) (tgCons (tgTup 2 (tgCons (tgN 2) (tgCons (tgN 3) tgNil))) tgNil)) (D.tup [.int (i : Nat), sd (side qs i)]) [.va (fo qs), a, b, c, x, y] = some [.va (fo qs), .va (.int (i : Nat)), .va (pt (side qs i).1), .va (pt (side qs i).2), x, y] from rfl, optH_some]
      rw [show toN (hd_ (D.tup [.int (i : Nat), sd (side qs i)])) = i from toN_int]
      rw [ho_evFor, ho_evEn, ho_evCons]
      refine fc ?_
      simp only [↓hos, ↓gz, ↓List.getElem?_cons_succ, en_gen hlen2 (fun i h => getD_pts h)]
      refine (for_find (fun ρ => ∃ x y, ρ = [.va (fo qs), .va (.int (i : Nat)), .va (pt (side qs i).1), .va (pt (side qs i).2), x, y]) (fun d => if sg (crs (side qs i).1 (side qs i).2 (hh qs (toN (hd_ d)))) < 0 then some (.va (.tup [.int (i : Nat), .int (toN (hd_ d) : Nat)])) else none) _ _ ⟨_, _, rfl⟩ ?_).imp fun fl ρ q => ?_
      · rintro d hd ρ ⟨x, y, rfl⟩
        obtain ⟨j, hj, rfl⟩ := List.mem_map.mp hd
        rw [show tgTup 2 (tgCons (tgN 4) (tgCons (tgN 5) tgNil)) (D.tup [.int (j : Nat), pt (hh qs j)]) [.va (fo qs), .va (.int (i : Nat)), .va (pt (side qs i).1), .va (pt (side qs i).2), x, y] = some [.va (fo qs), .va (.int (i : Nat)), .va (pt (side qs i).1), .va (pt (side qs i).2), .va (.int (j : Nat)), .va (pt (hh qs j))] from rfl, optH_some]
        rw [show toN (hd_ (D.tup [.int (j : Nat), pt (hh qs j)])) = j from toN_int]
        by_cases h : sg (crs (side qs i).1 (side qs i).2 (hh qs j)) < 0
        · rw [if_pos h]
          refine if_t ?_ ?_
          · simp only [↓hos, ↓gz, ↓List.getElem?_cons_succ, ht, ↓resH_same, h, decide_true]
            exact ⟨rfl, trivial, trivial⟩
          · simp only [↓hos, ↓gz, ↓List.getElem?_cons_succ]
            first | exact ⟨rfl, rfl⟩ | exact ⟨trivial, rfl⟩ | exact ⟨rfl, trivial⟩ | exact ⟨trivial, trivial⟩
        · rw [if_neg h]
          refine if_f ?_ ?_
          · simp only [↓hos, ↓gz, ↓List.getElem?_cons_succ, ht, ↓resH_same, h, decide_false]
            exact ⟨rfl, trivial, trivial⟩
          · exact ⟨rfl, _, _, rfl⟩
      · rw [List.findSome?_map] at q
        have e : ((fun d => if sg (crs (side qs i).1 (side qs i).2 (hh qs (toN (hd_ d)))) < 0 then some (R.va (.tup [.int (i : Nat), .int (toN (hd_ d) : Nat)])) else none) ∘ fun (j : Nat) => D.tup [.int (j : Nat), pt (hh qs j)]) = fun j => if sg (crs (side qs i).1 (side qs i).2 (hh qs j)) < 0 then some (R.va (.tup [.int (i : Nat), .int (j : Nat)])) else none := funext fun j => by
          show (if sg (crs (side qs i).1 (side qs i).2 (hh qs (toN (.int (j : Nat))))) < 0 then some (R.va (.tup [.int (i : Nat), .int (toN (.int (j : Nat)) : Nat)])) else none) = _
          rw [toN_int]
        rw [e] at q
        cases hc : (List.range qs.length).findSome? fun j => if sg (crs (side qs i).1 (side qs i).2 (hh qs j)) < 0 then some (R.va (.tup [.int (i : Nat), .int (j : Nat)])) else none with
        | some v =>
          rw [hc] at q
          exact q
        | none =>
          rw [hc] at q
          obtain ⟨q1, y, z, q2⟩ := q
          exact ⟨q1, _, _, _, _, _, q2⟩
    · rw [List.findSome?_map] at q
      have e : ((fun d => (List.range qs.length).findSome? fun j => if sg (crs (side qs (toN (hd_ d))).1 (side qs (toN (hd_ d))).2 (hh qs j)) < 0 then some (R.va (.tup [.int (toN (hd_ d) : Nat), .int (j : Nat)])) else none) ∘ fun (i : Nat) => D.tup [.int (i : Nat), sd (side qs i)]) = fun i => ((List.range qs.length).findSome? fun j => if sg (crs (side qs i).1 (side qs i).2 (hh qs j)) < 0 then some (i, j) else none).map fun z => R.va (.tup [.int (z.1 : Nat), .int (z.2 : Nat)]) := funext fun i => by
        show ((List.range qs.length).findSome? fun j => if sg (crs (side qs (toN (.int (i : Nat)))).1 (side qs (toN (.int (i : Nat)))).2 (hh qs j)) < 0 then some (R.va (.tup [.int (toN (.int (i : Nat)) : Nat), .int (j : Nat)])) else none) = _
        rw [toN_int, ← fs_map]
        congr 1
        funext j
        split <;> rfl
      rw [e, fs_map] at q
      change (match (bsd qs).map (fun z => R.va (.tup [.int (z.1 : Nat), .int (z.2 : Nat)])) with
        | some v => fl = .rt v
        | none => _) at q
      cases hS : bsd qs with
      | some z =>
        rw [hS] at q
        simp only [Option.map] at q
        subst q
        rfl
      | none =>
        rw [hS] at q
        simp only [Option.map] at q
        obtain ⟨rfl, _⟩ := q
        exact rfl
  · rw [e]
    simp only [↓hos]
    rfl
end Lw
end Mc
end
section
set_option Elab.async false
set_option linter.all false
set_option maxRecDepth 100000
set_option maxHeartbeats 4000000
set_option autoImplicit false
namespace Mc
namespace Lw
open PySem PySem.Spec L2
theorem anyD_bls {bs : List Bool} : anyD [.lst (bs.map D.bl)] = some (.va (.bl (bs.any id))) := by
  have : ∀ bs : List Bool, optAll trD (bs.map D.bl) = some bs := fun bs => by
    induction bs with
    | nil => rfl
    | cons b bs ih =>
      rw [List.map_cons]
      unfold optAll
      rw [ih]
      rfl
  unfold anyD
  simp only [sqDs, this, Option.map]
theorem onby_ok {qs : List Pt} {p : Pt} (h1 : qs.length ≤ 1000) (hp : SmR qs) : F42 [.tup (qs.map pt), pt p] = some (.va (.bl (obd qs p))) := by
  have hs := sides_ok h1
  have hb : ∀ i, F11 [pt (side qs i).1, pt (side qs i).2, pt p] = some (.va (.bl (btw (side qs i).1 (side qs i).2 p))) := fun i => btw_ok (side_sm hp).1 (side_sm hp).2
  refine runD_eq ?_
  show Ho (m42 [.va (.tup (qs.map pt)), .va (pt p), .no, .no]) _
  unfold m42
  generalize F30 = S at hs
  generalize F11 = B at hb
  simp only [↓hos, ↓gz, ↓List.getElem?_cons_succ, hs, resH]
  refine ⟨rfl, ?_⟩
  refine ho_compE (fun d => some (.bl (btw (unp (hd_ d)) (unp (tl_ d)) p))) (fun d hd => ?_) (by unfold sds; simp; omega) ?_
  · obtain ⟨s, hs', rfl⟩ := List.mem_map.mp hd
    obtain ⟨i, hi, rfl⟩ := List.mem_map.mp hs'
    rw [show wipeE [Sl.va (.tup (qs.map pt)), .va (pt p), .no, .no] [2, 3] = [.va (.tup (qs.map pt)), .va (pt p), .no, .no] from rfl, show tgTup 2 (tgCons (tgN 2) (tgCons (tgN 3) tgNil)) (sd (side qs i)) [Sl.va (.tup (qs.map pt)), .va (pt p), .no, .no] = some [.va (.tup (qs.map pt)), .va (pt p), .va (pt (side qs i).1), .va (pt (side qs i).2)] from rfl, optH_some]
    simp only [↓hos, if_true, ↓gz, ↓List.getElem?_cons_succ, hb, ↓resH_same]
    exact ⟨rfl, rfl, rfl⟩
  · rw [fm_some, List.map_map]
    have e : (sds qs).map ((fun d => D.bl (btw (unp (hd_ d)) (unp (tl_ d)) p)) ∘ sd) = ((sds qs).map fun s => btw s.1 s.2 p).map D.bl := by
      rw [List.map_map]
      rfl
    rw [e]
    simp only [↓hos, anyD_bls]
    rw [List.any_map]
    rfl
theorem onb_ok {qs : List Pt} {p : Pt} (h1 : qs.length ≤ 1000) (hp : SmR qs) : F43 [fo qs, pt p] = some (.va (.bl (obd qs p))) := by
  have hs := onby_ok (p := p) h1 hp
  refine runD_eq ?_
  show Ho (m43 [.va (fo qs), .va (pt p)]) _
  unfold m43 fo
  generalize F42 = S at hs
  simp only [↓hos, ↓gz, ↓List.getElem?_cons_succ, ↓fld_c, need_pt, hs, ↓resH_same]
  exact ⟨rfl, rfl, rfl⟩
theorem upw_ok {s : Sd} : F44 [sd s] = some (.va (.bl (upw s))) := by
  refine runD_eq ?_
  show Ho (m44 [.va (sd s), .no, .no]) _
  unfold m44 upw
  refine seq_i (fun ρ => ρ = [.va (sd s), .va (.int (s.2.1 - s.1.1)), .va (.int (s.2.2 - s.1.2))]) ?_ fun ρ e => ?_
  · simp only [↓hos, ↓gz, ↓List.getElem?_cons_succ, sd_at0, sd_at1, pt_at0, pt_at1]
    exact ⟨rfl, rfl⟩
  subst e
  simp only [↓hos, ↓gz, ↓List.getElem?_cons_succ, truD]
  cases decide (0 < s.2.2 - s.1.2) with
  | true => rfl
  | false =>
    simp only [Bool.false_eq_true, if_false]
    cases decide (s.2.2 - s.1.2 = 0) with
    | true => rfl
    | false => rfl
theorem gbk_ok {qs : List Pt} {i : Nat} (h : i < qs.length) (hp : SmR qs) : F45 [.tup (qs.map pt), .int (i : Nat)] = some (.va (.bl (gbk qs i))) := by
  have ht := turn_ok (c := hh qs ((i + 1) % qs.length)) (hh_sm (i := prv qs.length i) hp) (hh_sm (i := i) hp)
  have hb := btw_ok (c := hh qs i) (hh_sm (i := prv qs.length i) hp) (hh_sm (i := (i + 1) % qs.length) hp)
  refine runD_eq ?_
  show Ho (m45 [.va (.tup (qs.map pt)), .va (.int (i : Nat)), .no, .no, .no]) _
  unfold m45 gbk
  generalize F10 = T at ht
  generalize F11 = B at hb
  refine seq_i (fun ρ => ρ = [.va (.tup (qs.map pt)), .va (.int (i : Nat)), .va (pt (hh qs (prv qs.length i))), .va (pt (hh qs i)), .va (pt (hh qs ((i + 1) % qs.length)))]) ?_ fun ρ e => ?_
  · simp only [↓hos, ↓gz, ↓List.getElem?_cons_succ, at_prv h, at_hh (rfl : ((i : Nat) : Int) = i) h, List.length_map, v_modn (show 0 < qs.length by omega), at_nxt h, Option.map]
    exact ⟨rfl, rfl⟩
  subst e
  simp only [↓hos, ↓gz, ↓List.getElem?_cons_succ, ht, ↓resH_same, truD]
  refine ⟨rfl, ?_⟩
  rw [show decide (sg (crs (hh qs (prv qs.length i)) (hh qs i) (hh qs ((i + 1) % qs.length))) = 0) = decide (tat qs i = 0) from rfl]
  generalize decide (tat qs i = 0) = k
  cases k with
  | true =>
    simp only [if_true, hb, ↓resH_same, ↓hos, truD]
    exact ⟨rfl, rfl⟩
  | false => rfl
theorem at_prvS {ps : List Pt} {i : Nat} (h : i < ps.length) : atI ((sds ps).map sd) ((i : Int) - 1) = some (sd (side ps (prv ps.length i))) := by
  have hl : ((sds ps).map sd).length = ps.length := by unfold sds; simp
  unfold prv
  by_cases h0 : i = 0
  · rw [if_pos h0]
    unfold L2.atI L2.ixN
    rw [hl, if_neg (by omega), if_pos (by omega)]
    simp only [Option.bind_some]
    rw [show (((i : Int) - 1) + (ps.length : Int)).toNat = ps.length - 1 by omega]
    exact getD_sds (by omega)
  · rw [if_neg h0, show ((i : Int) - 1) = ((i - 1 : Nat) : Int) by omega]
    exact at_sds (by omega)
theorem turnings_ok {qs : List Pt} (h0 : 3 ≤ qs.length) (h1 : qs.length ≤ 40) (nd : qs.Nodup) (hp : SmR qs) (hg : ∀ i, i < qs.length → gbk qs i = false) : F46 [.tup (qs.map pt)] = some (.va (.int (trn qs))) := by
  have e1 := ring_ok (ps := qs) (Or.inl rfl) h0 h1 nd
  have e2 : ∀ i, i < qs.length → F45 [.tup (qs.map pt), .int (i : Nat)] = some (.va (.bl false)) := fun i h => by rw [gbk_ok h hp, hg i h]
  have e3 := sides_ok (ps := qs) (by omega)
  have e4 : ∀ s, F44 [sd s] = some (.va (.bl (upw s))) := fun s => upw_ok
  have e5 : ∀ i, i < qs.length → F33 [.tup (qs.map pt), .int (i : Nat)] = some (.va (.int (tat qs i))) := fun i h => tat_ok h hp
  have r1 := rng1_eq (n := qs.length) (by omega)
  have key : ∃ r, F46 [.tup (qs.map pt)] = some r ∧ r = .va (.int (trn qs)) := by
    refine runD_ex ?_
    show Ho (m46 [.va (.tup (qs.map pt)), .no, .no, .no, .no, .no, .no, .no]) _
    unfold m46
    generalize F29 = G1 at e1
    generalize F45 = G2 at e2
    generalize F30 = G3 at e3
    generalize F44 = G4 at e4
    generalize F33 = G5 at e5
    generalize rngR1 = R1 at r1
    refine seq_i (fun ρ => ρ = [.va (.tup (qs.map pt)), .va (.tup (qs.map pt)), .no, .no, .no, .no, .no, .no]) ?_ fun ρ e => ?_
    · simp only [↓hos, ↓gz, ↓List.getElem?_cons_succ, e1, resH_same]
      exact ⟨rfl, lt_ok rfl, rfl⟩
    subst e
    refine seq_i (fun ρ => ρ = [.va (.tup (qs.map pt)), .va (.tup (qs.map pt)), .no, .no, .no, .no, .no, .no]) ?_ fun ρ e => ?_
    · refine if_f ?_ rfl
      simp only [↓hos, ↓gz, ↓List.getElem?_cons_succ, List.length_map, r1]
      refine ho_compE (fun d => some (.bl false)) (fun d hd => ?_) (by simp; omega) ?_
      · obtain ⟨i, hi, rfl⟩ := List.mem_map.mp hd
        have hi := List.mem_range.mp hi
        rw [show wipeE [Sl.va (.tup (qs.map pt)), .va (.tup (qs.map pt)), .no, .no, .no, .no, .no, .no] [4] = [.va (.tup (qs.map pt)), .va (.tup (qs.map pt)), .no, .no, .no, .no, .no, .no] from rfl, show tgN 4 (D.int (i : Nat)) [Sl.va (.tup (qs.map pt)), .va (.tup (qs.map pt)), .no, .no, .no, .no, .no, .no] = some [.va (.tup (qs.map pt)), .va (.tup (qs.map pt)), .no, .no, .va (.int (i : Nat)), .no, .no, .no] from rfl, optH_some]
        simp only [↓hos, if_true, ↓gz, ↓List.getElem?_cons_succ, e2 i hi, ↓resH_same]
        exact ⟨rfl, rfl, trivial⟩
      · rw [fm_some, List.map_map, show (List.range qs.length).map ((fun _ => D.bl false) ∘ fun (i : Nat) => D.int (i : Nat)) = ((List.range qs.length).map fun _ => false).map D.bl by rw [List.map_map]; rfl]
        simp only [↓hos, anyD_bls, truD]
        rw [List.any_map]
        refine ⟨?_, rfl⟩
        rw [List.any_eq_false]
        intro x _
        simp
    subst e
    refine seq_i (fun ρ => ρ = [.va (.tup (qs.map pt)), .va (.tup (qs.map pt)), .ow ((sds qs).map sd), .va (.int 0), .no, .no, .no, .no]) ?_ fun ρ e => ?_
    · simp only [↓hos, ↓gz, ↓List.getElem?_cons_succ, e3, resH]
      exact ⟨rfl, rfl, rfl⟩
    subst e
    refine seq_i (fun ρ => ∃ a b c d, ρ = [.va (.tup (qs.map pt)), .va (.tup (qs.map pt)), .ow ((sds qs).map sd), .va (.int (trn qs)), a, b, c, d]) ?_ fun ρ ⟨a, b, c, d, e⟩ => ?_
    · simp only [↓hos, ↓gz, ↓List.getElem?_cons_succ, List.length_map, r1]
      refine forM_inv (fun ds ρ => ∃ n m a b c d, n + m = qs.length ∧ ds = (List.range' n m).map (fun i => D.int (i : Nat)) ∧ ρ = [.va (.tup (qs.map pt)), .va (.tup (qs.map pt)), .ow ((sds qs).map sd), .va (.int ((List.range n).foldl (trs qs) 0)), a, b, c, d]) ?_ ?_ _ _ ⟨0, qs.length, _, _, _, _, by omega, by rw [List.range_eq_range'], rfl⟩
      · rintro d ds ρ ⟨n, m, a, b, c, x, hn, ed, rfl⟩
        cases m with
        | zero => cases ed
        | succ m =>
          rw [List.range'_succ, List.map_cons] at ed
          cases ed
          have hi : n < qs.length := by omega
          rw [show tgN 4 (D.int (n : Nat)) [.va (.tup (qs.map pt)), .va (.tup (qs.map pt)), .ow ((sds qs).map sd), .va (.int ((List.range n).foldl (trs qs) 0)), a, b, c, x] = some [.va (.tup (qs.map pt)), .va (.tup (qs.map pt)), .ow ((sds qs).map sd), .va (.int ((List.range n).foldl (trs qs) 0)), .va (.int (n : Nat)), b, c, x] from rfl, optH_some]
          have hnx : (List.range (n + 1)).foldl (trs qs) 0 = trs qs ((List.range n).foldl (trs qs) 0) n := by
            rw [List.range_succ, List.foldl_append]
            rfl
          suffices h : ∀ t : Int, Ho (evSeq (evPar3 5 6 7 (evCall G4 (evN 1 (evCons (evBin ixD (evVar 2) (evBin (intD gSub) (evVar 4) (evC (.int 1)))) evNil))) (evCall G4 (evN 1 (evCons (evBin ixD (evVar 2) (evVar 4)) evNil))) (evCall G5 (evN 2 (evCons (evVar 1) (evCons (evVar 4) evNil))))) (evSeq (evIf (evAndT (evBl (evBin gtD (evVar 7) (evC (.int 0)))) (evAndT (evTru (evVar 6)) (evNotT (evTru (evVar 5))))) (evAsg 3 (evBin addD (evVar 3) (evC (.int 1)))) evSkip) (evIf (evAndT (evBl (evBin ltD (evVar 7) (evC (.int 0)))) (evAndT (evTru (evVar 5)) (evNotT (evTru (evVar 6))))) (evAsg 3 (evBin (intD gSub) (evVar 3) (evC (.int 1)))) evSkip)) [.va (.tup (qs.map pt)), .va (.tup (qs.map pt)), .ow ((sds qs).map sd), .va (.int t), .va (.int (n : Nat)), b, c, x]) fun fl ρ => fl = .nx ∧ ∃ b c x, ρ = [.va (.tup (qs.map pt)), .va (.tup (qs.map pt)), .ow ((sds qs).map sd), .va (.int (trs qs t n)), .va (.int (n : Nat)), b, c, x] by
            refine (h ((List.range n).foldl (trs qs) 0)).imp fun fl ρ ⟨q1, b, c, x, q2⟩ => ?_
            subst q1 q2
            exact ⟨n + 1, m, _, _, _, _, by omega, rfl, by rw [hnx]⟩
          intro t
          refine seq_i (fun ρ => ρ = [.va (.tup (qs.map pt)), .va (.tup (qs.map pt)), .ow ((sds qs).map sd), .va (.int t), .va (.int (n : Nat)), .va (.bl (upw (side qs (prv qs.length n)))), .va (.bl (upw (side qs n))), .va (.int (tat qs n))]) ?_ fun ρ e => ?_
          · simp only [↓hos, ↓gz, ↓List.getElem?_cons_succ, at_prvS hi, at_sds hi, Option.map, e4, e5 n hi, ↓resH_same]
            exact ⟨rfl, rfl, rfl, rfl, rfl⟩
          subst e
          unfold trs
          generalize upw (side qs (prv qs.length n)) = u
          generalize upw (side qs n) = v
          generalize tat qs n = w
          refine seq_i (fun ρ => ρ = [.va (.tup (qs.map pt)), .va (.tup (qs.map pt)), .ow ((sds qs).map sd), .va (.int (if 0 < w ∧ v = true ∧ u = false then t + 1 else t)), .va (.int (n : Nat)), .va (.bl u), .va (.bl v), .va (.int w)]) ?_ fun ρ e => ?_
          · by_cases hw : 0 < w
            · cases u <;> cases v <;> simp only [↓hos, ↓gz, ↓List.getElem?_cons_succ, hw, decide_true, if_true, truD, Bool.not_false, Bool.not_true, Bool.false_eq_true, if_false, true_and, and_self, and_true, and_false, false_and, reduceCtorEq] <;> try (first | exact ⟨lt_ok rfl, rfl⟩ | rfl)
            · simp only [↓hos, ↓gz, ↓List.getElem?_cons_succ, hw, decide_false, Bool.false_eq_true, if_false, false_and]
              try rfl
          subst e
          show Ho _ fun (fl : Fl) ρ => fl = Fl.nx ∧ ∃ b c x, ρ = [.va (.tup (qs.map pt)), .va (.tup (qs.map pt)), .ow ((sds qs).map sd), .va (.int (if w < 0 ∧ u = true ∧ v = false then (if 0 < w ∧ v = true ∧ u = false then t + 1 else t) - 1 else (if 0 < w ∧ v = true ∧ u = false then t + 1 else t))), .va (.int (n : Nat)), b, c, x]
          generalize (if 0 < w ∧ v = true ∧ u = false then t + 1 else t) = t2
          by_cases hw : w < 0
          · cases u <;> cases v <;> simp only [↓hos, ↓gz, ↓List.getElem?_cons_succ, hw, decide_true, if_true, truD, Bool.not_false, Bool.not_true, Bool.false_eq_true, if_false, true_and, and_self, and_true, and_false, false_and, reduceCtorEq] <;> try first | exact ⟨lt_ok rfl, rfl, _, _, _, rfl⟩ | exact ⟨_, _, _, rfl⟩ | exact ⟨rfl, _, _, _, rfl⟩ | exact ⟨lt_ok rfl, _, _, _, rfl⟩ | exact ⟨lt_ok rfl, trivial, _, _, _, rfl⟩ | exact ⟨trivial, _, _, _, rfl⟩
          · simp only [↓hos, ↓gz, ↓List.getElem?_cons_succ, hw, decide_false, Bool.false_eq_true, if_false, false_and]
            first | exact ⟨rfl, _, _, _, rfl⟩ | exact ⟨trivial, _, _, _, rfl⟩ | exact ⟨_, _, _, rfl⟩
      · rintro ρ ⟨n, m, a, b, c, d, hn, ed, rfl⟩
        cases m with
        | succ m => cases ed
        | zero =>
          have : n = qs.length := by omega
          subst this
          exact ⟨_, _, _, _, rfl⟩
    · subst e
      simp only [↓hos, ↓gz, ↓List.getElem?_cons_succ]
      rfl
  obtain ⟨r, e, rfl⟩ := key
  exact e
end Lw
end Mc
end
section
set_option Elab.async false
set_option linter.all false
set_option maxRecDepth 100000
set_option maxHeartbeats 4000000
set_option autoImplicit false
namespace Mc
namespace Lw
open PySem PySem.Spec L2
theorem lcross_ok {a b c : Pt} (ha : Sm a) (hb : Sm b) : F52 [pt a, pt b, pt c] = some (.va (.int (crs a b c))) := by
  obtain ⟨a1, a2, a3, a4⟩ := ha
  obtain ⟨b1, b2, b3, b4⟩ := hb
  refine runD_eq ?_
  show Ho (m52 [.va (pt a), .va (pt b), .va (pt c)]) _
  unfold m52 pt
  simp only [↓hos, ↓gz, ↓List.getElem?_cons_succ, at0, at1, Option.map, v_mul (sm_l (j := c.2 - a.2) (show -1000000 ≤ b.1 - a.1 by omega) (by omega)), v_mul (sm_l (j := c.1 - a.1) (show -1000000 ≤ b.2 - a.2 by omega) (by omega))]
  rfl
theorem lturn_ok {a b c : Pt} (ha : Sm a) (hb : Sm b) : F53 [pt a, pt b, pt c] = some (.va (.int (sg (crs a b c)))) := by
  have h := lcross_ok (c := c) ha hb
  refine runD_eq ?_
  show Ho (m53 [.va (pt a), .va (pt b), .va (pt c), .no]) _
  unfold m53 sg
  generalize F52 = G at h
  refine seq_i (fun ρ => ρ = [.va (pt a), .va (pt b), .va (pt c), .va (.int (crs a b c))]) ?_ fun ρ e => ?_
  · simp only [↓hos, ↓gz, ↓List.getElem?_cons_succ, h, ↓resH_same]
    exact ⟨rfl, lt_ok rfl, rfl⟩
  subst e
  generalize crs a b c = i
  rcases (show 0 < i ∨ i = 0 ∨ i < 0 by omega) with h | h | h
  · simp only [↓hos, ↓gz, ↓List.getElem?_cons_succ, h, decide_true, if_true]
    rfl
  · subst h
    simp only [↓hos, ↓gz, ↓List.getElem?_cons_succ]
    rfl
  · have h' : ¬ 0 < i := by omega
    simp only [↓hos, ↓gz, ↓List.getElem?_cons_succ, h, h', decide_true, decide_false, Bool.false_eq_true, if_true, if_false]
    rfl
theorem ldiv_ok {a b : Int} : F50 [.int a, .int b] = some (.va (.int (Nat.gcd a.natAbs b.natAbs : Nat))) := by
  have key : ∃ r, F50 [.int a, .int b] = some r ∧ r = .va (.int (Nat.gcd a.natAbs b.natAbs : Nat)) := by
    refine runD_ex ?_
    show Ho (m50 [.va (.int a), .va (.int b)]) _
    unfold m50
    refine seq_i (fun ρ => ρ = [.va (.int (a.natAbs : Nat)), .va (.int (b.natAbs : Nat))]) ?_ fun ρ e => ?_
    · simp only [↓hos, ↓gz, ↓List.getElem?_cons_succ]
      rw [show (if a < 0 then -a else a) = (a.natAbs : Int) by split <;> omega, show (if b < 0 then -b else b) = (b.natAbs : Int) by split <;> omega]
      exact ⟨rfl, rfl⟩
    subst e
    refine seq_i (fun ρ => ∃ y : Sl, ρ = [.va (.int (Nat.gcd a.natAbs b.natAbs : Nat)), y]) ?_ fun ρ ⟨y, e⟩ => ?_
    · refine ho_evWhile (fun k ρ => ∃ x : Nat, ρ = [.va (.int (x : Nat)), .va (.int (k : Nat))] ∧ Nat.gcd x k = Nat.gcd a.natAbs b.natAbs) ?_ b.natAbs ⟨a.natAbs, rfl, rfl⟩
      rintro k ρ ⟨x, rfl, hx⟩
      by_cases hk : k = 0
      · subst hk
        simp only [↓hos, ↓gz, ↓List.getElem?_cons_succ]
        show _
        rw [Nat.gcd_zero_right] at hx
        rw [hx]
        exact ⟨_, rfl⟩
      · have hk' : ¬ ((k : Nat) : Int) = 0 := by omega
        simp only [↓hos, ↓gz, ↓List.getElem?_cons_succ, hk', decide_false, Bool.not_false, if_true, v_mod (show (0 : Int) < (k : Nat) by omega)]
        refine ⟨rfl, x % k, Nat.mod_lt _ (by omega), k, ?_, ?_⟩
        · rw [Int.natCast_emod]
          rfl
        · rw [← hx, Nat.gcd_comm k (x % k), Nat.gcd_comm x k]
          exact (Nat.gcd_rec k x).symm
    · subst e
      simp only [↓hos, ↓gz]
      rfl
  obtain ⟨r, e, rfl⟩ := key
  exact e
theorem lspot_ok {x y d : Int} (hd : 0 < d) (hb : d.natAbs < 1073741824) : F51 [.int x, .int y, .int d] = some (.va (lspt x y d).d) := by
  obtain ⟨g1, g2⟩ := gcd_pos (x := x) (y := y) (d := d) (by omega)
  have e1 := ldiv_ok (a := x) (b := y)
  have e2 : F50 [.int (Nat.gcd x.natAbs y.natAbs : Nat), .int d] = some (.va (.int ((Nat.gcd x.natAbs y.natAbs).gcd d.natAbs : Nat))) := by
    have := ldiv_ok (a := (Nat.gcd x.natAbs y.natAbs : Nat)) (b := d)
    rw [Int.natAbs_natCast] at this
    exact this
  refine runD_eq ?_
  show Ho (m51 [.va (.int x), .va (.int y), .va (.int d), .no]) _
  unfold m51 lspt
  generalize F50 = G at e1 e2
  refine seq_i (fun ρ => ρ = [.va (.int x), .va (.int y), .va (.int d), .va (.int ((Nat.gcd x.natAbs y.natAbs).gcd d.natAbs : Nat))]) ?_ fun ρ e => ?_
  · simp only [↓hos, ↓gz, ↓List.getElem?_cons_succ, e1, ↓resH_same, e2]
    exact ⟨rfl, rfl, lt_ok rfl, rfl⟩
  subst e
  generalize (Nat.gcd x.natAbs y.natAbs).gcd d.natAbs = g at g1 g2
  have hn : ¬ d < 0 := by omega
  refine seq_i (fun ρ => ρ = [.va (.int x), .va (.int y), .va (.int d), .va (.int (g : Nat))]) ?_ fun ρ e => ?_
  · simp only [↓hos, ↓gz, ↓List.getElem?_cons_succ, hn, decide_false, Bool.false_eq_true, if_false]
    exact ⟨lt_ok rfl, rfl⟩
  subst e
  simp only [↓hos, ↓gz, ↓List.getElem?_cons_succ, v_div (show (0 : Int) < (g : Nat) ∧ ((g : Nat) : Int) < 1073741824 by omega)]
  exact ⟨rfl, rfl⟩
abbrev S54 (s t : Sd) (b lo hi f e : Sl) : ES := [.va (sd s), .va (sd t), .va (pt s.1), .va (pt s.2), .va (pt t.1), .va (pt t.2), .va (.int (s.2.1 - s.1.1)), .va (.int (s.2.2 - s.1.2)), .va (.int (t.2.1 - t.1.1)), .va (.int (t.2.2 - t.1.2)), b, lo, hi, f, e]
theorem bt0_bd {s t : Sd} (hs : SmS s) (ht : SmS t) : Bd 16000000 (bt0 s t) := by
  have h1 := crs_bd hs.1 hs.2 ht.1
  have h2 := crs_bd hs.1 hs.2 ht.2
  rw [crs_se] at h1
  rw [crs_sb] at h2
  unfold Bd at *
  omega
theorem srt_0 {ρ : ES} {i j : Nat} {a b : Pt} {Q : R → ES → Prop} (hi : ρ[i]? = some (.va (pt a))) (hj : ρ[j]? = some (.va (pt b))) (h : Q (.va (pt (lmn a b))) ρ) : Ho (evBin ixD (evB srtD (evCons (evLst (evCons (evVar i) (evCons (evVar j) evNil))) evNil)) (evC (.int 0)) ρ) Q := by
  have a0 : atI [pt (lmn a b), pt (lgt a b)] 0 = some (pt (lmn a b)) := rfl
  simp only [↓hos, hi, hj]
  refine ⟨rfl, ?_⟩
  simp only [↓hos, srt2, a0, Option.map]
  exact h
theorem srt_1 {ρ : ES} {i j : Nat} {a b : Pt} {Q : R → ES → Prop} (hi : ρ[i]? = some (.va (pt a))) (hj : ρ[j]? = some (.va (pt b))) (h : Q (.va (pt (lmx a b))) ρ) : Ho (evBin ixD (evB srtD (evCons (evLst (evCons (evVar i) (evCons (evVar j) evNil))) evNil)) (evC (.int 1)) ρ) Q := by
  have a1 : atI [pt (lmn a b), pt (lgt a b)] 1 = some (pt (lgt a b)) := rfl
  simp only [↓hos, hi, hj]
  refine ⟨rfl, ?_⟩
  simp only [↓hos, srt2, a1, Option.map]
  rw [lgt_mx]
  exact h
theorem lcommon_ok {s t : Sd} (hs : SmS s) (ht : SmS t) : F54 [sd s, sd t] = some (.va (cmn s t).d) := by
  rw [← lcmn_eq]
  have hc := lcross_ok (c := t.1) hs.1 hs.2
  have hspot : ∀ {x y d : Int}, 0 < d → d.natAbs < 1073741824 → F51 [.int x, .int y, .int d] = some (.va (lspt x y d).d) := fun h1 h2 => lspot_ok h1 h2
  have hbd := bt0_bd hs ht
  unfold Bd at hbd
  refine runD_eq ?_
  show Ho (m54 [.va (sd s), .va (sd t), .no, .no, .no, .no, .no, .no, .no, .no, .no, .no, .no, .no, .no]) _
  unfold m54
  generalize F52 = G1 at hc
  generalize F51 = G2 at hspot
  obtain ⟨⟨x1, x2, x3, x4⟩, ⟨x5, x6, x7, x8⟩⟩ := hs
  obtain ⟨⟨y1, y2, y3, y4⟩, ⟨y5, y6, y7, y8⟩⟩ := ht
  refine seq_i (fun ρ => ρ = [.va (sd s), .va (sd t), .va (pt s.1), .va (pt s.2), .va (pt t.1), .va (pt t.2), .no, .no, .no, .no, .no, .no, .no, .no, .no]) ?_ fun ρ e => ?_
  · simp only [↓hos, ↓gz, ↓List.getElem?_cons_succ]
    exact ⟨rfl, rfl⟩
  subst e
  refine seq_i (fun ρ => ρ = S54 s t .no .no .no .no .no) ?_ fun ρ e => ?_
  · simp only [↓hos, ↓gz, ↓List.getElem?_cons_succ, pt_at0, pt_at1]
    exact ⟨rfl, rfl⟩
  subst e
  refine seq_i (fun ρ => ρ = S54 s t (.va (.int (bt0 s t))) .no .no .no .no) ?_ fun ρ e => ?_
  · simp only [↓hos, ↓gz, ↓List.getElem?_cons_succ, v_mul (sm_l (j := t.2.2 - t.1.2) (show -1000000 ≤ s.2.1 - s.1.1 by omega) (by omega)), v_mul (sm_l (j := t.2.1 - t.1.1) (show -1000000 ≤ s.2.2 - s.1.2 by omega) (by omega))]
    exact ⟨lt_ok rfl, rfl⟩
  subst e
  unfold lcmn
  by_cases hb : bt0 s t = 0
  · rw [if_pos hb]
    refine seq_i (fun _ => False) ?_ fun ρ z => z.elim
    refine if_t ?_ ?_
    · simp only [↓hos, ↓gz, ↓List.getElem?_cons_succ, hb, decide_true]
      first | exact ⟨rfl, rfl⟩ | exact ⟨trivial, rfl⟩ | exact ⟨rfl, trivial⟩ | exact ⟨trivial, trivial⟩
    by_cases h1 : crs s.1 s.2 t.1 = 0
    · refine seq_i (fun ρ => ρ = S54 s t (.va (.int (bt0 s t))) .no .no .no .no) ?_ fun ρ e => ?_
      · refine if_f ?_ rfl
        simp only [↓hos, ↓gz, ↓List.getElem?_cons_succ, hc, ↓resH_same, h1, decide_true]
        exact ⟨rfl, rfl, trivial⟩
      subst e
      refine seq_i (fun ρ => ρ = S54 s t (.va (.int (bt0 s t))) (.va (pt (lo2 s t))) (.va (pt (hi2 s t))) .no .no) ?_ fun ρ e => ?_
      · rw [ho_evPar2, ho_evB, ho_evCons]
        refine srt_0 (i := 2) (j := 3) (a := s.1) (b := s.2) rfl rfl ?_
        rw [ho_evCons]
        refine srt_0 (i := 4) (j := 5) (a := t.1) (b := t.2) rfl rfl ?_
        simp only [↓ho_evNil, ↓z_va, ↓rs_cons, ↓rs_nil, ↓r_va, ↓optH_some, mx2]
        rw [ho_evB, ho_evCons]
        refine srt_1 (i := 2) (j := 3) (a := s.1) (b := s.2) rfl rfl ?_
        rw [ho_evCons]
        refine srt_1 (i := 4) (j := 5) (a := t.1) (b := t.2) rfl rfl ?_
        simp only [↓ho_evNil, ↓z_va, ↓rs_cons, ↓rs_nil, ↓r_va, ↓optH_some, mn2]
        exact ⟨rfl, rfl⟩
      subst e
      rw [if_neg (show ¬ crs s.1 s.2 t.1 ≠ 0 by omega)]
      cases hl : llt (hi2 s t) (lo2 s t) with
      | true =>
        rw [if_pos rfl]
        refine seq_i (fun _ => False) ?_ fun ρ z => z.elim
        refine if_t ?_ ?_
        · simp only [↓hos, ↓gz, ↓List.getElem?_cons_succ, gtD_pt, hl]
          first | exact ⟨rfl, rfl⟩ | exact ⟨trivial, rfl⟩ | exact ⟨rfl, trivial⟩ | exact ⟨trivial, trivial⟩
        · simp only [↓hos]
          rfl
      | false =>
        rw [if_neg Bool.false_ne_true]
        refine seq_i (fun ρ => ρ = S54 s t (.va (.int (bt0 s t))) (.va (pt (lo2 s t))) (.va (pt (hi2 s t))) .no .no) ?_ fun ρ e => ?_
        · refine if_f ?_ rfl
          simp only [↓hos, ↓gz, ↓List.getElem?_cons_succ, gtD_pt, hl]
          first | exact ⟨rfl, rfl⟩ | exact ⟨trivial, rfl⟩ | exact ⟨rfl, trivial⟩ | exact ⟨trivial, trivial⟩
        subst e
        cases hl2 : llt (lo2 s t) (hi2 s t) with
        | true =>
          rw [if_pos rfl]
          simp only [↓hos, ↓gz, ↓List.getElem?_cons_succ, ltD_pt, hl2, if_true]
          exact ⟨rfl, rfl⟩
        | false =>
          rw [if_neg Bool.false_ne_true]
          simp only [↓hos, ↓gz, ↓List.getElem?_cons_succ, ltD_pt, hl2, Bool.false_eq_true, if_false, pt_at0, pt_at1]
          exact ⟨rfl, rfl⟩
    · rw [if_pos h1]
      refine seq_i (fun _ => False) ?_ fun ρ z => z.elim
      refine if_t ?_ ?_
      · simp only [↓hos, ↓gz, ↓List.getElem?_cons_succ, hc, ↓resH_same, h1, decide_false]
        exact ⟨rfl, rfl, trivial⟩
      · simp only [↓hos]
        rfl
  · rw [if_neg hb]
    refine seq_i (fun ρ => ρ = S54 s t (.va (.int (bt0 s t))) .no .no .no .no) ?_ fun ρ e => ?_
    · refine if_f ?_ rfl
      simp only [↓hos, ↓gz, ↓List.getElem?_cons_succ, hb, decide_false]
      first | exact ⟨rfl, rfl⟩ | exact ⟨trivial, rfl⟩ | exact ⟨rfl, trivial⟩ | exact ⟨trivial, trivial⟩
    subst e
    refine seq_i (fun ρ => ρ = S54 s t (.va (.int (bt0 s t))) .no .no (.va (.int (fi0 s t))) .no) ?_ fun ρ e => ?_
    · simp only [↓hos, ↓gz, ↓List.getElem?_cons_succ, pt_at0, pt_at1, v_mul (sm_l (j := t.2.2 - t.1.2) (show -1000000 ≤ t.1.1 - s.1.1 by omega) (by omega)), v_mul (sm_l (j := t.2.1 - t.1.1) (show -1000000 ≤ t.1.2 - s.1.2 by omega) (by omega))]
      exact ⟨lt_ok rfl, rfl⟩
    subst e
    refine seq_i (fun ρ => ρ = S54 s t (.va (.int (bt0 s t))) .no .no (.va (.int (fi0 s t))) (.va (.int (se0 s t)))) ?_ fun ρ e => ?_
    · simp only [↓hos, ↓gz, ↓List.getElem?_cons_succ, pt_at0, pt_at1, v_mul (sm_l (j := s.2.2 - s.1.2) (show -1000000 ≤ t.1.1 - s.1.1 by omega) (by omega)), v_mul (sm_l (j := s.2.1 - s.1.1) (show -1000000 ≤ t.1.2 - s.1.2 by omega) (by omega))]
      exact ⟨lt_ok rfl, rfl⟩
    subst e
    refine seq_i (fun ρ => ρ = S54 s t (.va (.int (if bt0 s t < 0 then -bt0 s t else bt0 s t))) .no .no (.va (.int (if bt0 s t < 0 then -fi0 s t else fi0 s t))) (.va (.int (if bt0 s t < 0 then -se0 s t else se0 s t)))) ?_ fun ρ e => ?_
    · by_cases hn : bt0 s t < 0
      · simp only [↓hos, ↓gz, ↓List.getElem?_cons_succ, hn, decide_true, if_true]
        exact ⟨rfl, rfl⟩
      · simp only [↓hos, ↓gz, ↓List.getElem?_cons_succ, hn, decide_false, Bool.false_eq_true, if_false]
    subst e
    have hB : 0 < (if bt0 s t < 0 then -bt0 s t else bt0 s t) ∧ (if bt0 s t < 0 then -bt0 s t else bt0 s t).natAbs < 1073741824 := by split <;> omega
    simp only
    generalize (if bt0 s t < 0 then -bt0 s t else bt0 s t) = B at hB
    generalize (if bt0 s t < 0 then -fi0 s t else fi0 s t) = f
    generalize (if bt0 s t < 0 then -se0 s t else se0 s t) = e
    have tst : Ho (evOrT (evNotT (evBl (evChain leD leD (evC (.int 0)) (evVar 13) (evVar 10)))) (evNotT (evBl (evChain leD leD (evC (.int 0)) (evVar 14) (evVar 10)))) (S54 s t (.va (.int B)) .no .no (.va (.int f)) (.va (.int e)))) fun k ρ => k = decide ((¬ (0 ≤ f ∧ f ≤ B)) ∨ (¬ (0 ≤ e ∧ e ≤ B))) ∧ ρ = S54 s t (.va (.int B)) .no .no (.va (.int f)) (.va (.int e)) := by
      have ch : ∀ {i : Nat} {z : Int} {Q : Bool → ES → Prop}, (S54 s t (.va (.int B)) .no .no (.va (.int f)) (.va (.int e)))[i]? = some (.va (.int z)) → Q (decide (0 ≤ z ∧ z ≤ B)) (S54 s t (.va (.int B)) .no .no (.va (.int f)) (.va (.int e))) → Ho (evBl (evChain leD leD (evC (.int 0)) (evVar i) (evVar 10)) (S54 s t (.va (.int B)) .no .no (.va (.int f)) (.va (.int e)))) Q := fun {i z Q} hi hQ => by
        simp only [↓hos, hi]
        by_cases hz : z < 0
        · rw [decide_eq_false (show ¬ (0 ≤ z ∧ z ≤ B) by omega)] at hQ
          simp only [hz, decide_true, Bool.not_true, Bool.false_eq_true, if_false, ↓hos]
          exact hQ
        · simp only [hz, decide_false, Bool.not_false, if_true, ↓hos, ↓gz, ↓List.getElem?_cons_succ, hi]
          rw [show (!decide (B < z)) = decide (0 ≤ z ∧ z ≤ B) from by
            by_cases hz2 : B < z
            · rw [decide_eq_true hz2, decide_eq_false (show ¬ (0 ≤ z ∧ z ≤ B) by omega)]; rfl
            · rw [decide_eq_false hz2, decide_eq_true (show 0 ≤ z ∧ z ≤ B by omega)]; rfl]
          exact hQ
      rw [ho_evOrT, ho_evNotT]
      refine ch (z := f) rfl ?_
      by_cases h1 : 0 ≤ f ∧ f ≤ B
      · simp only [decide_eq_true h1, Bool.not_true, Bool.false_eq_true, if_false]
        rw [ho_evNotT]
        refine ch (z := e) rfl ?_
        refine ⟨?_, rfl⟩
        by_cases h2 : 0 ≤ e ∧ e ≤ B
        · rw [decide_eq_true h2, decide_eq_false (show ¬ ((¬ (0 ≤ f ∧ f ≤ B)) ∨ (¬ (0 ≤ e ∧ e ≤ B))) by omega)]; rfl
        · rw [decide_eq_false h2, decide_eq_true (show (¬ (0 ≤ f ∧ f ≤ B)) ∨ (¬ (0 ≤ e ∧ e ≤ B)) by omega)]; rfl
      · simp only [decide_eq_false h1, Bool.not_false, if_true]
        refine ⟨?_, trivial⟩
        rw [decide_eq_true (show (¬ (0 ≤ f ∧ f ≤ B)) ∨ (¬ (0 ≤ e ∧ e ≤ B)) by omega)]
    by_cases hc : (¬ (0 ≤ f ∧ f ≤ B)) ∨ (¬ (0 ≤ e ∧ e ≤ B))
    · rw [if_pos hc]
      refine seq_i (fun _ => False) ?_ fun ρ z => z.elim
      refine if_t (tst.imp fun k ρ ⟨q1, q2⟩ => ⟨by rw [q1]; exact decide_eq_true hc, q2⟩) ?_
      simp only [↓hos]
      rfl
    · rw [if_neg hc]
      refine seq_i (fun ρ => ρ = S54 s t (.va (.int B)) .no .no (.va (.int f)) (.va (.int e))) ?_ fun ρ q => ?_
      · refine if_f (tst.imp fun k ρ ⟨q1, q2⟩ => ⟨by rw [q1]; exact decide_eq_false hc, q2⟩) rfl
      subst q
      simp only [↓hos, ↓gz, ↓List.getElem?_cons_succ, pt_at0, pt_at1, v_mul (sm_l (j := B) (show -1000000 ≤ s.1.1 by omega) (by omega)), v_mul (sm_l (j := B) (show -1000000 ≤ s.1.2 by omega) (by omega)), v_mul (sm_l (j := f) (show -1000000 ≤ s.2.1 - s.1.1 by omega) (by omega)), v_mul (sm_l (j := f) (show -1000000 ≤ s.2.2 - s.1.2 by omega) (by omega)), hspot hB.1 hB.2, ↓resH_same]
      exact ⟨rfl, rfl⟩
end Lw
end Mc
end
section
set_option Elab.async false
set_option linter.all false
set_option maxRecDepth 100000
set_option maxHeartbeats 4000000
set_option autoImplicit false
namespace Mc
namespace Lw
open PySem PySem.Spec L2
theorem lmeet_ok {s t : Sd} (hs : SmS s) (ht : SmS t) : F55 [sd s, sd t] = some (.va (.str (hw s t).s)) := by
  refine runD_eq ?_
  show Ho (m55 [.va (sd s), .va (sd t), .no]) _
  unfold m55 hw
  refine seq_i (fun ρ => ρ = [.va (sd s), .va (sd t), .va (cmn s t).d]) ?_ fun ρ e => ?_
  · simp only [↓hos, ↓gz, ↓List.getElem?_cons_succ, lcommon_ok hs ht, ↓resH_same]
    exact ⟨rfl, lt_ok rfl, rfl⟩
  subst e
  generalize cmn s t = c
  cases c with
  | no =>
    refine seq_i (fun _ => False) ?_ fun ρ z => z.elim
    refine if_t ?_ ?_
    · simp only [↓hos, ↓gz, ↓List.getElem?_cons_succ]
      first | exact ⟨rfl, rfl⟩ | exact ⟨trivial, rfl⟩ | exact ⟨rfl, trivial⟩ | exact ⟨trivial, trivial⟩
    · simp only [↓hos]
      rfl
  | seg a b =>
    refine seq_i (fun ρ => ρ = [.va (sd s), .va (sd t), .va (sd (a, b))]) ?_ fun ρ e => ?_
    · refine if_f ?_ rfl
      simp only [↓hos, ↓gz, ↓List.getElem?_cons_succ]
      first | exact ⟨rfl, rfl⟩ | exact ⟨trivial, rfl⟩ | exact ⟨rfl, trivial⟩ | exact ⟨trivial, trivial⟩
    subst e
    refine seq_i (fun _ => False) ?_ fun ρ z => z.elim
    refine if_t ?_ ?_
    · unfold sd
      simp only [↓hos, ↓gz, ↓List.getElem?_cons_succ]
      first | exact ⟨rfl, rfl⟩ | exact ⟨trivial, rfl⟩ | exact ⟨rfl, trivial⟩ | exact ⟨trivial, trivial⟩
    · simp only [↓hos]
      rfl
  | spo x y d =>
    refine seq_i (fun ρ => ρ = [.va (sd s), .va (sd t), .va (.tup [.int x, .int y, .int d])]) ?_ fun ρ e => ?_
    · refine if_f ?_ rfl
      simp only [↓hos, ↓gz, ↓List.getElem?_cons_succ]
      first | exact ⟨rfl, rfl⟩ | exact ⟨trivial, rfl⟩ | exact ⟨rfl, trivial⟩ | exact ⟨trivial, trivial⟩
    subst e
    refine seq_i (fun ρ => ρ = [.va (sd s), .va (sd t), .va (.tup [.int x, .int y, .int d])]) ?_ fun ρ e => ?_
    · refine if_f ?_ rfl
      simp only [↓hos, ↓gz, ↓List.getElem?_cons_succ]
      first | exact ⟨rfl, rfl⟩ | exact ⟨trivial, rfl⟩ | exact ⟨rfl, trivial⟩ | exact ⟨trivial, trivial⟩
    subst e
    have c2 : cutD (.tup [.int x, .int y, .int d]) none (some 2) = some (.va (pt (x, y))) := rfl
    have ha : addD (.tup [pt s.1, pt s.2]) (.tup [pt t.1, pt t.2]) = some (.va (.tup [pt s.1, pt s.2, pt t.1, pt t.2])) := rfl
    have i4 : inD (pt (x, y)) (.tup [pt s.1, pt s.2, pt t.1, pt t.2]) = some (.va (.bl (decide ((x, y) ∈ [s.1, s.2, t.1, t.2])))) := in_ptsT (ps := [s.1, s.2, t.1, t.2])
    have a2 : atI [D.int x, .int y, .int d] 2 = some (.int d) := rfl
    by_cases h1 : d = 1
    · subst h1
      rw [ho_evRet]
      have tst : ∀ {Q : Bool → ES → Prop}, Q (decide ((x, y) ∈ [s.1, s.2, t.1, t.2])) [.va (sd s), .va (sd t), .va (.tup [.int x, .int y, .int 1])] → Ho (evAndT (evBl (evBin eqD (evBin ixD (evVar 2) (evC (.int 2))) (evC (.int 1)))) (evBl (evBin inD (evSlice (evVar 2) (M.ret none) (evPart (evC (.int 2)))) (evBin addD (evVar 0) (evVar 1)))) [.va (sd s), .va (sd t), .va (.tup [.int x, .int y, .int 1])]) Q := fun {Q} hQ => by
        unfold sd at hQ ⊢
        simp only [↓hos, ↓gz, ↓List.getElem?_cons_succ, a2, Option.map, decide_true, if_true, c2, ha, i4]
        exact hQ
      rw [ho_evIf]
      refine tst ?_
      by_cases hm : (x, y) ∈ [s.1, s.2, t.1, t.2]
      · rw [decide_eq_true hm]
        simp only [if_true, ↓hos]
        show _ = DRes.va (D.str (Hw.s (if (1 : Int) = 1 ∧ (x, y) ∈ [s.1, s.2, t.1, t.2] then .touch else .cross)))
        rw [if_pos ⟨rfl, hm⟩]
        rfl
      · rw [decide_eq_false hm]
        simp only [Bool.false_eq_true, if_false, ↓hos]
        show _ = DRes.va (D.str (Hw.s (if (1 : Int) = 1 ∧ (x, y) ∈ [s.1, s.2, t.1, t.2] then .touch else .cross)))
        rw [if_neg fun z => hm z.2]
        rfl
    · simp only [↓hos, ↓gz, ↓List.getElem?_cons_succ, a2, Option.map, h1, decide_false, Bool.false_eq_true, if_false]
      show _ = DRes.va (D.str (Hw.s (if d = 1 ∧ (x, y) ∈ [s.1, s.2, t.1, t.2] then .touch else .cross)))
      rw [if_neg fun z => h1 z.1]
      rfl
theorem at_nxtL {ps : List Pt} {i : Nat} (h : i < ps.length) : atI (ps.map pt) ((i : Int) + 1 - (ps.length : Nat)) = some (pt (hh ps ((i + 1) % ps.length))) := by
  by_cases h1 : i + 1 = ps.length
  · rw [show (i + 1) % ps.length = 0 by rw [h1, Nat.mod_self]]
    exact at_hh (by omega) (by omega)
  · rw [Nat.mod_eq_of_lt (by omega)]
    unfold L2.atI L2.ixN
    rw [List.length_map, if_neg (by omega), if_pos (by omega)]
    simp only [Option.bind_some]
    rw [show ((i : Int) + 1 - (ps.length : Nat) + (ps.length : Int)).toNat = i + 1 by omega]
    exact getD_pts (by omega)
theorem lsides_ok {ps : List Pt} (h1 : ps.length ≤ 1000) : F57 [.tup (ps.map pt)] = some (.ow ((sds ps).map sd)) := by
  refine runD_eq ?_
  show Ho (m57 [.va (.tup (ps.map pt)), .no]) _
  unfold m57
  simp only [↓hos, ↓gz, ↓List.getElem?_cons_succ, List.length_map, rng1_eq (show ps.length ≤ 100000 by omega)]
  refine ho_compE (fun d => some (sd (side ps (toN d)))) (fun d hd => ?_) (by simp; omega) ?_
  · obtain ⟨i, hi, rfl⟩ := List.mem_map.mp hd
    have hi := List.mem_range.mp hi
    rw [show wipeE [Sl.va (.tup (ps.map pt)), .no] [1] = [.va (.tup (ps.map pt)), .no] from rfl, show tgN 1 (D.int (i : Nat)) [Sl.va (.tup (ps.map pt)), .no] = some [.va (.tup (ps.map pt)), .va (.int (i : Nat))] from rfl, optH_some]
    simp only [↓hos, if_true, ↓gz, ↓List.getElem?_cons_succ, at_hh (rfl : ((i : Nat) : Int) = i) hi, List.length_map, at_nxtL hi, Option.map, toN_int]
    exact ⟨rfl, rfl, rfl⟩
  · rw [rng_map (g := fun i => sd (side ps i))]
    unfold sds
    rw [List.map_map]
    rfl
theorem ltat_ok {ps : List Pt} {i : Nat} (h : i < ps.length) (hp : SmR ps) : F58 [.tup (ps.map pt), .int (i : Nat)] = some (.va (.int (tat ps i))) := by
  refine runD_eq ?_
  show Ho (m58 [.va (.tup (ps.map pt)), .va (.int (i : Nat))]) _
  unfold m58
  simp only [↓hos, ↓gz, ↓List.getElem?_cons_succ, at_prv h, at_hh (rfl : ((i : Nat) : Int) = i) h, List.length_map, at_nxtL h, Option.map, lturn_ok (hh_sm hp) (hh_sm hp), ↓resH_same]
  exact ⟨rfl, rfl⟩
def Ft.l : Ft → D
  | .str i => .tup [.str "straight", .int (i : Nat)]
  | .flt i j h => .tup [.str "fault", .int (i : Nat), .int (j : Nat), .str h.s]
def lffD (o : Option Ft) : D := match o with
  | some f => f.l
  | none => .non
theorem ft_some {ps : List Pt} {i j : Nat} : (ft ps i j = none) ↔ ¬ (hw (side ps i) (side ps j) = .share ∨ (hw (side ps i) (side ps j) ≠ .none ∧ bes ps.length i j = false)) := by
  unfold ft
  generalize hw (side ps i) (side ps j) = w
  cases w <;> cases bes ps.length i j <;> simp
theorem ft_val {ps : List Pt} {i j : Nat} {h : Hw} (e : ft ps i j = some h) : hw (side ps i) (side ps j) = h := by
  unfold ft at e
  split at e
  · cases e
  · cases e
    rfl
theorem lff_ok {ps : List Pt} (h1 : ps.length ≤ 1000) (hp : SmR ps) : F59 [.tup (ps.map pt)] = some (.va (lffD (ff ps))) := by
  have hl : (sds ps).length = ps.length := by unfold sds; simp
  refine runD_eq ?_
  show Ho (m59 [.va (.tup (ps.map pt)), .no, .no, .no, .no, .no, .no]) _
  unfold m59
  have ht : ∀ i, i < ps.length → F58 [.tup (ps.map pt), .int (i : Nat)] = some (.va (.int (tat ps i))) := fun i h => ltat_ok h hp
  have hs := lsides_ok h1
  have hf : ∀ i j, F55 [sd (side ps i), sd (side ps j)] = some (.va (.str (hw (side ps i) (side ps j)).s)) := fun i j => lmeet_ok (side_sm hp) (side_sm hp)
  have r1 := rng1_eq (n := ps.length) (by omega)
  have r2 : ∀ i, i < ps.length → rngR2 [.va (.int ((i : Int) + 1)), .va (.int (ps.length : Nat))] = some ((List.range' (i + 1) (ps.length - (i + 1))).map fun j => D.int (j : Nat)) := fun i h => rng2_eq (i := i + 1) (by omega) (by omega)
  have hnb : ∀ {i j : Nat}, i < j → j < ps.length → ninD (.int ((j : Int) - i)) (.tup [.int 1, .int ((ps.length : Nat) - 1)]) = some (.va (.bl (!bes ps.length i j))) := fun {i j} a b => by
    have q := nin_intsT (ws := [1, ((ps.length : Nat) : Int) - 1]) (a := (j : Int) - i)
    rw [show decide (((j : Int) - i) ∈ ([1, ((ps.length : Nat) : Int) - 1] : List Int)) = bes ps.length i j from by
      unfold bes
      by_cases hb : j - i = 1 ∨ j - i = ps.length - 1
      · rw [decide_eq_true hb, decide_eq_true]
        simp only [List.mem_cons, List.not_mem_nil, or_false]
        omega
      · rw [decide_eq_false hb, decide_eq_false]
        simp only [List.mem_cons, List.not_mem_nil, or_false]
        omega] at q
    exact q
  generalize F58 = T at ht
  generalize F57 = S at hs
  generalize F55 = G at hf
  generalize rngR1 = R1 at r1
  generalize rngR2 = R2 at r2
  refine seq_i (fun ρ => ρ = [.va (.tup (ps.map pt)), .va (.int (ps.length : Nat)), .ow ((sds ps).map sd), .no, .no, .no, .no]) ?_ fun ρ e => ?_
  · simp only [↓hos, ↓gz, ↓List.getElem?_cons_succ, List.length_map, hs, resH]
    exact ⟨rfl, rfl, rfl⟩
  subst e
  refine seq_i (fun ρ => ffS ps = none ∧ ∃ a, ρ = [.va (.tup (ps.map pt)), .va (.int (ps.length : Nat)), .ow ((sds ps).map sd), a, .no, .no, .no]) ?_ fun ρ ⟨hn, a, e⟩ => ?_
  · simp only [↓hos, ↓gz, ↓List.getElem?_cons_succ, r1]
    refine (for_find (fun ρ => ∃ a, ρ = [.va (.tup (ps.map pt)), .va (.int (ps.length : Nat)), .ow ((sds ps).map sd), a, .no, .no, .no]) (fun d => if tat ps (toN d) = 0 then some (.va (Ft.str (toN d)).l) else none) _ _ ⟨_, rfl⟩ ?_).imp fun fl ρ q => ?_
    · rintro d hd ρ ⟨a, rfl⟩
      obtain ⟨i, hi, rfl⟩ := List.mem_map.mp hd
      have hi := List.mem_range.mp hi
      rw [show tgN 3 (D.int (i : Nat)) [.va (.tup (ps.map pt)), .va (.int (ps.length : Nat)), .ow ((sds ps).map sd), a, .no, .no, .no] = some [.va (.tup (ps.map pt)), .va (.int (ps.length : Nat)), .ow ((sds ps).map sd), .va (.int (i : Nat)), .no, .no, .no] from rfl, optH_some, toN_int]
      by_cases h0 : tat ps i = 0
      · rw [if_pos h0]
        refine if_t ?_ ?_
        · simp only [↓hos, ↓gz, ↓List.getElem?_cons_succ, ht i hi, ↓resH_same, h0, decide_true]
          exact ⟨rfl, trivial, trivial⟩
        · simp only [↓hos, ↓gz, ↓List.getElem?_cons_succ]
          first | exact ⟨rfl, rfl⟩ | exact ⟨trivial, rfl⟩ | exact ⟨rfl, trivial⟩ | exact ⟨trivial, trivial⟩
      · rw [if_neg h0]
        refine if_f ?_ ?_
        · simp only [↓hos, ↓gz, ↓List.getElem?_cons_succ, ht i hi, ↓resH_same, h0, decide_false]
          exact ⟨rfl, trivial, trivial⟩
        · exact ⟨rfl, _, rfl⟩
    · rw [List.findSome?_map] at q
      have e : ((fun d => if tat ps (toN d) = 0 then some (R.va (Ft.str (toN d)).l) else none) ∘ fun (i : Nat) => D.int (i : Nat)) = fun i => (if tat ps i = 0 then some (Ft.str i) else none).map fun f => R.va f.l := funext fun i => by
        show (if tat ps (toN (.int (i : Nat))) = 0 then some (R.va (Ft.str (toN (.int (i : Nat)))).l) else none) = _
        rw [toN_int]
        split <;> rfl
      rw [e, fs_map] at q
      change (match (ffS ps).map (fun f => R.va f.l) with
        | some v => fl = .rt v
        | none => _) at q
      cases hS : ffS ps with
      | some f =>
        rw [hS] at q
        simp only [Option.map] at q
        subst q
        show _ = _
        unfold ff
        rw [hS]
        rfl
      | none =>
        rw [hS] at q
        simp only [Option.map] at q
        obtain ⟨rfl, a, rfl⟩ := q
        exact ⟨rfl, a, rfl⟩
  subst e
  have hff : ff ps = ffF ps := by unfold ff; rw [hn]
  rw [hff]
  refine seq_i (fun ρ => ffF ps = none) ?_ fun ρ e => ?_
  · simp only [↓hos, ↓gz, ↓List.getElem?_cons_succ, r1]
    refine (for_find (fun ρ => ∃ x y z, ρ = [.va (.tup (ps.map pt)), .va (.int (ps.length : Nat)), .ow ((sds ps).map sd), a, x, y, z]) (fun d => (List.range' (toN d + 1) (ps.length - (toN d + 1))).findSome? fun j => (ft ps (toN d) j).map fun h => R.va (Ft.flt (toN d) j h).l) _ _ ⟨_, _, _, rfl⟩ ?_).imp fun fl ρ q => ?_
    · rintro d hd ρ ⟨x, y, z, rfl⟩
      obtain ⟨i, hi, rfl⟩ := List.mem_map.mp hd
      have hi := List.mem_range.mp hi
      rw [show tgN 4 (D.int (i : Nat)) [.va (.tup (ps.map pt)), .va (.int (ps.length : Nat)), .ow ((sds ps).map sd), a, x, y, z] = some [.va (.tup (ps.map pt)), .va (.int (ps.length : Nat)), .ow ((sds ps).map sd), a, .va (.int (i : Nat)), y, z] from rfl, optH_some, toN_int]
      simp only [↓hos, ↓gz, ↓List.getElem?_cons_succ, r2 i hi]
      refine (for_find (fun ρ => ∃ y z, ρ = [.va (.tup (ps.map pt)), .va (.int (ps.length : Nat)), .ow ((sds ps).map sd), a, .va (.int (i : Nat)), y, z]) (fun d => (ft ps i (toN d)).map fun h => R.va (Ft.flt i (toN d) h).l) _ _ ⟨_, _, rfl⟩ ?_).imp fun fl ρ q => ?_
      · rintro d hd ρ ⟨y, z, rfl⟩
        obtain ⟨j, hj, rfl⟩ := List.mem_map.mp hd
        have hj := List.mem_range'_1.mp hj
        rw [show tgN 5 (D.int (j : Nat)) [.va (.tup (ps.map pt)), .va (.int (ps.length : Nat)), .ow ((sds ps).map sd), a, .va (.int (i : Nat)), y, z] = some [.va (.tup (ps.map pt)), .va (.int (ps.length : Nat)), .ow ((sds ps).map sd), a, .va (.int (i : Nat)), .va (.int (j : Nat)), z] from rfl, optH_some, toN_int]
        refine seq_i (fun ρ => ρ = [.va (.tup (ps.map pt)), .va (.int (ps.length : Nat)), .ow ((sds ps).map sd), a, .va (.int (i : Nat)), .va (.int (j : Nat)), .va (.str (hw (side ps i) (side ps j)).s)]) ?_ fun ρ e => ?_
        · simp only [↓hos, ↓gz, ↓List.getElem?_cons_succ, at_sds (show i < ps.length by omega), at_sds (show j < ps.length by omega), Option.map, hf, ↓resH_same]
          exact ⟨rfl, lt_ok rfl, rfl⟩
        subst e
        have tst : Ho (evOrT (evBl (evBin eqD (evVar 6) (evC (.str "share")))) (evAndT (evBl (evBin neD (evVar 6) (evC (.str "none")))) (evBl (evBin ninD (evBin (intD gSub) (evVar 5) (evVar 4)) (evTup (evCons (evC (.int 1)) (evCons (evBin (intD gSub) (evVar 1) (evC (.int 1))) evNil)))))) [.va (.tup (ps.map pt)), .va (.int (ps.length : Nat)), .ow ((sds ps).map sd), a, .va (.int (i : Nat)), .va (.int (j : Nat)), .va (.str (hw (side ps i) (side ps j)).s)]) fun k ρ => k = decide (hw (side ps i) (side ps j) = .share ∨ (hw (side ps i) (side ps j) ≠ .none ∧ bes ps.length i j = false)) ∧ ρ = [.va (.tup (ps.map pt)), .va (.int (ps.length : Nat)), .ow ((sds ps).map sd), a, .va (.int (i : Nat)), .va (.int (j : Nat)), .va (.str (hw (side ps i) (side ps j)).s)] := by
          have nb := hnb (i := i) (j := j) (by omega) (by omega)
          generalize hw (side ps i) (side ps j) = w
          generalize bes ps.length i j = k at nb
          simp only [↓hos, ↓gz, ↓List.getElem?_cons_succ, hw_eqS]
          by_cases q1 : w = .share
          · simp only [q1, decide_true, if_true]
            exact ⟨by simp, trivial⟩
          · simp only [q1, decide_false, Bool.false_eq_true, if_false, ↓hos, ↓gz, ↓List.getElem?_cons_succ, hw_neN]
            by_cases q2 : w = .none
            · simp only [q2, decide_true, Bool.not_true, Bool.false_eq_true, if_false]
              exact ⟨by simp, trivial⟩
            · simp only [q2, decide_false, Bool.not_false, if_true, ↓hos, ↓gz, ↓List.getElem?_cons_succ, nb]
              refine ⟨rfl, ?_⟩
              exact ⟨by cases k <;> simp [q2], trivial⟩
        cases hx : ft ps i j with
        | none =>
          refine if_f (tst.imp fun k ρ ⟨q1, q2⟩ => ⟨by rw [q1]; exact decide_eq_false (ft_some.mp hx), q2⟩) ?_
          exact ⟨rfl, _, _, rfl⟩
        | some w =>
          have hd : hw (side ps i) (side ps j) = .share ∨ (hw (side ps i) (side ps j) ≠ .none ∧ bes ps.length i j = false) := Decidable.byContradiction fun z => by
            rw [ft_some.mpr z] at hx
            cases hx
          refine if_t (tst.imp fun k ρ ⟨q1, q2⟩ => ⟨by rw [q1]; exact decide_eq_true hd, q2⟩) ?_
          rw [ft_val hx]
          simp only [↓hos, ↓gz, ↓List.getElem?_cons_succ]
          first | exact ⟨rfl, rfl⟩ | exact ⟨trivial, rfl⟩ | exact ⟨rfl, trivial⟩ | exact ⟨trivial, trivial⟩
      · rw [List.findSome?_map] at q
        have e : ((fun d => (ft ps i (toN d)).map fun h => R.va (Ft.flt i (toN d) h).l) ∘ fun (j : Nat) => D.int (j : Nat)) = fun j => (ft ps i j).map fun h => R.va (Ft.flt i j h).l := funext fun j => by
          show (ft ps i (toN (.int (j : Nat)))).map _ = _
          rw [toN_int]
        rw [e] at q
        cases hc : (List.range' (i + 1) (ps.length - (i + 1))).findSome? fun j => (ft ps i j).map fun h => R.va (Ft.flt i j h).l with
        | some v =>
          rw [hc] at q
          exact q
        | none =>
          rw [hc] at q
          obtain ⟨q1, y, z, q2⟩ := q
          exact ⟨q1, _, y, z, q2⟩
    · rw [List.findSome?_map] at q
      have e : ((fun d => (List.range' (toN d + 1) (ps.length - (toN d + 1))).findSome? fun j => (ft ps (toN d) j).map fun h => R.va (Ft.flt (toN d) j h).l) ∘ fun (i : Nat) => D.int (i : Nat)) = fun i => ((List.range' (i + 1) (ps.length - (i + 1))).findSome? fun j => (ft ps i j).map (Ft.flt i j)).map fun f => R.va f.l := funext fun i => by
        show ((List.range' (toN (.int (i : Nat)) + 1) (ps.length - (toN (.int (i : Nat)) + 1))).findSome? fun j => (ft ps (toN (.int (i : Nat))) j).map fun h => R.va (Ft.flt (toN (.int (i : Nat))) j h).l) = _
        rw [toN_int, ← fs_map]
        congr 1
        funext j
        rw [Option.map_map]
        rfl
      rw [e, fs_map] at q
      change (match (ffF ps).map (fun f => R.va f.l) with
        | some v => fl = .rt v
        | none => _) at q
      cases hS : ffF ps with
      | some f =>
        rw [hS] at q
        simp only [Option.map] at q
        subst q
        cases f <;> rfl
      | none =>
        rw [hS] at q
        simp only [Option.map] at q
        obtain ⟨rfl, _⟩ := q
        exact rfl
  · rw [e]
    simp only [↓hos]
    rfl
end Lw
end Mc
end
section
set_option Elab.async false
set_option linter.all false
set_option maxRecDepth 100000
set_option maxHeartbeats 4000000
set_option autoImplicit false
namespace Mc
open PySem PySem.Spec L2
/-- a comparison that may be of own instances, of other data -/
theorem ho_evOwn_d {T : OTab} {cs : List Str} {g : D → D → Option R} {fa fb : M R} {ρ : ES} {Q : R → ES → Prop} (h : Ho (fa ρ) fun r1 ρ1 => Ho (fb ρ1) fun r2 ρ2 => ∃ d e, rdD ρ2 r1.frz = some d ∧ rdD ρ2 r2.frz = some e ∧ (∀ c fs, d ≠ .ob c fs) ∧ optH (g d e) fun z => Q z ρ2) : Ho (evOwn T cs g fa fb ρ) Q := by
  unfold evOwn
  rw [ho_bnd, ho_frzM]
  refine h.imp fun r1 ρ1 q => ?_
  rw [ho_bnd, ho_frzM]
  refine q.imp fun r2 ρ2 ⟨d, e, h1, h2, h3, h4⟩ => ?_
  simp only [h1, h2]
  cases d with
  | ob c fs => exact absurd rfl (h3 c fs)
  | _ =>
    simp only [ho_lift]
    revert h4
    cases g _ e <;> exact id
namespace Lw
theorem cD_is {i : Nat} {fa : M R} : evCallN F48 (evN 2 (evCons (evVar i) (evCons fa evNil))) = cD i fa := rfl
theorem drawn_ok {p : Pn} {w : Int} (hp : PnOk p) (h0 : 0 ≤ w) (h1 : w ≤ 100) : ∃ a p', F56 (.pen p) [.int w] = some (.va (pt a), .pen p') ∧ PnOk p' ∧ Wd w a := by
  have key : ∃ r q, F56 (.pen p) [.int w] = some (r, q) ∧ ∃ a p', r = .va (pt a) ∧ q = .pen p' ∧ PnOk p' ∧ Wd w a := by
    refine runN_ex ?_
    show Ho (m56 [.pn (.pen p), .va (.int w)]) _
    unfold m56
    simp only [cD_is]
    simp only [↓hos]
    have e2 : (small64 2 || small64 w) = true := by simp [small64]
    refine ho_cD (p0 := .pen p) rfl ?_
    simp only [↓hos, ↓gz, ↓List.getElem?_cons_succ, v_mul e2]
    refine ⟨_, p, rfl, rfl, hp, by omega, by omega, fun j p1 j0 j1 hp1 => ?_⟩
    simp only [↓hos, ↓gz, ↓List.getElem?_cons_succ, List.set_cons_zero]
    refine ho_cD (p0 := .pen p1) rfl ?_
    simp only [↓hos, ↓gz, ↓List.getElem?_cons_succ, v_mul e2]
    refine ⟨_, p1, rfl, rfl, hp1, by omega, by omega, fun j2 p2 j20 j21 hp2 => ?_⟩
    simp only [↓hos, ↓gz, ↓List.getElem?_cons_succ, List.set_cons_zero]
    refine ⟨rfl, _, rfl, (j - w, j2 - w), p2, rfl, rfl, hp2, ?_⟩
    unfold Wd
    simp only
    omega
  obtain ⟨r, q, e, a, p', rfl, rfl, h⟩ := key
  exact ⟨a, p', e, h⟩
/-! ### _law_is -/
theorem lis_int {n : Nat} {i : Int} : F49 (n + 1) [.int i, .int i] = some (.va (.bl true)) := by
  show runD 3 (m49 (F49 n)) [.int i, .int i] = _
  generalize F49 n = G
  refine runD_eq ?_
  show Ho (m49 G [.va (.int i), .va (.int i), .no]) _
  unfold m49
  have k1 : isiD csL .tup (.int i) = some (.va (.bl false)) := rfl
  have k2 : isiD csL .str (.int i) = some (.va (.bl false)) := rfl
  have k3 : isiD csL .int (.int i) = some (.va (.bl true)) := rfl
  have k4 : isiD csL .bl (.int i) = some (.va (.bl false)) := rfl
  have k5 : isD (.int i) .non = some (.va (.bl false)) := rfl
  have k6 : isD (.int i) (.bl true) = some (.va (.bl false)) := rfl
  have k7 : isD (.int i) (.bl false) = some (.va (.bl false)) := rfl
  simp only [↓hos, ↓gz, ↓List.getElem?_cons_succ, k1, k2, k3, k4, k5, k6, k7, truD, Bool.false_eq_true, if_false, if_true, Bool.not_false, decide_true]
  rfl
theorem lis_hw {n : Nat} {h : Hw} : F49 (n + 1) [.str h.s, .str h.s] = some (.va (.bl true)) := by
  cases h <;> with_unfolding_all rfl
theorem lis_tup {n : Nat} {ds es : List D} (hl : ds.length = es.length) (hs : es.length ≤ 1000) (h : ∀ i : Nat, i < es.length → ∃ d e, atI ds (i : Nat) = some d ∧ atI es (i : Nat) = some e ∧ F49 n [d, e] = some (.va (.bl true))) : F49 (n + 1) [.tup ds, .tup es] = some (.va (.bl true)) := by
  show runD 3 (m49 (F49 n)) [.tup ds, .tup es] = _
  generalize F49 n = G at h
  have r1 := rng1_eq (n := es.length) (by omega)
  refine runD_eq ?_
  show Ho (m49 G [.va (.tup ds), .va (.tup es), .no]) _
  unfold m49
  generalize rngR1 = R1 at r1
  have k1 : ∀ xs, isiD csL .tup (.tup xs) = some (.va (.bl true)) := fun _ => rfl
  refine seq_i (fun _ => False) ?_ fun ρ z => z.elim
  refine if_t ?_ ?_
  · simp only [↓hos, ↓gz, ↓List.getElem?_cons_succ, k1, truD]
    first | exact ⟨rfl, rfl⟩ | exact ⟨trivial, rfl⟩ | exact ⟨rfl, trivial⟩ | exact ⟨trivial, trivial⟩
  refine seq_i (fun ρ => ρ = [.va (.tup ds), .va (.tup es), .no]) ?_ fun ρ e => ?_
  · refine if_f ?_ rfl
    simp only [↓hos, ↓gz, ↓List.getElem?_cons_succ, k1, truD, Bool.not_true, Bool.false_eq_true, if_false, hl, decide_true]
    first | exact ⟨rfl, rfl⟩ | exact ⟨trivial, rfl⟩ | exact ⟨rfl, trivial⟩ | exact ⟨trivial, trivial⟩
  subst e
  simp only [↓hos, ↓gz, ↓List.getElem?_cons_succ, r1]
  refine ho_compE (fun d => none) (fun d hd => ?_) (by simp; omega) ?_
  · obtain ⟨i, hi, rfl⟩ := List.mem_map.mp hd
    obtain ⟨d, e, h1, h2, h3⟩ := h i (List.mem_range.mp hi)
    rw [show wipeE [Sl.va (.tup ds), .va (.tup es), .no] [2] = [.va (.tup ds), .va (.tup es), .no] from rfl, show tgN 2 (D.int (i : Nat)) [Sl.va (.tup ds), .va (.tup es), .no] = some [.va (.tup ds), .va (.tup es), .va (.int (i : Nat))] from rfl, optH_some]
    simp only [↓hos, ↓gz, ↓List.getElem?_cons_succ, h1, h2, Option.map, h3, ↓resH_same, truD, Bool.not_true, Bool.false_eq_true, if_false]
    exact ⟨rfl, rfl, trivial⟩
  · rw [show ((List.range es.length).map fun i => D.int (i : Nat)).filterMap (fun _ => (none : Option D)) = [] by simp]
    simp only [↓hos]
    refine ⟨rfl, ?_⟩
    rw [eq_nil (ds := []) (fun d hd => by cases hd)]
    rfl
/-! ### the parts of the law -/
theorem lis_fault {n i j : Nat} {h : Hw} : F49 (n + 2) [.tup [.int (i : Nat), .int (j : Nat), .str h.s], .tup [.int (i : Nat), .int (j : Nat), .str h.s]] = some (.va (.bl true)) := by
  refine lis_tup (n := n + 1) rfl (by simp) fun k hk => ?_
  have hk : k < 3 := hk
  rcases (show k = 0 ∨ k = 1 ∨ k = 2 by omega) with rfl | rfl | rfl
  · exact ⟨_, _, rfl, rfl, lis_int⟩
  · exact ⟨_, _, rfl, rfl, lis_int⟩
  · exact ⟨_, _, rfl, rfl, lis_hw⟩
theorem ndp_nd : ∀ {r : List Pt}, ndp r = true → r.Nodup
  | [], _ => List.nodup_nil
  | a :: l, h => by
    unfold ndp at h
    obtain ⟨h1, h2⟩ := Bool.and_eq_true_iff.mp h
    refine List.nodup_cons.mpr ⟨fun z => ?_, ndp_nd h2⟩
    have h1 : (l.any fun b => decide (b.1 = a.1) && decide (b.2 = a.2)) = false := by simpa using h1
    rw [List.any_eq_false] at h1
    exact h1 a z (by simp)
theorem okL_sp {r : List Pt} (h : okL r = true) : 3 ≤ r.length ∧ r.length ≤ 40 ∧ r.Nodup ∧ ∀ p ∈ r, -200 ≤ p.1 ∧ p.1 ≤ 200 ∧ -200 ≤ p.2 ∧ p.2 ≤ 200 := by
  unfold okL at h
  obtain ⟨h, h4⟩ := Bool.and_eq_true_iff.mp h
  obtain ⟨h, h3⟩ := Bool.and_eq_true_iff.mp h
  obtain ⟨h1, h2⟩ := Bool.and_eq_true_iff.mp h
  refine ⟨of_decide_eq_true h1, of_decide_eq_true h2, ndp_nd h3, fun p hp => ?_⟩
  have q := List.all_eq_true.mp h4 p hp
  unfold sma at q
  obtain ⟨q, q4⟩ := Bool.and_eq_true_iff.mp q
  obtain ⟨q, q3⟩ := Bool.and_eq_true_iff.mp q
  obtain ⟨q1, q2⟩ := Bool.and_eq_true_iff.mp q
  exact ⟨of_decide_eq_true q1, of_decide_eq_true q2, of_decide_eq_true q3, of_decide_eq_true q4⟩
theorem okL_tr {r : List Pt} {x y : Int} (h : okL r = true) (hx : -50 ≤ x ∧ x ≤ 50) (hy : -50 ≤ y ∧ y ≤ 50) : 3 ≤ (r.map (tr x y)).length ∧ (r.map (tr x y)).length ≤ 40 ∧ (r.map (tr x y)).Nodup ∧ SmR (r.map (tr x y)) := by
  obtain ⟨h1, h2, h3, h4⟩ := okL_sp h
  refine ⟨by rw [List.length_map]; exact h1, by rw [List.length_map]; exact h2, ?_, fun p hp => ?_⟩
  · exact List.Pairwise.map _ (fun a b hab e => hab (tr_inj.mp e)) h3
  · obtain ⟨q, hq, rfl⟩ := List.mem_map.mp hp
    obtain ⟨q1, q2, q3, q4⟩ := h4 q hq
    unfold tr Sm
    simp only
    omega
/-- a field of the law, moved -/
theorem mk_field {r : List Pt} {x y : Int} {d : D} (h : okR r = true) (hx : -50 ≤ x ∧ x ≤ 50) (hy : -50 ≤ y ∧ y ≤ 50) (hd : SqP d (r.map (tr x y))) : F24 (.ob "Field" []) [d] = some (.va .non, .ob "Field" [("corners", .tup (((led r).map (tr x y)).map pt))]) := by
  unfold okR at h
  obtain ⟨h1, h2⟩ := Bool.and_eq_true_iff.mp h
  obtain ⟨q1, q2, q3, q4⟩ := okL_tr h1 hx hy
  have hf : ff (r.map (tr x y)) = none := ff_tr.mpr (by simpa using h2)
  have q := field_ok hd q1 q2 q3 q4 hf
  rw [led_tr (by have := (okL_sp h1).1; omega)] at q
  exact q
theorem fm_tr {ps : List Pt} {x y : Int} : (ps.map pt).filterMap (fun d => some (D.tup [.int (x + (unp d).1), .int (y + (unp d).2)])) = (ps.map (tr x y)).map pt := by
  rw [fm_map, List.map_map]
  rfl
end Lw
end Mc
end
section
set_option Elab.async false
set_option linter.all false
set_option maxRecDepth 100000
set_option maxHeartbeats 4000000
set_option autoImplicit false
namespace Mc
namespace Lw
open PySem PySem.Spec L2
noncomputable section
def q0 : M Fl := (evPar2 2 3 (evBin addD (evC (.int 2)) (evCallN F48 (evN 2 (evCons (evVar 1) (evCons (evC (.int 6)) evNil))))) (evBin addD (evC (.int 2)) (evCallN F48 (evN 2 (evCons (evVar 1) (evCons (evC (.int 9)) evNil))))))
def q1 : M Fl := (evAsgT (tgTup 2 (tgCons (tgN 4) (tgCons (tgN 5) tgNil))) (evCallN F56 (evN 2 (evCons (evVar 1) (evCons (evC (.int 50)) evNil)))))
def q2 : M Fl := (evAsg 6 (evLst (evCons (evTup (evCons (evC (.int 0)) (evCons (evC (.int 0)) evNil))) (evCons (evTup (evCons (evBin mulD (evC (.int 4)) (evVar 2)) (evCons (evC (.int 0)) evNil))) evNil))))
def q3 : M Fl := (evFor (evRng rngR3 (evCons (evBin (intD gSub) (evVar 2) (evC (.int 1))) (evCons (evUn negD (evC (.int 1))) (evCons (evUn negD (evC (.int 1))) evNil)))) (tgN 7) (evAsg 6 (evBin addD (evBin addD (evVar 6) (evLst (evCons (evTup (evCons (evBin addD (evBin mulD (evC (.int 4)) (evVar 7)) (evC (.int 4))) (evCons (evIf (evBl (evOwn Teq csL eqD (evVar 7) (evBin (intD gSub) (evVar 2) (evC (.int 1))))) (evBin addD (evVar 3) (evC (.int 1))) (evVar 3)) evNil))) (evCons (evTup (evCons (evBin addD (evBin mulD (evC (.int 4)) (evVar 7)) (evC (.int 2))) (evCons (evVar 3) evNil))) evNil)))) (evIf (evBl (evBin gtD (evVar 7) (evC (.int 0)))) (evLst (evCons (evTup (evCons (evBin addD (evBin mulD (evC (.int 4)) (evVar 7)) (evC (.int 2))) (evCons (evC (.int 1)) evNil))) (evCons (evTup (evCons (evBin mulD (evC (.int 4)) (evVar 7)) (evCons (evC (.int 1)) evNil))) evNil))) (evLst evNil)))))
def q4 : M Fl := (evAsg 8 (evMake "Field" F24 (evN 1 (evCons (evComp [14, 15] (evSq (evBin addD (evSlice (evVar 6) (M.ret none) (evPart (evUn negD (evC (.int 1))))) (evLst (evCons (evTup (evCons (evC (.int 0)) (evCons (evVar 3) evNil))) evNil)))) (tgTup 2 (tgCons (tgN 14) (tgCons (tgN 15) tgNil))) (M.ret true) (evTup (evCons (evBin addD (evVar 4) (evVar 14)) (evCons (evBin addD (evVar 5) (evVar 15)) evNil)))) evNil))))
def q5 : M Fl := (evIf (evOrT (evBl (evOwn Tne csL neD (evB lenD (evCons (evCall F39 (evN 1 (evCons (evVar 8) evNil))) evNil)) (evBin mulD (evC (.int 2)) (evBin (intD gSub) (evVar 2) (evC (.int 1)))))) (evOrT (evBl (evOwn Tne csL neD (evCall F40 (evN 1 (evCons (evVar 8) evNil))) (evBin eqD (evVar 2) (evC (.int 1))))) (evNotT (evTru (evCall (F49 6) (evN 2 (evCons (evCall F46 (evN 1 (evCons (evFld ct "corners" (evVar 8)) evNil))) (evCons (evC (.int 1)) evNil)))))))) (evRet (evC (.bl false))) evSkip)
def q6 : M Fl := (evAsg 9 (evLst (evCons (evTup (evCons (evC (.int 0)) (evCons (evC (.int 0)) evNil))) (evCons (evTup (evCons (evBin mulD (evC (.int 2)) (evVar 2)) (evCons (evC (.int 0)) evNil))) evNil))))
def q7 : M Fl := (evFor (evRng rngR3 (evCons (evBin (intD gSub) (evVar 2) (evC (.int 1))) (evCons (evC (.int 0)) (evCons (evUn negD (evC (.int 1))) evNil)))) (tgN 7) (evAsg 9 (evBin addD (evVar 9) (evLst (evCons (evTup (evCons (evBin addD (evBin mulD (evC (.int 2)) (evVar 7)) (evC (.int 1))) (evCons (evBin addD (evVar 3) (evVar 7)) evNil))) (evCons (evTup (evCons (evBin mulD (evC (.int 2)) (evVar 7)) (evCons (evC (.int 1)) evNil))) evNil))))))
def q8 : M Fl := (evAsg 9 (evMake "Field" F24 (evN 1 (evCons (evComp [14, 15] (evSq (evBin addD (evVar 9) (evLst (evCons (evTup (evCons (evC (.int 1)) (evCons (evVar 3) evNil))) evNil)))) (tgTup 2 (tgCons (tgN 14) (tgCons (tgN 15) tgNil))) (M.ret true) (evTup (evCons (evBin addD (evVar 4) (evVar 14)) (evCons (evBin addD (evVar 5) (evVar 15)) evNil)))) evNil))))
def q9 : M Fl := (evIf (evOrT (evBl (evOwn Tne csL neD (evB lenD (evCons (evCall F39 (evN 1 (evCons (evVar 9) evNil))) evNil)) (evBin (intD gSub) (evVar 2) (evC (.int 1))))) (evBl (evOwn Tne csL neD (evBin isD (evCall F41 (evN 1 (evCons (evVar 9) evNil))) (evC .non)) (evBin eqD (evVar 2) (evC (.int 1)))))) (evRet (evC (.bl false))) evSkip)
def q10 : M Fl := (evAsg 10 (evMake "Field" F24 (evN 1 (evCons (evComp [12] (evRng rngR2 (evCons (evUn negD (evVar 2)) (evCons (evBin addD (evVar 2) (evC (.int 1))) evNil))) (tgN 12) (M.ret true) (evTup (evCons (evBin addD (evVar 4) (evVar 12)) (evCons (evBin addD (evVar 5) (evBin mulD (evVar 12) (evVar 12))) evNil)))) evNil))))
def q11 : M Fl := (evIf (evOrT (evNotT (evTru (evCall F40 (evN 1 (evCons (evVar 10) evNil))))) (evOrT (evBl (evBin isntD (evCall F41 (evN 1 (evCons (evVar 10) evNil))) (evC .non))) (evOrT (evNotT (evTru (evCall F43 (evN 2 (evCons (evVar 10) (evCons (evTup (evCons (evVar 4) (evCons (evBin addD (evVar 5) (evBin mulD (evVar 2) (evVar 2))) evNil))) evNil)))))) (evTru (evCall F43 (evN 2 (evCons (evVar 10) (evCons (evTup (evCons (evVar 4) (evCons (evBin addD (evVar 5) (evC (.int 1))) evNil))) evNil)))))))) (evRet (evC (.bl false))) evSkip)
def q12 : M Fl := (evAsg 11 (evComp [12] (evRng rngR2 (evCons (evUn negD (evVar 2)) (evCons (evBin addD (evVar 2) (evC (.int 1))) evNil))) (tgN 12) (M.ret true) (evTup (evCons (evVar 12) (evCons (evBin mulD (evVar 12) (evVar 12)) evNil)))))
def q13 : M Fl := (evAsg 12 (evCallN F48 (evN 2 (evCons (evVar 1) (evCons (evBin mulD (evC (.int 2)) (evVar 2)) evNil)))))
def q14 : M Fl := (evSwp 11 (evVar 12) (evBin addD (evVar 12) (evC (.int 1))) (evTup (evCons (evBin ixD (evVar 11) (evBin addD (evVar 12) (evC (.int 1)))) (evCons (evBin ixD (evVar 11) (evVar 12)) evNil))))
def q15 : M Fl := (evAsg 13 (evCall F37 (evN 1 (evCons (evVar 11) evNil))))
def q16 : M Fl := (evIf (evOrT (evNotT (evTru (evUn (isiD csL (.ob "Fault")) (evVar 13)))) (evNotT (evTru (evCall (F49 6) (evN 2 (evCons (evTup (evCons (evFld ct "one" (evVar 13)) (evCons (evFld ct "other" (evVar 13)) (evCons (evFld ct "how" (evVar 13)) evNil)))) (evCons (evSlice (evCall F59 (evN 1 (evCons (evB tupD (evCons (evVar 11) evNil)) evNil))) (evPart (evC (.int 1))) (M.ret none)) evNil))))))) (evRet (evC (.bl false))) evSkip)
def q17 : M Fl := (evRet (evCall (F49 6) (evN 2 (evCons (evFld ct "corners" (evMake "Field" F24 (evN 1 (evCons (evTup (evCons (evTup (evCons (evC (.int 3)) (evCons (evC (.int 3)) evNil))) (evCons (evTup (evCons (evC (.int 0)) (evCons (evC (.int 3)) evNil))) (evCons (evTup (evCons (evC (.int 0)) (evCons (evC (.int 0)) evNil))) (evCons (evTup (evCons (evC (.int 3)) (evCons (evC (.int 0)) evNil))) evNil))))) evNil)))) (evCons (evTup (evCons (evTup (evCons (evC (.int 0)) (evCons (evC (.int 0)) evNil))) (evCons (evTup (evCons (evC (.int 3)) (evCons (evC (.int 0)) evNil))) (evCons (evTup (evCons (evC (.int 3)) (evCons (evC (.int 3)) evNil))) (evCons (evTup (evCons (evC (.int 0)) (evCons (evC (.int 3)) evNil))) evNil))))) evNil)))))
theorem m60_is : m60 = evSeq q0 (evSeq q1 (evSeq q2 (evSeq q3 (evSeq q4 (evSeq q5 (evSeq q6 (evSeq q7 (evSeq q8 (evSeq q9 (evSeq q10 (evSeq q11 (evSeq q12 (evSeq q13 (evSeq q14 (evSeq q15 (evSeq q16 (q17))))))))))))))))) := rfl
end
noncomputable section
def q5G (G1 : List D → Option DRes) (G2 : List D → Option DRes) (G3 : List D → Option DRes) (G4 : List D → Option DRes) : M Fl := (evIf (evOrT (evBl (evOwn Tne csL neD (evB lenD (evCons (evCall G1 (evN 1 (evCons (evVar 8) evNil))) evNil)) (evBin mulD (evC (.int 2)) (evBin (intD gSub) (evVar 2) (evC (.int 1)))))) (evOrT (evBl (evOwn Tne csL neD (evCall G2 (evN 1 (evCons (evVar 8) evNil))) (evBin eqD (evVar 2) (evC (.int 1))))) (evNotT (evTru (evCall G3 (evN 2 (evCons (evCall G4 (evN 1 (evCons (evFld ct "corners" (evVar 8)) evNil))) (evCons (evC (.int 1)) evNil)))))))) (evRet (evC (.bl false))) evSkip)
theorem q5_is : q5 = q5G F39 F40 (F49 6) F46 := rfl
def q9G (G1 : List D → Option DRes) (G2 : List D → Option DRes) : M Fl := (evIf (evOrT (evBl (evOwn Tne csL neD (evB lenD (evCons (evCall G1 (evN 1 (evCons (evVar 9) evNil))) evNil)) (evBin (intD gSub) (evVar 2) (evC (.int 1))))) (evBl (evOwn Tne csL neD (evBin isD (evCall G2 (evN 1 (evCons (evVar 9) evNil))) (evC .non)) (evBin eqD (evVar 2) (evC (.int 1)))))) (evRet (evC (.bl false))) evSkip)
theorem q9_is : q9 = q9G F39 F41 := rfl
def q11G (G1 : List D → Option DRes) (G2 : List D → Option DRes) (G3 : List D → Option DRes) : M Fl := (evIf (evOrT (evNotT (evTru (evCall G1 (evN 1 (evCons (evVar 10) evNil))))) (evOrT (evBl (evBin isntD (evCall G2 (evN 1 (evCons (evVar 10) evNil))) (evC .non))) (evOrT (evNotT (evTru (evCall G3 (evN 2 (evCons (evVar 10) (evCons (evTup (evCons (evVar 4) (evCons (evBin addD (evVar 5) (evBin mulD (evVar 2) (evVar 2))) evNil))) evNil)))))) (evTru (evCall G3 (evN 2 (evCons (evVar 10) (evCons (evTup (evCons (evVar 4) (evCons (evBin addD (evVar 5) (evC (.int 1))) evNil))) evNil)))))))) (evRet (evC (.bl false))) evSkip)
theorem q11_is : q11 = q11G F40 F41 F43 := rfl
def q15G (G1 : List D → Option DRes) : M Fl := (evAsg 13 (evCall G1 (evN 1 (evCons (evVar 11) evNil))))
theorem q15_is : q15 = q15G F37 := rfl
def q16G (G1 : List D → Option DRes) (G2 : List D → Option DRes) : M Fl := (evIf (evOrT (evNotT (evTru (evUn (isiD csL (.ob "Fault")) (evVar 13)))) (evNotT (evTru (evCall G1 (evN 2 (evCons (evTup (evCons (evFld ct "one" (evVar 13)) (evCons (evFld ct "other" (evVar 13)) (evCons (evFld ct "how" (evVar 13)) evNil)))) (evCons (evSlice (evCall G2 (evN 1 (evCons (evB tupD (evCons (evVar 11) evNil)) evNil))) (evPart (evC (.int 1))) (M.ret none)) evNil))))))) (evRet (evC (.bl false))) evSkip)
theorem q16_is : q16 = q16G (F49 6) F59 := rfl
def q17G (G1 : List D → Option DRes) (G2 : Mo → List D → Option (DRes × Mo)) : M Fl := (evRet (evCall G1 (evN 2 (evCons (evFld ct "corners" (evMake "Field" G2 (evN 1 (evCons (evTup (evCons (evTup (evCons (evC (.int 3)) (evCons (evC (.int 3)) evNil))) (evCons (evTup (evCons (evC (.int 0)) (evCons (evC (.int 3)) evNil))) (evCons (evTup (evCons (evC (.int 0)) (evCons (evC (.int 0)) evNil))) (evCons (evTup (evCons (evC (.int 3)) (evCons (evC (.int 0)) evNil))) evNil))))) evNil)))) (evCons (evTup (evCons (evTup (evCons (evC (.int 0)) (evCons (evC (.int 0)) evNil))) (evCons (evTup (evCons (evC (.int 3)) (evCons (evC (.int 0)) evNil))) (evCons (evTup (evCons (evC (.int 3)) (evCons (evC (.int 3)) evNil))) (evCons (evTup (evCons (evC (.int 0)) (evCons (evC (.int 3)) evNil))) evNil))))) evNil)))))
theorem q17_is : q17 = q17G (F49 6) F24 := rfl
end
/-- what a statement gives, kept closed -/
structure HoS (f : M Fl) (ρ : ES) (Q : Fl → ES → Prop) : Prop where
  h : Ho (f ρ) Q
theorem HoS.seq {f g : M Fl} {ρ : ES} {Q : Fl → ES → Prop} (I : ES → Prop) (a : HoS f ρ fun fl ρ' => nxH fl ρ' (I ρ') fun _ _ => False) (k : ∀ ρ', I ρ' → HoS g ρ' Q) : HoS (evSeq f g) ρ Q := ⟨by
  rw [ho_evSeq]
  refine a.h.imp fun fl ρ' q => ?_
  cases fl with
  | nx => exact (k ρ' q).h
  | _ => exact q.elim⟩
abbrev L60 (p : Pn) (m h : Nat) (x y : Int) (a b c d e f g i : Sl) : ES := [.no, .pn (.pen p), .va (.int (m : Nat)), .va (.int (h : Nat)), .va (.int x), .va (.int y), a, b, c, d, e, f, g, i, .no, .no]
theorem q0_ok {p : Pn} (hp : PnOk p) : HoS q0 [.no, .pn (.pen p), .no, .no, .no, .no, .no, .no, .no, .no, .no, .no, .no, .no, .no, .no] fun fl ρ => nxH fl ρ (∃ (p : Pn) (m h : Nat), PnOk p ∧ 2 ≤ m ∧ m ≤ 7 ∧ 2 ≤ h ∧ h ≤ 10 ∧ ρ = [.no, .pn (.pen p), .va (.int (m : Nat)), .va (.int (h : Nat)), .no, .no, .no, .no, .no, .no, .no, .no, .no, .no, .no, .no]) fun _ _ => False := by
  constructor
  unfold q0
  simp only [cD_is]
  try simp only [↓hos]
  refine ho_cD (p0 := .pen p) rfl ?_
  try simp only [↓hos]
  refine ⟨_, p, rfl, rfl, hp, by omega, by omega, fun j p1 j0 j1 hp1 => ?_⟩
  try simp only [↓hos]
  refine ho_cD (p0 := .pen p1) rfl ?_
  try simp only [↓hos]
  refine ⟨_, p1, rfl, rfl, hp1, by omega, by omega, fun j2 p2 j20 j21 hp2 => ?_⟩
  try simp only [↓hos]
  obtain ⟨m, hm⟩ : ∃ m : Nat, 2 + j = (m : Nat) := ⟨(2 + j).toNat, by omega⟩
  obtain ⟨h, hh⟩ : ∃ h : Nat, 2 + j2 = (h : Nat) := ⟨(2 + j2).toNat, by omega⟩
  rw [hm, hh]
  exact ⟨rfl, p2, m, h, hp2, by omega, by omega, by omega, by omega, rfl⟩
theorem q1_ok {p : Pn} {m h : Nat} (hp : PnOk p) : HoS q1 [.no, .pn (.pen p), .va (.int (m : Nat)), .va (.int (h : Nat)), .no, .no, .no, .no, .no, .no, .no, .no, .no, .no, .no, .no] fun fl ρ => nxH fl ρ (∃ (p : Pn) (x y : Int), PnOk p ∧ (-50 ≤ x ∧ x ≤ 50) ∧ (-50 ≤ y ∧ y ≤ 50) ∧ ρ = L60 p m h x y .no .no .no .no .no .no .no .no) fun _ _ => False := by
  constructor
  unfold q1
  rw [ho_evAsgT]
  refine call_pen (n := 1) (p0 := .pen p) rfl ?_
  obtain ⟨a, p', q1, q2, q3, q4, q5, q6⟩ := drawn_ok (w := 50) hp (by omega) (by omega)
  simp only [↓hos]
  refine ⟨rfl, trivial, p, _, p', rfl, q1, ?_⟩
  exact ⟨p', a.1, a.2, q2, ⟨by omega, by omega⟩, ⟨by omega, by omega⟩, rfl⟩
theorem q2_ok {p : Pn} {m h : Nat} {x y : Int} : HoS q2 (L60 p m h x y .no .no .no .no .no .no .no .no) fun fl ρ => nxH fl ρ (ρ = L60 p m h x y (.ow ([((0 : Int), (0 : Int)), (4 * (m : Int), 0)].map pt)) .no .no .no .no .no .no .no) fun _ _ => False := by
  constructor
  have e4 : ∀ i, (small64 4 || small64 i) = true := fun i => by simp [small64]
  unfold q2
  simp only [↓hos, ↓gz, ↓List.getElem?_cons_succ, v_mul (e4 _)]
  exact ⟨rfl, rfl, rfl, lt_ok rfl, rfl⟩
theorem rng3_q {m : Nat} (h : m ≤ 7) : rngR3 [.va (.int ((m : Int) - 1)), .va (.int (-1)), .va (.int (-1))] = some ((tsq m).map D.int) := by
  have hs : smI ((m : Int) - 1) = true := by
    unfold smI
    rw [decide_eq_true (by omega), decide_eq_true (by omega)]
    rfl
  show (if (smI ((m : Int) - 1) && smI (-1) && decide ((-1 : Int) = -1)) = true then some (rngD ((m : Int) - 1) (-1) ((m : Int) - 1 - -1).toNat) else none) = _
  rw [hs, show smI (-1) = true from rfl]
  simp only [Bool.and_self, decide_true, if_true]
  unfold rngD tsq
  rw [List.map_map, show ((m : Int) - 1 - -1).toNat = m by omega]
  exact congrArg some (List.map_congr_left fun k _ => congrArg D.int (by show _ = (m : Int) - 1 - (k : Nat); omega))
theorem rng3_w {m : Nat} (h : m ≤ 7) : rngR3 [.va (.int ((m : Int) - 1)), .va (.int 0), .va (.int (-1))] = some ((tsw m).map D.int) := by
  have hs : smI ((m : Int) - 1) = true := by
    unfold smI
    rw [decide_eq_true (by omega), decide_eq_true (by omega)]
    rfl
  show (if (smI ((m : Int) - 1) && smI 0 && decide ((-1 : Int) = -1)) = true then some (rngD ((m : Int) - 1) (-1) ((m : Int) - 1 - 0).toNat) else none) = _
  rw [hs, show smI 0 = true from rfl]
  simp only [Bool.and_self, decide_true, if_true]
  unfold rngD tsw
  rw [List.map_map, show ((m : Int) - 1 - 0).toNat = m - 1 by omega]
  exact congrArg some (List.map_congr_left fun k _ => congrArg D.int (by show _ = (m : Int) - 1 - (k : Nat); omega))
theorem add_lst {xs ys : List D} (h : xs.length + ys.length ≤ 1000) : addD (.lst xs) (.lst ys) = some (.ow (xs ++ ys)) := by
  have : okN (xs.length + ys.length) = true := decide_eq_true (by omega)
  simp only [addD, this, if_true]
theorem q3_ok {p : Pn} {m h : Nat} {x y : Int} (hm : m ≤ 7) : HoS q3 (L60 p m h x y (.ow ([((0 : Int), (0 : Int)), (4 * (m : Int), 0)].map pt)) .no .no .no .no .no .no .no) fun fl ρ => nxH fl ρ (∃ b, ρ = L60 p m h x y (.ow ((crow m h).map pt)) b .no .no .no .no .no .no) fun _ _ => False := by
  constructor
  have e4 : ∀ i, (small64 4 || small64 i) = true := fun i => by simp [small64]
  have r3 := rng3_q hm
  unfold q3
  generalize rngR3 = R3 at r3
  simp only [↓hos, ↓gz, ↓List.getElem?_cons_succ, r3]
  refine forM_inv (fun ds ρ => ∃ (done rest : List Int) (row : List Pt) (b : Sl), tsq m = done ++ rest ∧ ds = rest.map D.int ∧ row = done.foldl (cstep m h) [(0, 0), (4 * (m : Int), 0)] ∧ row.length ≤ 2 + 4 * done.length ∧ ρ = L60 p m h x y (.ow (row.map pt)) b .no .no .no .no .no .no) ?_ ?_ _ _ ⟨[], tsq m, _, _, rfl, rfl, rfl, by simp, rfl⟩
  · rintro d ds ρ ⟨done, rest, row, b, h1, h2, h3, h4, rfl⟩
    cases rest with
    | nil => cases h2
    | cons t rest =>
      rw [List.map_cons] at h2
      cases h2
      have hdl : done.length ≤ 7 := by
        have := congrArg List.length h1
        unfold tsq at this
        simp at this
        omega
      rw [show tgN 7 (.int t) (L60 p m h x y (.ow (row.map pt)) b .no .no .no .no .no .no) = some (L60 p m h x y (.ow (row.map pt)) (.va (.int t)) .no .no .no .no .no .no) from rfl, optH_some]
      have own : ∀ Q : R → ES → Prop, Q (.va (.bl (decide (t = (m : Int) - 1)))) (L60 p m h x y (.ow (row.map pt)) (.va (.int t)) .no .no .no .no .no .no) → Ho (evOwn Teq csL eqD (evVar 7) (evBin (intD gSub) (evVar 2) (evC (.int 1))) (L60 p m h x y (.ow (row.map pt)) (.va (.int t)) .no .no .no .no .no .no)) Q := fun Q hQ => by
        refine ho_evOwn_d ?_
        simp only [↓hos, ↓gz, ↓List.getElem?_cons_succ]
        exact ⟨_, _, rfl, rfl, fun _ _ z => (by cases z), (by rw [v_eqI]; exact hQ)⟩
      have fi : ∀ Q : R → ES → Prop, Q (.va (.int (if t = (m : Int) - 1 then (h : Int) + 1 else h))) (L60 p m h x y (.ow (row.map pt)) (.va (.int t)) .no .no .no .no .no .no) → Ho (evIf (evBl (evOwn Teq csL eqD (evVar 7) (evBin (intD gSub) (evVar 2) (evC (.int 1))))) (evBin addD (evVar 3) (evC (.int 1))) (evVar 3) (L60 p m h x y (.ow (row.map pt)) (.va (.int t)) .no .no .no .no .no .no)) Q := fun Q hQ => by
        rw [ho_evIf, ho_evBl]
        refine own _ ?_
        by_cases ht : t = (m : Int) - 1
        · rw [if_pos ht] at hQ
          simp only [ht, decide_true, ↓hos, if_true, ↓gz, ↓List.getElem?_cons_succ]
          rw [ht] at hQ
          exact hQ
        · rw [if_neg ht] at hQ
          simp only [ht, decide_false, ↓hos, Bool.false_eq_true, if_false, ↓gz, ↓List.getElem?_cons_succ]
          exact hQ
      generalize hk : (if t = (m : Int) - 1 then (h : Int) + 1 else h) = k at fi
      have hrow : done.foldl (cstep m h) [(0, 0), (4 * (m : Int), 0)] = row := h3.symm
      have hlen : ∀ row', row' = cstep m h row t → row'.length ≤ 2 + 4 * (done ++ [t]).length := fun row' e => by
        rw [e]
        unfold cstep
        have hi : (if 0 < t then [((4 * t + 2, 1) : Pt), (4 * t, 1)] else []).length ≤ 2 := by split <;> simp
        rw [List.length_append, List.length_append, List.length_append]
        simp only [List.length_cons, List.length_nil]
        omega
      refine Ho.imp (Q := fun fl ρ => fl = Fl.nx ∧ ρ = L60 p m h x y (.ow ((cstep m h row t).map pt)) (.va (.int t)) .no .no .no .no .no .no) ?_ fun fl ρ ⟨q1, q2⟩ => ?_
      · have first : ∀ Q : R → ES → Prop, Q (.ow ((row ++ [(4 * t + 4, k), (4 * t + 2, (h : Int))]).map pt)) (L60 p m h x y (.ow (row.map pt)) (.va (.int t)) .no .no .no .no .no .no) → Ho (evBin addD (evVar 6) (evLst (evCons (evTup (evCons (evBin addD (evBin mulD (evC (.int 4)) (evVar 7)) (evC (.int 4))) (evCons (evIf (evBl (evOwn Teq csL eqD (evVar 7) (evBin (intD gSub) (evVar 2) (evC (.int 1))))) (evBin addD (evVar 3) (evC (.int 1))) (evVar 3)) evNil))) (evCons (evTup (evCons (evBin addD (evBin mulD (evC (.int 4)) (evVar 7)) (evC (.int 2))) (evCons (evVar 3) evNil))) evNil))) (L60 p m h x y (.ow (row.map pt)) (.va (.int t)) .no .no .no .no .no .no)) Q := fun Q hQ => by
          rw [ho_evBin, ho_evVar]
          simp only [↓gz, ↓List.getElem?_cons_succ]
          rw [ho_evLst, ho_evCons, ho_evTup, ho_evCons]
          simp only [↓ho_evBin, ↓ho_evC, ↓ho_evVar, ↓gz, ↓List.getElem?_cons_succ, ↓z_va, ↓r_va, ↓optH_some, v_mul (e4 _), ↓v_add]
          rw [ho_evCons]
          refine fi _ ?_
          simp only [↓hos, ↓gz, ↓List.getElem?_cons_succ, v_mul (e4 _)]
          refine ⟨rfl, rfl, rfl, ?_⟩
          rw [add_lst (by simp; omega)]
          simp only [optH_some]
          rw [List.map_append] at hQ
          exact hQ
        rw [ho_evAsg, ho_evBin]
        refine first _ ?_
        unfold cstep
        rw [hk]
        by_cases ht : 0 < t
        · rw [if_pos ht]
          simp only [↓hos, ↓gz, ↓List.getElem?_cons_succ, ht, decide_true, if_true, v_mul (e4 _)]
          refine ⟨rfl, rfl, rfl, ?_⟩
          rw [add_lst (by simp; omega)]
          simp only [optH_some, asgH_ow]
          refine ⟨lt_ok rfl, trivial, ?_⟩
          simp only [List.map_append]
          rfl
        · rw [if_neg ht]
          simp only [↓hos, ↓gz, ↓List.getElem?_cons_succ, ht, decide_false, Bool.false_eq_true, if_false]
          refine ⟨rfl, ?_⟩
          rw [add_lst (by simp; omega)]
          simp only [optH_some, asgH_ow]
          refine ⟨lt_ok rfl, trivial, ?_⟩
          rw [List.append_nil, List.append_nil]
          rfl
      · subst q1 q2
        exact ⟨done ++ [t], rest, _, _, by rw [h1, List.append_assoc]; rfl, rfl, by rw [List.foldl_append, hrow]; rfl, hlen _ rfl, rfl⟩
  · rintro ρ ⟨done, rest, row, b, h1, h2, h3, h4, rfl⟩
    cases rest with
    | cons t rest => cases h2
    | nil =>
      rw [List.append_nil] at h1
      refine ⟨b, ?_⟩
      unfold crow
      rw [h1, ← h3]
end Lw
end Mc
end
section
set_option Elab.async false
set_option linter.all false
set_option maxRecDepth 100000
set_option maxHeartbeats 4000000
set_option autoImplicit false
namespace Mc
namespace Lw
open PySem PySem.Spec L2
theorem C_ok {m h : Nat} (h1 : 2 ≤ m) (h2 : m ≤ 7) (h3 : 2 ≤ h) (h4 : h ≤ 10) : okC m (h : Nat) = true := by
  have q := List.all_eq_true.mp (List.all_eq_true.mp allC (m - 2) (List.mem_range.mpr (by omega))) (h - 2) (List.mem_range.mpr (by omega))
  rw [show m - 2 + 2 = m by omega, show h - 2 + 2 = h by omega] at q
  exact q
theorem S_ok {m h : Nat} (h1 : 2 ≤ m) (h2 : m ≤ 7) (h3 : 2 ≤ h) (h4 : h ≤ 10) : okS m (h : Nat) = true := by
  have q := List.all_eq_true.mp (List.all_eq_true.mp allS (m - 2) (List.mem_range.mpr (by omega))) (h - 2) (List.mem_range.mpr (by omega))
  rw [show m - 2 + 2 = m by omega, show h - 2 + 2 = h by omega] at q
  exact q
theorem B_ok {m : Nat} (h1 : 2 ≤ m) (h2 : m ≤ 7) : okB m = true := by
  have q := List.all_eq_true.mp allB (m - 2) (List.mem_range.mpr (by omega))
  rw [show m - 2 + 2 = m by omega] at q
  exact q
theorem F_ok {m i : Nat} (h1 : 2 ≤ m) (h2 : m ≤ 7) (h3 : i < 2 * m) : okF m i = true := by
  have q := List.all_eq_true.mp (List.all_eq_true.mp allF (m - 2) (List.mem_range.mpr (by omega))) i (List.mem_range.mpr (by omega))
  rw [show m - 2 + 2 = m by omega] at q
  exact q
abbrev fT (r : List Pt) (x y : Int) : D := fo ((led r).map (tr x y))
theorem crow_len {m : Nat} {h : Int} (hm : m ≤ 7) : (crow m h).length ≤ 100 := by
  unfold crow
  have e : ∀ (l : List Int) (row : List Pt), (l.foldl (cstep m h) row).length ≤ row.length + 4 * l.length := fun l => by
    induction l with
    | nil => intro row; simp
    | cons t l ih =>
      intro row
      rw [List.foldl_cons]
      have := ih (cstep m h row t)
      have q : (cstep m h row t).length ≤ row.length + 4 := by
        unfold cstep
        have hi : (if 0 < t then [((4 * t + 2, 1) : Pt), (4 * t, 1)] else []).length ≤ 2 := by split <;> simp
        rw [List.length_append, List.length_append]
        simp only [List.length_cons, List.length_nil]
        omega
      rw [List.length_cons]
      omega
  have := e (tsq m) [(0, 0), (4 * (m : Int), 0)]
  have hl : (tsq m).length = m := by unfold tsq; simp
  rw [hl] at this
  simp only [List.length_cons, List.length_nil] at this
  omega
theorem cmp_tr {p : Pn} {m h : Nat} {x y : Int} {a b c d e f g i : Sl} {ps : List Pt} {Q : R → ES → Prop} (hl : ps.length ≤ 1000) (hQ : Q (.ow ((ps.map (tr x y)).map pt)) (L60 p m h x y a b c d e f g i)) : Ho (compE [14, 15] (tgTup 2 (tgCons (tgN 14) (tgCons (tgN 15) tgNil))) (M.ret true) (evTup (evCons (evBin addD (evVar 4) (evVar 14)) (evCons (evBin addD (evVar 5) (evVar 15)) evNil))) (ps.map pt) (L60 p m h x y a b c d e f g i)) Q := by
  refine ho_compE (fun d => some (.tup [.int (x + (unp d).1), .int (y + (unp d).2)])) (fun d' hd => ?_) (by simp; omega) ?_
  · obtain ⟨q, _, rfl⟩ := List.mem_map.mp hd
    rw [show wipeE (L60 p m h x y a b c d e f g i) [14, 15] = L60 p m h x y a b c d e f g i from rfl,
      show tgTup 2 (tgCons (tgN 14) (tgCons (tgN 15) tgNil)) (pt q) (L60 p m h x y a b c d e f g i) = some [.no, .pn (.pen p), .va (.int (m : Nat)), .va (.int (h : Nat)), .va (.int x), .va (.int y), a, b, c, d, e, f, g, i, .va (.int q.1), .va (.int q.2)] from rfl, optH_some]
    simp only [↓hos, if_true, ↓gz, ↓List.getElem?_cons_succ]
    exact ⟨rfl, rfl, rfl⟩
  · rw [fm_tr]
    exact hQ
theorem q4_ok {p : Pn} {m h : Nat} {x y : Int} {b : Sl} (h1 : 2 ≤ m) (h2 : m ≤ 7) (h3 : 2 ≤ h) (h4 : h ≤ 10) (hx : -50 ≤ x ∧ x ≤ 50) (hy : -50 ≤ y ∧ y ≤ 50) : HoS q4 (L60 p m h x y (.ow ((crow m h).map pt)) b .no .no .no .no .no .no) fun fl ρ => nxH fl ρ (∃ a, ρ = L60 p m h x y a b (.va (fT (comb m h) x y)) .no .no .no .no .no) fun _ _ => False := by
  constructor
  have hc := C_ok h1 h2 h3 h4
  unfold okC at hc
  have hr : okR (comb m (h : Nat)) = true := by
    obtain ⟨hc, _⟩ := Bool.and_eq_true_iff.mp hc
    obtain ⟨hc, _⟩ := Bool.and_eq_true_iff.mp hc
    obtain ⟨hc, _⟩ := Bool.and_eq_true_iff.mp hc
    obtain ⟨hc, _⟩ := Bool.and_eq_true_iff.mp hc
    exact hc
  have hf := mk_field (d := .lst (((comb m (h : Nat)).map (tr x y)).map pt)) hr hx hy (Or.inr rfl)
  have hcl := crow_len (h := (h : Nat)) h2
  unfold q4
  generalize F24 = G at hf
  have cut : cutD (.lst ((crow m (h : Nat)).map pt)) none (some (-1)) = some (.ow ((crow m (h : Nat)).dropLast.map pt)) := by
    show some (R.ow (cutG ((crow m (h : Nat)).map pt) none (some (-1)))) = _
    rw [cut_last, List.map_dropLast]
  have add : addD (.lst ((crow m (h : Nat)).dropLast.map pt)) (.lst [.tup [.int 0, .int (h : Nat)]]) = some (.ow ((comb m (h : Nat)).map pt)) := by
    rw [add_lst (by simp; omega)]
    unfold comb
    rw [List.map_append]
    rfl
  rw [ho_evAsg, ho_evMake, ho_evN, ho_evCons, ho_evComp, ho_evSq, ho_evBin]
  simp only [↓hos, ↓gz, ↓List.getElem?_cons_succ]
  simp only [cut, ↓hos, ↓gz, ↓List.getElem?_cons_succ]
  refine ⟨rfl, rfl, ?_⟩
  rw [add]
  simp only [↓hos]
  refine cmp_tr (by unfold comb; simp; omega) ?_
  simp only [↓hos]
  refine ⟨rfl, ?_⟩
  rw [hf]
  exact ⟨lt_ok rfl, _, rfl⟩
end Lw
end Mc
end
section
set_option Elab.async false
set_option linter.all false
set_option maxRecDepth 100000
set_option maxHeartbeats 4000000
set_option autoImplicit false
namespace Mc
open PySem PySem.Spec L2
theorem ho_evLSt {i : Nat} {fi : M R} {d : D} {ρ : ES} {xs0 : List D} {Q : Unit → ES → Prop} (h : ρ[i]? = some (.ow xs0)) (hf : Ho (fi ρ) fun ri ρ3 => ∃ k xs, ri = .va (.int k) ∧ ρ3[i]? = some (.ow xs) ∧ optH (ixN xs.length k) fun j => Q () (ρ3.set i (.ow (xs.set j d)))) : Ho (evLSt i fi d ρ) Q := by
  unfold evLSt
  simp only [h]
  rw [ho_bnd]
  refine hf.imp fun ri ρ3 ⟨k, xs, e1, e2, q⟩ => ?_
  subst e1
  simp only [e2]
  revert q
  cases ixN xs.length k with
  | none => exact fun z => z.elim
  | some j => exact fun z => z
theorem ho_evSwp {i : Nat} {f1 f2 fv : M R} {ρ : ES} {Q : Fl → ES → Prop} (hf : Ho (fv ρ) fun r ρ1 => Ho (frzS r.frz ρ1) fun d ρ2 => ∃ u v, d = .tup [u, v] ∧ Ho (evLSt i f1 u ρ2) fun _ ρ3 => Ho (evLSt i f2 v ρ3) fun _ ρ4 => Q .nx ρ4) : Ho (evSwp i f1 f2 fv ρ) Q := by
  unfold evSwp
  rw [ho_bnd, ho_frzM]
  refine hf.imp fun r ρ1 q => ?_
  rw [ho_bnd]
  refine q.imp fun d ρ2 ⟨u, v, e, q⟩ => ?_
  subst e
  show Ho (M.bnd (evLSt i f1 u) (fun _ => M.bnd (evLSt i f2 v) fun _ => M.ret .nx) ρ2) Q
  rw [ho_bnd]
  refine q.imp fun _ ρ3 q => ?_
  rw [ho_bnd]
  exact q
namespace Lw
theorem led_sm {r : List Pt} {x y : Int} (h : okL (led r) = true) (hx : -50 ≤ x ∧ x ≤ 50) (hy : -50 ≤ y ∧ y ≤ 50) : 3 ≤ ((led r).map (tr x y)).length ∧ ((led r).map (tr x y)).length ≤ 40 ∧ ((led r).map (tr x y)).Nodup ∧ SmR ((led r).map (tr x y)) := okL_tr h hx hy
theorem ne_bf : neD (.bl false) (.bl false) = some (.va (.bl false)) := by with_unfolding_all rfl
theorem nts_ln {l : List Nat} : (nts l).length = l.length := by
  unfold nts
  rw [List.length_map]
theorem nts_len {l : List Nat} : lenD [.tup (nts l)] = some (.va (.int (l.length : Nat))) := by
  show some (R.va (D.int ((nts l).length : Nat))) = _
  unfold nts
  rw [List.length_map]
theorem C_sp {m h : Nat} {x y : Int} (h1 : 2 ≤ m) (h2 : m ≤ 7) (h3 : 2 ≤ h) (h4 : h ≤ 10) (hx : -50 ≤ x ∧ x ≤ 50) (hy : -50 ≤ y ∧ y ≤ 50) : (∃ l : List Nat, l.length = 2 * (m - 1) ∧ F39 [fT (comb m h) x y] = some (.va (.tup (nts l)))) ∧ F40 [fT (comb m h) x y] = some (.va (.bl false)) ∧ F46 [.tup (((led (comb m h)).map (tr x y)).map pt)] = some (.va (.int 1)) := by
  have hc := C_ok h1 h2 h3 h4
  unfold okC at hc
  obtain ⟨hc, c5⟩ := Bool.and_eq_true_iff.mp hc
  obtain ⟨hc, c4⟩ := Bool.and_eq_true_iff.mp hc
  obtain ⟨hc, c3⟩ := Bool.and_eq_true_iff.mp hc
  obtain ⟨c1, c2⟩ := Bool.and_eq_true_iff.mp hc
  have c3 := of_decide_eq_true c3
  have c4 := of_decide_eq_true c4
  obtain ⟨s1, s2, s3, s4⟩ := led_sm c2 hx hy
  have eb := bays_ok (by omega) s4
  have ec := convex_ok (by omega) s4
  have et := turnings_ok s1 s2 s3 s4 fun i hi => by
    rw [List.length_map] at hi
    rw [gbk_tr hi]
    have := List.all_eq_true.mp c5 i (List.mem_range.mpr hi)
    simpa using this
  rw [bys_tr] at eb ec
  rw [trn_tr, c4] at et
  have hne : (bys (led (comb m (h : Nat)))).isEmpty = false := by
    cases hb : bys (led (comb m (h : Nat))) with
    | nil => rw [hb] at c3; simp at c3; omega
    | cons _ _ => rfl
  rw [hne] at ec
  exact ⟨⟨_, c3, eb⟩, ec, et⟩
theorem q5_gen {G1 G2 G3 G4 : List D → Option DRes} {p : Pn} {m h : Nat} {x y : Int} {a b : Sl} {qs : List Pt} {l : List Nat} (h1 : 2 ≤ m) (c3 : l.length = 2 * (m - 1)) (eb : G1 [fo qs] = some (.va (.tup (nts l)))) (ec : G2 [fo qs] = some (.va (.bl false))) (et : G4 [.tup (qs.map pt)] = some (.va (.int 1))) (hl : G3 [.int 1, .int 1] = some (.va (.bl true))) : HoS (q5G G1 G2 G3 G4) (L60 p m h x y a b (.va (fo qs)) .no .no .no .no .no) fun fl ρ => nxH fl ρ (ρ = L60 p m h x y a b (.va (fo qs)) .no .no .no .no .no) fun _ _ => False := by
  constructor
  have e2 : ∀ i, (small64 2 || small64 i) = true := fun i => by simp [small64]
  unfold q5G
  refine if_f ?_ rfl
  rw [ho_evOrT, ho_evBl]
  refine ho_evOwn_d ?_
  simp only [↓hos, ↓gz, ↓List.getElem?_cons_succ, eb, ↓resH_same, nts_len, v_mul (e2 _)]
  refine ⟨rfl, _, _, rfl, rfl, fun _ _ z => (by cases z), ?_⟩
  rw [v_neI, nts_ln, c3, show decide (((2 * (m - 1) : Nat) : Int) = 2 * ((m : Nat) - 1)) = true from decide_eq_true (by omega)]
  simp only [↓hos, Bool.not_true, Bool.false_eq_true, if_false]
  refine ho_evOwn_d ?_
  simp only [↓hos, ↓gz, ↓List.getElem?_cons_succ, ec, ↓resH_same]
  refine ⟨rfl, _, _, rfl, rfl, fun _ _ z => (by cases z), ?_⟩
  rw [show decide (((m : Nat) : Int) = 1) = false from decide_eq_false (by omega), ne_bf]
  unfold fo
  simp only [↓hos, ↓gz, ↓List.getElem?_cons_succ, ↓fld_c, et, ↓resH_same, hl, truD, Bool.false_eq_true, if_false]
  exact ⟨rfl, rfl, rfl, trivial⟩
theorem q5_ok {p : Pn} {m h : Nat} {x y : Int} {a b : Sl} (h1 : 2 ≤ m) (h2 : m ≤ 7) (h3 : 2 ≤ h) (h4 : h ≤ 10) (hx : -50 ≤ x ∧ x ≤ 50) (hy : -50 ≤ y ∧ y ≤ 50) : HoS q5 (L60 p m h x y a b (.va (fT (comb m h) x y)) .no .no .no .no .no) fun fl ρ => nxH fl ρ (ρ = L60 p m h x y a b (.va (fT (comb m h) x y)) .no .no .no .no .no) fun _ _ => False := by
  rw [q5_is]
  have f := C_sp (x := x) (y := y) h1 h2 h3 h4 hx hy
  exact q5_gen h1 f.1.choose_spec.1 f.1.choose_spec.2 f.2.1 f.2.2 lis_int
theorem q6_ok {p : Pn} {m h : Nat} {x y : Int} {a b c : Sl} : HoS q6 (L60 p m h x y a b c .no .no .no .no .no) fun fl ρ => nxH fl ρ (ρ = L60 p m h x y a b c (.ow ([((0 : Int), (0 : Int)), (2 * (m : Int), 0)].map pt)) .no .no .no .no) fun _ _ => False := by
  constructor
  have e2 : ∀ i, (small64 2 || small64 i) = true := fun i => by simp [small64]
  unfold q6
  simp only [↓hos, ↓gz, ↓List.getElem?_cons_succ, v_mul (e2 _)]
  exact ⟨rfl, rfl, rfl, lt_ok rfl, rfl⟩
theorem q7_ok {p : Pn} {m h : Nat} {x y : Int} {a b c : Sl} (hm : m ≤ 7) : HoS q7 (L60 p m h x y a b c (.ow ([((0 : Int), (0 : Int)), (2 * (m : Int), 0)].map pt)) .no .no .no .no) fun fl ρ => nxH fl ρ (∃ b, ρ = L60 p m h x y a b c (.ow ((srow m h).map pt)) .no .no .no .no) fun _ _ => False := by
  constructor
  have e2 : ∀ i, (small64 2 || small64 i) = true := fun i => by simp [small64]
  have r3 := rng3_w hm
  unfold q7
  generalize rngR3 = R3 at r3
  simp only [↓hos, ↓gz, ↓List.getElem?_cons_succ, r3]
  refine forM_inv (fun ds ρ => ∃ (done rest : List Int) (row : List Pt) (b : Sl), tsw m = done ++ rest ∧ ds = rest.map D.int ∧ row = done.foldl (sstep h) [(0, 0), (2 * (m : Int), 0)] ∧ row.length ≤ 2 + 4 * done.length ∧ ρ = L60 p m h x y a b c (.ow (row.map pt)) .no .no .no .no) ?_ ?_ _ _ ⟨[], tsw m, _, _, rfl, rfl, rfl, by simp, rfl⟩
  · rintro d ds ρ ⟨done, rest, row, b, h1, h2, h3, h4, rfl⟩
    cases rest with
    | nil => cases h2
    | cons t rest =>
      rw [List.map_cons] at h2
      cases h2
      have hdl : done.length ≤ 7 := by
        have := congrArg List.length h1
        unfold tsw at this
        simp at this
        omega
      rw [show tgN 7 (.int t) (L60 p m h x y a b c (.ow (row.map pt)) .no .no .no .no) = some (L60 p m h x y a (.va (.int t)) c (.ow (row.map pt)) .no .no .no .no) from rfl, optH_some]
      simp only [↓hos, ↓gz, ↓List.getElem?_cons_succ, v_mul (e2 _)]
      refine ⟨rfl, rfl, rfl, ?_⟩
      rw [add_lst (by simp; omega)]
      simp only [optH_some, asgH_ow]
      refine ⟨lt_ok rfl, ?_⟩
      refine ⟨done ++ [t], rest, sstep h row t, .va (.int t), by rw [h1, List.append_assoc]; rfl, rfl, by rw [List.foldl_append, ← h3]; rfl, ?_, ?_⟩
      · unfold sstep
        rw [List.length_append, List.length_append]
        simp only [List.length_cons, List.length_nil]
        omega
      · unfold sstep
        rw [List.map_append]
        rfl
  · rintro ρ ⟨done, rest, row, b, h1, h2, h3, h4, rfl⟩
    cases rest with
    | cons t rest => cases h2
    | nil =>
      rw [List.append_nil] at h1
      refine ⟨b, ?_⟩
      unfold srow
      rw [h1, ← h3]
theorem srow_len {m : Nat} {h : Int} (hm : m ≤ 7) : (srow m h).length ≤ 100 := by
  unfold srow
  have e : ∀ (l : List Int) (row : List Pt), (l.foldl (sstep h) row).length ≤ row.length + 2 * l.length := fun l => by
    induction l with
    | nil => intro row; simp
    | cons t l ih =>
      intro row
      rw [List.foldl_cons]
      have := ih (sstep h row t)
      have q : (sstep h row t).length ≤ row.length + 2 := by
        unfold sstep
        rw [List.length_append]
        simp only [List.length_cons, List.length_nil]
        omega
      rw [List.length_cons]
      omega
  have := e (tsw m) [(0, 0), (2 * (m : Int), 0)]
  have hl : (tsw m).length = m - 1 := by unfold tsw; simp
  rw [hl] at this
  simp only [List.length_cons, List.length_nil] at this
  omega
theorem q8_ok {p : Pn} {m h : Nat} {x y : Int} {a b c : Sl} (h1 : 2 ≤ m) (h2 : m ≤ 7) (h3 : 2 ≤ h) (h4 : h ≤ 10) (hx : -50 ≤ x ∧ x ≤ 50) (hy : -50 ≤ y ∧ y ≤ 50) : HoS q8 (L60 p m h x y a b c (.ow ((srow m h).map pt)) .no .no .no .no) fun fl ρ => nxH fl ρ (ρ = L60 p m h x y a b c (.va (fT (saw m h) x y)) .no .no .no .no) fun _ _ => False := by
  constructor
  have hc := S_ok h1 h2 h3 h4
  unfold okS at hc
  have hr : okR (saw m (h : Nat)) = true := by
    obtain ⟨hc, _⟩ := Bool.and_eq_true_iff.mp hc
    obtain ⟨hc, _⟩ := Bool.and_eq_true_iff.mp hc
    obtain ⟨hc, _⟩ := Bool.and_eq_true_iff.mp hc
    exact hc
  have hf := mk_field (d := .lst (((saw m (h : Nat)).map (tr x y)).map pt)) hr hx hy (Or.inr rfl)
  have hcl := srow_len (h := (h : Nat)) h2
  unfold q8
  generalize F24 = G at hf
  have add : addD (.lst ((srow m (h : Nat)).map pt)) (.lst [.tup [.int 1, .int (h : Nat)]]) = some (.ow ((saw m (h : Nat)).map pt)) := by
    rw [add_lst (by simp; omega)]
    unfold saw
    rw [List.map_append]
    rfl
  rw [ho_evAsg, ho_evMake, ho_evN, ho_evCons, ho_evComp, ho_evSq, ho_evBin]
  simp only [↓hos, ↓gz, ↓List.getElem?_cons_succ]
  refine ⟨rfl, rfl, ?_⟩
  rw [add]
  simp only [↓hos]
  refine cmp_tr (by unfold saw; simp; omega) ?_
  simp only [↓hos]
  refine ⟨rfl, ?_⟩
  rw [hf]
  exact ⟨lt_ok rfl, rfl⟩
theorem S_sp {m h : Nat} {x y : Int} (h1 : 2 ≤ m) (h2 : m ≤ 7) (h3 : 2 ≤ h) (h4 : h ≤ 10) (hx : -50 ≤ x ∧ x ≤ 50) (hy : -50 ≤ y ∧ y ≤ 50) : (∃ l : List Nat, l.length = m - 1 ∧ F39 [fT (saw m h) x y] = some (.va (.tup (nts l)))) ∧ ∃ i j : Nat, F41 [fT (saw m h) x y] = some (.va (.tup [.int (i : Nat), .int (j : Nat)])) := by
  have hc := S_ok h1 h2 h3 h4
  unfold okS at hc
  obtain ⟨hc, c4⟩ := Bool.and_eq_true_iff.mp hc
  obtain ⟨hc, c3⟩ := Bool.and_eq_true_iff.mp hc
  obtain ⟨c1, c2⟩ := Bool.and_eq_true_iff.mp hc
  have c3 := of_decide_eq_true c3
  obtain ⟨s1, s2, s3, s4⟩ := led_sm c2 hx hy
  have eb := bays_ok (by omega) s4
  have ey := beyond_ok (by omega) s4
  rw [bys_tr] at eb
  rw [bsd_tr] at ey
  obtain ⟨⟨i, j⟩, hz⟩ : ∃ z, bsd (led (saw m (h : Nat))) = some z := by
    cases hb : bsd (led (saw m (h : Nat))) with
    | none => rw [hb] at c4; cases c4
    | some z => exact ⟨z, rfl⟩
  rw [hz] at ey
  simp only at ey
  exact ⟨⟨_, c3, eb⟩, i, j, ey⟩
theorem q9_gen {G1 G2 : List D → Option DRes} {p : Pn} {m h : Nat} {x y : Int} {a b c : Sl} {qs : List Pt} {l : List Nat} {i j : Nat} (h1 : 2 ≤ m) (c3 : l.length = m - 1) (eb : G1 [fo qs] = some (.va (.tup (nts l)))) (ey : G2 [fo qs] = some (.va (.tup [.int (i : Nat), .int (j : Nat)]))) : HoS (q9G G1 G2) (L60 p m h x y a b c (.va (fo qs)) .no .no .no .no) fun fl ρ => nxH fl ρ (ρ = L60 p m h x y a b c (.va (fo qs)) .no .no .no .no) fun _ _ => False := by
  constructor
  unfold q9G
  refine if_f ?_ rfl
  rw [ho_evOrT, ho_evBl]
  refine ho_evOwn_d ?_
  simp only [↓hos, ↓gz, ↓List.getElem?_cons_succ, eb, ↓resH_same, nts_len]
  refine ⟨rfl, _, _, rfl, rfl, fun _ _ z => (by cases z), ?_⟩
  rw [v_neI, nts_ln, c3, show decide (((m - 1 : Nat) : Int) = (m : Nat) - 1) = true from decide_eq_true (by omega)]
  simp only [↓hos, Bool.not_true, Bool.false_eq_true, if_false]
  refine ho_evOwn_d ?_
  simp only [↓hos, ↓gz, ↓List.getElem?_cons_succ, ey, ↓resH_same]
  refine ⟨rfl, _, _, rfl, rfl, fun _ _ z => (by cases z), ?_⟩
  rw [show decide (((m : Nat) : Int) = 1) = false from decide_eq_false (by omega)]
  show optH (neD (.bl false) (.bl false)) _
  rw [ne_bf]
  first | exact ⟨rfl, rfl⟩ | exact ⟨trivial, rfl⟩ | exact ⟨rfl, trivial⟩ | exact ⟨trivial, trivial⟩
theorem q9_ok {p : Pn} {m h : Nat} {x y : Int} {a b c : Sl} (h1 : 2 ≤ m) (h2 : m ≤ 7) (h3 : 2 ≤ h) (h4 : h ≤ 10) (hx : -50 ≤ x ∧ x ≤ 50) (hy : -50 ≤ y ∧ y ≤ 50) : HoS q9 (L60 p m h x y a b c (.va (fT (saw m h) x y)) .no .no .no .no) fun fl ρ => nxH fl ρ (ρ = L60 p m h x y a b c (.va (fT (saw m h) x y)) .no .no .no .no) fun _ _ => False := by
  rw [q9_is]
  have f := S_sp (x := x) (y := y) h1 h2 h3 h4 hx hy
  exact q9_gen h1 f.1.choose_spec.1 f.1.choose_spec.2 f.2.choose_spec.choose_spec
end Lw
end Mc
end
section
set_option Elab.async false
set_option linter.all false
set_option maxRecDepth 100000
set_option maxHeartbeats 4000000
set_option autoImplicit false
namespace Mc
namespace Lw
open PySem PySem.Spec L2
def toI : D → Int
  | .int i => i
  | _ => 0
theorem rng2_b {m : Nat} (h : m ≤ 7) : rngR2 [.va (.int (-(m : Int))), .va (.int ((m : Int) + 1))] = some ((List.range (2 * m + 1)).map fun (k : Nat) => D.int ((k : Int) - m)) := by
  have hs : smI (-(m : Int)) = true := by
    unfold smI
    rw [decide_eq_true (by omega), decide_eq_true (by omega)]
    rfl
  have hs2 : smI ((m : Int) + 1) = true := by
    unfold smI
    rw [decide_eq_true (by omega), decide_eq_true (by omega)]
    rfl
  show (if (smI (-(m : Int)) && smI ((m : Int) + 1)) = true then some (rngD (-(m : Int)) 1 ((m : Int) + 1 - -(m : Int)).toNat) else none) = _
  rw [hs, hs2]
  simp only [Bool.and_self, if_true]
  unfold rngD
  rw [show ((m : Int) + 1 - -(m : Int)).toNat = 2 * m + 1 by omega]
  exact congrArg some (List.map_congr_left fun k _ => congrArg D.int (by omega))
theorem B_sp {m : Nat} {x y : Int} (h1 : 2 ≤ m) (h2 : m ≤ 7) (hx : -50 ≤ x ∧ x ≤ 50) (hy : -50 ≤ y ∧ y ≤ 50) : F40 [fT (bowl m) x y] = some (.va (.bl true)) ∧ F41 [fT (bowl m) x y] = some (.va .non) ∧ F43 [fT (bowl m) x y, pt (x, y + (m : Int) * m)] = some (.va (.bl true)) ∧ F43 [fT (bowl m) x y, pt (x, y + 1)] = some (.va (.bl false)) := by
  have hc := B_ok h1 h2
  unfold okB at hc
  obtain ⟨hc, c6⟩ := Bool.and_eq_true_iff.mp hc
  obtain ⟨hc, c5⟩ := Bool.and_eq_true_iff.mp hc
  obtain ⟨hc, c4⟩ := Bool.and_eq_true_iff.mp hc
  obtain ⟨hc, c3⟩ := Bool.and_eq_true_iff.mp hc
  obtain ⟨c1, c2⟩ := Bool.and_eq_true_iff.mp hc
  obtain ⟨s1, s2, s3, s4⟩ := led_sm c2 hx hy
  have ec := convex_ok (by omega) s4
  have ey := beyond_ok (by omega) s4
  have e1 := onb_ok (p := (x, y + (m : Int) * m)) (by omega) s4
  have e2 := onb_ok (p := (x, y + 1)) (by omega) s4
  rw [bys_tr, c3] at ec
  rw [bsd_tr, show bsd (led (bowl m)) = none by simpa using c4] at ey
  rw [show ((x, y + (m : Int) * m) : Pt) = tr x y (0, (m : Int) * m) by unfold tr; simp, obd_tr, c5] at e1
  rw [show ((x, y + 1) : Pt) = tr x y (0, 1) by unfold tr; simp, obd_tr, show obd (led (bowl m)) (0, 1) = false by simpa using c6] at e2
  refine ⟨ec, ey, ?_, ?_⟩
  · rw [show ((x, y + (m : Int) * m) : Pt) = tr x y (0, (m : Int) * m) by unfold tr; simp]
    exact e1
  · rw [show ((x, y + 1) : Pt) = tr x y (0, 1) by unfold tr; simp]
    exact e2
theorem B_r {m : Nat} (h1 : 2 ≤ m) (h2 : m ≤ 7) : okR (bowl m) = true := by
  have hc := B_ok h1 h2
  unfold okB at hc
  obtain ⟨hc, c6⟩ := Bool.and_eq_true_iff.mp hc
  obtain ⟨hc, c5⟩ := Bool.and_eq_true_iff.mp hc
  obtain ⟨hc, c4⟩ := Bool.and_eq_true_iff.mp hc
  obtain ⟨hc, c3⟩ := Bool.and_eq_true_iff.mp hc
  obtain ⟨c1, c2⟩ := Bool.and_eq_true_iff.mp hc
  exact c1
theorem q10_ok {p : Pn} {m h : Nat} {x y : Int} {a b c d : Sl} (h1 : 2 ≤ m) (h2 : m ≤ 7) (hx : -50 ≤ x ∧ x ≤ 50) (hy : -50 ≤ y ∧ y ≤ 50) : HoS q10 (L60 p m h x y a b c d .no .no .no .no) fun fl ρ => nxH fl ρ (ρ = L60 p m h x y a b c d (.va (fT (bowl m) x y)) .no .no .no) fun _ _ => False := by
  constructor
  have hf := mk_field (d := .lst (((bowl m).map (tr x y)).map pt)) (B_r h1 h2) hx hy (Or.inr rfl)
  have r2 := rng2_b h2
  unfold q10
  generalize F24 = G at hf
  generalize rngR2 = R2 at r2
  rw [ho_evAsg, ho_evMake, ho_evN, ho_evCons, ho_evComp]
  simp only [↓hos, ↓gz, ↓List.getElem?_cons_succ, r2]
  refine ho_compE (fun d => some (.tup [.int (x + toI d), .int (y + toI d * toI d)])) (fun d' hd => ?_) (by simp; omega) ?_
  · obtain ⟨k, hk, rfl⟩ := List.mem_map.mp hd
    have hk := List.mem_range.mp hk
    rw [show wipeE (L60 p m h x y a b c d .no .no .no .no) [12] = L60 p m h x y a b c d .no .no .no .no from rfl, show tgN 12 (D.int ((k : Int) - m)) (L60 p m h x y a b c d .no .no .no .no) = some (L60 p m h x y a b c d .no .no (.va (.int ((k : Int) - m))) .no) from rfl, optH_some]
    simp only [↓hos, if_true, ↓gz, ↓List.getElem?_cons_succ, v_mul (sm_l (j := (k : Int) - m) (show -1000000 ≤ (k : Int) - m by omega) (by omega))]
    exact ⟨rfl, rfl, rfl⟩
  · rw [fm_map]
    have e : (List.range (2 * m + 1)).map (fun (k : Nat) => D.tup [.int (x + toI (.int ((k : Int) - m))), .int (y + toI (.int ((k : Int) - m)) * toI (.int ((k : Int) - m)))]) = ((bowl m).map (tr x y)).map pt := by
      unfold bowl
      rw [List.map_map, List.map_map]
      rfl
    rw [e]
    simp only [↓hos]
    refine ⟨rfl, ?_⟩
    rw [hf]
    exact ⟨lt_ok rfl, rfl⟩
theorem q11_gen {G1 G2 G3 : List D → Option DRes} {p : Pn} {m h : Nat} {x y : Int} {a b c d : Sl} {qs : List Pt} (h2 : m ≤ 7) (e1 : G1 [fo qs] = some (.va (.bl true))) (e2 : G2 [fo qs] = some (.va .non)) (e3 : G3 [fo qs, pt (x, y + (m : Int) * m)] = some (.va (.bl true))) (e4 : G3 [fo qs, pt (x, y + 1)] = some (.va (.bl false))) : HoS (q11G G1 G2 G3) (L60 p m h x y a b c d (.va (fo qs)) .no .no .no) fun fl ρ => nxH fl ρ (ρ = L60 p m h x y a b c d (.va (fo qs)) .no .no .no) fun _ _ => False := by
  constructor
  have e3' : G3 [fo qs, .tup [.int x, .int (y + (m : Int) * m)]] = some (.va (.bl true)) := e3
  have e4' : G3 [fo qs, .tup [.int x, .int (y + 1)]] = some (.va (.bl false)) := e4
  have n1 : isntD .non .non = some (.va (.bl false)) := rfl
  obtain ⟨ρ0, hρ⟩ : ∃ ρ0, ρ0 = L60 p m h x y a b c d (.va (fo qs)) .no .no .no := ⟨_, rfl⟩
  have t1 : ∀ {Q : Bool → ES → Prop}, Q true ρ0 → Ho (evTru (evCall G1 (evN 1 (evCons (evVar 10) evNil))) ρ0) Q := fun {Q} hQ => by
    rw [hρ] at hQ ⊢
    simp only [↓hos, ↓gz, ↓List.getElem?_cons_succ, e1, ↓resH_same, truD]
    exact ⟨rfl, hQ⟩
  have t2 : ∀ {Q : Bool → ES → Prop}, Q false ρ0 → Ho (evBl (evBin isntD (evCall G2 (evN 1 (evCons (evVar 10) evNil))) (evC .non)) ρ0) Q := fun {Q} hQ => by
    rw [hρ] at hQ ⊢
    simp only [↓hos, ↓gz, ↓List.getElem?_cons_succ, e2, ↓resH_same, n1]
    exact ⟨rfl, hQ⟩
  have t3 : ∀ {Q : Bool → ES → Prop}, Q true ρ0 → Ho (evTru (evCall G3 (evN 2 (evCons (evVar 10) (evCons (evTup (evCons (evVar 4) (evCons (evBin addD (evVar 5) (evBin mulD (evVar 2) (evVar 2))) evNil))) evNil)))) ρ0) Q := fun {Q} hQ => by
    rw [hρ] at hQ ⊢
    simp only [↓hos, ↓gz, ↓List.getElem?_cons_succ, v_mul (sm_l (j := (m : Nat)) (show -1000000 ≤ ((m : Nat) : Int) by omega) (by omega)), e3', ↓resH_same, truD]
    exact ⟨rfl, rfl, hQ⟩
  have t4 : ∀ {Q : Bool → ES → Prop}, Q false ρ0 → Ho (evTru (evCall G3 (evN 2 (evCons (evVar 10) (evCons (evTup (evCons (evVar 4) (evCons (evBin addD (evVar 5) (evC (.int 1))) evNil))) evNil)))) ρ0) Q := fun {Q} hQ => by
    rw [hρ] at hQ ⊢
    simp only [↓hos, ↓gz, ↓List.getElem?_cons_succ, e4', ↓resH_same, truD]
    exact ⟨rfl, rfl, hQ⟩
  rw [← hρ]
  unfold q11G
  refine if_f ?_ rfl
  rw [ho_evOrT, ho_evNotT]
  refine t1 ?_
  simp only [Bool.not_true, Bool.false_eq_true, if_false]
  rw [ho_evOrT]
  refine t2 ?_
  simp only [Bool.false_eq_true, if_false]
  rw [ho_evOrT, ho_evNotT]
  refine t3 ?_
  simp only [Bool.not_true, Bool.false_eq_true, if_false]
  refine t4 ?_
  exact ⟨rfl, rfl⟩
theorem q11_ok {p : Pn} {m h : Nat} {x y : Int} {a b c d : Sl} (h1 : 2 ≤ m) (h2 : m ≤ 7) (hx : -50 ≤ x ∧ x ≤ 50) (hy : -50 ≤ y ∧ y ≤ 50) : HoS q11 (L60 p m h x y a b c d (.va (fT (bowl m) x y)) .no .no .no) fun fl ρ => nxH fl ρ (ρ = L60 p m h x y a b c d (.va (fT (bowl m) x y)) .no .no .no) fun _ _ => False := by
  have f := B_sp (x := x) (y := y) h1 h2 hx hy
  rw [q11_is]
  exact q11_gen h2 f.1 f.2.1 f.2.2.1 f.2.2.2
theorem q12_ok {p : Pn} {m h : Nat} {x y : Int} {a b c d e : Sl} (h2 : m ≤ 7) : HoS q12 (L60 p m h x y a b c d e .no .no .no) fun fl ρ => nxH fl ρ (ρ = L60 p m h x y a b c d e (.ow ((bowl m).map pt)) .no .no) fun _ _ => False := by
  constructor
  have r2 := rng2_b h2
  unfold q12
  generalize rngR2 = R2 at r2
  simp only [↓hos, ↓gz, ↓List.getElem?_cons_succ, r2]
  refine ho_compE (fun d => some (.tup [.int (toI d), .int (toI d * toI d)])) (fun d' hd => ?_) (by simp; omega) ?_
  · obtain ⟨k, hk, rfl⟩ := List.mem_map.mp hd
    have hk := List.mem_range.mp hk
    rw [show wipeE (L60 p m h x y a b c d e .no .no .no) [12] = L60 p m h x y a b c d e .no .no .no from rfl, show tgN 12 (D.int ((k : Int) - m)) (L60 p m h x y a b c d e .no .no .no) = some (L60 p m h x y a b c d e .no (.va (.int ((k : Int) - m))) .no) from rfl, optH_some]
    simp only [↓hos, if_true, ↓gz, ↓List.getElem?_cons_succ, v_mul (sm_l (j := (k : Int) - m) (show -1000000 ≤ (k : Int) - m by omega) (by omega))]
    exact ⟨rfl, rfl, rfl⟩
  · rw [fm_map]
    have e : (List.range (2 * m + 1)).map (fun (k : Nat) => D.tup [.int (toI (.int ((k : Int) - m))), .int (toI (.int ((k : Int) - m)) * toI (.int ((k : Int) - m)))]) = (bowl m).map pt := by
      unfold bowl
      rw [List.map_map]
      rfl
    rw [e]
    simp only [↓hos]
    exact ⟨lt_ok rfl, rfl⟩
theorem q13_ok {p : Pn} {m h : Nat} {x y : Int} {a b c d e f : Sl} (hp : PnOk p) (h1 : 2 ≤ m) (h2 : m ≤ 7) : HoS q13 (L60 p m h x y a b c d e f .no .no) fun fl ρ => nxH fl ρ (∃ (p : Pn) (j : Nat), j < 2 * m ∧ ρ = L60 p m h x y a b c d e f (.va (.int (j : Nat))) .no) fun _ _ => False := by
  constructor
  have e2 : ∀ i, (small64 2 || small64 i) = true := fun i => by simp [small64]
  unfold q13
  simp only [cD_is]
  rw [ho_evAsg]
  refine ho_cD (p0 := .pen p) rfl ?_
  simp only [↓hos, ↓gz, ↓List.getElem?_cons_succ, v_mul (e2 _)]
  refine ⟨_, p, rfl, rfl, hp, by omega, by omega, fun j p1 j0 j1 hp1 => ?_⟩
  refine ⟨lt_ok rfl, p1, j.toNat, by omega, ?_⟩
  rw [show ((j.toNat : Nat) : Int) = j by omega]
  rfl
theorem bowl_len {m : Nat} : (bowl m).length = 2 * m + 1 := by
  unfold bowl
  simp
theorem q14_ok {p : Pn} {m h j : Nat} {x y : Int} {a b c d e : Sl} (hj : j < 2 * m) : HoS q14 (L60 p m h x y a b c d e (.ow ((bowl m).map pt)) (.va (.int (j : Nat))) .no) fun fl ρ => nxH fl ρ (ρ = L60 p m h x y a b c d e (.ow ((swp (bowl m) j).map pt)) (.va (.int (j : Nat))) .no) fun _ _ => False := by
  constructor
  have hl := bowl_len (m := m)
  have a1 : atI ((bowl m).map pt) ((j : Int) + 1) = some (pt (hh (bowl m) (j + 1))) := at_hh (by omega) (by omega)
  have a2 : atI ((bowl m).map pt) (j : Int) = some (pt (hh (bowl m) j)) := at_hh rfl (by omega)
  have ix : ∀ {n i : Nat} {k : Int}, k = (i : Nat) → i < n → ixN n k = some i := fun {n i k} hk hi => by
    subst hk
    unfold L2.ixN
    rw [if_pos (by omega), if_pos (by omega)]
    rfl
  unfold q14
  refine ho_evSwp ?_
  simp only [↓hos, ↓gz, ↓List.getElem?_cons_succ, a1, a2, Option.map]
  refine ⟨rfl, _, _, rfl, ?_⟩
  refine ho_evLSt (xs0 := (bowl m).map pt) rfl ?_
  simp only [↓hos, ↓gz, ↓List.getElem?_cons_succ]
  refine ⟨_, _, rfl, rfl, ?_⟩
  rw [ix (i := j) rfl (by rw [List.length_map]; omega), optH_some]
  refine ho_evLSt (xs0 := ((bowl m).map pt).set j (pt (hh (bowl m) (j + 1)))) rfl ?_
  simp only [↓hos, ↓gz, ↓List.getElem?_cons_succ, List.set_cons_succ, List.set_cons_zero]
  refine ⟨_, _, rfl, rfl, ?_⟩
  rw [ix (i := j + 1) (k := (j : Int) + 1) (by omega) (by rw [List.length_set, List.length_map]; omega), optH_some]
  show _ = _
  unfold swp
  rw [List.map_set, List.map_set]
theorem F_sp {m j : Nat} (h1 : 2 ≤ m) (h2 : m ≤ 7) (hj : j < 2 * m) : ∃ (s t : Nat) (w : Hw), F37 [.lst ((swp (bowl m) j).map pt)] = some (.va (Ft.flt s t w).d) ∧ F59 [.tup ((swp (bowl m) j).map pt)] = some (.va (Ft.flt s t w).l) := by
  have hc := F_ok h1 h2 hj
  unfold okF at hc
  obtain ⟨c1, c2⟩ := Bool.and_eq_true_iff.mp hc
  obtain ⟨k1, k2, k3, k4⟩ := okL_sp c1
  have hp : SmR (swp (bowl m) j) := fun q hq => by
    have := k4 q hq
    unfold Sm
    omega
  have e1 := faultof_ok (d := .lst ((swp (bowl m) j).map pt)) (Or.inr rfl) k1 k2 k3 hp
  have e2 := lff_ok (ps := swp (bowl m) j) (by omega) hp
  cases hf : ff (swp (bowl m) j) with
  | none => rw [hf] at c2; cases c2
  | some f =>
    cases f with
    | str i => rw [hf] at c2; cases c2
    | flt s t w =>
      rw [hf] at e1 e2
      exact ⟨s, t, w, e1, e2⟩
theorem q15_gen {G1 : List D → Option DRes} {p : Pn} {m h : Nat} {x y : Int} {a b c d e g : Sl} {r : List Pt} {s t : Nat} {w : Hw} (e1 : G1 [.lst (r.map pt)] = some (.va (Ft.flt s t w).d)) : HoS (q15G G1) (L60 p m h x y a b c d e (.ow (r.map pt)) g .no) fun fl ρ => nxH fl ρ (ρ = L60 p m h x y a b c d e (.va (.lst (r.map pt))) g (.va (Ft.flt s t w).d)) fun _ _ => False := by
  constructor
  unfold q15G
  simp only [↓hos, ↓gz, ↓List.getElem?_cons_succ, e1]
  exact ⟨rfl, lt_ok rfl, rfl⟩
theorem q16_gen {G1 G2 : List D → Option DRes} {p : Pn} {m h : Nat} {x y : Int} {a b c d e g : Sl} {r : List Pt} {s t : Nat} {w : Hw} (e1 : G1 [.tup [.int (s : Nat), .int (t : Nat), .str w.s], .tup [.int (s : Nat), .int (t : Nat), .str w.s]] = some (.va (.bl true))) (e2 : G2 [.tup (r.map pt)] = some (.va (Ft.flt s t w).l)) : HoS (q16G G1 G2) (L60 p m h x y a b c d e (.va (.lst (r.map pt))) g (.va (Ft.flt s t w).d)) fun fl ρ => nxH fl ρ (ρ = L60 p m h x y a b c d e (.va (.lst (r.map pt))) g (.va (Ft.flt s t w).d)) fun _ _ => False := by
  constructor
  have hi : isiD csL (.ob "Fault") (Ft.flt s t w).d = some (.va (.bl true)) := by with_unfolding_all rfl
  have f1 : ∀ {a b c : D}, fldD ct "one" "Fault" [("one", a), ("other", b), ("how", c)] = some (.va a) := by intro a b c; with_unfolding_all rfl
  have f2 : ∀ {a b c : D}, fldD ct "other" "Fault" [("one", a), ("other", b), ("how", c)] = some (.va b) := by intro a b c; with_unfolding_all rfl
  have f3 : ∀ {a b c : D}, fldD ct "how" "Fault" [("one", a), ("other", b), ("how", c)] = some (.va c) := by intro a b c; with_unfolding_all rfl
  have e2' : G2 [.tup (r.map pt)] = some (.va (.tup [.str "fault", .int (s : Nat), .int (t : Nat), .str w.s])) := e2
  have c1 : cutD (.tup [.str "fault", .int (s : Nat), .int (t : Nat), .str w.s]) (some 1) none = some (.va (.tup [.int (s : Nat), .int (t : Nat), .str w.s])) := rfl
  unfold q16G
  refine if_f ?_ rfl
  unfold Ft.d at hi ⊢
  simp only [↓hos, ↓gz, ↓List.getElem?_cons_succ, hi, truD, Bool.not_true, Bool.false_eq_true, if_false, ↓f1, ↓f2, ↓f3, e2', ↓resH_same, c1, e1]
  exact ⟨rfl, rfl, rfl, trivial, trivial⟩
def sq4 : List Pt := [(3, 3), (0, 3), (0, 0), (3, 0)]
theorem sq4_ok : okR sq4 = true := by decide +kernel
theorem sq4_led : led sq4 = [(0, 0), (3, 0), (3, 3), (0, 3)] := by decide +kernel
theorem q17_ok {ρ : ES} : HoS q17 ρ fun fl _ => fl = .rt (.va (.bl true)) := by
  constructor
  have h := okL_sp (r := sq4) (by decide +kernel)
  have hp : SmR sq4 := fun q hq => by
    have := h.2.2.2 q hq
    unfold Sm
    omega
  have hf := field_ok (d := .tup (sq4.map pt)) (ps := sq4) (Or.inl rfl) h.1 h.2.1 h.2.2.1 hp (by have := sq4_ok; unfold okR at this; have := (Bool.and_eq_true_iff.mp this).2; simpa using this)
  rw [sq4_led] at hf
  have hf' : F24 (.ob "Field" []) [.tup [.tup [.int 3, .int 3], .tup [.int 0, .int 3], .tup [.int 0, .int 0], .tup [.int 3, .int 0]]] = some (.va .non, .ob "Field" [("corners", .tup [.tup [.int 0, .int 0], .tup [.int 3, .int 0], .tup [.int 3, .int 3], .tup [.int 0, .int 3]])]) := hf
  have hl : F49 6 [.tup [.tup [.int 0, .int 0], .tup [.int 3, .int 0], .tup [.int 3, .int 3], .tup [.int 0, .int 3]], .tup [.tup [.int 0, .int 0], .tup [.int 3, .int 0], .tup [.int 3, .int 3], .tup [.int 0, .int 3]]] = some (.va (.bl true)) := by
    have p2 : ∀ a b : Int, F49 5 [.tup [.int a, .int b], .tup [.int a, .int b]] = some (.va (.bl true)) := fun a b => lis_tup (n := 4) rfl (by simp) fun k hk => by
      have hk : k < 2 := hk
      rcases (show k = 0 ∨ k = 1 by omega) with rfl | rfl
      · exact ⟨_, _, rfl, rfl, lis_int⟩
      · exact ⟨_, _, rfl, rfl, lis_int⟩
    refine lis_tup (n := 5) rfl (by simp) fun k hk => ?_
    have hk : k < 4 := hk
    rcases (show k = 0 ∨ k = 1 ∨ k = 2 ∨ k = 3 by omega) with rfl | rfl | rfl | rfl
    · exact ⟨_, _, rfl, rfl, p2 _ _⟩
    · exact ⟨_, _, rfl, rfl, p2 _ _⟩
    · exact ⟨_, _, rfl, rfl, p2 _ _⟩
    · exact ⟨_, _, rfl, rfl, p2 _ _⟩
  rw [q17_is]
  generalize F49 6 = G1 at hl
  generalize F24 = G2 at hf'
  unfold q17G
  simp only [↓ho_evMake, ↓hos]
  refine ⟨rfl, rfl, rfl, rfl, rfl, rfl, ?_⟩
  rw [hf']
  simp only [↓hos, if_true, ↓fld_c]
  refine ⟨rfl, rfl, rfl, rfl, rfl, rfl, ?_⟩
  rw [hl]
  rfl
theorem plain13 : Plain 16 63 m60 := by
  intro cells hl fold
  have hp : PnOk ⟨cells, 0, 0, 0, fold⟩ := ⟨Int.le_refl 0, Int.le_refl 0⟩
  have key : HoS m60 [.no, .pn (.pen ⟨cells, 0, 0, 0, fold⟩), .no, .no, .no, .no, .no, .no, .no, .no, .no, .no, .no, .no, .no, .no] fun fl _ => fl = .rt (.va (.bl true)) := by
    rw [m60_is]
    refine HoS.seq _ (q0_ok hp) fun ρ ⟨p, m, h, hp, m1, m2, n1, n2, e⟩ => ?_
    subst e
    refine HoS.seq _ (q1_ok hp) fun ρ ⟨p, x, y, hp, hx, hy, e⟩ => ?_
    subst e
    refine HoS.seq _ q2_ok fun ρ e => ?_
    subst e
    refine HoS.seq _ (q3_ok m2) fun ρ ⟨b, e⟩ => ?_
    subst e
    refine HoS.seq _ (q4_ok m1 m2 n1 n2 hx hy) fun ρ ⟨a, e⟩ => ?_
    subst e
    refine HoS.seq _ (q5_ok m1 m2 n1 n2 hx hy) fun ρ e => ?_
    subst e
    refine HoS.seq _ q6_ok fun ρ e => ?_
    subst e
    refine HoS.seq _ (q7_ok m2) fun ρ ⟨b, e⟩ => ?_
    subst e
    refine HoS.seq _ (q8_ok m1 m2 n1 n2 hx hy) fun ρ e => ?_
    subst e
    refine HoS.seq _ (q9_ok m1 m2 n1 n2 hx hy) fun ρ e => ?_
    subst e
    refine HoS.seq _ (q10_ok m1 m2 hx hy) fun ρ e => ?_
    subst e
    refine HoS.seq _ (q11_ok m1 m2 hx hy) fun ρ e => ?_
    subst e
    refine HoS.seq _ (q12_ok m2) fun ρ e => ?_
    subst e
    refine HoS.seq _ (q13_ok hp m1 m2) fun ρ ⟨p, j, hj, e⟩ => ?_
    subst e
    refine HoS.seq _ (q14_ok hj) fun ρ e => ?_
    subst e
    obtain ⟨s, t, w, e1, e2⟩ := F_sp m1 m2 hj
    rw [q15_is, q16_is]
    refine HoS.seq _ (q15_gen e1) fun ρ e => ?_
    subst e
    refine HoS.seq _ (q16_gen lis_fault e2) fun ρ e => ?_
    subst e
    exact q17_ok
  obtain ⟨fl, ρ, e, rfl⟩ := key.h.get
  exact ⟨ρ, e⟩
end Lw
end Mc
end
section
set_option Elab.async false
set_option linter.all false
set_option maxRecDepth 100000
set_option maxHeartbeats 0
namespace Mc
namespace Lw
open PySem PySem.Spec L2
def d3 : He.DefD := ⟨("is_whole", none), "is_whole", "is_whole", defArgs s3, defBody s3, defScope s3, [], []⟩
theorem sc3 : FnScope N3 ["value"] (defScope s3) := ⟨rfl, rfl, rfl, by decide +kernel, rfl, by decide +kernel, by decide +kernel⟩
def d4 : He.DefD := ⟨("as_tuples", none), "as_tuples", "as_tuples", defArgs s4, defBody s4, defScope s4, [], []⟩
theorem sc4 : FnScope N4 ["value"] (defScope s4) := ⟨rfl, rfl, rfl, by decide +kernel, rfl, by decide +kernel, by decide +kernel⟩
def d5 : He.DefD := ⟨("sign_of", none), "sign_of", "sign_of", defArgs s5, defBody s5, defScope s5, [], []⟩
theorem sc5 : FnScope N5 ["number"] (defScope s5) := ⟨rfl, rfl, rfl, by decide +kernel, rfl, by decide +kernel, by decide +kernel⟩
def d6 : He.DefD := ⟨("is_point", none), "is_point", "is_point", defArgs s6, defBody s6, defScope s6, [], []⟩
theorem sc6 : FnScope N6 ["value"] (defScope s6) := ⟨rfl, rfl, rfl, by decide +kernel, rfl, by decide +kernel, by decide +kernel⟩
def d7 : He.DefD := ⟨("need_as", none), "need_as", "need_as", defArgs s7, defBody s7, defScope s7, [], []⟩
theorem sc7 : FnScope N7 ["what", "value", "is_right"] (defScope s7) := ⟨rfl, rfl, rfl, by decide +kernel, rfl, by decide +kernel, by decide +kernel⟩
def d8 : He.DefD := ⟨("need_point", none), "need_point", "need_point", defArgs s8, defBody s8, defScope s8, [], []⟩
theorem sc8 : FnScope N8 ["what", "value"] (defScope s8) := ⟨rfl, rfl, rfl, by decide +kernel, rfl, by decide +kernel, by decide +kernel⟩
def d9 : He.DefD := ⟨("cross_by", none), "cross_by", "cross_by", defArgs s9, defBody s9, defScope s9, [], []⟩
theorem sc9 : FnScope N9 ["a", "b", "c"] (defScope s9) := ⟨rfl, rfl, rfl, by decide +kernel, rfl, by decide +kernel, by decide +kernel⟩
def d10 : He.DefD := ⟨("turn_by", none), "turn_by", "turn_by", defArgs s10, defBody s10, defScope s10, [], []⟩
theorem sc10 : FnScope N10 ["a", "b", "c"] (defScope s10) := ⟨rfl, rfl, rfl, by decide +kernel, rfl, by decide +kernel, by decide +kernel⟩
def d11 : He.DefD := ⟨("between_by", none), "between_by", "between_by", defArgs s11, defBody s11, defScope s11, [], []⟩
theorem sc11 : FnScope N11 ["a", "b", "c"] (defScope s11) := ⟨rfl, rfl, rfl, by decide +kernel, rfl, by decide +kernel, by decide +kernel⟩
def d12 : He.DefD := ⟨("spot_by", none), "spot_by", "spot_by", defArgs s12, defBody s12, defScope s12, [], []⟩
theorem sc12 : FnScope N12 ["x", "y", "d"] (defScope s12) := ⟨rfl, rfl, rfl, by decide +kernel, rfl, by decide +kernel, by decide +kernel⟩
def d13 : He.DefD := ⟨("shared_by", none), "shared_by", "shared_by", defArgs s13, defBody s13, defScope s13, [], []⟩
theorem sc13 : FnScope N13 ["one", "other"] (defScope s13) := ⟨rfl, rfl, rfl, by decide +kernel, rfl, by decide +kernel, by decide +kernel⟩
def d14 : He.DefD := ⟨("are_in_line", none), "are_in_line", "are_in_line", defArgs s14, defBody s14, defScope s14, [], []⟩
theorem sc14 : FnScope N14 ["one", "other"] (defScope s14) := ⟨rfl, rfl, rfl, by decide +kernel, rfl, by decide +kernel, by decide +kernel⟩
def d15 : He.DefD := ⟨("crossing_spot", none), "crossing_spot", "crossing_spot", defArgs s15, defBody s15, defScope s15, [], []⟩
theorem sc15 : FnScope N15 ["one", "other"] (defScope s15) := ⟨rfl, rfl, rfl, by decide +kernel, rfl, by decide +kernel, by decide +kernel⟩
def d16 : He.DefD := ⟨("common_by", none), "common_by", "common_by", defArgs s16, defBody s16, defScope s16, [], []⟩
theorem sc16 : FnScope N16 ["one", "other"] (defScope s16) := ⟨rfl, rfl, rfl, by decide +kernel, rfl, by decide +kernel, by decide +kernel⟩
def d17 : He.DefD := ⟨("meeting_by", none), "meeting_by", "meeting_by", defArgs s17, defBody s17, defScope s17, [], []⟩
theorem sc17 : FnScope N17 ["one", "other"] (defScope s17) := ⟨rfl, rfl, rfl, by decide +kernel, rfl, by decide +kernel, by decide +kernel⟩
def d18 : He.DefD := ⟨("Straight", some "__init__"), "__init__", "Straight.__init__", defArgs s18, defBody s18, defScope s18, [], []⟩
theorem sc18 : FnScope N18 ["self", "index"] (defScope s18) := ⟨rfl, rfl, rfl, by decide +kernel, rfl, by decide +kernel, by decide +kernel⟩
def d19 : He.DefD := ⟨("Straight", some "__eq__"), "__eq__", "Straight.__eq__", defArgs s19, defBody s19, defScope s19, [], []⟩
theorem sc19 : FnScope N19 ["self", "other"] (defScope s19) := ⟨rfl, rfl, rfl, by decide +kernel, rfl, by decide +kernel, by decide +kernel⟩
def d20 : He.DefD := ⟨("Straight", some "__ne__"), "__ne__", "Straight.__ne__", defArgs s20, defBody s20, defScope s20, [], []⟩
theorem sc20 : FnScope N20 ["self", "other"] (defScope s20) := ⟨rfl, rfl, rfl, by decide +kernel, rfl, by decide +kernel, by decide +kernel⟩
def d21 : He.DefD := ⟨("Fault", some "__init__"), "__init__", "Fault.__init__", defArgs s21, defBody s21, defScope s21, [], []⟩
theorem sc21 : FnScope N21 ["self", "one", "other", "how"] (defScope s21) := ⟨rfl, rfl, rfl, by decide +kernel, rfl, by decide +kernel, by decide +kernel⟩
def d22 : He.DefD := ⟨("Fault", some "__eq__"), "__eq__", "Fault.__eq__", defArgs s22, defBody s22, defScope s22, [], []⟩
theorem sc22 : FnScope N22 ["self", "other"] (defScope s22) := ⟨rfl, rfl, rfl, by decide +kernel, rfl, by decide +kernel, by decide +kernel⟩
def d23 : He.DefD := ⟨("Fault", some "__ne__"), "__ne__", "Fault.__ne__", defArgs s23, defBody s23, defScope s23, [], []⟩
theorem sc23 : FnScope N23 ["self", "other"] (defScope s23) := ⟨rfl, rfl, rfl, by decide +kernel, rfl, by decide +kernel, by decide +kernel⟩
def d24 : He.DefD := ⟨("Field", some "__init__"), "__init__", "Field.__init__", defArgs s24, defBody s24, defScope s24, [], []⟩
theorem sc24 : FnScope N24 ["self", "corners"] (defScope s24) := ⟨rfl, rfl, rfl, by decide +kernel, rfl, by decide +kernel, by decide +kernel⟩
def d25 : He.DefD := ⟨("Field", some "__eq__"), "__eq__", "Field.__eq__", defArgs s25, defBody s25, defScope s25, [], []⟩
theorem sc25 : FnScope N25 ["self", "other"] (defScope s25) := ⟨rfl, rfl, rfl, by decide +kernel, rfl, by decide +kernel, by decide +kernel⟩
def d26 : He.DefD := ⟨("Field", some "__ne__"), "__ne__", "Field.__ne__", defArgs s26, defBody s26, defScope s26, [], []⟩
theorem sc26 : FnScope N26 ["self", "other"] (defScope s26) := ⟨rfl, rfl, rfl, by decide +kernel, rfl, by decide +kernel, by decide +kernel⟩
def d27 : He.DefD := ⟨("fault_parts", none), "fault_parts", "fault_parts", defArgs s27, defBody s27, defScope s27, [], []⟩
theorem sc27 : FnScope N27 ["fault"] (defScope s27) := ⟨rfl, rfl, rfl, by decide +kernel, rfl, by decide +kernel, by decide +kernel⟩
def d28 : He.DefD := ⟨("is_points", none), "is_points", "is_points", defArgs s28, defBody s28, defScope s28, [], []⟩
theorem sc28 : FnScope N28 ["value"] (defScope s28) := ⟨rfl, rfl, rfl, by decide +kernel, rfl, by decide +kernel, by decide +kernel⟩
def d29 : He.DefD := ⟨("need_ring", none), "need_ring", "need_ring", defArgs s29, defBody s29, defScope s29, [], []⟩
theorem sc29 : FnScope N29 ["corners"] (defScope s29) := ⟨rfl, rfl, rfl, by decide +kernel, rfl, by decide +kernel, by decide +kernel⟩
def d30 : He.DefD := ⟨("sides_by", none), "sides_by", "sides_by", defArgs s30, defBody s30, defScope s30, [], []⟩
theorem sc30 : FnScope N30 ["corners"] (defScope s30) := ⟨rfl, rfl, rfl, by decide +kernel, rfl, by decide +kernel, by decide +kernel⟩
def d31 : He.DefD := ⟨("doubled_by", none), "doubled_by", "doubled_by", defArgs s31, defBody s31, defScope s31, [], []⟩
theorem sc31 : FnScope N31 ["corners"] (defScope s31) := ⟨rfl, rfl, rfl, by decide +kernel, rfl, by decide +kernel, by decide +kernel⟩
def d32 : He.DefD := ⟨("led_round", none), "led_round", "led_round", defArgs s32, defBody s32, defScope s32, [], []⟩
theorem sc32 : FnScope N32 ["corners"] (defScope s32) := ⟨rfl, rfl, rfl, by decide +kernel, rfl, by decide +kernel, by decide +kernel⟩
def d33 : He.DefD := ⟨("turn_at", none), "turn_at", "turn_at", defArgs s33, defBody s33, defScope s33, [], []⟩
theorem sc33 : FnScope N33 ["corners", "at"] (defScope s33) := ⟨rfl, rfl, rfl, by decide +kernel, rfl, by decide +kernel, by decide +kernel⟩
def d34 : He.DefD := ⟨("are_beside", none), "are_beside", "are_beside", defArgs s34, defBody s34, defScope s34, [], []⟩
theorem sc34 : FnScope N34 ["many", "one", "other"] (defScope s34) := ⟨rfl, rfl, rfl, by decide +kernel, rfl, by decide +kernel, by decide +kernel⟩
def d35 : He.DefD := ⟨("is_fault", none), "is_fault", "is_fault", defArgs s35, defBody s35, defScope s35, [], []⟩
theorem sc35 : FnScope N35 ["sides", "one", "other"] (defScope s35) := ⟨rfl, rfl, rfl, by decide +kernel, rfl, by decide +kernel, by decide +kernel⟩
def d36 : He.DefD := ⟨("first_fault", none), "first_fault", "first_fault", defArgs s36, defBody s36, defScope s36, [], []⟩
theorem sc36 : FnScope N36 ["corners"] (defScope s36) := ⟨rfl, rfl, rfl, by decide +kernel, rfl, by decide +kernel, by decide +kernel⟩
def d37 : He.DefD := ⟨("fault_of", none), "fault_of", "fault_of", defArgs s37, defBody s37, defScope s37, [], []⟩
theorem sc37 : FnScope N37 ["corners"] (defScope s37) := ⟨rfl, rfl, rfl, by decide +kernel, rfl, by decide +kernel, by decide +kernel⟩
def d38 : He.DefD := ⟨("turns_of", none), "turns_of", "turns_of", defArgs s38, defBody s38, defScope s38, [], []⟩
theorem sc38 : FnScope N38 ["field"] (defScope s38) := ⟨rfl, rfl, rfl, by decide +kernel, rfl, by decide +kernel, by decide +kernel⟩
def d39 : He.DefD := ⟨("bays", none), "bays", "bays", defArgs s39, defBody s39, defScope s39, [], []⟩
theorem sc39 : FnScope N39 ["field"] (defScope s39) := ⟨rfl, rfl, rfl, by decide +kernel, rfl, by decide +kernel, by decide +kernel⟩
def d40 : He.DefD := ⟨("is_convex", none), "is_convex", "is_convex", defArgs s40, defBody s40, defScope s40, [], []⟩
theorem sc40 : FnScope N40 ["field"] (defScope s40) := ⟨rfl, rfl, rfl, by decide +kernel, rfl, by decide +kernel, by decide +kernel⟩
def d41 : He.DefD := ⟨("beyond_side", none), "beyond_side", "beyond_side", defArgs s41, defBody s41, defScope s41, [], []⟩
theorem sc41 : FnScope N41 ["field"] (defScope s41) := ⟨rfl, rfl, rfl, by decide +kernel, rfl, by decide +kernel, by decide +kernel⟩
def d42 : He.DefD := ⟨("on_border_by", none), "on_border_by", "on_border_by", defArgs s42, defBody s42, defScope s42, [], []⟩
theorem sc42 : FnScope N42 ["corners", "point"] (defScope s42) := ⟨rfl, rfl, rfl, by decide +kernel, rfl, by decide +kernel, by decide +kernel⟩
def d43 : He.DefD := ⟨("on_border", none), "on_border", "on_border", defArgs s43, defBody s43, defScope s43, [], []⟩
theorem sc43 : FnScope N43 ["field", "point"] (defScope s43) := ⟨rfl, rfl, rfl, by decide +kernel, rfl, by decide +kernel, by decide +kernel⟩
def d44 : He.DefD := ⟨("is_upward", none), "is_upward", "is_upward", defArgs s44, defBody s44, defScope s44, [], []⟩
theorem sc44 : FnScope N44 ["side"] (defScope s44) := ⟨rfl, rfl, rfl, by decide +kernel, rfl, by decide +kernel, by decide +kernel⟩
def d45 : He.DefD := ⟨("goes_back", none), "goes_back", "goes_back", defArgs s45, defBody s45, defScope s45, [], []⟩
theorem sc45 : FnScope N45 ["corners", "at"] (defScope s45) := ⟨rfl, rfl, rfl, by decide +kernel, rfl, by decide +kernel, by decide +kernel⟩
def d46 : He.DefD := ⟨("turnings", none), "turnings", "turnings", defArgs s46, defBody s46, defScope s46, [], []⟩
theorem sc46 : FnScope N46 ["corners"] (defScope s46) := ⟨rfl, rfl, rfl, by decide +kernel, rfl, by decide +kernel, by decide +kernel⟩
def d47 : He.DefD := ⟨("_law_pen", none), "_law_pen", "_law_pen", defArgs s47, defBody s47, defScope s47, [], []⟩
abbrev N47 : List Str := ["script", "fold", "cell"]
theorem sc47 : FnScope N47 ["script"] (defScope s47) := ⟨rfl, rfl, rfl, by decide +kernel, rfl, by decide +kernel, by decide +kernel⟩
def d48 : He.DefD := ⟨("_law_draw", none), "_law_draw", "_law_draw", defArgs s48, defBody s48, defScope s48, [], []⟩
theorem sc48 : FnScope N48 ["pen", "many"] (defScope s48) := ⟨rfl, rfl, rfl, by decide +kernel, rfl, by decide +kernel, by decide +kernel⟩
def d49 : He.DefD := ⟨("_law_is", none), "_law_is", "_law_is", defArgs s49, defBody s49, defScope s49, [], []⟩
theorem sc49 : FnScope N49 ["told", "due"] (defScope s49) := ⟨rfl, rfl, rfl, by decide +kernel, rfl, by decide +kernel, by decide +kernel⟩
def d50 : He.DefD := ⟨("_law_divisor", none), "_law_divisor", "_law_divisor", defArgs s50, defBody s50, defScope s50, [], []⟩
theorem sc50 : FnScope N50 ["one", "other"] (defScope s50) := ⟨rfl, rfl, rfl, by decide +kernel, rfl, by decide +kernel, by decide +kernel⟩
def d51 : He.DefD := ⟨("_law_spot", none), "_law_spot", "_law_spot", defArgs s51, defBody s51, defScope s51, [], []⟩
theorem sc51 : FnScope N51 ["x", "y", "d"] (defScope s51) := ⟨rfl, rfl, rfl, by decide +kernel, rfl, by decide +kernel, by decide +kernel⟩
def d52 : He.DefD := ⟨("_law_cross", none), "_law_cross", "_law_cross", defArgs s52, defBody s52, defScope s52, [], []⟩
theorem sc52 : FnScope N52 ["a", "b", "c"] (defScope s52) := ⟨rfl, rfl, rfl, by decide +kernel, rfl, by decide +kernel, by decide +kernel⟩
def d53 : He.DefD := ⟨("_law_turn", none), "_law_turn", "_law_turn", defArgs s53, defBody s53, defScope s53, [], []⟩
theorem sc53 : FnScope N53 ["a", "b", "c"] (defScope s53) := ⟨rfl, rfl, rfl, by decide +kernel, rfl, by decide +kernel, by decide +kernel⟩
def d54 : He.DefD := ⟨("_law_common", none), "_law_common", "_law_common", defArgs s54, defBody s54, defScope s54, [], []⟩
theorem sc54 : FnScope N54 ["one", "other"] (defScope s54) := ⟨rfl, rfl, rfl, by decide +kernel, rfl, by decide +kernel, by decide +kernel⟩
def d55 : He.DefD := ⟨("_law_meeting", none), "_law_meeting", "_law_meeting", defArgs s55, defBody s55, defScope s55, [], []⟩
theorem sc55 : FnScope N55 ["one", "other"] (defScope s55) := ⟨rfl, rfl, rfl, by decide +kernel, rfl, by decide +kernel, by decide +kernel⟩
def d56 : He.DefD := ⟨("_law_drawn_point", none), "_law_drawn_point", "_law_drawn_point", defArgs s56, defBody s56, defScope s56, [], []⟩
theorem sc56 : FnScope N56 ["pen", "wide"] (defScope s56) := ⟨rfl, rfl, rfl, by decide +kernel, rfl, by decide +kernel, by decide +kernel⟩
def d57 : He.DefD := ⟨("_law_sides", none), "_law_sides", "_law_sides", defArgs s57, defBody s57, defScope s57, [], []⟩
theorem sc57 : FnScope N57 ["ring"] (defScope s57) := ⟨rfl, rfl, rfl, by decide +kernel, rfl, by decide +kernel, by decide +kernel⟩
def d58 : He.DefD := ⟨("_law_turn_at", none), "_law_turn_at", "_law_turn_at", defArgs s58, defBody s58, defScope s58, [], []⟩
theorem sc58 : FnScope N58 ["ring", "at"] (defScope s58) := ⟨rfl, rfl, rfl, by decide +kernel, rfl, by decide +kernel, by decide +kernel⟩
def d59 : He.DefD := ⟨("_law_first_fault", none), "_law_first_fault", "_law_first_fault", defArgs s59, defBody s59, defScope s59, [], []⟩
theorem sc59 : FnScope N59 ["ring"] (defScope s59) := ⟨rfl, rfl, rfl, by decide +kernel, rfl, by decide +kernel, by decide +kernel⟩
def d60 : He.DefD := ⟨("law", none), "law", "law", defArgs s60, defBody s60, defScope s60, [], []⟩
theorem sc60 : FnScope N60 ["script"] (defScope s60) := ⟨rfl, rfl, rfl, by decide +kernel, rfl, by decide +kernel, by decide +kernel⟩
def fn : List He.DefD := [d3, d4, d5, d6, d7, d8, d9, d10, d11, d12, d13, d14, d15, d16, d17, d18, d19, d20, d21, d22, d23, d24, d25, d26, d27, d28, d29, d30, d31, d32, d33, d34, d35, d36, d37, d38, d39, d40, d41, d42, d43, d44, d45, d46, d47, d48, d49, d50, d51, d52, d53, d54, d55, d56, d57, d58, d59, d60]
def fr : List He.Fa := [.free "len", .free "abs", .free "int", .free "str", .free "bool", .free "tuple", .free "list", .free "sum", .free "any", .free "all", .free "max", .free "min", .free "sorted", .free "isinstance", .free "range", .free "enumerate", .free "zip"]
def fg : List He.Fa := [.glo "is_whole", .glo "as_tuples", .glo "sign_of", .glo "is_point", .glo "need_as", .glo "need_point", .glo "cross_by", .glo "turn_by", .glo "between_by", .glo "spot_by", .glo "shared_by", .glo "are_in_line", .glo "crossing_spot", .glo "common_by", .glo "meeting_by", .glo "fault_parts", .glo "is_points", .glo "need_ring", .glo "sides_by", .glo "doubled_by", .glo "led_round", .glo "turn_at", .glo "are_beside", .glo "is_fault", .glo "first_fault", .glo "fault_of", .glo "turns_of", .glo "bays", .glo "is_convex", .glo "beyond_side", .glo "on_border_by", .glo "on_border", .glo "is_upward", .glo "goes_back", .glo "turnings", .glo "_law_pen", .glo "_law_draw", .glo "_law_is", .glo "_law_divisor", .glo "_law_spot", .glo "_law_cross", .glo "_law_turn", .glo "_law_common", .glo "_law_meeting", .glo "_law_drawn_point", .glo "_law_sides", .glo "_law_turn_at", .glo "_law_first_fault", .glo "law", .int "LEAST_CORNERS" 3, .int "MOST_CORNERS" 40, .glo "Straight", .mkr "Straight", .glo "Fault", .mkr "Fault", .glo "Field", .mkr "Field", .meth "Straight" "__eq__", .meth "Straight" "__ne__", .meth "Fault" "__eq__", .meth "Fault" "__ne__", .meth "Field" "__eq__", .meth "Field" "__ne__"]
def fa : List He.Fa := fr ++ fg
abbrev RW0 : PySem.W.OpenRow := PySem.W.OpenLaw.row PySem.Challenge.rw_landparcels_k13_whole_known_fields
def exB (K : PySem.W.Frag) : Bool := kitsB K csL && (ctB K ct && biB K "gcd" "math.gcd")
abbrev hk : PySem.W.Hook := He.hookX 4 fa fn [] [] exB
def ob (s : PySem.W.SharedT) : He.AlX := He.obsX 4 fa fn [] [] exB (HandSHeadRun.getT s)
theorem ob_eq (s : PySem.W.SharedT) : ob s = hk.obs s.abs := He.obsX_eq (HandSHeadRun.getT_eq s)
def names0 : List PySem.Str := ["LandError", "BadRow", "NoField", "Unlike", "is_whole", "as_tuples", "sign_of", "is_point", "need_as", "need_point", "cross_by", "turn_by", "between_by", "spot_by", "shared_by", "are_in_line", "crossing_spot", "common_by", "meeting_by", "Straight", "Fault", "Field", "fault_parts", "is_points"]
def names1 : List PySem.Str := ["need_ring", "sides_by", "doubled_by", "led_round", "turn_at", "are_beside", "is_fault", "first_fault", "fault_of", "turns_of", "bays", "is_convex", "beyond_side", "on_border_by", "on_border", "is_upward", "goes_back", "turnings", "_law_pen", "_law_draw", "_law_is", "_law_divisor", "_law_spot", "_law_cross"]
def names2 : List PySem.Str := ["_law_turn", "_law_common", "_law_meeting", "_law_drawn_point", "_law_sides", "_law_turn_at", "_law_first_fault", "LEAST_CORNERS", "MOST_CORNERS"]
def names : List PySem.Str := names0 ++ names1 ++ names2
theorem run (w : World) : HandSHeadRun.RunEqI RW0 (PySem.W.view RW0.prog [0, 63]) hk ob 4000 names w := by
  unfold HandSHeadRun.RunEqI
  kernel_rfl
theorem ss_no {X : Cx} {W : WX} {b : Bs} {e : List Stmt} : PSs X e (rS b W evNo) := ⟨fun pins s σ H D I ⟨b', S, ρ, eb, G, w⟩ => w.elim⟩
theorem n3 {P : Program} {w : World} {K : PySem.W.Frag} {mg : Str → Option Value} {base : Heap} {f : Addr} {fd : FuncData} (E : Ev K mg) (g : mg "is_whole" = some (.ref f)) (Fd : FunD K "is_whole" "is_whole" (defArgs s3) (defBody s3) (defScope s3) [] [] f fd)  : Dn P w K mg base "is_whole" 1 1 F3 := ⟨f, fd, ["value"], g, Fd.kp, (Fd.bindsN fun _ _ _ _ _ _ us hl => match us, hl with | [_], _ => rfl), fn_def Fd sc3 (by decide) (b3 E )⟩
theorem n5 {P : Program} {w : World} {K : PySem.W.Frag} {mg : Str → Option Value} {base : Heap} {f : Addr} {fd : FuncData} (E : Ev K mg) (g : mg "sign_of" = some (.ref f)) (Fd : FunD K "sign_of" "sign_of" (defArgs s5) (defBody s5) (defScope s5) [] [] f fd)  : Dn P w K mg base "sign_of" 1 1 F5 := ⟨f, fd, ["number"], g, Fd.kp, (Fd.bindsN fun _ _ _ _ _ _ us hl => match us, hl with | [_], _ => rfl), fn_def Fd sc5 (by decide) (b5 E )⟩
theorem n9 {P : Program} {w : World} {K : PySem.W.Frag} {mg : Str → Option Value} {base : Heap} {f : Addr} {fd : FuncData} (E : Ev K mg) (g : mg "cross_by" = some (.ref f)) (Fd : FunD K "cross_by" "cross_by" (defArgs s9) (defBody s9) (defScope s9) [] [] f fd)  : Dn P w K mg base "cross_by" 1 3 F9 := ⟨f, fd, ["a", "b", "c"], g, Fd.kp, (Fd.bindsN fun _ _ _ _ _ _ us hl => match us, hl with | [_, _, _], _ => rfl), fn_def Fd sc9 (by decide) (b9 E )⟩
theorem n12 {P : Program} {w : World} {K : PySem.W.Frag} {mg : Str → Option Value} {base : Heap} {f : Addr} {fd : FuncData} (E : Ev K mg) (g : mg "spot_by" = some (.ref f)) (Fd : FunD K "spot_by" "spot_by" (defArgs s12) (defBody s12) (defScope s12) [] [] f fd)  : Dn P w K mg base "spot_by" 1 3 F12 := ⟨f, fd, ["x", "y", "d"], g, Fd.kp, (Fd.bindsN fun _ _ _ _ _ _ us hl => match us, hl with | [_, _, _], _ => rfl), fn_def Fd sc12 (by decide) (b12 E )⟩
theorem n13 {P : Program} {w : World} {K : PySem.W.Frag} {mg : Str → Option Value} {base : Heap} {f : Addr} {fd : FuncData} (E : Ev K mg) (g : mg "shared_by" = some (.ref f)) (Fd : FunD K "shared_by" "shared_by" (defArgs s13) (defBody s13) (defScope s13) [] [] f fd)  : Dn P w K mg base "shared_by" 1 2 F13 := ⟨f, fd, ["one", "other"], g, Fd.kp, (Fd.bindsN fun _ _ _ _ _ _ us hl => match us, hl with | [_, _], _ => rfl), fn_def Fd sc13 (by decide) (b13 E )⟩
theorem n19 {P : Program} {w : World} {K : PySem.W.Frag} {mg : Str → Option Value} {base : Heap} {f : Addr} {fd : FuncData} (E : Ev K mg) (Fd : FunD K "__eq__" "Straight.__eq__" (defArgs s19) (defBody s19) (defScope s19) [] [] f fd)  : FnOk P w K mg base (L2.CX P w) 1 f fd ["self", "other"] (spP K mg 2 F19) := fn_def Fd sc19 (by decide) (b19 E )
theorem bn19 {K : PySem.W.Frag} {f : Addr} {fd : FuncData} (Fd : FunD K "__eq__" "Straight.__eq__" (defArgs s19) (defBody s19) (defScope s19) [] [] f fd) : Binds K fd ["self", "other"] [] := (Fd.bindsN fun _ _ _ _ _ _ us hl => match us, hl with | [_, _], _ => rfl)
theorem n25 {P : Program} {w : World} {K : PySem.W.Frag} {mg : Str → Option Value} {base : Heap} {f : Addr} {fd : FuncData} (E : Ev K mg) (Fd : FunD K "__eq__" "Field.__eq__" (defArgs s25) (defBody s25) (defScope s25) [] [] f fd)  : FnOk P w K mg base (L2.CX P w) 1 f fd ["self", "other"] (spP K mg 2 F25) := fn_def Fd sc25 (by decide) (b25 E )
theorem bn25 {K : PySem.W.Frag} {f : Addr} {fd : FuncData} (Fd : FunD K "__eq__" "Field.__eq__" (defArgs s25) (defBody s25) (defScope s25) [] [] f fd) : Binds K fd ["self", "other"] [] := (Fd.bindsN fun _ _ _ _ _ _ us hl => match us, hl with | [_, _], _ => rfl)
theorem n27 {P : Program} {w : World} {K : PySem.W.Frag} {mg : Str → Option Value} {base : Heap} {f : Addr} {fd : FuncData} (E : Ev K mg) (g : mg "fault_parts" = some (.ref f)) (Fd : FunD K "fault_parts" "fault_parts" (defArgs s27) (defBody s27) (defScope s27) [] [] f fd)  : Dn P w K mg base "fault_parts" 1 1 F27 := ⟨f, fd, ["fault"], g, Fd.kp, (Fd.bindsN fun _ _ _ _ _ _ us hl => match us, hl with | [_], _ => rfl), fn_def Fd sc27 (by decide) (b27 E )⟩
theorem n30 {P : Program} {w : World} {K : PySem.W.Frag} {mg : Str → Option Value} {base : Heap} {f : Addr} {fd : FuncData} (E : Ev K mg) (g : mg "sides_by" = some (.ref f)) (Fd : FunD K "sides_by" "sides_by" (defArgs s30) (defBody s30) (defScope s30) [] [] f fd)  : Dn P w K mg base "sides_by" 1 1 F30 := ⟨f, fd, ["corners"], g, Fd.kp, (Fd.bindsN fun _ _ _ _ _ _ us hl => match us, hl with | [_], _ => rfl), fn_def Fd sc30 (by decide) (b30 E )⟩
theorem n34 {P : Program} {w : World} {K : PySem.W.Frag} {mg : Str → Option Value} {base : Heap} {f : Addr} {fd : FuncData} (E : Ev K mg) (g : mg "are_beside" = some (.ref f)) (Fd : FunD K "are_beside" "are_beside" (defArgs s34) (defBody s34) (defScope s34) [] [] f fd)  : Dn P w K mg base "are_beside" 1 3 F34 := ⟨f, fd, ["many", "one", "other"], g, Fd.kp, (Fd.bindsN fun _ _ _ _ _ _ us hl => match us, hl with | [_, _, _], _ => rfl), fn_def Fd sc34 (by decide) (b34 E )⟩
theorem n44 {P : Program} {w : World} {K : PySem.W.Frag} {mg : Str → Option Value} {base : Heap} {f : Addr} {fd : FuncData} (E : Ev K mg) (g : mg "is_upward" = some (.ref f)) (Fd : FunD K "is_upward" "is_upward" (defArgs s44) (defBody s44) (defScope s44) [] [] f fd)  : Dn P w K mg base "is_upward" 1 1 F44 := ⟨f, fd, ["side"], g, Fd.kp, (Fd.bindsN fun _ _ _ _ _ _ us hl => match us, hl with | [_], _ => rfl), fn_def Fd sc44 (by decide) (b44 E )⟩
theorem n48 {P : Program} {w : World} {K : PySem.W.Frag} {mg : Str → Option Value} {base : Heap} {f : Addr} {fd : FuncData} (E : Ev K mg) (g : mg "_law_draw" = some (.ref f)) (Fd : FunD K "_law_draw" "_law_draw" (defArgs s48) (defBody s48) (defScope s48) [] [] f fd)  : DnN P w K mg base "_law_draw" 1 1 F48 := ⟨f, fd, ["pen", "many"], g, Fd.kp, (Fd.bindsN fun _ _ _ _ _ _ us hl => match us, hl with | [_, _], _ => rfl), fn_defN (n := 1) Fd sc48 rfl (by decide) (b48 E )⟩
theorem n50 {P : Program} {w : World} {K : PySem.W.Frag} {mg : Str → Option Value} {base : Heap} {f : Addr} {fd : FuncData} (E : Ev K mg) (g : mg "_law_divisor" = some (.ref f)) (Fd : FunD K "_law_divisor" "_law_divisor" (defArgs s50) (defBody s50) (defScope s50) [] [] f fd)  : Dn P w K mg base "_law_divisor" 1 2 F50 := ⟨f, fd, ["one", "other"], g, Fd.kp, (Fd.bindsN fun _ _ _ _ _ _ us hl => match us, hl with | [_, _], _ => rfl), fn_def Fd sc50 (by decide) (b50 E )⟩
theorem n52 {P : Program} {w : World} {K : PySem.W.Frag} {mg : Str → Option Value} {base : Heap} {f : Addr} {fd : FuncData} (E : Ev K mg) (g : mg "_law_cross" = some (.ref f)) (Fd : FunD K "_law_cross" "_law_cross" (defArgs s52) (defBody s52) (defScope s52) [] [] f fd)  : Dn P w K mg base "_law_cross" 1 3 F52 := ⟨f, fd, ["a", "b", "c"], g, Fd.kp, (Fd.bindsN fun _ _ _ _ _ _ us hl => match us, hl with | [_, _, _], _ => rfl), fn_def Fd sc52 (by decide) (b52 E )⟩
theorem n57 {P : Program} {w : World} {K : PySem.W.Frag} {mg : Str → Option Value} {base : Heap} {f : Addr} {fd : FuncData} (E : Ev K mg) (g : mg "_law_sides" = some (.ref f)) (Fd : FunD K "_law_sides" "_law_sides" (defArgs s57) (defBody s57) (defScope s57) [] [] f fd)  : Dn P w K mg base "_law_sides" 1 1 F57 := ⟨f, fd, ["ring"], g, Fd.kp, (Fd.bindsN fun _ _ _ _ _ _ us hl => match us, hl with | [_], _ => rfl), fn_def Fd sc57 (by decide) (b57 E )⟩
theorem n6 {P : Program} {w : World} {K : PySem.W.Frag} {mg : Str → Option Value} {base : Heap} {f : Addr} {fd : FuncData} (E : Ev K mg) (g : mg "is_point" = some (.ref f)) (Fd : FunD K "is_point" "is_point" (defArgs s6) (defBody s6) (defScope s6) [] [] f fd) (h_is_whole : Dn P w K mg base "is_whole" 1 1 F3) : Dn P w K mg base "is_point" 2 1 F6 := ⟨f, fd, ["value"], g, Fd.kp, (Fd.bindsN fun _ _ _ _ _ _ us hl => match us, hl with | [_], _ => rfl), fn_def Fd sc6 (by decide) (b6 E h_is_whole)⟩
theorem n10 {P : Program} {w : World} {K : PySem.W.Frag} {mg : Str → Option Value} {base : Heap} {f : Addr} {fd : FuncData} (E : Ev K mg) (g : mg "turn_by" = some (.ref f)) (Fd : FunD K "turn_by" "turn_by" (defArgs s10) (defBody s10) (defScope s10) [] [] f fd) (h_cross_by : Dn P w K mg base "cross_by" 1 3 F9) (h_sign_of : Dn P w K mg base "sign_of" 1 1 F5) : Dn P w K mg base "turn_by" 2 3 F10 := ⟨f, fd, ["a", "b", "c"], g, Fd.kp, (Fd.bindsN fun _ _ _ _ _ _ us hl => match us, hl with | [_, _, _], _ => rfl), fn_def Fd sc10 (by decide) (b10 E h_cross_by h_sign_of)⟩
theorem n11 {P : Program} {w : World} {K : PySem.W.Frag} {mg : Str → Option Value} {base : Heap} {f : Addr} {fd : FuncData} (E : Ev K mg) (g : mg "between_by" = some (.ref f)) (Fd : FunD K "between_by" "between_by" (defArgs s11) (defBody s11) (defScope s11) [] [] f fd) (h_cross_by : Dn P w K mg base "cross_by" 1 3 F9) : Dn P w K mg base "between_by" 2 3 F11 := ⟨f, fd, ["a", "b", "c"], g, Fd.kp, (Fd.bindsN fun _ _ _ _ _ _ us hl => match us, hl with | [_, _, _], _ => rfl), fn_def Fd sc11 (by decide) (b11 E h_cross_by)⟩
theorem n14 {P : Program} {w : World} {K : PySem.W.Frag} {mg : Str → Option Value} {base : Heap} {f : Addr} {fd : FuncData} (E : Ev K mg) (g : mg "are_in_line" = some (.ref f)) (Fd : FunD K "are_in_line" "are_in_line" (defArgs s14) (defBody s14) (defScope s14) [] [] f fd) (h_cross_by : Dn P w K mg base "cross_by" 1 3 F9) : Dn P w K mg base "are_in_line" 2 2 F14 := ⟨f, fd, ["one", "other"], g, Fd.kp, (Fd.bindsN fun _ _ _ _ _ _ us hl => match us, hl with | [_, _], _ => rfl), fn_def Fd sc14 (by decide) (b14 E h_cross_by)⟩
theorem n15 {P : Program} {w : World} {K : PySem.W.Frag} {mg : Str → Option Value} {base : Heap} {f : Addr} {fd : FuncData} (E : Ev K mg) (g : mg "crossing_spot" = some (.ref f)) (Fd : FunD K "crossing_spot" "crossing_spot" (defArgs s15) (defBody s15) (defScope s15) [] [] f fd) (h_spot_by : Dn P w K mg base "spot_by" 1 3 F12) (h_cross_by : Dn P w K mg base "cross_by" 1 3 F9) : Dn P w K mg base "crossing_spot" 2 2 F15 := ⟨f, fd, ["one", "other"], g, Fd.kp, (Fd.bindsN fun _ _ _ _ _ _ us hl => match us, hl with | [_, _], _ => rfl), fn_def Fd sc15 (by decide) (b15 E h_spot_by h_cross_by)⟩
theorem n22 {P : Program} {w : World} {K : PySem.W.Frag} {mg : Str → Option Value} {base : Heap} {f : Addr} {fd : FuncData} (E : Ev K mg) (Fd : FunD K "__eq__" "Fault.__eq__" (defArgs s22) (defBody s22) (defScope s22) [] [] f fd) (h_fault_parts : Dn P w K mg base "fault_parts" 1 1 F27) : FnOk P w K mg base (L2.CX P w) 2 f fd ["self", "other"] (spP K mg 2 F22) := fn_def Fd sc22 (by decide) (b22 E h_fault_parts)
theorem bn22 {K : PySem.W.Frag} {f : Addr} {fd : FuncData} (Fd : FunD K "__eq__" "Fault.__eq__" (defArgs s22) (defBody s22) (defScope s22) [] [] f fd) : Binds K fd ["self", "other"] [] := (Fd.bindsN fun _ _ _ _ _ _ us hl => match us, hl with | [_, _], _ => rfl)
theorem n31 {P : Program} {w : World} {K : PySem.W.Frag} {mg : Str → Option Value} {base : Heap} {f : Addr} {fd : FuncData} (E : Ev K mg) (g : mg "doubled_by" = some (.ref f)) (Fd : FunD K "doubled_by" "doubled_by" (defArgs s31) (defBody s31) (defScope s31) [] [] f fd) (h_sides_by : Dn P w K mg base "sides_by" 1 1 F30) : Dn P w K mg base "doubled_by" 2 1 F31 := ⟨f, fd, ["corners"], g, Fd.kp, (Fd.bindsN fun _ _ _ _ _ _ us hl => match us, hl with | [_], _ => rfl), fn_def Fd sc31 (by decide) (b31 E h_sides_by)⟩
theorem n51 {P : Program} {w : World} {K : PySem.W.Frag} {mg : Str → Option Value} {base : Heap} {f : Addr} {fd : FuncData} (E : Ev K mg) (g : mg "_law_spot" = some (.ref f)) (Fd : FunD K "_law_spot" "_law_spot" (defArgs s51) (defBody s51) (defScope s51) [] [] f fd) (h__law_divisor : Dn P w K mg base "_law_divisor" 1 2 F50) : Dn P w K mg base "_law_spot" 2 3 F51 := ⟨f, fd, ["x", "y", "d"], g, Fd.kp, (Fd.bindsN fun _ _ _ _ _ _ us hl => match us, hl with | [_, _, _], _ => rfl), fn_def Fd sc51 (by decide) (b51 E h__law_divisor)⟩
theorem n53 {P : Program} {w : World} {K : PySem.W.Frag} {mg : Str → Option Value} {base : Heap} {f : Addr} {fd : FuncData} (E : Ev K mg) (g : mg "_law_turn" = some (.ref f)) (Fd : FunD K "_law_turn" "_law_turn" (defArgs s53) (defBody s53) (defScope s53) [] [] f fd) (h__law_cross : Dn P w K mg base "_law_cross" 1 3 F52) : Dn P w K mg base "_law_turn" 2 3 F53 := ⟨f, fd, ["a", "b", "c"], g, Fd.kp, (Fd.bindsN fun _ _ _ _ _ _ us hl => match us, hl with | [_, _, _], _ => rfl), fn_def Fd sc53 (by decide) (b53 E h__law_cross)⟩
theorem n56 {P : Program} {w : World} {K : PySem.W.Frag} {mg : Str → Option Value} {base : Heap} {f : Addr} {fd : FuncData} (E : Ev K mg) (g : mg "_law_drawn_point" = some (.ref f)) (Fd : FunD K "_law_drawn_point" "_law_drawn_point" (defArgs s56) (defBody s56) (defScope s56) [] [] f fd) (h__law_draw : DnN P w K mg base "_law_draw" 1 1 F48) : DnN P w K mg base "_law_drawn_point" 2 1 F56 := ⟨f, fd, ["pen", "wide"], g, Fd.kp, (Fd.bindsN fun _ _ _ _ _ _ us hl => match us, hl with | [_, _], _ => rfl), fn_defN (n := 1) Fd sc56 rfl (by decide) (b56 E h__law_draw)⟩
theorem n7 {P : Program} {w : World} {K : PySem.W.Frag} {mg : Str → Option Value} {base : Heap} {f : Addr} {fd : FuncData} (E : Ev K mg) (g : mg "need_as" = some (.ref f)) (Fd : FunD K "need_as" "need_as" (defArgs s7) (defBody s7) (defScope s7) [] [] f fd) (ft : FTok P w K mg base 2 TF) : Dn P w K mg base "need_as" 3 3 F7 := ⟨f, fd, ["what", "value", "is_right"], g, Fd.kp, (Fd.bindsN fun _ _ _ _ _ _ us hl => match us, hl with | [_, _, _], _ => rfl), fn_def Fd sc7 (by decide) (b7 E ft)⟩
theorem n16 {P : Program} {w : World} {K : PySem.W.Frag} {mg : Str → Option Value} {base : Heap} {f : Addr} {fd : FuncData} (E : Ev K mg) (g : mg "common_by" = some (.ref f)) (Fd : FunD K "common_by" "common_by" (defArgs s16) (defBody s16) (defScope s16) [] [] f fd) (h_crossing_spot : Dn P w K mg base "crossing_spot" 2 2 F15) (h_turn_by : Dn P w K mg base "turn_by" 2 3 F10) (h_are_in_line : Dn P w K mg base "are_in_line" 2 2 F14) (h_shared_by : Dn P w K mg base "shared_by" 1 2 F13) : Dn P w K mg base "common_by" 3 2 F16 := ⟨f, fd, ["one", "other"], g, Fd.kp, (Fd.bindsN fun _ _ _ _ _ _ us hl => match us, hl with | [_, _], _ => rfl), fn_def Fd sc16 (by decide) (b16 E h_crossing_spot h_turn_by h_are_in_line h_shared_by)⟩
theorem n20 {P : Program} {w : World} {K : PySem.W.Frag} {mg : Str → Option Value} {base : Heap} {f : Addr} {fd : FuncData} (E : Ev K mg) (Fd : FunD K "__ne__" "Straight.__ne__" (defArgs s20) (defBody s20) (defScope s20) [] [] f fd) (oeq : OpT P w K mg base "__eq__" 2 Teq) : FnOk P w K mg base (L2.CX P w) 3 f fd ["self", "other"] (spP K mg 2 F20) := fn_def Fd sc20 (by decide) (b20 E oeq)
theorem bn20 {K : PySem.W.Frag} {f : Addr} {fd : FuncData} (Fd : FunD K "__ne__" "Straight.__ne__" (defArgs s20) (defBody s20) (defScope s20) [] [] f fd) : Binds K fd ["self", "other"] [] := (Fd.bindsN fun _ _ _ _ _ _ us hl => match us, hl with | [_, _], _ => rfl)
theorem n23 {P : Program} {w : World} {K : PySem.W.Frag} {mg : Str → Option Value} {base : Heap} {f : Addr} {fd : FuncData} (E : Ev K mg) (Fd : FunD K "__ne__" "Fault.__ne__" (defArgs s23) (defBody s23) (defScope s23) [] [] f fd) (oeq : OpT P w K mg base "__eq__" 2 Teq) : FnOk P w K mg base (L2.CX P w) 3 f fd ["self", "other"] (spP K mg 2 F23) := fn_def Fd sc23 (by decide) (b23 E oeq)
theorem bn23 {K : PySem.W.Frag} {f : Addr} {fd : FuncData} (Fd : FunD K "__ne__" "Fault.__ne__" (defArgs s23) (defBody s23) (defScope s23) [] [] f fd) : Binds K fd ["self", "other"] [] := (Fd.bindsN fun _ _ _ _ _ _ us hl => match us, hl with | [_, _], _ => rfl)
theorem n26 {P : Program} {w : World} {K : PySem.W.Frag} {mg : Str → Option Value} {base : Heap} {f : Addr} {fd : FuncData} (E : Ev K mg) (Fd : FunD K "__ne__" "Field.__ne__" (defArgs s26) (defBody s26) (defScope s26) [] [] f fd) (oeq : OpT P w K mg base "__eq__" 2 Teq) : FnOk P w K mg base (L2.CX P w) 3 f fd ["self", "other"] (spP K mg 2 F26) := fn_def Fd sc26 (by decide) (b26 E oeq)
theorem bn26 {K : PySem.W.Frag} {f : Addr} {fd : FuncData} (Fd : FunD K "__ne__" "Field.__ne__" (defArgs s26) (defBody s26) (defScope s26) [] [] f fd) : Binds K fd ["self", "other"] [] := (Fd.bindsN fun _ _ _ _ _ _ us hl => match us, hl with | [_, _], _ => rfl)
theorem n28 {P : Program} {w : World} {K : PySem.W.Frag} {mg : Str → Option Value} {base : Heap} {f : Addr} {fd : FuncData} (E : Ev K mg) (g : mg "is_points" = some (.ref f)) (Fd : FunD K "is_points" "is_points" (defArgs s28) (defBody s28) (defScope s28) [] [] f fd) (h_is_point : Dn P w K mg base "is_point" 2 1 F6) : Dn P w K mg base "is_points" 3 1 F28 := ⟨f, fd, ["value"], g, Fd.kp, (Fd.bindsN fun _ _ _ _ _ _ us hl => match us, hl with | [_], _ => rfl), fn_def Fd sc28 (by decide) (b28 E h_is_point)⟩
theorem n32 {P : Program} {w : World} {K : PySem.W.Frag} {mg : Str → Option Value} {base : Heap} {f : Addr} {fd : FuncData} (E : Ev K mg) (g : mg "led_round" = some (.ref f)) (Fd : FunD K "led_round" "led_round" (defArgs s32) (defBody s32) (defScope s32) [] [] f fd) (h_doubled_by : Dn P w K mg base "doubled_by" 2 1 F31) : Dn P w K mg base "led_round" 3 1 F32 := ⟨f, fd, ["corners"], g, Fd.kp, (Fd.bindsN fun _ _ _ _ _ _ us hl => match us, hl with | [_], _ => rfl), fn_def Fd sc32 (by decide) (b32 E h_doubled_by)⟩
theorem n33 {P : Program} {w : World} {K : PySem.W.Frag} {mg : Str → Option Value} {base : Heap} {f : Addr} {fd : FuncData} (E : Ev K mg) (g : mg "turn_at" = some (.ref f)) (Fd : FunD K "turn_at" "turn_at" (defArgs s33) (defBody s33) (defScope s33) [] [] f fd) (h_turn_by : Dn P w K mg base "turn_by" 2 3 F10) : Dn P w K mg base "turn_at" 3 2 F33 := ⟨f, fd, ["corners", "at"], g, Fd.kp, (Fd.bindsN fun _ _ _ _ _ _ us hl => match us, hl with | [_, _], _ => rfl), fn_def Fd sc33 (by decide) (b33 E h_turn_by)⟩
theorem n41 {P : Program} {w : World} {K : PySem.W.Frag} {mg : Str → Option Value} {base : Heap} {f : Addr} {fd : FuncData} (E : Ev K mg) (g : mg "beyond_side" = some (.ref f)) (Fd : FunD K "beyond_side" "beyond_side" (defArgs s41) (defBody s41) (defScope s41) [] [] f fd) (h_sides_by : Dn P w K mg base "sides_by" 1 1 F30) (h_turn_by : Dn P w K mg base "turn_by" 2 3 F10) : Dn P w K mg base "beyond_side" 3 1 F41 := ⟨f, fd, ["field"], g, Fd.kp, (Fd.bindsN fun _ _ _ _ _ _ us hl => match us, hl with | [_], _ => rfl), fn_def Fd sc41 (by decide) (b41 E h_sides_by h_turn_by)⟩
theorem n42 {P : Program} {w : World} {K : PySem.W.Frag} {mg : Str → Option Value} {base : Heap} {f : Addr} {fd : FuncData} (E : Ev K mg) (g : mg "on_border_by" = some (.ref f)) (Fd : FunD K "on_border_by" "on_border_by" (defArgs s42) (defBody s42) (defScope s42) [] [] f fd) (h_sides_by : Dn P w K mg base "sides_by" 1 1 F30) (h_between_by : Dn P w K mg base "between_by" 2 3 F11) : Dn P w K mg base "on_border_by" 3 2 F42 := ⟨f, fd, ["corners", "point"], g, Fd.kp, (Fd.bindsN fun _ _ _ _ _ _ us hl => match us, hl with | [_, _], _ => rfl), fn_def Fd sc42 (by decide) (b42 E h_sides_by h_between_by)⟩
theorem n45 {P : Program} {w : World} {K : PySem.W.Frag} {mg : Str → Option Value} {base : Heap} {f : Addr} {fd : FuncData} (E : Ev K mg) (g : mg "goes_back" = some (.ref f)) (Fd : FunD K "goes_back" "goes_back" (defArgs s45) (defBody s45) (defScope s45) [] [] f fd) (h_turn_by : Dn P w K mg base "turn_by" 2 3 F10) (h_between_by : Dn P w K mg base "between_by" 2 3 F11) : Dn P w K mg base "goes_back" 3 2 F45 := ⟨f, fd, ["corners", "at"], g, Fd.kp, (Fd.bindsN fun _ _ _ _ _ _ us hl => match us, hl with | [_, _], _ => rfl), fn_def Fd sc45 (by decide) (b45 E h_turn_by h_between_by)⟩
theorem n54 {P : Program} {w : World} {K : PySem.W.Frag} {mg : Str → Option Value} {base : Heap} {f : Addr} {fd : FuncData} (E : Ev K mg) (g : mg "_law_common" = some (.ref f)) (Fd : FunD K "_law_common" "_law_common" (defArgs s54) (defBody s54) (defScope s54) [] [] f fd) (h__law_spot : Dn P w K mg base "_law_spot" 2 3 F51) (h__law_cross : Dn P w K mg base "_law_cross" 1 3 F52) : Dn P w K mg base "_law_common" 3 2 F54 := ⟨f, fd, ["one", "other"], g, Fd.kp, (Fd.bindsN fun _ _ _ _ _ _ us hl => match us, hl with | [_, _], _ => rfl), fn_def Fd sc54 (by decide) (b54 E h__law_spot h__law_cross)⟩
theorem n58 {P : Program} {w : World} {K : PySem.W.Frag} {mg : Str → Option Value} {base : Heap} {f : Addr} {fd : FuncData} (E : Ev K mg) (g : mg "_law_turn_at" = some (.ref f)) (Fd : FunD K "_law_turn_at" "_law_turn_at" (defArgs s58) (defBody s58) (defScope s58) [] [] f fd) (h__law_turn : Dn P w K mg base "_law_turn" 2 3 F53) : Dn P w K mg base "_law_turn_at" 3 2 F58 := ⟨f, fd, ["ring", "at"], g, Fd.kp, (Fd.bindsN fun _ _ _ _ _ _ us hl => match us, hl with | [_, _], _ => rfl), fn_def Fd sc58 (by decide) (b58 E h__law_turn)⟩
theorem n8 {P : Program} {w : World} {K : PySem.W.Frag} {mg : Str → Option Value} {base : Heap} {f : Addr} {fd : FuncData} (E : Ev K mg) (g : mg "need_point" = some (.ref f)) (Fd : FunD K "need_point" "need_point" (defArgs s8) (defBody s8) (defScope s8) [] [] f fd) (h_need_as : Dn P w K mg base "need_as" 3 3 F7) : Dn P w K mg base "need_point" 4 2 F8 := ⟨f, fd, ["what", "value"], g, Fd.kp, (Fd.bindsN fun _ _ _ _ _ _ us hl => match us, hl with | [_, _], _ => rfl), fn_def Fd sc8 (by decide) (b8 E h_need_as)⟩
theorem n17 {P : Program} {w : World} {K : PySem.W.Frag} {mg : Str → Option Value} {base : Heap} {f : Addr} {fd : FuncData} (E : Ev K mg) (g : mg "meeting_by" = some (.ref f)) (Fd : FunD K "meeting_by" "meeting_by" (defArgs s17) (defBody s17) (defScope s17) [] [] f fd) (h_common_by : Dn P w K mg base "common_by" 3 2 F16) : Dn P w K mg base "meeting_by" 4 2 F17 := ⟨f, fd, ["one", "other"], g, Fd.kp, (Fd.bindsN fun _ _ _ _ _ _ us hl => match us, hl with | [_, _], _ => rfl), fn_def Fd sc17 (by decide) (b17 E h_common_by)⟩
theorem n29 {P : Program} {w : World} {K : PySem.W.Frag} {mg : Str → Option Value} {base : Heap} {f : Addr} {fd : FuncData} (E : Ev K mg) (g : mg "need_ring" = some (.ref f)) (Fd : FunD K "need_ring" "need_ring" (defArgs s29) (defBody s29) (defScope s29) [] [] f fd) (h_is_points : Dn P w K mg base "is_points" 3 1 F28) : Dn P w K mg base "need_ring" 4 1 F29 := ⟨f, fd, ["corners"], g, Fd.kp, (Fd.bindsN fun _ _ _ _ _ _ us hl => match us, hl with | [_], _ => rfl), fn_def Fd sc29 (by decide) (b29 E h_is_points)⟩
theorem n38 {P : Program} {w : World} {K : PySem.W.Frag} {mg : Str → Option Value} {base : Heap} {f : Addr} {fd : FuncData} (E : Ev K mg) (g : mg "turns_of" = some (.ref f)) (Fd : FunD K "turns_of" "turns_of" (defArgs s38) (defBody s38) (defScope s38) [] [] f fd) (h_turn_at : Dn P w K mg base "turn_at" 3 2 F33) : Dn P w K mg base "turns_of" 4 1 F38 := ⟨f, fd, ["field"], g, Fd.kp, (Fd.bindsN fun _ _ _ _ _ _ us hl => match us, hl with | [_], _ => rfl), fn_def Fd sc38 (by decide) (b38 E h_turn_at)⟩
theorem n55 {P : Program} {w : World} {K : PySem.W.Frag} {mg : Str → Option Value} {base : Heap} {f : Addr} {fd : FuncData} (E : Ev K mg) (g : mg "_law_meeting" = some (.ref f)) (Fd : FunD K "_law_meeting" "_law_meeting" (defArgs s55) (defBody s55) (defScope s55) [] [] f fd) (h__law_common : Dn P w K mg base "_law_common" 3 2 F54) : Dn P w K mg base "_law_meeting" 4 2 F55 := ⟨f, fd, ["one", "other"], g, Fd.kp, (Fd.bindsN fun _ _ _ _ _ _ us hl => match us, hl with | [_, _], _ => rfl), fn_def Fd sc55 (by decide) (b55 E h__law_common)⟩
theorem n35 {P : Program} {w : World} {K : PySem.W.Frag} {mg : Str → Option Value} {base : Heap} {f : Addr} {fd : FuncData} (E : Ev K mg) (g : mg "is_fault" = some (.ref f)) (Fd : FunD K "is_fault" "is_fault" (defArgs s35) (defBody s35) (defScope s35) [] [] f fd) (h_are_beside : Dn P w K mg base "are_beside" 1 3 F34) (h_meeting_by : Dn P w K mg base "meeting_by" 4 2 F17) : Dn P w K mg base "is_fault" 5 3 F35 := ⟨f, fd, ["sides", "one", "other"], g, Fd.kp, (Fd.bindsN fun _ _ _ _ _ _ us hl => match us, hl with | [_, _, _], _ => rfl), fn_def Fd sc35 (by decide) (b35 E h_are_beside h_meeting_by)⟩
theorem n39 {P : Program} {w : World} {K : PySem.W.Frag} {mg : Str → Option Value} {base : Heap} {f : Addr} {fd : FuncData} (E : Ev K mg) (g : mg "bays" = some (.ref f)) (Fd : FunD K "bays" "bays" (defArgs s39) (defBody s39) (defScope s39) [] [] f fd) (h_turns_of : Dn P w K mg base "turns_of" 4 1 F38) : Dn P w K mg base "bays" 5 1 F39 := ⟨f, fd, ["field"], g, Fd.kp, (Fd.bindsN fun _ _ _ _ _ _ us hl => match us, hl with | [_], _ => rfl), fn_def Fd sc39 (by decide) (b39 E h_turns_of)⟩
theorem n43 {P : Program} {w : World} {K : PySem.W.Frag} {mg : Str → Option Value} {base : Heap} {f : Addr} {fd : FuncData} (E : Ev K mg) (g : mg "on_border" = some (.ref f)) (Fd : FunD K "on_border" "on_border" (defArgs s43) (defBody s43) (defScope s43) [] [] f fd) (h_need_point : Dn P w K mg base "need_point" 4 2 F8) (h_on_border_by : Dn P w K mg base "on_border_by" 3 2 F42) : Dn P w K mg base "on_border" 5 2 F43 := ⟨f, fd, ["field", "point"], g, Fd.kp, (Fd.bindsN fun _ _ _ _ _ _ us hl => match us, hl with | [_, _], _ => rfl), fn_def Fd sc43 (by decide) (b43 E h_need_point h_on_border_by)⟩
theorem n46 {P : Program} {w : World} {K : PySem.W.Frag} {mg : Str → Option Value} {base : Heap} {f : Addr} {fd : FuncData} (E : Ev K mg) (g : mg "turnings" = some (.ref f)) (Fd : FunD K "turnings" "turnings" (defArgs s46) (defBody s46) (defScope s46) [] [] f fd) (h_is_upward : Dn P w K mg base "is_upward" 1 1 F44) (h_turn_at : Dn P w K mg base "turn_at" 3 2 F33) (h_sides_by : Dn P w K mg base "sides_by" 1 1 F30) (h_goes_back : Dn P w K mg base "goes_back" 3 2 F45) (h_need_ring : Dn P w K mg base "need_ring" 4 1 F29) : Dn P w K mg base "turnings" 5 1 F46 := ⟨f, fd, ["corners"], g, Fd.kp, (Fd.bindsN fun _ _ _ _ _ _ us hl => match us, hl with | [_], _ => rfl), fn_def Fd sc46 (by decide) (b46 E h_is_upward h_turn_at h_sides_by h_goes_back h_need_ring)⟩
theorem n59 {P : Program} {w : World} {K : PySem.W.Frag} {mg : Str → Option Value} {base : Heap} {f : Addr} {fd : FuncData} (E : Ev K mg) (g : mg "_law_first_fault" = some (.ref f)) (Fd : FunD K "_law_first_fault" "_law_first_fault" (defArgs s59) (defBody s59) (defScope s59) [] [] f fd) (h__law_meeting : Dn P w K mg base "_law_meeting" 4 2 F55) (h__law_turn_at : Dn P w K mg base "_law_turn_at" 3 2 F58) (h__law_sides : Dn P w K mg base "_law_sides" 1 1 F57) : Dn P w K mg base "_law_first_fault" 5 1 F59 := ⟨f, fd, ["ring"], g, Fd.kp, (Fd.bindsN fun _ _ _ _ _ _ us hl => match us, hl with | [_], _ => rfl), fn_def Fd sc59 (by decide) (b59 E h__law_meeting h__law_turn_at h__law_sides)⟩
theorem n40 {P : Program} {w : World} {K : PySem.W.Frag} {mg : Str → Option Value} {base : Heap} {f : Addr} {fd : FuncData} (E : Ev K mg) (g : mg "is_convex" = some (.ref f)) (Fd : FunD K "is_convex" "is_convex" (defArgs s40) (defBody s40) (defScope s40) [] [] f fd) (h_bays : Dn P w K mg base "bays" 5 1 F39) : Dn P w K mg base "is_convex" 6 1 F40 := ⟨f, fd, ["field"], g, Fd.kp, (Fd.bindsN fun _ _ _ _ _ _ us hl => match us, hl with | [_], _ => rfl), fn_def Fd sc40 (by decide) (b40 E h_bays)⟩
theorem n4 {P : Program} {w : World} {K : PySem.W.Frag} {mg : Str → Option Value} {base : Heap} {f : Addr} {fd : FuncData} (E : Ev K mg) (g : mg "as_tuples" = some (.ref f)) (Fd : FunD K "as_tuples" "as_tuples" (defArgs s4) (defBody s4) (defScope s4) [] [] f fd)  : ∀ i : Nat, Dn P w K mg base "as_tuples" (i + 1) 1 (F4 i)
  | 0 => ⟨f, fd, ["value"], g, Fd.kp, (Fd.bindsN fun _ _ _ _ _ _ us hl => match us, hl with | [_], _ => rfl), (fn_def (k := 0) (m := evNo) Fd sc4 (by decide) fun X W b _ _ _ o tk hp => ss_no).mono (by omega)⟩
  | j + 1 => ⟨f, fd, ["value"], g, Fd.kp, (Fd.bindsN fun _ _ _ _ _ _ us hl => match us, hl with | [_], _ => rfl), fn_def (k := j + 1) Fd sc4 (by decide) (b4 (E := E)  (h_as_tuples := n4 E g Fd  j))⟩
theorem n49 {P : Program} {w : World} {K : PySem.W.Frag} {mg : Str → Option Value} {base : Heap} {f : Addr} {fd : FuncData} (E : Ev K mg) (g : mg "_law_is" = some (.ref f)) (Fd : FunD K "_law_is" "_law_is" (defArgs s49) (defBody s49) (defScope s49) [] [] f fd)  : ∀ i : Nat, Dn P w K mg base "_law_is" (i + 1) 2 (F49 i)
  | 0 => ⟨f, fd, ["told", "due"], g, Fd.kp, (Fd.bindsN fun _ _ _ _ _ _ us hl => match us, hl with | [_, _], _ => rfl), (fn_def (k := 0) (m := evNo) Fd sc49 (by decide) fun X W b _ _ _ o tk hp => ss_no).mono (by omega)⟩
  | j + 1 => ⟨f, fd, ["told", "due"], g, Fd.kp, (Fd.bindsN fun _ _ _ _ _ _ us hl => match us, hl with | [_, _], _ => rfl), fn_def (k := j + 1) Fd sc49 (by decide) (b49 (E := E)  (h__law_is := n49 E g Fd  j))⟩
theorem n18 {P : Program} {w : World} {K : PySem.W.Frag} {mg : Str → Option Value} {base : Heap} {f : Addr} {fd : FuncData} {C : Addr} (E : Ev K mg) (g : mg "Straight" = some (.ref C)) (mk : Mk K C f) (Fd : FunD K "__init__" "Straight.__init__" (defArgs s18) (defBody s18) (defScope s18) [] [] f fd) (h_as_tuples : Dn P w K mg base "as_tuples" 7 1 (F4 6)) : DnC P w K mg base "Straight" 8 1 F18 := ⟨C, f, fd, ["self", "index"], g, mk, (Fd.bindsN fun _ _ _ _ _ _ us hl => match us, hl with | [_, _], _ => rfl), fn_defN (n := 1) Fd sc18 rfl (by decide) (b18 E h_as_tuples)⟩
theorem n21 {P : Program} {w : World} {K : PySem.W.Frag} {mg : Str → Option Value} {base : Heap} {f : Addr} {fd : FuncData} {C : Addr} (E : Ev K mg) (g : mg "Fault" = some (.ref C)) (mk : Mk K C f) (Fd : FunD K "__init__" "Fault.__init__" (defArgs s21) (defBody s21) (defScope s21) [] [] f fd) (h_as_tuples : Dn P w K mg base "as_tuples" 7 1 (F4 6)) : DnC P w K mg base "Fault" 8 3 F21 := ⟨C, f, fd, ["self", "one", "other", "how"], g, mk, (Fd.bindsN fun _ _ _ _ _ _ us hl => match us, hl with | [_, _, _, _], _ => rfl), fn_defN (n := 3) Fd sc21 rfl (by decide) (b21 E h_as_tuples)⟩
theorem n36 {P : Program} {w : World} {K : PySem.W.Frag} {mg : Str → Option Value} {base : Heap} {f : Addr} {fd : FuncData} (E : Ev K mg) (g : mg "first_fault" = some (.ref f)) (Fd : FunD K "first_fault" "first_fault" (defArgs s36) (defBody s36) (defScope s36) [] [] f fd) (h_Fault : DnC P w K mg base "Fault" 8 3 F21) (h_is_fault : Dn P w K mg base "is_fault" 5 3 F35) (h_sides_by : Dn P w K mg base "sides_by" 1 1 F30) (h_turn_at : Dn P w K mg base "turn_at" 3 2 F33) (h_Straight : DnC P w K mg base "Straight" 8 1 F18) : Dn P w K mg base "first_fault" 10 1 F36 := ⟨f, fd, ["corners"], g, Fd.kp, (Fd.bindsN fun _ _ _ _ _ _ us hl => match us, hl with | [_], _ => rfl), fn_def Fd sc36 (by decide) (b36 E h_Fault h_is_fault h_sides_by h_turn_at h_Straight)⟩
theorem n24 {P : Program} {w : World} {K : PySem.W.Frag} {mg : Str → Option Value} {base : Heap} {f : Addr} {fd : FuncData} {C : Addr} (E : Ev K mg) (g : mg "Field" = some (.ref C)) (mk : Mk K C f) (Fd : FunD K "__init__" "Field.__init__" (defArgs s24) (defBody s24) (defScope s24) [] [] f fd) (h_led_round : Dn P w K mg base "led_round" 3 1 F32) (h_first_fault : Dn P w K mg base "first_fault" 10 1 F36) (h_need_ring : Dn P w K mg base "need_ring" 4 1 F29) : DnC P w K mg base "Field" 11 1 F24 := ⟨C, f, fd, ["self", "corners"], g, mk, (Fd.bindsN fun _ _ _ _ _ _ us hl => match us, hl with | [_, _], _ => rfl), fn_defN (n := 1) Fd sc24 rfl (by decide) (b24 E h_led_round h_first_fault h_need_ring)⟩
theorem n37 {P : Program} {w : World} {K : PySem.W.Frag} {mg : Str → Option Value} {base : Heap} {f : Addr} {fd : FuncData} (E : Ev K mg) (g : mg "fault_of" = some (.ref f)) (Fd : FunD K "fault_of" "fault_of" (defArgs s37) (defBody s37) (defScope s37) [] [] f fd) (h_need_ring : Dn P w K mg base "need_ring" 4 1 F29) (h_first_fault : Dn P w K mg base "first_fault" 10 1 F36) : Dn P w K mg base "fault_of" 11 1 F37 := ⟨f, fd, ["corners"], g, Fd.kp, (Fd.bindsN fun _ _ _ _ _ _ us hl => match us, hl with | [_], _ => rfl), fn_def Fd sc37 (by decide) (b37 E h_need_ring h_first_fault)⟩
theorem n47 {P : Program} {w : World} {K : PySem.W.Frag} {mg : Str → Option Value} {base : Heap} {f : Addr} {fd : FuncData} (E : Ev K mg) (Fd : FunD K "_law_pen" "_law_pen" (defArgs s47) (defBody s47) (defScope s47) [] [] f fd) : FnOk P w K mg base (L2.CX P w) 1 f fd ["script"] (spPen K) := by
  refine fn_pen Fd sc47 fun X W b hX eK em o hp => ?_
  obtain ⟨cdv, A, outer, s, H, E', rfl⟩ := hX
  exact pss_cons (ps_set (i := 1) o.nd rfl (Or.inl rfl) L2.pe_int) (pss_cons (ps_for hp o.calm (pi_sq (pe_var rfl (Or.inl rfl))) (pg_name (i := 2) o.nd rfl (Or.inl rfl)) (pss_one (ps_set (i := 1) o.nd rfl (Or.inl rfl) (pe_mod' (pe_int o E.bi (pa_c (pe_add' o (pe_mul' o (pe_v 1) pe_ci) (pe_v 2)) pa_n)) pe_ci)))) (pss_one (ps_ret (pe_disp
    (pps_cons L2.pe_str (pe_callTy call_list_of rfl E.bi.list (by decide +kernel) (pa_cons (pe_var rfl (Or.inl rfl)) pa_nil)) (pps_cons L2.pe_str L2.pe_int (pps_cons L2.pe_str L2.pe_int (pps_cons L2.pe_str L2.pe_int (pps_cons L2.pe_str (pe_var rfl (Or.inl rfl)) pps_nil))))) rfl rfl (fun z => by cases z) (Nat.le_of_ble_eq_true rfl)))))
theorem n60 {P : Program} {w : World} {K : PySem.W.Frag} {mg : Str → Option Value} {base : Heap} {f : Addr} {fd : FuncData} {fp : Addr} {fdp : FuncData} (E : Ev K mg) (pl : Plain 16 63 m60) (gp : mg "_law_pen" = some (.ref fp)) (kp : PySem.W.keepIn K (.ref fp) = true) (bp : Binds K fdp ["script"] []) (np : FnOk P w K mg base (L2.CX P w) 1 fp fdp ["script"] (spPen K)) (Fd : FunD K "law" "law" (defArgs s60) (defBody s60) (defScope s60) [] [] f fd) (h_Field : DnC P w K mg base "Field" 11 1 F24) (h__law_is : Dn P w K mg base "_law_is" 7 2 (F49 6)) (h__law_first_fault : Dn P w K mg base "_law_first_fault" 5 1 F59) (h_fault_of : Dn P w K mg base "fault_of" 11 1 F37) (h__law_draw : DnN P w K mg base "_law_draw" 1 1 F48) (h_is_convex : Dn P w K mg base "is_convex" 6 1 F40) (h_beyond_side : Dn P w K mg base "beyond_side" 3 1 F41) (h_on_border : Dn P w K mg base "on_border" 5 2 F43) (h_bays : Dn P w K mg base "bays" 5 1 F39) (h_turnings : Dn P w K mg base "turnings" 5 1 F46) (h__law_drawn_point : DnN P w K mg base "_law_drawn_point" 2 1 F56) (oeq : OpT P w K mg base "__eq__" 2 Teq) (one : OpT P w K mg base "__ne__" 3 Tne) : FnOk P w K mg base (L2.CX P w) 13 f fd ["script"] (spLaw K 63) := by
  refine fn_law (N := N60) (k := 12) (rest := (defBody s60).tail) Fd sc60 (by decide) rfl (fun X W hX hr nd tk => ?_) (b60 E h_Field h__law_is h__law_first_fault h_fault_of h__law_draw h_is_convex h_beyond_side h_on_border h_bays h_turnings h__law_drawn_point oeq one) pl
  obtain ⟨cdv, A, outer, s, H, E', rfl⟩ := hX
  exact ps_set (i := 1) nd rfl (by first | exact Or.inl rfl | exact Or.inr rfl) (pe_callSD (E := WE W) np (hr.mono (by decide)) rfl gp kp bp .nil (fun σ => passAt tk σ) (pa_cons (pe_var rfl (by first | exact Or.inl rfl | exact Or.inr (Or.inl rfl))) pa_nil))
theorem facts {P : Program} {w : World} {K : PySem.W.Frag} {h : Heap} {mg : Str → Option Value} {f : Addr} (X : K.In h) (G : h.Ns mainGlobals mg) (hfa : mg ("law" : Str) = some (.ref f)) (c : He.SaysD fa fn K) (mo : exB K = true) (pl : Plain 16 63 m60) :
    ∃ fd : FuncData, (∀ (s : Shared) (v : Value), BindsTo s fd ⟨[v], []⟩ [("script", v)]) ∧ ∀ base : Heap, K.In base → base.Ns mainGlobals mg → FnOk P w K mg base (L2.CX P w) 13 f fd ["script"] (spLaw K 63) := by
  obtain ⟨fd3, A3⟩ := c.def_ 0 (d := d3) rfl
  obtain ⟨fd4, A4⟩ := c.def_ 1 (d := d4) rfl
  obtain ⟨fd5, A5⟩ := c.def_ 2 (d := d5) rfl
  obtain ⟨fd6, A6⟩ := c.def_ 3 (d := d6) rfl
  obtain ⟨fd7, A7⟩ := c.def_ 4 (d := d7) rfl
  obtain ⟨fd8, A8⟩ := c.def_ 5 (d := d8) rfl
  obtain ⟨fd9, A9⟩ := c.def_ 6 (d := d9) rfl
  obtain ⟨fd10, A10⟩ := c.def_ 7 (d := d10) rfl
  obtain ⟨fd11, A11⟩ := c.def_ 8 (d := d11) rfl
  obtain ⟨fd12, A12⟩ := c.def_ 9 (d := d12) rfl
  obtain ⟨fd13, A13⟩ := c.def_ 10 (d := d13) rfl
  obtain ⟨fd14, A14⟩ := c.def_ 11 (d := d14) rfl
  obtain ⟨fd15, A15⟩ := c.def_ 12 (d := d15) rfl
  obtain ⟨fd16, A16⟩ := c.def_ 13 (d := d16) rfl
  obtain ⟨fd17, A17⟩ := c.def_ 14 (d := d17) rfl
  obtain ⟨fd18, A18⟩ := c.def_ 15 (d := d18) rfl
  obtain ⟨fd19, A19⟩ := c.def_ 16 (d := d19) rfl
  obtain ⟨fd20, A20⟩ := c.def_ 17 (d := d20) rfl
  obtain ⟨fd21, A21⟩ := c.def_ 18 (d := d21) rfl
  obtain ⟨fd22, A22⟩ := c.def_ 19 (d := d22) rfl
  obtain ⟨fd23, A23⟩ := c.def_ 20 (d := d23) rfl
  obtain ⟨fd24, A24⟩ := c.def_ 21 (d := d24) rfl
  obtain ⟨fd25, A25⟩ := c.def_ 22 (d := d25) rfl
  obtain ⟨fd26, A26⟩ := c.def_ 23 (d := d26) rfl
  obtain ⟨fd27, A27⟩ := c.def_ 24 (d := d27) rfl
  obtain ⟨fd28, A28⟩ := c.def_ 25 (d := d28) rfl
  obtain ⟨fd29, A29⟩ := c.def_ 26 (d := d29) rfl
  obtain ⟨fd30, A30⟩ := c.def_ 27 (d := d30) rfl
  obtain ⟨fd31, A31⟩ := c.def_ 28 (d := d31) rfl
  obtain ⟨fd32, A32⟩ := c.def_ 29 (d := d32) rfl
  obtain ⟨fd33, A33⟩ := c.def_ 30 (d := d33) rfl
  obtain ⟨fd34, A34⟩ := c.def_ 31 (d := d34) rfl
  obtain ⟨fd35, A35⟩ := c.def_ 32 (d := d35) rfl
  obtain ⟨fd36, A36⟩ := c.def_ 33 (d := d36) rfl
  obtain ⟨fd37, A37⟩ := c.def_ 34 (d := d37) rfl
  obtain ⟨fd38, A38⟩ := c.def_ 35 (d := d38) rfl
  obtain ⟨fd39, A39⟩ := c.def_ 36 (d := d39) rfl
  obtain ⟨fd40, A40⟩ := c.def_ 37 (d := d40) rfl
  obtain ⟨fd41, A41⟩ := c.def_ 38 (d := d41) rfl
  obtain ⟨fd42, A42⟩ := c.def_ 39 (d := d42) rfl
  obtain ⟨fd43, A43⟩ := c.def_ 40 (d := d43) rfl
  obtain ⟨fd44, A44⟩ := c.def_ 41 (d := d44) rfl
  obtain ⟨fd45, A45⟩ := c.def_ 42 (d := d45) rfl
  obtain ⟨fd46, A46⟩ := c.def_ 43 (d := d46) rfl
  obtain ⟨fd47, A47⟩ := c.def_ 44 (d := d47) rfl
  obtain ⟨fd48, A48⟩ := c.def_ 45 (d := d48) rfl
  obtain ⟨fd49, A49⟩ := c.def_ 46 (d := d49) rfl
  obtain ⟨fd50, A50⟩ := c.def_ 47 (d := d50) rfl
  obtain ⟨fd51, A51⟩ := c.def_ 48 (d := d51) rfl
  obtain ⟨fd52, A52⟩ := c.def_ 49 (d := d52) rfl
  obtain ⟨fd53, A53⟩ := c.def_ 50 (d := d53) rfl
  obtain ⟨fd54, A54⟩ := c.def_ 51 (d := d54) rfl
  obtain ⟨fd55, A55⟩ := c.def_ 52 (d := d55) rfl
  obtain ⟨fd56, A56⟩ := c.def_ 53 (d := d56) rfl
  obtain ⟨fd57, A57⟩ := c.def_ 54 (d := d57) rfl
  obtain ⟨fd58, A58⟩ := c.def_ 55 (d := d58) rfl
  obtain ⟨fd59, A59⟩ := c.def_ 56 (d := d59) rfl
  obtain ⟨fd60, A60⟩ := c.def_ 57 (d := d60) rfl
  have eL := hfa.symm.trans (He.glo_ok X G (c.fact 65 (f := .glo "law") rfl))
  cases eL
  obtain ⟨mo1, mo2⟩ := Bool.and_eq_true_iff.mp mo
  obtain ⟨mo2, mo3⟩ := Bool.and_eq_true_iff.mp mo2
  have E : Ev K mg := ⟨bi_of X G (List.all_eq_true.mpr fun f hf => c.facts (List.mem_append_left _ hf)), kitsB_ok X G mo1, ctB_ok X G mo2, He.int_ok X G (c.fact 66 (f := .int "LEAST_CORNERS" 3) rfl), He.int_ok X G (c.fact 67 (f := .int "MOST_CORNERS" 40) rfl), biB_ok X G mo3, ⟨_, He.glo_ok X G (c.fact 20 (f := .glo "is_point") rfl)⟩, ⟨_, He.glo_ok X G (c.fact 68 (f := .glo "Straight") rfl)⟩, ⟨_, He.glo_ok X G (c.fact 70 (f := .glo "Fault") rfl)⟩, ⟨_, He.glo_ok X G (c.fact 72 (f := .glo "Field") rfl)⟩⟩
  refine ⟨fd60, fun s v => (FunD.bindsA (ps := ["script"]) A60 fun _ _ _ _ _ _ us hl => match us, hl with | [_], _ => rfl) s [v] rfl, fun base _ _ => ?_⟩
  have a3 := n3 (P := P) (w := w) (base := base) E (He.glo_ok X G (c.fact 17 (f := .glo "is_whole") rfl)) A3 
  have a5 := n5 (P := P) (w := w) (base := base) E (He.glo_ok X G (c.fact 19 (f := .glo "sign_of") rfl)) A5 
  have a9 := n9 (P := P) (w := w) (base := base) E (He.glo_ok X G (c.fact 23 (f := .glo "cross_by") rfl)) A9 
  have a12 := n12 (P := P) (w := w) (base := base) E (He.glo_ok X G (c.fact 26 (f := .glo "spot_by") rfl)) A12 
  have a13 := n13 (P := P) (w := w) (base := base) E (He.glo_ok X G (c.fact 27 (f := .glo "shared_by") rfl)) A13 
  have a19 := n19 (P := P) (w := w) (base := base) E A19 
  have a25 := n25 (P := P) (w := w) (base := base) E A25 
  have a27 := n27 (P := P) (w := w) (base := base) E (He.glo_ok X G (c.fact 32 (f := .glo "fault_parts") rfl)) A27 
  have a30 := n30 (P := P) (w := w) (base := base) E (He.glo_ok X G (c.fact 35 (f := .glo "sides_by") rfl)) A30 
  have a34 := n34 (P := P) (w := w) (base := base) E (He.glo_ok X G (c.fact 39 (f := .glo "are_beside") rfl)) A34 
  have a44 := n44 (P := P) (w := w) (base := base) E (He.glo_ok X G (c.fact 49 (f := .glo "is_upward") rfl)) A44 
  have a48 := n48 (P := P) (w := w) (base := base) E (He.glo_ok X G (c.fact 53 (f := .glo "_law_draw") rfl)) A48 
  have a50 := n50 (P := P) (w := w) (base := base) E (He.glo_ok X G (c.fact 55 (f := .glo "_law_divisor") rfl)) A50 
  have a52 := n52 (P := P) (w := w) (base := base) E (He.glo_ok X G (c.fact 57 (f := .glo "_law_cross") rfl)) A52 
  have a57 := n57 (P := P) (w := w) (base := base) E (He.glo_ok X G (c.fact 62 (f := .glo "_law_sides") rfl)) A57 
  have a6 := n6 (P := P) (w := w) (base := base) E (He.glo_ok X G (c.fact 20 (f := .glo "is_point") rfl)) A6 a3
  have a10 := n10 (P := P) (w := w) (base := base) E (He.glo_ok X G (c.fact 24 (f := .glo "turn_by") rfl)) A10 a9 a5
  have a11 := n11 (P := P) (w := w) (base := base) E (He.glo_ok X G (c.fact 25 (f := .glo "between_by") rfl)) A11 a9
  have a14 := n14 (P := P) (w := w) (base := base) E (He.glo_ok X G (c.fact 28 (f := .glo "are_in_line") rfl)) A14 a9
  have a15 := n15 (P := P) (w := w) (base := base) E (He.glo_ok X G (c.fact 29 (f := .glo "crossing_spot") rfl)) A15 a12 a9
  have a22 := n22 (P := P) (w := w) (base := base) E A22 a27
  have a31 := n31 (P := P) (w := w) (base := base) E (He.glo_ok X G (c.fact 36 (f := .glo "doubled_by") rfl)) A31 a30
  have a51 := n51 (P := P) (w := w) (base := base) E (He.glo_ok X G (c.fact 56 (f := .glo "_law_spot") rfl)) A51 a50
  have a53 := n53 (P := P) (w := w) (base := base) E (He.glo_ok X G (c.fact 58 (f := .glo "_law_turn") rfl)) A53 a52
  have a56 := n56 (P := P) (w := w) (base := base) E (He.glo_ok X G (c.fact 61 (f := .glo "_law_drawn_point") rfl)) A56 a48
  have ft : FTok P w K mg base 2 TF := FTok.cons a6 (by decide) (FTok.nil)
  have a7 := n7 (P := P) (w := w) (base := base) E (He.glo_ok X G (c.fact 21 (f := .glo "need_as") rfl)) A7 ft
  have a16 := n16 (P := P) (w := w) (base := base) E (He.glo_ok X G (c.fact 30 (f := .glo "common_by") rfl)) A16 a15 a10 a14 a13
  have oeq : OpT P w K mg base "__eq__" 2 Teq := OpT.cons (He.glo_ok X G (c.fact 68 (f := .glo "Straight") rfl)) (He.meth_ok (c.fact 74 (f := .meth "Straight" "__eq__") rfl)) (bn19 A19) a19 (by decide) ( OpT.cons (He.glo_ok X G (c.fact 70 (f := .glo "Fault") rfl)) (He.meth_ok (c.fact 76 (f := .meth "Fault" "__eq__") rfl)) (bn22 A22) a22 (by decide) ( OpT.cons (He.glo_ok X G (c.fact 72 (f := .glo "Field") rfl)) (He.meth_ok (c.fact 78 (f := .meth "Field" "__eq__") rfl)) (bn25 A25) a25 (by decide) (OpT.nil)))
  have a20 := n20 (P := P) (w := w) (base := base) E A20 oeq
  have a23 := n23 (P := P) (w := w) (base := base) E A23 oeq
  have a26 := n26 (P := P) (w := w) (base := base) E A26 oeq
  have a28 := n28 (P := P) (w := w) (base := base) E (He.glo_ok X G (c.fact 33 (f := .glo "is_points") rfl)) A28 a6
  have a32 := n32 (P := P) (w := w) (base := base) E (He.glo_ok X G (c.fact 37 (f := .glo "led_round") rfl)) A32 a31
  have a33 := n33 (P := P) (w := w) (base := base) E (He.glo_ok X G (c.fact 38 (f := .glo "turn_at") rfl)) A33 a10
  have a41 := n41 (P := P) (w := w) (base := base) E (He.glo_ok X G (c.fact 46 (f := .glo "beyond_side") rfl)) A41 a30 a10
  have a42 := n42 (P := P) (w := w) (base := base) E (He.glo_ok X G (c.fact 47 (f := .glo "on_border_by") rfl)) A42 a30 a11
  have a45 := n45 (P := P) (w := w) (base := base) E (He.glo_ok X G (c.fact 50 (f := .glo "goes_back") rfl)) A45 a10 a11
  have a54 := n54 (P := P) (w := w) (base := base) E (He.glo_ok X G (c.fact 59 (f := .glo "_law_common") rfl)) A54 a51 a52
  have a58 := n58 (P := P) (w := w) (base := base) E (He.glo_ok X G (c.fact 63 (f := .glo "_law_turn_at") rfl)) A58 a53
  have a8 := n8 (P := P) (w := w) (base := base) E (He.glo_ok X G (c.fact 22 (f := .glo "need_point") rfl)) A8 a7
  have a17 := n17 (P := P) (w := w) (base := base) E (He.glo_ok X G (c.fact 31 (f := .glo "meeting_by") rfl)) A17 a16
  have a29 := n29 (P := P) (w := w) (base := base) E (He.glo_ok X G (c.fact 34 (f := .glo "need_ring") rfl)) A29 a28
  have a38 := n38 (P := P) (w := w) (base := base) E (He.glo_ok X G (c.fact 43 (f := .glo "turns_of") rfl)) A38 a33
  have a55 := n55 (P := P) (w := w) (base := base) E (He.glo_ok X G (c.fact 60 (f := .glo "_law_meeting") rfl)) A55 a54
  have a35 := n35 (P := P) (w := w) (base := base) E (He.glo_ok X G (c.fact 40 (f := .glo "is_fault") rfl)) A35 a34 a17
  have a39 := n39 (P := P) (w := w) (base := base) E (He.glo_ok X G (c.fact 44 (f := .glo "bays") rfl)) A39 a38
  have a43 := n43 (P := P) (w := w) (base := base) E (He.glo_ok X G (c.fact 48 (f := .glo "on_border") rfl)) A43 a8 a42
  have a46 := n46 (P := P) (w := w) (base := base) E (He.glo_ok X G (c.fact 51 (f := .glo "turnings") rfl)) A46 a44 a33 a30 a45 a29
  have a59 := n59 (P := P) (w := w) (base := base) E (He.glo_ok X G (c.fact 64 (f := .glo "_law_first_fault") rfl)) A59 a55 a58 a57
  have a40 := n40 (P := P) (w := w) (base := base) E (He.glo_ok X G (c.fact 45 (f := .glo "is_convex") rfl)) A40 a39
  have a4 := n4 (P := P) (w := w) (base := base) E (He.glo_ok X G (c.fact 18 (f := .glo "as_tuples") rfl)) A4 
  have a49 := n49 (P := P) (w := w) (base := base) E (He.glo_ok X G (c.fact 54 (f := .glo "_law_is") rfl)) A49 
  have a18 := n18 (P := P) (w := w) (base := base) E (He.glo_ok X G (c.fact 68 (f := .glo "Straight") rfl)) (He.mkr_ok (c.fact 69 (f := .mkr "Straight") rfl)) A18 (a4 6)
  have a21 := n21 (P := P) (w := w) (base := base) E (He.glo_ok X G (c.fact 70 (f := .glo "Fault") rfl)) (He.mkr_ok (c.fact 71 (f := .mkr "Fault") rfl)) A21 (a4 6)
  have a36 := n36 (P := P) (w := w) (base := base) E (He.glo_ok X G (c.fact 41 (f := .glo "first_fault") rfl)) A36 a21 a35 a30 a33 a18
  have a24 := n24 (P := P) (w := w) (base := base) E (He.glo_ok X G (c.fact 72 (f := .glo "Field") rfl)) (He.mkr_ok (c.fact 73 (f := .mkr "Field") rfl)) A24 a32 a36 a29
  have a37 := n37 (P := P) (w := w) (base := base) E (He.glo_ok X G (c.fact 42 (f := .glo "fault_of") rfl)) A37 a29 a36
  have one : OpT P w K mg base "__ne__" 3 Tne := OpT.cons (He.glo_ok X G (c.fact 68 (f := .glo "Straight") rfl)) (He.meth_ok (c.fact 75 (f := .meth "Straight" "__ne__") rfl)) (bn20 A20) a20 (by decide) ( OpT.cons (He.glo_ok X G (c.fact 70 (f := .glo "Fault") rfl)) (He.meth_ok (c.fact 77 (f := .meth "Fault" "__ne__") rfl)) (bn23 A23) a23 (by decide) ( OpT.cons (He.glo_ok X G (c.fact 72 (f := .glo "Field") rfl)) (He.meth_ok (c.fact 79 (f := .meth "Field" "__ne__") rfl)) (bn26 A26) a26 (by decide) (OpT.nil)))
  exact n60 E pl (He.glo_ok X G (c.fact 52 (f := .glo "_law_pen") rfl)) A47.kp (FunD.bindsN A47 fun _ _ _ _ _ _ us hl => match us, hl with | [_], _ => rfl) (n47 E A47) A60 a24 (a49 6) a59 a37 a48 a40 a41 a43 a39 a46 a56 oeq one
open PySem.W PySem.Calls PyProof.Rows in
theorem holds (pl : Plain 16 63 m60) : PySem.Challenge.rw_landparcels_k13_whole_known_fields.Holds := by
  w_on; o_law
  refine HandSHeadRun.head_imp (r := RW0) (q := PySem.W.view RW0.prog [0, 63]) (H := hk) (ob := ob) (M := 4000) (loose := names) (d := HandSHeadRun.topDef RW0.prog 63) (kwd := []) ob_eq
    run (by kernel_rfl) (by kernel_rfl) (by kernel_rfl) (by rfl) (by first | assumption | decide +kernel) (by decide +kernel) ⟨rfl, rfl, rfl, rfl, rfl, by decide +kernel⟩ ?hw ?hc
  case hw => w_witness2
  case hc =>
    refine walk_ofW (l := PySem.Challenge.rw_landparcels_k13_whole_known_fields) (n := 63) (k := 13) (x := "script") (CX := fun w => L2.CX (PySem.Challenge.rw_landparcels_k13_whole_known_fields).prog w) rfl (by decide) (by kernel_rfl) ⟨rfl, by decide, by decide⟩ ?F (fun _ _ _ _ _ ⟨_, _, _, _, _, _, _, _, _, _, _, _, z⟩ => z)
    intro w mg fa' h Y G hmg0
    obtain ⟨K, KX, c⟩ := Y
    have hmg : mg ("law" : PySem.Str) = some (.ref fa') := by
      have e : (HandSHeadRun.topDef RW0.prog 63).name = ("law" : PySem.Str) := by kernel_rfl
      rw [← e]
      exact hmg0
    obtain ⟨fd, hb, hF⟩ := facts (P := (PySem.Challenge.rw_landparcels_k13_whole_known_fields).prog) (w := w) KX G hmg c.t.d c.more pl
    exact ⟨K, fd, spLaw K 63, KX, hb, fun H a ns hl _ hS => ⟨a, ns, rfl, hl, hS, fun v H' e => e⟩, hF⟩
end Lw
end Mc
end
theorem PySem.Challenge.cw_landparcels_k13_whole_known_fields_holds : PySem.Challenge.rw_landparcels_k13_whole_known_fields.Holds :=
  Mc.Lw.holds (by exact Mc.Lw.plain13)
