import PyProof.Rows.All
import Wide.All
import OpenK.AllK
import Wide.FinOn
import PySem.Challenge.RW_landparcels_k91_whole_where_to_meet
import HandS.ForMost
import HandS.TupAny
import HandS.Flow
import HandS.Exc
import HandS.TryOnly
import HandS.ExcOwn
import HandS.WordsExc
import HandS.Lambda
import HandS.TupMul
import HandS.TupLe
import HandS.Deep
import HandS.Style
import HandS.Conv
import HandS.IsInst
import KE.DataCmp
import KE.SortData
import PyProof.P3In
import HandS.Iter
import HandS.Zip
import HandS.Defaults
import HandS.CallSlots
import HandS.Dict
import HandS.List
import HandS.RaiseMore
import HandS.Gcd
import PyProof.SumAnyB
import PyProof.MaxThree
import HandS.Strs
import KE.DataFind
import HandS.Text
import HandS.Codes
import HandS.SlotsOwn
import KE.GoesMore
import KE.GoesZip
import HandS.CallLocal
import HandS.DictComp
import HandS.TupLen
import HandS.HeadEnd
import HandS.Head0
import HandS.Head1
import HandS.Head2
import HandS.HeadHook1
import HandS.HeadHook2
import HandS.HeadHook3
import HandS.HeadHook4
import HandS.Star
import KE.KMathG
import PyProof.Rows.RuleB_bool
import HandS.EndTab
import HandS.Nested
import HandS.ExcInit
import HandS.ExcField
import HandS.ExcIs
import PyProof.ReprBulk
import PyProof.ReprRoads
import PyProof.CallFns
import HandS.TryMany
import HandS.EndBits
import HandS.Head3
import KE.KStateDown
import PyProof.Rows.ReprOcc
import PyProof.SeqI3
section
set_option Elab.async false
set_option linter.all false
set_option maxRecDepth 100000
set_option maxHeartbeats 4000000
namespace Mc
open PySem PySem.Spec L2

/-! ### data -/
/-- a lambda's words: its number, its text, the names that it captures and their slots -/
structure LT where
  id : Nat
  params : Arguments
  body : Expr
  scope : Scope
  fr : List Str
  js : List Nat
  q : Str
/-- the object at f is the lambda t over the cells cl -/
def LamO (f c : Addr) (cl : List (Str × Addr)) (t : LT) : HO := .ext fun h => ∃ pm ctv, h.get? f = some (PySem.W.kla_obj "<lambda>" t.q t.params t.body t.scope (cloFrom cl t.scope.names []) pm c ctv)
/-- the object at c is o -/
def CellO (c : Addr) (o : Obj) : HO := .ext fun h => h.get? c = some o
/-- captured cells that hold vs -/
structure CellsS (S : Hp) (cl : List (Str × Addr)) (fr : List Str) (vs : List V) : Prop where
  len : vs.length = fr.length
  all : ∀ y c, cl.lookup y = some c → ∃ o w, S c = some (CellO c o) ∧ o.data = .cell w
  inj : ∀ y z c, cl.lookup y = some c → cl.lookup z = some c → y = z
  has : ∀ (i : Nat) (y : Str) (v : V), fr[i]? = some y → vs[i]? = some v → ∃ c o u, cl.lookup y = some c ∧ S c = some (CellO c o) ∧ o.data = .cell (some u) ∧ RelV v u
theorem CellsS.up {S S' : Hp} {cl : List (Str × Addr)} {fr : List Str} {vs : List V} (k : CellsS S cl fr vs) (h : ∀ a o, S a = some o → S' a = some o) : CellsS S' cl fr vs :=
  ⟨k.len, fun y c e => by obtain ⟨o, w, e1, e2⟩ := k.all y c e; exact ⟨o, w, h _ _ e1, e2⟩, k.inj, fun i y v e1 e2 => by obtain ⟨c, o, u, a1, a2, a3, a4⟩ := k.has i y v e1 e2; exact ⟨c, o, u, a1, h _ _ a2, a3, a4⟩⟩
inductive D where
  | non | bl (b : Bool) | int (i : Int) | str (s : Str) | tup (xs : List D) | lst (xs : List D) | ob (c : Str) (fs : List (Str × D)) | dic (kvs : List (D × D)) | fn (x : Str) | lam (t : LT) (cl : List (Str × Addr)) | act (t : LT) (ds : List D)

mutual
def D.py : D → Option PyData
  | .non => some .none
  | .bl b => some (.bool b)
  | .int i => some (.int i)
  | .str s => some (.str s)
  | .tup xs => match D.pys xs with | some ys => some (.tuple ys) | none => none
  | .lst xs => match D.pys xs with | some ys => some (.list ys) | none => none
  | .ob _ _ => none
  | .dic _ => none
  | .fn _ => none
  | .lam _ _ => none
  | .act _ _ => none
def D.pys : List D → Option (List PyData)
  | [] => some []
  | x :: xs => match D.py x, D.pys xs with | some y, some ys => some (y :: ys) | _, _ => none
end

/-- a tuple whose object is known: it has no dict -/
def NoD (K : PySem.W.Frag) (S : Hp) (a : Addr) : Prop := (∃ o u, S a = some (.frz o u) ∧ o.cls = .type "tuple" ∧ o.dict = none) ∨ ∃ o, K.lookup a = some o ∧ o.cls = .type "tuple" ∧ o.dict = none
def SqX (K : PySem.W.Frag) (S : Hp) (a : Addr) (vs : List V) : Prop := SqT K S a vs ∧ NoD K S a
mutual
inductive Rp (K : PySem.W.Frag) (mg : Str → Option Value) (S : Hp) : V → D → Prop
  | non : Rp K mg S .non .non
  | bl (b : Bool) : Rp K mg S (.bl b) (.bl b)
  | int (i : Int) : Rp K mg S (.int i) (.int i)
  | str (x : Str) : Rp K mg S (.str x) (.str x)
  | tup {a : Addr} {vs : List V} {ds : List D} : SqX K S a vs → Rps K mg S vs ds → Rp K mg S (.ref a) (.tup ds)
  | lst {a : Addr} {vs : List V} {ds : List D} : S a = some (.lst vs) → Rps K mg S vs ds → Rp K mg S (.ref a) (.lst ds)
  | ob {a C dx : Addr} {c : Str} {fv : List (Str × V)} {fs : List (Str × D)} : S a = some (.ins C dx fv) → mg c = some (.ref C) → Rpf K mg S fv fs → Rp K mg S (.ref a) (.ob c fs)
  | fn {a : Addr} {x : Str} : mg x = some (.ref a) → Rp K mg S (.ref a) (.fn x)
  | lam {f c : Addr} {t : LT} {cl : List (Str × Addr)} : S f = some (LamO f c cl t) → S c = some (LamX.CodeO c t.q) → Rp K mg S (.ref f) (.lam t cl)
  | act {f c : Addr} {t : LT} {cl : List (Str × Addr)} {vs : List V} {ds : List D} : S f = some (LamO f c cl t) → S c = some (LamX.CodeO c t.q) → CellsS S (cloFrom cl t.scope.names []) t.fr vs → Rps K mg S vs ds → Rp K mg S (.ref f) (.act t ds)
inductive Rps (K : PySem.W.Frag) (mg : Str → Option Value) (S : Hp) : List V → List D → Prop
  | nil : Rps K mg S [] []
  | cons {v : V} {vs : List V} {d : D} {ds : List D} : Rp K mg S v d → Rps K mg S vs ds → Rps K mg S (v :: vs) (d :: ds)
inductive Rpf (K : PySem.W.Frag) (mg : Str → Option Value) (S : Hp) : List (Str × V) → List (Str × D) → Prop
  | nil : Rpf K mg S [] []
  | cons {f : Str} {v : V} {vs : List (Str × V)} {d : D} {ds : List (Str × D)} : Rp K mg S v d → Rpf K mg S vs ds → Rpf K mg S ((f, v) :: vs) ((f, d) :: ds)
end

def Hsub (S S' : Hp) : Prop := ∀ a o, S a = some o → S' a = some o
theorem Hsub.refl (S : Hp) : Hsub S S := fun _ _ h => h
theorem Hsub.trans {S S' S'' : Hp} (h : Hsub S S') (h' : Hsub S' S'') : Hsub S S'' := fun a o e => h' a o (h a o e)
theorem Hsub.new {S : Hp} {a : Addr} {o : HO} (h : S a = none) : Hsub S (upd S a o) := fun b u e => by rw [upd_ne (ne_of_none e h)]; exact e
theorem sqt_mono {K : PySem.W.Frag} {S S' : Hp} {a : Addr} {vs : List V} (h : Hsub S S') (x : SqT K S a vs) : SqT K S' a vs := by
  rcases x with (x | ⟨o, x⟩) | x
  · exact Or.inl (Or.inl (h _ _ x))
  · exact Or.inl (Or.inr ⟨o, h _ _ x⟩)
  · exact Or.inr x
theorem sqx_mono {K : PySem.W.Frag} {S S' : Hp} {a : Addr} {vs : List V} (h : Hsub S S') (x : SqX K S a vs) : SqX K S' a vs :=
  ⟨sqt_mono h x.1, x.2.elim (fun ⟨o, u, e, r⟩ => Or.inl ⟨o, u, h _ _ e, r⟩) Or.inr⟩
theorem SqX.of {K : PySem.W.Frag} {S : Hp} {a : Addr} {o : Obj} {vs : List V} (e : S a = some (.frz o (.tup vs))) (h1 : o.cls = .type "tuple") (h2 : o.dict = none) : SqX K S a vs :=
  ⟨Or.inl (Or.inr ⟨o, e⟩), Or.inl ⟨o, _, e, h1, h2⟩⟩
theorem sql_mono {K : PySem.W.Frag} {S S' : Hp} {a : Addr} {vs : List V} (h : Hsub S S') (x : SqL K S a vs) : SqL K S' a vs := by
  rcases x with (x | ⟨o, x⟩) | x
  · exact Or.inl (Or.inl (h _ _ x))
  · exact Or.inl (Or.inr ⟨o, h _ _ x⟩)
  · exact Or.inr x
section
variable {K : PySem.W.Frag} {mg : Str → Option Value} {S S' : Hp}
mutual
theorem Rp.mono (h : Hsub S S') : ∀ (d : D) (v : V), Rp K mg S v d → Rp K mg S' v d
  | .non, _, x => by cases x; exact .non
  | .bl _, _, x => by cases x; exact .bl _
  | .int _, _, x => by cases x; exact .int _
  | .str _, _, x => by cases x; exact .str _
  | .tup ds, _, x => by cases x with | tup p q => exact .tup (sqx_mono h p) (Rps.mono h ds _ q)
  | .lst ds, _, x => by cases x with | lst p q => exact .lst (h _ _ p) (Rps.mono h ds _ q)
  | .ob c fs, _, x => by cases x with | ob p m q => exact .ob (h _ _ p) m (Rpf.mono h fs _ q)
  | .dic _, _, x => by cases x
  | .fn _, _, x => by cases x with | fn m => exact .fn m
  | .lam _ _, _, x => by cases x with | lam p q => exact .lam (h _ _ p) (h _ _ q)
  | .act _ ds, _, x => by cases x with | act p q c r => exact .act (h _ _ p) (h _ _ q) (c.up h) (Rps.mono h ds _ r)
theorem Rps.mono (h : Hsub S S') : ∀ (ds : List D) (vs : List V), Rps K mg S vs ds → Rps K mg S' vs ds
  | [], _, x => by cases x; exact .nil
  | d :: ds, _, x => by cases x with | cons p q => exact .cons (Rp.mono h d _ p) (Rps.mono h ds _ q)
theorem Rpf.mono (h : Hsub S S') : ∀ (ds : List (Str × D)) (vs : List (Str × V)), Rpf K mg S vs ds → Rpf K mg S' vs ds
  | [], _, x => by cases x; exact .nil
  | (f, d) :: ds, _, x => by cases x with | cons p q => exact .cons (Rp.mono h d _ p) (Rpf.mono h ds _ q)
end
mutual
theorem Rp.dp : ∀ (d : D) (v : V) (p : PyData), Rp K mg S v d → d.py = some p → Dp K S v p
  | .non, _, _, x, e => by cases x; cases e; exact .non
  | .bl _, _, _, x, e => by cases x; cases e; exact .bl _
  | .int _, _, _, x, e => by cases x; cases e; exact .int _
  | .str _, _, _, x, e => by cases x; cases e; exact .str _
  | .tup ds, _, _, x, e => by
    cases x with
    | tup p q =>
      simp only [D.py] at e
      split at e
      · rename_i ys hy
        cases e
        exact .tup p.1 (Rps.dp ds _ _ q hy)
      · cases e
  | .lst ds, _, _, x, e => by
    cases x with
    | lst p q =>
      simp only [D.py] at e
      split at e
      · rename_i ys hy
        cases e
        exact .lst (SqL.of p) (Rps.dp ds _ _ q hy)
      · cases e
  | .ob c fs, _, _, x, e => by simp only [D.py] at e; cases e
  | .dic _, _, _, x, e => by cases x
  | .fn _, _, _, x, e => by simp only [D.py] at e; cases e
  | .lam _ _, _, _, x, e => by simp only [D.py] at e; cases e
  | .act _ _, _, _, x, e => by simp only [D.py] at e; cases e
theorem Rps.dp : ∀ (ds : List D) (vs : List V) (ps : List PyData), Rps K mg S vs ds → D.pys ds = some ps → DpAll K S vs ps
  | [], _, _, x, e => by cases x; simp only [D.pys] at e; cases e; exact .nil
  | d :: ds, _, _, x, e => by
    cases x with
    | cons p q =>
      simp only [D.pys] at e
      split at e
      · rename_i y ys h1 h2
        cases e
        exact .cons (Rp.dp d _ _ p h1) (Rps.dp ds _ _ q h2)
      · cases e
end
end
theorem Rps.length {K : PySem.W.Frag} {mg : Str → Option Value} {S : Hp} : ∀ {ds : List D} {vs : List V}, Rps K mg S vs ds → vs.length = ds.length
  | [], _, x => by cases x; rfl
  | d :: ds, _, x => by cases x with | cons p q => simp only [List.length_cons, Rps.length q]
theorem Rps.get {K : PySem.W.Frag} {mg : Str → Option Value} {S : Hp} : ∀ {ds : List D} {vs : List V} {i : Nat} {d : D}, Rps K mg S vs ds → ds[i]? = some d → ∃ v, vs[i]? = some v ∧ Rp K mg S v d
  | [], _, _, _, _, e => by simp at e
  | d :: ds, _, 0, _, x, e => by cases x with | cons p q => simp at e; subst e; exact ⟨_, rfl, p⟩
  | d :: ds, _, i + 1, _, x, e => by
    cases x with
    | cons p q =>
      obtain ⟨v, h1, h2⟩ := Rps.get (i := i) q (by simpa using e)
      exact ⟨v, by simpa using h1, h2⟩
theorem Rps.append {K : PySem.W.Frag} {mg : Str → Option Value} {S : Hp} : ∀ {ds es : List D} {vs ws : List V}, Rps K mg S vs ds → Rps K mg S ws es → Rps K mg S (vs ++ ws) (ds ++ es)
  | [], _, _, _, x, y => by cases x; exact y
  | d :: ds, _, _, _, x, y => by cases x with | cons p q => exact .cons p (Rps.append q y)
theorem Rps.take {K : PySem.W.Frag} {mg : Str → Option Value} {S : Hp} : ∀ (n : Nat) {ds : List D} {vs : List V}, Rps K mg S vs ds → Rps K mg S (vs.take n) (ds.take n)
  | 0, _, _, _ => by simp only [List.take_zero]; exact .nil
  | n + 1, [], _, x => by cases x; exact .nil
  | n + 1, d :: ds, _, x => by cases x with | cons p q => exact .cons p (Rps.take n q)
theorem Rps.drop {K : PySem.W.Frag} {mg : Str → Option Value} {S : Hp} : ∀ (n : Nat) {ds : List D} {vs : List V}, Rps K mg S vs ds → Rps K mg S (vs.drop n) (ds.drop n)
  | 0, _, _, x => x
  | n + 1, [], _, x => by cases x; exact .nil
  | n + 1, d :: ds, _, x => by cases x with | cons p q => exact Rps.drop n q
theorem Rps.set {K : PySem.W.Frag} {mg : Str → Option Value} {S : Hp} {v : V} {d : D} (r : Rp K mg S v d) : ∀ (n : Nat) {ds : List D} {vs : List V}, Rps K mg S vs ds → Rps K mg S (vs.set n v) (ds.set n d)
  | _, [], _, x => by cases x; exact .nil
  | 0, _ :: ds, _, x => by cases x with | cons p q => exact .cons r q
  | n + 1, _ :: ds, _, x => by cases x with | cons p q => exact .cons p (Rps.set r n q)
theorem Rps.reverse {K : PySem.W.Frag} {mg : Str → Option Value} {S : Hp} : ∀ {ds : List D} {vs : List V}, Rps K mg S vs ds → Rps K mg S vs.reverse ds.reverse
  | [], _, x => by cases x; exact .nil
  | d :: ds, _, x => by cases x with | cons p q => simp only [List.reverse_cons]; exact Rps.append (Rps.reverse q) (.cons p .nil)
end Mc
end
section
set_option Elab.async false
set_option linter.all false
set_option maxRecDepth 100000
set_option maxHeartbeats 4000000
namespace Mc
open PySem PySem.Spec L2

/-! ### states and results -/
structure Pn where
  cells : List Int
  at_ : Int
  digits : Int
  count : Int
  fold : Int
/-- what a def may write: a pen, an object that is made -/
inductive Mo where
  | pen (p : Pn) | ob (c : Str) (fs : List (Str × D))
inductive Sl where
  | no | va (d : D) | ow (ds : List D) | pn (p : Mo)
abbrev ES := List Sl
inductive R where
  | va (d : D) | ow (ds : List D) | sl (i : Nat)
structure Ex where
  cls : Str
  fs : List (Str × D)
inductive Res (α : Type) where
  | ok (a : α) (ρ : ES) | er (x : Ex) (ρ : ES)
abbrev M (α : Type) := ES → Option (Res α)
def M.ret {α : Type} (a : α) : M α := fun ρ => some (.ok a ρ)
def M.lift {α : Type} (a : Option α) : M α := fun ρ => match a with | some x => some (.ok x ρ) | none => none
def M.bnd {α β : Type} (f : M α) (g : α → M β) : M β := fun ρ => match f ρ with
  | none => none
  | some (.ok a ρ') => g a ρ'
  | some (.er x ρ') => some (.er x ρ')

def penK (c : Addr) (p : Pn) : List (Key × V) := [(.inr "cells", .ref c), (.inr "at", .int p.at_), (.inr "digits", .int p.digits), (.inr "count", .int p.count), (.inr "fold", .int p.fold)]

set_option autoImplicit false
structure Bs where
  K : PySem.W.Frag
  mg : Str → Option Value
  H0 : Hp
  S0 : Hp
  B : Addr → Prop
  pa : Option (Addr × Addr)
  tb : Option (Addr × Str)

def MoAt (K : PySem.W.Frag) (mg : Str → Option Value) (a c : Addr) (m : Mo) (S H : Hp) : Prop := S a = none ∧ match m with
  | .pen p => H a = some (.dK (penK c p)) ∧ S c = some (.lst (p.cells.map V.int))
  | .ob cl fs => ∃ C fv, H a = some (.ins C c fv) ∧ mg cl = some (.ref C) ∧ Rpf K mg S fv fs
theorem MoAt.there {K : PySem.W.Frag} {mg : Str → Option Value} {a c : Addr} {m : Mo} {S H : Hp} (h : MoAt K mg a c m S H) : ∃ o, H a = some o := by
  cases m with
  | pen p => exact ⟨_, h.2.1⟩
  | ob cl fs => obtain ⟨_, C, fv, e, _⟩ := h; exact ⟨_, e⟩
theorem MoAt.mono {K : PySem.W.Frag} {mg : Str → Option Value} {a c : Addr} {m : Mo} {S S' H : Hp} (h : MoAt K mg a c m S H) (s : Hsub S S') (n : S' a = none) : MoAt K mg a c m S' H := by
  cases m with
  | pen p => exact ⟨n, h.2.1, s _ _ h.2.2⟩
  | ob cl fs => obtain ⟨_, C, fv, e, m, r⟩ := h; exact ⟨n, C, fv, e, m, Rpf.mono s _ _ r⟩
theorem MoAt.heap {K : PySem.W.Frag} {mg : Str → Option Value} {a c : Addr} {m : Mo} {S H H' : Hp} (h : MoAt K mg a c m S H) (k : ∀ o, H a = some o → H' a = some o) : MoAt K mg a c m S H' := by
  cases m with
  | pen p => exact ⟨h.1, k _ h.2.1, h.2.2⟩
  | ob cl fs => obtain ⟨n, C, fv, e, m, r⟩ := h; exact ⟨n, C, fv, k _ e, m, r⟩
theorem MoAt.nl {K : PySem.W.Frag} {mg : Str → Option Value} {a c : Addr} {m : Mo} {S H : Hp} {vs : List V} (h : MoAt K mg a c m S H) (e : H a = some (.lst vs)) : False := by
  cases m with
  | pen p => have := h.2.1; rw [e] at this; cases this
  | ob cl fs => obtain ⟨_, C, fv, e2, _⟩ := h; rw [e] at e2; cases e2
structure EqB (b' b : Bs) : Prop where
  K : b'.K = b.K
  mg : b'.mg = b.mg
  tb : b'.tb = b.tb
theorem EqB.refl (b : Bs) : EqB b b := ⟨rfl, rfl, rfl⟩
def SlOk (b : Bs) (S H : Hp) (o : Option (Option V)) : Sl → Prop
  | .no => True
  | .va d => ∃ v, o = some (some v) ∧ Rp b.K b.mg S v d
  | .ow ds => ∃ a vs, o = some (some (.ref a)) ∧ H a = some (.lst vs) ∧ S a = none ∧ Rps b.K b.mg S vs ds
  | .pn p => ∃ a c, o = some (some (.ref a)) ∧ MoAt b.K b.mg a c p S H ∧ b.pa = some (a, c)

def Sl.own : Sl → Bool
  | .ow _ => true
  | .pn _ => true
  | _ => false
def Own (ρ : ES) (σ : L2.St) (i : Nat) (a : Addr) : Prop := σ[i]? = some (some (.ref a)) ∧ ∃ s, ρ[i]? = some s ∧ s.own = true

/-- the table of code objects at P: each that it tells bears the name q, and is held stable -/
def TabG (S H : Hp) (P : Addr) (q : Str) : Prop := ∃ ps : Array Value, H P = some (.tbl ps) ∧ TriplesOk ps.toList ∧ ∀ (pos : Pos) (cv : Value), codeAmong pos ps.toList = some cv → ∃ c, cv = .ref c ∧ S c = some (LamX.CodeO c q)
structure Good (b : Bs) (σ : L2.St) (S H : Hp) (ρ : ES) : Prop where
  sub : Hsub S H
  len : ρ.length = σ.length
  sl : ∀ (i : Nat) (s : Sl), ρ[i]? = some s → SlOk b S H σ[i]? s
  dis : ∀ i j a, Own ρ σ i a → Own ρ σ j a → i = j
  k0 : ∀ a o, b.H0 a = some o → ¬ b.B a → H a = some o
  o0 : ∀ i a, Own ρ σ i a → b.H0 a = none ∨ b.B a
  s0 : Hsub b.S0 S
  n0 : ∀ a, S a ≠ none → b.S0 a ≠ none ∨ b.H0 a = none ∨ b.B a
  f0 : ∀ a, H a = none → b.H0 a = none
  tab : ∀ P q, b.tb = some (P, q) → TabG S H P q ∧ b.B P ∧ S P = none

theorem tabS_up {S S' H H' : Hp} {P : Addr} {q : Str} (t : TabG S H P q) (hs : Hsub S S') (k : ∀ a o, H a = some o → H' a = some o) : TabG S' H' P q := by
  obtain ⟨ps, h1, h2, h3⟩ := t
  refine ⟨ps, k _ _ h1, h2, fun pos cv hc => ?_⟩
  obtain ⟨c, e1, e2⟩ := h3 pos cv hc
  exact ⟨c, e1, hs _ _ e2⟩
theorem tabS_at {S H : Hp} {P : Addr} {q : Str} (t : TabG S H P q) : ∃ ps, H P = some (.tbl ps) := ⟨t.choose, t.choose_spec.1⟩
/-- a thing that is no table -/
def NoTab (o : HO) : Prop := ∀ ps, o ≠ .tbl ps
theorem noTab_lst {vs : List V} : NoTab (.lst vs) := fun _ z => (by cases z)
theorem noTab_dK {vs : List (Key × V)} : NoTab (.dK vs) := fun _ z => (by cases z)
theorem noTab_ins {C d : Addr} {vs : List (Str × V)} : NoTab (.ins C d vs) := fun _ z => (by cases z)
/-- written at one place, where no table is -/
theorem tabS_write {S S' H H' : Hp} {P p : Addr} {q : Str} {o : HO} (t : TabG S H P q) (hs : Hsub S S') (e : H p = some o) (n : NoTab o) (k : ∀ a u, H a = some u → a ≠ p → H' a = some u) : TabG S' H' P q := by
  obtain ⟨ps, h1, h2, h3⟩ := t
  refine ⟨ps, k _ _ h1 fun z => ?_, h2, fun pos cv hc => ?_⟩
  · subst z
    rw [e] at h1
    cases h1
    exact n _ rfl
  · obtain ⟨c, e1, e2⟩ := h3 pos cv hc
    exact ⟨c, e1, hs _ _ e2⟩
theorem tab_ne {S H : Hp} {P p : Addr} {q : Str} {o : HO} (t : TabG S H P q) (e : H p = some o) (n : NoTab o) : P ≠ p := fun z => by
  obtain ⟨ps, h⟩ := tabS_at t
  rw [z, e] at h
  cases h
  exact n _ rfl

def RR (b : Bs) (σ : L2.St) (S H : Hp) (ρ : ES) (v : V) : R → Prop
  | .va d => Rp b.K b.mg S v d
  | .ow ds => ∃ a vs, v = .ref a ∧ H a = some (.lst vs) ∧ S a = none ∧ Rps b.K b.mg S vs ds ∧ (∀ i, ¬ Own ρ σ i a) ∧ (b.H0 a = none ∨ b.B a)
  | .sl i => σ[i]? = some (some v)

def XR (K : PySem.W.Frag) (mg : Str → Option Value) (N : Addr → Prop) (S H : Hp) (cls : Value) (d : Option Addr) (x : Ex) : Prop :=
  ∃ C dx fv, cls = .ref C ∧ mg x.cls = some (.ref C) ∧ d = some dx ∧ H dx = some (.xd fv) ∧ Rpf K mg S fv x.fs ∧ N dx
theorem XR.imp {K : PySem.W.Frag} {mg : Str → Option Value} {N N' : Addr → Prop} {S H : Hp} {cls : Value} {d : Option Addr} {x : Ex} (h : XR K mg N S H cls d x) (k : ∀ a, N a → N' a) : XR K mg N' S H cls d x := by
  obtain ⟨C, dx, fv, h1, h2, h3, h4, h5, h6⟩ := h
  exact ⟨C, dx, fv, h1, h2, h3, h4, h5, k dx h6⟩
abbrev ExR (b : Bs) (S H : Hp) (cls : Value) (d : Option Addr) (x : Ex) : Prop := XR b.K b.mg (fun a => b.H0 a = none) S H cls d x

/-- the weakest precondition of a pure computation at a fixed frame -/
def WpO {α : Type} (b : Bs) (W : WX) (σ : L2.St) (o : Option (Res α)) (S : Hp) (P : Hp → Hp → ES → α → Prop) : Prop :=
  match o with
  | none => False
  | some (.ok a ρ') => ∀ S' H', Hsub S S' → Good b σ S' H' ρ' → P S' H' ρ' a
  | some (.er x ρ') => ∀ S' H' cls d, Hsub S S' → Good b σ S' H' ρ' → ExR b S' H' cls d x → W cls d σ H'
abbrev Wp {α : Type} (b : Bs) (W : WX) (σ : L2.St) (f : M α) (S H : Hp) (ρ : ES) (P : Hp → Hp → ES → α → Prop) : Prop := WpO b W σ (f ρ) S P

section
variable {α β : Type} {b : Bs} {W : WX} {σ : L2.St} {S S1 H : Hp} {ρ : ES}
theorem Wp.mono {f : M α} {P P' : Hp → Hp → ES → α → Prop} (h : Wp b W σ f S H ρ P) (k : ∀ S' H' ρ' a, Hsub S S' → Good b σ S' H' ρ' → P S' H' ρ' a → P' S' H' ρ' a) : Wp b W σ f S H ρ P' := by
  unfold Wp WpO at h ⊢
  split at h
  · exact h.elim
  · exact fun S' H' s g => k _ _ _ _ s g (h S' H' s g)
  · exact h
theorem WpO.sub {S' : Hp} {o : Option (Res α)} {P : Hp → Hp → ES → α → Prop} (h : WpO b W σ o S P) (s : Hsub S S') : WpO b W σ o S' P := by
  unfold WpO at h ⊢
  split at h
  · exact h
  · exact fun S2 H2 s2 => h S2 H2 (s.trans s2)
  · exact fun S2 H2 c d s2 => h S2 H2 c d (s.trans s2)
theorem Wp.bind {f : M α} {g : α → M β} {P : Hp → Hp → ES → β → Prop} (h : Wp b W σ (M.bnd f g) S H ρ P) :
    Wp b W σ f S H ρ fun S' H' ρ' a => Wp b W σ (g a) S' H' ρ' P := by
  unfold Wp M.bnd at h
  unfold Wp
  cases e : f ρ with
  | none => rw [e] at h; exact h
  | some r =>
    rw [e] at h
    cases r with
    | er x ρ' => exact h
    | ok a ρ' =>
      intro S' H' s G
      exact WpO.sub (show WpO b W σ (g a ρ') S P from h) s
theorem wp_step {f : M α} {P : Hp → Hp → ES → α → Prop} {o : Option (Res α)} (h : f ρ = o) (w : Wp b W σ f S H ρ P) : WpO b W σ o S P := h ▸ w
theorem wp_none {f : M α} {P : Hp → Hp → ES → α → Prop} {Z : Prop} (h : f ρ = none) (w : Wp b W σ f S H ρ P) : Z := False.elim (wp_step h w)
theorem wp_ok {f : M α} {P : Hp → Hp → ES → α → Prop} {a : α} {ρ' : ES} (h : f ρ = some (.ok a ρ')) (w : Wp b W σ f S H ρ P) {S' H' : Hp} (s : Hsub S S') (G : Good b σ S' H' ρ') : P S' H' ρ' a := wp_step h w S' H' s G
theorem wp_is {f g : M α} {P : Hp → Hp → ES → α → Prop} (h : f ρ = g ρ) (w : Wp b W σ f S H ρ P) : Wp b W σ g S H ρ P := by
  unfold Wp at w ⊢
  rw [← h]
  exact w
theorem Wp.ret {a : α} {P : Hp → Hp → ES → α → Prop} (h : Wp b W σ (M.ret a) S H ρ P) (G : Good b σ S H ρ) : P S H ρ a := h S H (Hsub.refl S) G
theorem Wp.at' {f : M α} {P : Hp → Hp → ES → α → Prop} (h : Wp b W σ f S H ρ P) {a : α} {ρ' : ES} (e : f ρ = some (.ok a ρ')) {S' H' : Hp} (s : Hsub S S') (G : Good b σ S' H' ρ') : P S' H' ρ' a := by
  exact wp_ok e h s G
end

/-! ### readings: the base is chosen where they are used -/
def rE (b0 : Bs) (W : WX) (f : M R) : TE := fun σ H Q => ∃ b S ρ, EqB b b0 ∧ Good b σ S H ρ ∧ Wp b W σ f S H ρ fun S' H' ρ' r => ∀ v, RR b σ S' H' ρ' v r → Q v H'
theorem PE.weak {X : Cx} {e : Expr} {t t' : TE} (h : PE X e t) (k : ∀ σ H Q, t' σ H Q → t σ H Q) : PE X e t' := ⟨fun pins s σ H Q I hw => h.run pins s σ H Q I (k σ H Q hw)⟩
theorem PT.weak {X : Cx} {e : Expr} {t t' : TT} (h : PT X e t) (k : ∀ σ H Q, t' σ H Q → t σ H Q) : PT X e t' := ⟨fun pins s σ H Q I hw => h.run pins s σ H Q I (k σ H Q hw)⟩
theorem PA.weak {X : Cx} {e : List Expr} {t t' : TA} (h : PA X e t) (k : ∀ σ H Q, t' σ H Q → t σ H Q) : PA X e t' := ⟨fun pos pins s σ H Q I hw => h.run pos pins s σ H Q I (k σ H Q hw)⟩
theorem PS.weak {X : Cx} {e : Stmt} {t t' : TS} (h : PS X e t) (k : ∀ D σ H, t' D σ H → t D σ H) : PS X e t' := ⟨fun pins s σ H D I hw => h.run pins s σ H D I (k D σ H hw)⟩
theorem PSs.weak {X : Cx} {e : List Stmt} {t t' : TS} (h : PSs X e t) (k : ∀ D σ H, t' D σ H → t D σ H) : PSs X e t' := ⟨fun pins s σ H D I hw => h.run pins s σ H D I (k D σ H hw)⟩

/-! ### the state's laws -/
section
variable {b : Bs} {σ : L2.St} {S H : Hp} {ρ : ES} {p : Addr} {o : HO}
theorem Good.sn (G : Good b σ S H ρ) {a : Addr} (h : H a = none) : S a = none := by
  cases e : S a with
  | none => rfl
  | some o => rw [G.sub _ _ e] at h; cases h
theorem SlOk.mono {S' : Hp} {x : Option (Option V)} {s : Sl} (h : SlOk b S H x s) (k : Hsub S S') (n : ∀ a, x = some (some (.ref a)) → s.own = true → S' a = none) : SlOk b S' H x s := by
  cases s with
  | no => trivial
  | va d => obtain ⟨v, e, r⟩ := h; exact ⟨v, e, Rp.mono k _ _ r⟩
  | ow ds => obtain ⟨a, vs, e, r1, r2, r3⟩ := h; exact ⟨a, vs, e, r1, n a e rfl, Rps.mono k _ _ r3⟩
  | pn p => obtain ⟨a, c, e, r1, r4⟩ := h; exact ⟨a, c, e, r1.mono k (n a e rfl), r4⟩
theorem SlOk.heap {H' : Hp} {x : Option (Option V)} {s : Sl} (h : SlOk b S H x s) (n : ∀ a o, x = some (some (.ref a)) → s.own = true → H a = some o → H' a = some o) : SlOk b S H' x s := by
  cases s with
  | no => trivial
  | va d => exact h
  | ow ds => obtain ⟨a, vs, e, r1, r2, r3⟩ := h; exact ⟨a, vs, e, n a _ e rfl r1, r2, r3⟩
  | pn p => obtain ⟨a, c, e, r1, r4⟩ := h; exact ⟨a, c, e, r1.heap fun o ho => n a o e rfl ho, r4⟩
theorem Good.ownat (G : Good b σ S H ρ) {i : Nat} {a : Addr} (h : Own ρ σ i a) : (∃ o, H a = some o) ∧ S a = none := by
  obtain ⟨e, s, hs, ho⟩ := h
  have k := G.sl i s hs
  cases s with
  | no => cases ho
  | va d => cases ho
  | ow ds =>
    obtain ⟨a', vs, e', r1, r2, r3⟩ := k
    rw [e] at e'; cases e'
    exact ⟨⟨_, r1⟩, r2⟩
  | pn p =>
    obtain ⟨a', c, e', r1, r2⟩ := k
    rw [e] at e'; cases e'
    exact ⟨r1.there, r1.1⟩
/-- a new object, not (yet) stable -/
theorem Good.newH (G : Good b σ S H ρ) (hp : H p = none) : Good b σ S (upd H p o) ρ where
  sub := fun a u e => by
    rw [upd_ne (ne_of_none (G.sub _ _ e) hp)]
    exact G.sub _ _ e
  len := G.len
  sl := fun i s e => (G.sl i s e).heap fun a u _ _ ha => by
    rw [upd_ne (ne_of_none ha hp)]
    exact ha
  dis := G.dis
  k0 := fun a u e n => by
    rw [upd_ne (ne_of_none (G.k0 a u e n) hp)]
    exact G.k0 a u e n
  o0 := G.o0
  s0 := G.s0
  n0 := G.n0
  f0 := fun a e => G.f0 a (by
    by_cases h : a = p
    · subst h; exact hp
    · rw [upd_ne h] at e; exact e)
  tab := fun P q e => by
    obtain ⟨t, hB, hS⟩ := G.tab P q e
    exact ⟨tabS_up t (Hsub.refl _) fun a u ha => by rw [upd_ne (ne_of_none ha hp)]; exact ha, hB, hS⟩
/-- an object is held stable from now on -/
theorem Good.hold (G : Good b σ S H ρ) (hp : H p = some o) (hn : ∀ i, ¬ Own ρ σ i p) (hs : S p = none) (h0 : b.H0 p = none ∨ b.B p) (nt : ∀ ps, o ≠ .tbl ps) : Good b σ (upd S p o) H ρ where
  sub := fun a u e => by
    by_cases h : a = p
    · subst h; rw [upd_same] at e; cases e; exact hp
    · rw [upd_ne h] at e; exact G.sub _ _ e
  len := G.len
  sl := fun i s e => (G.sl i s e).mono (Hsub.new hs) fun a ha ho => by
    have w : Own ρ σ i a := ⟨ha, s, e, ho⟩
    by_cases h : a = p
    · subst h; exact (hn i w).elim
    · rw [upd_ne h]; exact (G.ownat w).2
  dis := G.dis
  k0 := G.k0
  o0 := G.o0
  s0 := G.s0.trans (Hsub.new hs)
  n0 := fun a e => by
    by_cases h : a = p
    · subst h; exact Or.inr h0
    · rw [upd_ne h] at e; exact G.n0 a e
  f0 := G.f0
  tab := fun P q e => by
    obtain ⟨t, hB, hS⟩ := G.tab P q e
    refine ⟨tabS_up t (Hsub.new hs) fun _ _ h => h, hB, ?_⟩
    obtain ⟨ps, hP⟩ := tabS_at t
    rw [upd_ne (fun z => by rw [z, hp] at hP; cases hP; exact nt _ rfl)]
    exact hS
/-- a new stable object -/
theorem Good.new (G : Good b σ S H ρ) (hp : H p = none) (nt : ∀ ps, o ≠ .tbl ps := by intro _ z; cases z) : Good b σ (upd S p o) (upd H p o) ρ :=
  (G.newH hp).hold upd_same (fun i w => by
    obtain ⟨⟨u, e⟩, _⟩ := G.ownat w
    rw [hp] at e; cases e) (G.sn hp) (Or.inl (G.f0 _ hp)) nt
end

/-! ### the base taken anew -/
def re (b : Bs) (σ : L2.St) (S H : Hp) (ρ : ES) : Bs := ⟨b.K, b.mg, H, S, fun a => (∃ i, Own ρ σ i a) ∨ ∃ q, b.tb = some (a, q), b.pa, b.tb⟩
section
variable {b : Bs} {σ σ' : L2.St} {S H S' H' : Hp} {ρ ρ' : ES}
theorem SlOk.re {b' : Bs} {x : Option (Option V)} {s : Sl} (e : EqB b' b) (ep : b'.pa = b.pa) (h : SlOk b S H x s) : SlOk b' S H x s := by
  obtain ⟨eK, em, _⟩ := e
  cases s with
  | no => trivial
  | va d => obtain ⟨v, q, r⟩ := h; exact ⟨v, q, by rw [eK, em]; exact r⟩
  | ow ds => obtain ⟨a, vs, q, r1, r2, r3⟩ := h; exact ⟨a, vs, q, r1, r2, by rw [eK, em]; exact r3⟩
  | pn p => obtain ⟨a, c, q, r1, r4⟩ := h; exact ⟨a, c, q, by rw [eK, em]; exact r1, ep.trans r4⟩
theorem Good.re (G : Good b σ S H ρ) : Good (re b σ S H ρ) σ S H ρ :=
  ⟨G.sub, G.len, fun i s e => (G.sl i s e).re ⟨rfl, rfl, rfl⟩ rfl, G.dis, fun a o e _ => e, fun i a w => Or.inr (Or.inl ⟨i, w⟩), Hsub.refl _, fun a e => Or.inl e, fun a e => e, fun P q e => ⟨(G.tab P q e).1, Or.inr ⟨q, e⟩, (G.tab P q e).2.2⟩⟩
theorem Good.tr (G : Good b σ S H ρ) (G' : Good (Mc.re b σ S H ρ) σ' S' H' ρ') : Good b σ' S' H' ρ' where
  sub := G'.sub
  len := G'.len
  sl := fun i s e => (G'.sl i s e).re ⟨rfl, rfl, rfl⟩ rfl
  dis := G'.dis
  k0 := fun a o e n => G'.k0 a o (G.k0 a o e n) fun z => by
    rcases z with ⟨i, w⟩ | ⟨q, w⟩
    · rcases G.o0 i a w with z | z
      · rw [e] at z; cases z
      · exact n z
    · exact n (G.tab a q w).2.1
  o0 := fun i a w => by
    rcases G'.o0 i a w with z | ⟨j, z⟩ | ⟨q, z⟩
    · exact Or.inl (G.f0 a z)
    · exact G.o0 j a z
    · exact Or.inr (G.tab a q z).2.1
  s0 := G.s0.trans G'.s0
  n0 := fun a e => by
    rcases G'.n0 a e with z | z | ⟨j, z⟩ | ⟨q, z⟩
    · exact G.n0 a z
    · exact Or.inr (Or.inl (G.f0 a z))
    · exact Or.inr (G.o0 j a z)
    · exact Or.inr (Or.inr (G.tab a q z).2.1)
  f0 := fun a e => G.f0 a (G'.f0 a e)
  tab := fun P q e => ⟨(G'.tab P q e).1, (G.tab P q e).2.1, (G'.tab P q e).2.2⟩
theorem RR.re {v : V} {r : R} (G : Good b σ S H ρ) (h : RR (Mc.re b σ S H ρ) σ' S' H' ρ' v r) : RR b σ' S' H' ρ' v r := by
  cases r with
  | va d => exact h
  | sl i => exact h
  | ow ds => obtain ⟨a, vs, e, r1, r2, r3, r4, r5⟩ := h; exact ⟨a, vs, e, r1, r2, r3, r4, r5.elim (fun z => Or.inl (G.f0 a z)) fun z => z.elim (fun ⟨i, w⟩ => G.o0 i a w) fun ⟨q, w⟩ => Or.inr (G.tab a q w).2.1⟩
end

/-! ### an operand: a new list is held stable -/
def R.frz : R → R
  | .ow ds => .va (.lst ds)
  | r => r
def frzM (f : M R) : M R := M.bnd f fun r => M.ret r.frz
def RF (b : Bs) (σ : L2.St) (S : Hp) (v : V) : R → Prop
  | .va d => Rp b.K b.mg S v d
  | .ow ds => False
  | .sl i => σ[i]? = some (some v)
theorem RF.mono {b : Bs} {σ : L2.St} {S S' : Hp} {v : V} {r : R} (h : RF b σ S v r) (k : Hsub S S') : RF b σ S' v r := by
  cases r with
  | va d => exact Rp.mono k _ _ h
  | ow ds => exact h
  | sl i => exact h
theorem Wp.frz {β : Type} {b : Bs} {W : WX} {σ : L2.St} {f : M R} {g : R → M β} {S H : Hp} {ρ : ES} {P : Hp → Hp → ES → β → Prop} (h : Wp b W σ (M.bnd (frzM f) g) S H ρ P) {K : VK}
    (k : ∀ S' H' ρ' r v, Hsub S S' → Good b σ S' H' ρ' → RF b σ S' v r → Wp b W σ (g r) S' H' ρ' P → K v H') :
    Wp b W σ f S H ρ fun S' H' ρ' r => ∀ v, RR b σ S' H' ρ' v r → K v H' := by
  have h1 := (Wp.bind h)
  have h2 := (Wp.bind (f := f) (g := fun r => M.ret r.frz) h1)
  refine Wp.mono h2 fun S' H' ρ' r s G q v hv => ?_
  cases r with
  | va d => exact k S' H' ρ' (.va d) v s G hv (q S' H' (Hsub.refl _) G)
  | sl i => exact k S' H' ρ' (.sl i) v s G hv (q S' H' (Hsub.refl _) G)
  | ow ds =>
    obtain ⟨a, vs, rfl, hH, hS, hr, hn, h0⟩ := hv
    have G' := G.hold hH hn hS h0 (fun _ z => by cases z)
    have sb : Hsub S' (upd S' a (.lst vs)) := Hsub.new hS
    refine k (upd S' a (.lst vs)) H' ρ' (.va (.lst ds)) (.ref a) (s.trans sb) G' ?_ (q _ H' sb G')
    exact .lst upd_same (Rps.mono sb _ _ hr)
theorem Wp.frz0 {b : Bs} {W : WX} {σ : L2.St} {f : M R} {S H : Hp} {ρ : ES} {P : Hp → Hp → ES → R → Prop} (h : Wp b W σ (frzM f) S H ρ P) {K : VK}
    (k : ∀ S' H' ρ' r v, Hsub S S' → Good b σ S' H' ρ' → RF b σ S' v r → P S' H' ρ' r → K v H') :
    Wp b W σ f S H ρ fun S' H' ρ' r => ∀ v, RR b σ S' H' ρ' v r → K v H' := by
  have h2 := (Wp.bind (f := f) (g := fun r => M.ret r.frz) h)
  refine Wp.mono h2 fun S' H' ρ' r s G q v hv => ?_
  cases r with
  | va d => exact k S' H' ρ' (.va d) v s G hv (q S' H' (Hsub.refl _) G)
  | sl i => exact k S' H' ρ' (.sl i) v s G hv (q S' H' (Hsub.refl _) G)
  | ow ds =>
    obtain ⟨a, vs, rfl, hH, hS, hr, hn, h0⟩ := hv
    have G' := G.hold hH hn hS h0 (fun _ z => by cases z)
    have sb : Hsub S' (upd S' a (.lst vs)) := Hsub.new hS
    refine k (upd S' a (.lst vs)) H' ρ' (.va (.lst ds)) (.ref a) (s.trans sb) G' ?_ (q _ H' sb G')
    exact .lst upd_same (Rps.mono sb _ _ hr)
def rdD (ρ : ES) : R → Option D
  | .va d => some d
  | .ow ds => some (.lst ds)
  | .sl i => match ρ[i]? with
    | some (.ow ds) => some (.lst ds)
    | some (.va d) => some d
    | _ => none
/-- the heap that a reader sees: the stable part and the lists of the frame -/
theorem RF.rd {b : Bs} {σ : L2.St} {S H : Hp} {ρ : ES} {v : V} {r : R} {d : D} (G : Good b σ S H ρ) (h : RF b σ S v r) (e : rdD ρ r = some d) : Rp b.K b.mg H v d := by
  cases r with
  | va d' => cases e; exact Rp.mono G.sub _ _ h
  | ow ds => exact h.elim
  | sl i =>
    unfold rdD at e
    simp only at e
    split at e
    · rename_i ds hi
      cases e
      obtain ⟨a, vs, e1, r1, r2, r3⟩ := G.sl i _ hi
      have hv : σ[i]? = some (some v) := h
      rw [hv] at e1
      cases e1
      exact .lst r1 (Rps.mono G.sub _ _ r3)
    · rename_i d' hi
      cases e
      obtain ⟨v', e1, r1⟩ := G.sl i _ hi
      have hv : σ[i]? = some (some v) := h
      rw [hv] at e1
      cases e1
      exact Rp.mono G.sub _ _ r1
    · cases e

/-! ### new tuples: the object is known -/
def TupO (o : Obj) : Prop := o.cls = .type "tuple" ∧ o.dict = none
def NewT (H : Hp) (Q : VK) (xs : List V) : Prop := ∀ p o, H p = none → TupO o → Q (.ref p) (upd H p (.frz o (.tup xs)))
section
variable {X : Cx} {pins : List (Addr × Obj)} {σ : L2.St} {H : Hp} {s : Shared}
theorem NewT.use {Q : VK} {xs : List V} {its : List Value} (q : NewT H Q xs) (I : Inv X pins σ H s) (r : Vals xs its) (hz : xs.length ≤ sizeLine) : EP X pins σ Q (.ref s.heap.objs.size) { s with heap := s.heap.push { cls := .type "tuple", data := .seq its.toArray } } :=
  ⟨.ref _, _, I.laid (t' := s.toks) (o := .frz { cls := .type "tuple", data := .seq its.toArray } (.tup xs)) (fun _ _ e => Heap.get?_push_of_some _ e) (Nat.le_refl _) ⟨Heap.get?_push_size _ rfl, hz, its, r, ⟨_, Heap.get?_push_size _ rfl, rfl, _, rfl⟩⟩, rfl, q _ _ (I.hok.fresh (Nat.le_refl _)) ⟨rfl, rfl⟩⟩
def tTupX (t : TA) : TE := fun σ H Q => t σ H fun xs H1 => xs.length ≤ sizeLine ∧ NewT H1 Q xs
theorem pe_tupX {es : List Expr} {k : Nat} {t : TA} {pos : Pos} (h : PA X es t) : PE X (.Tuple es k pos) (tTupX t) := by
  refine ⟨fun pins s σ H Q I hq => wpAny_Tuple_spliced (thn (h.run pos pins s σ H _ I hq) fun us s1 ⟨xs, H1, I1, r, z, q⟩ => ⟨by rw [← r.length]; exact z, ?_⟩)⟩
  obtain ⟨v, H2, I2, rv, q2⟩ := q.use I1 r z
  exact ⟨v, H2, I2, rv, q2⟩
def rCatX (K : PySem.W.Frag) : R2 := fun x y H Q => ∃ a b xs ys, x = .ref a ∧ y = .ref b ∧ SqT K H a xs ∧ SqT K H b ys ∧ xs.length + ys.length ≤ sizeLine ∧
  (xs = [] → Q (.ref b) H) ∧ (xs ≠ [] → ys = [] → Q (.ref a) H) ∧ (xs ≠ [] → ys ≠ [] → NewT H Q (xs ++ ys))
theorem nil_of {xs : List V} {us : List Value} (r : Vals xs us) : us = [] ↔ xs = [] := by
  cases r <;> simp
theorem op_catX : OpR X (binaryOp .Add) (rCatX X.K) := by
  intro pins s σ H x y v u Q I rx ry ⟨a, b, xs, ys, ex, ey, ha, hb, hz, q0, q1, q2⟩
  subst ex ey
  cases rx
  cases ry
  obtain ⟨its, r1, p1, _⟩ := I.tuple ha
  obtain ⟨its2, r2, p2, _⟩ := I.tuple hb
  by_cases hx : xs = []
  · have e := (nil_of r1).mpr hx
    subst e
    exact L2.cat_tup0 p1 p2 ⟨.ref b, H, I, rfl, q0 hx⟩
  · exact HT.cat_tup p1 p2 (fun z => hx ((nil_of r1).mp z)) (fun z => ⟨.ref a, H, I, rfl, q1 hx ((nil_of r2).mp z)⟩) (fun z => (q2 hx fun w => z ((nil_of r2).mpr w)).use I (r1.append r2) (by rw [List.length_append]; exact hz)) (by rw [← r1.length, ← r2.length]; exact hz)
def rRepX (K : PySem.W.Frag) : R2 := fun x y H Q => ∃ l k xs, x = .ref l ∧ y = .int k ∧ SqT K H l xs ∧ xs ≠ [] ∧ 2 ≤ k ∧ k ≤ 1000 ∧ xs.length ≤ 1000 ∧ NewT H Q (List.replicate k.toNat xs).flatten
theorem op_repX : OpR X (binaryOp .Mult) (rRepX X.K) := by
  intro pins s σ H x y v u Q I rx ry ⟨l, k, xs, ex, ey, hT, hne, h1, h2, hz, q⟩
  subst ex ey
  cases rx
  obtain ⟨t, rfl⟩ := ry
  obtain ⟨its, r, ⟨⟨cls, dd, data, sl⟩, ho, hc, n, hd⟩, hs⟩ := I.tuple hT
  simp only at hc hd
  subst hc hd
  have hle : its.length = xs.length := r.length.symm
  have hi : its.toArray.isEmpty = false := by
    cases its with
    | nil => exact absurd ((nil_of r).mp rfl) hne
    | cons a b => rfl
  have hm : ((its.toArray.size : Nat) : Int) * k ≤ 1000000 := by
    rw [List.size_toArray, hle]
    have a1 : ((xs.length : Nat) : Int) * k ≤ 1000 * k := Int.mul_le_mul_of_nonneg_right (by omega) (by omega)
    omega
  have a2 : k.toNat * xs.length ≤ 1000 * 1000 := Nat.mul_le_mul (by omega) hz
  have c0 : (decide (k < -(2 ^ 63)) || decide (k ≥ 2 ^ 63)) = false := Bool.or_eq_false_iff.mpr ⟨decide_eq_false (by omega), decide_eq_false (by omega)⟩
  have c1 : (its.toArray.isEmpty || k == 1) = false := Bool.or_eq_false_iff.mpr ⟨hi, beq_eq_false_iff_ne.mpr (by omega)⟩
  have c2 : (decide (k ≤ 0) || its.toArray.isEmpty) = false := Bool.or_eq_false_iff.mpr ⟨decide_eq_false (by omega), hi⟩
  have c4 : Builtin.Tuple.tupleTooMany (((its.toArray.size : Nat) : Int) * k) = false := by
    unfold Builtin.Tuple.tupleTooMany
    rw [sizeLine_eq]
    exact decide_eq_false (by omega)
  refine wpAny_binaryOp_repeat_ref (T := "tuple") (U := "int") (by decide) ⟨_, ho, rfl⟩ (fun s' => typeIs_int s' k t) noFill_tuple_mul PySem.F.fills_int_mul PySem.F.slot_int_rmul repeat_tuple PySem.F.slot_int_index.lookup
    (call_meets PySem.F.slot_int_rmul (typeIs_int s k t) PySem.F.entry_int_rmul (PySem.F.args_int_rmul_2 _ _) (int_rmul_tuple k t l its.toArray n dd sl)
      ⟨ho, rfl, ⟨_, ho, rfl⟩, call_meets PySem.F.slot_tuple_mul ⟨_, ho, rfl⟩ PySem.F.entry_tuple_mul (PySem.F.args_tuple_mul_2 _ _) (tuple_mulW l its.toArray n dd sl k t c0 c1 c2 (by omega) c4 (by rw [size_rep, List.size_toArray, PyProof.Rows.lm_len_rep_flat, hle, sizeLine_eq]; omega)) ⟨ho, ?_⟩⟩)
  rw [size_rep]
  exact q.use I (r.rep k.toNat) (by rw [PyProof.Rows.lm_len_rep_flat, sizeLine_eq]; omega)
def rTupX (K : PySem.W.Frag) : List V → Hp → VK → Prop := fun xs H Q => ∃ p ys, xs = [.ref p] ∧ ((SqL K H p ys ∧ NewT H Q ys) ∨ (SqT K H p ys ∧ Q (.ref p) H))
theorem call_tupX : CallR X (.type "tuple") (rTupX X.K) := by
  intro pins s σ H xs us Q I r ⟨p, ys, ex, h⟩
  subst ex
  obtain ⟨u, rfl, rx⟩ := vals1 r
  cases rx
  rcases h with ⟨hq, q⟩ | ⟨hq, q⟩
  · obtain ⟨its, r', pl, hz⟩ := I.list hq
    have hlen := r'.length
    exact call_tuple_list pl.isList (fun h' kp => q.use (I.kept (t' := s.toks) kp) r' hz) (by simp only [List.size_toArray] <;> omega)
  · obtain ⟨its, r', pl, hz⟩ := I.tuple hq
    exact call_tuple_same pl ⟨.ref p, H, I, rfl, q⟩
def rSlX (K : PySem.W.Frag) : V → Option Int → Option Int → Hp → VK → Prop := fun x lo hi H Q => ∃ a xs, x = .ref a ∧ SqT K H a xs ∧
  (HT.sIx xs.length 0 lo = 0 ∧ HT.sIx xs.length xs.length hi = xs.length → Q (.ref a) H) ∧ (¬ (HT.sIx xs.length 0 lo = 0 ∧ HT.sIx xs.length xs.length hi = xs.length) → NewT H Q (cutV xs lo hi))
theorem sl_tupX : SlR X (rSlX X.K) := by
  intro pins s σ H x v vl vu lo hi sl Q I rx hs pl pu ⟨a, xs, ex, hx, q1, q2⟩
  subst ex
  cases rx
  obtain ⟨its, r, ht, hz⟩ := I.tuple hx
  have hlen : its.toArray.size = xs.length := by rw [List.size_toArray]; exact r.length.symm
  refine ⟨"tuple", _, PyProof.Rows.slot_tuple_getitem.lookup, ht.typeIs, ?_⟩
  by_cases hw : HT.sIx xs.length 0 lo = 0 ∧ HT.sIx xs.length xs.length hi = xs.length
  · exact L2.getItem_tuple_whole ht hs pl pu (by rw [hlen]; exact hw) ⟨.ref a, H, I, rfl, q1 hw⟩
  · refine HT.getItem_tuple_cut ht hs pl pu (by rw [hlen]; exact hw) ?_ (by rw [hlen]; exact hz)
    rw [hlen]
    exact (q2 hw).use I ((r.drop (HT.sIx xs.length 0 lo)).take (HT.sIx xs.length xs.length hi - HT.sIx xs.length 0 lo)) (Nat.le_trans (cutV_length xs lo hi) hz)
end
end Mc
end
section
set_option Elab.async false
set_option linter.all false
set_option maxRecDepth 100000
set_option maxHeartbeats 4000000
set_option autoImplicit false
namespace Mc
open PySem PySem.Spec L2

structure OKx (b : Bs) (L : Nat) (X : Cx) : Prop where
  K : X.K = b.K
  mg : X.mg = b.mg
  calm : X.calm = true
  nd : X.N.Nodup
  rm : Room L X.A
theorem OKx.un {b : Bs} {L : Nat} {X : Cx} (o : OKx b L X) : X.A.units + 128 < cLine := by have := o.rm.un; omega

/-- what a reader sees -/
def RV (b : Bs) (S H : Hp) (v : V) : D → Prop
  | .lst ds => ∃ a vs, v = .ref a ∧ H a = some (.lst vs) ∧ Rps b.K b.mg S vs ds
  | .non => v = .non
  | .bl c => v = .bl c
  | .int i => v = .int i
  | .str s => v = .str s
  | .tup ds => ∃ a vs, v = .ref a ∧ SqX b.K S a vs ∧ Rps b.K b.mg S vs ds
  | .ob c fs => Rp b.K b.mg S v (.ob c fs)
  | .dic kvs => Rp b.K b.mg S v (.dic kvs)
  | .fn x => Rp b.K b.mg S v (.fn x)
  | .lam t cl => Rp b.K b.mg S v (.lam t cl)
  | .act t ds => Rp b.K b.mg S v (.act t ds)
theorem RV.of {b : Bs} {S H : Hp} {v : V} {d : D} (h : Rp b.K b.mg S v d) (s : Hsub S H) : RV b S H v d := by
  cases h with
  | non => rfl
  | bl c => rfl
  | int i => rfl
  | str x => rfl
  | tup p q => exact ⟨_, _, rfl, p, q⟩
  | lst p q => exact ⟨_, _, rfl, s _ _ p, q⟩
  | ob p m q => exact .ob p m q
  | fn m => exact .fn m
  | lam p q => exact .lam p q
  | act p q c r => exact .act p q c r
theorem RV.rp {b : Bs} {S H : Hp} {v : V} {d : D} (h : RV b S H v d) (s : Hsub S H) : Rp b.K b.mg H v d := by
  cases d with
  | lst ds => obtain ⟨a, vs, rfl, p, q⟩ := h; exact .lst p (Rps.mono s _ _ q)
  | non => cases h; exact .non
  | bl c => cases h; exact .bl c
  | int i => cases h; exact .int i
  | str x => cases h; exact .str x
  | tup ds => obtain ⟨a, vs, rfl, p, q⟩ := h; exact .tup (sqx_mono s p) (Rps.mono s _ _ q)
  | ob c fs => exact Rp.mono s _ _ h
  | dic k => exact Rp.mono s _ _ h
  | fn x => exact Rp.mono s _ _ h
  | lam t cl => exact Rp.mono s _ _ h
  | act t ds => exact Rp.mono s _ _ h
theorem RF.rv {b : Bs} {σ : L2.St} {S H : Hp} {ρ : ES} {v : V} {r : R} {d : D} (G : Good b σ S H ρ) (h : RF b σ S v r) (e : rdD ρ r = some d) : RV b S H v d := by
  cases r with
  | va d' => cases e; exact RV.of h G.sub
  | ow ds => exact h.elim
  | sl i =>
    unfold rdD at e
    simp only at e
    split at e
    · rename_i ds hi
      cases e
      obtain ⟨a, vs, e1, r1, r2, r3⟩ := G.sl i _ hi
      have hv : σ[i]? = some (some v) := h
      rw [hv] at e1
      cases e1
      exact ⟨_, _, rfl, r1, r3⟩
    · rename_i d' hi
      cases e
      obtain ⟨v', e1, r1⟩ := G.sl i _ hi
      have hv : σ[i]? = some (some v) := h
      rw [hv] at e1
      cases e1
      exact RV.of r1 G.sub
    · cases e

section
variable {b : Bs} {W : WX} {L : Nat} {X : Cx} {pos : Pos} {e1 e2 : Expr} {fa fb : M R}

/-! ### names, constants -/
def evVar (i : Nat) : M R := fun ρ => match ρ[i]? with
  | some (.va d) => some (.ok (.va d) ρ)
  | some (.ow _) => some (.ok (.sl i) ρ)
  | some (.pn _) => some (.ok (.sl i) ρ)
  | _ => none
def evC (d : D) : M R := M.ret (.va d)
theorem pe_v (i : Nat) {x : Str} (hN : X.N[i]? = some x := by rfl) (hv : Vis X.env.scope x := by first | exact Or.inl rfl | exact Or.inr (Or.inl rfl) | exact Or.inr (Or.inr rfl)) (hd : (x == ("__debug__" : Str)) = false := by decide)
    (hcd : (x == ("__classdict__" : Str)) = false := by decide) : PE X (.Name x pos) (rE b W (evVar i)) := by
  refine PE.weak (pe_var hN hv hd hcd) fun σ H Q ⟨b, S, ρ, eb, G, h⟩ => ?_
  unfold Wp WpO evVar at h
  cases e : ρ[i]? with
  | none => rw [e] at h; exact h.elim
  | some s =>
    rw [e] at h
    have k := G.sl i s e
    cases s with
    | no => exact h.elim
    | va d =>
      obtain ⟨v, hv, r⟩ := k
      exact ⟨v, hv, h S H (Hsub.refl _) G v r⟩
    | ow ds =>
      obtain ⟨a, vs, hv, _⟩ := k
      exact ⟨_, hv, h S H (Hsub.refl _) G _ hv⟩
    | pn p =>
      obtain ⟨a, c, hv, _⟩ := k
      exact ⟨_, hv, h S H (Hsub.refl _) G _ hv⟩
theorem pe_ci {i : Int} {j : Nat} : PE X (.Constant (.int i) j pos) (rE b W (evC (.int i))) :=
  PE.weak pe_int fun σ H Q ⟨b, S, ρ, eb, G, h⟩ => h S H (Hsub.refl _) G _ (.int i)
theorem pe_cb {i : Bool} {j : Nat} : PE X (.Constant (.bool i) j pos) (rE b W (evC (.bl i))) :=
  PE.weak pe_bl fun σ H Q ⟨b, S, ρ, eb, G, h⟩ => h S H (Hsub.refl _) G _ (.bl i)
theorem pe_cn {j : Nat} : PE X (.Constant .none j pos) (rE b W (evC .non)) :=
  PE.weak pe_non fun σ H Q ⟨b, S, ρ, eb, G, h⟩ => h S H (Hsub.refl _) G _ .non
theorem pe_cs {i : Str} {j : Nat} : PE X (.Constant (.str i) j pos) (rE b W (evC (.str i))) :=
  PE.weak pe_str fun σ H Q ⟨b, S, ρ, eb, G, h⟩ => h S H (Hsub.refl _) G _ (.str i)

/-! ### arguments -/
def evNil : M (List R) := M.ret []
def evCons (fa : M R) (fr : M (List R)) : M (List R) := M.bnd (frzM fa) fun r => M.bnd fr fun rs => M.ret (r :: rs)
inductive RFs (b : Bs) (σ : L2.St) (S : Hp) : List V → List R → Prop
  | nil : RFs b σ S [] []
  | cons {v : V} {vs : List V} {r : R} {rs : List R} : RF b σ S v r → RFs b σ S vs rs → RFs b σ S (v :: vs) (r :: rs)
theorem RFs.mono {b : Bs} {σ : L2.St} {S S' : Hp} {vs : List V} {rs : List R} (h : RFs b σ S vs rs) (k : Hsub S S') : RFs b σ S' vs rs := by
  induction h with
  | nil => exact .nil
  | cons q _ ih => exact .cons (q.mono k) ih
def rAr (b0 : Bs) (W : WX) (f : M (List R)) : TA := fun σ H Q => ∃ b S ρ, EqB b b0 ∧ Good b σ S H ρ ∧ Wp b W σ f S H ρ fun S' H' ρ' rs => ∀ vs, RFs b σ S' vs rs → Q vs H'
theorem pa_n : PA X [] (rAr b W evNil) := PA.weak pa_nil fun σ H Q ⟨b, S, ρ, eb, G, h⟩ => h S H (Hsub.refl _) G [] .nil
theorem pa_c {es : List Expr} {fr : M (List R)} (ha : PE X e1 (rE b W fa)) (hr : PA X es (rAr b W fr)) (hs : starEach (e1 :: es) X.env = (false, eval e1 X.env) :: starEach es X.env := by rfl) :
    PA X (e1 :: es) (rAr b W (evCons fa fr)) := by
  refine PA.weak (pa_cons ha hr hs) fun σ H Q ⟨b, S, ρ, eb, G, h⟩ => ⟨b, S, ρ, eb, G, Wp.frz (K := fun x H1 => rAr _ W fr σ H1 fun xs H2 => Q (x :: xs) H2) h fun S1 H1 ρ1 r v s1 G1 f1 h1 => ⟨b, S1, ρ1, eb, G1, ?_⟩⟩
  refine Wp.mono (Wp.bind h1) fun S2 H2 ρ2 rs s2 G2 q vs hvs => ?_
  exact q S2 H2 (Hsub.refl _) G2 _ (.cons (f1.mono s2) hvs)

/-! ### a value that is stored: an alias of a frame's list is held stable -/
def frzS (r : R) : M D := fun ρ => match r with
  | .va d => some (.ok d ρ)
  | .ow ds => none
  | .sl i => match ρ[i]? with
    | some (.ow ds) => some (.ok (.lst ds) (ρ.set i (.va (.lst ds))))
    | some (.va d) => some (.ok d ρ)
    | _ => none
def frzSs : List R → M (List D)
  | [] => M.ret []
  | r :: rs => M.bnd (frzS r) fun d => M.bnd (frzSs rs) fun ds => M.ret (d :: ds)
theorem Good.settle {σ : L2.St} {S H : Hp} {ρ : ES} {i : Nat} {a : Addr} {vs : List V} {ds : List D} (G : Good b σ S H ρ) (hi : ρ[i]? = some (.ow ds)) (hv : σ[i]? = some (some (.ref a))) (hH : H a = some (.lst vs)) (hS : S a = none) (hr : Rps b.K b.mg S vs ds) : Good b σ (upd S a (.lst vs)) H (ρ.set i (.va (.lst ds))) := by
  have hlt : i < ρ.length := (List.getElem?_eq_some_iff.mp hi).1
  have keep : ∀ {j c}, Own (ρ.set i (.va (.lst ds))) σ j c → j ≠ i ∧ Own ρ σ j c := by
    rintro j c ⟨h1, s, h2, h3⟩
    by_cases hj : j = i
    · subst hj
      rw [List.getElem?_set_self hlt] at h2
      cases h2
      cases h3
    · rw [List.getElem?_set_ne (Ne.symm hj)] at h2
      exact ⟨hj, h1, s, h2, h3⟩
  have w : Own ρ σ i a := ⟨hv, _, hi, rfl⟩
  refine ⟨fun c u e => ?_, by rw [List.length_set]; exact G.len, fun j s e => ?_, fun j k c h1 h2 => G.dis j k c (keep h1).2 (keep h2).2, G.k0, fun j c h => G.o0 j c (keep h).2, G.s0.trans (Hsub.new hS), fun c e => ?_, G.f0, fun P q e => ⟨tabS_up (G.tab P q e).1 (Hsub.new hS) fun _ _ h => h, (G.tab P q e).2.1, by rw [upd_ne (tab_ne (G.tab P q e).1 hH noTab_lst)]; exact (G.tab P q e).2.2⟩⟩
  · by_cases h : c = a
    · subst h; rw [upd_same] at e; cases e; exact hH
    · rw [upd_ne h] at e; exact G.sub _ _ e
  · by_cases hj : j = i
    · subst hj
      rw [List.getElem?_set_self hlt] at e
      cases e
      exact ⟨_, hv, .lst upd_same (Rps.mono (Hsub.new hS) _ _ hr)⟩
    · rw [List.getElem?_set_ne (Ne.symm hj)] at e
      refine (G.sl j s e).mono (Hsub.new hS) fun c hc ho => ?_
      have w2 : Own ρ σ j c := ⟨hc, s, e, ho⟩
      by_cases h : c = a
      · subst h; exact absurd (G.dis j i c w2 w) hj
      · rw [upd_ne h]; exact (G.ownat w2).2
  · by_cases h : c = a
    · subst h; exact Or.inr (G.o0 i c w)
    · rw [upd_ne h] at e; exact G.n0 c e
theorem Wp.frzS {r : R} {σ : L2.St} {S H : Hp} {ρ : ES} {v : V} {P : Hp → Hp → ES → D → Prop} (G : Good b σ S H ρ) (h : RF b σ S v r) (w : Wp b W σ (frzS r) S H ρ P) : ∃ S' ρ' d, Hsub S S' ∧ Good b σ S' H ρ' ∧ Rp b.K b.mg S' v d ∧ P S' H ρ' d := by
  cases r with
  | va d => exact ⟨S, ρ, d, Hsub.refl _, G, h, w S H (Hsub.refl _) G⟩
  | ow ds => exact w.elim
  | sl i =>
    unfold Wp WpO Mc.frzS at w
    simp only at w
    cases hi : ρ[i]? with
    | none => rw [hi] at w; exact w.elim
    | some s =>
      rw [hi] at w
      cases s with
      | no => exact w.elim
      | va d =>
        obtain ⟨v', e1, r1⟩ := G.sl i _ hi
        have hv : σ[i]? = some (some v) := h
        have e2 := hv.symm.trans e1
        cases e2
        exact ⟨S, ρ, d, Hsub.refl _, G, r1, w S H (Hsub.refl _) G⟩
      | pn p => exact w.elim
      | ow ds =>
        obtain ⟨a, vs, e1, r1, r2, r3⟩ := G.sl i _ hi
        have hv : σ[i]? = some (some v) := h
        have e2 := hv.symm.trans e1
        cases e2
        have G' := G.settle hi hv r1 r2 r3
        exact ⟨_, _, _, Hsub.new r2, G', .lst upd_same (Rps.mono (Hsub.new r2) _ _ r3), w _ H (Hsub.new r2) G'⟩
theorem Wp.frzSs {σ : L2.St} {H : Hp} : ∀ {rs : List R} {S : Hp} {ρ : ES} {vs : List V} {P : Hp → Hp → ES → List D → Prop}, Good b σ S H ρ → RFs b σ S vs rs → Wp b W σ (frzSs rs) S H ρ P → ∃ S' ρ' ds, Hsub S S' ∧ Good b σ S' H ρ' ∧ Rps b.K b.mg S' vs ds ∧ P S' H ρ' ds
  | [], S, ρ, vs, P, G, h, w => by cases h; exact ⟨S, ρ, [], Hsub.refl _, G, .nil, w S H (Hsub.refl _) G⟩
  | r :: rs, S, ρ, _, P, G, h, w => by
    cases h with
    | cons h1 h2 =>
      obtain ⟨S1, ρ1, d, s1, G1, r1, w1⟩ := Wp.frzS G h1 (Wp.bind w)
      obtain ⟨S2, ρ2, ds, s2, G2, r2, w2⟩ := Wp.frzSs G1 (RFs.mono h2 s1) (Wp.bind w1)
      exact ⟨S2, ρ2, d :: ds, s1.trans s2, G2, .cons (Rp.mono s2 _ _ r1) r2, w2 S2 H (Hsub.refl _) G2⟩

/-! ### displays -/
def few {α : Type} (xs : List α) : Bool := decide (xs.length ≤ 100000)
theorem few_sz {α : Type} {xs : List α} (h : few xs = true) : xs.length ≤ sizeLine := Nat.le_trans (of_decide_eq_true h) (by decide)
def evTup (fs : M (List R)) : M R := M.bnd fs fun rs => M.bnd (frzSs rs) fun ds => if few ds then M.ret (.va (.tup ds)) else fun _ => none
def evLst (fs : M (List R)) : M R := M.bnd fs fun rs => M.bnd (frzSs rs) fun ds => if few ds then M.ret (.ow ds) else fun _ => none
theorem wp_if {α : Type} {σ : L2.St} {S H : Hp} {ρ : ES} {c : Bool} {f : M α} {P : Hp → Hp → ES → α → Prop} (w : Wp b W σ (if c = true then f else fun _ => none) S H ρ P) : c = true ∧ Wp b W σ f S H ρ P := by
  cases c with
  | true => exact ⟨rfl, w⟩
  | false => exact w.elim
theorem RR.new {σ : L2.St} {S H : Hp} {ρ : ES} {p : Addr} {vs : List V} {ds : List D} (G : Good b σ S H ρ) (hp : H p = none) (r : Rps b.K b.mg S vs ds) : RR b σ S (upd H p (.lst vs)) ρ (.ref p) (.ow ds) :=
  ⟨p, vs, rfl, upd_same, G.sn hp, r, (fun i w => by
    obtain ⟨⟨u, e⟩, _⟩ := G.ownat w
    rw [hp] at e; cases e), Or.inl (G.f0 _ hp)⟩
theorem RR.newT {σ : L2.St} {S H : Hp} {ρ : ES} {p : Addr} {o : Obj} {vs : List V} {ds : List D} (G : Good b σ S H ρ) (hp : H p = none) (ho : TupO o) (r : Rps b.K b.mg S vs ds) : RR b σ (upd S p (.frz o (.tup vs))) (upd H p (.frz o (.tup vs))) ρ (.ref p) (.va (.tup ds)) :=
  .tup (SqX.of upd_same ho.1 ho.2) (Rps.mono (Hsub.new (G.sn hp)) _ _ r)
theorem pe_tupM {es : List Expr} {fs : M (List R)} {k : Nat} (h : PA X es (rAr b W fs)) : PE X (.Tuple es k pos) (rE b W (evTup fs)) := by
  refine PE.weak (pe_tupX h) fun σ H Q ⟨b, S, ρ, eb, G, w⟩ => ⟨b, S, ρ, eb, G, Wp.mono (Wp.bind w) fun S1 H1 ρ1 rs s1 G1 q vs hvs => ?_⟩
  obtain ⟨S2, ρ2, ds, s2, G2, r2, w2⟩ := Wp.frzSs G1 hvs (Wp.bind q)
  obtain ⟨hc, w3⟩ := wp_if w2
  refine ⟨by rw [Rps.length r2]; exact few_sz hc, fun p o hp ho => ?_⟩
  exact w3 _ _ (Hsub.new (G2.sn hp)) (G2.new hp) _ (RR.newT G2 hp ho r2)
theorem pe_lstM {es : List Expr} {fs : M (List R)} (h : PA X es (rAr b W fs)) : PE X (.List es pos) (rE b W (evLst fs)) := by
  refine PE.weak (pe_lst h) fun σ H Q ⟨b, S, ρ, eb, G, w⟩ => ⟨b, S, ρ, eb, G, Wp.mono (Wp.bind w) fun S1 H1 ρ1 rs s1 G1 q vs hvs => ?_⟩
  obtain ⟨S2, ρ2, ds, s2, G2, r2, w2⟩ := Wp.frzSs G1 hvs (Wp.bind q)
  obtain ⟨hc, w3⟩ := wp_if w2
  refine ⟨by rw [Rps.length r2]; exact few_sz hc, fun p hp => ?_⟩
  exact w3 _ _ (Hsub.refl _) (G2.newH hp) _ (RR.new G2 hp r2)

/-! ### two operands -/
def evBin (g : D → D → Option R) (fa fb : M R) : M R := M.bnd (frzM fa) fun r1 => M.bnd (frzM fb) fun r2 ρ => match rdD ρ r1, rdD ρ r2 with
  | some d, some e => M.lift (g d e) ρ
  | _, _ => none
/-- what an operator on values does, said on data -/
def Sem2b (b : Bs) (g : D → D → Option R) (r : R2) : Prop := ∀ (σ : L2.St) (S H : Hp) (ρ : ES) (x y : V) (d e : D) (z : R), Good b σ S H ρ → RV b S H x d → RV b S H y e → g d e = some z →
  ∀ Q : VK, (∀ v H' S', Hsub S S' → Good b σ S' H' ρ → RR b σ S' H' ρ v z → Q v H') → r x y H Q
def Sem2 (K : PySem.W.Frag) (g : D → D → Option R) (r : R2) : Prop := ∀ b : Bs, b.K = K → Sem2b b g r
theorem sem2 {K : PySem.W.Frag} {g : D → D → Option R} {r : PySem.W.Frag → R2} (h : ∀ b : Bs, Sem2b b g (r b.K)) : Sem2 K g (r K) := fun b e => e ▸ h b
theorem ev2_wp {b0 : Bs} (eb : EqB b b0) {g : D → D → Option R} {r : R2} (sem : Sem2b b g r) {σ : L2.St} {S H : Hp} {ρ : ES} {Q : VK} (G : Good b σ S H ρ) (w : Wp b W σ (evBin g fa fb) S H ρ fun S' H' ρ' r => ∀ v, RR b σ S' H' ρ' v r → Q v H') :
    Wp b W σ fa S H ρ fun S1 H1 ρ1 r1 => ∀ x, RR b σ S1 H1 ρ1 x r1 → rE b0 W fb σ H1 fun y H2 => r x y H2 Q := by
  refine Wp.frz (K := fun x H1 => rE b0 W fb σ H1 fun y H2 => r x y H2 Q) w fun S1 H1 ρ1 r1 x s1 G1 f1 w1 => ⟨b, S1, ρ1, eb, G1, ?_⟩
  refine Wp.frz (K := fun y H2 => r x y H2 Q) w1 fun S2 H2 ρ2 r2 y s2 G2 f2 w2 => ?_
  unfold Wp WpO at w2
  cases e1 : rdD ρ2 r1 with
  | none => simp only [e1] at w2
  | some d =>
    cases e2 : rdD ρ2 r2 with
    | none => simp only [e1, e2] at w2
    | some e =>
      simp only [e1, e2, M.lift] at w2
      cases e3 : g d e with
      | none => simp only [e3] at w2
      | some z =>
        simp only [e3] at w2
        exact sem σ S2 H2 ρ2 x y d e z G2 ((f1.mono s2).rv G2 e1) (f2.rv G2 e2) e3 Q fun v H' S' s G' r => w2 S' H' s G' v r
theorem pe_bin {op : Operator} {g : D → D → Option R} {r : R2} (ho : OpR X (binaryOp op) r) (sem : Sem2 b.K g r) (ha : PE X e1 (rE b W fa)) (hb : PE X e2 (rE b W fb)) : PE X (.BinOp e1 op e2 pos) (rE b W (evBin g fa fb)) :=
  PE.weak (pe_op ho ha hb) fun _ _ _ ⟨b, S, ρ, eb, G, w⟩ => ⟨b, S, ρ, eb, G, ev2_wp eb (sem b eb.1) G w⟩
theorem pe_cmpM {op : CmpOp} {g : D → D → Option R} {r : R2} (ho : OpR X (compareOp op) r) (sem : Sem2 b.K g r) (hm : behindInMarks op e2 = false) (ha : PE X e1 (rE b W fa)) (hb : PE X e2 (rE b W fb)) : PE X (.Compare e1 [op] [e2] pos) (rE b W (evBin g fa fb)) :=
  PE.weak (pe_cmpR ho ha hb hm) fun _ _ _ ⟨b, S, ρ, eb, G, w⟩ => ⟨b, S, ρ, eb, G, ev2_wp eb (sem b eb.1) G w⟩
end
end Mc
end
section
set_option Elab.async false
set_option linter.all false
set_option maxRecDepth 100000
set_option maxHeartbeats 4000000
set_option autoImplicit false
namespace Mc
open PySem PySem.Spec L2

theorem op_or {X : Cx} {f : Value → Value → Sem Value} {r r' : R2} (h : OpR X f r) (h' : OpR X f r') : OpR X f (fun x y H Q => r x y H Q ∨ r' x y H Q) := by
  intro pins s σ H x y v u Q I rx ry q
  rcases q with q | q
  · exact h pins s σ H x y v u Q I rx ry q
  · exact h' pins s σ H x y v u Q I rx ry q
theorem op_weak {X : Cx} {f : Value → Value → Sem Value} {r r' : R2} (h : OpR X f r) (k : ∀ x y H Q, r' x y H Q → r x y H Q) : OpR X f r' := fun pins s σ H x y v u Q I rx ry q => h pins s σ H x y v u Q I rx ry (k _ _ _ _ q)

/-! ### + - * // % ** -/
def okN (n : Nat) : Bool := decide (n ≤ 100000)
theorem okN_sz {n : Nat} (h : okN n = true) : n ≤ sizeLine := Nat.le_trans (of_decide_eq_true h) (by decide)
def addD : D → D → Option R
  | .int i, .int j => some (.va (.int (i + j)))
  | .str x, .str y => if okN (x.length + y.length) = true then some (.va (.str (x ++ y))) else none
  | .lst xs, .lst ys => if okN (xs.length + ys.length) = true then some (.ow (xs ++ ys)) else none
  | .tup xs, .tup ys => if okN (xs.length + ys.length) = true then some (.va (.tup (xs ++ ys))) else none
  | _, _ => none
def rAddU (K : PySem.W.Frag) : R2 := fun x y H Q => (rI0 (fun i j => .int (i + j)) x y H Q ∨ (∃ i j, x = .str i ∧ y = .str j ∧ i.length + j.length ≤ sizeLine ∧ Q (.str (i ++ j)) H)) ∨ (rCat x y H Q ∨ rCatX K x y H Q)
theorem op_addU {X : Cx} : OpR X (binaryOp .Add) (rAddU X.K) := op_or (op_or op_add op_add_str) (op_or op_cat op_catX)
section
variable {b : Bs} {W : WX} {L : Nat} {X : Cx} {pos : Pos} {e1 e2 : Expr} {fa fb : M R}
theorem sem_add : Sem2b b addD (rAddU b.K) := by
  intro σ S H ρ x y d e z G hx hy hz Q q
  unfold addD at hz
  split at hz
  · rename_i i j
    cases hz
    cases hx
    cases hy
    exact Or.inl (Or.inl ⟨i, j, rfl, rfl, q _ H S (Hsub.refl _) G (.int _)⟩)
  · rename_i i j
    split at hz
    · rename_i hl
      cases hz
      cases hx
      cases hy
      exact Or.inl (Or.inr ⟨i, j, rfl, rfl, okN_sz hl, q _ H S (Hsub.refl _) G (.str _)⟩)
    · cases hz
  · rename_i xs ys
    split at hz
    · rename_i hl
      cases hz
      obtain ⟨a, vs, rfl, h1, r1⟩ := hx
      obtain ⟨c, ws, rfl, h2, r2⟩ := hy
      refine Or.inr (Or.inl ⟨a, c, vs, ws, rfl, rfl, h1, h2, by rw [Rps.length r1, Rps.length r2]; exact okN_sz hl, fun p hp => ?_⟩)
      exact q _ _ S (Hsub.refl _) (G.newH hp) (RR.new G hp (Rps.append r1 r2))
    · cases hz
  · rename_i xs ys
    split at hz
    · rename_i hl
      cases hz
      obtain ⟨a, vs, rfl, h1, r1⟩ := hx
      obtain ⟨c, ws, rfl, h2, r2⟩ := hy
      refine Or.inr (Or.inr ⟨a, c, vs, ws, rfl, rfl, sqt_mono G.sub h1.1, sqt_mono G.sub h2.1, by rw [Rps.length r1, Rps.length r2]; exact okN_sz hl, fun e => ?_, fun e e2 => ?_, fun e e2 p o hp ho => ?_⟩)
      · subst e
        cases xs with
        | nil => exact q _ H S (Hsub.refl _) G (.tup h2 r2)
        | cons _ _ => cases r1
      · subst e2
        cases ys with
        | nil => rw [List.append_nil] at q; exact q _ H S (Hsub.refl _) G (.tup h1 r1)
        | cons _ _ => cases r2
      · exact q _ _ _ (Hsub.new (G.sn hp)) (G.new hp) (RR.newT G hp ho (Rps.append r1 r2))
    · cases hz
  · cases hz
theorem pe_add' (o : OKx b L X) (ha : PE X e1 (rE b W fa)) (hb : PE X e2 (rE b W fb)) : PE X (.BinOp e1 .Add e2 pos) (rE b W (evBin addD fa fb)) :=
  pe_bin (r := rAddU X.K) op_addU (by rw [o.K]; exact sem2 fun b => sem_add) ha hb

def intD (g : Int → Int → Option Int) : D → D → Option R
  | .int i, .int j => (g i j).map fun n => .va (.int n)
  | _, _ => none
theorem sem_int {C : Int → Int → Prop} {g : Int → Int → Option Int} {g' : Int → Int → Int} (hg : ∀ i j n, g i j = some n → C i j ∧ n = g' i j) : Sem2b b (intD g) (rI C fun i j => .int (g' i j)) := by
  intro σ S H ρ x y d e z G hx hy hz Q q
  unfold intD at hz
  split at hz
  · rename_i i j
    cases hx
    cases hy
    cases hn : g i j with
    | none => rw [hn] at hz; cases hz
    | some n =>
      rw [hn] at hz
      cases hz
      obtain ⟨hc, rfl⟩ := hg i j n hn
      exact ⟨i, j, rfl, rfl, hc, q _ H S (Hsub.refl _) G (.int _)⟩
  · cases hz
def gSub : Int → Int → Option Int := fun i j => some (i - j)
def small64 (i : Int) : Bool := decide (-18446744073709551616 < i ∧ i < 18446744073709551616)
def gMul : Int → Int → Option Int := fun i j => if (small64 i || small64 j) = true then some (i * j) else none
def gMod : Int → Int → Option Int := fun i j => if 0 < j then some (i % j) else none
def gDiv : Int → Int → Option Int := fun i j => if 0 < j ∧ j < 1073741824 then some (i / j) else none
def gDivN : Int → Int → Option Int := fun i j => if j ≠ 0 ∧ j.natAbs < 1073741824 then some (i.fdiv j) else none
def gPow : Int → Int → Option Int := fun i j => if 0 ≤ j ∧ j ≤ 1000 ∧ i.natAbs < 2 ^ 64 then some (i ^ j.toNat) else none
theorem pe_sub' (ha : PE X e1 (rE b W fa)) (hb : PE X e2 (rE b W fb)) : PE X (.BinOp e1 .Sub e2 pos) (rE b W (evBin (intD gSub) fa fb)) :=
  pe_bin (op_weak (r' := rI (fun _ _ => True) fun i j => .int (i - j)) op_sub fun _ _ _ _ ⟨i, j, h1, h2, _, q⟩ => ⟨i, j, h1, h2, q⟩) (fun b _ => sem_int fun i j n h => by cases h; exact ⟨trivial, rfl⟩) ha hb
theorem pe_mod' (ha : PE X e1 (rE b W fa)) (hb : PE X e2 (rE b W fb)) : PE X (.BinOp e1 .Mod e2 pos) (rE b W (evBin (intD gMod) fa fb)) :=
  pe_bin op_mod (fun b _ => sem_int (g' := fun i j => i % j) fun i j n h => by
    unfold gMod at h
    split at h
    · cases h; exact ⟨by assumption, rfl⟩
    · cases h) ha hb
theorem pe_div' (ha : PE X e1 (rE b W fa)) (hb : PE X e2 (rE b W fb)) : PE X (.BinOp e1 .FloorDiv e2 pos) (rE b W (evBin (intD gDiv) fa fb)) :=
  pe_bin op_fdiv (fun b _ => sem_int (g' := fun i j => i / j) fun i j n h => by
    unfold gDiv at h
    split at h
    · cases h; exact ⟨by assumption, rfl⟩
    · cases h) ha hb
theorem pe_divN' (ha : PE X e1 (rE b W fa)) (hb : PE X e2 (rE b W fb)) : PE X (.BinOp e1 .FloorDiv e2 pos) (rE b W (evBin (intD gDivN) fa fb)) :=
  pe_bin op_fdivN (fun b _ => sem_int (g' := fun i j => i.fdiv j) fun i j n h => by
    unfold gDivN at h
    split at h
    · cases h; exact ⟨by assumption, rfl⟩
    · cases h) ha hb
theorem pe_pow' (ha : PE X e1 (rE b W fa)) (hb : PE X e2 (rE b W fb)) : PE X (.BinOp e1 .Pow e2 pos) (rE b W (evBin (intD gPow) fa fb)) :=
  pe_bin op_pow (fun b _ => sem_int (g' := fun i j => i ^ j.toNat) fun i j n h => by
    unfold gPow at h
    split at h
    · rename_i hc; cases h; exact ⟨⟨hc.1, by omega, hc.2.2⟩, rfl⟩
    · cases h) ha hb
/-- * of ints, of lists, of tuples -/
def mulD : D → D → Option R
  | .int i, .int j => (gMul i j).map fun n => .va (.int n)
  | .lst xs, .int k => if -1000 ≤ k ∧ k ≤ 1000 ∧ xs.length ≤ 100 then some (.ow (List.replicate k.toNat xs).flatten) else none
  | .tup (x :: xs), .int k => if k = 1 then some (.va (.tup (x :: xs))) else if 2 ≤ k ∧ k ≤ 100 ∧ xs.length ≤ 100 then some (.va (.tup (List.replicate k.toNat (x :: xs)).flatten)) else none
  | _, _ => none
theorem Rps.rep {K : PySem.W.Frag} {mg : Str → Option Value} {S : Hp} {vs : List V} {ds : List D} (r : Rps K mg S vs ds) : ∀ n : Nat, Rps K mg S (List.replicate n vs).flatten (List.replicate n ds).flatten
  | 0 => .nil
  | n + 1 => by
    rw [List.replicate_succ, List.replicate_succ, List.flatten_cons, List.flatten_cons]
    exact Rps.append r (Rps.rep r n)
end
end Mc
end
section
set_option Elab.async false
set_option linter.all false
set_option maxRecDepth 100000
set_option maxHeartbeats 4000000
set_option autoImplicit false
namespace Mc
open PySem PySem.Spec L2

/-! ### tuple * 1 -/
theorem tuple_mulW1 (l : Addr) (items : Array Value) (n : Nat) (dd : Option Addr) (sl : Array (Option Value)) (u : Tok) :
    Meets (Builtin.«tuple.__mul__» ⟨[.ref l, .int 1 u], []⟩) (fun _ R s => s.heap.get? l = some { cls := .type "tuple", dict := dd, data := .seq items n, slots := sl } ∧
      R (.ok (.ret (Value.ref l))) s) :=
  .of_wp fun prog w A R s h => by
    obtain ⟨hp, g, d, tk, os⟩ := s
    obtain ⟨hl, h⟩ := h
    have f1 := PySem.AutoSeq1.idx_int
    have c1 : (items.isEmpty || (1 : Int) == 1) = true := by simp
    wp_walk using PySem.AutoSeq1.wpAny_loadPart' hl
    repeat (first
      | (refine wpAny_ite_true (decide_eq_true c1) ?_; wp_walk using PySem.AutoSeq1.wpAny_loadPart' hl))
    exact ⟨_, rfl, h⟩
def rRepT1 (K : PySem.W.Frag) : R2 := fun x y H Q => ∃ l xs, x = .ref l ∧ y = .int 1 ∧ SqT K H l xs ∧ Q (.ref l) H
theorem op_repT1 {X : Cx} : OpR X (binaryOp .Mult) (rRepT1 X.K) := by
  intro pins s σ H x y v u Q I rx ry h
  obtain ⟨l, xs, rfl, rfl, hT, q⟩ := h
  cases rx
  obtain ⟨t, rfl⟩ := ry
  obtain ⟨its, r, ⟨⟨cls, dd, data, sl⟩, ho, hc, n, hd⟩, hs⟩ := I.tuple hT
  simp only at hc hd
  subst hc hd
  refine wpAny_binaryOp_repeat_ref (T := "tuple") (U := "int") (by decide) ⟨_, ho, rfl⟩ (fun s' => typeIs_int s' 1 t) noFill_tuple_mul PySem.F.fills_int_mul PySem.F.slot_int_rmul repeat_tuple PySem.F.slot_int_index.lookup
    (call_meets PySem.F.slot_int_rmul (typeIs_int s 1 t) PySem.F.entry_int_rmul (PySem.F.args_int_rmul_2 _ _) (int_rmul_tuple 1 t l its.toArray n dd sl)
      ⟨ho, rfl, ⟨_, ho, rfl⟩, call_meets PySem.F.slot_tuple_mul ⟨_, ho, rfl⟩ PySem.F.entry_tuple_mul (PySem.F.args_tuple_mul_2 _ _) (tuple_mulW1 l its.toArray n dd sl t) ⟨ho, ?_⟩⟩)
  exact ⟨.ref l, H, I, rfl, q⟩

def rMulU (K : PySem.W.Frag) : R2 := fun x y H Q => (rI CMul (fun i j => .int (i * j)) x y H Q ∨ rRep x y H Q) ∨ (rRepT1 K x y H Q ∨ rRepX K x y H Q)
theorem op_mulU {X : Cx} : OpR X (binaryOp .Mult) (rMulU X.K) := op_or (op_or op_mul op_rep) (op_or op_repT1 op_repX)
theorem length_rep {α : Type} (xs : List α) (n : Nat) : (List.replicate n xs).flatten.length = n * xs.length := by simp [List.length_flatten]
section
variable {b : Bs} {W : WX} {L : Nat} {X : Cx} {pos : Pos} {e1 e2 : Expr} {fa fb : M R}
theorem small64_ok {i : Int} (h : small64 i = true) : -(2 ^ 64) < i ∧ i < 2 ^ 64 := by
  unfold small64 at h
  have h' := of_decide_eq_true h
  exact ⟨by have := h'.1; omega, by have := h'.2; omega⟩
theorem sem_mul : Sem2b b mulD (rMulU b.K) := by
  intro σ S H ρ x y d e z G hx hy hz Q q
  unfold mulD at hz
  split at hz
  · rename_i i j
    cases hx
    cases hy
    unfold gMul at hz
    split at hz
    · rename_i hc
      cases hz
      refine Or.inl (Or.inl ⟨i, j, rfl, rfl, ?_, q _ H S (Hsub.refl _) G (.int _)⟩)
      rcases (Bool.or_eq_true _ _).mp hc with h | h
      · exact Or.inl (small64_ok h)
      · exact Or.inr (small64_ok h)
    · cases hz
  · rename_i xs k
    split at hz
    · rename_i hc
      cases hz
      cases hy
      obtain ⟨a, vs, rfl, h1, r1⟩ := hx
      have hl : vs.length = xs.length := Rps.length r1
      refine Or.inl (Or.inr ⟨a, k, vs, rfl, rfl, h1, by omega, by omega, ?_, fun p hp => ?_⟩)
      · rw [hl]
        have a1 : xs.length * k.toNat ≤ 100 * 1000 := Nat.mul_le_mul (by omega) (by omega)
        exact Nat.le_trans a1 (by decide)
      · exact q _ _ S (Hsub.refl _) (G.newH hp) (RR.new G hp (Rps.rep r1 _))
    · cases hz
  · rename_i w xs k
    obtain ⟨a, vs, rfl, h1, r1⟩ := hx
    cases hy
    split at hz
    · rename_i hc
      cases hz
      subst hc
      exact Or.inr (Or.inl ⟨a, vs, rfl, rfl, sqt_mono G.sub h1.1, q _ H S (Hsub.refl _) G (.tup h1 r1)⟩)
    · split at hz
      · rename_i hc
        cases hz
        have hl : vs.length = (w :: xs).length := Rps.length r1
        rw [List.length_cons] at hl
        refine Or.inr (Or.inr ⟨a, k, vs, rfl, rfl, sqt_mono G.sub h1.1, ?_, by omega, by omega, by omega, fun p o hp ho => ?_⟩)
        · intro e
          rw [e] at hl
          simp at hl
        · exact q _ _ _ (Hsub.new (G.sn hp)) (G.new hp) (RR.newT G hp ho (Rps.rep r1 _))
      · cases hz
  · cases hz
theorem pe_mul' (o : OKx b L X) (ha : PE X e1 (rE b W fa)) (hb : PE X e2 (rE b W fb)) : PE X (.BinOp e1 .Mult e2 pos) (rE b W (evBin mulD fa fb)) :=
  pe_bin (r := rMulU X.K) op_mulU (by rw [o.K]; exact sem2 fun b => sem_mul) ha hb

/-! ### comparisons of data -/
def eqB (d e : D) : Option Bool := match d.py, e.py with
  | some p, some q => if (SeqAt.shaped p && SeqAt.shaped q) = true then some (PyData.eqv p q) else none
  | _, _ => none
def eqD (d e : D) : Option R := (eqB d e).map fun c => .va (.bl c)
def neD (d e : D) : Option R := (eqB d e).map fun c => .va (.bl (!c))
theorem eqB_some {d e : D} {c : Bool} (h : eqB d e = some c) : ∃ p q, d.py = some p ∧ e.py = some q ∧ SeqAt.shaped p = true ∧ SeqAt.shaped q = true ∧ PyData.eqv p q = c := by
  unfold eqB at h
  split at h
  · rename_i p q h1 h2
    split at h
    · rename_i hs
      cases h
      obtain ⟨a, b⟩ := Bool.and_eq_true_iff.mp hs
      exact ⟨p, q, h1, h2, a, b, rfl⟩
    · cases h
  · cases h
theorem sem_eq : Sem2b b eqD (rEqD b.K) := by
  intro σ S H ρ x y d e z G hx hy hz Q q
  unfold eqD at hz
  cases hc : eqB d e with
  | none => rw [hc] at hz; cases hz
  | some c =>
    rw [hc] at hz
    cases hz
    obtain ⟨p, p', h1, h2, s1, s2, rfl⟩ := eqB_some hc
    exact ⟨p, p', Rp.dp _ _ _ (hx.rp G.sub) h1, Rp.dp _ _ _ (hy.rp G.sub) h2, s1, s2, q _ H S (Hsub.refl _) G (.bl _)⟩
theorem sem_ne : Sem2b b neD (rNeD b.K) := by
  intro σ S H ρ x y d e z G hx hy hz Q q
  unfold neD at hz
  cases hc : eqB d e with
  | none => rw [hc] at hz; cases hz
  | some c =>
    rw [hc] at hz
    cases hz
    obtain ⟨p, p', h1, h2, s1, s2, rfl⟩ := eqB_some hc
    exact ⟨p, p', Rp.dp _ _ _ (hx.rp G.sub) h1, Rp.dp _ _ _ (hy.rp G.sub) h2, s1, s2, q _ H S (Hsub.refl _) G (.bl _)⟩
theorem pe_eq' (o : OKx b L X) (ha : PE X e1 (rE b W fa)) (hb : PE X e2 (rE b W fb)) : PE X (.Compare e1 [.Eq] [e2] pos) (rE b W (evBin eqD fa fb)) :=
  pe_cmpM (r := rEqD X.K) (op_eqD (by have := o.un; omega)) (by rw [o.K]; exact sem2 fun b => sem_eq) (nomark _) ha hb
theorem pe_ne' (o : OKx b L X) (ha : PE X e1 (rE b W fa)) (hb : PE X e2 (rE b W fb)) : PE X (.Compare e1 [.NotEq] [e2] pos) (rE b W (evBin neD fa fb)) :=
  pe_cmpM (r := rNeD X.K) (op_neD (by have := o.un; omega)) (by rw [o.K]; exact sem2 fun b => sem_ne) (nomark _) ha hb

/-- order: alike data that are not None -/
def ordOk (p q : PyData) : Bool := PySem.W.alike p q && (match p with | .none => false | _ => true) && decide (p.depth ≤ 64)
def ltB (d e : D) : Option Bool := match d.py, e.py with
  | some p, some q => if ordOk p q = true then some (PySem.W.dataLt p q) else none
  | _, _ => none
def gtB (d e : D) : Option Bool := match d.py, e.py with
  | some p, some q => if ordOk p q = true then some (PySem.W.dataLt q p) else none
  | _, _ => none
def ltD (d e : D) : Option R := (ltB d e).map fun c => .va (.bl c)
def gtD (d e : D) : Option R := (gtB d e).map fun c => .va (.bl c)
def leD (d e : D) : Option R := (gtB d e).map fun c => .va (.bl (!c))
def geD (d e : D) : Option R := (ltB d e).map fun c => .va (.bl (!c))
def rOrd (K : PySem.W.Frag) (g : PyData → PyData → Bool) : R2 := fun x y H Q => ∃ d e, Dp K H x d ∧ Dp K H y e ∧ ordOk d e = true ∧ Q (.bl (g d e)) H
theorem ordOk_of {p q : PyData} (h : ordOk p q = true) : PySem.W.alike p q = true ∧ p ≠ .none ∧ p.depth ≤ 64 := by
  unfold ordOk at h
  obtain ⟨h, h3⟩ := Bool.and_eq_true_iff.mp h
  obtain ⟨h1, h2⟩ := Bool.and_eq_true_iff.mp h
  refine ⟨h1, ?_, of_decide_eq_true h3⟩
  intro e
  subst e
  exact Bool.false_ne_true h2
theorem op_lt' (o : OKx b L X) : OpR X (compareOp .Lt) (rOrd X.K fun p q => PySem.W.dataLt p q) := by
  intro pins s σ H x y v u Q I rx ry ⟨d, e, hd, he, ho, q⟩
  obtain ⟨h1, h2, h3⟩ := ordOk_of ho
  obtain ⟨as, r1⟩ := Dp.reads I d x v hd rx
  obtain ⟨bs, r2⟩ := Dp.reads I e y u he ry
  exact PySem.W.lt_data r1 r2 h1 h2 (by have := o.un; have := Nat.min_le_left d.depth e.depth; omega) ⟨.bl _, H, I, rfl, q⟩
theorem op_gt' (o : OKx b L X) : OpR X (compareOp .Gt) (rOrd X.K fun p q => PySem.W.dataLt q p) := by
  intro pins s σ H x y v u Q I rx ry ⟨d, e, hd, he, ho, q⟩
  obtain ⟨h1, h2, h3⟩ := ordOk_of ho
  obtain ⟨as, r1⟩ := Dp.reads I d x v hd rx
  obtain ⟨bs, r2⟩ := Dp.reads I e y u he ry
  exact PySem.W.gt_data r1 r2 h1 h2 (by have := o.un; have := Nat.min_le_left d.depth e.depth; omega) ⟨.bl _, H, I, rfl, q⟩
theorem op_le' (o : OKx b L X) : OpR X (compareOp .LtE) (rOrd X.K fun p q => !PySem.W.dataLt q p) := by
  intro pins s σ H x y v u Q I rx ry ⟨d, e, hd, he, ho, q⟩
  obtain ⟨h1, h2, h3⟩ := ordOk_of ho
  obtain ⟨as, r1⟩ := Dp.reads I d x v hd rx
  obtain ⟨bs, r2⟩ := Dp.reads I e y u he ry
  exact PySem.W.le_data r1 r2 h1 h2 (by have := o.un; have := Nat.min_le_left d.depth e.depth; omega) ⟨.bl _, H, I, rfl, q⟩
theorem op_ge' (o : OKx b L X) : OpR X (compareOp .GtE) (rOrd X.K fun p q => !PySem.W.dataLt p q) := by
  intro pins s σ H x y v u Q I rx ry ⟨d, e, hd, he, ho, q⟩
  obtain ⟨h1, h2, h3⟩ := ordOk_of ho
  obtain ⟨as, r1⟩ := Dp.reads I d x v hd rx
  obtain ⟨bs, r2⟩ := Dp.reads I e y u he ry
  exact PySem.W.ge_data r1 r2 h1 h2 (by have := o.un; have := Nat.min_le_left d.depth e.depth; omega) ⟨.bl _, H, I, rfl, q⟩
theorem sem_ord {g : PyData → PyData → Bool} {f : D → D → Option R} (hf : ∀ d e z, f d e = some z → ∃ p q, d.py = some p ∧ e.py = some q ∧ ordOk p q = true ∧ z = .va (.bl (g p q))) : Sem2b b f (rOrd b.K g) := by
  intro σ S H ρ x y d e z G hx hy hz Q q
  obtain ⟨p, p', h1, h2, ho, rfl⟩ := hf d e z hz
  exact ⟨p, p', Rp.dp _ _ _ (hx.rp G.sub) h1, Rp.dp _ _ _ (hy.rp G.sub) h2, ho, q _ H S (Hsub.refl _) G (.bl _)⟩
theorem ltB_some {d e : D} {c : Bool} (h : ltB d e = some c) : ∃ p q, d.py = some p ∧ e.py = some q ∧ ordOk p q = true ∧ c = PySem.W.dataLt p q := by
  unfold ltB at h
  split at h
  · rename_i p q h1 h2
    split at h
    · cases h; exact ⟨p, q, h1, h2, by assumption, rfl⟩
    · cases h
  · cases h
theorem gtB_some {d e : D} {c : Bool} (h : gtB d e = some c) : ∃ p q, d.py = some p ∧ e.py = some q ∧ ordOk p q = true ∧ c = PySem.W.dataLt q p := by
  unfold gtB at h
  split at h
  · rename_i p q h1 h2
    split at h
    · cases h; exact ⟨p, q, h1, h2, by assumption, rfl⟩
    · cases h
  · cases h
theorem map_some {f : Bool → R} {o : Option Bool} {z : R} (h : o.map f = some z) : ∃ c, o = some c ∧ z = f c := by
  cases o with
  | none => cases h
  | some c => cases h; exact ⟨c, rfl, rfl⟩
theorem sem_lt : Sem2b b ltD (rOrd b.K fun p q => PySem.W.dataLt p q) := by
  refine sem_ord fun d e z h => ?_
  obtain ⟨c, h1, rfl⟩ := map_some h
  obtain ⟨p, q, a1, a2, a3, rfl⟩ := ltB_some h1
  exact ⟨p, q, a1, a2, a3, rfl⟩
theorem pe_lt' (o : OKx b L X) (ha : PE X e1 (rE b W fa)) (hb : PE X e2 (rE b W fb)) : PE X (.Compare e1 [.Lt] [e2] pos) (rE b W (evBin ltD fa fb)) :=
  pe_cmpM (op_lt' o) (by rw [o.K]; exact sem2 (r := fun K => rOrd K fun p q => PySem.W.dataLt p q) fun b => sem_lt) (nomark _) ha hb
theorem sem_gt : Sem2b b gtD (rOrd b.K fun p q => PySem.W.dataLt q p) := by
  refine sem_ord fun d e z h => ?_
  obtain ⟨c, h1, rfl⟩ := map_some h
  obtain ⟨p, q, a1, a2, a3, rfl⟩ := gtB_some h1
  exact ⟨p, q, a1, a2, a3, rfl⟩
theorem pe_gt' (o : OKx b L X) (ha : PE X e1 (rE b W fa)) (hb : PE X e2 (rE b W fb)) : PE X (.Compare e1 [.Gt] [e2] pos) (rE b W (evBin gtD fa fb)) :=
  pe_cmpM (op_gt' o) (by rw [o.K]; exact sem2 (r := fun K => rOrd K fun p q => PySem.W.dataLt q p) fun b => sem_gt) (nomark _) ha hb
theorem sem_le : Sem2b b leD (rOrd b.K fun p q => !PySem.W.dataLt q p) := by
  refine sem_ord fun d e z h => ?_
  obtain ⟨c, h1, rfl⟩ := map_some h
  obtain ⟨p, q, a1, a2, a3, rfl⟩ := gtB_some h1
  exact ⟨p, q, a1, a2, a3, rfl⟩
theorem pe_le' (o : OKx b L X) (ha : PE X e1 (rE b W fa)) (hb : PE X e2 (rE b W fb)) : PE X (.Compare e1 [.LtE] [e2] pos) (rE b W (evBin leD fa fb)) :=
  pe_cmpM (op_le' o) (by rw [o.K]; exact sem2 (r := fun K => rOrd K fun p q => !PySem.W.dataLt q p) fun b => sem_le) (nomark _) ha hb
theorem sem_ge : Sem2b b geD (rOrd b.K fun p q => !PySem.W.dataLt p q) := by
  refine sem_ord fun d e z h => ?_
  obtain ⟨c, h1, rfl⟩ := map_some h
  obtain ⟨p, q, a1, a2, a3, rfl⟩ := ltB_some h1
  exact ⟨p, q, a1, a2, a3, rfl⟩
theorem pe_ge' (o : OKx b L X) (ha : PE X e1 (rE b W fa)) (hb : PE X e2 (rE b W fb)) : PE X (.Compare e1 [.GtE] [e2] pos) (rE b W (evBin geD fa fb)) :=
  pe_cmpM (op_ge' o) (by rw [o.K]; exact sem2 (r := fun K => rOrd K fun p q => !PySem.W.dataLt p q) fun b => sem_ge) (nomark _) ha hb
end
end Mc
end
section
set_option Elab.async false
set_option linter.all false
set_option maxRecDepth 100000
set_option maxHeartbeats 4000000
set_option autoImplicit false
namespace Mc
open PySem PySem.Spec L2

section
variable {b : Bs} {W : WX} {L : Nat} {X : Cx} {pos : Pos} {e1 e2 e3 : Expr} {fa fb fc : M R}

/-! ### in, not in -/
def inB (d e : D) : Option Bool := match d.py, e with
  | some p, .lst ds => (match D.pys ds with
    | some ps => if (SeqAt.shaped p && SeqAt.shaped (.list ps)) = true then some (ps.any fun z => PyData.eqv z p) else none
    | none => none)
  | some p, .tup ds => (match D.pys ds with
    | some ps => if (SeqAt.shaped p && SeqAt.shaped (.tuple ps)) = true then some (ps.any fun z => PyData.eqv z p) else none
    | none => none)
  | _, _ => none
def inD (d e : D) : Option R := (inB d e).map fun c => .va (.bl c)
def ninD (d e : D) : Option R := (inB d e).map fun c => .va (.bl (!c))
def rInU (K : PySem.W.Frag) (neg : Bool) : R2 := fun x y H Q => ∃ d ds, Dp K H x d ∧ (Dp K H y (.list ds) ∧ SeqAt.shaped (.list ds) = true ∨ Dp K H y (.tuple ds) ∧ SeqAt.shaped (.tuple ds) = true) ∧ SeqAt.shaped d = true ∧
  Q (.bl (if neg = true then !ds.any fun z => PyData.eqv z d else ds.any fun z => PyData.eqv z d)) H
theorem room_sh {A : Around} {ds : List PyData} {d : PyData} (h : SeqAt.shaped d = true) (hu : A.units + 65 < cLine) : A.units + 1 + min (PyData.depthAll ds) d.depth < cLine := by
  have h' : (d.canLay0 && decide (d.depth ≤ 64)) = true := h
  have h2 := of_decide_eq_true (Bool.and_eq_true_iff.mp h').2
  have := Nat.min_le_right (PyData.depthAll ds) d.depth
  omega
theorem op_inU (o : OKx b L X) : OpR X (compareOp .In) (rInU X.K false) := by
  intro pins s σ H x y v u Q I rx ry ⟨d, ds, hd, he, sd, q⟩
  obtain ⟨as, r1⟩ := Dp.reads I d x v hd rx
  have hu : X.A.units + 65 < cLine := by have := o.un; omega
  rcases he with ⟨he, se⟩ | ⟨he, se⟩
  · obtain ⟨bs, r2⟩ := Dp.reads I (.list ds) y u he ry
    exact SeqAt.in_list_reads r2 r1 (SeqAt.canLay_of_shaped se) (SeqAt.canLay_of_shaped sd) (room_sh sd hu) ⟨.bl _, H, I, rfl, q⟩
  · obtain ⟨bs, r2⟩ := Dp.reads I (.tuple ds) y u he ry
    exact SeqAt.in_tuple_reads r2 r1 (SeqAt.canLay_of_shaped se) (SeqAt.canLay_of_shaped sd) (room_sh sd hu) ⟨.bl _, H, I, rfl, q⟩
theorem op_ninU (o : OKx b L X) : OpR X (compareOp .NotIn) (rInU X.K true) := by
  intro pins s σ H x y v u Q I rx ry ⟨d, ds, hd, he, sd, q⟩
  obtain ⟨as, r1⟩ := Dp.reads I d x v hd rx
  have hu : X.A.units + 65 < cLine := by have := o.un; omega
  rcases he with ⟨he, se⟩ | ⟨he, se⟩
  · obtain ⟨bs, r2⟩ := Dp.reads I (.list ds) y u he ry
    exact SeqAt.notIn_list_reads r2 r1 (SeqAt.canLay_of_shaped se) (SeqAt.canLay_of_shaped sd) (room_sh sd hu) ⟨.bl _, H, I, rfl, q⟩
  · obtain ⟨bs, r2⟩ := Dp.reads I (.tuple ds) y u he ry
    exact SeqAt.notIn_tuple_reads r2 r1 (SeqAt.canLay_of_shaped se) (SeqAt.canLay_of_shaped sd) (room_sh sd hu) ⟨.bl _, H, I, rfl, q⟩
theorem inB_some {d e : D} {c : Bool} {K : PySem.W.Frag} {mg : Str → Option Value} {H : Hp} {x y : V} (h : inB d e = some c) (hx : Rp K mg H x d) (hy : Rp K mg H y e) : ∃ p ps, Dp K H x p ∧ (Dp K H y (.list ps) ∧ SeqAt.shaped (.list ps) = true ∨ Dp K H y (.tuple ps) ∧ SeqAt.shaped (.tuple ps) = true) ∧ SeqAt.shaped p = true ∧ c = ps.any fun z => PyData.eqv z p := by
  unfold inB at h
  split at h
  · rename_i p ds h1
    split at h
    · rename_i ps h2
      split at h
      · rename_i hs
        cases h
        obtain ⟨a, b⟩ := Bool.and_eq_true_iff.mp hs
        exact ⟨p, ps, Rp.dp _ _ _ hx h1, Or.inl ⟨Rp.dp _ _ _ hy (by simp only [D.py, h2]), b⟩, a, rfl⟩
      · cases h
    · cases h
  · rename_i p ds h1
    split at h
    · rename_i ps h2
      split at h
      · rename_i hs
        cases h
        obtain ⟨a, b⟩ := Bool.and_eq_true_iff.mp hs
        exact ⟨p, ps, Rp.dp _ _ _ hx h1, Or.inr ⟨Rp.dp _ _ _ hy (by simp only [D.py, h2]), b⟩, a, rfl⟩
      · cases h
    · cases h
  · cases h
theorem sem_in : Sem2b b inD (rInU b.K false) := by
  intro σ S H ρ x y d e z G hx hy hz Q q
  obtain ⟨c, h1, rfl⟩ := map_some hz
  obtain ⟨p, ps, a1, a2, a3, rfl⟩ := inB_some h1 (hx.rp G.sub) (hy.rp G.sub)
  exact ⟨p, ps, a1, a2, a3, q _ H S (Hsub.refl _) G (.bl _)⟩
theorem sem_nin : Sem2b b ninD (rInU b.K true) := by
  intro σ S H ρ x y d e z G hx hy hz Q q
  obtain ⟨c, h1, rfl⟩ := map_some hz
  obtain ⟨p, ps, a1, a2, a3, rfl⟩ := inB_some h1 (hx.rp G.sub) (hy.rp G.sub)
  exact ⟨p, ps, a1, a2, a3, q _ H S (Hsub.refl _) G (.bl _)⟩
theorem pe_in' (o : OKx b L X) (ha : PE X e1 (rE b W fa)) (hb : PE X e2 (rE b W fb)) (hm : behindInMarks .In e2 = false := by rfl) : PE X (.Compare e1 [.In] [e2] pos) (rE b W (evBin inD fa fb)) :=
  pe_cmpM (op_inU o) (by rw [o.K]; exact sem2 (r := fun K => rInU K false) fun b => sem_in) hm ha hb
theorem pe_nin' (o : OKx b L X) (ha : PE X e1 (rE b W fa)) (hb : PE X e2 (rE b W fb)) (hm : behindInMarks .NotIn e2 = false := by rfl) : PE X (.Compare e1 [.NotIn] [e2] pos) (rE b W (evBin ninD fa fb)) :=
  pe_cmpM (op_ninU o) (by rw [o.K]; exact sem2 (r := fun K => rInU K true) fun b => sem_nin) hm ha hb

/-! ### is None, is True, is False -/
def D.isNon : D → Bool
  | .non => true
  | _ => false
def isB (d e : D) : Option Bool := match e with
  | .non => some d.isNon
  | .bl c => some (match d with | .bl a => a == c | _ => false)
  | _ => none
def isD (d e : D) : Option R := (isB d e).map fun c => .va (.bl c)
def isntD (d e : D) : Option R := (isB d e).map fun c => .va (.bl (!c))
def rIsK (neg : Bool) : R2 := fun x y H Q => (y = .non ∨ ∃ c, y = .bl c) ∧ Q (.bl (if neg = true then !decide (x = y) else decide (x = y))) H
theorem op_isK {X : Cx} : OpR X (compareOp .Is) (rIsK false) := by
  intro pins s σ H x y v u Q I rx ry ⟨hy, q⟩
  rcases hy with rfl | ⟨c, rfl⟩
  · cases ry
    exact PyProof.Rows.is_none_gen ⟨.bl _, H, I, by rw [rx.none_iff]; rfl, q⟩
  · cases ry
    have key : wpAny (model X.prog X.w) X.A (compareOp .Is v (.bool c)) (fun r s' => r = .bool (v == .bool c) ∧ s' = s) X.xe s := by
      cases x with
      | non => cases rx; exact wpAny_pure ⟨rfl, rfl⟩
      | bl a => cases rx; exact wpAny_pure ⟨rfl, rfl⟩
      | int a => obtain ⟨t, rfl⟩ := rx; exact wpAny_pure ⟨rfl, rfl⟩
      | str a => obtain ⟨t, rfl⟩ := rx; exact wpAny_pure ⟨rfl, rfl⟩
      | byt a => obtain ⟨t, rfl⟩ := rx; exact wpAny_pure ⟨rfl, rfl⟩
      | flt a => obtain ⟨t, rfl⟩ := rx; exact wpAny_pure ⟨rfl, rfl⟩
      | ref a => cases rx; exact wpAny_pure ⟨rfl, rfl⟩
      | ty a => cases rx; exact wpAny_pure ⟨rfl, rfl⟩
    refine thn key fun r s' ⟨h1, h2⟩ => ?_
    subst h1 h2
    have e : (v == Value.bool c) = decide (x = V.bl c) := by
      cases x with
      | non => cases rx; rfl
      | bl a => cases rx; cases a <;> cases c <;> rfl
      | int a => obtain ⟨t, rfl⟩ := rx; rfl
      | str a => obtain ⟨t, rfl⟩ := rx; rfl
      | byt a => obtain ⟨t, rfl⟩ := rx; rfl
      | flt a => obtain ⟨t, rfl⟩ := rx; rfl
      | ref a => cases rx; rfl
      | ty a => cases rx; rfl
    exact ⟨.bl _, H, I, by rw [e]; rfl, q⟩
theorem op_isntK {X : Cx} : OpR X (compareOp .IsNot) (rIsK true) := by
  intro pins s σ H x y v u Q I rx ry ⟨hy, q⟩
  rcases hy with rfl | ⟨c, rfl⟩
  · cases ry
    exact PyProof.Rows.isnot_none_gen ⟨.bl _, H, I, by rw [rx.none_iff]; rfl, q⟩
  · cases ry
    have key : wpAny (model X.prog X.w) X.A (compareOp .IsNot v (.bool c)) (fun r s' => r = .bool (!(v == .bool c)) ∧ s' = s) X.xe s := by
      cases x with
      | non => cases rx; exact wpAny_pure ⟨rfl, rfl⟩
      | bl a => cases rx; exact wpAny_pure ⟨rfl, rfl⟩
      | int a => obtain ⟨t, rfl⟩ := rx; exact wpAny_pure ⟨rfl, rfl⟩
      | str a => obtain ⟨t, rfl⟩ := rx; exact wpAny_pure ⟨rfl, rfl⟩
      | byt a => obtain ⟨t, rfl⟩ := rx; exact wpAny_pure ⟨rfl, rfl⟩
      | flt a => obtain ⟨t, rfl⟩ := rx; exact wpAny_pure ⟨rfl, rfl⟩
      | ref a => cases rx; exact wpAny_pure ⟨rfl, rfl⟩
      | ty a => cases rx; exact wpAny_pure ⟨rfl, rfl⟩
    refine thn key fun r s' ⟨h1, h2⟩ => ?_
    subst h1 h2
    have e : (v == Value.bool c) = decide (x = V.bl c) := by
      cases x with
      | non => cases rx; rfl
      | bl a => cases rx; cases a <;> cases c <;> rfl
      | int a => obtain ⟨t, rfl⟩ := rx; rfl
      | str a => obtain ⟨t, rfl⟩ := rx; rfl
      | byt a => obtain ⟨t, rfl⟩ := rx; rfl
      | flt a => obtain ⟨t, rfl⟩ := rx; rfl
      | ref a => cases rx; rfl
      | ty a => cases rx; rfl
    exact ⟨.bl _, H, I, by rw [e]; rfl, q⟩
theorem isB_ok {S H : Hp} {x y : V} {d e : D} {c : Bool} (hx : RV b S H x d) (hy : RV b S H y e) (h : isB d e = some c) : (y = .non ∨ ∃ c, y = .bl c) ∧ c = decide (x = y) := by
  have nref : ∀ {v : V}, (∃ a, x = .ref a) → (v = .non ∨ ∃ c, v = .bl c) → decide (x = v) = false := by
    rintro v ⟨a, rfl⟩ (rfl | ⟨c, rfl⟩) <;> exact decide_eq_false (fun z => nomatch z)
  have isr : (∃ ds, d = .lst ds) ∨ (∃ ds, d = .tup ds) ∨ (∃ c fs, d = .ob c fs) ∨ (∃ k, d = .dic k) ∨ (∃ k, d = .fn k) ∨ (∃ t cl, d = .lam t cl) ∨ (∃ t ds, d = .act t ds) → ∃ a, x = .ref a := by
    rintro (⟨ds, rfl⟩ | ⟨ds, rfl⟩ | ⟨c, fs, rfl⟩ | ⟨k, rfl⟩ | ⟨k, rfl⟩ | ⟨t, cl, rfl⟩ | ⟨t, ds, rfl⟩)
    · obtain ⟨a, vs, rfl, _⟩ := hx; exact ⟨a, rfl⟩
    · obtain ⟨a, vs, rfl, _⟩ := hx; exact ⟨a, rfl⟩
    · have hx : Rp b.K b.mg S x (.ob c fs) := hx
      cases hx; exact ⟨_, rfl⟩
    · have hx : Rp b.K b.mg S x (.dic k) := hx
      cases hx
    · have hx : Rp b.K b.mg S x (.fn k) := hx
      cases hx; exact ⟨_, rfl⟩
    · have hx : Rp b.K b.mg S x (.lam t cl) := hx
      cases hx; exact ⟨_, rfl⟩
    · have hx : Rp b.K b.mg S x (.act t ds) := hx
      cases hx; exact ⟨_, rfl⟩
  cases e with
  | non =>
    cases hy
    refine ⟨Or.inl rfl, ?_⟩
    cases h
    cases d with
    | non => cases hx; rfl
    | bl a => cases hx; rfl
    | int a => cases hx; rfl
    | str a => cases hx; rfl
    | tup ds => exact (nref (isr (Or.inr (Or.inl ⟨_, rfl⟩))) (Or.inl rfl)).symm
    | lst ds => exact (nref (isr (Or.inl ⟨_, rfl⟩)) (Or.inl rfl)).symm
    | ob c fs => exact (nref (isr (Or.inr (Or.inr (Or.inl ⟨_, _, rfl⟩)))) (Or.inl rfl)).symm
    | dic k => exact (nref (isr (Or.inr (Or.inr (Or.inr (Or.inl ⟨_, rfl⟩))))) (Or.inl rfl)).symm
    | fn k => exact (nref (isr (Or.inr (Or.inr (Or.inr (Or.inr (Or.inl ⟨_, rfl⟩)))))) (Or.inl rfl)).symm
    | lam t cl => exact (nref (isr (Or.inr (Or.inr (Or.inr (Or.inr (Or.inr (Or.inl ⟨_, _, rfl⟩))))))) (Or.inl rfl)).symm
    | act t ds => exact (nref (isr (Or.inr (Or.inr (Or.inr (Or.inr (Or.inr (Or.inr ⟨_, _, rfl⟩))))))) (Or.inl rfl)).symm
  | bl w =>
    cases hy
    refine ⟨Or.inr ⟨w, rfl⟩, ?_⟩
    cases h
    cases d with
    | non => cases hx; rfl
    | bl a => cases hx; cases a <;> cases w <;> rfl
    | int a => cases hx; rfl
    | str a => cases hx; rfl
    | tup ds => exact (nref (isr (Or.inr (Or.inl ⟨_, rfl⟩))) (Or.inr ⟨w, rfl⟩)).symm
    | lst ds => exact (nref (isr (Or.inl ⟨_, rfl⟩)) (Or.inr ⟨w, rfl⟩)).symm
    | ob c fs => exact (nref (isr (Or.inr (Or.inr (Or.inl ⟨_, _, rfl⟩)))) (Or.inr ⟨w, rfl⟩)).symm
    | dic k => exact (nref (isr (Or.inr (Or.inr (Or.inr (Or.inl ⟨_, rfl⟩))))) (Or.inr ⟨w, rfl⟩)).symm
    | fn k => exact (nref (isr (Or.inr (Or.inr (Or.inr (Or.inr (Or.inl ⟨_, rfl⟩)))))) (Or.inr ⟨w, rfl⟩)).symm
    | lam t cl => exact (nref (isr (Or.inr (Or.inr (Or.inr (Or.inr (Or.inr (Or.inl ⟨_, _, rfl⟩))))))) (Or.inr ⟨w, rfl⟩)).symm
    | act t ds => exact (nref (isr (Or.inr (Or.inr (Or.inr (Or.inr (Or.inr (Or.inr ⟨_, _, rfl⟩))))))) (Or.inr ⟨w, rfl⟩)).symm
  | _ => cases h
theorem sem_is : Sem2b b isD (rIsK false) := by
  intro σ S H ρ x y d e z G hx hy hz Q q
  obtain ⟨c, h1, rfl⟩ := map_some hz
  obtain ⟨a1, rfl⟩ := isB_ok hx hy h1
  exact ⟨a1, q _ H S (Hsub.refl _) G (.bl _)⟩
theorem sem_isnt : Sem2b b isntD (rIsK true) := by
  intro σ S H ρ x y d e z G hx hy hz Q q
  obtain ⟨c, h1, rfl⟩ := map_some hz
  obtain ⟨a1, rfl⟩ := isB_ok hx hy h1
  exact ⟨a1, q _ H S (Hsub.refl _) G (.bl _)⟩
theorem pe_is' (ha : PE X e1 (rE b W fa)) (hb : PE X e2 (rE b W fb)) : PE X (.Compare e1 [.Is] [e2] pos) (rE b W (evBin isD fa fb)) :=
  pe_cmpM op_isK (fun b _ => sem_is) (nomark _) ha hb
theorem pe_isnt' (ha : PE X e1 (rE b W fa)) (hb : PE X e2 (rE b W fb)) : PE X (.Compare e1 [.IsNot] [e2] pos) (rE b W (evBin isntD fa fb)) :=
  pe_cmpM op_isntK (fun b _ => sem_isnt) (nomark _) ha hb

/-! ### minus, subscripts -/
def evUn (g : D → Option R) (fa : M R) : M R := M.bnd (frzM fa) fun r1 ρ => match rdD ρ r1 with
  | some d => M.lift (g d) ρ
  | none => none
def Sem1b (b : Bs) (g : D → Option R) (r : V → Hp → VK → Prop) : Prop := ∀ (σ : L2.St) (S H : Hp) (ρ : ES) (x : V) (d : D) (z : R), Good b σ S H ρ → RV b S H x d → g d = some z →
  ∀ Q : VK, (∀ v H' S', Hsub S S' → Good b σ S' H' ρ → RR b σ S' H' ρ v z → Q v H') → r x H Q
theorem ev1_wp {g : D → Option R} {r : V → Hp → VK → Prop} (sem : Sem1b b g r) {σ : L2.St} {S H : Hp} {ρ : ES} {Q : VK} (w : Wp b W σ (evUn g fa) S H ρ fun S' H' ρ' r => ∀ v, RR b σ S' H' ρ' v r → Q v H') :
    Wp b W σ fa S H ρ fun S1 H1 ρ1 r1 => ∀ x, RR b σ S1 H1 ρ1 x r1 → r x H1 Q := by
  refine Wp.frz (K := fun x H1 => r x H1 Q) w fun S1 H1 ρ1 r1 x s1 G1 f1 w1 => ?_
  unfold Wp WpO at w1
  cases e1 : rdD ρ1 r1 with
  | none => simp only [e1] at w1
  | some d =>
    simp only [e1, M.lift] at w1
    cases e3 : g d with
    | none => simp only [e3] at w1
    | some z =>
      simp only [e3] at w1
      exact sem σ S1 H1 ρ1 x d z G1 (f1.rv G1 e1) e3 Q fun v H' S' s G' r => w1 S' H' s G' v r
def negD : D → Option R
  | .int i => some (.va (.int (-i)))
  | _ => none
theorem pe_neg' (ha : PE X e1 (rE b W fa)) : PE X (.UnaryOp .USub e1 pos) (rE b W (evUn negD fa)) := by
  refine PE.weak (pe_un un_neg ha) fun σ H Q ⟨b, S, ρ, eb, G, w⟩ => ⟨b, S, ρ, eb, G, ev1_wp (r := rU fun i => .int (-i)) ?_ w⟩
  intro σ S H ρ x d z G hx hz Q q
  cases d with
  | int i => cases hz; cases hx; exact ⟨i, rfl, q _ H S (Hsub.refl _) G (.int _)⟩
  | _ => cases hz
def ixD (d e : D) : Option R := match d, e with
  | .lst xs, .int i => (atI xs i).map .va
  | .tup xs, .int i => (atI xs i).map .va
  | .str x, .int i => if okN x.length = true then (atI x.cps.toList i).map fun c => .va (.str ⟨#[c]⟩) else none
  | _, _ => none
theorem Rps.atI {K : PySem.W.Frag} {mg : Str → Option Value} {S : Hp} {ds : List D} {vs : List V} {i : Int} {d : D} (r : Rps K mg S vs ds) (h : atI ds i = some d) : ∃ v, L2.atI vs i = some v ∧ Rp K mg S v d := by
  unfold L2.atI at h ⊢
  rw [Rps.length r]
  cases e : ixN ds.length i with
  | none => rw [e] at h; cases h
  | some j =>
    rw [e] at h
    exact Rps.get r h
theorem sem_ix : Sem2b b ixD (rIx b.K) := by
  intro σ S H ρ x y d e z G hx hy hz Q q
  unfold ixD at hz
  split at hz
  · rename_i xs i
    cases hy
    obtain ⟨a, vs, rfl, h1, r1⟩ := hx
    cases hi : atI xs i with
    | none => rw [hi] at hz; cases hz
    | some d =>
      rw [hi] at hz
      cases hz
      obtain ⟨v, h2, r2⟩ := Rps.atI r1 hi
      exact Or.inl ⟨a, vs, i, v, rfl, rfl, SqL.of h1, h2, q _ H S (Hsub.refl _) G r2⟩
  · rename_i xs i
    cases hy
    obtain ⟨a, vs, rfl, h1, r1⟩ := hx
    cases hi : atI xs i with
    | none => rw [hi] at hz; cases hz
    | some d =>
      rw [hi] at hz
      cases hz
      obtain ⟨v, h2, r2⟩ := Rps.atI r1 hi
      exact Or.inr (Or.inl ⟨a, vs, i, v, rfl, rfl, sqt_mono G.sub h1.1, h2, q _ H S (Hsub.refl _) G r2⟩)
  · rename_i s i
    cases hy
    cases hx
    split at hz
    · rename_i hl
      cases hi : atI s.cps.toList i with
      | none => rw [hi] at hz; cases hz
      | some c =>
        rw [hi] at hz
        cases hz
        exact Or.inr (Or.inr ⟨s, i, c, rfl, rfl, okN_sz hl, hi, q _ H S (Hsub.refl _) G (.str _)⟩)
    · cases hz
  · cases hz
theorem pe_ix' (o : OKx b L X) (ha : PE X e1 (rE b W fa)) (hb : PE X e2 (rE b W fb)) (hs : PlainIx e2 := by exact fun _ _ => rfl) : PE X (.Subscript e1 e2 pos) (rE b W (evBin ixD fa fb)) :=
  PE.weak (pe_ix (r := rIx X.K) ix_seq ha hb hs) fun _ _ _ ⟨b, S, ρ, eb, G, w⟩ => ⟨b, S, ρ, eb, G, ev2_wp eb (by rw [o.K, ← eb.1]; exact sem_ix) G w⟩
end
end Mc
end
section
set_option Elab.async false
set_option linter.all false
set_option maxRecDepth 100000
set_option maxHeartbeats 4000000
set_option autoImplicit false
namespace Mc
open PySem PySem.Spec L2

section
variable {b : Bs} {W : WX} {L : Nat} {X : Cx} {pos : Pos} {e1 e2 e3 : Expr} {fa fb fc : M R}

/-! ### truth -/
def truD : D → Option Bool
  | .non => some false
  | .bl c => some c
  | .int i => some (i != 0)
  | .str x => if okN x.length = true then some ((x.length : Int) != 0) else none
  | .tup xs => some (!xs.isEmpty)
  | .lst xs => some (!xs.isEmpty)
  | _ => none
def truR (ρ : ES) (r : R) : Option Bool := match rdD ρ r with
  | some d => truD d
  | none => none
theorem Rps.isEmpty {K : PySem.W.Frag} {mg : Str → Option Value} {S : Hp} {vs : List V} {ds : List D} (r : Rps K mg S vs ds) : vs.isEmpty = ds.isEmpty := by
  cases r <;> rfl
theorem truD_ok {S H : Hp} {v : V} {d : D} {c : Bool} (s : Hsub S H) (h : RV b S H v d) (e : truD d = some c) : TruV b.K v H c := by
  cases d with
  | non => cases h; cases e; rfl
  | bl c => cases h; cases e; rfl
  | int i => cases h; cases e; rfl
  | str x =>
    cases h
    unfold truD at e
    simp only at e
    split at e
    · rename_i hl; cases e; exact ⟨okN_sz hl, rfl⟩
    · cases e
  | tup xs => obtain ⟨a, vs, rfl, p, q⟩ := h; cases e; exact Or.inr (Or.inl ⟨vs, sqt_mono s p.1, by rw [Rps.isEmpty q]⟩)
  | lst xs => obtain ⟨a, vs, rfl, p, q⟩ := h; cases e; exact Or.inl ⟨vs, SqL.of p, by rw [Rps.isEmpty q]⟩
  | ob c fs => cases e
  | dic k => cases e
  | fn k => cases e
  | lam t cl => cases e
  | act t ds => cases e
theorem RF.tru {σ : L2.St} {S H : Hp} {ρ : ES} {v : V} {r : R} {c : Bool} (G : Good b σ S H ρ) (h : RF b σ S v r) (e : truR ρ r = some c) : TruV b.K v H c := by
  unfold truR at e
  split at e
  · rename_i d hd
    exact truD_ok G.sub (h.rv G hd) e
  · cases e
theorem RF.rr {σ : L2.St} {S H : Hp} {ρ : ES} {v : V} {r : R} (h : RF b σ S v r) : RR b σ S H ρ v r := by
  cases r with
  | va d => exact h
  | ow ds => exact h.elim
  | sl i => exact h

theorem rr_bl {σ : L2.St} {S H : Hp} {ρ : ES} (c : Bool) : RR b σ S H ρ (.bl c) (.va (.bl c)) := Rp.bl c
/-! ### and, or, not; a if c else b -/
def evAnd (fa fb : M R) : M R := M.bnd (frzM fa) fun r ρ => match truR ρ r with
  | some true => fb ρ
  | some false => some (.ok r ρ)
  | none => none
def evOr (fa fb : M R) : M R := M.bnd (frzM fa) fun r ρ => match truR ρ r with
  | some true => some (.ok r ρ)
  | some false => fb ρ
  | none => none
def evNot (fa : M R) : M R := M.bnd (frzM fa) fun r ρ => match truR ρ r with
  | some c => some (.ok (.va (.bl (!c))) ρ)
  | none => none
theorem pe_andM {rest : List Expr} (o : OKx b L X) (ha : PE X e1 (rE b W fa)) (hb : PE X (.BoolOp .And (e2 :: rest) pos) (rE b W fb)) : PE X (.BoolOp .And (e1 :: e2 :: rest) pos) (rE b W (evAnd fa fb)) := by
  refine PE.weak (pe_andT ha hb) fun σ H Q ⟨b', S, ρ, eb, G, w⟩ => ⟨b', S, ρ, eb, G, Wp.frz (K := fun x H1 => ∃ k, TruV X.K x H1 k ∧ if k = true then rE b W fb σ H1 Q else Q x H1) w fun S1 H1 ρ1 r x s1 G1 f1 w1 => ?_⟩
  cases e : truR ρ1 r with
  | none => exact wp_none (by simp only [e]) w1
  | some c =>
    refine ⟨c, by rw [o.K, ← eb.1]; exact f1.tru G1 e, ?_⟩
    cases c with
    | true => exact ⟨b', S1, ρ1, eb, G1, wp_is (by simp only [e]) w1⟩
    | false => exact wp_step (o := some (.ok r ρ1)) (by simp only [e]) w1 S1 H1 (Hsub.refl _) G1 x f1.rr
theorem pe_orM {rest : List Expr} (o : OKx b L X) (ha : PE X e1 (rE b W fa)) (hb : PE X (.BoolOp .Or (e2 :: rest) pos) (rE b W fb)) : PE X (.BoolOp .Or (e1 :: e2 :: rest) pos) (rE b W (evOr fa fb)) := by
  refine PE.weak (pe_orT ha hb) fun σ H Q ⟨b', S, ρ, eb, G, w⟩ => ⟨b', S, ρ, eb, G, Wp.frz (K := fun x H1 => ∃ k, TruV X.K x H1 k ∧ if k = true then Q x H1 else rE b W fb σ H1 Q) w fun S1 H1 ρ1 r x s1 G1 f1 w1 => ?_⟩
  cases e : truR ρ1 r with
  | none => exact wp_none (by simp only [e]) w1
  | some c =>
    refine ⟨c, by rw [o.K, ← eb.1]; exact f1.tru G1 e, ?_⟩
    cases c with
    | false => exact ⟨b', S1, ρ1, eb, G1, wp_is (by simp only [e]) w1⟩
    | true => exact wp_step (o := some (.ok r ρ1)) (by simp only [e]) w1 S1 H1 (Hsub.refl _) G1 x f1.rr
theorem pe_one1 {op} (h : PE X e1 (rE b W fa)) : PE X (.BoolOp op [e1] pos) (rE b W fa) := pe_one h
theorem pe_notM (o : OKx b L X) (ha : PE X e1 (rE b W fa)) : PE X (.UnaryOp .Not e1 pos) (rE b W (evNot fa)) := by
  refine PE.weak (pe_notT ha) fun σ H Q ⟨b', S, ρ, eb, G, w⟩ => ⟨b', S, ρ, eb, G, Wp.frz (K := fun x H1 => ∃ k, TruV X.K x H1 k ∧ Q (.bl (!k)) H1) w fun S1 H1 ρ1 r x s1 G1 f1 w1 => ?_⟩
  cases e : truR ρ1 r with
  | none => exact wp_none (by simp only [e]) w1
  | some c =>
    refine ⟨c, by rw [o.K, ← eb.1]; exact f1.tru G1 e, ?_⟩
    exact wp_ok (a := .va (.bl (!c))) (by simp only [e]) w1 (Hsub.refl _) G1 _ (rr_bl _)

/-! ### tests -/
def rT (b0 : Bs) (W : WX) (f : M Bool) : TT := fun σ H Q => ∃ b S ρ, EqB b b0 ∧ Good b σ S H ρ ∧ Wp b W σ f S H ρ fun S' H' ρ' c => Q c H'
def evTru (fa : M R) : M Bool := M.bnd (frzM fa) fun r ρ => match truR ρ r with
  | some c => some (.ok c ρ)
  | none => none
def evAndT (f g : M Bool) : M Bool := M.bnd f fun c => if c = true then g else M.ret false
def evOrT (f g : M Bool) : M Bool := M.bnd f fun c => if c = true then M.ret true else g
def evNotT (f : M Bool) : M Bool := M.bnd f fun c => M.ret (!c)
def evIf {α : Type} (c : M Bool) (f g : M α) : M α := M.bnd c fun k => if k = true then f else g
theorem tru_wp {σ : L2.St} {S H : Hp} {ρ : ES} {Q : Bool → Hp → Prop} {K : PySem.W.Frag} (eK : K = b.K) (w : Wp b W σ (evTru fa) S H ρ fun S' H' ρ' c => Q c H') :
    Wp b W σ fa S H ρ fun S1 H1 ρ1 r1 => ∀ x, RR b σ S1 H1 ρ1 x r1 → ∃ k, TruV K x H1 k ∧ Q k H1 := by
  refine Wp.frz (K := fun x H1 => ∃ k, TruV K x H1 k ∧ Q k H1) w fun S1 H1 ρ1 r x s1 G1 f1 w1 => ?_
  cases e : truR ρ1 r with
  | none => exact wp_none (by simp only [e]) w1
  | some c => exact ⟨c, by rw [eK]; exact f1.tru G1 e, wp_step (o := some (.ok c ρ1)) (by simp only [e]) w1 S1 H1 (Hsub.refl _) G1⟩
/-- a plain expression as a test -/
theorem pt_tru (o : OKx b L X) (ha : PE X e1 (rE b W fa)) (he : ∀ whole, isTrue e1 X.env whole = (do let v ← whole; standAt e1.pos; holding [v] (truthy v)) := by intro _; rfl) : PT X e1 (rT b W (evTru fa)) :=
  PT.weak (pt_truth ha he) fun σ H Q ⟨b', S, ρ, eb, G, w⟩ => ⟨b', S, ρ, eb, G, tru_wp (o.K.trans eb.1.symm) w⟩
def evBl (fa : M R) : M Bool := M.bnd fa fun r ρ => match r with
  | .va (.bl c) => some (.ok c ρ)
  | _ => none
/-- a comparison as a test -/
theorem pt_cmpM {op : CmpOp} {g : D → D → Option R} {r : R2} (ho : OpR X (compareOp op) r) (sem : Sem2 b.K g r) (hm : behindInMarks op e2 = false) (ha : PE X e1 (rE b W fa)) (hb : PE X e2 (rE b W fb)) : PT X (.Compare e1 [op] [e2] pos) (rT b W (evBl (evBin g fa fb))) := by
  refine PT.weak (pt_cmpR ho ha hb hm) fun σ H Q ⟨b', S, ρ, eb, G, w⟩ => ?_
  show tOp r (rE b W fa) (rE b W fb) σ H fun x H' => ∃ k, x = .bl k ∧ Q k H'
  refine ⟨b', S, ρ, eb, G, ev2_wp eb (sem b' eb.1) G (Wp.mono (Wp.bind w) fun S1 H1 ρ1 r1 s1 G1 w1 v hv => ?_)⟩
  cases r1 with
  | va d =>
    cases d with
    | bl c => cases hv; exact ⟨c, rfl, wp_step (o := some (.ok c ρ1)) rfl w1 S1 H1 (Hsub.refl _) G1⟩
    | _ => exact wp_none rfl w1
  | _ => exact wp_none rfl w1
theorem pt_notM {f : M Bool} (ha : PT X e1 (rT b W f)) : PT X (.UnaryOp .Not e1 pos) (rT b W (evNotT f)) :=
  PT.weak (pt_not ha) fun σ H Q ⟨b', S, ρ, eb, G, w⟩ => ⟨b', S, ρ, eb, G, Wp.mono (Wp.bind w) fun S1 H1 ρ1 c s1 G1 w1 => Wp.ret w1 G1⟩
theorem PW.weak {e : Expr} {t t' : TT} (h : PW X e t) (k : ∀ σ H Q, t' σ H Q → t σ H Q) : PW X e t' := ⟨fun wh pins s σ H Q I hw => h.run wh pins s σ H Q I (k σ H Q hw)⟩
theorem pw_and1M {f : M Bool} (ha : PT X e1 (rT b W f)) : PW X (.BoolOp .And [e1] pos) (rT b W f) := pw_and1 ha
theorem pw_or1M {f : M Bool} (ha : PT X e1 (rT b W f)) : PW X (.BoolOp .Or [e1] pos) (rT b W f) := pw_or1 ha
theorem pw_andM {rest : List Expr} {f g : M Bool} (ha : PT X e1 (rT b W f)) (hb : PW X (.BoolOp .And (e2 :: rest) pos) (rT b W g)) : PW X (.BoolOp .And (e1 :: e2 :: rest) pos) (rT b W (evAndT f g)) := by
  refine PW.weak (pw_and ha hb) fun σ H Q ⟨b', S, ρ, eb, G, w⟩ => ⟨b', S, ρ, eb, G, Wp.mono (Wp.bind w) fun S1 H1 ρ1 c s1 G1 w1 => ?_⟩
  cases c with
  | true => exact ⟨b', S1, ρ1, eb, G1, w1⟩
  | false => exact Wp.ret (a := false) w1 G1
theorem pw_orM {rest : List Expr} {f g : M Bool} (ha : PT X e1 (rT b W f)) (hb : PW X (.BoolOp .Or (e2 :: rest) pos) (rT b W g)) : PW X (.BoolOp .Or (e1 :: e2 :: rest) pos) (rT b W (evOrT f g)) := by
  refine PW.weak (pw_or ha hb) fun σ H Q ⟨b', S, ρ, eb, G, w⟩ => ⟨b', S, ρ, eb, G, Wp.mono (Wp.bind w) fun S1 H1 ρ1 c s1 G1 w1 => ?_⟩
  cases c with
  | false => exact ⟨b', S1, ρ1, eb, G1, w1⟩
  | true => exact Wp.ret (a := true) w1 G1
theorem pe_ifM {c : Expr} {f : M Bool} (hc : PT X c (rT b W f)) (ha : PE X e1 (rE b W fa)) (hb : PE X e2 (rE b W fb)) : PE X (.IfExp c e1 e2 pos) (rE b W (evIf f fa fb)) := by
  refine PE.weak (pe_ifExp hc ha hb) fun σ H Q ⟨b', S, ρ, eb, G, w⟩ => ⟨b', S, ρ, eb, G, Wp.mono (Wp.bind w) fun S1 H1 ρ1 c s1 G1 w1 => ?_⟩
  cases c with
  | true => exact ⟨b', S1, ρ1, eb, G1, w1⟩
  | false => exact ⟨b', S1, ρ1, eb, G1, w1⟩

/-! ### chains a < b < c -/
def evChain (g g' : D → D → Option R) (fa fb fc : M R) : M R := M.bnd (frzM fa) fun r1 => M.bnd (frzM fb) fun r2 ρ => match rdD ρ r1, rdD ρ r2 with
  | some d, some e => (match g d e with
    | some (.va (.bl true)) => M.bnd (frzM fc) (fun r3 ρ' => match rdD ρ' r2, rdD ρ' r3 with
      | some d', some e' => M.lift (g' d' e') ρ'
      | _, _ => none) ρ
    | some (.va (.bl false)) => some (.ok (.va (.bl false)) ρ)
    | _ => none)
  | _, _ => none
theorem chain_wp {b0 : Bs} (eb : EqB b b0) {g g' : D → D → Option R} {r r' : R2} (sem : Sem2b b g r) (sem' : Sem2b b g' r') {σ : L2.St} {S H : Hp} {ρ : ES} {Q : VK} (w : Wp b W σ (evChain g g' fa fb fc) S H ρ fun S' H' ρ' r => ∀ v, RR b σ S' H' ρ' v r → Q v H') :
    Wp b W σ fa S H ρ fun S1 H1 ρ1 r1 => ∀ x, RR b σ S1 H1 ρ1 x r1 → rE b0 W fb σ H1 fun y H2 => r x y H2 fun z H3 => ∃ k, z = .bl k ∧ (if k = true then rE b0 W fc σ H3 fun w' H4 => r' y w' H4 Q else Q (.bl false) H3) := by
  refine Wp.frz (K := fun x H1 => rE b0 W fb σ H1 fun y H2 => r x y H2 fun z H3 => ∃ k, z = .bl k ∧ (if k = true then rE b0 W fc σ H3 fun w' H4 => r' y w' H4 Q else Q (.bl false) H3)) w fun S1 H1 ρ1 r1 x s1 G1 f1 w1 => ⟨b, S1, ρ1, eb, G1, ?_⟩
  refine Wp.frz (K := fun y H2 => r x y H2 fun z H3 => ∃ k, z = .bl k ∧ (if k = true then rE b0 W fc σ H3 fun w' H4 => r' y w' H4 Q else Q (.bl false) H3)) w1 fun S2 H2 ρ2 r2 y s2 G2 f2 w2 => ?_
  cases h1 : rdD ρ2 r1 with
  | none => exact wp_none (by simp only [h1]) w2
  | some d =>
    cases h2 : rdD ρ2 r2 with
    | none => exact wp_none (by simp only [h1, h2]) w2
    | some e =>
      cases h3 : g d e with
      | none => exact wp_none (by simp only [h1, h2, h3]) w2
      | some z =>
        refine sem σ S2 H2 ρ2 x y d e z G2 ((f1.mono s2).rv G2 h1) (f2.rv G2 h2) h3 _ fun v H' S' s G' rv => ?_
        cases z with
        | ow ds => exact wp_none (by simp only [h1, h2, h3]) w2
        | sl i => exact wp_none (by simp only [h1, h2, h3]) w2
        | va z =>
          cases z with
          | bl k =>
            cases rv
            refine ⟨k, rfl, ?_⟩
            cases k with
            | false => exact wp_ok (a := .va (.bl false)) (by simp only [h1, h2, h3]) w2 s G' _ (rr_bl _)
            | true =>
              have w3 : Wp b W σ (M.bnd (frzM fc) (fun r3 ρ' => match rdD ρ' r2, rdD ρ' r3 with
                | some d', some e' => M.lift (g' d' e') ρ'
                | _, _ => none)) S2 H2 ρ2 (fun S' H' ρ' r => ∀ v, RR b σ S' H' ρ' v r → Q v H') := wp_is (by simp only [h1, h2, h3]) w2
              have w4 : Wp b W σ (M.bnd (frzM fc) (fun r3 ρ' => match rdD ρ' r2, rdD ρ' r3 with
                | some d', some e' => M.lift (g' d' e') ρ'
                | _, _ => none)) S' H' ρ2 (fun S' H' ρ' r => ∀ v, RR b σ S' H' ρ' v r → Q v H') := by
                exact WpO.sub w3 s
              refine ⟨b, S', ρ2, eb, G', Wp.frz (K := fun w' H4 => r' y w' H4 Q) w4 fun S3 H3 ρ3 r3 u s3 G3 f3 w5 => ?_⟩
              cases h4 : rdD ρ3 r2 with
              | none => exact wp_none (by simp only [h4]) w5
              | some d' =>
                cases h5 : rdD ρ3 r3 with
                | none => exact wp_none (by simp only [h4, h5]) w5
                | some e' =>
                  cases h6 : g' d' e' with
                  | none => exact wp_none (by simp only [h4, h5, h6, M.lift]) w5
                  | some z' => exact sem' σ S3 H3 ρ3 y u d' e' z' G3 ((f2.mono (s.trans s3)).rv G3 h4) (f3.rv G3 h5) h6 Q fun v H7 S7 s7 G7 rv7 => wp_step (o := some (.ok z' ρ3)) (by simp only [h4, h5, h6, M.lift]) w5 S7 H7 s7 G7 v rv7
          | _ => exact wp_none (by simp only [h1, h2, h3]) w2
theorem pe_chainM {op op' : CmpOp} {g g' : D → D → Option R} {r r' : R2} (ho : OpR X (compareOp op) r) (ho' : OpR X (compareOp op') r') (sem : Sem2 b.K g r) (sem' : Sem2 b.K g' r') (ha : PE X e1 (rE b W fa)) (hb : PE X e2 (rE b W fb)) (hc : PE X e3 (rE b W fc))
    (hm : lastMarks [op, op'] [e2, e3] = false := by with_unfolding_all rfl) : PE X (.Compare e1 [op, op'] [e2, e3] pos) (rE b W (evChain g g' fa fb fc)) :=
  PE.weak (pe_chain ho ho' ha hb hc hm) fun _ _ _ ⟨b', S, ρ, eb, G, w⟩ => ⟨b', S, ρ, eb, G, chain_wp eb (sem b' eb.1) (sem' b' eb.1) w⟩
theorem pt_chainM {op op' : CmpOp} {g g' : D → D → Option R} {r r' : R2} (ho : OpR X (compareOp op) r) (ho' : OpR X (compareOp op') r') (sem : Sem2 b.K g r) (sem' : Sem2 b.K g' r') (ha : PE X e1 (rE b W fa)) (hb : PE X e2 (rE b W fb)) (hc : PE X e3 (rE b W fc))
    (hm : lastMarks [op, op'] [e2, e3] = false := by with_unfolding_all rfl) : PT X (.Compare e1 [op, op'] [e2, e3] pos) (rT b W (evBl (evChain g g' fa fb fc))) := by
  refine PT.weak (pt_chain ho ho' ha hb hc hm) fun σ H Q ⟨b', S, ρ, eb, G, w⟩ => ?_
  show tChain r r' (rE b W fa) (rE b W fb) (rE b W fc) σ H fun x H' => ∃ k, x = .bl k ∧ Q k H'
  refine ⟨b', S, ρ, eb, G, chain_wp eb (sem b' eb.1) (sem' b' eb.1) (Wp.mono (Wp.bind w) fun S1 H1 ρ1 r1 s1 G1 w1 v hv => ?_)⟩
  cases r1 with
  | va d =>
    cases d with
    | bl c => cases hv; exact ⟨c, rfl, wp_step (o := some (.ok c ρ1)) rfl w1 S1 H1 (Hsub.refl _) G1⟩
    | _ => exact wp_none rfl w1
  | _ => exact wp_none rfl w1
end
end Mc
end
section
set_option Elab.async false
set_option linter.all false
set_option maxRecDepth 100000
set_option maxHeartbeats 4000000
set_option autoImplicit false
namespace Mc
open PySem PySem.Spec L2

/-! ### the frame's slots change -/
section
variable {b : Bs} {σ : L2.St} {S H : Hp} {ρ : ES}
theorem Own.set_ne {i j : Nat} {a : Addr} {s : Sl} {x : Option V} (h : Own (ρ.set i s) (σ.set i x) j a) (hj : j ≠ i) : Own ρ σ j a := by
  obtain ⟨h1, s', h2, h3⟩ := h
  rw [List.getElem?_set_ne (Ne.symm hj)] at h1 h2
  exact ⟨h1, s', h2, h3⟩
/-- a slot is stored: no list of its own -/
theorem Good.set (G : Good b σ S H ρ) {i : Nat} {s : Sl} {x : Option V} (hs : s.own = false) (hi : i < ρ.length) (ok : SlOk b S H (some x) s) : Good b (σ.set i x) S H (ρ.set i s) := by
  have key : ∀ {j a}, Own (ρ.set i s) (σ.set i x) j a → j ≠ i ∧ Own ρ σ j a := fun {j a} w => by
    have hj : j ≠ i := fun e => by
      subst e
      obtain ⟨_, s', h2, h3⟩ := w
      rw [List.getElem?_set_self hi] at h2
      cases h2
      rw [hs] at h3; cases h3
    exact ⟨hj, w.set_ne hj⟩
  refine ⟨G.sub, by rw [List.length_set, List.length_set]; exact G.len, fun j s' e => ?_, fun j k a h1 h2 => G.dis j k a (key h1).2 (key h2).2, G.k0, fun j a w => G.o0 j a (key w).2, G.s0, G.n0, G.f0, G.tab⟩
  by_cases hj : j = i
  · subst hj
    rw [List.getElem?_set_self hi] at e
    cases e
    rw [List.getElem?_set_self (by rw [← G.len]; exact hi)]
    exact ok
  · rw [List.getElem?_set_ne (Ne.symm hj)] at e
    rw [List.getElem?_set_ne (Ne.symm hj)]
    exact G.sl j s' e
theorem Good.setVa (G : Good b σ S H ρ) {i : Nat} {v : V} {d : D} (hi : i < ρ.length) (r : Rp b.K b.mg S v d) : Good b (σ.set i (some v)) S H (ρ.set i (.va d)) := G.set rfl hi ⟨v, rfl, r⟩
theorem Good.setNo (G : Good b σ S H ρ) {i : Nat} {x : Option V} (hi : i < ρ.length) : Good b (σ.set i x) S H (ρ.set i .no) := G.set rfl hi trivial
/-- a slot is stored: a list of its own -/
theorem Good.setOw (G : Good b σ S H ρ) {i : Nat} {v : V} {ds : List D} (hi : i < ρ.length) (r : RR b σ S H ρ v (.ow ds)) : Good b (σ.set i (some v)) S H (ρ.set i (.ow ds)) := by
  obtain ⟨a, vs, rfl, hH, hS, hr, hn, h0⟩ := r
  have hi' : i < σ.length := by rw [← G.len]; exact hi
  have key : ∀ {j c}, Own (ρ.set i (.ow ds)) (σ.set i (some (.ref a))) j c → (j = i ∧ c = a) ∨ (j ≠ i ∧ Own ρ σ j c) := fun {j c} w => by
    by_cases hj : j = i
    · subst hj
      obtain ⟨h1, _⟩ := w
      rw [List.getElem?_set_self hi'] at h1
      cases h1
      exact Or.inl ⟨rfl, rfl⟩
    · exact Or.inr ⟨hj, w.set_ne hj⟩
  refine ⟨G.sub, by rw [List.length_set, List.length_set]; exact G.len, fun j s' e => ?_, fun j k c h1 h2 => ?_, G.k0, fun j c w => ?_, G.s0, G.n0, G.f0, G.tab⟩
  · by_cases hj : j = i
    · subst hj
      rw [List.getElem?_set_self hi] at e
      cases e
      rw [List.getElem?_set_self hi']
      exact ⟨a, vs, rfl, hH, hS, hr⟩
    · rw [List.getElem?_set_ne (Ne.symm hj)] at e
      rw [List.getElem?_set_ne (Ne.symm hj)]
      exact G.sl j s' e
  · rcases key h1 with ⟨e1, e2⟩ | ⟨n1, w1⟩
    · rcases key h2 with ⟨e3, e4⟩ | ⟨n2, w2⟩
      · exact e1.trans e3.symm
      · subst e2; exact (hn k w2).elim
    · rcases key h2 with ⟨e3, e4⟩ | ⟨n2, w2⟩
      · subst e4; exact (hn j w1).elim
      · exact G.dis j k c w1 w2
  · rcases key w with ⟨e1, e2⟩ | ⟨n1, w1⟩
    · subst e2; exact h0
    · exact G.o0 j c w1
end

/-! ### targets -/
abbrev Tg := D → ES → Option ES
abbrev Tgs := List D → ES → Option ES
def rG (b0 : Bs) (is : List Nat) (t : Tg) : TG := fun v σ H Q => ∃ b S ρ d ρ', EqB b b0 ∧ Good b σ S H ρ ∧ Rp b.K b.mg S v d ∧ t d ρ = some ρ' ∧ ∀ σ', Good b σ' S H ρ' → (∀ j, j ∉ is → σ'[j]? = σ[j]?) → σ'.length = σ.length → Q σ' H
def rGs (b0 : Bs) (is : List Nat) (t : Tgs) : TGs := fun vs σ H Q => ∃ b S ρ ds ρ', EqB b b0 ∧ Good b σ S H ρ ∧ Rps b.K b.mg S vs ds ∧ t ds ρ = some ρ' ∧ ∀ σ', Good b σ' S H ρ' → (∀ j, j ∉ is → σ'[j]? = σ[j]?) → σ'.length = σ.length → Q σ' H
theorem PG.weak {X : Cx} {e : Expr} {t t' : TG} (h : PG X e t) (k : ∀ v σ H Q, t' v σ H Q → t v σ H Q) : PG X e t' := ⟨fun pins s σ H v u Q I r hw => h.run pins s σ H v u Q I r (k v σ H Q hw)⟩
theorem PGs.weak {X : Cx} {e : List Expr} {t t' : TGs} (h : PGs X e t) (k : ∀ v σ H Q, t' v σ H Q → t v σ H Q) : PGs X e t' := ⟨fun pins s σ H v u Q I r hw => h.run pins s σ H v u Q I r (k v σ H Q hw)⟩
def tgN (i : Nat) : Tg := fun d ρ => if i < ρ.length then some (ρ.set i (.va d)) else none
def tgNil : Tgs := fun ds ρ => match ds with | [] => some ρ | _ => none
def tgCons (t : Tg) (u : Tgs) : Tgs := fun ds ρ => match ds with | d :: r => (match t d ρ with | some ρ' => u r ρ' | none => none) | [] => none
def tgTup (n : Nat) (u : Tgs) : Tg := fun d ρ => match d with | .tup ds => if ds.length = n then u ds ρ else none | _ => none
section
variable {b : Bs} {W : WX} {L : Nat} {X : Cx} {pos : Pos} {e1 e2 : Expr} {fa fb : M R}
theorem pg_n (i : Nat) {x : Str} (o : OKx b L X) (hi : X.N[i]? = some x := by rfl) (hx : Loc X.env.scope x := by first | exact Or.inl rfl | exact Or.inr rfl) (hf : X.fn x = true ∨ X.env.scope.names.lookup x = some .local := by first | exact .inl rfl | exact .inr rfl) : PG X (.Name x pos) (rG b [i] (tgN i)) := by
  refine PG.weak (pg_name (i := i) o.nd hi hx hf) fun v σ H Q ⟨b', S, ρ, d, ρ', eb, G, r, ht, k⟩ => ?_
  unfold tgN at ht
  split at ht
  · rename_i hl
    cases ht
    exact k _ (G.setVa hl r) (fun j hj => by rw [List.getElem?_set_ne (fun e => hj (by simp [e]))]) (by rw [List.length_set])
  · cases ht
theorem pgs_n : PGs X [] (rGs b [] tgNil) := by
  refine PGs.weak pgs_nil fun vs σ H Q ⟨b', S, ρ, ds, ρ', eb, G, r, ht, k⟩ => ?_
  cases r with
  | nil =>
    cases ht
    exact ⟨rfl, k σ G (fun _ _ => rfl) rfl⟩
  | cons _ _ => cases ht
theorem pgs_c {e : Expr} {es : List Expr} {is js : List Nat} {t : Tg} {u : Tgs} (h1 : PG X e (rG b is t)) (h2 : PGs X es (rGs b js u)) (hs : (assignEach (e :: es) X.env).map (·.2) = assign e X.env :: (assignEach es X.env).map (·.2) := by rfl) :
    PGs X (e :: es) (rGs b (is ++ js) (tgCons t u)) := by
  refine PGs.weak (pgs_cons h1 h2 hs) fun vs σ H Q ⟨b', S, ρ, ds, ρ', eb, G, r, ht, k⟩ => ?_
  cases r with
  | nil => cases ht
  | cons r1 r2 =>
    unfold tgCons at ht
    simp only at ht
    split at ht
    · rename_i ρ1 h1
      refine ⟨_, _, rfl, b', S, ρ, _, ρ1, eb, G, r1, h1, fun σ1 G1 k1 l1 => ⟨b', S, ρ1, _, ρ', eb, G1, r2, ht, fun σ2 G2 k2 l2 => k σ2 G2 (fun j hj => ?_) (l2.trans l1)⟩⟩
      rw [List.mem_append, not_or] at hj
      exact (k2 j hj.2).trans (k1 j hj.1)
    · cases ht
theorem pg_t {es : List Expr} {k n : Nat} {is : List Nat} {u : Tgs} (o : OKx b L X) (h : PGs X es (rGs b is u)) (hn : (assignEach es X.env).length = n := by rfl) (hst : (assignEach es X.env).findIdx? (·.1) = none := by rfl) : PG X (.Tuple es k pos) (rG b is (tgTup n u)) := by
  refine PG.weak (pg_tup o.calm h hn hst) fun v σ H Q ⟨b', S, ρ, d, ρ', eb, G, r, ht, k⟩ => ?_
  cases r with
  | tup p q =>
    unfold tgTup at ht
    simp only at ht
    split at ht
    · rename_i hl
      exact ⟨_, _, rfl, by rw [o.K, ← eb.1]; exact sqt_mono G.sub p.1, by rw [Rps.length q]; exact hl, b', S, ρ, _, ρ', eb, G, q, ht, k⟩
    · cases ht
  | _ => cases ht
end

/-! ### statements -/
inductive Fl where
  | nx | rt (r : R) | bk | ct
def WpS (b : Bs) (W : WX) (o : Option (Res Fl)) (S : Hp) (D : Ends) : Prop :=
  match o with
  | none => False
  | some (.ok .nx ρ') => ∀ σ' S' H', Hsub S S' → Good b σ' S' H' ρ' → D.nx σ' H'
  | some (.ok .bk ρ') => ∀ σ' S' H', Hsub S S' → Good b σ' S' H' ρ' → D.bk σ' H'
  | some (.ok .ct ρ') => ∀ σ' S' H', Hsub S S' → Good b σ' S' H' ρ' → D.ct σ' H'
  | some (.ok (.rt r) ρ') => ∀ σ' S' H' v, Hsub S S' → Good b σ' S' H' ρ' → RR b σ' S' H' ρ' v r → D.rt v H'
  | some (.er x ρ') => ∀ σ' S' H' cls d, Hsub S S' → Good b σ' S' H' ρ' → ExR b S' H' cls d x → W cls d σ' H'
def rS (b0 : Bs) (W : WX) (f : M Fl) : TS := fun D σ H => ∃ b S ρ, EqB b b0 ∧ Good b σ S H ρ ∧ WpS b W (f ρ) S D
section
variable {b : Bs} {W : WX} {σ : L2.St} {S S' H : Hp} {ρ : ES} {D : Ends}
theorem WpS.sub {o : Option (Res Fl)} (h : WpS b W o S D) (s : Hsub S S') : WpS b W o S' D := by
  unfold WpS at h ⊢
  split at h
  · exact h
  · exact fun σ2 S2 H2 s2 => h σ2 S2 H2 (s.trans s2)
  · exact fun σ2 S2 H2 s2 => h σ2 S2 H2 (s.trans s2)
  · exact fun σ2 S2 H2 s2 => h σ2 S2 H2 (s.trans s2)
  · exact fun σ2 S2 H2 v s2 => h σ2 S2 H2 v (s.trans s2)
  · exact fun σ2 S2 H2 c d s2 => h σ2 S2 H2 c d (s.trans s2)
theorem WpS.bind {α : Type} {f : M α} {g : α → M Fl} (h : WpS b W (M.bnd f g ρ) S D) : Wp b W σ f S H ρ fun S' H' ρ' a => WpS b W (g a ρ') S' D := by
  unfold M.bnd at h
  unfold Wp
  cases e : f ρ with
  | none => rw [e] at h; exact h
  | some r =>
    rw [e] at h
    cases r with
    | er x ρ' => exact fun S' H' cls d s G x => h σ S' H' cls d s G x
    | ok a ρ' => exact fun S' H' s G => WpS.sub (show WpS b W (g a ρ') S D from h) s
theorem wps_is {o o' : Option (Res Fl)} (h : o = o') (w : WpS b W o S D) : WpS b W o' S D := h ▸ w
theorem wps_none {o : Option (Res Fl)} {Z : Prop} (h : o = none) (w : WpS b W o S D) : Z := by subst h; exact w.elim
end
def evSeq (f g : M Fl) : M Fl := fun ρ => match f ρ with
  | some (.ok .nx ρ') => g ρ'
  | o => o
def evSkip : M Fl := M.ret .nx
section
variable {b : Bs} {W : WX} {L : Nat} {X : Cx} {pos : Pos} {e1 e2 : Expr} {fa fb : M R} {st : Stmt} {rest : List Stmt} {f g : M Fl}
theorem seq_wp {D : Ends} {b0 : Bs} {S : Hp} {ρ : ES} (eb : EqB b b0) (w : WpS b W (evSeq f g ρ) S D) : WpS b W (f ρ) S { D with nx := rS b0 W g D } := by
  unfold evSeq at w
  cases e : f ρ with
  | none => rw [e] at w; exact w
  | some r =>
    rw [e] at w
    cases r with
    | er x ρ' => exact w
    | ok fl ρ' =>
      cases fl with
      | nx => exact fun σ' S' H' s G => ⟨b, S', ρ', eb, G, WpS.sub (show WpS b W (g ρ') S D from w) s⟩
      | bk => exact w
      | ct => exact w
      | rt r => exact w
theorem ss_nil : PSs X [] (rS b W evSkip) := PSs.weak pss_nil fun D σ H ⟨b', S, ρ, eb, G, w⟩ => w σ S H (Hsub.refl _) G
theorem ss_cons (h1 : PS X st (rS b W f)) (h2 : PSs X rest (rS b W g)) : PSs X (st :: rest) (rS b W (evSeq f g)) :=
  PSs.weak (pss_cons h1 h2) fun D σ H ⟨b', S, ρ, eb, G, w⟩ => ⟨b', S, ρ, eb, G, seq_wp eb w⟩
theorem ss_one (h1 : PS X st (rS b W f)) : PSs X [st] (rS b W f) := pss_one h1
theorem s_pass : PS X (.Pass pos) (rS b W evSkip) := PS.weak ps_pass fun D σ H ⟨b', S, ρ, eb, G, w⟩ => w σ S H (Hsub.refl _) G
def evBreak : M Fl := M.ret .bk
def evCont : M Fl := M.ret .ct
theorem s_break : PS X (.Break pos) (rS b W evBreak) := PS.weak ps_break fun D σ H ⟨b', S, ρ, eb, G, w⟩ => w σ S H (Hsub.refl _) G
theorem s_cont : PS X (.Continue pos) (rS b W evCont) := PS.weak ps_continue fun D σ H ⟨b', S, ρ, eb, G, w⟩ => w σ S H (Hsub.refl _) G
def evDrop (fa : M R) : M Fl := M.bnd fa fun _ => M.ret .nx
theorem s_expr (he : PE X e1 (rE b W fa)) (hs : swapsWith e1 none pos.line X.env = pure false := by rfl) : PS X (.Expr e1 pos) (rS b W (evDrop fa)) :=
  PS.weak (ps_expr he hs) fun D σ H ⟨b', S, ρ, eb, G, w⟩ => ⟨b', S, ρ, eb, G, Wp.mono (WpS.bind w) fun S' H' ρ' r s G' w' v hv => w' σ S' H' (Hsub.refl _) G'⟩
def evRet (fa : M R) : M Fl := M.bnd fa fun r ρ => match r with
  | .sl i => (match ρ[i]? with
    | some (.ow ds) => some (.ok (.rt (.ow ds)) (ρ.set i .no))
    | _ => none)
  | r => some (.ok (.rt r) ρ)
theorem s_retN : PS X (.Return none pos) (rS b W (M.ret (.rt (.va .non)))) := PS.weak ps_retN fun D σ H ⟨b', S, ρ, eb, G, w⟩ => w σ S H .non (Hsub.refl _) G .non
def evIfS (c : M Bool) (f g : M Fl) : M Fl := evIf c f g
theorem s_if {c : Expr} {as bs : List Stmt} {fc : M Bool} (hc : PT X c (rT b W fc)) (ha : PSs X as (rS b W f)) (hb : PSs X bs (rS b W g)) : PS X (.If c as bs pos) (rS b W (evIf fc f g)) := by
  refine PS.weak (ps_if hc ha hb) fun D σ H ⟨b', S, ρ, eb, G, w⟩ => ⟨b', S, ρ, eb, G, Wp.mono (WpS.bind w) fun S' H' ρ' c s G' w' => ?_⟩
  cases c with
  | true => exact ⟨b', S', ρ', eb, G', w'⟩
  | false => exact ⟨b', S', ρ', eb, G', w'⟩
/-- x = e -/
def evAsg (i : Nat) (fa : M R) : M Fl := M.bnd fa fun r ρ => if i < ρ.length then (match r with
  | .va d => some (.ok .nx (ρ.set i (.va d)))
  | .ow ds => some (.ok .nx (ρ.set i (.ow ds)))
  | .sl j => (match ρ[j]? with
    | some (.ow ds) => some (.ok .nx ((ρ.set j (.va (.lst ds))).set i (.va (.lst ds))))
    | _ => none)) else none
theorem asg_wp {D : Ends} {i : Nat} {σ : L2.St} {S H : Hp} {ρ : ES} (w : WpS b W (evAsg i fa ρ) S D) : Wp b W σ fa S H ρ fun S' H' ρ' r => ∀ v, RR b σ S' H' ρ' v r → D.nx (σ.set i (some v)) H' := by
  refine Wp.mono (WpS.bind w) fun S' H' ρ' r s G w' v hv => ?_
  by_cases hi : i < ρ'.length
  · simp only [if_pos hi] at w'
    cases r with
    | va d => exact w' _ S' H' (Hsub.refl _) (G.setVa hi hv)
    | ow ds => exact w' _ S' H' (Hsub.refl _) (G.setOw hi hv)
    | sl j =>
      cases hj : ρ'[j]? with
      | none => exact wps_none (by simp only [hj]) w'
      | some sl =>
        cases sl with
        | ow ds =>
          simp only [hj] at w'
          obtain ⟨a, vs, e1, r1, r2, r3⟩ := G.sl j _ hj
          have hv' : σ[j]? = some (some v) := hv
          have e2 := hv'.symm.trans e1
          cases e2
          have G' := G.settle hj hv' r1 r2 r3
          have rp : Rp b.K b.mg (upd S' a (.lst vs)) (.ref a) (.lst ds) := .lst upd_same (Rps.mono (Hsub.new r2) _ _ r3)
          exact w' _ _ H' (Hsub.new r2) (G'.setVa (by rw [List.length_set]; exact hi) rp)
        | _ => exact wps_none (by simp only [hj]) w'
  · exact wps_none (if_neg hi) w'
theorem s_set (i : Nat) {x : Str} {pos' : Pos} (o : OKx b L X) (he : PE X e1 (rE b W fa)) (hi : X.N[i]? = some x := by rfl) (hx : Loc X.env.scope x := by first | exact Or.inl rfl | exact Or.inr rfl) (hs : swapsWith e1 (some (.Name x pos')) pos.line X.env = pure false := by rfl)
    (hf : X.fn x = true ∨ X.env.scope.names.lookup x = some .local := by first | exact .inl rfl | exact .inr rfl) : PS X (.Assign [.Name x pos'] e1 pos) (rS b W (evAsg i fa)) :=
  PS.weak (ps_set (i := i) o.nd hi hx he hs hf) fun D σ H ⟨b', S, ρ, eb, G, w⟩ => ⟨b', S, ρ, eb, G, asg_wp w⟩
/-- a value that is stored in parts -/
def evAsgT (t : Tg) (fa : M R) : M Fl := M.bnd (frzM fa) fun r => M.bnd (frzS r) fun d ρ => match t d ρ with
  | some ρ' => some (.ok .nx ρ')
  | none => none
theorem s_asgT {tg : Expr} {is : List Nat} {t : Tg} (he : PE X e1 (rE b W fa)) (hg : PG X tg (rG b is t)) (hs : swapsWithSole [tg] e1 pos.line X.env = pure false := by rfl) (hw : swappedStores [tg] e1 X.env = pure none := by rfl)
    (h1 : (assignEach [tg] X.env).map (·.2) = [assign tg X.env] := by rfl) : PS X (.Assign [tg] e1 pos) (rS b W (evAsgT t fa)) := by
  refine PS.weak (ps_asg he hg hs hw h1) fun D σ H ⟨b', S, ρ, eb, G, w⟩ => ⟨b', S, ρ, eb, G, ?_⟩
  refine Wp.frz0 (K := fun x H1 => rG b is t x σ H1 D.nx) (WpS.bind (σ := σ) (H := H) (f := frzM fa) w) fun S1 H1 ρ1 r v s1 G1 f1 w1 => ?_
  obtain ⟨S2, ρ2, d, s2, G2, r2, w2⟩ := Wp.frzS G1 f1 (WpS.bind (σ := σ) (H := H1) w1)
  cases ht : t d ρ2 with
  | none => exact wps_none (by simp only [ht]) w2
  | some ρ3 =>
    simp only [ht] at w2
    exact ⟨b', S2, ρ2, d, ρ3, eb, G2, r2, ht, fun σ' G' _ _ => w2 σ' S2 H1 (Hsub.refl _) G'⟩
theorem s_ret (he : PE X e1 (rE b W fa)) : PS X (.Return (some e1) pos) (rS b W (evRet fa)) := by
  refine PS.weak (ps_ret he) fun D σ H ⟨b', S, ρ, eb, G, w⟩ => ⟨b', S, ρ, eb, G, Wp.mono (WpS.bind w) fun S' H' ρ' r s G' w' v hv => ?_⟩
  cases r with
  | va d => exact w' σ S' H' v (Hsub.refl _) G' hv
  | ow ds => exact w' σ S' H' v (Hsub.refl _) G' hv
  | sl i =>
    cases hi : ρ'[i]? with
    | none => exact wps_none (by simp only [hi]) w'
    | some sl =>
      cases sl with
      | ow ds =>
        simp only [hi] at w'
        obtain ⟨a, vs, e1, r1, r2, r3⟩ := G'.sl i _ hi
        have hv' : σ[i]? = some (some v) := hv
        have e2 := hv'.symm.trans e1
        cases e2
        have hlt : i < ρ'.length := (List.getElem?_eq_some_iff.mp hi).1
        have hltσ : i < σ.length := by rw [← G'.len]; exact hlt
        have G2 : Good b' (σ.set i none) S' H' (ρ'.set i .no) := G'.setNo hlt
        have w0 : Own ρ' σ i a := ⟨hv', _, hi, rfl⟩
        refine w' _ S' H' (.ref a) (Hsub.refl _) G2 ⟨a, vs, rfl, r1, r2, r3, fun j wj => ?_, G'.o0 i a w0⟩
        have hj : j ≠ i := fun e => by
          subst e
          obtain ⟨q, _⟩ := wj
          rw [List.getElem?_set_self hltσ] at q
          cases q
        exact hj (G'.dis j i a (wj.set_ne hj) w0)
      | _ => exact wps_none (by simp only [hi]) w'
end
end Mc
end
section
set_option Elab.async false
set_option linter.all false
set_option maxRecDepth 100000
set_option maxHeartbeats 4000000
set_option autoImplicit false
namespace Mc
open PySem PySem.Spec L2

/-! ### walks -/
structure Wk (K : PySem.W.Frag) (mg : Str → Option Value) (J : It) (S : Hp) (ds : List D) : Prop where
  go : ∀ (b : Bs) (σ : L2.St) (S' H : Hp) (ρ : ES) (i : Nat), b.K = K → b.mg = mg → Hsub S S' → Good b σ S' H ρ → i < ds.length → J.go i H
  yld : ∀ (b : Bs) (σ : L2.St) (S' H H' : Hp) (ρ : ES) (i : Nat) (d : D) (x : V), b.K = K → b.mg = mg → Hsub S S' → Good b σ S' H ρ → ds[i]? = some d → J.yld i H x H' → ∃ S2, Hsub S' S2 ∧ Good b σ S2 H' ρ ∧ Rp K mg S2 x d
  stop : ∀ (b : Bs) (σ : L2.St) (S' H : Hp) (ρ : ES), b.K = K → b.mg = mg → Hsub S S' → Good b σ S' H ρ → J.stop ds.length H
theorem Wk.lst {K : PySem.W.Frag} {mg : Str → Option Value} {S : Hp} {a : Addr} {vs : List V} {ds : List D} (h : S a = some (.lst vs)) (r : Rps K mg S vs ds) : Wk K mg (Itl K a) S ds where
  go := fun b σ S' H ρ i e1 e2 s G hi => by
    have hl := Rps.length r
    exact ⟨vs, vs[i]'(by omega), SqL.of (G.sub _ _ (s _ _ h)), by simp⟩
  yld := fun b σ S' H H' ρ i d x e1 e2 s G hd ⟨eH, hy⟩ => by
    obtain ⟨v, hv, rv⟩ := Rps.get r hd
    have hx := hy vs (SqL.of (G.sub _ _ (s _ _ h)))
    rw [hv] at hx; cases hx
    subst eH
    exact ⟨S', Hsub.refl _, G, Rp.mono s _ _ rv⟩
  stop := fun b σ S' H ρ e1 e2 s G => ⟨vs, SqL.of (G.sub _ _ (s _ _ h)), by rw [Rps.length r]; exact Nat.le_refl _⟩
theorem Wk.tup {K : PySem.W.Frag} {mg : Str → Option Value} {S : Hp} {a : Addr} {vs : List V} {ds : List D} (h : SqT K S a vs) (r : Rps K mg S vs ds) : Wk K mg (Itt K a) S ds where
  go := fun b σ S' H ρ i e1 e2 s G hi => by
    have hl := Rps.length r
    exact ⟨vs, vs[i]'(by omega), sqt_mono (s.trans G.sub) h, by simp⟩
  yld := fun b σ S' H H' ρ i d x e1 e2 s G hd ⟨eH, hy⟩ => by
    obtain ⟨v, hv, rv⟩ := Rps.get r hd
    have hx := hy vs (sqt_mono (s.trans G.sub) h)
    rw [hv] at hx; cases hx
    subst eH
    exact ⟨S', Hsub.refl _, G, Rp.mono s _ _ rv⟩
  stop := fun b σ S' H ρ e1 e2 s G => ⟨vs, sqt_mono (s.trans G.sub) h, by rw [Rps.length r]; exact Nat.le_refl _⟩
def rngD (lo c : Int) (n : Nat) : List D := (List.range n).map fun i => .int (lo + (i : Nat) * c)
theorem rngD_length (lo c : Int) (n : Nat) : (rngD lo c n).length = n := by unfold rngD; simp
theorem rngD_get {lo c : Int} {n i : Nat} {d : D} (h : (rngD lo c n)[i]? = some d) : d = .int (lo + (i : Nat) * c) := by
  unfold rngD at h
  rw [List.getElem?_map] at h
  by_cases hi : i < n
  · rw [List.getElem?_range hi] at h; cases h; rfl
  · rw [List.getElem?_eq_none (by simpa using Nat.le_of_not_lt hi)] at h; cases h
theorem Wk.rng {K : PySem.W.Frag} {mg : Str → Option Value} {S : Hp} {lo : Int} {n : Nat} : Wk K mg (Itr lo n) S (rngD lo 1 n) where
  go := fun b σ S' H ρ i e1 e2 s G hi => by rw [rngD_length] at hi; exact hi
  yld := fun b σ S' H H' ρ i d x e1 e2 s G hd ⟨eH, hx⟩ => by
    subst eH; subst hx
    have := rngD_get hd
    subst this
    refine ⟨S', Hsub.refl _, G, ?_⟩
    rw [Int.mul_one]
    exact .int _
  stop := fun b σ S' H ρ e1 e2 s G => by rw [rngD_length]; exact Nat.le_refl n
theorem Wk.rngC {K : PySem.W.Frag} {mg : Str → Option Value} {S : Hp} {lo c : Int} {n : Nat} : Wk K mg (Itc lo c n) S (rngD lo c n) where
  go := fun b σ S' H ρ i e1 e2 s G hi => by rw [rngD_length] at hi; exact hi
  yld := fun b σ S' H H' ρ i d x e1 e2 s G hd ⟨eH, hx⟩ => by
    subst eH; subst hx
    have := rngD_get hd
    subst this
    exact ⟨S', Hsub.refl _, G, .int _⟩
  stop := fun b σ S' H ρ e1 e2 s G => by rw [rngD_length]; exact Nat.le_refl n

/-! ### iterables -/
def iX (b0 : Bs) (W : WX) (f : M (List D)) : TI := fun σ H R => ∃ b S ρ, EqB b b0 ∧ Good b σ S H ρ ∧ Wp b W σ f S H ρ fun S' H' ρ' ds => ∀ J, Wk b.K b.mg J S' ds → R J H'
theorem PI.weak {X : Cx} {tg e : Expr} {t t' : TI} (h : PI X tg e t) (k : ∀ σ H Q, t' σ H Q → t σ H Q) : PI X tg e t' := ⟨fun pins s σ H Q I hw => h.run pins s σ H Q I (k σ H Q hw)⟩
def iSq (K : PySem.W.Frag) (tl : TE) : TI := fun σ H R => tl σ H fun x H1 => ∃ a, x = .ref a ∧ ((∃ xs, SqL K H1 a xs) ∧ R (Itl K a) H1 ∨ (∃ xs, SqT K H1 a xs) ∧ R (Itt K a) H1)
theorem pi_sq {X : Cx} {tg l : Expr} {tl : TE} (hl : PE X l tl) : PI X tg l (iSq X.K tl) := by
  refine ⟨fun pins st σ H R I h => ?_⟩
  refine thn (hl.run pins st σ H _ I h) fun v st1 ⟨x, H1, I1, r1, q1⟩ => ?_
  obtain ⟨a, rfl, q⟩ := q1
  cases r1
  have key : ∀ (o : Obj), ∀ c ∈ [st1.heap.objs.size], FpOk X pins H1 c := fun o c hc => by
    rw [List.mem_singleton] at hc
    rw [hc]
    exact I1.fpOk (Nat.le_refl _) (I1.hok.fresh (Nat.le_refl _))
  rcases q with ⟨⟨xs, hq⟩, q⟩ | ⟨⟨xs, hq⟩, q⟩
  · obtain ⟨its, rv, p, _⟩ := I1.list hq
    exact wpAny_pyIter_list p.isList ⟨st1.heap.objs.size, [st1.heap.objs.size], _, _, H1, rfl, I1.kept (t' := st1.toks) fun c o e => Heap.get?_push_of_some _ e, turn_list a _, ⟨_, Heap.get?_push_size _ rfl, rfl, rfl⟩, key default, q⟩
  · obtain ⟨its, rv, p, _⟩ := I1.tuple hq
    exact wpAny_pyIter_tuple (show st1.heap.IsTuple a its.toArray from p) ⟨st1.heap.objs.size, [st1.heap.objs.size], _, _, H1, rfl, I1.kept (t' := st1.toks) fun c o e => Heap.get?_push_of_some _ e, turn_tuple a _, ⟨_, Heap.get?_push_size _ rfl, rfl, rfl⟩, key default, q⟩
def sqD : D → Option (List D)
  | .lst ds => some ds
  | .tup ds => some ds
  | _ => none
/-- the items of a value; a list of the frame is held stable -/
def evSq (fa : M R) : M (List D) := M.bnd (frzM fa) fun r => M.bnd (frzS r) fun d => M.lift (sqD d)
section
variable {b : Bs} {W : WX} {L : Nat} {X : Cx} {pos : Pos} {e1 e2 e3 tg : Expr} {fa fb : M R} {fs : M (List R)} {st : Stmt} {rest body : List Stmt} {f g : M Fl}
theorem Wp.lift {α : Type} {o : Option α} {σ : L2.St} {S H : Hp} {ρ : ES} {P : Hp → Hp → ES → α → Prop} (G : Good b σ S H ρ) (h : Wp b W σ (M.lift o) S H ρ P) : ∃ a, o = some a ∧ P S H ρ a := by
  cases o with
  | none => exact h.elim
  | some a => exact ⟨a, rfl, h S H (Hsub.refl _) G⟩
theorem pi_sqM (o : OKx b L X) (ha : PE X e1 (rE b W fa)) : PI X tg e1 (iX b W (evSq fa)) := by
  refine PI.weak (pi_sq ha) fun σ H R ⟨b', S, ρ, eb, G, w⟩ => ⟨b', S, ρ, eb, G, ?_⟩
  refine Wp.frz (K := fun x H1 => ∃ a, x = .ref a ∧ ((∃ xs, SqL X.K H1 a xs) ∧ R (Itl X.K a) H1 ∨ (∃ xs, SqT X.K H1 a xs) ∧ R (Itt X.K a) H1)) w fun S1 H1 ρ1 r v s1 G1 f1 w1 => ?_
  obtain ⟨S2, ρ2, d, s2, G2, r2, w2⟩ := Wp.frzS G1 f1 (Wp.bind w1)
  obtain ⟨ds, hd, k⟩ := Wp.lift G2 w2
  have eK : X.K = b'.K := by rw [o.K, eb.1]
  cases d with
  | lst xs =>
    cases hd
    cases r2 with
    | lst p q => exact ⟨_, rfl, Or.inl ⟨⟨_, SqL.of (G2.sub _ _ p)⟩, by rw [eK]; exact k _ (Wk.lst p q)⟩⟩
  | tup xs =>
    cases hd
    cases r2 with
    | tup p q => exact ⟨_, rfl, Or.inr ⟨⟨_, by rw [eK]; exact sqt_mono G2.sub p.1⟩, by rw [eK]; exact k _ (Wk.tup p.1 q)⟩⟩
  | _ => cases hd
def smI (i : Int) : Bool := decide (-4611686018427387904 ≤ i) && decide (i < 4611686018427387904)
theorem smI_ok {i : Int} (h : smI i = true) : -(2 ^ 62) ≤ i ∧ i < 2 ^ 62 := by
  unfold smI at h
  rw [Bool.and_eq_true, decide_eq_true_eq, decide_eq_true_eq] at h
  omega
def rngR1 : List R → Option (List D)
  | [.va (.int j)] => if smI j = true then some (rngD 0 1 j.toNat) else none
  | _ => none
def rngR2 : List R → Option (List D)
  | [.va (.int i), .va (.int j)] => if (smI i && smI j) = true then some (rngD i 1 (j - i).toNat) else none
  | _ => none
/-- range with a step: up or down -/
def rngN (i j c : Int) : Option Nat := if c = -1 then some (i - j).toNat else if decide (0 < c) && decide (c < 1000000000) then some ((j - i + c - 1) / c).toNat else none
def evRng (g : List R → Option (List D)) (fs : M (List R)) : M (List D) := M.bnd fs fun rs => M.lift (g rs)
theorem pi_rng1 {p : Pos} (hg : Gl X "range") (hm : X.mg "range" = none) (ha : PA X [e1] (rAr b W fs)) (hs : starEach [e1] X.env = [(false, eval e1 X.env)] := by rfl) : PI X tg (.Call (.Name "range" p) [e1] [] pos) (iX b W (evRng rngR1 fs)) := by
  refine PI.weak (pi_range1 hg hm ha hs) fun σ H R ⟨b', S, ρ, eb, G, w⟩ => ⟨b', S, ρ, eb, G, Wp.mono (Wp.bind w) fun S1 H1 ρ1 rs s1 G1 w1 vs hvs => ?_⟩
  obtain ⟨ds, hd, k⟩ := Wp.lift G1 w1
  unfold rngR1 at hd
  split at hd
  · rename_i j
    split at hd
    · rename_i hj
      cases hd
      cases hvs with
      | cons h1 h2 =>
        cases h2
        cases h1
        obtain ⟨q1, q2⟩ := smI_ok hj
        exact ⟨j, rfl, q1, q2, k _ Wk.rng⟩
    · cases hd
  · cases hd
theorem pi_rng2 {p : Pos} (hg : Gl X "range") (hm : X.mg "range" = none) (ha : PA X [e1, e2] (rAr b W fs)) (hs : starEach [e1, e2] X.env = [(false, eval e1 X.env), (false, eval e2 X.env)] := by rfl) (hs2 : starEach [e2] X.env = [(false, eval e2 X.env)] := by rfl) :
    PI X tg (.Call (.Name "range" p) [e1, e2] [] pos) (iX b W (evRng rngR2 fs)) := by
  refine PI.weak (pi_range2 hg hm ha hs hs2) fun σ H R ⟨b', S, ρ, eb, G, w⟩ => ⟨b', S, ρ, eb, G, Wp.mono (Wp.bind w) fun S1 H1 ρ1 rs s1 G1 w1 vs hvs => ?_⟩
  obtain ⟨ds, hd, k⟩ := Wp.lift G1 w1
  unfold rngR2 at hd
  split at hd
  · rename_i i j
    split at hd
    · rename_i hj
      cases hd
      cases hvs with
      | cons h1 h2 =>
        cases h2 with
        | cons h3 h4 =>
          cases h4
          cases h1
          cases h3
          obtain ⟨qa, qb⟩ := Bool.and_eq_true_iff.mp hj
          obtain ⟨q1, q2⟩ := smI_ok qa
          obtain ⟨q3, q4⟩ := smI_ok qb
          exact ⟨i, j, rfl, ⟨q1, q2, q3, q4⟩, k _ Wk.rng⟩
    · cases hd
  · cases hd

/-! ### for -/
def forM (t : Tg) (f : M Fl) : List D → M Fl
  | [], ρ => some (.ok .nx ρ)
  | d :: ds, ρ => match t d ρ with
    | none => none
    | some ρ1 => match f ρ1 with
      | some (.ok .nx ρ2) => forM t f ds ρ2
      | some (.ok .ct ρ2) => forM t f ds ρ2
      | some (.ok .bk ρ2) => some (.ok .nx ρ2)
      | o => o
def evFor (fi : M (List D)) (t : Tg) (f : M Fl) : M Fl := M.bnd fi fun ds => forM t f ds
theorem s_for {is : List Nat} {t : Tg} {fi : M (List D)} (o : OKx b L X) (hp : PassesOwn (model X.prog X.w) X.A X.env X.xe) (hi : PI X tg e1 (iX b W fi)) (hg : PG X tg (rG b is t)) (hb : PSs X body (rS b W f))
    (hs : ∀ x, foldedSetIterable e1 X.env x = pure x := by intro _; rfl) : PS X (.For tg e1 body [] pos) (rS b W (evFor fi t f)) := by
  refine PS.weak (ps_for hp o.calm hi hg hb hs) fun D σ H ⟨b', S, ρ, eb, G, w⟩ => ⟨b', S, ρ, eb, G, Wp.mono (WpS.bind w) fun S1 H1 ρ1 ds s1 G1 w1 J wk => ?_⟩
  refine ⟨fun i m σ2 H2 => m = ds.length - i ∧ i ≤ ds.length ∧ ∃ S2 ρ2, Hsub S1 S2 ∧ Good b' σ2 S2 H2 ρ2 ∧ WpS b' W (forM t f (ds.drop i) ρ2) S2 D, ⟨ds.length, by simp, Nat.zero_le _, S1, ρ1, Hsub.refl _, G1, by rw [List.drop_zero]; exact w1⟩, ?_⟩
  rintro i m σ2 H2 ⟨rfl, hi, S2, ρ2, s2, G2, w2⟩
  by_cases hlt : i < ds.length
  · refine Or.inr ⟨wk.go b' σ2 S2 H2 ρ2 i rfl rfl s2 G2 hlt, fun σ3 H3 => ∃ S3 ρ3, Hsub S1 S3 ∧ Good b' σ3 S3 H3 ρ3 ∧ WpS b' W (forM t f (ds.drop (i + 1)) ρ3) S3 D, fun σ3 H3 q => ⟨ds.length - (i + 1), by omega, rfl, hlt, q⟩, fun x H3 y => ?_⟩
    obtain ⟨S3, s3, G3, r3⟩ := wk.yld b' σ2 S2 H2 H3 ρ2 i _ x rfl rfl s2 G2 (List.getElem?_eq_getElem hlt) y
    rw [List.drop_eq_getElem_cons hlt] at w2
    unfold forM at w2
    cases ht : t ds[i] ρ2 with
    | none => rw [ht] at w2; exact w2.elim
    | some ρ3 =>
      simp only [ht] at w2
      refine ⟨b', S3, ρ2, ds[i], ρ3, eb, G3, r3, ht, fun σ4 G4 _ _ => ⟨b', S3, ρ3, eb, G4, ?_⟩⟩
      cases hf : f ρ3 with
      | none => rw [hf] at w2; exact w2.elim
      | some r =>
        rw [hf] at w2
        cases r with
        | er x ρ4 => exact WpS.sub (show WpS b' W (some (.er x ρ4)) S2 { D with nx := _ , ct := _, bk := D.nx } from w2) s3
        | ok fl ρ4 =>
          cases fl with
          | nx => exact fun σ5 S5 H5 s5 G5 => ⟨S5, ρ4, s2.trans (s3.trans s5), G5, WpS.sub w2 (s3.trans s5)⟩
          | ct => exact fun σ5 S5 H5 s5 G5 => ⟨S5, ρ4, s2.trans (s3.trans s5), G5, WpS.sub w2 (s3.trans s5)⟩
          | bk => exact fun σ5 S5 H5 s5 G5 => w2 σ5 S5 H5 (s3.trans s5) G5
          | rt r => exact fun σ5 S5 H5 v s5 G5 => w2 σ5 S5 H5 v (s3.trans s5) G5
  · have e : i = ds.length := by omega
    subst e
    rw [List.drop_length] at w2
    exact Or.inl ⟨wk.stop b' σ2 S2 H2 ρ2 rfl rfl s2 G2, w2 σ2 S2 H2 (Hsub.refl _) G2⟩

/-! ### while -/
def whileM (c : M Bool) (f : M Fl) : Nat → M Fl
  | 0, _ => none
  | n + 1, ρ => match c ρ with
    | some (.ok true ρ1) => (match f ρ1 with
      | some (.ok .nx ρ2) => whileM c f n ρ2
      | some (.ok .ct ρ2) => whileM c f n ρ2
      | some (.ok .bk ρ2) => some (.ok .nx ρ2)
      | o => o)
    | some (.ok false ρ1) => some (.ok .nx ρ1)
    | some (.er x ρ1) => some (.er x ρ1)
    | none => none
open Classical in
noncomputable def evWhile (c : M Bool) (f : M Fl) : M Fl := fun ρ => if h : ∃ n, (whileM c f n ρ).isSome = true then whileM c f (Classical.choose h) ρ else none
theorem whileM_mono {c : M Bool} {f : M Fl} : ∀ (n m : Nat) (ρ : ES) (r : Res Fl), n ≤ m → whileM c f n ρ = some r → whileM c f m ρ = some r
  | 0, m, ρ, r, h, e => by cases e
  | n + 1, 0, ρ, r, h, e => by omega
  | n + 1, m + 1, ρ, r, h, e => by
    unfold whileM at e ⊢
    split at e
    · rename_i ρ1 hc
      split at e
      · rename_i ρ2 hf
        exact whileM_mono n m ρ2 r (by omega) e
      · rename_i ρ2 hf
        exact whileM_mono n m ρ2 r (by omega) e
      · exact e
      · exact e
    · exact e
    · exact e
    · exact e
theorem evWhile_of {c : M Bool} {f : M Fl} {n : Nat} {ρ : ES} {r : Res Fl} (h : whileM c f n ρ = some r) : evWhile c f ρ = some r := by
  have hx : ∃ n, (whileM c f n ρ).isSome = true := ⟨n, by rw [h]; rfl⟩
  unfold evWhile
  rw [dif_pos hx]
  have h2 := Classical.choose_spec hx
  generalize Classical.choose hx = m at h2
  cases hm : whileM c f m ρ with
  | none => rw [hm] at h2; cases h2
  | some r' =>
    rcases Nat.le_total n m with q | q
    · rw [whileM_mono n m ρ r q h] at hm; exact hm.symm
    · rw [whileM_mono m n ρ r' q hm] at h; exact h
theorem s_while {c : Expr} {fc : M Bool} (hp : PassesOwn (model X.prog X.w) X.A X.env X.xe) (hc : PT X c (rT b W fc)) (hb : PSs X body (rS b W f)) : PS X (.While c body [] pos) (rS b W (evWhile fc f)) := by
  refine PS.weak (ps_while hp hc hb) fun D σ H ⟨b', S, ρ, eb, G, w⟩ => ?_
  have hx : ∃ n, WpS b' W (whileM fc f n ρ) S D := by
    unfold evWhile at w
    split at w
    · exact ⟨_, w⟩
    · exact w.elim
  obtain ⟨n0, w0⟩ := hx
  refine ⟨fun n σ2 H2 => ∃ S2 ρ2, Good b' σ2 S2 H2 ρ2 ∧ WpS b' W (whileM fc f n ρ2) S2 D, ⟨n0, S, ρ, G, w0⟩, ?_⟩
  rintro n σ2 H2 ⟨S2, ρ2, G2, w2⟩
  cases n with
  | zero => exact w2.elim
  | succ n =>
    refine ⟨b', S2, ρ2, eb, G2, ?_⟩
    unfold whileM at w2
    unfold Wp WpO
    cases hc : fc ρ2 with
    | none => rw [hc] at w2; exact w2.elim
    | some r =>
      rw [hc] at w2
      cases r with
      | er x ρ3 => exact fun S3 H3 cls d s3 G3 => w2 σ2 S3 H3 cls d s3 G3
      | ok k ρ3 =>
        cases k with
        | false => exact fun S3 H3 s3 G3 => w2 σ2 S3 H3 s3 G3
        | true =>
          refine fun S3 H3 s3 G3 => ⟨fun σ4 H4 => ∃ S4 ρ4, Good b' σ4 S4 H4 ρ4 ∧ WpS b' W (whileM fc f n ρ4) S4 D, fun σ4 H4 q => ⟨n, Nat.lt_succ_self n, q⟩, b', S3, ρ3, eb, G3, ?_⟩
          have w3 := WpS.sub w2 s3
          clear w2
          simp only at w3
          cases hf : f ρ3 with
          | none => rw [hf] at w3; exact w3.elim
          | some r =>
            rw [hf] at w3
            cases r with
            | er x ρ4 => exact w3
            | ok fl ρ4 =>
              cases fl with
              | nx => exact fun σ5 S5 H5 s5 G5 => ⟨S5, ρ4, G5, WpS.sub w3 s5⟩
              | ct => exact fun σ5 S5 H5 s5 G5 => ⟨S5, ρ4, G5, WpS.sub w3 s5⟩
              | bk => exact w3
              | rt r => exact w3
end
end Mc
end
section
set_option Elab.async false
set_option linter.all false
set_option maxRecDepth 100000
set_option maxHeartbeats 4000000
set_option autoImplicit false
namespace Mc
open PySem PySem.Spec L2

/-! ### a block's own names forgotten -/
def wipeE (ρ : ES) : List Nat → ES
  | [] => ρ
  | v :: vs => (wipeE ρ vs).set v .no
def unwipe (ρ ρ' : ES) : List Nat → ES
  | [] => ρ'
  | v :: vs => (unwipe ρ ρ' vs).set v (match ρ[v]? with
    | some (.va d) => .va d
    | _ => .no)
theorem unwipe_length (ρ ρ' : ES) : ∀ vs, (unwipe ρ ρ' vs).length = ρ'.length
  | [] => rfl
  | v :: vs => by unfold unwipe; rw [List.length_set, unwipe_length ρ ρ' vs]
theorem unwipe_get (ρ ρ' : ES) : ∀ (vs : List Nat) (j : Nat) (s : Sl), (unwipe ρ ρ' vs)[j]? = some s → (j ∉ vs ∧ ρ'[j]? = some s) ∨ (j ∈ vs ∧ (s = .no ∨ ∃ d, s = .va d ∧ ρ[j]? = some (.va d)))
  | [], j, s, h => Or.inl ⟨by simp, h⟩
  | v :: vs, j, s, h => by
    unfold unwipe at h
    by_cases hj : v = j
    · subst hj
      refine Or.inr ⟨by simp, ?_⟩
      by_cases hl : v < (unwipe ρ ρ' vs).length
      · rw [List.getElem?_set_self hl] at h
        split at h
        · rename_i d hd
          cases h
          exact Or.inr ⟨d, rfl, hd⟩
        · cases h; exact Or.inl rfl
      · rw [List.getElem?_eq_none (by simpa using hl)] at h; cases h
    · rw [List.getElem?_set_ne hj] at h
      rcases unwipe_get ρ ρ' vs j s h with ⟨h1, h2⟩ | ⟨h1, h2⟩
      · exact Or.inl ⟨by simp only [List.mem_cons, not_or]; exact ⟨fun e => hj e.symm, h1⟩, h2⟩
      · exact Or.inr ⟨by simp [h1], h2⟩
theorem wipe_get (σ : L2.St) : ∀ (vs : List Nat) (j : Nat), (wipe σ vs)[j]? = if j ∈ vs then (if j < σ.length then some none else none) else σ[j]?
  | [], j => by simp [wipe]
  | v :: vs, j => by
    unfold wipe
    by_cases hj : v = j
    · subst hj
      rw [if_pos (by simp)]
      by_cases hl : v < σ.length
      · rw [List.getElem?_set_self (by rw [wipe_length]; exact hl), if_pos hl]
      · rw [if_neg hl, List.getElem?_eq_none (by rw [List.length_set, wipe_length]; omega)]
    · rw [List.getElem?_set_ne hj, wipe_get σ vs j]
      have : (j ∈ v :: vs) ↔ j ∈ vs := by simp [Ne.symm hj]
      by_cases h : j ∈ vs
      · rw [if_pos h, if_pos (this.mpr h)]
      · rw [if_neg h, if_neg (fun z => h (this.mp z))]
theorem wipe_eq {σ σ' : L2.St} {vs : List Nat} (hl : σ'.length = σ.length) (h : ∀ j, j ∉ vs → σ'[j]? = σ[j]?) : wipe σ' vs = wipe σ vs := by
  apply List.ext_getElem?
  intro j
  rw [wipe_get, wipe_get, hl]
  by_cases hj : j ∈ vs
  · rw [if_pos hj, if_pos hj]
  · rw [if_neg hj, if_neg hj, h j hj]
section
variable {b : Bs} {σ : L2.St} {S H : Hp} {ρ : ES}
theorem Good.setNo' (G : Good b σ S H ρ) {i : Nat} {x : Option V} : Good b (σ.set i x) S H (ρ.set i .no) := by
  by_cases h : i < ρ.length
  · exact G.setNo h
  · have hl := G.len
    rw [List.set_eq_of_length_le (l := σ) (by omega), List.set_eq_of_length_le (l := ρ) (by omega)]
    exact G
theorem Good.wipe (G : Good b σ S H ρ) : ∀ vs, Good b (L2.wipe σ vs) S H (wipeE ρ vs)
  | [] => G
  | v :: vs => (Good.wipe G vs).setNo'
theorem Good.unwipe {S' H' : Hp} {ρ' : ES} {vs : List Nat} (G : Good b σ S H ρ) (s : Hsub S S') (G' : Good b (L2.wipe σ vs) S' H' ρ') : Good b σ S' H' (Mc.unwipe ρ ρ' vs) := by
  have hl : ρ'.length = σ.length := by rw [G'.len, wipe_length]
  have key : ∀ {j a}, Own (Mc.unwipe ρ ρ' vs) σ j a → Own ρ' (L2.wipe σ vs) j a := by
    rintro j a ⟨h1, sl, h2, h3⟩
    rcases unwipe_get ρ ρ' vs j sl h2 with ⟨q1, q2⟩ | ⟨_, q | ⟨d, q, _⟩⟩
    · exact ⟨by rw [wipe_get, if_neg q1]; exact h1, sl, q2, h3⟩
    · subst q; cases h3
    · subst q; cases h3
  refine ⟨G'.sub, by rw [unwipe_length]; exact hl, fun j sl e => ?_, fun i j a h1 h2 => G'.dis i j a (key h1) (key h2), G'.k0, fun i a h => G'.o0 i a (key h), G'.s0, G'.n0, G'.f0, G'.tab⟩
  rcases unwipe_get ρ ρ' vs j sl e with ⟨q1, q2⟩ | ⟨_, q | ⟨d, q, q2⟩⟩
  · have := G'.sl j sl q2
    rw [wipe_get, if_neg q1] at this
    exact this
  · subst q; trivial
  · subst q
    obtain ⟨v, h1, h2⟩ := G.sl j _ q2
    exact ⟨v, h1, Rp.mono s _ _ h2⟩
/-- an object that is neither held stable nor a slot's own changes -/
theorem Good.chg {p : Addr} {o o' : HO} (G : Good b σ S H ρ) (hp : H p = some o) (hS : S p = none) (hn : ∀ i, ¬ Own ρ σ i p) (h0 : b.H0 p = none ∨ b.B p) (nt : NoTab o := by exact noTab_lst) : Good b σ S (upd H p o') ρ where
  sub := fun a u e => by
    rw [upd_ne (fun z => by subst z; rw [hS] at e; cases e)]
    exact G.sub _ _ e
  len := G.len
  sl := fun i s e => (G.sl i s e).heap fun a u ha ho hu => by
    rw [upd_ne (fun z => by subst z; exact hn i ⟨ha, s, e, ho⟩)]
    exact hu
  dis := G.dis
  k0 := fun a u e n => by
    rw [upd_ne (fun z => by
      subst z
      rcases h0 with q | q
      · rw [q] at e; cases e
      · exact n q)]
    exact G.k0 a u e n
  o0 := G.o0
  s0 := G.s0
  n0 := G.n0
  f0 := fun a e => G.f0 a (by
    by_cases h : a = p
    · subst h; rw [upd_same] at e; cases e
    · rw [upd_ne h] at e; exact e)
  tab := fun P q e => ⟨tabS_write (G.tab P q e).1 (Hsub.refl _) hp nt fun a u ha n => by rw [upd_ne n]; exact ha, (G.tab P q e).2⟩
end

/-! ### list comprehensions -/
def compM (vs : List Nat) (t : Tg) (c : M Bool) (f : M R) : List D → List D → ES → Option (ES × List D)
  | [], acc, ρ => some (ρ, acc)
  | d :: ds, acc, ρ => match t d ρ with
    | none => none
    | some ρ1 => match c ρ1 with
      | some (.ok false ρ2) => compM vs t c f ds acc (wipeE ρ2 vs)
      | some (.ok true ρ2) => (match M.bnd (frzM f) frzS ρ2 with
        | some (.ok y ρ3) => if few acc = true then compM vs t c f ds (acc ++ [y]) (wipeE ρ3 vs) else none
        | _ => none)
      | _ => none
def compE (vs : List Nat) (t : Tg) (c : M Bool) (f : M R) (ds : List D) : M R := fun ρ => match compM vs t c f ds [] (wipeE ρ vs) with
  | some (ρ', acc) => some (.ok (.ow acc) (unwipe ρ ρ' vs))
  | none => none
def evComp (vs : List Nat) (fi : M (List D)) (t : Tg) (c : M Bool) (f : M R) : M R := M.bnd fi fun ds => compE vs t c f ds
def WF : WX := fun _ _ _ _ => False
section
variable {b : Bs} {W : WX} {L : Nat} {X : Cx} {pos : Pos} {e1 e2 e3 tg iter elt : Expr} {fa fb : M R} {fs : M (List R)} {ifs : List Expr}
/-- what stands of the list that grows -/
structure Grow (b : Bs) (σ : L2.St) (S H : Hp) (ρ : ES) (p : Addr) (acc : List D) : Prop where
  good : Good b σ S H ρ
  at_ : ∃ vs, H p = some (.lst vs) ∧ Rps b.K b.mg S vs acc
  fr : S p = none
  no : ∀ i, ¬ Own ρ σ i p
  h0 : b.H0 p = none
theorem few_lt {α : Type} {xs : List α} (h : few xs = true) : xs.length < sizeLine := Nat.lt_of_le_of_lt (of_decide_eq_true h) (by decide)
theorem Grow.turn {σ σ' : L2.St} {S S' H H' : Hp} {ρ ρ' : ES} {p : Addr} {acc : List D} (g : Grow b σ S H ρ p acc) (s : Hsub S S') (G' : Good (re b σ S H ρ) σ' S' H' ρ') : Grow b σ' S' H' ρ' p acc := by
  obtain ⟨vs, h1, h2⟩ := g.at_
  have nB : ¬ (re b σ S H ρ).B p := fun z => z.elim (fun ⟨i, w⟩ => g.no i w) fun ⟨q, w⟩ => tab_ne (g.good.tab p q w).1 h1 noTab_lst rfl
  refine ⟨g.good.tr G', ⟨vs, G'.k0 p _ h1 nB, Rps.mono s _ _ h2⟩, ?_, fun i w => ?_, g.h0⟩
  · cases e : S' p with
    | none => rfl
    | some o =>
      rcases G'.n0 p (by rw [e]; exact fun z => nomatch z) with z | z | z
      · exact (z g.fr).elim
      · have z' : H p = none := z
        rw [h1] at z'; cases z'
      · exact (nB z).elim
  · rcases G'.o0 i p w with z | z
    · have z' : H p = none := z
      rw [h1] at z'; cases z'
    · exact nB z
theorem lc_wp {is vs : List Nat} {fi : M (List D)} {t : Tg} {c : M Bool} {σ : L2.St} {S H : Hp} {ρ : ES} {Q : VK} {b0 : Bs} (eb : EqB b b0) (his : ∀ j ∈ is, j ∈ vs) (G : Good b σ S H ρ)
    (w : Wp b W σ (evComp vs fi t c fa) S H ρ fun S' H' ρ' r => ∀ v, RR b σ S' H' ρ' v r → Q v H') : tLc (iX b0 W fi) (rG b0 is t) (rT b0 WF c) (rE b0 WF fa) vs σ H Q := by
  refine ⟨b, S, ρ, eb, G, Wp.mono (Wp.bind w) fun S1 H1 ρ1 ds s1 G1 w1 J wk p hp => ?_⟩
  cases hc : compM vs t c fa ds [] (wipeE ρ1 vs) with
  | none => exact wp_none (by unfold compE; simp only [hc]) w1
  | some r =>
    obtain ⟨ρf, accf⟩ := r
    have wend : ∀ S' H', Hsub S1 S' → Good b σ S' H' (unwipe ρ1 ρf vs) → ∀ v, RR b σ S' H' (unwipe ρ1 ρf vs) v (.ow accf) → Q v H' := fun S' H' s' G' =>
      wp_ok (a := R.ow accf) (by unfold compE; simp only [hc]) w1 s' G'
    have G1' : Good b (L2.wipe σ vs) S1 (upd H1 p (.lst [])) (wipeE ρ1 vs) := (G1.wipe vs).newH hp
    have g0 : Grow b (L2.wipe σ vs) S1 (upd H1 p (.lst [])) (wipeE ρ1 vs) p [] := ⟨G1', ⟨[], upd_same, .nil⟩, G1.sn hp, (fun i wo => by
      obtain ⟨⟨u, e⟩, _⟩ := (G1.wipe vs).ownat wo
      rw [hp] at e; cases e), G1.f0 _ hp⟩
    refine ⟨fun i m H2 => m = ds.length - i ∧ i ≤ ds.length ∧ ∃ S2 ρ2 acc, Hsub S1 S2 ∧ Grow b (L2.wipe σ vs) S2 H2 ρ2 p acc ∧ compM vs t c fa (ds.drop i) acc ρ2 = some (ρf, accf), ⟨ds.length, by simp, Nat.zero_le _, S1, _, [], Hsub.refl _, g0, by rw [List.drop_zero]; exact hc⟩, ?_⟩
    rintro i m H2 ⟨rfl, hi, S2, ρ2, acc, s2, g2, hc2⟩
    by_cases hlt : i < ds.length
    · refine Or.inr ⟨wk.go b _ S2 H2 ρ2 i rfl rfl s2 g2.good hlt, fun H3 => ∃ S3 ρ3 acc, Hsub S1 S3 ∧ Grow b (L2.wipe σ vs) S3 H3 ρ3 p acc ∧ compM vs t c fa (ds.drop (i + 1)) acc ρ3 = some (ρf, accf), fun H3 q => ⟨ds.length - (i + 1), by omega, rfl, hlt, q⟩, fun x H3 y => ?_⟩
      have eb2 : EqB (re b (L2.wipe σ vs) S2 H2 ρ2) b0 := ⟨eb.1, eb.2, eb.3⟩
      obtain ⟨S3, s3, G3, r3⟩ := wk.yld (re b (L2.wipe σ vs) S2 H2 ρ2) _ S2 H2 H3 ρ2 i _ x rfl rfl s2 g2.good.re (List.getElem?_eq_getElem hlt) y
      rw [List.drop_eq_getElem_cons hlt] at hc2
      unfold compM at hc2
      cases ht : t ds[i] ρ2 with
      | none => rw [ht] at hc2; cases hc2
      | some ρ3 =>
        simp only [ht] at hc2
        refine ⟨_, S3, ρ2, ds[i], ρ3, eb2, G3, r3, ht, fun σ4 G4 k4 l4 => ?_⟩
        have hw : L2.wipe σ4 vs = L2.wipe σ vs := by
          refine wipe_eq (by rw [l4, wipe_length]) fun j hj => ?_
          rw [k4 j (fun z => hj (his j z)), wipe_get, if_neg hj]
        refine ⟨hw, _, S3, ρ3, eb2, G4, ?_⟩
        unfold Wp WpO
        cases hk : c ρ3 with
        | none => rw [hk] at hc2; cases hc2
        | some r =>
          rw [hk] at hc2
          cases r with
          | er x ρ4 => cases hc2
          | ok k ρ4 =>
            cases k with
            | false =>
              refine fun S5 H5 s5 G5 => ?_
              have G6 := G5.wipe vs
              rw [hw] at G6
              exact ⟨S5, _, acc, s2.trans (s3.trans s5), g2.turn (s3.trans s5) G6, hc2⟩
            | true =>
              simp only at hc2
              cases hy : M.bnd (frzM fa) frzS ρ4 with
              | none => rw [hy] at hc2; cases hc2
              | some r =>
                rw [hy] at hc2
                cases r with
                | er x ρ5 => cases hc2
                | ok y ρ5 =>
                  simp only at hc2
                  split at hc2
                  · rename_i hfew
                    refine fun S5 H5 s5 G5 => ⟨_, S5, ρ4, eb2, G5, ?_⟩
                    have wy : Wp (re b (L2.wipe σ vs) S2 H2 ρ2) WF σ4 (M.bnd (frzM fa) frzS) S5 H5 ρ4 fun S' H' ρ' d => ρ' = ρ5 ∧ d = y := by
                      unfold Wp WpO
                      rw [hy]
                      exact fun S' H' s' G' => ⟨rfl, rfl⟩
                    refine Wp.frz (K := fun y H4 => ∃ acc, H4 p = some (.lst acc) ∧ acc.length < sizeLine ∧ ∃ S3 ρ3 acc_1, Hsub S1 S3 ∧ Grow b (L2.wipe σ vs) S3 (upd H4 p (.lst (acc ++ [y]))) ρ3 p acc_1 ∧ compM vs t c fa (ds.drop (i + 1)) acc_1 ρ3 = some (ρf, accf)) wy fun S6 H6 ρ6 r v s6 G6 f6 w6 => ?_
                    obtain ⟨S7, ρ7, d, s7, G7, r7, e1, e2⟩ := Wp.frzS G6 f6 w6
                    subst e1 e2
                    have G8 := G7.wipe vs
                    rw [hw] at G8
                    have g8 := g2.turn (s3.trans (s5.trans (s6.trans s7))) G8
                    obtain ⟨ws, hws, rws⟩ := g8.at_
                    refine ⟨ws, hws, by rw [Rps.length rws]; exact few_lt hfew, S7, _, acc ++ [d], s2.trans (s3.trans (s5.trans (s6.trans s7))), ⟨g8.good.chg hws g8.fr g8.no (Or.inl g8.h0), ⟨ws ++ [v], upd_same, Rps.append rws (.cons r7 .nil)⟩, g8.fr, g8.no, g8.h0⟩, hc2⟩
                  · cases hc2
    · have e : i = ds.length := by omega
      subst e
      rw [List.drop_length] at hc2
      unfold compM at hc2
      cases hc2
      refine Or.inl ⟨wk.stop b _ S2 H2 _ rfl rfl s2 g2.good, ?_⟩
      obtain ⟨ws, hws, rws⟩ := g2.at_
      refine wend S2 H2 s2 (G1.unwipe s2 g2.good) _ ⟨p, ws, rfl, hws, g2.fr, rws, fun j wj => ?_, Or.inl g2.h0⟩
      obtain ⟨h1, sl, h2, h3⟩ := wj
      rcases unwipe_get ρ1 ρf vs j sl h2 with ⟨q1, q2⟩ | ⟨_, q | ⟨d, q, _⟩⟩
      · exact g2.no j ⟨by rw [wipe_get, if_neg q1]; exact h1, sl, q2, h3⟩
      · subst q; cases h3
      · subst q; cases h3
theorem PTs.weak {X : Cx} {e : List Expr} {t t' : TT} (h : PTs X e t) (k : ∀ σ H Q, t' σ H Q → t σ H Q) : PTs X e t' := ⟨fun pins s σ H Q I hw => h.run pins s σ H Q I (k σ H Q hw)⟩
theorem pts_n {W : WX} : PTs X [] (rT b W (M.ret true)) := PTs.weak pts_nil fun σ H Q ⟨b', S, ρ, eb, G, w⟩ => Wp.ret (a := true) w G
theorem pts_1 {W : WX} {c : Expr} {f : M Bool} (h : PT X c (rT b W f)) : PTs X [c] (rT b W f) := pts_one h
theorem pe_lcM {is : List Nat} {scope : Scope} {own : List (Str × Nat)} {fi : M (List D)} {t : Tg} {c : M Bool} (o : OKx b L X) (hi : PI X tg iter (iX b W fi)) (ok : BlkOk X.N X.env.scope scope own) (his : ∀ j ∈ is, j ∈ own.map (·.2))
    (hg : ∀ (s : Shared) (H : Hp) (C : Addr) (cl : List (Str × Addr)) (fp : List Addr), OKx b L (X.blk s H scope (compEnvC scope cl C X.env) fp) → PG (X.blk s H scope (compEnvC scope cl C X.env) fp) tg (rG b is t))
    (ht : ∀ (s : Shared) (H : Hp) (C : Addr) (cl : List (Str × Addr)) (fp : List Addr), OKx b L (X.blk s H scope (compEnvC scope cl C X.env) fp) → PTs (X.blk s H scope (compEnvC scope cl C X.env) fp) ifs (rT b WF c))
    (he : ∀ (s : Shared) (H : Hp) (C : Addr) (cl : List (Str × Addr)) (fp : List Addr), OKx b L (X.blk s H scope (compEnvC scope cl C X.env) fp) → PE (X.blk s H scope (compEnvC scope cl C X.env) fp) elt (rE b WF fa)) (hs : ∀ x, foldedSetIterable iter X.env x = pure x := by intro _; rfl) :
    PE X (.ListComp elt [⟨tg, iter, ifs, 0⟩] scope pos) (rE b W (evComp (own.map (·.2)) fi t c fa)) := by
  have ob : ∀ (s : Shared) (H : Hp) (C : Addr) (cl : List (Str × Addr)) (fp : List Addr), OKx b L (X.blk s H scope (compEnvC scope cl C X.env) fp) := fun _ _ _ _ _ => ⟨o.K, o.mg, o.calm, o.nd, o.rm⟩
  exact PE.weak (pe_lc o.calm o.nd hi ok (fun s H C cl fp => hg s H C cl fp (ob s H C cl fp)) (fun s H C cl fp => ht s H C cl fp (ob s H C cl fp)) (fun s H C cl fp => he s H C cl fp (ob s H C cl fp)) hs) fun σ H Q ⟨b', S, ρ, eb, G, w⟩ => lc_wp eb his G w
theorem s_setLc {i : Nat} {y : Str} {py spos : Pos} {is : List Nat} {scope : Scope} {own : List (Str × Nat)} {fi : M (List D)} {t : Tg} {c : M Bool} (o : OKx b L X) (hi : PI X tg iter (iX b W fi)) (ok : BlkOk X.N X.env.scope scope own) (his : ∀ j ∈ is, j ∈ own.map (·.2))
    (hg : ∀ (s : Shared) (H : Hp) (C : Addr) (cl : List (Str × Addr)) (fp : List Addr), OKx b L (X.blk s H scope (compEnvC scope cl C X.env) fp) → PG (X.blk s H scope (compEnvC scope cl C X.env) fp) tg (rG b is t))
    (ht : ∀ (s : Shared) (H : Hp) (C : Addr) (cl : List (Str × Addr)) (fp : List Addr), OKx b L (X.blk s H scope (compEnvC scope cl C X.env) fp) → PTs (X.blk s H scope (compEnvC scope cl C X.env) fp) ifs (rT b WF c))
    (he : ∀ (s : Shared) (H : Hp) (C : Addr) (cl : List (Str × Addr)) (fp : List Addr), OKx b L (X.blk s H scope (compEnvC scope cl C X.env) fp) → PE (X.blk s H scope (compEnvC scope cl C X.env) fp) elt (rE b WF fa))
    (hy : X.N[i]? = some y := by rfl) (hyl : X.env.scope.names.lookup y = some .local := by rfl) (hsw : swapsWith (.ListComp elt [⟨tg, iter, ifs, 0⟩] scope pos) (some (.Name y py)) spos.line X.env = pure true := by rfl)
    (hs : ∀ x, foldedSetIterable iter X.env x = pure x := by intro _; rfl) :
    PS X (.Assign [.Name y py] (.ListComp elt [⟨tg, iter, ifs, 0⟩] scope pos) spos) (rS b W (evAsg i (evComp (own.map (·.2)) fi t c fa))) := by
  have ob : ∀ (s : Shared) (H : Hp) (C : Addr) (cl : List (Str × Addr)) (fp : List Addr), OKx b L (X.blk s H scope (compEnvC scope cl C X.env) fp) := fun _ _ _ _ _ => ⟨o.K, o.mg, o.calm, o.nd, o.rm⟩
  exact PS.weak (ps_setLc o.calm o.nd hy hyl hsw hi ok (fun s H C cl fp => hg s H C cl fp (ob s H C cl fp)) (fun s H C cl fp => ht s H C cl fp (ob s H C cl fp)) (fun s H C cl fp => he s H C cl fp (ob s H C cl fp)) hs) fun D σ H ⟨b', S, ρ, eb, G, w⟩ => lc_wp eb his G (asg_wp w)
end
end Mc
end
section
set_option Elab.async false
set_option linter.all false
set_option maxRecDepth 100000
set_option maxHeartbeats 4000000
set_option autoImplicit false
namespace Mc
open PySem PySem.Spec L2

/-! ### what a def does -/
inductive DRes where
  | va (d : D) | ow (ds : List D) | er (x : Ex)
def D.flat : D → Bool
  | .non => true
  | .bl _ => true
  | .int _ => true
  | .str _ => true
  | _ => false
theorem Rp.flat {K : PySem.W.Frag} {mg : Str → Option Value} {S S' : Hp} {v : V} {d : D} (h : Rp K mg S v d) (f : d.flat = true) : Rp K mg S' v d := by
  cases h with
  | non => exact .non
  | bl c => exact .bl c
  | int i => exact .int i
  | str x => exact .str x
  | tup _ _ => cases f
  | lst _ _ => cases f
  | ob _ _ _ => cases f
  | fn _ => cases f
  | lam _ _ => cases f
  | act _ _ _ _ => cases f
structure Post (B : Addr → Prop) (S H S' H' : Hp) : Prop where
  s : Hsub S S'
  sub : Hsub S' H'
  keep : ∀ a o, H a = some o → ¬ B a → H' a = some o
  new : ∀ a, S' a ≠ none → S a ≠ none ∨ H a = none
  there : ∀ a, H' a = none → H a = none
def DR (K : PySem.W.Frag) (mg : Str → Option Value) (H S' H' : Hp) (v : V) : DRes → Prop
  | .va d => Rp K mg S' v d
  | .ow ds => ∃ a vs, v = .ref a ∧ H' a = some (.lst vs) ∧ S' a = none ∧ H a = none ∧ Rps K mg S' vs ds
  | .er _ => False
def SpM (K : PySem.W.Frag) (mg : Str → Option Value) (B : Addr → Prop) (S H : Hp) (Q : VK) (E : XK) (C : Hp → Hp → Prop) : Option DRes → Prop
  | none => False
  | some (.er x) => ∀ S' H' cls d, Post B S H S' H' → C S' H' → XR K mg (fun a => H a = none) S' H' cls d x → E cls d H'
  | some r => ∀ S' H' v, Post B S H S' H' → C S' H' → DR K mg H S' H' v r → Q v H'
def spP (K : PySem.W.Frag) (mg : Str → Option Value) (n : Nat) (F : List D → Option DRes) : Sp := fun vs H Q E => vs.length = n ∧ ∃ S ds, Hsub S H ∧ Rps K mg S vs ds ∧ SpM K mg (fun _ => False) S H Q E (fun _ _ => True) (F ds)
def spN (K : PySem.W.Frag) (mg : Str → Option Value) (n : Nat) (F : Mo → List D → Option (DRes × Mo)) : Sp := fun vs H Q E => vs.length = n + 1 ∧ ∃ S a c p us ds, vs = .ref a :: us ∧ Hsub S H ∧ MoAt K mg a c p S H ∧ Rps K mg S us ds ∧
  match F p ds with
  | none => False
  | some (r, p') => SpM K mg (fun x => x = a) S H Q E (MoAt K mg a c p') (some r)
structure Dn (P : Program) (w : World) (K : PySem.W.Frag) (mg : Str → Option Value) (base : Heap) (x : Str) (k n : Nat) (F : List D → Option DRes) : Prop where
  ex : ∃ f fd ps, mg x = some (.ref f) ∧ PySem.W.keepIn K (.ref f) = true ∧ Binds K fd ps [] ∧ FnOk P w K mg base (L2.CX P w) k f fd ps (spP K mg n F)
structure DnN (P : Program) (w : World) (K : PySem.W.Frag) (mg : Str → Option Value) (base : Heap) (x : Str) (k n : Nat) (F : Mo → List D → Option (DRes × Mo)) : Prop where
  ex : ∃ f fd ps, mg x = some (.ref f) ∧ PySem.W.keepIn K (.ref f) = true ∧ Binds K fd ps [] ∧ FnOk P w K mg base (L2.CX P w) k f fd ps (spN K mg n F)

/-! ### a body -/
def ini (N : Nat) (ds : List D) : ES := ds.map .va ++ List.replicate (N - ds.length) .no
def resR : R → Option DRes
  | .va d => some (.va d)
  | .ow ds => some (.ow ds)
  | .sl _ => none
def resM : Option (Res Fl) → Option DRes
  | some (.ok .nx _) => some (.va .non)
  | some (.ok (.rt r) _) => resR r
  | some (.er x _) => some (.er x)
  | _ => none
def runD (N : Nat) (body : M Fl) : List D → Option DRes := fun ds => resM (body (ini N ds))
def resP : Option (Res Fl) → Option (DRes × Mo)
  | some (.ok .nx ρ) => (match ρ[0]? with
    | some (Sl.pn p) => some (.va .non, p)
    | _ => none)
  | some (.ok (.rt r) ρ) => (match ρ[0]?, resR r with
    | some (Sl.pn p), some r => some (r, p)
    | _, _ => none)
  | some (.er x ρ) => (match ρ[0]? with
    | some (Sl.pn p) => some (.er x, p)
    | _ => none)
  | _ => none
def runN (N : Nat) (body : M Fl) : Mo → List D → Option (DRes × Mo) := fun p ds => resP (body (.pn p :: ini (N - 1) ds))
section
variable {P : Program} {w : World} {K : PySem.W.Frag} {mg : Str → Option Value} {base : Heap}
theorem Rps.all {S : Hp} : ∀ {ds : List D} {vs : List V}, Rps K mg S vs ds → ∀ (i : Nat) (d : D), ds[i]? = some d → ∃ v, vs[i]? = some v ∧ Rp K mg S v d := fun r i d h => Rps.get r h
theorem start_get {N : List Str} {vs : List V} {i : Nat} {v : V} (h : vs[i]? = some v) : (L2.start N vs)[i]? = some (some v) := by
  unfold L2.start
  rw [List.getElem?_append_left (by rw [List.length_map]; exact (List.getElem?_eq_some_iff.mp h).1), List.getElem?_map, h]
  rfl
theorem ini_get {N : Nat} {ds : List D} {i : Nat} {s : Sl} (h : (ini N ds)[i]? = some s) : (∃ d, ds[i]? = some d ∧ s = .va d) ∨ s = .no := by
  unfold ini at h
  by_cases hl : i < ds.length
  · rw [List.getElem?_append_left (by simpa using hl), List.getElem?_map] at h
    cases e : ds[i]? with
    | none => rw [e] at h; cases h
    | some d => rw [e] at h; cases h; exact Or.inl ⟨d, rfl, rfl⟩
  · rw [List.getElem?_append_right (by simpa using Nat.le_of_not_lt hl)] at h
    exact Or.inr (List.eq_of_mem_replicate (List.mem_of_getElem? h))
theorem good_start {b : Bs} {S H : Hp} {N : List Str} {vs : List V} {ds : List D} (hl : vs.length ≤ N.length) (hS : Hsub S H) (r : Rps b.K b.mg S vs ds) (e1 : b.H0 = H) (e2 : b.S0 = S) (e3 : b.tb = none := by rfl) : Good b (L2.start N vs) S H (ini N.length ds) := by
  have hd := Rps.length r
  have noOwn : ∀ i a, ¬ Own (ini N.length ds) (L2.start N vs) i a := fun i a ⟨_, s, h2, h3⟩ => by
    rcases ini_get h2 with ⟨d, _, rfl⟩ | rfl <;> cases h3
  refine ⟨hS, ?_, fun i s h => ?_, fun i j a h => (noOwn i a h).elim, fun a o e _ => by rw [← e1]; exact e, fun i a h => (noOwn i a h).elim, by rw [e2]; exact Hsub.refl _, fun a e => Or.inl (by rw [e2]; exact e), fun a e => by rw [e1]; exact e, fun P q e => by rw [e3] at e; cases e⟩
  · unfold ini L2.start
    simp only [List.length_append, List.length_map, List.length_replicate]
    omega
  · rcases ini_get h with ⟨d, h1, rfl⟩ | rfl
    · obtain ⟨v, h2, h3⟩ := Rps.get r h1
      exact ⟨v, start_get h2, h3⟩
    · trivial
/-- the context of a def's body -/
abbrev bodyX (P : Program) (w : World) (K : PySem.W.Frag) (mg : Str → Option Value) (base : Heap) (N : List Str) (qual : Str) (scope : Scope) (f : Addr) (cdv : Value) (A : Around) (outer : List Env) (s : Shared) (H : Hp) (E : XK) : Cx := cxOf (L2.CX P w) P w K mg base N qual scope f cdv A outer s H E
/-- a body's derivation -/
def BodyIs (P : Program) (w : World) (K : PySem.W.Frag) (mg : Str → Option Value) (base : Heap) (N : List Str) (qual : Str) (scope : Scope) (f : Addr) (k : Nat) (body : List Stmt) (m : M Fl) : Prop :=
  ∀ (X : Cx) (W : WX) (b : Bs), (∃ cdv A outer s H E, X = bodyX P w K mg base N qual scope f cdv A outer s H E) → b.K = K → b.mg = mg → OKx b k X → Takes X W → PassesOwn (model X.prog X.w) X.A X.env X.xe → PSs X body (rS b W m)
theorem fn_def {x qual : Str} {params : Arguments} {body : List Stmt} {scope : Scope} {f : Addr} {fd : FuncData} {N ps : List Str} {k : Nat} {m : M Fl} (F : FunD K x qual params body scope [] [] f fd) (S : FnScope N ps scope) (hl : ps.length ≤ N.length)
    (hb : BodyIs P w K mg base N qual scope f k body m) :
    FnOk P w K mg base (L2.CX P w) (k + 1) f fd ps (spP K mg ps.length (runD N.length m)) := by
  refine F.ok S (fun vs H Q E h => h.1) fun cdv A outer s H vs Q E hr ⟨hvl, S0, ds, hS, hr0, hm⟩ => ?_
  let b : Bs := ⟨K, mg, H, S0, fun _ => False, none, none⟩
  have G : Good b (L2.start N vs) S0 H (ini N.length ds) := good_start (by omega) hS hr0 rfl rfl
  have post : ∀ {σ' S' H' ρ'}, Good b σ' S' H' ρ' → Post (fun _ => False) S0 H S' H' := fun {σ' S' H' ρ'} G' => ⟨G'.s0, G'.sub, fun a o e n => G'.k0 a o e n, fun a e => by
    rcases G'.n0 a e with z | z | z
    · exact Or.inl z
    · exact Or.inr z
    · exact z.elim, G'.f0⟩
  refine ⟨_, hb (bodyX P w K mg base N qual scope f cdv A outer s H E) (fun cls d _ H => E cls d H) b ⟨cdv, A, outer, s, H, E, rfl⟩ rfl rfl ⟨rfl, rfl, rfl, S.nd, hr⟩ (takes_of rfl rfl rfl rfl) (passes_of rfl), b, S0, _, EqB.refl _, G, ?_⟩
  unfold runD at hm
  cases e : m (ini N.length ds) with
  | none => rw [e] at hm; exact hm.elim
  | some r =>
    rw [e] at hm
    cases r with
    | er x ρ' => exact fun σ' S' H' cls d s' G' hx => hm S' H' cls d (post G') trivial hx
    | ok fl ρ' =>
      cases fl with
      | nx => exact fun σ' S' H' s' G' => hm S' H' .non (post G') trivial .non
      | bk => exact hm.elim
      | ct => exact hm.elim
      | rt r =>
        cases r with
        | va d => exact fun σ' S' H' v s' G' hv => hm S' H' v (post G') trivial hv
        | ow ds => exact fun σ' S' H' v s' G' ⟨a, vs', e1, e2, e3, e4, e5, e6⟩ => hm S' H' v (post G') trivial ⟨a, vs', e1, e2, e3, e6.elim id (fun z => z.elim), e4⟩
        | sl i => exact hm.elim
end
end Mc
end
section
set_option Elab.async false
set_option linter.all false
set_option maxRecDepth 100000
set_option maxHeartbeats 4000000
set_option autoImplicit false
namespace Mc
open PySem PySem.Spec L2

/-! ### calls -/
/-- the arguments are handed over: a list of the frame is held stable, unless what comes back is plain -/
def callK (F : List D → Option DRes) (rs : List R) : M R := fun ρ => match frzSs rs ρ with
  | some (.ok ds ρ') => (match F ds with
    | some (.va d) => some (.ok (.va d) (if d.flat = true then ρ else ρ'))
    | some (.ow es) => some (.ok (.ow es) ρ')
    | some (.er x) => some (.er x ρ')
    | none => none)
  | _ => none
def evCall (F : List D → Option DRes) (fs : M (List R)) : M R := M.bnd fs fun rs => callK F rs
section
variable {b : Bs} {W : WX} {σ : L2.St} {S H : Hp} {ρ : ES}
theorem Post.tab {B : Addr → Prop} {S H S' H' : Hp} {T : Hp} {P : Addr} {q : Str} (p : Post B S H S' H') (t : TabG T H P q) (h : S P = none) : S' P = none := by
  cases z : S' P with
  | none => rfl
  | some o =>
    obtain ⟨ps, hP⟩ := tabS_at t
    rcases p.new P (by rw [z]; exact fun z => nomatch z) with y | y
    · exact (y h).elim
    · rw [hP] at y; cases y
theorem MoAt.noTab {K : PySem.W.Frag} {mg : Str → Option Value} {a c : Addr} {m : Mo} {S H : Hp} (h : MoAt K mg a c m S H) : ∃ o, H a = some o ∧ NoTab o := by
  cases m with
  | pen p => exact ⟨_, h.2.1, noTab_dK⟩
  | ob cl fs => obtain ⟨_, C, fv, e, _⟩ := h; exact ⟨_, e, noTab_ins⟩
theorem Good.post {S' H' : Hp} (G : Good b σ S H ρ) (p : Post (fun _ => False) S H S' H') : Good b σ S' H' ρ where
  sub := p.sub
  len := G.len
  sl := fun i s e => by
    have k := (G.sl i s e).heap (H' := H') fun a u _ _ h => p.keep a u h id
    refine k.mono p.s fun a ha ho => ?_
    obtain ⟨⟨u, hu⟩, hs⟩ := G.ownat ⟨ha, s, e, ho⟩
    cases q : S' a with
    | none => rfl
    | some o =>
      rcases p.new a (by rw [q]; exact fun z => nomatch z) with z | z
      · exact (z hs).elim
      · rw [hu] at z; cases z
  dis := G.dis
  k0 := fun a o e n => p.keep a o (G.k0 a o e n) id
  o0 := G.o0
  s0 := G.s0.trans p.s
  n0 := fun a e => by
    rcases p.new a e with z | z
    · exact G.n0 a z
    · exact Or.inr (Or.inl (G.f0 a z))
  f0 := fun a e => G.f0 a (p.there a e)
  tab := fun P q e => by
    obtain ⟨t, hB, hS⟩ := G.tab P q e
    refine ⟨tabS_up t p.s fun a u h => p.keep a u h id, hB, ?_⟩
    cases z : S' P with
    | none => rfl
    | some o =>
      obtain ⟨ps, hP⟩ := tabS_at t
      rcases p.new P (by rw [z]; exact fun z => nomatch z) with y | y
      · exact (y hS).elim
      · rw [hP] at y; cases y
open Classical in
noncomputable def lendS (ρ : ES) (σ : L2.St) (S' : Hp) : Hp := fun a => if (∃ i, Own ρ σ i a) then none else S' a
theorem lendS_own {ρ : ES} {σ : L2.St} {S' : Hp} {x : Addr} (h : ∃ i, Own ρ σ i x) : lendS ρ σ S' x = none := by
  unfold lendS
  rw [if_pos h]
theorem lendS_not {ρ : ES} {σ : L2.St} {S' : Hp} {x : Addr} (h : ¬ ∃ i, Own ρ σ i x) : lendS ρ σ S' x = S' x := by
  unfold lendS
  rw [if_neg h]
open Classical in
/-- the lists of the frame come back -/
theorem Good.lend {S1 S' H' : Hp} {ρ1 : ES} (G : Good b σ S H ρ) (s1 : Hsub S S1) (G1 : Good b σ S1 H ρ1) (p : Post (fun _ => False) S1 H S' H') : Hsub S (lendS ρ σ S') ∧ Good b σ (lendS ρ σ S') H' ρ := by
  have up : Hsub S (lendS ρ σ S') := fun a o e => by
    have hn : ¬ ∃ i, Own ρ σ i a := fun ⟨i, w⟩ => by
      rw [(G.ownat w).2] at e; cases e
    show (if (∃ i, Own ρ σ i a) then none else S' a) = some o
    rw [if_neg hn]
    exact p.s _ _ (s1 _ _ e)
  refine ⟨up, fun a o e => ?_, G.len, fun i s e => ?_, G.dis, fun a o e n => p.keep a o (G.k0 a o e n) id, G.o0, G.s0.trans up, fun a e => ?_, fun a e => G.f0 a (p.there a e), fun P q e => ⟨tabS_up (G.tab P q e).1 up fun a u h => p.keep a u h id, (G.tab P q e).2.1, ?_⟩⟩
  · have e' : (if (∃ i, Own ρ σ i a) then none else S' a) = some o := e
    split at e'
    · cases e'
    · exact p.sub _ _ e'
  · have k := (G.sl i s e).heap (H' := H') fun a u _ _ h => p.keep a u h id
    exact k.mono up fun a ha ho => if_pos ⟨i, ha, s, e, ho⟩
  · have e' : (if (∃ i, Own ρ σ i a) then none else S' a) ≠ none := e
    split at e'
    · exact (e' rfl).elim
    · rcases p.new a e' with z | z
      · exact G1.n0 a z
      · exact Or.inr (Or.inl (G.f0 a z))
  · by_cases hq : ∃ i, Own ρ σ i P
    · exact lendS_own hq
    · rw [lendS_not hq]
      exact p.tab (G.tab P q e).1 (G1.tab P q e).2.2
theorem RR.of_dr {S1 S' H' : Hp} {ρ1 : ES} {v : V} {r : DRes} {q : R} (G1 : Good b σ S1 H ρ1) (p : Post (fun _ => False) S1 H S' H') (h : DR b.K b.mg H S' H' v r) (e : (∃ d, r = .va d ∧ q = .va d) ∨ ∃ ds, r = .ow ds ∧ q = .ow ds) : RR b σ S' H' ρ1 v q := by
  rcases e with ⟨d, rfl, rfl⟩ | ⟨ds, rfl, rfl⟩
  · exact h
  · obtain ⟨a, vs, e1, e2, e3, e4, e5⟩ := h
    refine ⟨a, vs, e1, e2, e3, e5, fun i w => ?_, Or.inl (G1.f0 a e4)⟩
    obtain ⟨⟨u, hu⟩, _⟩ := G1.ownat w
    rw [hu] at e4; cases e4
theorem call_wp {n : Nat} {F : List D → Option DRes} {rs : List R} {vs : List V} {Q : VK} (hn : rs.length = n) (G : Good b σ S H ρ) (h : RFs b σ S vs rs) (w : Wp b W σ (callK F rs) S H ρ fun S' H' ρ' r => ∀ v, RR b σ S' H' ρ' v r → Q v H') : spP b.K b.mg n F vs H Q (WE W σ) := by
  have hl : vs.length = n := by
    rw [← hn]
    clear hn w
    induction h with
    | nil => rfl
    | cons _ _ ih => simp only [List.length_cons, ih]
  refine ⟨hl, ?_⟩
  unfold Wp WpO callK at w
  cases e : frzSs rs ρ with
  | none => rw [e] at w; exact w.elim
  | some x =>
    rw [e] at w
    cases x with
    | er x ρ' => exact w.elim
    | ok ds ρ1 =>
      have wy : Wp b WF σ (frzSs rs) S H ρ fun _ _ ρ' d => ρ' = ρ1 ∧ d = ds := by
        unfold Wp WpO
        rw [e]
        exact fun _ _ _ _ => ⟨rfl, rfl⟩
      obtain ⟨S1, ρ', ds', s1, G1, r1, e1, e2⟩ := Wp.frzSs G h wy
      subst e1 e2
      refine ⟨S1, ds', G1.sub, r1, ?_⟩
      simp only at w
      cases hF : F ds' with
      | none => rw [hF] at w; exact w.elim
      | some r =>
        rw [hF] at w
        cases r with
        | er x => exact fun S' H' cls d p _ hx => w S' H' cls d (s1.trans p.s) (G1.post p) (hx.imp fun a z => G1.f0 a z)
        | ow es => exact fun S' H' v p _ hv => w S' H' (s1.trans p.s) (G1.post p) v (RR.of_dr G1 p hv (Or.inr ⟨es, rfl, rfl⟩))
        | va d =>
          intro S' H' v p _ hv
          simp only at w
          by_cases hd : d.flat = true
          · rw [if_pos hd] at w
            obtain ⟨up, G3⟩ := G.lend s1 G1 p
            exact w _ H' up G3 v (Rp.flat hv hd)
          · rw [if_neg hd] at w
            exact w S' H' (s1.trans p.s) (G1.post p) v hv
end
section
variable {b : Bs} {W : WX} {L k n : Nat} {X : Cx} {p pos : Pos} {x : Str} {e1 : Expr} {es : List Expr} {fs : M (List R)} {F : List D → Option DRes}
/-- as many arguments -/
def evN (n : Nat) (fs : M (List R)) : M (List R) := M.bnd fs fun rs ρ => if rs.length = n then some (.ok rs ρ) else none
theorem pe_fn (d : Dn X.prog X.w X.K X.mg X.base x k n F) (o : OKx b L X) (tk : Takes X W) (ha : PA X (e1 :: es) (rAr b W fs)) (hk : k ≤ L := by decide) (hg : Gl X x := by rfl) (hdb : (x == ("__debug__" : Str)) = false := by decide)
    (he : starEach (e1 :: es) X.env = (false, eval e1 X.env) :: starEach es X.env := by rfl) (hpl : (backTo pos (starEach es X.env)).any (·.1) = false := by rfl) : PE X (.Call (.Name x p) (e1 :: es) [] pos) (rE b W (evCall F (evN n fs))) := by
  obtain ⟨f, fd, ps, hm, kp, hb, Fk⟩ := d.ex
  refine PE.weak (pe_callSD (E := WE W) Fk (o.rm.mono hk) hg hm kp hb .nil (fun σ => passAt tk σ) ha hdb he hpl) fun σ H Q ⟨b', S, ρ, eb, G, w⟩ => ⟨b', S, ρ, eb, G, ?_⟩
  refine Wp.mono (Wp.bind (f := fs) (Wp.bind w)) fun S1 H1 ρ1 rs s1 G1 q vs hvs => ?_
  have h2 : rs.length = n := by
    by_cases h : rs.length = n
    · exact h
    · exact wp_none (if_neg h) q
  have q2 := wp_ok (a := rs) (if_pos h2) q (Hsub.refl _) G1
  show spP X.K X.mg n F (vs ++ []) H1 Q (WE W σ)
  rw [List.append_nil]
  have := call_wp h2 G1 hvs q2
  rw [o.K, o.mg, ← eb.1, ← eb.2]
  exact this
end

/-! ### calls with a pen -/
def Mo.isPen : Mo → Bool
  | .pen _ => true
  | _ => false
def callN (F : Mo → List D → Option (DRes × Mo)) (rs : List R) : M R := fun ρ => match rs with
  | .sl i :: rs => (match ρ[i]? with
    | some (Sl.pn p) => (match frzSs rs ρ with
      | some (.ok ds ρ1) => (match F p ds with
        | some (.va d, p') => some (.ok (.va d) (if (d.flat && p.isPen && p'.isPen) = true then ρ.set i (.pn p') else ρ1.set i (.pn p')))
        | some (.ow es, p') => some (.ok (.ow es) (ρ1.set i (.pn p')))
        | some (.er x, p') => some (.er x (ρ1.set i (.pn p')))
        | none => none)
      | _ => none)
    | _ => none)
  | _ => none
def evCallN (F : Mo → List D → Option (DRes × Mo)) (fs : M (List R)) : M R := M.bnd fs fun rs => callN F rs
section
variable {b : Bs} {W : WX} {σ : L2.St} {S H : Hp} {ρ : ES}
theorem own_set {i j : Nat} {a : Addr} {p p' : Mo} (hi : ρ[i]? = some (Sl.pn p)) (w : Own (ρ.set i (.pn p')) σ j a) : Own ρ σ j a := by
  obtain ⟨h1, s, h2, h3⟩ := w
  by_cases hj : i = j
  · subst hj
    exact ⟨h1, _, hi, rfl⟩
  · rw [List.getElem?_set_ne hj] at h2
    exact ⟨h1, s, h2, h3⟩
theorem Good.step {S' H' : Hp} {i : Nat} {a : Addr} {p p' : Mo} (G : Good b σ S H ρ) (hi : ρ[i]? = some (Sl.pn p)) (ha : σ[i]? = some (some (.ref a))) (up : Hsub S S') (sub : Hsub S' H') (keep : ∀ x o, H x = some o → x ≠ a → H' x = some o)
    (fr : ∀ j c, Own ρ σ j c → S' c = none) (n0 : ∀ x, S' x ≠ none → b.S0 x ≠ none ∨ b.H0 x = none ∨ b.B x) (f0 : ∀ x, H' x = none → H x = none) {c : Addr} (hc : b.pa = some (a, c)) (pn : MoAt b.K b.mg a c p' S' H') (tb : ∀ P q, b.tb = some (P, q) → S' P = none) : Good b σ S' H' (ρ.set i (.pn p')) := by
  have wa : Own ρ σ i a := ⟨ha, _, hi, rfl⟩
  refine ⟨sub, by rw [List.length_set]; exact G.len, fun j s e => ?_, fun j k c h1 h2 => G.dis j k c (own_set hi h1) (own_set hi h2), fun x o e n => keep x o (G.k0 x o e n) fun z => ?_, fun j c w => G.o0 j c (own_set hi w), G.s0.trans up, n0, fun x e => G.f0 x (f0 x e), fun P q e => ⟨?_, (G.tab P q e).2.1, tb P q e⟩⟩
  · by_cases hj : i = j
    · subst hj
      rw [List.getElem?_set_self (List.getElem?_eq_some_iff.mp hi).1] at e
      cases e
      exact ⟨a, c, ha, pn, hc⟩
    · rw [List.getElem?_set_ne hj] at e
      have k := (G.sl j s e).heap (H' := H') fun c u hcc ho h => keep c u h fun z => by
        subst z
        exact hj (G.dis i j c wa ⟨hcc, s, e, ho⟩)
      exact k.mono up fun c hc ho => fr j c ⟨hc, s, e, ho⟩
  · subst z
    rcases G.o0 i x wa with q | q
    · rw [e] at q; cases q
    · exact n q
  · obtain ⟨a', c', e1, mo, _⟩ := G.sl i _ hi
    rw [ha] at e1
    cases e1
    obtain ⟨o, ho, nt⟩ := mo.noTab
    exact tabS_write (G.tab P q e).1 up ho nt keep
theorem frzS_pn {r : R} {ρ ρ' : ES} {d : D} {i : Nat} {p : Mo} (h : frzS r ρ = some (.ok d ρ')) (hi : ρ[i]? = some (Sl.pn p)) : ρ'[i]? = some (Sl.pn p) := by
  unfold frzS at h
  split at h
  · cases h; exact hi
  · cases h
  · rename_i j
    split at h
    · rename_i ds hj
      cases h
      by_cases e : j = i
      · subst e; rw [hi] at hj; cases hj
      · rw [List.getElem?_set_ne e]; exact hi
    · cases h; exact hi
    · cases h
theorem frzSs_pn {i : Nat} {p : Mo} : ∀ {rs : List R} {ρ ρ' : ES} {ds : List D}, frzSs rs ρ = some (.ok ds ρ') → ρ[i]? = some (Sl.pn p) → ρ'[i]? = some (Sl.pn p)
  | [], ρ, ρ', ds, h, hi => by cases h; exact hi
  | r :: rs, ρ, ρ', ds, h, hi => by
    unfold frzSs M.bnd at h
    split at h
    · cases h
    · rename_i d ρ1 h1
      have q1 := frzS_pn h1 hi
      dsimp only at h
      split at h
      · cases h
      · rename_i ds2 ρ2 h2
        cases h
        exact frzSs_pn h2 q1
      · cases h
    · cases h
theorem Post.fr {a : Addr} {S' H' : Hp} (p : Post (fun x => x = a) S H S' H') {c : Addr} (hS : S c = none) (hH : H c ≠ none) : S' c = none := by
  cases q : S' c with
  | none => rfl
  | some o =>
    rcases p.new c (by rw [q]; exact fun z => nomatch z) with z | z
    · exact (z hS).elim
    · exact (hH z).elim
theorem callN_wp {n : Nat} {F : Mo → List D → Option (DRes × Mo)} {rs : List R} {vs : List V} {Q : VK} (hn : rs.length = n + 1) (G : Good b σ S H ρ) (h : RFs b σ S vs rs) (w : Wp b W σ (callN F rs) S H ρ fun S' H' ρ' r => ∀ v, RR b σ S' H' ρ' v r → Q v H') : spN b.K b.mg n F vs H Q (WE W σ) := by
  have hl : vs.length = n + 1 := by
    rw [← hn]
    clear hn w
    induction h with
    | nil => rfl
    | cons _ _ ih => simp only [List.length_cons, ih]
  refine ⟨hl, ?_⟩
  cases h with
  | nil => cases hn
  | cons h0 h =>
    rename_i v us r rs
    cases r with
    | va d => exact w.elim
    | ow d => exact w.elim
    | sl i =>
      unfold Wp WpO callN at w
      simp only at w
      cases hi : ρ[i]? with
      | none => rw [hi] at w; exact w.elim
      | some s =>
        rw [hi] at w
        cases s with
        | no => exact w.elim
        | va d => exact w.elim
        | ow d => exact w.elim
        | pn p =>
          simp only at w
          obtain ⟨a, c, e1, e2, e5⟩ := G.sl i _ hi
          have hv : σ[i]? = some (some v) := h0
          have e6 := hv.symm.trans e1
          cases e6
          cases e : frzSs rs ρ with
          | none => rw [e] at w; exact w.elim
          | some x =>
            rw [e] at w
            cases x with
            | er x ρ' => exact w.elim
            | ok ds ρ1 =>
              have wy : Wp b WF σ (frzSs rs) S H ρ fun _ _ ρ' d => ρ' = ρ1 ∧ d = ds := by
                unfold Wp WpO
                rw [e]
                exact fun _ _ _ _ => ⟨rfl, rfl⟩
              obtain ⟨S1, ρ', ds', s1, G1, r1, q1, q2⟩ := Wp.frzSs G h wy
              subst q1 q2
              simp only at w
              have hi1 := frzSs_pn e hi
              have P1 : MoAt b.K b.mg a c p S1 H := e2.mono s1 (G1.ownat ⟨hv, _, hi1, rfl⟩).2
              refine ⟨S1, a, c, p, us, ds', rfl, G1.sub, P1, r1, ?_⟩
              cases hF : F p ds' with
              | none => rw [hF] at w; exact w.elim
              | some rp =>
                obtain ⟨r, p'⟩ := rp
                rw [hF] at w
                have keep : ∀ {S' H' : Hp}, Post (fun x => x = a) S1 H S' H' → MoAt b.K b.mg a c p' S' H' → Good b σ S' H' (ρ'.set i (.pn p')) := fun {S' H'} po pn =>
                  G1.step hi1 hv po.s po.sub (fun x o e n => po.keep x o e n) (fun j d w => po.fr (G1.ownat w).2 (by obtain ⟨⟨u, hu⟩, _⟩ := G1.ownat w; rw [hu]; exact fun z => nomatch z)) (fun x e => by
                    rcases po.new x e with z | z
                    · exact G1.n0 x z
                    · exact Or.inr (Or.inl (G1.f0 x z))) po.there e5 pn (fun P q e => po.tab (G1.tab P q e).1 (G1.tab P q e).2.2)
                cases r with
                | er x => exact fun S' H' cls d po pn hx => w S' H' cls d (s1.trans po.s) (keep po pn) (hx.imp fun a z => G1.f0 a z)
                | ow es =>
                  intro S' H' v po pn hv2
                  refine w S' H' (s1.trans po.s) (keep po pn) v ?_
                  obtain ⟨q, vs, y1, y2, y3, y4, y5⟩ := hv2
                  refine ⟨q, vs, y1, y2, y3, y5, fun j wj => ?_, Or.inl (G1.f0 q y4)⟩
                  obtain ⟨⟨u, hu⟩, _⟩ := G1.ownat (own_set hi1 wj)
                  rw [hu] at y4; cases y4
                | va d =>
                  intro S' H' v po pn hv2
                  simp only at w
                  by_cases hd0 : (d.flat && p.isPen && p'.isPen) = true
                  · rw [if_pos hd0] at w
                    obtain ⟨hd1, hp'⟩ := Bool.and_eq_true_iff.mp hd0
                    obtain ⟨hd, hp⟩ := Bool.and_eq_true_iff.mp hd1
                    have up : Hsub S (lendS ρ σ S') := fun x o e => by
                      have hn : ¬ ∃ i, Own ρ σ i x := fun ⟨i, w⟩ => by
                        rw [(G.ownat w).2] at e; cases e
                      rw [lendS_not hn]
                      exact po.s _ _ (s1 _ _ e)
                    have G3 : Good b σ (lendS ρ σ S') H' (ρ.set i (.pn p')) := by
                      refine G.step hi hv up (fun x o e => ?_) (fun x o e n => po.keep x o e n) (fun j d w => lendS_own ⟨j, w⟩) (fun x e => ?_) po.there e5 ?_ (fun P qq e => by
                        by_cases q : ∃ i, Own ρ σ i P
                        · exact lendS_own q
                        · rw [lendS_not q]; exact po.tab (G1.tab P qq e).1 (G1.tab P qq e).2.2)
                      · by_cases q : ∃ i, Own ρ σ i x
                        · rw [lendS_own q] at e; cases e
                        · rw [lendS_not q] at e; exact po.sub _ _ e
                      · by_cases q : ∃ i, Own ρ σ i x
                        · rw [lendS_own q] at e; exact (e rfl).elim
                        · rw [lendS_not q] at e
                          rcases po.new x e with z | z
                          · exact G1.n0 x z
                          · exact Or.inr (Or.inl (G.f0 x z))
                      · cases p with
                        | ob _ _ => cases hp
                        | pen p0 =>
                          cases p' with
                          | ob _ _ => cases hp'
                          | pen p1 =>
                            obtain ⟨h2, h1, h3⟩ := pn
                            refine ⟨lendS_own ⟨i, hv, _, hi, rfl⟩, h1, ?_⟩
                            have e4 := e2.2.2
                            have hn : ¬ ∃ i, Own ρ σ i c := fun ⟨i, w⟩ => by
                              rw [(G.ownat w).2] at e4; cases e4
                            rw [lendS_not hn]
                            exact h3
                    exact w _ H' up G3 v (Rp.flat hv2 hd)
                  · rw [if_neg hd0] at w
                    exact w S' H' (s1.trans po.s) (keep po pn) v hv2
end
section
variable {b : Bs} {W : WX} {L k n : Nat} {X : Cx} {p pos : Pos} {x : Str} {e1 : Expr} {es : List Expr} {fs : M (List R)} {F : Mo → List D → Option (DRes × Mo)}
theorem pe_fnN (d : DnN X.prog X.w X.K X.mg X.base x k n F) (o : OKx b L X) (tk : Takes X W) (ha : PA X (e1 :: es) (rAr b W fs)) (hk : k ≤ L := by decide) (hg : Gl X x := by rfl) (hdb : (x == ("__debug__" : Str)) = false := by decide)
    (he : starEach (e1 :: es) X.env = (false, eval e1 X.env) :: starEach es X.env := by rfl) (hpl : (backTo pos (starEach es X.env)).any (·.1) = false := by rfl) : PE X (.Call (.Name x p) (e1 :: es) [] pos) (rE b W (evCallN F (evN (n + 1) fs))) := by
  obtain ⟨f, fd, ps, hm, kp, hb, Fk⟩ := d.ex
  refine PE.weak (pe_callSD (E := WE W) Fk (o.rm.mono hk) hg hm kp hb .nil (fun σ => passAt tk σ) ha hdb he hpl) fun σ H Q ⟨b', S, ρ, eb, G, w⟩ => ⟨b', S, ρ, eb, G, ?_⟩
  refine Wp.mono (Wp.bind (f := fs) (Wp.bind w)) fun S1 H1 ρ1 rs s1 G1 q vs hvs => ?_
  have h2 : rs.length = n + 1 := by
    by_cases h : rs.length = n + 1
    · exact h
    · exact wp_none (if_neg h) q
  have q2 := wp_ok (a := rs) (if_pos h2) q (Hsub.refl _) G1
  show spN X.K X.mg n F (vs ++ []) H1 Q (WE W σ)
  rw [List.append_nil]
  have := callN_wp h2 G1 hvs q2
  rw [o.K, o.mg, ← eb.1, ← eb.2]
  exact this
end
end Mc
end
section
set_option Elab.async false
set_option linter.all false
set_option maxRecDepth 100000
set_option maxHeartbeats 4000000
set_option autoImplicit false
namespace Mc
open PySem PySem.Spec L2

/-! ### a def with a pen -/
section
variable {P : Program} {w : World} {K : PySem.W.Frag} {mg : Str → Option Value} {base : Heap}
theorem good_startN {b : Bs} {S H : Hp} {N : List Str} {vs : List V} {ds : List D} {a c : Addr} {p : Mo} (hl : vs.length + 1 ≤ N.length) (hS : Hsub S H) (r : Rps b.K b.mg S vs ds) (pn : MoAt b.K b.mg a c p S H) (e1 : b.H0 = H) (e2 : b.S0 = S) (e3 : b.B = fun x => x = a) (e4 : b.pa = some (a, c)) (e5 : b.tb = none := by rfl) :
    Good b (L2.start N (.ref a :: vs)) S H (.pn p :: ini (N.length - 1) ds) := by
  have hd := Rps.length r
  have own : ∀ i x, Own (Sl.pn p :: ini (N.length - 1) ds) (L2.start N (.ref a :: vs)) i x → i = 0 ∧ x = a := fun i x ⟨h1, s, h2, h3⟩ => by
    cases i with
    | zero =>
      have : (L2.start N (.ref a :: vs))[0]? = some (some (.ref a)) := start_get rfl
      rw [this] at h1
      cases h1
      exact ⟨rfl, rfl⟩
    | succ i =>
      rw [List.getElem?_cons_succ] at h2
      rcases ini_get h2 with ⟨d, _, rfl⟩ | rfl <;> cases h3
  refine ⟨hS, ?_, fun i s h => ?_, fun i j x h1 h2 => (own i x h1).1.trans (own j x h2).1.symm, fun x o e _ => by rw [← e1]; exact e, fun i x h => Or.inr (by rw [e3]; exact (own i x h).2), by rw [e2]; exact Hsub.refl _, fun x e => Or.inl (by rw [e2]; exact e), fun x e => by rw [e1]; exact e, fun P q e => by rw [e5] at e; cases e⟩
  · unfold ini L2.start
    simp only [List.length_append, List.length_map, List.length_replicate, List.length_cons]
    omega
  · cases i with
    | zero =>
      cases h
      exact ⟨a, c, start_get rfl, pn, e4⟩
    | succ i =>
      rw [List.getElem?_cons_succ] at h
      rcases ini_get h with ⟨d, h1, rfl⟩ | rfl
      · obtain ⟨v, h2, h3⟩ := Rps.get r h1
        exact ⟨v, start_get (by rw [List.getElem?_cons_succ]; exact h2), h3⟩
      · trivial
theorem fn_defN {x qual : Str} {params : Arguments} {body : List Stmt} {scope : Scope} {f : Addr} {fd : FuncData} {N ps : List Str} {k n : Nat} {m : M Fl} (F : FunD K x qual params body scope [] [] f fd) (S : FnScope N ps scope) (hn : ps.length = n + 1) (hl : ps.length ≤ N.length)
    (hb : BodyIs P w K mg base N qual scope f k body m) : FnOk P w K mg base (L2.CX P w) (k + 1) f fd ps (spN K mg n (runN N.length m)) := by
  refine F.ok S (fun vs H Q E h => by rw [hn]; exact h.1) fun cdv A outer s H vs Q E hr ⟨hvl, S0, a, c, p, us, ds, hv, hS, hp, hr0, hm⟩ => ?_
  subst hv
  let b : Bs := ⟨K, mg, H, S0, fun x => x = a, some (a, c), none⟩
  have hul : us.length = n := by simpa using hvl
  have G : Good b (L2.start N (.ref a :: us)) S0 H (.pn p :: ini (N.length - 1) ds) := good_startN (by omega) hS hr0 hp rfl rfl rfl rfl
  have post : ∀ {σ' S' H' ρ' p'}, Good b σ' S' H' ρ' → ρ'[0]? = some (Sl.pn p') → Post (fun x => x = a) S0 H S' H' ∧ MoAt K mg a c p' S' H' := fun {σ' S' H' ρ' p'} G' h0 => by
    obtain ⟨a', c', e1, e2, e5⟩ := G'.sl 0 _ h0
    cases e5
    refine ⟨⟨G'.s0, G'.sub, fun x o e n => G'.k0 x o e n, fun x e => ?_, G'.f0⟩, e2⟩
    rcases G'.n0 x e with z | z | z
    · exact Or.inl z
    · exact Or.inr z
    · have z' : x = a := z
      subst z'
      exact (e e2.1).elim
  refine ⟨_, hb (bodyX P w K mg base N qual scope f cdv A outer s H E) (fun cls d _ H => E cls d H) b ⟨cdv, A, outer, s, H, E, rfl⟩ rfl rfl ⟨rfl, rfl, rfl, S.nd, hr⟩ (takes_of rfl rfl rfl rfl) (passes_of rfl), b, S0, _, EqB.refl _, G, ?_⟩
  unfold runN at hm
  cases e : m (.pn p :: ini (N.length - 1) ds) with
  | none => rw [e] at hm; exact hm.elim
  | some r =>
    rw [e] at hm
    have h0 : ∀ ρ' : ES, (∃ p', ρ'[0]? = some (Sl.pn p')) ∨ ∀ p', ρ'[0]? ≠ some (Sl.pn p') := fun ρ' => by
      by_cases h : ∃ p', ρ'[0]? = some (Sl.pn p')
      · exact Or.inl h
      · exact Or.inr fun p' z => h ⟨p', z⟩
    cases r with
    | er x ρ' =>
      cases q : ρ'[0]? with
      | none => simp only [resP, q] at hm
      | some s =>
        cases s with
        | pn p' =>
          simp only [resP, q] at hm
          exact fun σ' S' H' cls d s' G' hx => hm S' H' cls d (post G' q).1 (post G' q).2 hx
        | _ => simp only [resP, q] at hm
    | ok fl ρ' =>
      cases q : ρ'[0]? with
      | none =>
        cases fl with
        | nx => simp only [resP, q] at hm
        | bk => exact hm.elim
        | ct => exact hm.elim
        | rt r => simp only [resP, q] at hm
      | some s =>
        cases s with
        | pn p' =>
          cases fl with
          | nx =>
            simp only [resP, q] at hm
            exact fun σ' S' H' s' G' => hm S' H' .non (post G' q).1 (post G' q).2 .non
          | bk => exact hm.elim
          | ct => exact hm.elim
          | rt r =>
            cases r with
            | va d =>
              simp only [resP, q, resR] at hm
              exact fun σ' S' H' v s' G' hv => hm S' H' v (post G' q).1 (post G' q).2 hv
            | ow es =>
              simp only [resP, q, resR] at hm
              refine fun σ' S' H' v s' G' ⟨y, vs', e1, e2, e3, e4, e5, e6⟩ => hm S' H' v (post G' q).1 (post G' q).2 ⟨y, vs', e1, e2, e3, e6.elim id fun z => ?_, e4⟩
              have z' : y = a := z
              subst z'
              exact ((post G' q).2.nl e2).elim
            | sl i => simp only [resP, q, resR] at hm
        | _ =>
          cases fl with
          | nx => simp only [resP, q] at hm
          | bk => exact hm.elim
          | ct => exact hm.elim
          | rt r => simp only [resP, q] at hm
end

/-! ### what a pen holds -/
def pnGet (x : Str) (p : Pn) : Option D :=
  if x = "cells" then some (.lst (p.cells.map .int)) else if x = "at" then some (.int p.at_) else if x = "digits" then some (.int p.digits) else if x = "count" then some (.int p.count) else if x = "fold" then some (.int p.fold) else none
def pnPut (x : Str) (i : Int) (p : Pn) : Option Pn :=
  if x = "at" then some { p with at_ := i } else if x = "digits" then some { p with digits := i } else if x = "count" then some { p with count := i } else if x = "fold" then some { p with fold := i } else none
theorem Rps.ints {K : PySem.W.Frag} {mg : Str → Option Value} {S : Hp} : ∀ is : List Int, Rps K mg S (is.map V.int) (is.map D.int)
  | [] => .nil
  | i :: is => .cons (.int i) (Rps.ints is)
theorem pn_get {K : PySem.W.Frag} {mg : Str → Option Value} {S : Hp} {c : Addr} {x : Str} {p : Pn} {d : D} (h : pnGet x p = some d) (hc : S c = some (.lst (p.cells.map V.int))) : ∃ v, valV (penK c p) (.inr x) = some v ∧ Rp K mg S v d := by
  unfold pnGet at h
  split at h
  · rename_i e; cases h; subst e; exact ⟨.ref c, by with_unfolding_all rfl, .lst hc (Rps.ints _)⟩
  · split at h
    · rename_i e; cases h; subst e; exact ⟨.int p.at_, by with_unfolding_all rfl, .int _⟩
    · split at h
      · rename_i e; cases h; subst e; exact ⟨.int p.digits, by with_unfolding_all rfl, .int _⟩
      · split at h
        · rename_i e; cases h; subst e; exact ⟨.int p.count, by with_unfolding_all rfl, .int _⟩
        · split at h
          · rename_i e; cases h; subst e; exact ⟨.int p.fold, by with_unfolding_all rfl, .int _⟩
          · cases h
theorem pn_put {c : Addr} {x : Str} {p p' : Pn} {i : Int} (h : pnPut x i p = some p') : putK (penK c p) (.inr x) (.int i) = penK c p' ∧ p'.cells = p.cells := by
  unfold pnPut at h
  split at h
  · rename_i e; cases h; subst e; exact ⟨by with_unfolding_all rfl, rfl⟩
  · split at h
    · rename_i e; cases h; subst e; exact ⟨by with_unfolding_all rfl, rfl⟩
    · split at h
      · rename_i e; cases h; subst e; exact ⟨by with_unfolding_all rfl, rfl⟩
      · split at h
        · rename_i e; cases h; subst e; exact ⟨by with_unfolding_all rfl, rfl⟩
        · cases h
def evPnGet (i : Nat) (x : Str) : M R := fun ρ => match ρ[i]? with
  | some (.pn (.pen p)) => (match pnGet x p with
    | some d => some (.ok (.va d) ρ)
    | none => none)
  | _ => none
def evPnPut (i : Nat) (x : Str) (fa : M R) : M Fl := M.bnd fa fun r ρ => match r, ρ[i]? with
  | .va (.int j), some (.pn (.pen p)) => (match pnPut x j p with
    | some p' => some (.ok .nx (ρ.set i (.pn (.pen p'))))
    | none => none)
  | _, _ => none
section
variable {b : Bs} {W : WX} {L : Nat} {X : Cx} {pos p1 p2 p3 : Pos} {e1 : Expr} {fa : M R} {x y : Str} {j : Nat}
theorem pe_pnGet (o : OKx b L X) (i : Nat) (hN : X.N[i]? = some x := by rfl) (hv : Vis X.env.scope x := by first | exact Or.inl rfl | exact Or.inr (Or.inl rfl) | exact Or.inr (Or.inr rfl)) (hd : (x == ("__debug__" : Str)) = false := by decide)
    (hcd : (x == ("__classdict__" : Str)) = false := by decide) (hs : NoSl (.Constant (.str y) j p2) := by exact fun _ _ => rfl) : PE X (.Subscript (.Name x p1) (.Constant (.str y) j p2) p3) (rE b W (evPnGet i y)) := by
  have hu := o.un
  refine PE.weak (pe_dget (by omega) (pe_var hN hv hd hcd) pe_str hs) fun σ H Q ⟨b', S, ρ, eb, G, w⟩ => ?_
  unfold Wp WpO evPnGet at w
  cases e : ρ[i]? with
  | none => rw [e] at w; exact w.elim
  | some s =>
    rw [e] at w
    cases s with
    | pn p =>
      cases p with
      | ob _ _ => exact w.elim
      | pen p =>
        simp only at w
        obtain ⟨a, c, e1, e2, _⟩ := G.sl i _ e
        cases hg : pnGet y p with
        | none => rw [hg] at w; exact w.elim
        | some d =>
          rw [hg] at w
          obtain ⟨v, h1, h2⟩ := pn_get (K := b'.K) (mg := b'.mg) hg e2.2.2
          exact ⟨.ref a, e1, a, v, rfl, by rw [← h1]; exact DGet.k (k := .inr y) e2.2.1, w S H (Hsub.refl _) G v h2⟩
    | _ => exact w.elim
theorem s_pnPut (o : OKx b L X) (i : Nat) (he : PE X e1 (rE b W fa)) (hN : X.N[i]? = some x := by rfl) (hv : Vis X.env.scope x := by first | exact Or.inl rfl | exact Or.inr (Or.inl rfl) | exact Or.inr (Or.inr rfl)) (hd : (x == ("__debug__" : Str)) = false := by decide)
    (hcd : (x == ("__classdict__" : Str)) = false := by decide) (hs : swapsWith e1 (some (.Subscript (.Name x p1) (.Constant (.str y) j p2) p3)) pos.line X.env = pure false := by rfl) :
    PS X (.Assign [.Subscript (.Name x p1) (.Constant (.str y) j p2) p3] e1 pos) (rS b W (evPnPut i y fa)) := by
  have hu := o.un
  refine PS.weak (ps_dput (by omega) (pe_var hN hv hd hcd) pe_str he hs) fun D σ H ⟨b', S, ρ, eb, G, w⟩ => ⟨b', S, ρ, eb, G, Wp.mono (WpS.bind w) fun S1 H1 ρ1 r s1 G1 w1 v hv => ?_⟩
  cases r with
  | ow ds => exact w1.elim
  | sl i => exact w1.elim
  | va d =>
    cases d with
    | int z =>
      cases hv
      cases e : ρ1[i]? with
      | none => exact wps_none (by simp only [e]) w1
      | some s =>
        cases s with
        | pn q =>
          cases q with
          | ob _ _ => exact wps_none (by simp only [e]) w1
          | pen q =>
            cases hp : pnPut y z q with
            | none => exact wps_none (by simp only [e, hp]) w1
            | some q' =>
              simp only [e, hp] at w1
              obtain ⟨a, c, e1, em, e5⟩ := G1.sl i _ e
              obtain ⟨e3, e2, e4⟩ := em
              obtain ⟨h1, h2⟩ := pn_put (c := c) hp
              refine ⟨.ref a, e1, a, _, rfl, DPut.k (k := .inr y) (v := .int z) e2 (by show 5 < sizeLine; decide), ?_⟩
              rw [h1]
              have na : ∀ {x : Addr} {o : HO}, S1 x = some o → x ≠ a := fun {x o} q z => by subst z; rw [e3] at q; cases q
              refine w1 σ S1 _ (Hsub.refl _) (G1.step e e1 (Hsub.refl _) (fun x o q => by rw [upd_ne (na q)]; exact G1.sub _ _ q) (fun x o q n => by rw [upd_ne n]; exact q) (fun j d w => (G1.ownat w).2) G1.n0 (fun x q => ?_) e5 (p' := .pen q') ⟨e3, upd_same, by rw [h2]; exact e4⟩ (fun P q e => (G1.tab P q e).2.2))
              by_cases h : x = a
              · subst h; rw [upd_same] at q; cases q
              · rw [upd_ne h] at q; exact q
        | _ => exact wps_none (by simp only [e]) w1
    | _ => exact w1.elim
end
end Mc
end
section
set_option Elab.async false
set_option linter.all false
set_option maxRecDepth 100000
set_option maxHeartbeats 4000000
set_option autoImplicit false
namespace Mc
open PySem PySem.Spec L2

/-! ### built-in calls -/
inductive RVs (b : Bs) (S H : Hp) : List V → List D → Prop
  | nil : RVs b S H [] []
  | cons {v : V} {vs : List V} {d : D} {ds : List D} : RV b S H v d → RVs b S H vs ds → RVs b S H (v :: vs) (d :: ds)
def rdDs (ρ : ES) : List R → Option (List D)
  | [] => some []
  | r :: rs => match rdD ρ r, rdDs ρ rs with
    | some d, some ds => some (d :: ds)
    | _, _ => none
def evB (g : List D → Option R) (fs : M (List R)) : M R := M.bnd fs fun rs ρ => match rdDs ρ rs with
  | some ds => M.lift (g ds) ρ
  | none => none
def SemB (K : PySem.W.Frag) (g : List D → Option R) (r : List V → Hp → VK → Prop) : Prop := ∀ (b : Bs), b.K = K → ∀ (σ : L2.St) (S H : Hp) (ρ : ES) (xs : List V) (ds : List D) (z : R), Good b σ S H ρ → RVs b S H xs ds → g ds = some z →
  ∀ Q : VK, (∀ v H' S', Hsub S S' → Good b σ S' H' ρ → RR b σ S' H' ρ v z → Q v H') → r xs H Q
section
variable {b : Bs} {W : WX} {L : Nat} {X : Cx} {p pos : Pos} {e1 : Expr} {es : List Expr} {fs : M (List R)} {g : List D → Option R} {r : List V → Hp → VK → Prop} {x : Str} {id T : String}
theorem RFs.rvs {σ : L2.St} {S H : Hp} {ρ : ES} (G : Good b σ S H ρ) : ∀ {vs : List V} {rs : List R} {ds : List D}, RFs b σ S vs rs → rdDs ρ rs = some ds → RVs b S H vs ds
  | _, _, _, .nil, e => by cases e; exact .nil
  | _, _, _, .cons h t, e => by
    unfold rdDs at e
    split at e
    · rename_i d ds h1 h2
      cases e
      exact .cons (h.rv G h1) (RFs.rvs G t h2)
    · cases e
theorem evB_wp {σ : L2.St} {S H : Hp} {ρ : ES} {Q : VK} (sem : SemB b.K g r) (w : Wp b W σ (evB g fs) S H ρ fun S' H' ρ' r => ∀ v, RR b σ S' H' ρ' v r → Q v H') : Wp b W σ fs S H ρ fun S' H' ρ' rs => ∀ vs, RFs b σ S' vs rs → r vs H' Q := by
  refine Wp.mono (Wp.bind w) fun S1 H1 ρ1 rs s1 G1 q vs hvs => ?_
  cases h : rdDs ρ1 rs with
  | none => exact wp_none (by simp only [h]) q
  | some ds =>
    cases hg : g ds with
    | none => exact wp_none (by simp only [h, M.lift, hg]) q
    | some z => exact sem b rfl σ S1 H1 ρ1 vs ds z G1 (hvs.rvs G1 h) hg Q fun v H' S' s' G' rr => wp_ok (a := z) (by simp only [h, M.lift, hg]) q s' G' v rr
theorem pe_cB (hc : CallR X (.builtin id) r) (sem : SemB b.K g r) (ha : PA X (e1 :: es) (rAr b W fs)) (hm : X.mg x = none) (hv : bootBuiltins x = some (.builtin id)) (hg : Gl X x := by rfl) (hn : x ≠ "__name__" := by decide) (hdb : (x == ("__debug__" : Str)) = false := by decide)
    (he : starEach (e1 :: es) X.env = (false, eval e1 X.env) :: starEach es X.env := by rfl) (hpl : (backTo pos (starEach es X.env)).any (·.1) = false := by rfl) : PE X (.Call (.Name x p) (e1 :: es) [] pos) (rE b W (evB g fs)) :=
  PE.weak (pe_callB hc hg hm hv ha hn hdb he hpl) fun σ H Q ⟨b', S, ρ, eb, G, w⟩ => ⟨b', S, ρ, eb, G, evB_wp (by rw [eb.1]; exact sem) w⟩
theorem pe_cT (hc : CallR X (.type T) r) (sem : SemB b.K g r) (ha : PA X (e1 :: es) (rAr b W fs)) (hm : X.mg x = none) (hv : bootBuiltins x = some (.type T)) (hg : Gl X x := by rfl) (hn : x ≠ "__name__" := by decide) (hdb : (x == ("__debug__" : Str)) = false := by decide)
    (he : starEach (e1 :: es) X.env = (false, eval e1 X.env) :: starEach es X.env := by rfl) (hpl : (backTo pos (starEach es X.env)).any (·.1) = false := by rfl) : PE X (.Call (.Name x p) (e1 :: es) [] pos) (rE b W (evB g fs)) :=
  PE.weak (pe_callTy hc hg hm hv ha hn hdb he hpl) fun σ H Q ⟨b', S, ρ, eb, G, w⟩ => ⟨b', S, ρ, eb, G, evB_wp (by rw [eb.1]; exact sem) w⟩
end
theorem OKx.K' {b : Bs} {L : Nat} {X : Cx} (o : OKx b L X) {f : PySem.W.Frag → List V → Hp → VK → Prop} {g : List D → Option R} (h : SemB b.K g (f b.K)) : SemB b.K g (f X.K) := by rw [o.K]; exact h

/-! ### len, abs, int, str -/
def lenD : List D → Option R
  | [.str x] => if okN x.length = true then some (.va (.int x.length)) else none
  | [.lst xs] => some (.va (.int xs.length))
  | [.tup xs] => some (.va (.int xs.length))
  | _ => none
theorem rv1 {b : Bs} {S H : Hp} {xs : List V} {d : D} (h : RVs b S H xs [d]) : ∃ v, xs = [v] ∧ RV b S H v d := by
  cases h with
  | cons h t => cases t; exact ⟨_, rfl, h⟩
theorem rv2 {b : Bs} {S H : Hp} {xs : List V} {d e : D} (h : RVs b S H xs [d, e]) : ∃ v u, xs = [v, u] ∧ RV b S H v d ∧ RV b S H u e := by
  cases h with
  | cons h t =>
    obtain ⟨u, rfl, q⟩ := rv1 t
    exact ⟨_, u, rfl, h, q⟩
theorem rv3 {b : Bs} {S H : Hp} {xs : List V} {d e f : D} (h : RVs b S H xs [d, e, f]) : ∃ v u w, xs = [v, u, w] ∧ RV b S H v d ∧ RV b S H u e ∧ RV b S H w f := by
  cases h with
  | cons h t =>
    obtain ⟨u, w, rfl, q⟩ := rv2 t
    exact ⟨_, u, w, rfl, h, q⟩
theorem sem_len {K : PySem.W.Frag} : SemB K lenD (fun xs H Q => ∃ x n, xs = [x] ∧ LenV K x H n ∧ Q (.int n) H) := by
  intro b eb σ S H ρ xs ds z G h hg Q q
  subst eb
  unfold lenD at hg
  split at hg
  · rename_i x
    obtain ⟨v, rfl, hv⟩ := rv1 h
    cases hv
    split at hg
    · rename_i hl
      cases hg
      exact ⟨_, _, rfl, ⟨okN_sz hl, rfl⟩, q _ H S (Hsub.refl _) G (Rp.int _)⟩
    · cases hg
  · rename_i ys
    obtain ⟨v, rfl, a, vs, rfl, h1, r1⟩ := rv1 h
    cases hg
    exact ⟨_, _, rfl, Or.inl ⟨vs, SqL.of h1, rfl⟩, by rw [Rps.length r1]; exact q _ H S (Hsub.refl _) G (Rp.int _)⟩
  · rename_i ys
    obtain ⟨v, rfl, a, vs, rfl, h1, r1⟩ := rv1 h
    cases hg
    exact ⟨_, _, rfl, Or.inr ⟨vs, sqt_mono G.sub h1.1, rfl⟩, by rw [Rps.length r1]; exact q _ H S (Hsub.refl _) G (Rp.int _)⟩
  · cases hg
def absD : List D → Option R
  | [.int i] => some (.va (.int (if i < 0 then -i else i)))
  | _ => none
theorem sem_abs {K : PySem.W.Frag} : SemB K absD (fun xs H Q => ∃ i, xs = [.int i] ∧ Q (.int (if i < 0 then -i else i)) H) := by
  intro b eb σ S H ρ xs ds z G h hg Q q
  unfold absD at hg
  split at hg
  · obtain ⟨v, rfl, hv⟩ := rv1 h
    cases hv
    cases hg
    exact ⟨_, rfl, q _ H S (Hsub.refl _) G (Rp.int _)⟩
  · cases hg
def toiD : List D → Option R
  | [.int i] => some (.va (.int i))
  | [.bl k] => some (.va (.int (if k then 1 else 0)))
  | _ => none
theorem sem_toi {K : PySem.W.Frag} : SemB K toiD (fun xs H Q => (∃ i, xs = [.int i] ∧ Q (.int i) H) ∨ ∃ k, xs = [.bl k] ∧ Q (.int (if k then 1 else 0)) H) := by
  intro b eb σ S H ρ xs ds z G h hg Q q
  unfold toiD at hg
  split at hg
  · obtain ⟨v, rfl, hv⟩ := rv1 h
    cases hv
    cases hg
    exact Or.inl ⟨_, rfl, q _ H S (Hsub.refl _) G (Rp.int _)⟩
  · obtain ⟨v, rfl, hv⟩ := rv1 h
    cases hv
    cases hg
    exact Or.inr ⟨_, rfl, q _ H S (Hsub.refl _) G (Rp.int _)⟩
  · cases hg
def strD : List D → Option R
  | [.int i] => if decide (i.natAbs.log2 < 1920) = true then some (.va (.str (toString i))) else none
  | _ => none
theorem sem_str {K : PySem.W.Frag} : SemB K strD (fun xs H Q => ∃ i, xs = [.int i] ∧ i.natAbs.log2 < 1920 ∧ Q (.str (toString i)) H) := by
  intro b eb σ S H ρ xs ds z G h hg Q q
  unfold strD at hg
  split at hg
  · obtain ⟨v, rfl, hv⟩ := rv1 h
    cases hv
    split at hg
    · rename_i hl
      cases hg
      exact ⟨_, rfl, of_decide_eq_true hl, q _ H S (Hsub.refl _) G (Rp.str _)⟩
    · cases hg
  · cases hg
def mx2D : List D → Option R
  | [.int i, .int j] => some (.va (.int (if j > i then j else i)))
  | _ => none
theorem sem_mx2 {K : PySem.W.Frag} : SemB K mx2D (fun xs H Q => ∃ i j, xs = [.int i, .int j] ∧ Q (.int (if j > i then j else i)) H) := by
  intro b eb σ S H ρ xs ds z G h hg Q q
  unfold mx2D at hg
  split at hg
  · obtain ⟨v, u, rfl, hv, hu⟩ := rv2 h
    cases hv
    cases hu
    cases hg
    exact ⟨_, _, rfl, q _ H S (Hsub.refl _) G (Rp.int _)⟩
  · cases hg
def mn2D : List D → Option R
  | [.int i, .int j] => some (.va (.int (if j < i then j else i)))
  | _ => none
theorem sem_mn2 {K : PySem.W.Frag} : SemB K mn2D (fun xs H Q => ∃ i j, xs = [.int i, .int j] ∧ Q (.int (if j < i then j else i)) H) := by
  intro b eb σ S H ρ xs ds z G h hg Q q
  unfold mn2D at hg
  split at hg
  · obtain ⟨v, u, rfl, hv, hu⟩ := rv2 h
    cases hv
    cases hu
    cases hg
    exact ⟨_, _, rfl, q _ H S (Hsub.refl _) G (Rp.int _)⟩
  · cases hg

/-! ### list(..), tuple(..) -/
def listD : List D → Option R
  | [.lst xs] => some (.ow xs)
  | [.tup xs] => some (.ow xs)
  | _ => none
theorem sem_list {K : PySem.W.Frag} : SemB K listD (fun xs H Q => ∃ p ys, xs = [.ref p] ∧ (SqL K H p ys ∨ SqT K H p ys) ∧ ∀ l, H l = none → Q (.ref l) (upd H l (.lst ys))) := by
  intro b eb σ S H ρ xs ds z G h hg Q q
  subst eb
  unfold listD at hg
  split at hg
  · obtain ⟨v, rfl, a, vs, rfl, h1, r1⟩ := rv1 h
    cases hg
    exact ⟨a, vs, rfl, Or.inl (SqL.of h1), fun l hl => q _ _ S (Hsub.refl _) (G.newH hl) (RR.new G hl r1)⟩
  · obtain ⟨v, rfl, a, vs, rfl, h1, r1⟩ := rv1 h
    cases hg
    exact ⟨a, vs, rfl, Or.inr (sqt_mono G.sub h1.1), fun l hl => q _ _ S (Hsub.refl _) (G.newH hl) (RR.new G hl r1)⟩
  · cases hg
def tupD : List D → Option R
  | [.lst xs] => some (.va (.tup xs))
  | [.tup xs] => some (.va (.tup xs))
  | _ => none
theorem sem_tup {K : PySem.W.Frag} : SemB K tupD (rTupX K) := by
  intro b eb σ S H ρ xs ds z G h hg Q q
  subst eb
  unfold tupD at hg
  split at hg
  · obtain ⟨v, rfl, a, vs, rfl, h1, r1⟩ := rv1 h
    cases hg
    exact ⟨a, vs, rfl, Or.inl ⟨SqL.of h1, fun l o hl ho => q _ _ _ (Hsub.new (G.sn hl)) (G.new hl) (RR.newT G hl ho r1)⟩⟩
  · obtain ⟨v, rfl, a, vs, rfl, h1, r1⟩ := rv1 h
    cases hg
    exact ⟨a, vs, rfl, Or.inr ⟨sqt_mono G.sub h1.1, q _ _ S (Hsub.refl _) G (.tup h1 r1)⟩⟩
  · cases hg
end Mc
end
section
set_option Elab.async false
set_option linter.all false
set_option maxRecDepth 100000
set_option maxHeartbeats 4000000
set_option autoImplicit false
namespace Mc
open PySem PySem.Spec L2

/-! ### a list or a tuple gone through by a built-in function -/
def SqA (K : PySem.W.Frag) (H : Hp) (a : Addr) (xs : List V) : Prop := SqL K H a xs ∨ SqT K H a xs
section
variable {X : Cx} {pins : List (Addr × Obj)} {σ : L2.St} {H : Hp} {s : Shared} {E : Value → Shared → Prop}
structure Gone (X : Cx) (s s2 : Shared) (xs : List V) (its : List Value) (it : Addr) (fp : List Addr) (St : Nat → Heap → Prop) : Prop where
  vals : Vals xs its
  walk : Walks X.prog X.w X.A.in1 it fp [it] its.length (fun i v => its[i]? = some v) St
  at0 : St 0 s2.heap
  fps : ∀ c ∈ fp, c < s2.heap.objs.size
  new : s.heap.get? it = none
  keep : ∀ c o, s.heap.get? c = some o → s2.heap.get? c = some o
  same : s2 = { s with heap := s2.heap }
theorem sq_gone {a : Addr} {xs : List V} {Q : Value → Shared → Prop} (hc : X.calm = true) (I : Inv X pins σ H s) (h : SqA X.K H a xs) (k : ∀ s2 its it fp St, Gone X s s2 xs its it fp St → Q (.ref it) s2) : wpAny (model X.prog X.w) X.A.in1 (pyIter (.ref a)) Q E s := by
  have fr : s.heap.get? s.heap.objs.size = none := by
    cases e : s.heap.get? s.heap.objs.size with
    | none => rfl
    | some o => exact absurd (Heap.lt_size e) (Nat.lt_irrefl _)
  rcases h with h | h
  · obtain ⟨its, rv, p, _⟩ := I.list h
    have hlt : a < s.heap.objs.size := p.lt
    have hne : a ≠ s.heap.objs.size := Nat.ne_of_lt hlt
    have wk : Walks X.prog X.w X.A.in1 s.heap.objs.size [s.heap.objs.size, a] [s.heap.objs.size] its.length (fun i v => its[i]? = some v) (fun i h => h.IsListIter s.heap.objs.size a i ∧ h.IsList a its.toArray) := by
      have z := Walks.list (prog := X.prog) (w := X.w) (A := X.A.in1) (I.ok.hd hc) s.heap.objs.size a hne its.toArray
      simpa using z
    refine wpAny_pyIter_list p.isList (k _ its _ _ _ ⟨rv, wk, ⟨⟨_, Heap.get?_push_size _ rfl, rfl, rfl⟩, p.isList.push _⟩, fun c hc => ?_, fr, fun c o e => Heap.get?_push_of_some _ e, rfl⟩)
    rw [Heap.size_push]
    rcases List.mem_cons.mp hc with e | e
    · rw [e]; exact Nat.lt_succ_self _
    · rw [List.mem_singleton.mp e]; exact Nat.lt_succ_of_lt hlt
  · obtain ⟨its, rv, p, _⟩ := I.tuple h
    obtain ⟨o, ho, _⟩ := id p
    have hlt : a < s.heap.objs.size := Heap.lt_size ho
    have hne : a ≠ s.heap.objs.size := Nat.ne_of_lt hlt
    have pt : s.heap.IsTuple a its.toArray := p
    have wk : Walks X.prog X.w X.A.in1 s.heap.objs.size [s.heap.objs.size, a] [s.heap.objs.size] its.length (fun i v => its[i]? = some v) (fun i h => h.IsTupleIter s.heap.objs.size a i ∧ h.IsTuple a its.toArray) := by
      have z := Walks.tuple (prog := X.prog) (w := X.w) (A := X.A.in1) (I.ok.hd hc) s.heap.objs.size a hne its.toArray
      simpa using z
    refine wpAny_pyIter_tuple pt (k _ its _ _ _ ⟨rv, wk, ⟨⟨_, Heap.get?_push_size _ rfl, rfl, rfl⟩, pt.at fun o e => Heap.get?_push_of_some _ e⟩, fun c hc => ?_, fr, fun c o e => Heap.get?_push_of_some _ e, rfl⟩)
    rw [Heap.size_push]
    rcases List.mem_cons.mp hc with e | e
    · rw [e]; exact Nat.lt_succ_self _
    · rw [List.mem_singleton.mp e]; exact Nat.lt_succ_of_lt hlt
theorem Gone.back {s2 : Shared} {xs : List V} {its : List Value} {it : Addr} {fp : List Addr} {St : Nat → Heap → Prop} (g : Gone X s s2 xs its it fp St) (I : Inv X pins σ H s) {h' : Heap} {tk : Nat} (k : ∀ c o, c ∉ [it] → s2.heap.get? c = some o → h'.get? c = some o) : Inv X pins σ H { s with heap := h', toks := tk } :=
  I.kept fun c o e => k c o (fun z => by
    rw [List.mem_singleton.mp z, g.new] at e
    cases e) (g.keep c o e)
end
/-! ### sum, any, all -/
def numV : V → Option Int
  | .int i => some i
  | .bl k => some (if k = true then 1 else 0)
  | _ => none
def numD : D → Option Int
  | .int i => some i
  | .bl k => some (if k = true then 1 else 0)
  | _ => none
def optAll {α β : Type} (f : α → Option β) : List α → Option (List β)
  | [] => some []
  | x :: xs => match f x, optAll f xs with
    | some y, some ys => some (y :: ys)
    | _, _ => none
theorem optAll_get {α β : Type} {f : α → Option β} : ∀ {xs : List α} {ys : List β} {i : Nat} {x : α}, optAll f xs = some ys → xs[i]? = some x → ∃ y, f x = some y ∧ ys[i]? = some y
  | [], _, _, _, _, e => by simp at e
  | z :: zs, ys, i, x, h, e => by
    unfold optAll at h
    split at h
    · rename_i y ys' h1 h2
      cases h
      cases i with
      | zero => cases e; exact ⟨y, h1, rfl⟩
      | succ i =>
        obtain ⟨w, hw, hi⟩ := optAll_get h2 (by simpa using e)
        exact ⟨w, hw, by simpa using hi⟩
    · cases h
theorem optAll_length {α β : Type} {f : α → Option β} : ∀ {xs : List α} {ys : List β}, optAll f xs = some ys → ys.length = xs.length
  | [], _, h => by cases h; rfl
  | z :: zs, ys, h => by
    unfold optAll at h
    split at h
    · rename_i y ys' h1 h2
      cases h
      simp only [List.length_cons, optAll_length h2]
    · cases h
theorem Vals.at {xs : List V} {its : List Value} (r : Vals xs its) : ∀ {i : Nat} {u : Value}, its[i]? = some u → ∃ x, xs[i]? = some x ∧ RelV x u := by
  induction r with
  | nil => intro i u e; simp at e
  | cons h t ih =>
    intro i u e
    cases i with
    | zero => cases e; exact ⟨_, rfl, h⟩
    | succ i =>
      obtain ⟨x, h1, h2⟩ := ih (i := i) (by simpa using e)
      exact ⟨x, by simpa using h1, h2⟩
def rSumA (K : PySem.W.Frag) : List V → Hp → VK → Prop := fun vs H Q => ∃ a xs ns, vs = [V.ref a] ∧ SqA K H a xs ∧ optAll numV xs = some ns ∧ Q (.int ns.sum) H
theorem cr_sumA {X : Cx} (hc : X.calm = true) : CallR X (.builtin "sum") (rSumA X.K) := by
  intro pins s σ H vs us Q I r ⟨a, xs, ns, hv, hs, hn, q⟩
  subst hv
  rw [Vals.ref1 r]
  refine call_sum_walkAnyB (sq_gone hc I hs fun s2 its it fp St g => ⟨it, fp, [it], _, its.length, _, _, fun i => ns.getD i 0, rfl, g.walk.toS, g.at0, g.fps, fun i v hv => ?_, fun s' t' hm => ?_⟩)
  · obtain ⟨x, hx, rx⟩ := Vals.at g.vals hv
    obtain ⟨n, h1, h2⟩ := optAll_get hn hx
    have e : ns.getD i 0 = n := by rw [List.getD_eq_getElem?_getD, h2]; rfl
    simp only [e]
    cases x with
    | int j => cases h1; obtain ⟨t, rfl⟩ := rx; exact Or.inl ⟨t, rfl⟩
    | bl c => cases h1; cases rx; exact Or.inr ⟨c, rfl, rfl⟩
    | _ => cases h1
  · have e : preSum (fun i => ns.getD i 0) its.length = ns.sum := by
      rw [PyProof.Rows.preSum_getD, List.take_of_length_le]
      rw [optAll_length hn, g.vals.length]
      exact Nat.le_refl _
    rw [e]
    have e2 := Moved.eq_with hm
    rw [g.same] at e2
    rw [e2]
    exact ⟨.int _, H, g.back I (fun c o hc ho => hm.heap c o hc ho), ⟨_, rfl⟩, q⟩
def trV : V → Option Bool
  | .non => some false
  | .bl k => some k
  | .int i => some (i != 0)
  | _ => none
def trD : D → Option Bool
  | .non => some false
  | .bl k => some k
  | .int i => some (i != 0)
  | _ => none
def rAnyA (K : PySem.W.Frag) : List V → Hp → VK → Prop := fun vs H Q => ∃ a xs bs, vs = [V.ref a] ∧ SqA K H a xs ∧ optAll trV xs = some bs ∧ Q (.bl (bs.any id)) H
def rAllA (K : PySem.W.Frag) : List V → Hp → VK → Prop := fun vs H Q => ∃ a xs bs, vs = [V.ref a] ∧ SqA K H a xs ∧ optAll trV xs = some bs ∧ Q (.bl (bs.all id)) H
theorem truths {X : Cx} {xs : List V} {its : List Value} {bs : List Bool} (g : Vals xs its) (hn : optAll trV xs = some bs) : TruthOf X.prog X.w X.A.in1 (fun i v => its[i]? = some v) (fun i => bs.getD i false) := fun i v s Q E hv q => by
  obtain ⟨x, hx, rx⟩ := Vals.at g hv
  obtain ⟨n, h1, h2⟩ := optAll_get hn hx
  have e : bs.getD i false = n := by rw [List.getD_eq_getElem?_getD, h2]; rfl
  simp only [e] at q
  cases x with
  | non => cases h1; cases rx; exact wpAny_pure q
  | bl c => cases h1; cases rx; exact wpAny_truthy_bool q
  | int j => cases h1; obtain ⟨t, rfl⟩ := rx; exact PySem.P.truthy_int q
  | _ => cases h1
theorem cr_anyA {X : Cx} (hc : X.calm = true) : CallR X (.builtin "any") (rAnyA X.K) := by
  intro pins s σ H vs us Q I r ⟨a, xs, bs, hv, hs, hn, q⟩
  subst hv
  rw [Vals.ref1 r]
  refine call_any_walk (sq_gone hc I hs fun s2 its it fp St g => ⟨it, fp, [it], its.length, _, _, _, rfl, g.walk, g.at0, truths g.vals hn, fun h' tk hk => ?_⟩)
  have e : its.length = bs.length := by rw [optAll_length hn, g.vals.length]
  rw [e, any_range, g.same]
  exact ⟨.bl _, H, g.back I hk, rfl, q⟩
theorem cr_allA {X : Cx} (hc : X.calm = true) : CallR X (.builtin "all") (rAllA X.K) := by
  intro pins s σ H vs us Q I r ⟨a, xs, bs, hv, hs, hn, q⟩
  subst hv
  rw [Vals.ref1 r]
  refine call_all_walk (sq_gone hc I hs fun s2 its it fp St g => ⟨it, fp, [it], its.length, _, _, _, rfl, g.walk, g.at0, truths g.vals hn, fun h' tk hk => ?_⟩)
  have e : its.length = bs.length := by rw [optAll_length hn, g.vals.length]
  rw [e, all_range, g.same]
  exact ⟨.bl _, H, g.back I hk, rfl, q⟩
def sqDs : List D → Option (List D)
  | [.lst xs] => some xs
  | [.tup xs] => some xs
  | _ => none
def sumD (ds : List D) : Option R := match sqDs ds with
  | some xs => (optAll numD xs).map fun ns => .va (.int ns.sum)
  | none => none
def anyD (ds : List D) : Option R := match sqDs ds with
  | some xs => (optAll trD xs).map fun bs => .va (.bl (bs.any id))
  | none => none
def allD (ds : List D) : Option R := match sqDs ds with
  | some xs => (optAll trD xs).map fun bs => .va (.bl (bs.all id))
  | none => none
theorem rv_sq {b : Bs} {σ : L2.St} {S H : Hp} {ρ : ES} {vs : List V} {ds xs : List D} (G : Good b σ S H ρ) (h : RVs b S H vs ds) (e : sqDs ds = some xs) : ∃ a us, vs = [V.ref a] ∧ SqA b.K H a us ∧ Rps b.K b.mg S us xs := by
  unfold sqDs at e
  split at e
  · obtain ⟨v, rfl, a, us, rfl, h1, r1⟩ := rv1 h
    cases e
    exact ⟨a, us, rfl, Or.inl (SqL.of h1), r1⟩
  · obtain ⟨v, rfl, a, us, rfl, h1, r1⟩ := rv1 h
    cases e
    exact ⟨a, us, rfl, Or.inr (sqt_mono G.sub h1.1), r1⟩
  · cases e
theorem Rps.opt {K : PySem.W.Frag} {mg : Str → Option Value} {S : Hp} {β : Type} {f : V → Option β} {g : D → Option β} (hfg : ∀ v d y, Rp K mg S v d → g d = some y → f v = some y) : ∀ {vs : List V} {ds : List D} {ys : List β}, Rps K mg S vs ds → optAll g ds = some ys → optAll f vs = some ys
  | _, [], _, r, h => by cases r; exact h
  | _, d :: ds, _, r, h => by
    cases r with
    | cons r1 r2 =>
      unfold optAll at h
      split at h
      · rename_i y ys h1 h2
        cases h
        unfold optAll
        rw [hfg _ _ _ r1 h1, Rps.opt hfg r2 h2]
      · cases h
theorem num_rel {K : PySem.W.Frag} {mg : Str → Option Value} {S : Hp} {v : V} {d : D} {y : Int} (r : Rp K mg S v d) (h : numD d = some y) : numV v = some y := by
  cases r <;> first | exact h | cases h
theorem tr_rel {K : PySem.W.Frag} {mg : Str → Option Value} {S : Hp} {v : V} {d : D} {y : Bool} (r : Rp K mg S v d) (h : trD d = some y) : trV v = some y := by
  cases r <;> first | exact h | cases h
theorem sem_sum {K : PySem.W.Frag} : SemB K sumD (rSumA K) := by
  intro b eb σ S H ρ xs ds z G h hg Q q
  subst eb
  unfold sumD at hg
  split at hg
  · rename_i ys hy
    obtain ⟨a, us, rfl, h1, r1⟩ := rv_sq G h hy
    obtain ⟨ns, hn, rfl⟩ := Option.map_eq_some_iff.mp hg
    exact ⟨a, us, ns, rfl, h1, Rps.opt (fun _ _ _ => num_rel) r1 hn, q _ H S (Hsub.refl _) G (Rp.int _)⟩
  · cases hg
theorem sem_any {K : PySem.W.Frag} : SemB K anyD (rAnyA K) := by
  intro b eb σ S H ρ xs ds z G h hg Q q
  subst eb
  unfold anyD at hg
  split at hg
  · rename_i ys hy
    obtain ⟨a, us, rfl, h1, r1⟩ := rv_sq G h hy
    obtain ⟨ns, hn, rfl⟩ := Option.map_eq_some_iff.mp hg
    exact ⟨a, us, ns, rfl, h1, Rps.opt (fun _ _ _ => tr_rel) r1 hn, q _ H S (Hsub.refl _) G (Rp.bl _)⟩
  · cases hg
theorem sem_all {K : PySem.W.Frag} : SemB K allD (rAllA K) := by
  intro b eb σ S H ρ xs ds z G h hg Q q
  subst eb
  unfold allD at hg
  split at hg
  · rename_i ys hy
    obtain ⟨a, us, rfl, h1, r1⟩ := rv_sq G h hy
    obtain ⟨ns, hn, rfl⟩ := Option.map_eq_some_iff.mp hg
    exact ⟨a, us, ns, rfl, h1, Rps.opt (fun _ _ _ => tr_rel) r1 hn, q _ H S (Hsub.refl _) G (Rp.bl _)⟩
  · cases hg
end Mc
end
section
set_option Elab.async false
set_option linter.all false
set_option maxRecDepth 100000
set_option maxHeartbeats 4000000
set_option autoImplicit false
namespace Mc
open PySem PySem.Spec L2

/-! ### the best of some data -/
/-- a comparison where the heap is as Z says -/
def CmpIn (prog : Program) (w : World) (A : Around) (op : CmpOp) (P : Nat → Value → Prop) (bt : Nat → Nat → Bool) (Z : Heap → Prop) : Prop :=
  ∀ i j vi vj (s : Shared) (Q : Value → Shared → Prop) (E : Value → Shared → Prop), Z s.heap → P i vi → P j vj → Q (.bool (bt i j)) s → wpAny (model prog w) A (richCompare op vi vj) Q E s
abbrev pairL (xs : Array Value) (c : Nat) : Obj := { cls := .type "list", dict := none, data := .seq xs c, slots := #[] }
abbrev KeptBut (wr : List Addr) (tmp : Addr) (h h' : Heap) : Prop := ∀ c o, c ∉ wr → c ≠ tmp → h.get? c = some o → h'.get? c = some o
section
variable {prog : Program} {w : World} {A : Around} {R : Result → Shared → Prop} {it : Addr} {fp wr : List Addr} {n : Nat} {P : Nat → Value → Prop} {St : Nat → Heap → Prop}
theorem max_steps (W : Walks prog w A.in1 it fp wr n P St) (bt : Nat → Nat → Bool) (Z : Heap → Prop) (tmp : Addr) (hZ : ∀ h h', Z h → (∀ c o, c ∉ wr → c ≠ tmp → h.get? c = some o → h'.get? c = some o) → Z h')
    (cmp : CmpIn prog w A.in1 .Gt P bt Z) (hSf : tmp ∉ fp) : ∀ (m j : Nat) (s : Shared) (v0 : Value) (c0 : Nat), n - (j + 1) = m → j + 1 ≤ n → Z s.heap → St (j + 1) s.heap → P (argBest bt j) v0 → s.heap.get? tmp = some (pairL #[v0, v0] c0) →
    (∀ v h' tk, P (argBest bt (n - 1)) v → KeptBut wr tmp s.heap h' → R (.ok (.ret v)) { s with heap := h', toks := tk }) → codeAny (model prog w) A (.builtin "max.loop" ⟨[.ref it, .none, .ref tmp], []⟩) R s := by
  have hSw : tmp ∉ wr := fun z => hSf (W.sub _ z)
  have nmL : (toString "max" ++ toString ".loop" : String) = "max.loop" := by decide
  intro m
  induction m with
  | zero =>
    intro j s v0 c0 hm hj hz st hP hT hR
    have hin : j + 1 = n := by omega
    refine codeAny_builtin F.entry_max_loop ?_
    rw [Around.under_plainId F.plain_max_loop _]
    show wpAny _ A.in1 (seqItems? (.ref tmp) >>= _) _ _ s
    refine wpAny_bind (wpAny_seqItems hT rfl (?_ : wpAny _ A.in1 (tryCatch (pyNext (.ref it)) _ >>= _) _ _ s))
    refine wpAny_bind (wpAny_tryCatch (W.done s _ _ (hin ▸ st) fun h' tk k1 => (?_ : wpAny _ A.in1 (updateSeq tmp (fun _ => #[]) >>= _) _ _ _)))
    refine wpAny_bind (wpAny_updateSeq (k1 tmp _ hSw hT) rfl (wpAny_bind (wpAny_letGo (wpAny_pure (hR v0 _ tk (by rw [← hin]; exact hP) fun c o hc hs e => ?_)))))
    exact (Heap.get?_update_other _ _ (Ne.symm hs)).trans (k1 c o hc e)
  | succ m ih =>
    intro j s v0 c0 hm hj hz st hP hT hR
    have hlt : j + 1 < n := by omega
    refine codeAny_builtin F.entry_max_loop ?_
    rw [Around.under_plainId F.plain_max_loop _]
    show wpAny _ A.in1 (seqItems? (.ref tmp) >>= _) _ _ s
    refine wpAny_bind (wpAny_seqItems hT rfl (?_ : wpAny _ A.in1 (tryCatch (pyNext (.ref it)) _ >>= _) _ _ s))
    refine wpAny_bind (wpAny_tryCatch (W.item (j + 1) s _ _ hlt st fun v h' tk hv st' k1 => (?_ : wpAny _ A.in1 (tryCatch (holding [v, v] (richCompare .Gt v v0 >>= _)) _ >>= _) _ _ _)))
    have hT1 := k1 tmp _ hSw hT
    have hz1 : Z h' := hZ _ _ hz fun c o hc _ e => k1 c o hc e
    refine wpAny_bind (wpAny_tryCatch (wpAny_holding (wpAny_bind (cmp (j + 1) (argBest bt j) v v0 _ _ _ hz1 hv hP (wpAny_bind (wpAny_holding (wpAny_truthy_bool (wpAny_bind (wpAny_letGo (wpAny_pure ?_))))))))))
    cases hb : bt (j + 1) (argBest bt j) with
    | true =>
      simp only [if_true]
      refine wpAny_bind (wpAny_updateSeq hT1 rfl (wpAny_bind (wpAny_letGo ?_)))
      rw [nmL]
      have kU : ∀ c o, c ≠ tmp → h'.get? c = some o → Heap.get? (Heap.update h' tmp (Obj.mapSeq fun _ => #[v, v])) c = some o := fun c o hc e => (Heap.get?_update_other _ _ (Ne.symm hc)).trans e
      refine wpAny_pure ⟨plainId_quiet F.plain_max_loop _, ih (j + 1) _ v _ (by omega) hlt (hZ _ _ hz1 fun c o _ hs e => kU c o hs e) (W.frame _ _ _ st' fun c hc o e => kU c o (fun z => hSf (z ▸ hc)) e) (by simp only [argBest, hb, if_true]; exact hv)
        (Heap.get?_update_self _ hT1 rfl) fun v' h2 tk2 hv2 k2 => hR v' h2 tk2 hv2 fun c o hc hs e => k2 c o hc hs (kU c o hs (k1 c o hc e))⟩
    | false =>
      simp only [Bool.false_eq_true, if_false]
      refine wpAny_bind (wpAny_letGo ?_)
      rw [nmL]
      exact wpAny_pure ⟨plainId_quiet F.plain_max_loop _, ih (j + 1) _ v0 c0 (by omega) hlt hz1 st' (by simp only [argBest, hb, Bool.false_eq_true, if_false]; exact hP) hT1 fun v' h2 tk2 hv2 k2 => hR v' h2 tk2 hv2 fun c o hc hs e => k2 c o hc hs (k1 c o hc e)⟩
theorem max_first (W : Walks prog w A.in1 it fp wr n P St) (bt : Nat → Nat → Bool) (Z : Heap → Prop) (tmp : Addr) (hZ : ∀ h h', Z h → (∀ c o, c ∉ wr → c ≠ tmp → h.get? c = some o → h'.get? c = some o) → Z h')
    (cmp : CmpIn prog w A.in1 .Gt P bt Z) (hSf : tmp ∉ fp) (hn : 0 < n) {s : Shared} {c0 : Nat} (hz : Z s.heap) (st : St 0 s.heap) (hT : s.heap.get? tmp = some (pairL #[] c0))
    (hR : ∀ v h' tk, P (argBest bt (n - 1)) v → KeptBut wr tmp s.heap h' → R (.ok (.ret v)) { s with heap := h', toks := tk }) : codeAny (model prog w) A (.builtin "max.loop" ⟨[.ref it, .none, .ref tmp], []⟩) R s := by
  have hSw : tmp ∉ wr := fun z => hSf (W.sub _ z)
  have nmL : (toString "max" ++ toString ".loop" : String) = "max.loop" := by decide
  refine codeAny_builtin F.entry_max_loop ?_
  rw [Around.under_plainId F.plain_max_loop _]
  show wpAny _ A.in1 (seqItems? (.ref tmp) >>= _) _ _ s
  refine wpAny_bind (wpAny_seqItems hT rfl (?_ : wpAny _ A.in1 (tryCatch (pyNext (.ref it)) _ >>= _) _ _ s))
  refine wpAny_bind (wpAny_tryCatch (W.item 0 s _ _ hn st fun v h' tk hv st' k1 => (?_ : wpAny _ A.in1 (updateSeq tmp (fun _ => #[v, v]) >>= _) _ _ _)))
  have hT1 := k1 tmp _ hSw hT
  refine wpAny_bind (wpAny_updateSeq hT1 rfl ?_)
  rw [nmL]
  have kU : ∀ c o, c ≠ tmp → h'.get? c = some o → Heap.get? (Heap.update h' tmp (Obj.mapSeq fun _ => #[v, v])) c = some o := fun c o hc e => (Heap.get?_update_other _ _ (Ne.symm hc)).trans e
  exact wpAny_pure ⟨plainId_quiet F.plain_max_loop _, max_steps W bt Z tmp hZ cmp hSf _ 0 _ v _ rfl hn (hZ _ _ hz fun c o hc hs e => kU c o hs (k1 c o hc e)) (W.frame _ _ _ st' fun c hc o e => kU c o (fun z => hSf (z ▸ hc)) e) hv (Heap.get?_update_self _ hT1 rfl)
    fun v' h2 tk2 hv2 k2 => hR v' h2 tk2 hv2 fun c o hc hs e => k2 c o hc hs (kU c o hs (k1 c o hc e))⟩

theorem min_steps (W : Walks prog w A.in1 it fp wr n P St) (bt : Nat → Nat → Bool) (Z : Heap → Prop) (tmp : Addr) (hZ : ∀ h h', Z h → (∀ c o, c ∉ wr → c ≠ tmp → h.get? c = some o → h'.get? c = some o) → Z h')
    (cmp : CmpIn prog w A.in1 .Lt P bt Z) (hSf : tmp ∉ fp) : ∀ (m j : Nat) (s : Shared) (v0 : Value) (c0 : Nat), n - (j + 1) = m → j + 1 ≤ n → Z s.heap → St (j + 1) s.heap → P (argBest bt j) v0 → s.heap.get? tmp = some (pairL #[v0, v0] c0) →
    (∀ v h' tk, P (argBest bt (n - 1)) v → KeptBut wr tmp s.heap h' → R (.ok (.ret v)) { s with heap := h', toks := tk }) → codeAny (model prog w) A (.builtin "min.loop" ⟨[.ref it, .none, .ref tmp], []⟩) R s := by
  have hSw : tmp ∉ wr := fun z => hSf (W.sub _ z)
  have nmL : (toString "min" ++ toString ".loop" : String) = "min.loop" := by decide
  intro m
  induction m with
  | zero =>
    intro j s v0 c0 hm hj hz st hP hT hR
    have hin : j + 1 = n := by omega
    refine codeAny_builtin F.entry_min_loop ?_
    rw [Around.under_plainId F.plain_min_loop _]
    show wpAny _ A.in1 (seqItems? (.ref tmp) >>= _) _ _ s
    refine wpAny_bind (wpAny_seqItems hT rfl (?_ : wpAny _ A.in1 (tryCatch (pyNext (.ref it)) _ >>= _) _ _ s))
    refine wpAny_bind (wpAny_tryCatch (W.done s _ _ (hin ▸ st) fun h' tk k1 => (?_ : wpAny _ A.in1 (updateSeq tmp (fun _ => #[]) >>= _) _ _ _)))
    refine wpAny_bind (wpAny_updateSeq (k1 tmp _ hSw hT) rfl (wpAny_bind (wpAny_letGo (wpAny_pure (hR v0 _ tk (by rw [← hin]; exact hP) fun c o hc hs e => ?_)))))
    exact (Heap.get?_update_other _ _ (Ne.symm hs)).trans (k1 c o hc e)
  | succ m ih =>
    intro j s v0 c0 hm hj hz st hP hT hR
    have hlt : j + 1 < n := by omega
    refine codeAny_builtin F.entry_min_loop ?_
    rw [Around.under_plainId F.plain_min_loop _]
    show wpAny _ A.in1 (seqItems? (.ref tmp) >>= _) _ _ s
    refine wpAny_bind (wpAny_seqItems hT rfl (?_ : wpAny _ A.in1 (tryCatch (pyNext (.ref it)) _ >>= _) _ _ s))
    refine wpAny_bind (wpAny_tryCatch (W.item (j + 1) s _ _ hlt st fun v h' tk hv st' k1 => (?_ : wpAny _ A.in1 (tryCatch (holding [v, v] (richCompare .Lt v v0 >>= _)) _ >>= _) _ _ _)))
    have hT1 := k1 tmp _ hSw hT
    have hz1 : Z h' := hZ _ _ hz fun c o hc _ e => k1 c o hc e
    refine wpAny_bind (wpAny_tryCatch (wpAny_holding (wpAny_bind (cmp (j + 1) (argBest bt j) v v0 _ _ _ hz1 hv hP (wpAny_bind (wpAny_holding (wpAny_truthy_bool (wpAny_bind (wpAny_letGo (wpAny_pure ?_))))))))))
    cases hb : bt (j + 1) (argBest bt j) with
    | true =>
      simp only [if_true]
      refine wpAny_bind (wpAny_updateSeq hT1 rfl (wpAny_bind (wpAny_letGo ?_)))
      rw [nmL]
      have kU : ∀ c o, c ≠ tmp → h'.get? c = some o → Heap.get? (Heap.update h' tmp (Obj.mapSeq fun _ => #[v, v])) c = some o := fun c o hc e => (Heap.get?_update_other _ _ (Ne.symm hc)).trans e
      refine wpAny_pure ⟨plainId_quiet F.plain_min_loop _, ih (j + 1) _ v _ (by omega) hlt (hZ _ _ hz1 fun c o _ hs e => kU c o hs e) (W.frame _ _ _ st' fun c hc o e => kU c o (fun z => hSf (z ▸ hc)) e) (by simp only [argBest, hb, if_true]; exact hv)
        (Heap.get?_update_self _ hT1 rfl) fun v' h2 tk2 hv2 k2 => hR v' h2 tk2 hv2 fun c o hc hs e => k2 c o hc hs (kU c o hs (k1 c o hc e))⟩
    | false =>
      simp only [Bool.false_eq_true, if_false]
      refine wpAny_bind (wpAny_letGo ?_)
      rw [nmL]
      exact wpAny_pure ⟨plainId_quiet F.plain_min_loop _, ih (j + 1) _ v0 c0 (by omega) hlt hz1 st' (by simp only [argBest, hb, Bool.false_eq_true, if_false]; exact hP) hT1 fun v' h2 tk2 hv2 k2 => hR v' h2 tk2 hv2 fun c o hc hs e => k2 c o hc hs (k1 c o hc e)⟩
theorem min_first (W : Walks prog w A.in1 it fp wr n P St) (bt : Nat → Nat → Bool) (Z : Heap → Prop) (tmp : Addr) (hZ : ∀ h h', Z h → (∀ c o, c ∉ wr → c ≠ tmp → h.get? c = some o → h'.get? c = some o) → Z h')
    (cmp : CmpIn prog w A.in1 .Lt P bt Z) (hSf : tmp ∉ fp) (hn : 0 < n) {s : Shared} {c0 : Nat} (hz : Z s.heap) (st : St 0 s.heap) (hT : s.heap.get? tmp = some (pairL #[] c0))
    (hR : ∀ v h' tk, P (argBest bt (n - 1)) v → KeptBut wr tmp s.heap h' → R (.ok (.ret v)) { s with heap := h', toks := tk }) : codeAny (model prog w) A (.builtin "min.loop" ⟨[.ref it, .none, .ref tmp], []⟩) R s := by
  have hSw : tmp ∉ wr := fun z => hSf (W.sub _ z)
  have nmL : (toString "min" ++ toString ".loop" : String) = "min.loop" := by decide
  refine codeAny_builtin F.entry_min_loop ?_
  rw [Around.under_plainId F.plain_min_loop _]
  show wpAny _ A.in1 (seqItems? (.ref tmp) >>= _) _ _ s
  refine wpAny_bind (wpAny_seqItems hT rfl (?_ : wpAny _ A.in1 (tryCatch (pyNext (.ref it)) _ >>= _) _ _ s))
  refine wpAny_bind (wpAny_tryCatch (W.item 0 s _ _ hn st fun v h' tk hv st' k1 => (?_ : wpAny _ A.in1 (updateSeq tmp (fun _ => #[v, v]) >>= _) _ _ _)))
  have hT1 := k1 tmp _ hSw hT
  refine wpAny_bind (wpAny_updateSeq hT1 rfl ?_)
  rw [nmL]
  have kU : ∀ c o, c ≠ tmp → h'.get? c = some o → Heap.get? (Heap.update h' tmp (Obj.mapSeq fun _ => #[v, v])) c = some o := fun c o hc e => (Heap.get?_update_other _ _ (Ne.symm hc)).trans e
  exact wpAny_pure ⟨plainId_quiet F.plain_min_loop _, min_steps W bt Z tmp hZ cmp hSf _ 0 _ v _ rfl hn (hZ _ _ hz fun c o hc hs e => kU c o hs (k1 c o hc e)) (W.frame _ _ _ st' fun c hc o e => kU c o (fun z => hSf (z ▸ hc)) e) hv (Heap.get?_update_self _ hT1 rfl)
    fun v' h2 tk2 hv2 k2 => hR v' h2 tk2 hv2 fun c o hc hs e => k2 c o hc hs (kU c o hs (k1 c o hc e))⟩
end
section
variable {prog : Program} {w : World} {A : Around} {E : Value → Shared → Prop} {s : Shared}
theorem call_max1 {x : Value} {Q : Value → Shared → Prop}
    (h : wpAny (model prog w) A.in1 (pyIter x) (fun itv s2 => ∃ it fp wr n P St bt Z, itv = .ref it ∧ Walks prog w A.in1 it fp wr n P St ∧ St 0 s2.heap ∧ (∀ c ∈ fp, c < s2.heap.objs.size) ∧ 0 < n ∧ Z s2.heap ∧ (∀ tmp, s2.heap.get? tmp = none → ∀ h h', Z h → (∀ c o, c ∉ wr → c ≠ tmp → h.get? c = some o → h'.get? c = some o) → Z h') ∧
      CmpIn prog w A.in1 .Gt P bt Z ∧ ∀ v h' tk, P (argBest bt (n - 1)) v → (∀ c o, c ∉ wr → s2.heap.get? c = some o → h'.get? c = some o) → Q v { s2 with heap := h', toks := tk }) E s) : wpAny (model prog w) A (call (.builtin "max") [x]) Q E s := by
  have nmL : (toString "max" ++ toString ".loop" : String) = "max.loop" := by decide
  refine call_function_tree F.kind_max F.plain_max F.entry_max (F.args_max1 _) (?_ : wpAny _ A.in1 (Builtin.Builtins.bindParams "max" ["key", "default"] 0 ⟨[], []⟩ >>= _) _ _ s)
  refine wpAny_bind (wpAny_of_eq (show Builtin.Builtins.bindParams "max" ["key", "default"] 0 ⟨[], []⟩ = pure [none, none] from rfl) (wpAny_bind (wpAny_pure ?_)))
  refine wpAny_bind (wpAny_mono h (fun itv s2 h2 => ?_) fun _ _ e => e)
  obtain ⟨it, fp, wr, n, P, St, bt, Z, rfl, W, st, hfp, hn, hz, hZ, cmp, hQ⟩ := h2
  have hnew : s2.heap.get? s2.heap.objs.size = none := by
    cases e : s2.heap.get? s2.heap.objs.size with
    | none => rfl
    | some o => exact absurd (Heap.lt_size e) (Nat.lt_irrefl _)
  have up : ∀ c o, s2.heap.get? c = some o → (s2.heap.push { cls := .type "list", data := .seq #[] }).get? c = some o := fun c o e => Heap.get?_push_of_some _ e
  refine wpAny_bind (wpAny_newObj_type ?_)
  rw [nmL]
  exact wpAny_pure ⟨plainId_quiet F.plain_max_loop _, max_first W bt Z s2.heap.objs.size (hZ _ hnew) cmp (fun z => Nat.lt_irrefl _ (hfp _ z)) hn (hZ _ hnew _ _ hz fun c o _ _ e => up c o e) (W.frame _ _ _ st fun c _ o e => up c o e) (Heap.get?_push_size _ rfl)
    fun v h' tk hv k => hQ v h' tk hv fun c o hc e => k c o hc (Nat.ne_of_lt (Heap.lt_size e)) (up c o e)⟩
theorem call_max2 {a b : Value} {Q : Value → Shared → Prop}
    (h : wpAny (model prog w) A.in1 (pyIter (.ref s.heap.objs.size)) (fun itv s2 => ∃ it fp wr n P St bt Z, itv = .ref it ∧ Walks prog w A.in1 it fp wr n P St ∧ St 0 s2.heap ∧ (∀ c ∈ fp, c < s2.heap.objs.size) ∧ 0 < n ∧ Z s2.heap ∧ (∀ tmp, s2.heap.get? tmp = none → ∀ h h', Z h → (∀ c o, c ∉ wr → c ≠ tmp → h.get? c = some o → h'.get? c = some o) → Z h') ∧
      CmpIn prog w A.in1 .Gt P bt Z ∧ ∀ v h' tk, P (argBest bt (n - 1)) v → (∀ c o, c ∉ wr → s2.heap.get? c = some o → h'.get? c = some o) → Q v { s2 with heap := h', toks := tk }) E { s with heap := s.heap.push { cls := .type "tuple", data := .seq #[a, b] } }) : wpAny (model prog w) A (call (.builtin "max") [a, b]) Q E s := by
  have nmL : (toString "max" ++ toString ".loop" : String) = "max.loop" := by decide
  refine call_function_tree F.kind_max F.plain_max F.entry_max (F.args_max2 _ _) (?_ : wpAny _ A.in1 (Builtin.Builtins.bindParams "max" ["key", "default"] 0 ⟨[], []⟩ >>= _) _ _ s)
  refine wpAny_bind (wpAny_of_eq (show Builtin.Builtins.bindParams "max" ["key", "default"] 0 ⟨[], []⟩ = pure [none, none] from rfl) (?_ : wpAny _ A.in1 (newTuple [a, b] >>= _) _ _ s))
  refine wpAny_bind (wpAny_newObj_type (wpAny_bind (wpAny_mono h (fun itv s2 h2 => ?_) fun _ _ e => e)))
  obtain ⟨it, fp, wr, n, P, St, bt, Z, rfl, W, st, hfp, hn, hz, hZ, cmp, hQ⟩ := h2
  have hnew : s2.heap.get? s2.heap.objs.size = none := by
    cases e : s2.heap.get? s2.heap.objs.size with
    | none => rfl
    | some o => exact absurd (Heap.lt_size e) (Nat.lt_irrefl _)
  have up : ∀ c o, s2.heap.get? c = some o → (s2.heap.push { cls := .type "list", data := .seq #[] }).get? c = some o := fun c o e => Heap.get?_push_of_some _ e
  refine wpAny_bind (wpAny_newObj_type ?_)
  rw [nmL]
  exact wpAny_pure ⟨plainId_quiet F.plain_max_loop _, max_first W bt Z s2.heap.objs.size (hZ _ hnew) cmp (fun z => Nat.lt_irrefl _ (hfp _ z)) hn (hZ _ hnew _ _ hz fun c o _ _ e => up c o e) (W.frame _ _ _ st fun c _ o e => up c o e) (Heap.get?_push_size _ rfl)
    fun v h' tk hv k => hQ v h' tk hv fun c o hc e => k c o hc (Nat.ne_of_lt (Heap.lt_size e)) (up c o e)⟩

theorem call_min1 {x : Value} {Q : Value → Shared → Prop}
    (h : wpAny (model prog w) A.in1 (pyIter x) (fun itv s2 => ∃ it fp wr n P St bt Z, itv = .ref it ∧ Walks prog w A.in1 it fp wr n P St ∧ St 0 s2.heap ∧ (∀ c ∈ fp, c < s2.heap.objs.size) ∧ 0 < n ∧ Z s2.heap ∧ (∀ tmp, s2.heap.get? tmp = none → ∀ h h', Z h → (∀ c o, c ∉ wr → c ≠ tmp → h.get? c = some o → h'.get? c = some o) → Z h') ∧
      CmpIn prog w A.in1 .Lt P bt Z ∧ ∀ v h' tk, P (argBest bt (n - 1)) v → (∀ c o, c ∉ wr → s2.heap.get? c = some o → h'.get? c = some o) → Q v { s2 with heap := h', toks := tk }) E s) : wpAny (model prog w) A (call (.builtin "min") [x]) Q E s := by
  have nmL : (toString "min" ++ toString ".loop" : String) = "min.loop" := by decide
  refine call_function_tree F.kind_min F.plain_min F.entry_min (F.args_min1 _) (?_ : wpAny _ A.in1 (Builtin.Builtins.bindParams "min" ["key", "default"] 0 ⟨[], []⟩ >>= _) _ _ s)
  refine wpAny_bind (wpAny_of_eq (show Builtin.Builtins.bindParams "min" ["key", "default"] 0 ⟨[], []⟩ = pure [none, none] from rfl) (wpAny_bind (wpAny_pure ?_)))
  refine wpAny_bind (wpAny_mono h (fun itv s2 h2 => ?_) fun _ _ e => e)
  obtain ⟨it, fp, wr, n, P, St, bt, Z, rfl, W, st, hfp, hn, hz, hZ, cmp, hQ⟩ := h2
  have hnew : s2.heap.get? s2.heap.objs.size = none := by
    cases e : s2.heap.get? s2.heap.objs.size with
    | none => rfl
    | some o => exact absurd (Heap.lt_size e) (Nat.lt_irrefl _)
  have up : ∀ c o, s2.heap.get? c = some o → (s2.heap.push { cls := .type "list", data := .seq #[] }).get? c = some o := fun c o e => Heap.get?_push_of_some _ e
  refine wpAny_bind (wpAny_newObj_type ?_)
  rw [nmL]
  exact wpAny_pure ⟨plainId_quiet F.plain_min_loop _, min_first W bt Z s2.heap.objs.size (hZ _ hnew) cmp (fun z => Nat.lt_irrefl _ (hfp _ z)) hn (hZ _ hnew _ _ hz fun c o _ _ e => up c o e) (W.frame _ _ _ st fun c _ o e => up c o e) (Heap.get?_push_size _ rfl)
    fun v h' tk hv k => hQ v h' tk hv fun c o hc e => k c o hc (Nat.ne_of_lt (Heap.lt_size e)) (up c o e)⟩
theorem call_min2 {a b : Value} {Q : Value → Shared → Prop}
    (h : wpAny (model prog w) A.in1 (pyIter (.ref s.heap.objs.size)) (fun itv s2 => ∃ it fp wr n P St bt Z, itv = .ref it ∧ Walks prog w A.in1 it fp wr n P St ∧ St 0 s2.heap ∧ (∀ c ∈ fp, c < s2.heap.objs.size) ∧ 0 < n ∧ Z s2.heap ∧ (∀ tmp, s2.heap.get? tmp = none → ∀ h h', Z h → (∀ c o, c ∉ wr → c ≠ tmp → h.get? c = some o → h'.get? c = some o) → Z h') ∧
      CmpIn prog w A.in1 .Lt P bt Z ∧ ∀ v h' tk, P (argBest bt (n - 1)) v → (∀ c o, c ∉ wr → s2.heap.get? c = some o → h'.get? c = some o) → Q v { s2 with heap := h', toks := tk }) E { s with heap := s.heap.push { cls := .type "tuple", data := .seq #[a, b] } }) : wpAny (model prog w) A (call (.builtin "min") [a, b]) Q E s := by
  have nmL : (toString "min" ++ toString ".loop" : String) = "min.loop" := by decide
  refine call_function_tree F.kind_min F.plain_min F.entry_min (F.args_min2 _ _) (?_ : wpAny _ A.in1 (Builtin.Builtins.bindParams "min" ["key", "default"] 0 ⟨[], []⟩ >>= _) _ _ s)
  refine wpAny_bind (wpAny_of_eq (show Builtin.Builtins.bindParams "min" ["key", "default"] 0 ⟨[], []⟩ = pure [none, none] from rfl) (?_ : wpAny _ A.in1 (newTuple [a, b] >>= _) _ _ s))
  refine wpAny_bind (wpAny_newObj_type (wpAny_bind (wpAny_mono h (fun itv s2 h2 => ?_) fun _ _ e => e)))
  obtain ⟨it, fp, wr, n, P, St, bt, Z, rfl, W, st, hfp, hn, hz, hZ, cmp, hQ⟩ := h2
  have hnew : s2.heap.get? s2.heap.objs.size = none := by
    cases e : s2.heap.get? s2.heap.objs.size with
    | none => rfl
    | some o => exact absurd (Heap.lt_size e) (Nat.lt_irrefl _)
  have up : ∀ c o, s2.heap.get? c = some o → (s2.heap.push { cls := .type "list", data := .seq #[] }).get? c = some o := fun c o e => Heap.get?_push_of_some _ e
  refine wpAny_bind (wpAny_newObj_type ?_)
  rw [nmL]
  exact wpAny_pure ⟨plainId_quiet F.plain_min_loop _, min_first W bt Z s2.heap.objs.size (hZ _ hnew) cmp (fun z => Nat.lt_irrefl _ (hfp _ z)) hn (hZ _ hnew _ _ hz fun c o _ _ e => up c o e) (W.frame _ _ _ st fun c _ o e => up c o e) (Heap.get?_push_size _ rfl)
    fun v h' tk hv k => hQ v h' tk hv fun c o hc e => k c o hc (Nat.ne_of_lt (Heap.lt_size e)) (up c o e)⟩
end
def bIx (mx : Bool) (ps : List PyData) : Nat := argBest (fun i j => if mx = true then PySem.W.dataLt (ps.getD j .none) (ps.getD i .none) else PySem.W.dataLt (ps.getD i .none) (ps.getD j .none)) (ps.length - 1)
def okAll (ps : List PyData) : Bool := !ps.isEmpty && ps.all fun p => ps.all fun q => ordOk p q
theorem okAll_at {ps : List PyData} (h : okAll ps = true) : 0 < ps.length ∧ ∀ (i j : Nat) (p q : PyData), ps[i]? = some p → ps[j]? = some q → ordOk p q = true := by
  unfold okAll at h
  obtain ⟨h1, h2⟩ := Bool.and_eq_true_iff.mp h
  refine ⟨?_, fun i j p q hp hq => List.all_eq_true.mp (List.all_eq_true.mp h2 p (List.mem_of_getElem? hp)) q (List.mem_of_getElem? hq)⟩
  cases ps with
  | nil => cases h1
  | cons _ _ => simp
theorem ReadsAll.at' {h : Heap} : ∀ {vs : List Value} {ds : List PyData} {as : List Addr} {i : Nat} {v : Value}, ReadsAll h vs ds as → vs[i]? = some v → ∃ d as', ds[i]? = some d ∧ Reads h v d as'
  | _, _, _, _, _, .nil, e => by simp at e
  | _, _, _, i, v, .cons r rs, e => by
    cases i with
    | zero => cases e; exact ⟨_, _, rfl, r⟩
    | succ i =>
      obtain ⟨d, as', h1, h2⟩ := ReadsAll.at' (i := i) rs (by simpa using e)
      exact ⟨d, as', by simpa using h1, h2⟩
theorem cmp_max {prog : Program} {w : World} {A : Around} {h0 : Heap} {its : List Value} {ps : List PyData} {as : List Addr} (hr : ReadsAll h0 its ps as) (ok : okAll ps = true) (hu : A.units + 64 < cLine) :
    CmpIn prog w A .Gt (fun i v => its[i]? = some v) (fun i j => if true = true then PySem.W.dataLt (ps.getD j .none) (ps.getD i .none) else PySem.W.dataLt (ps.getD i .none) (ps.getD j .none)) (fun h => ∀ c o, h0.get? c = some o → h.get? c = some o) := by
  intro i j vi vj s Q E hz hi hj hq
  obtain ⟨p, as1, hp, r1⟩ := ReadsAll.at' hr hi
  obtain ⟨q, as2, hq', r2⟩ := ReadsAll.at' hr hj
  obtain ⟨h1, h2, h3⟩ := ordOk_of ((okAll_at ok).2 _ _ _ _ hp hq')
  refine PySem.W.rcGt_alike p q A s vi vj as1 as2 (PyProof.Rows.Reads.keeps hz r1) (PyProof.Rows.Reads.keeps hz r2) h1 h2 (by have := Nat.min_le_left p.depth q.depth; omega) prog w E Q ?_
  simp only [if_true, List.getD_eq_getElem?_getD, hp, hq', Option.getD_some] at hq
  exact hq
theorem cmp_min {prog : Program} {w : World} {A : Around} {h0 : Heap} {its : List Value} {ps : List PyData} {as : List Addr} (hr : ReadsAll h0 its ps as) (ok : okAll ps = true) (hu : A.units + 64 < cLine) :
    CmpIn prog w A .Lt (fun i v => its[i]? = some v) (fun i j => if false = true then PySem.W.dataLt (ps.getD j .none) (ps.getD i .none) else PySem.W.dataLt (ps.getD i .none) (ps.getD j .none)) (fun h => ∀ c o, h0.get? c = some o → h.get? c = some o) := by
  intro i j vi vj s Q E hz hi hj hq
  obtain ⟨p, as1, hp, r1⟩ := ReadsAll.at' hr hi
  obtain ⟨q, as2, hq', r2⟩ := ReadsAll.at' hr hj
  obtain ⟨h1, h2, h3⟩ := ordOk_of ((okAll_at ok).2 _ _ _ _ hp hq')
  refine PySem.W.rcLt_alike p q A s vi vj as1 as2 (PyProof.Rows.Reads.keeps hz r1) (PyProof.Rows.Reads.keeps hz r2) h1 h2 (by have := Nat.min_le_left p.depth q.depth; omega) prog w E Q ?_
  simp only [Bool.false_eq_true, if_false, List.getD_eq_getElem?_getD, hp, hq', Option.getD_some] at hq
  exact hq
theorem ReadsAll.len' {h : Heap} : ∀ {vs : List Value} {ds : List PyData} {as : List Addr}, ReadsAll h vs ds as → ds.length = vs.length
  | _, _, _, .nil => rfl
  | _, _, _, .cons _ rs => by simp only [List.length_cons, ReadsAll.len' rs]
def rBest1 (K : PySem.W.Frag) (mx : Bool) : List V → Hp → VK → Prop := fun vs H Q => ∃ a xs ps, vs = [V.ref a] ∧ SqA K H a xs ∧ DpAll K H xs ps ∧ okAll ps = true ∧ ∀ x, xs[bIx mx ps]? = some x → Q x H
def rBest2 (K : PySem.W.Frag) (mx : Bool) : List V → Hp → VK → Prop := fun vs H Q => ∃ x y p q, vs = [x, y] ∧ Dp K H x p ∧ Dp K H y q ∧ okAll [p, q] = true ∧ ∀ z, [x, y][bIx mx [p, q]]? = some z → Q z H
def D.isLst : D → Bool
  | .lst _ => true
  | _ => false
theorem RV.rpS {b : Bs} {S H : Hp} {v : V} {d : D} (h : RV b S H v d) (n : d.isLst = false) : Rp b.K b.mg S v d := by
  cases d with
  | lst ds => cases n
  | non => cases h; exact .non
  | bl c => cases h; exact .bl c
  | int i => cases h; exact .int i
  | str x => cases h; exact .str x
  | tup ds => obtain ⟨a, vs, rfl, p, q⟩ := h; exact .tup p q
  | ob c fs => exact h
  | dic k => exact h
  | fn x => exact h
  | lam t cl => exact h
  | act t ds => exact h
section
variable {b : Bs} {L : Nat} {X : Cx}
theorem cr_max1 (ok : OKx b L X) : CallR X (.builtin "max") (rBest1 X.K true) := by
  intro pins s σ H vs us Q I r ⟨a, xs, ps, hv, hs, hd, ho, q⟩
  subst hv
  rw [Vals.ref1 r]
  have hu : X.A.in1.units + 64 < cLine := by have := ok.un; show X.A.units + 1 + 64 < cLine; omega
  refine call_max1 (sq_gone ok.calm I hs fun s2 its it fp St g => ?_)
  obtain ⟨as, hr⟩ := Dp.readsAll I ps xs its hd g.vals
  have hl := ReadsAll.len' hr
  refine ⟨it, fp, [it], its.length, _, _, _, _, rfl, g.walk, g.at0, g.fps, by rw [← hl]; exact (okAll_at ho).1, (fun c o e => g.keep c o e), (fun tmp ht h h' hz k c o e => ?_), cmp_max hr ho hu, fun v h' tk hv k => ?_⟩
  · refine k c o (fun z => ?_) (fun z => ?_) (hz c o e)
    · rw [List.mem_singleton.mp z, g.new] at e; cases e
    · rw [← z, g.keep c o e] at ht; cases ht
  · obtain ⟨x, hx, rx⟩ := Vals.at g.vals hv
    rw [g.same]
    exact ⟨x, H, g.back I k, rx, q x (by unfold bIx; rw [hl]; exact hx)⟩
theorem cr_max2d (ok : OKx b L X) : CallR X (.builtin "max") (rBest2 X.K true) := by
  intro pins s σ H vs us Q I r ⟨x, y, p, q, hv, hp, hq, ho, k0⟩
  subst hv
  obtain ⟨u, u', rfl, r1, r2⟩ := vals2 r
  obtain ⟨as1, h1⟩ := Dp.reads I p x u hp r1
  obtain ⟨as2, h2⟩ := Dp.reads I q y u' hq r2
  have hu : X.A.in1.units + 64 < cLine := by have := ok.un; show X.A.units + 1 + 64 < cLine; omega
  have hr : ReadsAll s.heap [u, u'] [p, q] (as1 ++ (as2 ++ [])) := .cons h1 (.cons h2 .nil)
  have pt : (s.heap.push { cls := .type "tuple", data := .seq #[u, u'] }).IsTuple s.heap.objs.size #[u, u'] := ⟨_, Heap.get?_push_size _ rfl, rfl, _, rfl⟩
  have hsz : (s.heap.push { cls := .type "tuple", data := .seq #[u, u'] }).objs.size = s.heap.objs.size + 1 := Heap.size_push ..
  have fr : ∀ {n : Nat} {o : Obj}, s.heap.objs.size ≤ n → s.heap.get? n = some o → False := fun hn e => absurd (Heap.lt_size e) (Nat.not_lt_of_le hn)
  have wk := Walks.tuple (prog := X.prog) (w := X.w) (A := X.A.in1) (I.ok.hd ok.calm) (s.heap.objs.size + 1) s.heap.objs.size (Nat.ne_of_lt (Nat.lt_succ_self _)) #[u, u']
  have wk2 : Walks X.prog X.w X.A.in1 (s.heap.objs.size + 1) [s.heap.objs.size + 1, s.heap.objs.size] [s.heap.objs.size + 1] 2 (fun i v => [u, u'][i]? = some v) (fun i h => h.IsTupleIter (s.heap.objs.size + 1) s.heap.objs.size i ∧ h.IsTuple s.heap.objs.size #[u, u']) := by simpa using wk
  refine call_max2 (wpAny_pyIter_tuple pt ⟨_, [s.heap.objs.size + 1, s.heap.objs.size], [s.heap.objs.size + 1], 2, _, _, _, _, by rw [hsz], wk2, ⟨⟨_, by rw [← hsz]; exact Heap.get?_push_size _ rfl, rfl, rfl⟩, pt.at fun o e => Heap.get?_push_of_some _ e⟩, fun c hc => ?_, by decide, (fun c o e => Heap.get?_push_of_some _ (Heap.get?_push_of_some _ e)), (fun tmp ht h h' hz k c o e => ?_), cmp_max hr ho hu, fun v h' tk hv k => ?_⟩)
  · rw [Heap.size_push, hsz]
    rcases List.mem_cons.mp hc with e | e
    · rw [e]; exact Nat.lt_succ_self _
    · rw [List.mem_singleton.mp e]; exact Nat.lt_succ_of_lt (Nat.lt_succ_self _)
  · refine k c o (fun z => ?_) (fun z => ?_) (hz c o e)
    · rw [List.mem_singleton.mp z] at e; exact fr (by omega) e
    · rw [← z, Heap.get?_push_of_some _ (Heap.get?_push_of_some _ e)] at ht; cases ht
  · obtain ⟨z, hz, rz⟩ := Vals.at (xs := [x, y]) (its := [u, u']) (.cons r1 (.cons r2 .nil)) hv
    refine ⟨z, H, I.kept fun c o e => k c o (fun z => ?_) (Heap.get?_push_of_some _ (Heap.get?_push_of_some _ e)), rz, k0 z hz⟩
    rw [List.mem_singleton.mp z] at e; exact fr (by omega) e
theorem cr_min1 (ok : OKx b L X) : CallR X (.builtin "min") (rBest1 X.K false) := by
  intro pins s σ H vs us Q I r ⟨a, xs, ps, hv, hs, hd, ho, q⟩
  subst hv
  rw [Vals.ref1 r]
  have hu : X.A.in1.units + 64 < cLine := by have := ok.un; show X.A.units + 1 + 64 < cLine; omega
  refine call_min1 (sq_gone ok.calm I hs fun s2 its it fp St g => ?_)
  obtain ⟨as, hr⟩ := Dp.readsAll I ps xs its hd g.vals
  have hl := ReadsAll.len' hr
  refine ⟨it, fp, [it], its.length, _, _, _, _, rfl, g.walk, g.at0, g.fps, by rw [← hl]; exact (okAll_at ho).1, (fun c o e => g.keep c o e), (fun tmp ht h h' hz k c o e => ?_), cmp_min hr ho hu, fun v h' tk hv k => ?_⟩
  · refine k c o (fun z => ?_) (fun z => ?_) (hz c o e)
    · rw [List.mem_singleton.mp z, g.new] at e; cases e
    · rw [← z, g.keep c o e] at ht; cases ht
  · obtain ⟨x, hx, rx⟩ := Vals.at g.vals hv
    rw [g.same]
    exact ⟨x, H, g.back I k, rx, q x (by unfold bIx; rw [hl]; exact hx)⟩
theorem cr_min2d (ok : OKx b L X) : CallR X (.builtin "min") (rBest2 X.K false) := by
  intro pins s σ H vs us Q I r ⟨x, y, p, q, hv, hp, hq, ho, k0⟩
  subst hv
  obtain ⟨u, u', rfl, r1, r2⟩ := vals2 r
  obtain ⟨as1, h1⟩ := Dp.reads I p x u hp r1
  obtain ⟨as2, h2⟩ := Dp.reads I q y u' hq r2
  have hu : X.A.in1.units + 64 < cLine := by have := ok.un; show X.A.units + 1 + 64 < cLine; omega
  have hr : ReadsAll s.heap [u, u'] [p, q] (as1 ++ (as2 ++ [])) := .cons h1 (.cons h2 .nil)
  have pt : (s.heap.push { cls := .type "tuple", data := .seq #[u, u'] }).IsTuple s.heap.objs.size #[u, u'] := ⟨_, Heap.get?_push_size _ rfl, rfl, _, rfl⟩
  have hsz : (s.heap.push { cls := .type "tuple", data := .seq #[u, u'] }).objs.size = s.heap.objs.size + 1 := Heap.size_push ..
  have fr : ∀ {n : Nat} {o : Obj}, s.heap.objs.size ≤ n → s.heap.get? n = some o → False := fun hn e => absurd (Heap.lt_size e) (Nat.not_lt_of_le hn)
  have wk := Walks.tuple (prog := X.prog) (w := X.w) (A := X.A.in1) (I.ok.hd ok.calm) (s.heap.objs.size + 1) s.heap.objs.size (Nat.ne_of_lt (Nat.lt_succ_self _)) #[u, u']
  have wk2 : Walks X.prog X.w X.A.in1 (s.heap.objs.size + 1) [s.heap.objs.size + 1, s.heap.objs.size] [s.heap.objs.size + 1] 2 (fun i v => [u, u'][i]? = some v) (fun i h => h.IsTupleIter (s.heap.objs.size + 1) s.heap.objs.size i ∧ h.IsTuple s.heap.objs.size #[u, u']) := by simpa using wk
  refine call_min2 (wpAny_pyIter_tuple pt ⟨_, [s.heap.objs.size + 1, s.heap.objs.size], [s.heap.objs.size + 1], 2, _, _, _, _, by rw [hsz], wk2, ⟨⟨_, by rw [← hsz]; exact Heap.get?_push_size _ rfl, rfl, rfl⟩, pt.at fun o e => Heap.get?_push_of_some _ e⟩, fun c hc => ?_, by decide, (fun c o e => Heap.get?_push_of_some _ (Heap.get?_push_of_some _ e)), (fun tmp ht h h' hz k c o e => ?_), cmp_min hr ho hu, fun v h' tk hv k => ?_⟩)
  · rw [Heap.size_push, hsz]
    rcases List.mem_cons.mp hc with e | e
    · rw [e]; exact Nat.lt_succ_self _
    · rw [List.mem_singleton.mp e]; exact Nat.lt_succ_of_lt (Nat.lt_succ_self _)
  · refine k c o (fun z => ?_) (fun z => ?_) (hz c o e)
    · rw [List.mem_singleton.mp z] at e; exact fr (by omega) e
    · rw [← z, Heap.get?_push_of_some _ (Heap.get?_push_of_some _ e)] at ht; cases ht
  · obtain ⟨z, hz, rz⟩ := Vals.at (xs := [x, y]) (its := [u, u']) (.cons r1 (.cons r2 .nil)) hv
    refine ⟨z, H, I.kept fun c o e => k c o (fun z => ?_) (Heap.get?_push_of_some _ (Heap.get?_push_of_some _ e)), rz, k0 z hz⟩
    rw [List.mem_singleton.mp z] at e; exact fr (by omega) e
end
def bestD (mx : Bool) (xs : List D) : Option D := match D.pys xs with
  | some ps => if okAll ps = true then xs[bIx mx ps]? else none
  | none => none
def best1D (mx : Bool) (ds : List D) : Option R := match sqDs ds with
  | some xs => (bestD mx xs).map .va
  | none => none
def best2D (mx : Bool) : List D → Option R
  | [x, y] => if (x.isLst || y.isLst) = true then none else (bestD mx [x, y]).map .va
  | _ => none
theorem bestD_some {mx : Bool} {xs : List D} {d : D} (h : bestD mx xs = some d) : ∃ ps, D.pys xs = some ps ∧ okAll ps = true ∧ xs[bIx mx ps]? = some d := by
  unfold bestD at h
  split at h
  · rename_i ps hp
    split at h
    · exact ⟨ps, hp, by assumption, h⟩
    · cases h
  · cases h
theorem sem_best1 {K : PySem.W.Frag} {mx : Bool} : SemB K (best1D mx) (rBest1 K mx) := by
  intro b eb σ S H ρ xs ds z G h hg Q q
  subst eb
  unfold best1D at hg
  split at hg
  · rename_i ys hy
    obtain ⟨a, us, rfl, h1, r1⟩ := rv_sq G h hy
    obtain ⟨d, hd, rfl⟩ := Option.map_eq_some_iff.mp hg
    obtain ⟨ps, hp, ho, hx⟩ := bestD_some hd
    obtain ⟨v, hv, rv⟩ := Rps.get r1 hx
    exact ⟨a, us, ps, rfl, h1, Rps.dp _ _ _ (Rps.mono G.sub _ _ r1) hp, ho, fun x e => by rw [hv] at e; cases e; exact q _ H S (Hsub.refl _) G rv⟩
  · cases hg
theorem sem_best2 {K : PySem.W.Frag} {mx : Bool} : SemB K (best2D mx) (rBest2 K mx) := by
  intro b eb σ S H ρ xs ds z G h hg Q q
  subst eb
  unfold best2D at hg
  split at hg
  · rename_i d e
    split at hg
    · cases hg
    rename_i hl
    obtain ⟨hl1, hl2⟩ := Bool.or_eq_false_iff.mp (Bool.eq_false_iff.mpr hl)
    obtain ⟨v, u, rfl, hv, hu⟩ := rv2 h
    obtain ⟨d', hd, rfl⟩ := Option.map_eq_some_iff.mp hg
    obtain ⟨ps, hp, ho, hx⟩ := bestD_some hd
    simp only [D.pys] at hp
    split at hp
    · rename_i p qs h1 h2
      split at h2
      · rename_i p2 q2 h3 h4
        cases h4
        cases h2
        cases hp
        refine ⟨v, u, p, p2, rfl, Rp.dp _ _ _ (hv.rp G.sub) h1, Rp.dp _ _ _ (hu.rp G.sub) h3, ho, fun x e => ?_⟩
        generalize bIx mx [p, p2] = k at hx e
        cases k with
        | zero => cases hx; cases e; exact q _ H S (Hsub.refl _) G (hv.rpS hl1)
        | succ k =>
          cases k with
          | zero => cases hx; cases e; exact q _ H S (Hsub.refl _) G (hu.rpS hl2)
          | succ k => simp at hx
      · cases h2
    · cases hp
  · cases hg
end Mc
end
section
set_option Elab.async false
set_option linter.all false
set_option maxRecDepth 100000
set_option maxHeartbeats 4000000
set_option autoImplicit false
namespace HT
open PySem PySem.Spec PyProof.Rows
section
variable {prog : Program} {w : World} {A : Around} {E : Value → Shared → Prop} {s : Shared}
theorem applied_back {sl : Addr} {u : Tok} {n : Nat} {Q : Int × Int × Nat → Shared → Prop} (hs : s.heap.get? sl = some { cls := .type "slice", data := .fields #[.none, .none, .int (-1) u] }) (h : Q ((n : Int) - 1, -1, n) s) :
    wpAny (model prog w) A (Builtin.Slice.sliceApplied (.ref sl) (pure (n : Int))) Q E s := by
  unfold Builtin.Slice.sliceApplied Builtin.Slice.sliceFields
  refine wpAny_bind (wpAny_bind (wpAny_field hs rfl (x := .none) rfl (wpAny_bind (wpAny_field hs rfl (x := .none) rfl (wpAny_bind (wpAny_field hs rfl (x := .int (-1) u) rfl (wpAny_pure ?_)))))))
  refine wpAny_bind (slicePart_int (?_ : wpAny _ _ (if ((-1 : Int) == 0) = true then _ else _) _ _ s))
  rw [if_neg (by decide)]
  refine wpAny_bind (slicePart_none (wpAny_bind (slicePart_none (wpAny_bind (wpAny_pure ?_)))))
  have e : Builtin.Slice.slicePlaces ((n : Int) - 1) (-1) (-1) = n := by
    unfold Builtin.Slice.slicePlaces
    rw [if_neg (by decide : ¬ ((-1 : Int) > 0))]
    by_cases h0 : (n : Int) - 1 > -1
    · rw [if_pos h0, Int.neg_neg, Int.ediv_one]; omega
    · rw [if_neg h0]; omega
  show wpAny _ _ (pure ((n : Int) - 1, (-1 : Int), Builtin.Slice.slicePlaces ((n : Int) - 1) (-1) (-1))) _ _ s
  rw [e]
  exact wpAny_pure h
theorem fm_map {α β : Type} {f : α → Option β} {g : α → β} : ∀ {l : List α}, (∀ x ∈ l, f x = some (g x)) → l.filterMap f = l.map g
  | [], _ => rfl
  | x :: l, h => by rw [List.filterMap_cons, h x (by simp), List.map_cons, fm_map fun y hy => h y (by simp [hy])]
theorem pick_back (xs : Array Value) : ((List.range xs.size).filterMap fun (m : Nat) => xs[((xs.size : Int) - 1 + (m : Int) * (-1)).toNat]?).toArray = xs.toList.reverse.toArray := by
  congr 1
  apply List.ext_getElem?
  intro i
  have e : ((List.range xs.size).filterMap fun (m : Nat) => xs[((xs.size : Int) - 1 + (m : Int) * (-1)).toNat]?) = (List.range xs.size).map fun m => xs.toList.getD (xs.size - 1 - m) .none := by
    refine fm_map fun m hm => ?_
    have hlt := List.mem_range.mp hm
    have e1 : ((xs.size : Int) - 1 + (m : Int) * (-1)).toNat = xs.size - 1 - m := by omega
    have h2 : xs.size - 1 - m < xs.toList.length := by rw [Array.length_toList]; omega
    rw [e1, ← Array.getElem?_toList, List.getElem?_eq_getElem h2]
    show some _ = some (xs.toList.getD _ _)
    rw [List.getD_eq_getElem?_getD, List.getElem?_eq_getElem h2]
    rfl
  rw [e, List.getElem?_map]
  by_cases hi : i < xs.size
  · have h2 : xs.size - 1 - i < xs.toList.length := by rw [Array.length_toList]; omega
    rw [List.getElem?_range hi, List.getElem?_reverse (by rw [Array.length_toList]; exact hi), Array.length_toList]
    show some (xs.toList.getD _ _) = _
    rw [List.getD_eq_getElem?_getD, List.getElem?_eq_getElem h2]
    rfl
  · rw [List.getElem?_eq_none (by simpa using hi), List.getElem?_eq_none (by simpa using hi)]
    rfl
theorem tuple_back {t sl : Addr} {items : Array Value} {u : Tok} {Q : Value → Shared → Prop} (ht : IsTup s.heap t items) (hs : s.heap.get? sl = some { cls := .type "slice", data := .fields #[.none, .none, .int (-1) u] })
    (h : Q (.ref s.heap.objs.size) { s with heap := s.heap.push { cls := .type "tuple", data := .seq items.toList.reverse.toArray } }) (hsz : items.size ≤ sizeLine) : wpAny (model prog w) A (getItem (.ref t) (.ref sl)) Q E s := by
  have hz : sizeOk (.seq items.toList.reverse.toArray) := by
    show items.toList.reverse.toArray.size ≤ sizeLine
    rw [List.size_toArray, List.length_reverse, Array.length_toList]
    exact hsz
  have hTs : s.TypeIs (.ref sl) "slice" := ⟨_, hs, rfl⟩
  unfold getItem
  try with_reducible refine wpAny_holding ?_
  first | refine wpAny_bind (wpAny_pure ?_) | skip
  refine wpAny_bind (wpAny_sequenceKey ht.typeIs (by decide) (wpAny_bind (wpAny_callSpecial?_slot (name := Str.ofString "__getitem__") ht.typeIs PyProof.Rows.slot_tuple_getitem (wpAny_call_entry PyProof.Rows.slot_tuple_getitem ht.typeIs entry_tuple_getitem ?_ (args_tuple_getitem _ _)))))
  refine wpAny_bind (m := Builtin.Tuple.tupleItemsOf (.ref t)) (tupleItemsOf_ ht (wpAny_bind (wpAny_typeOf hTs ?_)))
  rw [if_pos (by decide)]
  refine wpAny_bind (applied_back hs (?_ : wpAny _ _ (if (((items.size : Int) - 1 == 0) && ((-1 : Int) == 1) && (items.size == items.size)) = true then _ else _) _ _ s))
  rw [if_neg (by rw [show ((-1 : Int) == 1) = false from by decide, Bool.and_false, Bool.false_and]; exact Bool.false_ne_true), pick_back]
  first
    | exact wpAny_bind (m := Builtin.Tuple.tupleExact _) (wpAny_newObj_type (wpAny_pure ⟨_, rfl, wpAny_pure h⟩) hz)
    | exact wpAny_bind (m := Builtin.Tuple.tupleExact _) (wpAny_newObj_type (wpAny_bind (wpAny_pure (wpAny_pure ⟨_, rfl, wpAny_pure h⟩))) hz)
    | exact wpAny_bind (wpAny_bind (m := Builtin.Tuple.tupleExact _) (wpAny_newObj_type (wpAny_pure (wpAny_pure ⟨_, rfl, wpAny_pure h⟩)) hz))
    | exact wpAny_bind (wpAny_bind (m := Builtin.Tuple.tupleExact _) (wpAny_newObj_type (wpAny_pure ⟨_, rfl, wpAny_pure h⟩) hz))
end
end HT
namespace Mc
open PySem PySem.Spec L2

/-! ### xs[::-1] -/
def tBack (K : PySem.W.Frag) (te : TE) : TE := fun σ H Q => te σ H fun x H1 => ∃ a xs, x = .ref a ∧ ((SqL K H1 a xs ∧ ∀ p, H1 p = none → Q (.ref p) (upd H1 p (.lst xs.reverse))) ∨ (SqT K H1 a xs ∧ NewT H1 Q xs.reverse))
theorem pe_back {X : Cx} {e : Expr} {te : TE} {k : Nat} {p1 p2 p3 pos : Pos} (he : PE X e te) : PE X (.Subscript e (.Slice none none (some (.UnaryOp .USub (.Constant (.int 1) k p1) p2)) p3) pos) (tBack X.K te) := by
  refine ⟨fun pins s σ H Q I h => ?_⟩
  refine PyProof.Rows.Subscript_ (thn (he.run pins s σ H _ I h) fun v s1 ⟨x, H1, I1, r1, q1⟩ => ?_)
  obtain ⟨a, xs, rfl, q⟩ := q1
  cases r1
  have pm : PO X (some (.UnaryOp .USub (.Constant (.int 1) k p1) p2)) (tPart (tUn (rU fun i => .int (-i)) (tC (.int 1)))) := po_some (pe_un un_neg pe_int)
  refine wpAny_Slice (thn (po_none.run pins s1 σ H1 (fun o H2 => o = none ∧ H2 = H1) I1 ⟨rfl, rfl⟩) fun vl s2 ⟨l, H2, I2, pl, el, e2⟩ => ?_)
  obtain rfl := el; obtain rfl := e2
  refine thn (po_none.run pins s2 σ H2 (fun o H3 => o = none ∧ H3 = H2) I2 ⟨rfl, rfl⟩) fun vu s3 ⟨u, H3, I3, pu, eu, e3⟩ => ?_
  obtain rfl := eu; obtain rfl := e3
  refine thn (pm.run pins s3 σ H3 (fun o H4 => o = some (-1) ∧ H4 = H3) I3 ⟨1, rfl, -1, rfl, rfl, rfl⟩) fun vs s4 ⟨o, H4, I4, ps, eo, e4⟩ => ?_
  obtain rfl := eo; obtain rfl := e4
  have I5 : Inv X pins σ H4 { s4 with heap := s4.heap.push { cls := .type "slice", data := .fields #[vl, vu, vs] } } := I4.kept (t' := s4.toks) fun c ob q => Heap.get?_push_of_some _ q
  show wpAny (model X.prog X.w) X.A (PyProof.Rows.subscriptTail e (.Slice none none (some (.UnaryOp .USub (.Constant (.int 1) k p1) p2)) p3) (.ref a) (.ref s4.heap.objs.size)) (EP X pins σ Q) X.xe { s4 with heap := s4.heap.push { cls := .type "slice", data := .fields #[vl, vu, vs] } }
  rcases q with ⟨hx, q⟩ | ⟨hx, q⟩
  · obtain ⟨its, r, ht, hz⟩ := I5.list hx
    have hlen := r.length
    refine PyProof.Rows.tail_any (ops := [.ref a, .ref s4.heap.objs.size]) ht.isList.typeIs (PySem.slot_list_getitem.lookup) (wpAny_getItem_list_slice ht.isList (Heap.IsSliceOf.new _ vl vu vs) pl pu ps (by decide) ?_ (by rw [List.size_toArray]; omega)) (by with_unfolding_all rfl)
    rw [PySem.W.krv_pick]
    exact ⟨.ref _, _, I5.laid (t' := s4.toks) (o := .lst xs.reverse) (fun c ob q => Heap.get?_push_of_some _ q) (Nat.le_refl _) ⟨by rw [List.length_reverse]; exact hz, _, 0, r.reverse, Heap.get?_push_size _ rfl⟩, rfl, q _ (I5.hok.fresh (Nat.le_refl _))⟩
  · obtain ⟨its, r, ht, hz⟩ := I5.tuple hx
    have hlen := r.length
    cases pl
    cases pu
    generalize hm : (-1 : Int) = m at ps
    cases ps with
    | int i t =>
      subst hm
      refine PyProof.Rows.tail_any (ops := [.ref a, .ref s4.heap.objs.size]) ht.typeIs (PyProof.Rows.slot_tuple_getitem.lookup) (HT.tuple_back ht (Heap.get?_push_size _ rfl) ?_ (by rw [List.size_toArray]; omega)) (by with_unfolding_all rfl)
      exact q.use I5 r.reverse (by rw [List.length_reverse]; exact hz)
def backD : D → Option R
  | .lst xs => some (.ow xs.reverse)
  | .tup xs => some (.va (.tup xs.reverse))
  | _ => none
section
variable {b : Bs} {W : WX} {L : Nat} {X : Cx} {pos p1 p2 p3 : Pos} {e1 : Expr} {fa : M R} {k : Nat}
theorem pe_backM (o : OKx b L X) (ha : PE X e1 (rE b W fa)) : PE X (.Subscript e1 (.Slice none none (some (.UnaryOp .USub (.Constant (.int 1) k p1) p2)) p3) pos) (rE b W (evUn backD fa)) := by
  refine PE.weak (pe_back ha) fun σ H Q ⟨b', S, ρ, eb, G, w⟩ => ⟨b', S, ρ, eb, G, ev1_wp (r := fun x H1 Q => ∃ a xs, x = .ref a ∧ ((SqL X.K H1 a xs ∧ ∀ p, H1 p = none → Q (.ref p) (upd H1 p (.lst xs.reverse))) ∨ (SqT X.K H1 a xs ∧ NewT H1 Q xs.reverse))) ?_ w⟩
  intro σ S H ρ x d z G hx hz Q q
  have eK : X.K = b'.K := by rw [o.K, eb.1]
  cases d with
  | lst xs =>
    cases hz
    obtain ⟨a, vs, rfl, h1, r1⟩ := hx
    exact ⟨a, vs, rfl, Or.inl ⟨SqL.of h1, fun p hp => q _ _ S (Hsub.refl _) (G.newH hp) (RR.new G hp (Rps.reverse r1))⟩⟩
  | tup xs =>
    cases hz
    obtain ⟨a, vs, rfl, h1, r1⟩ := hx
    exact ⟨a, vs, rfl, Or.inr ⟨by rw [eK]; exact sqt_mono G.sub h1.1, fun p o hp ho => q _ _ _ (Hsub.new (G.sn hp)) (G.new hp) (RR.newT G hp ho (Rps.reverse r1))⟩⟩
  | _ => cases hz
end
end Mc
end
section
set_option Elab.async false
set_option linter.all false
set_option maxRecDepth 100000
set_option maxHeartbeats 4000000
set_option autoImplicit false
namespace Mc
open PySem PySem.Spec L2

/-! ### methods of tuples -/
section
variable {X : Cx} {pins : List (Addr × Obj)} {σ : L2.St} {H : Hp} {s : Shared}
theorem nod_is {a : Addr} (I : Inv X pins σ H s) (n : NoD X.K H a) : s.TypeIs (.ref a) "tuple" ∧ ∀ b, Value.ref a = .ref b → ∃ ob, s.heap.get? b = some ob ∧ ob.dict = none := by
  have key : ∃ o, s.heap.get? a = some o ∧ o.cls = .type "tuple" ∧ o.dict = none := by
    rcases n with ⟨o, u, e, h1, h2⟩ | ⟨o, e, h1, h2⟩
    · exact ⟨o, (show ObjOk X.prog X.w H s.heap a (.frz o u) from I.hok a _ e).1, h1, h2⟩
    · exact ⟨o, I.kIn a o e, h1, h2⟩
  obtain ⟨o, e, h1, h2⟩ := key
  exact ⟨⟨o, e, h1⟩, fun b hb => by cases hb; exact ⟨o, e, h2⟩⟩
def tTM (K : PySem.W.Frag) (rL rT : V → List V → Hp → VK → Prop) (to : TE) (t : TA) : TE := fun σ H Q => to σ H fun x H1 => ∃ a, x = .ref a ∧ (((∃ xs, SqL K H1 a xs) ∧ t σ H1 fun xs H2 => rL x xs H2 Q) ∨ (NoD K H1 a ∧ t σ H1 fun xs H2 => rT x xs H2 Q))
/-- o.m(e, ..), o a list or a tuple -/
theorem pe_tm {o e : Expr} {es : List Expr} {to : TE} {t : TA} {name : Str} {apos cpos : Pos} {idL idT : String} {rL rT : V → List V → Hp → VK → Prop} (slotL : Slot "list" name idL) (slotT : Slot "tuple" name idT) (htyL : typeOf (.builtin idL) = pure (.type "method_descriptor")) (htyT : typeOf (.builtin idT) = pure (.type "method_descriptor"))
    (hL : MtR X idL rL) (hT : MtR X idT rT) (ho : PE X o to) (ha : PA X (e :: es) t) (hbase : attributeBase o name X.env (eval o X.env) = eval o X.env := by rfl)
    (hfew : ((backTo cpos (starEach (e :: es) X.env)).all (fun x => !x.1) && (backToKw cpos (keywordEach [] X.env)).all (fun x => x.1.isSome) && decide ((e :: es).length + ([] : List Keyword).length + (if ([] : List Keyword).isEmpty then 0 else 1) < 30)) = true := by rfl)
    (hline : (apos.endLine == cpos.line) = true := by rfl) (hs : starEach (e :: es) X.env = (false, eval e X.env) :: starEach es X.env := by rfl) (hplain : (backTo cpos (starEach es X.env)).any (·.1) = false := by rfl) :
    PE X (.Call (.Attribute o name apos) (e :: es) [] cpos) (tTM X.K rL rT to t) := by
  refine ⟨fun pins s σ H Q I h => wpAny_Call_method_late hbase hfew hline rfl (thn (ho.run pins s σ H _ I h) fun v s1 ⟨x, H1, I1, r1, a, ex, q1⟩ => ?_)⟩
  subst ex
  obtain rfl : v = Value.ref a := r1
  have fl : (false || (backTo cpos (starEach es X.env)).any (·.1)) = false := by rw [hplain] <;> rfl
  rcases q1 with ⟨⟨ys, hy⟩, q1⟩ | ⟨hn, q1⟩
  · obtain ⟨its, _, ⟨o', n, ho', hc', hd', _⟩, _⟩ := I1.list hy
    refine ⟨"list", idL, PySem.F.plainAttrs_list, slotL, htyL, ⟨o', ho', hc'⟩, fun b hb => by cases hb; exact ⟨o', ho', hd'⟩, ?_⟩
    have hA := ha.run cpos pins s1 σ H1 _ I1 q1
    rw [hs] at hA ⊢
    exact Calls.callWith_builtin (show (false || (backTo cpos (starEach es X.env)).any (·.1)) = false from fl) (Calls.evalArgs_plain (thn hA fun us s2 ⟨vs, H2, I2, r2, q2⟩ => hL pins s2 σ H2 (.ref a) vs _ us Q I2 rfl r2 q2))
  · obtain ⟨h1, h2⟩ := nod_is I1 hn
    refine ⟨"tuple", idT, PySem.F.plainAttrs_tuple, slotT, htyT, h1, h2, ?_⟩
    have hA := ha.run cpos pins s1 σ H1 _ I1 q1
    rw [hs] at hA ⊢
    exact Calls.callWith_builtin (show (false || (backTo cpos (starEach es X.env)).any (·.1)) = false from fl) (Calls.evalArgs_plain (thn hA fun us s2 ⟨vs, H2, I2, r2, q2⟩ => hT pins s2 σ H2 (.ref a) vs _ us Q I2 rfl r2 q2))

/-! ### index, count -/
def rIdx (K : PySem.W.Frag) (tp : Bool) : V → List V → Hp → VK → Prop := fun x xs H Q => ∃ (a : Addr) (us : List V) (y : V) (d : PyData) (ds : List PyData) (j : Nat), x = V.ref a ∧ xs = [y] ∧ (if tp = true then SqT K H a us else SqL K H a us) ∧ DpAll K H us ds ∧ Dp K H y d ∧
  SeqAt.shaped (.list ds) = true ∧ SeqAt.shaped d = true ∧ (ds.findIdx? fun z => PyData.eqv z d) = some j ∧ Q (.int (j : Nat)) H
def rCnt (K : PySem.W.Frag) (tp : Bool) : V → List V → Hp → VK → Prop := fun x xs H Q => ∃ (a : Addr) (us : List V) (y : V) (d : PyData) (ds : List PyData), x = V.ref a ∧ xs = [y] ∧ (if tp = true then SqT K H a us else SqL K H a us) ∧ DpAll K H us ds ∧ Dp K H y d ∧
  (PyData.plainAll ds && d.plain && decide (d.depth ≤ 64)) = true ∧ Q (.int ((ds.countP fun z => PyData.eqv z d : Nat) : Int)) H
theorem mt_idxL (hu : X.A.units + 128 < cLine) : MtR X "list.index" (rIdx X.K false) := by
  intro pins s σ H x xs v us Q I rx rxs ⟨a, ws, y, d, ds, j, ex, exs, hl, hds, hd, sl, sd, hj, q⟩
  obtain ⟨h1, h2, h3⟩ := List.findIdx?_eq_some_iff_getElem.mp hj
  refine mt_indexD (by omega) pins s σ H x xs v us Q I rx rxs ⟨a, y, d, ds, j, ds[j], ex, exs, .lst hl hds, hd, sl, sd, List.getElem?_eq_getElem h1, h2, fun m z' hm hz => ?_, q⟩
  obtain ⟨hm2, rfl⟩ := List.getElem?_eq_some_iff.mp hz
  have := h3 m hm
  simpa using this
theorem mt_idxT (hu : X.A.units + 128 < cLine) : MtR X "tuple.index" (rIdx X.K true) := by
  intro pins s σ H x xs v us Q I rx rxs ⟨a, ws, y, d, ds, j, ex, exs, hl, hds, hd, sl, sd, hj, q⟩
  subst ex exs
  cases rx
  obtain ⟨uy, rfl, ry⟩ := vals1 rxs
  obtain ⟨bs, r1⟩ := Dp.reads I d y uy hd ry
  have hl' : SqT X.K H a ws := hl
  obtain ⟨its, rv, ⟨⟨cls, dd, data, sls⟩, ho, hc, n, hdt⟩, hz⟩ := I.tuple hl'
  simp only at hc hdt
  subst hc hdt
  obtain ⟨as, h4⟩ := Dp.readsAll I ds _ its hds rv
  have hxs : PyData.canLayAll0 ds = true := SeqAt.canLay_of_shaped sl
  have hn : its.length = ds.length := SeqAt.ReadsAll.length ds its as h4
  have hmap : its.map (SeqAt.readOf s.heap) = ds := SeqAt.readsAll_map ds its as hxs h4
  have hroom : X.A.units + 1 + min (PyData.depthAll ds) d.depth < cLine := room_sh sd (by omega)
  obtain ⟨h1, h2, h3⟩ := List.findIdx?_eq_some_iff_getElem.mp hj
  have at_ : ∀ (m : Nat) (hm : m < its.toArray.size) (hd' : m < ds.length), SeqAt.readOf s.heap its.toArray[m] = ds[m] := fun m hm hd' => by
    have hml : m < its.length := by omega
    have e : (its.map (SeqAt.readOf s.heap))[m]? = ds[m]? := by rw [hmap]
    rw [List.getElem?_map, List.getElem?_eq_getElem hml, List.getElem?_eq_getElem hd'] at e
    simpa using e
  have hjs : j < its.toArray.size := by rw [List.size_toArray]; omega
  refine call_meets PySem.F.slot_tuple_index ⟨_, ho, rfl⟩ PySem.F.entry_tuple_index (PySem.F.args_tuple_index_2 _ _) (TI.tuple_indexAt a its.toArray n dd sls uy (fun u => PyData.eqv (SeqAt.readOf s.heap u) d) j hjs ?_ fun m hm hmj => ?_)
    ⟨ho, SeqAt.items_eqAt (vs := its.toArray) (show ReadsAll s.heap its.toArray.toList ds as from h4) r1 hxs (SeqAt.canLay_of_shaped sd) hroom, ⟨.int (j : Nat), H, I.tok _, ⟨_, rfl⟩, q⟩⟩
  · show PyData.eqv (SeqAt.readOf s.heap its.toArray[j]) d = true
    rw [at_ j hjs h1]
    exact h2
  · show PyData.eqv (SeqAt.readOf s.heap its.toArray[m]) d = false
    rw [at_ m hm (by omega)]
    simpa using h3 m hmj
theorem cnt_ok {ds : List PyData} {d : PyData} (h : (PyData.plainAll ds && d.plain && decide (d.depth ≤ 64)) = true) : PyData.plainAll ds = true ∧ d.plain = true ∧ d.depth ≤ 64 := by
  obtain ⟨h, h3⟩ := Bool.and_eq_true_iff.mp h
  obtain ⟨h1, h2⟩ := Bool.and_eq_true_iff.mp h
  exact ⟨h1, h2, of_decide_eq_true h3⟩
theorem mt_cntL (hu : X.A.units + 128 < cLine) : MtR X "list.count" (rCnt X.K false) := by
  intro pins s σ H x xs v us Q I rx rxs ⟨a, ws, y, d, ds, ex, exs, hl, hds, hd, ok, q⟩
  subst ex exs
  cases rx
  obtain ⟨uy, rfl, ry⟩ := vals1 rxs
  obtain ⟨bs, r1⟩ := Dp.reads I d y uy hd ry
  have hl' : SqL X.K H a ws := hl
  obtain ⟨its, rv, p, hz⟩ := I.list hl'
  obtain ⟨as, h4⟩ := Dp.readsAll I ds _ its hds rv
  obtain ⟨k1, k2, k3⟩ := cnt_ok ok
  exact PySem.SeqAt.count_list_data p.isList (by simpa using h4) r1 k1 k2 (by have := Nat.min_le_right (PyData.depthAll ds) d.depth; omega) ⟨.int _, H, I.tok _, ⟨_, rfl⟩, q⟩
theorem mt_cntT (hu : X.A.units + 128 < cLine) : MtR X "tuple.count" (rCnt X.K true) := by
  intro pins s σ H x xs v us Q I rx rxs ⟨a, ws, y, d, ds, ex, exs, hl, hds, hd, ok, q⟩
  subst ex exs
  cases rx
  obtain ⟨uy, rfl, ry⟩ := vals1 rxs
  obtain ⟨bs, r1⟩ := Dp.reads I d y uy hd ry
  have hl' : SqT X.K H a ws := hl
  obtain ⟨its, rv, p, hz⟩ := I.tuple hl'
  obtain ⟨as, h4⟩ := Dp.readsAll I ds _ its hds rv
  obtain ⟨k1, k2, k3⟩ := cnt_ok ok
  have pt : s.heap.IsTuple a its.toArray := p
  exact PySem.SeqAt.count_tuple_data pt (by simpa using h4) r1 k1 k2 (by have := Nat.min_le_right (PyData.depthAll ds) d.depth; omega) ⟨.int _, H, I.tok _, ⟨_, rfl⟩, q⟩
end
def idxP (ds : List D) (e : D) : Option R := match D.pys ds, e.py with
  | some ps, some p => if (SeqAt.shaped (.list ps) && SeqAt.shaped p) = true then (ps.findIdx? fun z => PyData.eqv z p).map fun j => .va (.int (j : Nat)) else none
  | _, _ => none
def cntP (ds : List D) (e : D) : Option R := match D.pys ds, e.py with
  | some ps, some p => if (PyData.plainAll ps && p.plain && decide (p.depth ≤ 64)) = true then some (.va (.int ((ps.countP fun z => PyData.eqv z p : Nat) : Int))) else none
  | _, _ => none
def evTM (g : List D → D → Option R) (fa fb : M R) : M R := M.bnd (frzM fa) fun r1 ρ1 => match rdD ρ1 r1 with
  | some (.lst _) => M.bnd (evCons fb evNil) (fun rs ρ => match rdD ρ r1, rs with
    | some (.lst ds), [r2] => (match rdD ρ r2 with
      | some e => M.lift (g ds e) ρ
      | none => none)
    | _, _ => none) ρ1
  | some (.tup _) => M.bnd (evCons fb evNil) (fun rs ρ => match rdD ρ r1, rs with
    | some (.tup ds), [r2] => (match rdD ρ r2 with
      | some e => M.lift (g ds e) ρ
      | none => none)
    | _, _ => none) ρ1
  | _ => none
section
variable {b : Bs} {W : WX} {L : Nat} {X : Cx} {apos cpos : Pos} {e1 e2 : Expr} {fa fb : M R} {name : Str} {idL idT : String}
theorem tm_wp {g : List D → D → Option R} {rL rT : V → List V → Hp → VK → Prop} {b0 : Bs} (eb : EqB b b0)
    (semL : ∀ (σ : L2.St) (S H : Hp) (ρ : ES) (a : Addr) (vs : List V) (y : V) (ds : List D) (e : D) (z : R) (Q : VK), Good b σ S H ρ → SqL b.K H a vs → Rps b.K b.mg S vs ds → RV b S H y e → g ds e = some z → (∀ v, RR b σ S H ρ v z → Q v H) → rL (.ref a) [y] H Q)
    (semT : ∀ (σ : L2.St) (S H : Hp) (ρ : ES) (a : Addr) (vs : List V) (y : V) (ds : List D) (e : D) (z : R) (Q : VK), Good b σ S H ρ → SqT b.K H a vs → Rps b.K b.mg S vs ds → RV b S H y e → g ds e = some z → (∀ v, RR b σ S H ρ v z → Q v H) → rT (.ref a) [y] H Q)
    {σ : L2.St} {S H : Hp} {ρ : ES} {Q : VK} (w : Wp b W σ (evTM g fa fb) S H ρ fun S' H' ρ' r => ∀ v, RR b σ S' H' ρ' v r → Q v H') :
    Wp b W σ fa S H ρ fun S1 H1 ρ1 r1 => ∀ x, RR b σ S1 H1 ρ1 x r1 → ∃ a, x = .ref a ∧ (((∃ xs, SqL b.K H1 a xs) ∧ rAr b0 W (evCons fb evNil) σ H1 fun xs H2 => rL x xs H2 Q) ∨ (NoD b.K H1 a ∧ rAr b0 W (evCons fb evNil) σ H1 fun xs H2 => rT x xs H2 Q)) := by
  refine Wp.frz (K := fun x H1 => ∃ a, x = .ref a ∧ (((∃ xs, SqL b.K H1 a xs) ∧ rAr b0 W (evCons fb evNil) σ H1 fun xs H2 => rL x xs H2 Q) ∨ (NoD b.K H1 a ∧ rAr b0 W (evCons fb evNil) σ H1 fun xs H2 => rT x xs H2 Q))) w fun S1 H1 ρ1 r1 x s1 G1 f1 w1 => ?_
  cases h1 : rdD ρ1 r1 with
  | none => exact wp_none (by simp only [h1]) w1
  | some d =>
    have rv1' := f1.rv G1 h1
    cases d with
    | lst ds0 =>
      obtain ⟨a, vs0, rfl, p0, q0⟩ := rv1'
      have w2 := wp_is (g := M.bnd (evCons fb evNil) (fun rs ρ => match rdD ρ r1, rs with
        | some (.lst ds), [r2] => (match rdD ρ r2 with
          | some e => M.lift (g ds e) ρ
          | none => none)
        | _, _ => none)) (by simp only [h1]) w1
      refine ⟨a, rfl, Or.inl ⟨⟨vs0, SqL.of p0⟩, b, S1, ρ1, eb, G1, Wp.mono (Wp.bind w2) fun S2 H2 ρ2 rs s2 G2 w3 vs hvs => ?_⟩⟩
      cases h2 : rdD ρ2 r1 with
      | none => exact wp_none (by simp only [h2]) w3
      | some d2 =>
        cases d2 with
        | lst ds =>
          cases hvs with
          | nil => exact wp_none (by simp only [h2]) w3
          | cons hv ht =>
            cases ht with
            | cons _ _ => exact wp_none (by simp only [h2]) w3
            | nil =>
              rename_i y r2
              cases h3 : rdD ρ2 r2 with
              | none => exact wp_none (by simp only [h2, h3]) w3
              | some e =>
                cases h4 : g ds e with
                | none => exact wp_none (by simp only [h2, h3, h4, M.lift]) w3
                | some z =>
                  obtain ⟨a', vs, ea, p, q⟩ := (f1.mono s2).rv G2 h2
                  cases ea
                  exact semL σ S2 H2 ρ2 a vs y ds e z Q G2 (SqL.of p) q (hv.rv G2 h3) h4 fun v hr => wp_ok (a := z) (by simp only [h2, h3, h4, M.lift]) w3 (Hsub.refl _) G2 v hr
        | _ => exact wp_none (by simp only [h2]) w3
    | tup ds0 =>
      obtain ⟨a, vs0, rfl, p0, q0⟩ := rv1'
      have w2 := wp_is (g := M.bnd (evCons fb evNil) (fun rs ρ => match rdD ρ r1, rs with
        | some (.tup ds), [r2] => (match rdD ρ r2 with
          | some e => M.lift (g ds e) ρ
          | none => none)
        | _, _ => none)) (by simp only [h1]) w1
      refine ⟨a, rfl, Or.inr ⟨(sqx_mono G1.sub p0).2, b, S1, ρ1, eb, G1, Wp.mono (Wp.bind w2) fun S2 H2 ρ2 rs s2 G2 w3 vs hvs => ?_⟩⟩
      cases h2 : rdD ρ2 r1 with
      | none => exact wp_none (by simp only [h2]) w3
      | some d2 =>
        cases d2 with
        | tup ds =>
          cases hvs with
          | nil => exact wp_none (by simp only [h2]) w3
          | cons hv ht =>
            cases ht with
            | cons _ _ => exact wp_none (by simp only [h2]) w3
            | nil =>
              rename_i y r2
              cases h3 : rdD ρ2 r2 with
              | none => exact wp_none (by simp only [h2, h3]) w3
              | some e =>
                cases h4 : g ds e with
                | none => exact wp_none (by simp only [h2, h3, h4, M.lift]) w3
                | some z =>
                  obtain ⟨a', vs, ea, p, q⟩ := (f1.mono s2).rv G2 h2
                  cases ea
                  exact semT σ S2 H2 ρ2 a vs y ds e z Q G2 (sqt_mono G2.sub p.1) q (hv.rv G2 h3) h4 fun v hr => wp_ok (a := z) (by simp only [h2, h3, h4, M.lift]) w3 (Hsub.refl _) G2 v hr
        | _ => exact wp_none (by simp only [h2]) w3
    | _ => exact wp_none (by simp only [h1]) w1
theorem sem_idx {tp : Bool} {σ : L2.St} {S H : Hp} {ρ : ES} {a : Addr} {vs : List V} {y : V} {ds : List D} {e : D} {z : R} {Q : VK} (G : Good b σ S H ρ) (hs : if tp = true then SqT b.K H a vs else SqL b.K H a vs) (r : Rps b.K b.mg S vs ds) (hy : RV b S H y e) (hg : idxP ds e = some z)
    (q : ∀ v, RR b σ S H ρ v z → Q v H) : rIdx b.K tp (.ref a) [y] H Q := by
  unfold idxP at hg
  split at hg
  · rename_i ps p h1 h2
    split at hg
    · rename_i hsh
      obtain ⟨s1, s2⟩ := Bool.and_eq_true_iff.mp hsh
      obtain ⟨j, hj, rfl⟩ := Option.map_eq_some_iff.mp hg
      exact ⟨a, vs, y, p, ps, j, rfl, rfl, hs, Rps.dp _ _ _ (Rps.mono G.sub _ _ r) h1, Rp.dp _ _ _ (hy.rp G.sub) h2, s1, s2, hj, q _ (Rp.int _)⟩
    · cases hg
  · cases hg
theorem sem_cnt {tp : Bool} {σ : L2.St} {S H : Hp} {ρ : ES} {a : Addr} {vs : List V} {y : V} {ds : List D} {e : D} {z : R} {Q : VK} (G : Good b σ S H ρ) (hs : if tp = true then SqT b.K H a vs else SqL b.K H a vs) (r : Rps b.K b.mg S vs ds) (hy : RV b S H y e) (hg : cntP ds e = some z)
    (q : ∀ v, RR b σ S H ρ v z → Q v H) : rCnt b.K tp (.ref a) [y] H Q := by
  unfold cntP at hg
  split at hg
  · rename_i ps p h1 h2
    split at hg
    · rename_i hsh
      cases hg
      exact ⟨a, vs, y, p, ps, rfl, rfl, hs, Rps.dp _ _ _ (Rps.mono G.sub _ _ r) h1, Rp.dp _ _ _ (hy.rp G.sub) h2, hsh, q _ (Rp.int _)⟩
    · cases hg
  · cases hg
theorem pe_index (o : OKx b L X) (ha : PE X e1 (rE b W fa)) (hb : PE X e2 (rE b W fb)) (hbase : attributeBase e1 "index" X.env (eval e1 X.env) = eval e1 X.env := by rfl) (hline : (apos.endLine == cpos.line) = true := by rfl)
    (hs : starEach [e2] X.env = (false, eval e2 X.env) :: starEach [] X.env := by rfl)
    (hfew : ((backTo cpos (starEach [e2] X.env)).all (fun x => !x.1) && (backToKw cpos (keywordEach [] X.env)).all (fun x => x.1.isSome) && decide ([e2].length + ([] : List Keyword).length + (if ([] : List Keyword).isEmpty then 0 else 1) < 30)) = true := by rfl) :
    PE X (.Call (.Attribute e1 "index" apos) [e2] [] cpos) (rE b W (evTM idxP fa fb)) := by
  refine PE.weak (pe_tm PySem.F.slot_list_index PySem.F.slot_tuple_index PySem.F.type_list_index PySem.F.type_tuple_index (mt_idxL o.un) (mt_idxT o.un) ha (pa_c hb pa_n hs) hbase hfew hline hs) fun σ H Q ⟨b', S, ρ, eb, G, w⟩ => ⟨b', S, ρ, eb, G, ?_⟩
  rw [o.K, ← eb.1]
  exact tm_wp eb (fun σ S H ρ a vs y ds e z Q G h1 h2 h3 h4 h5 => sem_idx (tp := false) G h1 h2 h3 h4 h5) (fun σ S H ρ a vs y ds e z Q G h1 h2 h3 h4 h5 => sem_idx (tp := true) G h1 h2 h3 h4 h5) w
theorem pe_count (o : OKx b L X) (ha : PE X e1 (rE b W fa)) (hb : PE X e2 (rE b W fb)) (hbase : attributeBase e1 "count" X.env (eval e1 X.env) = eval e1 X.env := by rfl) (hline : (apos.endLine == cpos.line) = true := by rfl)
    (hs : starEach [e2] X.env = (false, eval e2 X.env) :: starEach [] X.env := by rfl)
    (hfew : ((backTo cpos (starEach [e2] X.env)).all (fun x => !x.1) && (backToKw cpos (keywordEach [] X.env)).all (fun x => x.1.isSome) && decide ([e2].length + ([] : List Keyword).length + (if ([] : List Keyword).isEmpty then 0 else 1) < 30)) = true := by rfl) :
    PE X (.Call (.Attribute e1 "count" apos) [e2] [] cpos) (rE b W (evTM cntP fa fb)) := by
  refine PE.weak (pe_tm PySem.F.slot_list_count PySem.F.slot_tuple_count PySem.F.type_list_count PySem.F.type_tuple_count (mt_cntL o.un) (mt_cntT o.un) ha (pa_c hb pa_n hs) hbase hfew hline hs) fun σ H Q ⟨b', S, ρ, eb, G, w⟩ => ⟨b', S, ρ, eb, G, ?_⟩
  rw [o.K, ← eb.1]
  exact tm_wp eb (fun σ S H ρ a vs y ds e z Q G h1 h2 h3 h4 h5 => sem_cnt (tp := false) G h1 h2 h3 h4 h5) (fun σ S H ρ a vs y ds e z Q G h1 h2 h3 h4 h5 => sem_cnt (tp := true) G h1 h2 h3 h4 h5) w
end
end Mc
end
section
set_option Elab.async false
set_option linter.all false
set_option maxRecDepth 100000
set_option maxHeartbeats 4000000
set_option autoImplicit false
namespace Mc
open PySem PySem.Spec L2

/-! ### a list of the frame is written -/
section
variable {b : Bs} {σ : L2.St} {S H : Hp} {ρ : ES}
theorem Good.put {i : Nat} {a : Addr} {vs vs' : List V} {ds ds' : List D} (G : Good b σ S H ρ) (hi : ρ[i]? = some (.ow ds)) (hv : σ[i]? = some (some (.ref a))) (hH : H a = some (.lst vs)) (hS : S a = none) (r : Rps b.K b.mg S vs' ds') : Good b σ S (upd H a (.lst vs')) (ρ.set i (.ow ds')) := by
  have w0 : Own ρ σ i a := ⟨hv, _, hi, rfl⟩
  have back : ∀ {j c}, Own (ρ.set i (.ow ds')) σ j c → Own ρ σ j c := by
    rintro j c ⟨h1, s, h2, h3⟩
    by_cases hj : i = j
    · subst hj; exact ⟨h1, _, hi, rfl⟩
    · rw [List.getElem?_set_ne hj] at h2; exact ⟨h1, s, h2, h3⟩
  refine ⟨fun x o e => ?_, by rw [List.length_set]; exact G.len, fun j s e => ?_, fun j k c h1 h2 => G.dis j k c (back h1) (back h2), fun x o e n => ?_, fun j c w => G.o0 j c (back w), G.s0, G.n0, fun x e => G.f0 x ?_, fun P q e => ⟨tabS_write (G.tab P q e).1 (Hsub.refl _) hH noTab_lst fun a u h n => by rw [upd_ne n]; exact h, (G.tab P q e).2⟩⟩
  · rw [upd_ne (fun z => by subst z; rw [hS] at e; cases e)]; exact G.sub _ _ e
  · by_cases hj : i = j
    · subst hj
      rw [List.getElem?_set_self (List.getElem?_eq_some_iff.mp hi).1] at e
      cases e
      exact ⟨a, vs', hv, upd_same, hS, r⟩
    · rw [List.getElem?_set_ne hj] at e
      exact (G.sl j s e).heap fun c u hc ho hu => by
        rw [upd_ne (fun z => by subst z; exact hj (G.dis i j c w0 ⟨hc, s, e, ho⟩))]; exact hu
  · rw [upd_ne (fun z => by
      subst z
      rcases G.o0 i x w0 with q | q
      · rw [e] at q; cases q
      · exact n q)]
    exact G.k0 x o e n
  · by_cases h : x = a
    · subst h; rw [upd_same] at e; cases e
    · rw [upd_ne h] at e; exact e
end
def evLM (i : Nat) (m : List D → List D → Option (D × List D)) (fs : M (List R)) : M R := fun ρ => match ρ[i]? with
  | some (.ow _) => M.bnd fs (fun rs => M.bnd (frzSs rs) fun ds ρ => match ρ[i]? with
    | some (.ow xs) => (match m xs ds with
      | some (d, xs') => some (.ok (.va d) (ρ.set i (.ow xs')))
      | none => none)
    | _ => none) ρ
  | _ => none
def SemL (K : PySem.W.Frag) (m : List D → List D → Option (D × List D)) (r : V → List V → Hp → VK → Prop) : Prop := ∀ (b : Bs), b.K = K → ∀ (S H : Hp) (a : Addr) (vs us : List V) (xs ds : List D) (d : D) (xs' : List D), Hsub S H → H a = some (.lst vs) → Rps b.K b.mg S vs xs → Rps b.K b.mg S us ds → m xs ds = some (d, xs') →
  ∀ Q : VK, (∀ v vs', Rp b.K b.mg S v d → Rps b.K b.mg S vs' xs' → Q v (upd H a (.lst vs'))) → r (.ref a) us H Q
section
variable {b : Bs} {W : WX} {L : Nat} {X : Cx} {p1 p2 p3 apos cpos pos : Pos} {x : Str} {e1 e2 : Expr} {es : List Expr} {fa fb : M R} {fs : M (List R)} {name : Str} {id : String} {m : List D → List D → Option (D × List D)} {r : V → List V → Hp → VK → Prop}
theorem lm_wp {i : Nat} {σ : L2.St} {S H : Hp} {ρ : ES} {Q : VK} {b0 : Bs} (eb : EqB b b0) (sem : SemL b.K m r) (G : Good b σ S H ρ) (w : Wp b W σ (evLM i m fs) S H ρ fun S' H' ρ' r => ∀ v, RR b σ S' H' ρ' v r → Q v H') :
    ∃ a, σ[i]? = some (some (.ref a)) ∧ (∃ vs, H a = some (.lst vs)) ∧ Wp b W σ fs S H ρ fun S1 H1 ρ1 rs => ∀ vs, RFs b σ S1 vs rs → r (.ref a) vs H1 Q := by
  unfold Wp WpO evLM at w
  cases hi : ρ[i]? with
  | none => rw [hi] at w; exact w.elim
  | some s =>
    rw [hi] at w
    cases s with
    | ow xs0 =>
      obtain ⟨a, vs0, e1, h0, _, _⟩ := G.sl i _ hi
      refine ⟨a, e1, ⟨vs0, h0⟩, Wp.mono (Wp.bind (g := fun rs => M.bnd (frzSs rs) fun ds ρ => match ρ[i]? with
        | some (.ow xs) => (match m xs ds with
          | some (d, xs') => some (.ok (R.va d) (ρ.set i (.ow xs')))
          | none => none)
        | _ => none) w) fun S1 H1 ρ1 rs s1 G1 w1 vs hvs => ?_⟩
      obtain ⟨S2, ρ2, ds, s2, G2, r2, w2⟩ := Wp.frzSs G1 hvs (Wp.bind w1)
      cases hi2 : ρ2[i]? with
      | none => exact wp_none (by simp only [hi2]) w2
      | some s =>
        cases s with
        | ow xs =>
          cases hm : m xs ds with
          | none => exact wp_none (by simp only [hi2, hm]) w2
          | some dx =>
            obtain ⟨d, xs'⟩ := dx
            obtain ⟨a', ws, e2, h1, h2, h3⟩ := G2.sl i _ hi2
            rw [e1] at e2; cases e2
            refine sem b rfl S2 H1 a ws vs xs ds d xs' G2.sub h1 h3 r2 hm Q fun v vs' rv rvs => ?_
            have w3 := wp_step (o := some (.ok (R.va d) (ρ2.set i (.ow xs')))) (by simp only [hi2, hm]) w2
            exact w3 S2 _ (Hsub.refl _) (G2.put hi2 e1 h1 h2 rvs) v rv
        | _ => exact wp_none (by simp only [hi2]) w2
    | _ => exact w.elim
theorem pe_lm (i : Nat) (slot : Slot "list" name id) (hty : typeOf (.builtin id) = pure (.type "method_descriptor")) (hm : MtR X id r) (sem : SemL b.K m r) (ha : PA X (e1 :: es) (rAr b W fs)) (o : OKx b L X)
    (hN : X.N[i]? = some x := by rfl) (hv : Vis X.env.scope x := by first | exact Or.inl rfl | exact Or.inr (Or.inl rfl) | exact Or.inr (Or.inr rfl)) (hd : (x == ("__debug__" : Str)) = false := by decide) (hcd : (x == ("__classdict__" : Str)) = false := by decide)
    (hbase : attributeBase (.Name x p1) name X.env (eval (.Name x p1) X.env) = eval (.Name x p1) X.env := by rfl) (hline : (apos.endLine == cpos.line) = true := by rfl)
    (hfew : ((backTo cpos (starEach (e1 :: es) X.env)).all (fun x => !x.1) && (backToKw cpos (keywordEach [] X.env)).all (fun x => x.1.isSome) && decide ((e1 :: es).length + ([] : List Keyword).length + (if ([] : List Keyword).isEmpty then 0 else 1) < 30)) = true := by rfl)
    (hs : starEach (e1 :: es) X.env = (false, eval e1 X.env) :: starEach es X.env := by rfl) (hplain : (backTo cpos (starEach es X.env)).any (·.1) = false := by rfl) :
    PE X (.Call (.Attribute (.Name x p1) name apos) (e1 :: es) [] cpos) (rE b W (evLM i m fs)) := by
  refine PE.weak (pe_bm PySem.F.plainAttrs_list slot hty hm (pe_var hN hv hd hcd) ha hbase hfew hline hs hplain) fun σ H Q ⟨b', S, ρ, eb, G, w⟩ => ?_
  obtain ⟨a, h1, ⟨vs, h2⟩, w2⟩ := lm_wp eb (by rw [eb.1]; exact sem) G w
  exact ⟨_, h1, Or.inl ⟨rfl, vs, SqL.of h2⟩, b', S, ρ, eb, G, w2⟩
theorem pe_lm0 (i : Nat) (slot : Slot "list" name id) (hty : typeOf (.builtin id) = pure (.type "method_descriptor")) (hm : MtR X id r) (sem : SemL b.K m r) (o : OKx b L X)
    (hN : X.N[i]? = some x := by rfl) (hv : Vis X.env.scope x := by first | exact Or.inl rfl | exact Or.inr (Or.inl rfl) | exact Or.inr (Or.inr rfl)) (hd : (x == ("__debug__" : Str)) = false := by decide) (hcd : (x == ("__classdict__" : Str)) = false := by decide)
    (hbase : attributeBase (.Name x p1) name X.env (eval (.Name x p1) X.env) = eval (.Name x p1) X.env := by rfl) (hline : (apos.endLine == cpos.line) = true := by rfl) :
    PE X (.Call (.Attribute (.Name x p1) name apos) [] [] cpos) (rE b W (evLM i m evNil)) := by
  refine PE.weak (pe_bm0 PySem.F.plainAttrs_list slot hty hm (pe_var hN hv hd hcd) hbase hline) fun σ H Q ⟨b', S, ρ, eb, G, w⟩ => ?_
  obtain ⟨a, h1, ⟨vs, h2⟩, w2⟩ := lm_wp eb (by rw [eb.1]; exact sem) G w
  exact ⟨_, h1, Or.inl ⟨rfl, vs, SqL.of h2⟩, w2 S H (Hsub.refl _) G [] .nil⟩

/-! ### append, pop, extend, insert -/
def apM (xs ds : List D) : Option (D × List D) := match ds with
  | [d] => if few xs = true then some (.non, xs ++ [d]) else none
  | _ => none
theorem sem_ap {K : PySem.W.Frag} : SemL K apM rAppend := by
  intro b eb S H a vs us xs ds d xs' hS ha rx rd hm Q q
  unfold apM at hm
  split at hm
  · split at hm
    · rename_i e hf
      cases hm
      cases rd with
      | cons r1 r2 => cases r2; exact ⟨a, vs, _, rfl, rfl, ha, by rw [Rps.length rx]; exact few_lt hf, q _ _ .non (Rps.append rx (.cons r1 .nil))⟩
    · cases hm
  · cases hm
def popM (xs ds : List D) : Option (D × List D) := match ds with
  | [] => (xs[xs.length - 1]?).map fun d => (d, xs.dropLast)
  | _ => none
theorem Rps.dropLast {K : PySem.W.Frag} {mg : Str → Option Value} {S : Hp} {vs : List V} {ds : List D} (r : Rps K mg S vs ds) : Rps K mg S vs.dropLast ds.dropLast := by
  rw [List.dropLast_eq_take, List.dropLast_eq_take, Rps.length r]
  exact Rps.take _ r
theorem sem_pop {K : PySem.W.Frag} : SemL K popM rPop := by
  intro b eb S H a vs us xs ds d xs' hS ha rx rd hm Q q
  unfold popM at hm
  split at hm
  · obtain ⟨e, he, h2⟩ := Option.map_eq_some_iff.mp hm
    cases h2
    cases rd
    obtain ⟨v, hv, rv⟩ := Rps.get rx he
    exact ⟨a, vs, v, rfl, rfl, ha, by rw [Rps.length rx]; exact hv, q _ _ rv (Rps.dropLast rx)⟩
  · cases hm
def popAtM (xs ds : List D) : Option (D × List D) := match ds with
  | [.int i] => if smI i = true then (match ixN xs.length i with
    | some k => (xs[k]?).map fun d => (d, xs.eraseIdx k)
    | none => none) else none
  | _ => none
theorem Rps.eraseIdx {K : PySem.W.Frag} {mg : Str → Option Value} {S : Hp} : ∀ (n : Nat) {ds : List D} {vs : List V}, Rps K mg S vs ds → Rps K mg S (vs.eraseIdx n) (ds.eraseIdx n)
  | _, [], _, x => by cases x; exact .nil
  | 0, d :: ds, _, x => by cases x with | cons p q => exact q
  | n + 1, d :: ds, _, x => by cases x with | cons p q => exact .cons p (Rps.eraseIdx n q)
theorem sem_popAt {K : PySem.W.Frag} : SemL K popAtM rPopAt := by
  intro b eb S H a vs us xs ds d xs' hS ha rx rd hm Q q
  unfold popAtM at hm
  split at hm
  · rename_i i
    split at hm
    · split at hm
      · rename_i hsm _ k hk
        obtain ⟨b1, b2⟩ := smI_ok hsm
        obtain ⟨e, he, h2⟩ := Option.map_eq_some_iff.mp hm
        cases h2
        cases rd with
        | cons r1 r2 =>
          cases r2
          cases r1
          obtain ⟨v, hv, rv⟩ := Rps.get rx he
          obtain ⟨h1, h2, h3, h4⟩ := ixN_seq hk
          exact ⟨a, vs, i, k, v, rfl, rfl, ha, by omega, by omega, by rw [Rps.length rx]; exact h1, hv, q _ _ rv (Rps.eraseIdx k rx)⟩
      · cases hm
    · cases hm
  · cases hm
def extM (xs ds : List D) : Option (D × List D) := match ds with
  | [.lst ys] => if few (xs ++ ys) = true then some (.non, xs ++ ys) else none
  | _ => none
theorem sem_ext {K : PySem.W.Frag} : SemL K extM rExtend := by
  intro b eb S H a vs us xs ds d xs' hS ha rx rd hm Q q
  unfold extM at hm
  split at hm
  · split at hm
    · rename_i ys hf
      cases hm
      cases rd with
      | cons r1 r2 =>
        cases r2
        cases r1 with
        | lst p q1 => exact ⟨a, _, vs, _, rfl, rfl, ha, hS _ _ p, by have := few_sz hf; rw [List.length_append] at this; rw [Rps.length rx, Rps.length q1]; exact this, q _ _ .non (Rps.append rx q1)⟩
    · cases hm
  · cases hm
end
end Mc
end
section
set_option Elab.async false
set_option linter.all false
set_option maxRecDepth 100000
set_option maxHeartbeats 4000000
set_option autoImplicit false
namespace Mc
open PySem PySem.Spec L2

/-! ### xs[i] = v -/
def evLSet (i : Nat) (fi fv : M R) : M Fl := M.bnd (frzM fv) fun rv => M.bnd (frzS rv) fun d ρ => match ρ[i]? with
  | some (.ow _) => M.bnd fi (fun ri ρ => match ri, ρ[i]? with
    | .va (.int k), some (.ow xs) => (match ixN xs.length k with
      | some j => some (.ok .nx (ρ.set i (.ow (xs.set j d))))
      | none => none)
    | _, _ => none) ρ
  | _ => none
section
variable {b : Bs} {W : WX} {L : Nat} {X : Cx} {p1 p2 p3 pos : Pos} {x : Str} {e1 e2 e3 : Expr} {fa fb fc : M R}
theorem s_lset (i : Nat) (o : OKx b L X) (he : PE X e2 (rE b W fb)) (hi : PE X e1 (rE b W fa)) (hN : X.N[i]? = some x := by rfl) (hv : Vis X.env.scope x := by first | exact Or.inl rfl | exact Or.inr (Or.inl rfl) | exact Or.inr (Or.inr rfl)) (hd : (x == ("__debug__" : Str)) = false := by decide)
    (hcd : (x == ("__classdict__" : Str)) = false := by decide)
    (ha : ∀ v, assign (.Subscript (.Name x p1) e1 p2) X.env v = (do
      let ov ← holding [v] (eval (.Name x p1) X.env)
      let iv ← holding [v, ov] (eval e1 X.env)
      standAt p2
      holding [v, ov, iv] (setItem ov iv v)
      release [v, ov, iv] []) := by intro _; rfl)
    (hs : swapsWithSole [.Subscript (.Name x p1) e1 p2] e2 pos.line X.env = pure false := by rfl) (hw : swappedStores [.Subscript (.Name x p1) e1 p2] e2 X.env = pure none := by rfl)
    (h1 : (assignEach [.Subscript (.Name x p1) e1 p2] X.env).map (·.2) = [assign (.Subscript (.Name x p1) e1 p2) X.env] := by rfl) : PS X (.Assign [.Subscript (.Name x p1) e1 p2] e2 pos) (rS b W (evLSet i fa fb)) := by
  refine PS.weak (ps_asg he (pg_sub (pe_var hN hv hd hcd) hi set_list ha) hs hw h1) fun D σ H ⟨b', S, ρ, eb, G, w⟩ => ⟨b', S, ρ, eb, G, ?_⟩
  refine Wp.frz0 (K := fun v H1 => L2.gSub (tVar i) (rE b W fa) rSetL v σ H1 D.nx) (WpS.bind (σ := σ) (H := H) (f := frzM fb) w) fun S1 H1 ρ1 r v s1 G1 f1 w1 => ?_
  obtain ⟨S2, ρ2, d, s2, G2, r2, w2⟩ := Wp.frzS G1 f1 (WpS.bind (σ := σ) (H := H1) w1)
  cases h2 : ρ2[i]? with
  | none => exact wps_none (by simp only [h2]) w2
  | some sl =>
    cases sl with
    | ow xs0 =>
      simp only [h2] at w2
      obtain ⟨a, vs0, e1', _, _, _⟩ := G2.sl i _ h2
      refine ⟨.ref a, e1', b', S2, ρ2, eb, G2, ?_⟩
      refine Wp.mono (WpS.bind (σ := σ) (H := H1) w2) fun S3 H3 ρ3 ri s3 G3 w3 y hy => ?_
      cases ri with
      | ow ds => exact w3.elim
      | sl j => exact w3.elim
      | va e =>
        cases e with
        | int k =>
          cases hy
          cases h3 : ρ3[i]? with
          | none => exact wps_none (by simp only [h3]) w3
          | some sl =>
            cases sl with
            | ow xs =>
              cases h4 : ixN xs.length k with
              | none => exact wps_none (by simp only [h3, h4]) w3
              | some j =>
                simp only [h3, h4] at w3
                obtain ⟨a', vs, e2, hH, hS, hr⟩ := G3.sl i _ h3
                rw [e1'] at e2; cases e2
                exact ⟨a, vs, k, j, rfl, rfl, hH, by rw [Rps.length hr]; exact h4, w3 σ S3 _ (Hsub.refl _) (G3.put h3 e1' hH hS (Rps.set (Rp.mono s3 _ _ r2) j hr))⟩
            | _ => exact wps_none (by simp only [h3]) w3
        | _ => exact w3.elim
    | _ => exact wps_none (by simp only [h2]) w2

/-! ### slices -/
def evPart (f : M R) : M (Option Int) := M.bnd f fun r ρ => match r with
  | .va (.int i) => some (.ok (some i) ρ)
  | _ => none
def rO (b0 : Bs) (W : WX) (f : M (Option Int)) : TO := fun σ H Q => ∃ b S ρ, EqB b b0 ∧ Good b σ S H ρ ∧ Wp b W σ f S H ρ fun S' H' ρ' o => Q o H'
theorem PO.weak {e : Option Expr} {t t' : TO} (h : PO X e t) (k : ∀ σ H Q, t' σ H Q → t σ H Q) : PO X e t' := ⟨fun pins s σ H Q I hw => h.run pins s σ H Q I (k σ H Q hw)⟩
theorem po_n : PO X none (rO b W (M.ret none)) := PO.weak po_none fun σ H Q ⟨b', S, ρ, eb, G, w⟩ => Wp.ret (a := (none : Option Int)) w G
theorem po_s (ha : PE X e1 (rE b W fa)) : PO X (some e1) (rO b W (evPart fa)) := by
  refine PO.weak (po_some ha) fun σ H Q ⟨b', S, ρ, eb, G, w⟩ => ⟨b', S, ρ, eb, G, Wp.mono (Wp.bind w) fun S1 H1 ρ1 r s1 G1 w1 v hv => ?_⟩
  cases r with
  | ow ds => exact wp_none rfl w1
  | sl j => exact wp_none rfl w1
  | va e =>
    cases e with
    | int k => cases hv; exact ⟨k, rfl, wp_step (o := some (.ok (some k) ρ1)) rfl w1 S1 H1 (Hsub.refl _) G1⟩
    | _ => exact wp_none rfl w1
def cutG {α : Type} (xs : List α) (lo hi : Option Int) : List α := (xs.drop (HT.sIx xs.length 0 lo)).take (HT.sIx xs.length xs.length hi - HT.sIx xs.length 0 lo)
theorem Rps.cut {K : PySem.W.Frag} {mg : Str → Option Value} {S : Hp} {vs : List V} {ds : List D} (r : Rps K mg S vs ds) (lo hi : Option Int) : Rps K mg S (cutV vs lo hi) (cutG ds lo hi) := by
  unfold cutV cutG
  rw [Rps.length r]
  exact Rps.take _ (Rps.drop _ r)
def cutD (d : D) (lo hi : Option Int) : Option R := match d with
  | .lst xs => some (.ow (cutG xs lo hi))
  | .tup xs => some (.va (.tup (if HT.sIx xs.length 0 lo = 0 ∧ HT.sIx xs.length xs.length hi = xs.length then xs else cutG xs lo hi)))
  | .str z => if okN z.length = true then some (.va (.str (cutS z lo hi))) else none
  | _ => none
def rSlU (K : PySem.W.Frag) : V → Option Int → Option Int → Hp → VK → Prop := fun x lo hi H Q => (rSlL K x lo hi H Q ∨ rSlX K x lo hi H Q) ∨ rSlS x lo hi H Q
theorem sl_all : SlR X (rSlU X.K) := (sl_list.or sl_tupX).or sl_str
def evSlice (fa : M R) (fl fh : M (Option Int)) : M R := M.bnd (frzM fa) fun r => M.bnd fl fun lo => M.bnd fh fun hi ρ => match rdD ρ r with
  | some d => M.lift (cutD d lo hi) ρ
  | none => none
theorem pe_sl' {lo hi : Option Expr} {fl fh : M (Option Int)} (o : OKx b L X) (ha : PE X e1 (rE b W fa)) (hl : PO X lo (rO b W fl)) (hh : PO X hi (rO b W fh)) : PE X (.Subscript e1 (.Slice lo hi none p2) pos) (rE b W (evSlice fa fl fh)) := by
  refine PE.weak (pe_slice sl_all ha hl hh) fun σ H Q ⟨b', S, ρ, eb, G, w⟩ => ⟨b', S, ρ, eb, G, ?_⟩
  refine Wp.frz (K := fun x H1 => rO b W fl σ H1 fun l H2 => rO b W fh σ H2 fun u H3 => rSlU X.K x l u H3 Q) w fun S1 H1 ρ1 r x s1 G1 f1 w1 => ⟨b', S1, ρ1, eb, G1, Wp.mono (Wp.bind w1) fun S2 H2 ρ2 l s2 G2 w2 => ⟨b', S2, ρ2, eb, G2, Wp.mono (Wp.bind w2) fun S3 H3 ρ3 u s3 G3 w3 => ?_⟩⟩
  cases h1 : rdD ρ3 r with
  | none => exact wp_none (by simp only [h1]) w3
  | some d =>
    cases h2 : cutD d l u with
    | none => exact wp_none (by simp only [h1, h2, M.lift]) w3
    | some z =>
      have q : ∀ S' H', Hsub S3 S' → Good b' σ S' H' ρ3 → ∀ v, RR b' σ S' H' ρ3 v z → Q v H' := fun S' H' s' G' => wp_ok (a := z) (by simp only [h1, h2, M.lift]) w3 s' G'
      have rv := (f1.mono (s2.trans s3)).rv G3 h1
      rw [o.K, ← eb.1]
      cases d with
      | lst xs =>
        cases h2
        obtain ⟨a, vs, rfl, p, r1⟩ := rv
        exact Or.inl (Or.inl ⟨a, vs, rfl, SqL.of p, fun p' hp => q _ _ (Hsub.refl _) (G3.newH hp) _ (RR.new G3 hp (Rps.cut r1 l u))⟩)
      | tup xs =>
        cases h2
        obtain ⟨a, vs, rfl, p, r1⟩ := rv
        have hl := Rps.length r1
        refine Or.inl (Or.inr ⟨a, vs, rfl, sqt_mono G3.sub p.1, fun hw => ?_, fun hw p' ob hp ho => ?_⟩)
        · rw [hl] at hw
          rw [if_pos hw] at q
          exact q _ _ (Hsub.refl _) G3 _ (.tup p r1)
        · rw [hl] at hw
          rw [if_neg hw] at q
          exact q _ _ (Hsub.new (G3.sn hp)) (G3.new hp) _ (RR.newT G3 hp ho (Rps.cut r1 l u))
      | str z =>
        unfold cutD at h2
        simp only at h2
        split at h2
        · rename_i hz
          cases h2
          cases rv
          exact Or.inr ⟨z, rfl, okN_sz hz, q _ _ (Hsub.refl _) G3 _ (Rp.str _)⟩
        · cases h2
      | _ => cases h2
end
end Mc
end
section
set_option Elab.async false
set_option linter.all false
set_option maxRecDepth 100000
set_option maxHeartbeats 4000000
set_option autoImplicit false
namespace Mc
open PySem PySem.Spec L2

/-! ### isinstance -/
inductive Kd where
  | non | bl | int | str | tup | lst | ob (c : Str)
deriving DecidableEq
def D.kd : D → Option Kd
  | .non => some .non
  | .bl _ => some .bl
  | .int _ => some .int
  | .str _ => some .str
  | .tup _ => some .tup
  | .lst _ => some .lst
  | .ob c _ => some (.ob c)
  | _ => none
def Kd.nm : Kd → String
  | .non => "NoneType"
  | .bl => "bool"
  | .int => "int"
  | .str => "str"
  | .tup => "tuple"
  | .lst => "list"
  | .ob _ => ""
def isiA (cs : List Str) : Kd → Kd → Option Bool
  | .ob c0, .ob c => if c0 ∈ cs ∧ c ∈ cs then some (decide (c = c0)) else none
  | .ob c0, _ => if c0 ∈ cs then some false else none
  | _, .ob c => if c ∈ cs then some false else none
  | .int, .bl => some true
  | k0, k => some (decide (k = k0))
def KdV (mg : Str → Option Value) (k : Kd) (u : Value) : Prop := match k with
  | .ob c => ∃ C, mg c = some (.ref C) ∧ u = .ref C
  | .non => False
  | k => u = .type k.nm
def bts : List Kd := [.bl, .int, .str, .tup, .lst]
def bts' : List Kd := [.non, .bl, .int, .str, .tup, .lst]
structure Kits (K : PySem.W.Frag) (mg : Str → Option Value) (cs : List Str) : Prop where
  own : ∀ c ∈ cs, ∃ C, mg c = some (.ref C) ∧ C8.InsC K C
  oo : ∀ c ∈ cs, ∀ c' ∈ cs, ∀ C C', mg c = some (.ref C) → mg c' = some (.ref C') → PySem.W.kitOne K (.ref C) (.ref C') = some (decide (c = c'))
  ob : ∀ c ∈ cs, ∀ C, mg c = some (.ref C) → ∀ k ∈ bts, PySem.W.kitOne K (.ref C) (.type k.nm) = some false
  bo : ∀ c ∈ cs, ∀ C, mg c = some (.ref C) → ∀ k ∈ bts', PySem.W.kitOne K (.type k.nm) (.ref C) = some false
/-- the type's value -/
def KdT (mg : Str → Option Value) (k : Kd) (t : Value) : Prop := match k with
  | .ob c => ∃ C, mg c = some (.ref C) ∧ t = .ref C
  | k => t = .type k.nm
theorem kit_bb : ∀ k ∈ bts', ∀ k0 ∈ bts, kitB k.nm k0.nm = isiA [] k0 k := by decide +kernel
theorem isiA_ok {K : PySem.W.Frag} {mg : Str → Option Value} {cs : List Str} (kt : Kits K mg cs) {k0 k : Kd} {b : Bool} {u t : Value} (hu : KdV mg k0 u) (ht : KdT mg k t) (h : isiA cs k0 k = some b) : PySem.W.kitOne K t u = some b := by
  cases k0 with
  | non => exact hu.elim
  | ob c0 =>
    obtain ⟨C0, h0, rfl⟩ := hu
    cases k with
    | ob c =>
      obtain ⟨C, h1, rfl⟩ := ht
      unfold isiA at h
      simp only at h
      split at h
      · rename_i hc
        cases h
        exact kt.oo c hc.2 c0 hc.1 C C0 h1 h0
      · cases h
    | non => cases ht; simp only [isiA] at h; split at h <;> first | (rename_i hc; cases h; exact kt.bo c0 hc C0 h0 .non (by decide)) | cases h
    | bl => cases ht; simp only [isiA] at h; split at h <;> first | (rename_i hc; cases h; exact kt.bo c0 hc C0 h0 .bl (by decide)) | cases h
    | int => cases ht; simp only [isiA] at h; split at h <;> first | (rename_i hc; cases h; exact kt.bo c0 hc C0 h0 .int (by decide)) | cases h
    | str => cases ht; simp only [isiA] at h; split at h <;> first | (rename_i hc; cases h; exact kt.bo c0 hc C0 h0 .str (by decide)) | cases h
    | tup => cases ht; simp only [isiA] at h; split at h <;> first | (rename_i hc; cases h; exact kt.bo c0 hc C0 h0 .tup (by decide)) | cases h
    | lst => cases ht; simp only [isiA] at h; split at h <;> first | (rename_i hc; cases h; exact kt.bo c0 hc C0 h0 .lst (by decide)) | cases h
  | bl =>
    cases hu
    cases k with
    | ob c => obtain ⟨C, h1, rfl⟩ := ht; simp only [isiA] at h; split at h <;> first | (rename_i hc; cases h; exact kt.ob c hc C h1 .bl (by decide)) | cases h
    | _ => cases ht; exact kit_ty (by rw [kit_bb _ (by decide) .bl (by decide)]; exact h)
  | int =>
    cases hu
    cases k with
    | ob c => obtain ⟨C, h1, rfl⟩ := ht; simp only [isiA] at h; split at h <;> first | (rename_i hc; cases h; exact kt.ob c hc C h1 .int (by decide)) | cases h
    | _ => cases ht; exact kit_ty (by rw [kit_bb _ (by decide) .int (by decide)]; exact h)
  | str =>
    cases hu
    cases k with
    | ob c => obtain ⟨C, h1, rfl⟩ := ht; simp only [isiA] at h; split at h <;> first | (rename_i hc; cases h; exact kt.ob c hc C h1 .str (by decide)) | cases h
    | _ => cases ht; exact kit_ty (by rw [kit_bb _ (by decide) .str (by decide)]; exact h)
  | tup =>
    cases hu
    cases k with
    | ob c => obtain ⟨C, h1, rfl⟩ := ht; simp only [isiA] at h; split at h <;> first | (rename_i hc; cases h; exact kt.ob c hc C h1 .tup (by decide)) | cases h
    | _ => cases ht; exact kit_ty (by rw [kit_bb _ (by decide) .tup (by decide)]; exact h)
  | lst =>
    cases hu
    cases k with
    | ob c => obtain ⟨C, h1, rfl⟩ := ht; simp only [isiA] at h; split at h <;> first | (rename_i hc; cases h; exact kt.ob c hc C h1 .lst (by decide)) | cases h
    | _ => cases ht; exact kit_ty (by rw [kit_bb _ (by decide) .lst (by decide)]; exact h)
theorem isiA_own {cs : List Str} {k0 : Kd} {c : Str} {b : Bool} (h : isiA cs k0 (.ob c) = some b) : c ∈ cs := by
  cases k0 with
  | ob c0 => unfold isiA at h; simp only at h; split at h <;> first | (rename_i hc; exact hc.2) | cases h
  | _ => unfold isiA at h; simp only at h; split at h <;> first | assumption | cases h
theorem ty_of {b : Bs} {S H : Hp} {x : V} {d : D} {k : Kd} {cs : List Str} (kt : Kits b.K b.mg cs) (s : Hsub S H) (hx : RV b S H x d) (hk : d.kd = some k) (ho : ∀ c, k = .ob c → c ∈ cs) : ∃ t, KdT b.mg k t ∧ TyX b.K H x t := by
  cases d with
  | non => cases hk; cases hx; exact ⟨_, rfl, .base .non⟩
  | bl c => cases hk; cases hx; exact ⟨_, rfl, .base (.bl c)⟩
  | int c => cases hk; cases hx; exact ⟨_, rfl, .base (.int c)⟩
  | str c => cases hk; cases hx; exact ⟨_, rfl, .base (.str c)⟩
  | lst ds => cases hk; obtain ⟨a, vs, rfl, p, q⟩ := hx; exact ⟨_, rfl, .base (.lst p)⟩
  | tup ds =>
    cases hk
    obtain ⟨a, vs, rfl, p, q⟩ := hx
    rcases (sqt_mono s p.1) with (h | ⟨o, h⟩) | ⟨o, its, n, h, hc, _⟩
    · exact ⟨_, rfl, .base (.tup h)⟩
    · exact ⟨_, rfl, .fTuple h⟩
    · exact ⟨_, rfl, .kTuple h hc⟩
  | ob c fs =>
    cases hk
    have hx' : Rp b.K b.mg S x (.ob c fs) := hx
    cases hx' with
    | ob h1 h2 h3 =>
      obtain ⟨C, h4, i⟩ := kt.own c (ho c rfl)
      rw [h2] at h4; cases h4
      exact ⟨_, ⟨_, h2, rfl⟩, .base (.ins (s _ _ h1) i.cl i.ha i.hn i.htk i.hm)⟩
  | dic k => cases hk
  | fn x => cases hk
  | lam t cl => cases hk
  | act t ds => cases hk
theorem RV.of' {b : Bs} {S H : Hp} {x : V} {d : D} {p : Addr} {o : HO} (h : RV b S H x d) (hp : H p = none) : RV b S (upd H p o) x d := by
  cases d with
  | lst ds => obtain ⟨a, vs, rfl, p', q⟩ := h; exact ⟨a, vs, rfl, by rw [upd_ne (ne_of_none p' hp)]; exact p', q⟩
  | _ => exact h
def isiD (cs : List Str) (k0 : Kd) (d : D) : Option R := match d.kd with
  | some k => (isiA cs k0 k).map fun b => .va (.bl b)
  | none => none
def isiD2 (cs : List Str) (k0 k1 : Kd) (d : D) : Option R := match d.kd with
  | some k => (match isiA cs k0 k, isiA cs k1 k with
    | some a, some b => some (.va (.bl (a || b)))
    | _, _ => none)
  | none => none
section
variable {b : Bs} {W : WX} {L : Nat} {X : Cx} {p p2 pos tpos : Pos} {e1 e2 e3 : Expr} {fa : M R} {cs : List Str} {x : Str} {k0 k1 : Kd}
/-- a class, written -/
structure ClX (X : Cx) (e : Expr) (k : Kd) : Prop where
  ex : ∃ v u, PE X e (tC v) ∧ ClsV v u ∧ KdV X.mg k u
theorem clx_own {c : Str} {C : Addr} (hm : X.mg c = some (.ref C)) (hg : Gl X c := by rfl) (hd : (c == ("__debug__" : Str)) = false := by decide) : ClX X (.Name c p) (.ob c) := ⟨.ref C, .ref C, pe_glob hg hm rfl hd, .own C, C, hm, rfl⟩
theorem clx_bl (hm : X.mg "bool" = none) (hg : Gl X "bool" := by rfl) : ClX X (.Name "bool" p) .bl := ⟨.ty "bool", .type "bool", pe_bltn hg hm PyProof.Rows.boot_bool rfl, .ty _, rfl⟩
theorem clx_int (hm : X.mg "int" = none) (hg : Gl X "int" := by rfl) : ClX X (.Name "int" p) .int := ⟨.ty "int", .type "int", pe_bltn hg hm PyProof.Rows.boot_int rfl, .ty _, rfl⟩
theorem clx_str (hm : X.mg "str" = none) (hg : Gl X "str" := by rfl) : ClX X (.Name "str" p) .str := ⟨.ty "str", .type "str", pe_bltn hg hm PyProof.Rows.boot_str rfl, .ty _, rfl⟩
theorem clx_tup (hm : X.mg "tuple" = none) (hg : Gl X "tuple" := by rfl) : ClX X (.Name "tuple" p) .tup := ⟨.ty "tuple", .type "tuple", pe_bltn hg hm PyProof.Rows.boot_tuple rfl, .ty _, rfl⟩
theorem clx_lst (hm : X.mg "list" = none) (hg : Gl X "list" := by rfl) : ClX X (.Name "list" p) .lst := ⟨.ty "list", .type "list", pe_bltn hg hm PyProof.Rows.boot_list rfl, .ty _, rfl⟩
theorem pe_isi (o : OKx b L X) (kt : Kits X.K X.mg cs) (ha : PE X e1 (rE b W fa)) (hc : ClX X e2 k0) (hm : X.mg "isinstance" = none) (hg : Gl X "isinstance" := by rfl)
    (hs1 : starEach [e1, e2] X.env = (false, eval e1 X.env) :: starEach [e2] X.env := by rfl) (hs2 : starEach [e2] X.env = (false, eval e2 X.env) :: starEach [] X.env := by rfl) (hpl : (backTo pos (starEach [e2] X.env)).any (·.1) = false := by rfl) :
    PE X (.Call (.Name "isinstance" p) [e1, e2] [] pos) (rE b W (evUn (isiD cs k0) fa)) := by
  obtain ⟨v, u, pe, cv, kv⟩ := hc.ex
  refine PE.weak (pe_callB call_isi hg hm PyProof.Rows.boot_isinstance (pa_cons ha (pa_cons pe pa_nil hs2) hs1) (by decide) (by decide) hs1 hpl) fun σ H Q ⟨b', S, ρ, eb, G, w⟩ => ⟨b', S, ρ, eb, G, ?_⟩
  refine ev1_wp (r := fun x H1 Q => rIsi X.K [x, v] H1 Q) (fun σ S H ρ x d z G hx hz Q q => ?_) w
  unfold isiD at hz
  split at hz
  · rename_i k hk
    obtain ⟨c, h1, rfl⟩ := Option.map_eq_some_iff.mp hz
    have kt' : Kits b'.K b'.mg cs := by rw [eb.1, eb.2, ← o.K, ← o.mg]; exact kt
    obtain ⟨t, ht, ty⟩ := ty_of kt' G.sub hx hk (fun c e => by subst e; exact isiA_own h1)
    rw [o.K, ← eb.1]
    exact ⟨x, v, t, u, c, rfl, cv, ty, isiA_ok kt' (by rw [eb.2, ← o.mg]; exact kv) ht h1, q _ H S (Hsub.refl _) G (Rp.bl _)⟩
  · cases hz
theorem pe_isi2 {kk : Nat} (o : OKx b L X) (kt : Kits X.K X.mg cs) (ha : PE X e1 (rE b W fa)) (hc : ClX X e2 k0) (hc' : ClX X e3 k1) (hm : X.mg "isinstance" = none) (hg : Gl X "isinstance" := by rfl)
    (hs1 : starEach [e1, .Tuple [e2, e3] kk tpos] X.env = (false, eval e1 X.env) :: starEach [.Tuple [e2, e3] kk tpos] X.env := by rfl) (hs2 : starEach [.Tuple [e2, e3] kk tpos] X.env = (false, eval (.Tuple [e2, e3] kk tpos) X.env) :: starEach [] X.env := by rfl)
    (hs3 : starEach [e2, e3] X.env = (false, eval e2 X.env) :: starEach [e3] X.env := by rfl) (hs4 : starEach [e3] X.env = (false, eval e3 X.env) :: starEach [] X.env := by rfl) (hpl : (backTo pos (starEach [.Tuple [e2, e3] kk tpos] X.env)).any (·.1) = false := by rfl) :
    PE X (.Call (.Name "isinstance" p) [e1, .Tuple [e2, e3] kk tpos] [] pos) (rE b W (evUn (isiD2 cs k0 k1) fa)) := by
  obtain ⟨v, u, pe, cv, kv⟩ := hc.ex
  obtain ⟨v', u', pe', cv', kv'⟩ := hc'.ex
  refine PE.weak (pe_callB call_isiT hg hm PyProof.Rows.boot_isinstance (pa_cons ha (pa_cons (pe_tup (pa_cons pe (pa_cons pe' pa_nil hs4) hs3)) pa_nil hs2) hs1) (by decide) (by decide) hs1 hpl) fun σ H Q ⟨b', S, ρ, eb, G, w⟩ => ⟨b', S, ρ, eb, G, ?_⟩
  refine ev1_wp (r := fun x H1 Q => 2 ≤ sizeLine ∧ ∀ p, H1 p = none → rIsiT X.K [x, .ref p] (upd H1 p (.tup [v, v'])) Q) (fun σ S H ρ x d z G hx hz Q q => ⟨by decide, fun p hp => ?_⟩) w
  unfold isiD2 at hz
  split at hz
  · rename_i k hk
    split at hz
    · rename_i c c' h1 h2
      cases hz
      have kt' : Kits b'.K b'.mg cs := by rw [eb.1, eb.2, ← o.K, ← o.mg]; exact kt
      obtain ⟨t, ht, ty⟩ := ty_of kt' (fun x o e => by rw [upd_ne (ne_of_none (G.sub _ _ e) hp)]; exact G.sub _ _ e : Hsub S (upd H p (.tup [v, v']))) (RV.of' hx hp) hk (fun c e => by subst e; exact isiA_own h1)
      rw [o.K, ← eb.1]
      have e1 := isiA_ok kt' (by rw [eb.2, ← o.mg]; exact kv) ht h1
      have e2 := isiA_ok kt' (by rw [eb.2, ← o.mg]; exact kv') ht h2
      refine ⟨x, p, [v, v'], t, [u, u'], c || c', rfl, upd_same, .cons cv (.cons cv' .nil), ty, ?_, q _ _ S (Hsub.refl _) (G.newH hp) (Rp.bl _)⟩
      refine kitAny_cons e1 (fun z => ?_) (fun z => by rw [z]; rfl)
      rw [z]
      refine kitAny_cons e2 (fun z2 => ?_) (fun z2 => by rw [z2]; rfl)
      rw [z2]
      exact kitAny_nil
    · cases hz
  · cases hz
end
end Mc
end
section
set_option Elab.async false
set_option linter.all false
set_option maxRecDepth 100000
set_option maxHeartbeats 4000000
set_option autoImplicit false
namespace Mc
open PySem PySem.Spec L2

/-! ### sorted -/
abbrev EIs {α β : Type} (R : α → β → Prop) := @PySem.W.EachIs α β R
section
variable {prog : Program} {w : World} {A : Around} {E : Value → Shared → Prop} {s : Shared}
abbrev lstO (its : List Value) : Obj := { cls := .type "list", data := .seq its.toArray }
abbrev midH (h1 : Heap) (its : List Value) : Heap := PySem.W.sortingHeap (h1.push (lstO its)) h1.objs.size its
theorem mid_old {h1 : Heap} {its : List Value} {c : Addr} {o : Obj} (e : h1.get? c = some o) : (midH h1 its).get? c = some o := PySem.W.sortingHeap_old (Nat.ne_of_lt (Heap.lt_size e)) (Heap.get?_push_of_some _ e)
theorem sorted_seq {a : Addr} {T : String} {o : Obj} {its : List Value} {n : Nat} {Q : Value → Shared → Prop} (hT : T = "list" ∨ T = "tuple") (ho : s.heap.get? a = some o) (hc : o.cls = .type T) (hd : o.data = .seq its.toArray n) (hz : its.length ≤ sizeLine)
    {ps : List PyData} (er : EIs (fun v d => ∃ as, Reads s.heap v d as) its ps) (hal : PySem.W.AllAlike ps) (hk : PySem.W.Sortable ps) (hu : ∀ d ∈ ps, A.units + 2 + d.depth < cLine)
    (h : ∀ h1 : Heap, (∀ c o', s.heap.get? c = some o' → h1.get? c = some o') → ∀ h2 : Heap, (∀ c o', h1.get? c = some o' → h2.get? c = some o') →
      (∃ e, h2.get? h1.objs.size = some { cls := .type "list", data := .seq (PySem.W.sortVals (PySem.W.dataKind (midH h1 its) ps) false its its).toArray e }) → Q (.ref h1.objs.size) { s with heap := h2 }) :
    wpAny (model prog w) A (call (.builtin "sorted") [.ref a]) Q E s := by
  refine PyProof.Rows.call_function_entry_kw PyProof.Rows.kind_sorted PyProof.Rows.plain_sorted PyProof.Rows.entry_sorted (PyProof.Rows.args_sorted1 _) ?_
  unfold Builtin.«sorted»
  refine wpAny_bind (m := checkCount "sorted" 1 1 _) (wpAny_pure (wpAny_bind (wpAny_collect_seq a hT ho hc hd (fun h1 k1 => ?_) (by rw [List.size_toArray]; exact hz))))
  refine wpAny_bind (wpAny_newList ?_ hz)
  have at0 : (h1.push (lstO its)).get? h1.objs.size = some (lstO its) := Heap.get?_push_size _ rfl
  refine wpAny_bind (wpAny_holding (PyProof.Rows.wpAny_call_entry_kw PyProof.Rows.slot_list_sort ⟨_, at0, rfl⟩ PyProof.Rows.entry_list_sort ?body (PyProof.Rows.args_list_sort _)))
  case body =>
    have er2 : EIs (fun v d => ∃ as, Reads (midH h1 its) v d as) its ps := er.mono fun _ _ ⟨as, r⟩ => ⟨as, PyProof.Rows.Reads.keeps (fun c o e => mid_old (k1 c o e)) r⟩
    have S := PySem.W.SortsAt.data (prog := prog) (w := w) (A := A.in1.in1) (s := { s with heap := midH h1 its }) er2 hal hk (fun d hd => by have := hu d hd; show A.units + 1 + 1 + d.depth < cLine; omega)
    refine wpAny_mono (PySem.W.list_sort_vals (P := fun f s' => f = .done (.ret .none) ∧ Q (.ref h1.objs.size) s') (s := { s with heap := h1.push (lstO its) }) (A := A.in1.in1) (n := 0) at0 S hz ⟨rfl, ?_⟩) (fun f s' hf => ?_) fun _ _ e => e
    · refine h h1 k1 _ (fun c o e => ?_) (PyProof.Rows.sortedHeap_at (n := 0) at0)
      rw [PyProof.Rows.sortedHeap_old (Nat.ne_of_lt (Heap.lt_size e)) (by rw [Heap.size_push]; exact Nat.lt_succ_of_lt (Heap.lt_size e))]
      exact Heap.get?_push_of_some _ e
    · obtain ⟨rfl, hq⟩ := hf
      exact ⟨_, rfl, wpAny_pure ⟨_, rfl, hq⟩⟩
end
/-- the values with what they read as, sorted -/
abbrev pLe {α : Type} : α × PyData → α × PyData → Bool := fun p q => !PySem.W.dataLt q.2 p.2
def srt {α : Type} (xs : List α) (ps : List PyData) : List α := ((xs.zip ps).mergeSort pLe).map (·.1)
def srtOk (ps : List PyData) : Bool := (ps.all fun p => ps.all fun q => PySem.W.alike p q) && ((ps.all fun p => match p with | .tuple (_ :: _) => true | _ => false) || ps.all fun p => match p with | .none => false | .tuple _ => false | _ => true) && ps.all fun p => decide (p.depth ≤ 64)
theorem srtOk_of {ps : List PyData} (h : srtOk ps = true) : PySem.W.AllAlike ps ∧ PySem.W.Sortable ps ∧ ∀ p ∈ ps, p.depth ≤ 64 := by
  unfold srtOk at h
  obtain ⟨h, h3⟩ := Bool.and_eq_true_iff.mp h
  obtain ⟨h1, h2⟩ := Bool.and_eq_true_iff.mp h
  refine ⟨fun d hd d' hd' => List.all_eq_true.mp (List.all_eq_true.mp h1 d hd) d' hd', ?_, fun p hp => of_decide_eq_true (List.all_eq_true.mp h3 p hp)⟩
  rcases Bool.or_eq_true_iff.mp h2 with z | z
  · refine Or.inl fun d hd => ?_
    have q := List.all_eq_true.mp z d hd
    split at q
    · exact ⟨_, _, rfl⟩
    · cases q
  · refine Or.inr fun d hd => ?_
    have q := List.all_eq_true.mp z d hd
    split at q
    · cases q
    · cases q
    · rename_i n1 n2; exact ⟨n1, fun xs e => n2 xs e⟩
theorem srt_map {α β : Type} (f : α → β) (xs : List α) (ps : List PyData) : (srt xs ps).map f = srt (xs.map f) ps := by
  unfold srt
  have e : (xs.map f).zip ps = (xs.zip ps).map fun p => (f p.1, p.2) := by
    have z : (xs.map f).zip (ps.map id) = (xs.zip ps).map (Prod.map f id) := List.zip_map
    rw [List.map_id] at z
    rw [z]
    rfl
  rw [e, ← List.map_mergeSort (r := pLe) (s := pLe) (f := fun p : α × PyData => (f p.1, p.2)) (fun a _ b _ => rfl), List.map_map, List.map_map]
  rfl
theorem vals_each {vs : List V} {its : List Value} {ps : List PyData} (r : Vals vs its) (hl : ps.length = vs.length) : EIs (fun (v : Value) (p : V × PyData) => RelV p.1 v) its (vs.zip ps) := by
  induction r generalizing ps with
  | nil => exact .nil
  | cons h t ih =>
    cases ps with
    | nil => cases hl
    | cons p ps => exact .cons h (ih (by simpa using hl))
theorem each_vals {its : List Value} {bs : List (V × PyData)} (h : EIs (fun (v : Value) (p : V × PyData) => RelV p.1 v) its bs) : Vals (bs.map (·.1)) its := by
  induction h with
  | nil => exact .nil
  | cons h _ ih => exact .cons h ih
theorem reads_each {h : Heap} : ∀ {vs : List V} {its : List Value} {ps : List PyData} {as : List Addr}, ReadsAll h its ps as → vs.length = its.length → EIs (fun (v : Value) (p : V × PyData) => ∃ as, Reads h v p.2 as) its (vs.zip ps)
  | [], [], _, _, .nil, _ => .nil
  | v :: vs, _ :: _, _, _, .cons r rs, hl => .cons ⟨_, r⟩ (reads_each rs (by simpa using hl))
theorem reads_each' {h : Heap} : ∀ {its : List Value} {ps : List PyData} {as : List Addr}, ReadsAll h its ps as → EIs (fun v d => ∃ as, Reads h v d as) its ps
  | _, _, _, .nil => .nil
  | _, _, _, .cons r rs => .cons ⟨_, r⟩ (reads_each' rs)
def rSrt (K : PySem.W.Frag) : List V → Hp → VK → Prop := fun vs H Q => ∃ a xs ps, vs = [V.ref a] ∧ SqA K H a xs ∧ DpAll K H xs ps ∧ srtOk ps = true ∧ ∀ p, H p = none → Q (.ref p) (upd H p (.lst (srt xs ps)))
theorem srt_length {α : Type} (xs : List α) (ps : List PyData) (h : ps.length = xs.length) : (srt xs ps).length = xs.length := by
  unfold srt
  rw [List.length_map, List.length_mergeSort, List.length_zip, h, Nat.min_self]
section
variable {b : Bs} {L : Nat} {X : Cx}
theorem cr_srt (o : OKx b L X) : CallR X (.builtin "sorted") (rSrt X.K) := by
  intro pins s σ H vs us Q I r ⟨a, xs, ps, hv, hs, hd, ok, q⟩
  subst hv
  rw [Vals.ref1 r]
  obtain ⟨h1, h2, h3⟩ := srtOk_of ok
  have hu : ∀ d ∈ ps, X.A.units + 2 + d.depth < cLine := fun d hd => by have := o.un; have := h3 d hd; omega
  have key : ∀ {T : String} {ob : Obj} {its : List Value} {n : Nat}, (T = "list" ∨ T = "tuple") → s.heap.get? a = some ob → ob.cls = .type T → ob.data = .seq its.toArray n → Vals xs its → xs.length ≤ sizeLine → wpAny (model X.prog X.w) X.A (call (.builtin "sorted") [.ref a]) (EP X pins σ Q) X.xe s := by
    intro T ob its n hT ho hc hdt rv hz
    obtain ⟨as, hr⟩ := Dp.readsAll I ps xs its hd rv
    have hl := rv.length
    have hlp : ps.length = xs.length := by rw [ReadsAll.len' hr, hl]
    refine sorted_seq hT ho hc hdt (by omega) (reads_each' hr) h1 h2 hu fun hp1 k1 hp2 k2 ⟨e, he⟩ => ?_
    have er : EIs (fun (v : Value) (p : V × PyData) => ∃ as, Reads (midH hp1 its) v p.2 as) its (xs.zip ps) := (reads_each (vs := xs) hr hl).mono fun _ _ ⟨as, r⟩ => ⟨as, PyProof.Rows.Reads.keeps (fun c o e => mid_old (k1 c o e)) r⟩
    have em : (xs.zip ps).map (·.2) = ps := by rw [List.map_snd_zip]; omega
    have S := PySem.W.sortVals_data (h' := midH hp1 its) (R := fun (v : Value) (p : V × PyData) => RelV p.1 v) (enc := fun p : V × PyData => p.2) false (vals_each rv hlp) er (by rw [em]; exact h1)
    rw [em] at S
    have S2 : Vals (srt xs ps) (PySem.W.sortVals (PySem.W.dataKind (midH hp1 its) ps) false its its) := each_vals S
    have I1 : Inv X pins σ H { s with heap := hp1 } := I.kept (t' := s.toks) k1
    exact ⟨.ref hp1.objs.size, _, I1.laid (t' := s.toks) (o := .lst (srt xs ps)) k2 (Nat.le_refl _) ⟨by rw [srt_length xs ps hlp]; exact hz, _, e, S2, he⟩, rfl, q _ (I1.hok.fresh (Nat.le_refl _))⟩
  rcases hs with hs | hs
  · obtain ⟨its, rv, ⟨ob, n, ho, hc, _, hdt⟩, hz⟩ := I.list hs
    exact key (Or.inl rfl) ho hc hdt rv hz
  · obtain ⟨its, rv, ⟨ob, ho, hc, n, hdt⟩, hz⟩ := I.tuple hs
    exact key (Or.inr rfl) ho hc hdt rv hz
end
def srtD (ds : List D) : Option R := match sqDs ds with
  | some xs => (match D.pys xs with
    | some ps => if srtOk ps = true then some (.ow (srt xs ps)) else none
    | none => none)
  | none => none
theorem pys_length : ∀ {xs : List D} {ps : List PyData}, D.pys xs = some ps → ps.length = xs.length
  | [], _, h => by simp only [D.pys] at h; cases h; rfl
  | x :: xs, _, h => by
    simp only [D.pys] at h
    split at h
    · rename_i y ys h1 h2
      cases h
      simp only [List.length_cons, pys_length h2]
    · cases h
theorem Rps.srt {K : PySem.W.Frag} {mg : Str → Option Value} {S : Hp} {vs : List V} {ds : List D} {ps : List PyData} (r : Rps K mg S vs ds) : Rps K mg S (Mc.srt vs ps) (Mc.srt ds ps) := by
  have hl := Rps.length r
  have e1 : vs = (vs.zip ds).map (·.1) := by rw [List.map_fst_zip]; omega
  have e2 : ds = (vs.zip ds).map (·.2) := by rw [List.map_snd_zip]; omega
  have all : ∀ p ∈ vs.zip ds, Rp K mg S p.1 p.2 := by
    clear e1 e2 hl
    induction vs generalizing ds with
    | nil => intro p hp; simp at hp
    | cons v vs ih =>
      intro p hp
      cases r with
      | cons r1 r2 =>
        rw [List.zip_cons_cons] at hp
        rcases List.mem_cons.mp hp with rfl | hp
        · exact r1
        · exact ih r2 p hp
  have mem : ∀ p ∈ Mc.srt (vs.zip ds) ps, p ∈ vs.zip ds := by
    intro p hp
    unfold Mc.srt at hp
    obtain ⟨q, hq, rfl⟩ := List.mem_map.mp hp
    exact (List.of_mem_zip ((List.mem_mergeSort).mp hq)).1
  have fin : ∀ l : List (V × D), (∀ p ∈ l, Rp K mg S p.1 p.2) → Rps K mg S (l.map (·.1)) (l.map (·.2)) := by
    intro l
    induction l with
    | nil => intro _; exact .nil
    | cons p l ih => intro h; exact .cons (h p (by simp)) (ih fun q hq => h q (by simp [hq]))
  have z := fin _ fun p hp => all p (mem p hp)
  rw [srt_map, srt_map, ← e1, ← e2] at z
  exact z
theorem sem_srt {K : PySem.W.Frag} : SemB K srtD (rSrt K) := by
  intro b eb σ S H ρ xs ds z G h hg Q q
  subst eb
  unfold srtD at hg
  split at hg
  · rename_i ys hy
    obtain ⟨a, us, rfl, h1, r1⟩ := rv_sq G h hy
    split at hg
    · rename_i ps hp
      split at hg
      · rename_i ok
        cases hg
        exact ⟨a, us, ps, rfl, h1, Rps.dp _ _ _ (Rps.mono G.sub _ _ r1) hp, ok, fun p hp => q _ _ S (Hsub.refl _) (G.newH hp) (RR.new G hp (Rps.srt r1))⟩
      · cases hg
    · cases hg
  · cases hg
end Mc
end
section
set_option Elab.async false
set_option linter.all false
set_option maxRecDepth 100000
set_option maxHeartbeats 4000000
set_option autoImplicit false
namespace Mc
open PySem PySem.Spec L2

/-! ### own classes -/
abbrev CTab := List (Str × List Str)
def hasF (ct : CTab) (c f : Str) : Bool := match ct.lookup c with
  | some fl => fl.contains f
  | none => false
structure CTok (K : PySem.W.Frag) (mg : Str → Option Value) (ct : CTab) : Prop where
  ex : ∀ c f, hasF ct c f = true → ∃ C, mg c = some (.ref C) ∧ Cls K C ∧ NoAttr K C f
theorem Rpf.lookup {K : PySem.W.Frag} {mg : Str → Option Value} {S : Hp} {f : Str} {d : D} : ∀ {fs : List (Str × D)} {fv : List (Str × V)}, Rpf K mg S fv fs → fs.lookup f = some d → ∃ v, fv.lookup f = some v ∧ Rp K mg S v d
  | [], _, r, h => by simp at h
  | (g, e) :: fs, _, r, h => by
    cases r with
    | cons r1 r2 =>
      rw [List.lookup_cons] at h ⊢
      cases hg : (f == g) with
      | true => rw [hg] at h; cases h; exact ⟨_, rfl, r1⟩
      | false => rw [hg] at h; exact Rpf.lookup r2 h
def putD (f : Str) (d : D) : List (Str × D) → List (Str × D)
  | [] => [(f, d)]
  | (g, e) :: r => if g = f then (g, d) :: r else (g, e) :: putD f d r
theorem Rpf.put {K : PySem.W.Frag} {mg : Str → Option Value} {S : Hp} {f : Str} {v : V} {d : D} (h : Rp K mg S v d) : ∀ {fs : List (Str × D)} {fv : List (Str × V)}, Rpf K mg S fv fs → Rpf K mg S (putF f v fv) (putD f d fs)
  | [], _, r => by cases r; exact .cons h .nil
  | (g, e) :: fs, _, r => by
    cases r with
    | cons r1 r2 =>
      unfold putD putF
      by_cases hg : g = f
      · rw [if_pos hg, if_pos hg]; exact .cons h r2
      · rw [if_neg hg, if_neg hg]; exact .cons r1 (Rpf.put h r2)
theorem Rpf.length {K : PySem.W.Frag} {mg : Str → Option Value} {S : Hp} : ∀ {fs : List (Str × D)} {fv : List (Str × V)}, Rpf K mg S fv fs → fv.length = fs.length
  | [], _, r => by cases r; rfl
  | _ :: fs, _, r => by cases r with | cons r1 r2 => simp only [List.length_cons, Rpf.length r2]
def fldD (ct : CTab) (f c : Str) (fs : List (Str × D)) : Option R := if hasF ct c f = true then (fs.lookup f).map .va else none
def evFld (ct : CTab) (f : Str) (fa : M R) : M R := M.bnd (frzM fa) fun r ρ => match r with
  | .va (.ob c fs) => M.lift (fldD ct f c fs) ρ
  | .sl i => (match ρ[i]? with
    | some (.pn (.ob c fs)) => M.lift (fldD ct f c fs) ρ
    | _ => none)
  | _ => none
section
variable {b : Bs} {W : WX} {L k n : Nat} {X : Cx} {p p1 p2 pos pos' : Pos} {e1 e2 : Expr} {es : List Expr} {fa fb : M R} {fs : M (List R)} {ct : CTab} {f x c : Str}
theorem fldD_some {f c : Str} {fs : List (Str × D)} {z : R} (h : fldD ct f c fs = some z) : hasF ct c f = true ∧ ∃ d, fs.lookup f = some d ∧ z = .va d := by
  unfold fldD at h
  split at h
  · rename_i hf
    obtain ⟨d, hd, rfl⟩ := Option.map_eq_some_iff.mp h
    exact ⟨hf, d, hd, rfl⟩
  · cases h
theorem pe_fldM (o : OKx b L X) (ok : CTok X.K X.mg ct) (ha : PE X e1 (rE b W fa)) (hb : attributeBase e1 f X.env (eval e1 X.env) = eval e1 X.env := by rfl) : PE X (.Attribute e1 f pos) (rE b W (evFld ct f fa)) := by
  refine PE.weak (pe_fld ha hb) fun σ H Q ⟨b', S, ρ, eb, G, w⟩ => ⟨b', S, ρ, eb, G, ?_⟩
  refine Wp.frz (K := fun x H1 => ∃ a C dx fs v, x = .ref a ∧ H1 a = some (.ins C dx fs) ∧ Cls X.K C ∧ NoAttr X.K C f ∧ fs.lookup f = some v ∧ Q v H1) w fun S1 H1 ρ1 r v s1 G1 f1 w1 => ?_
  have em : X.mg = b'.mg := by rw [o.mg, eb.2]
  cases r with
  | ow ds => exact wp_none rfl w1
  | va d =>
    cases d with
    | ob c fs =>
      cases hz : fldD ct f c fs with
      | none => exact wp_none (by simp only [hz, M.lift]) w1
      | some z =>
        obtain ⟨hf, d, hd, rfl⟩ := fldD_some hz
        obtain ⟨C, h1, h2, h3⟩ := ok.ex c f hf
        have f1' : Rp b'.K b'.mg S1 v (.ob c fs) := f1
        cases f1' with
        | ob q1 q2 q3 =>
          rw [← em, h1] at q2
          cases q2
          obtain ⟨u, hu, ru⟩ := Rpf.lookup q3 hd
          exact ⟨_, _, _, _, u, rfl, G1.sub _ _ q1, h2, h3, hu, wp_ok (a := R.va d) (by simp only [hz, M.lift]) w1 (Hsub.refl _) G1 u ru⟩
    | _ => exact wp_none rfl w1
  | sl i =>
    cases hi : ρ1[i]? with
    | none => exact wp_none (by simp only [hi]) w1
    | some s =>
      cases s with
      | pn m =>
        cases m with
        | pen _ => exact wp_none (by simp only [hi]) w1
        | ob c fs =>
          cases hz : fldD ct f c fs with
          | none => exact wp_none (by simp only [hi, hz, M.lift]) w1
          | some z =>
            obtain ⟨hf, d, hd, rfl⟩ := fldD_some hz
            obtain ⟨C, h1, h2, h3⟩ := ok.ex c f hf
            obtain ⟨a, dx, e1, ⟨_, C', fv, q1, q2, q3⟩, _⟩ := G1.sl i _ hi
            have hv : σ[i]? = some (some v) := f1
            have e2 := hv.symm.trans e1
            cases e2
            rw [← em, h1] at q2
            cases q2
            obtain ⟨u, hu, ru⟩ := Rpf.lookup q3 hd
            exact ⟨a, _, _, _, u, rfl, q1, h2, h3, hu, wp_ok (a := R.va d) (by simp only [hi, hz, M.lift]) w1 (Hsub.refl _) G1 u ru⟩
      | _ => exact wp_none (by simp only [hi]) w1

/-! ### self.f = e -/
def evSelf (ct : CTab) (i : Nat) (f : Str) (fa : M R) : M Fl := M.bnd (frzM fa) fun r => M.bnd (frzS r) fun d ρ => match ρ[i]? with
  | some (.pn (.ob c fs)) => if (hasF ct c f && decide (fs.length < 1000)) = true then some (.ok .nx (ρ.set i (.pn (.ob c (putD f d fs))))) else none
  | _ => none
theorem s_self (i : Nat) (o : OKx b L X) (ok : CTok X.K X.mg ct) (ha : PE X e1 (rE b W fa)) (hN : X.N[i]? = some x := by rfl) (hv : Vis X.env.scope x := by first | exact Or.inl rfl | exact Or.inr (Or.inl rfl) | exact Or.inr (Or.inr rfl)) (hd : (x == ("__debug__" : Str)) = false := by decide)
    (hcd : (x == ("__classdict__" : Str)) = false := by decide) (hs : swapsWith e1 (some (.Attribute (.Name x p1) f pos')) pos.line X.env = pure false := by rfl) : PS X (.Assign [.Attribute (.Name x p1) f pos'] e1 pos) (rS b W (evSelf ct i f fa)) := by
  refine PS.weak (ps_fld (pe_var hN hv hd hcd) ha hs) fun D σ H ⟨b', S, ρ, eb, G, w⟩ => ⟨b', S, ρ, eb, G, ?_⟩
  have em : X.mg = b'.mg := by rw [o.mg, eb.2]
  refine Wp.frz0 (K := fun y H1 => tVar i σ H1 fun x H2 => ∃ a C dx fs, x = .ref a ∧ H2 a = some (.ins C dx fs) ∧ Cls X.K C ∧ NoAttr X.K C f ∧ fs.length < 1000 ∧ D.nx σ (upd H2 a (.ins C dx (putF f y fs)))) (WpS.bind (σ := σ) (H := H) (f := frzM fa) w) fun S1 H1 ρ1 r v s1 G1 f1 w1 => ?_
  obtain ⟨S2, ρ2, d, s2, G2, r2, w2⟩ := Wp.frzS G1 f1 (WpS.bind (σ := σ) (H := H1) w1)
  cases hi : ρ2[i]? with
  | none => exact wps_none (by simp only [hi]) w2
  | some s =>
    cases s with
    | pn m =>
      cases m with
      | pen _ => exact wps_none (by simp only [hi]) w2
      | ob c fs =>
        cases hc : (hasF ct c f && decide (fs.length < 1000)) with
        | false => exact wps_none (by simp only [hi, hc]; rfl) w2
        | true =>
          simp only [hi, hc, if_true] at w2
          obtain ⟨hf, hl⟩ := Bool.and_eq_true_iff.mp hc
          obtain ⟨C, h1, h2, h3⟩ := ok.ex c f hf
          obtain ⟨a, dx, e1, ⟨q0, C', fv, q1, q2, q3⟩, e5⟩ := G2.sl i _ hi
          rw [← em, h1] at q2
          cases q2
          have na : ∀ {x : Addr} {o : HO}, S2 x = some o → x ≠ a := fun {x o} q z => by subst z; rw [q0] at q; cases q
          refine ⟨.ref a, e1, a, C, dx, fv, rfl, q1, h2, h3, by rw [Rpf.length q3]; exact of_decide_eq_true hl, ?_⟩
          refine w2 σ S2 _ (Hsub.refl _) (G2.step hi e1 (Hsub.refl _) (fun x o q => by rw [upd_ne (na q)]; exact G2.sub _ _ q) (fun x o q n => by rw [upd_ne n]; exact q) (fun j d w => (G2.ownat w).2) G2.n0 (fun x q => ?_) e5 (p' := .ob c (putD f d fs)) ⟨q0, C, _, upd_same, by rw [← em]; exact h1, Rpf.put r2 q3⟩ (fun P q e => (G2.tab P q e).2.2))
          by_cases h : x = a
          · subst h; rw [upd_same] at q; cases q
          · rw [upd_ne h] at q; exact q
    | _ => exact wps_none (by simp only [hi]) w2

/-! ### C(..) -/
def mkK (c : Str) (F : Mo → List D → Option (DRes × Mo)) (rs : List R) : M R := fun ρ => match frzSs rs ρ with
  | some (.ok ds ρ1) => (match F (.ob c []) ds with
    | some (.va .non, .ob c' fs) => if c' = c then some (.ok (.va (.ob c fs)) ρ1) else none
    | some (.er x, _) => some (.er x ρ1)
    | _ => none)
  | _ => none
def evMake (c : Str) (F : Mo → List D → Option (DRes × Mo)) (fs : M (List R)) : M R := M.bnd fs fun rs => mkK c F rs
theorem run_mk {CX : CXT} {C f : Addr} {fd : FuncData} {ps : List Str} {sp : Sp} {E : L2.St → XK} {pins : List (Addr × Obj)} {σ : L2.St} {H : Hp} {s : Shared} {Q : VK} {us : List Value} {vs : List V} (Mk' : Mk X.K C f) (F : FnOk X.prog X.w X.K X.mg X.base CX k f fd ps sp) (hr : Room (k + 1) X.A) (hb : Binds X.K fd ps [])
    (hx : PassesAt CX X σ (E σ)) (I : Inv X pins σ H s) (r : Vals vs us) (h : ∀ x dx, H x = none → H dx = none → dx ≠ x → sp (.ref x :: vs) (upd (upd H dx (.own x)) x (.ins C dx [])) (fun v H2 => v = .non ∧ Q (.ref x) H2) (E σ)) :
    wpAny (model X.prog X.w) X.A (call (.ref C) us) (EP X pins σ Q) X.xe s := by
  have sz := s.heap.objs.size
  have hq := h (s.heap.objs.size + 1) s.heap.objs.size (I.hok.fresh (Nat.le_succ _)) (I.hok.fresh (Nat.le_refl _)) (Nat.ne_of_lt (Nat.lt_succ_self _))
  have J := Inv.made (C := C) I
  have r2 : Vals (V.ref (s.heap.objs.size + 1) :: vs) (Value.ref (s.heap.objs.size + 1) :: us) := .cons rfl r
  have hl : (Value.ref (s.heap.objs.size + 1) :: us).length = ps.length := by rw [← r2.length]; exact F.len _ _ _ _ hq
  have hbi := hb _ (Value.ref (s.heap.objs.size + 1) :: us) J.kIn (by rw [List.append_nil]; exact hl)
  rw [List.append_nil] at hbi
  refine wpAny_call (make_map (f := f) I.kIn Mk'.makes Mk'.init (beq_iff_eq.mp Mk'.fn) (codeAny_mono (F.run _ X.stack _ _ ⟨Value.ref (s.heap.objs.size + 1) :: us, []⟩ _ _ _ (E σ) (hr.make C us []) (J.env0.make C us []) hbi r2 hq) fun r s' hq' => ?_))
  cases r with
  | error e => exact hx pins _ _ e s' J hq'
  | ok fl =>
    cases fl with
    | ret u =>
      obtain ⟨v, H', I3, rv, ev, q3⟩ := J.after hq'
      subst ev
      exact ⟨rv, ⟨V.ref (s.heap.objs.size + 1), H', I3, rfl, q3⟩⟩
    | next => exact False.elim hq'
    | brk => exact False.elim hq'
    | cont => exact False.elim hq'
def tMk (C : Addr) (sp : Sp) (E : L2.St → XK) (t : TA) : TE := fun σ H Q => t σ H fun vs H1 => ∀ x dx, H1 x = none → H1 dx = none → dx ≠ x → sp (.ref x :: vs) (upd (upd H1 dx (.own x)) x (.ins C dx [])) (fun v H2 => v = .non ∧ Q (.ref x) H2) (E σ)
theorem pe_mkS {CX : CXT} {C f : Addr} {fd : FuncData} {ps : List Str} {sp : Sp} {E : L2.St → XK} {t : TA} (Mk' : Mk X.K C f) (F : FnOk X.prog X.w X.K X.mg X.base CX k f fd ps sp) (hr : Room (k + 1) X.A) (hg : Gl X x) (hm : X.mg x = some (.ref C)) (hb : Binds X.K fd ps []) (hx : ∀ σ, PassesAt CX X σ (E σ))
    (ha : PA X (e1 :: es) t) (hdb : (x == ("__debug__" : Str)) = false := by decide) (he : starEach (e1 :: es) X.env = (false, eval e1 X.env) :: starEach es X.env := by rfl) (hpl : (backTo pos (starEach es X.env)).any (·.1) = false := by rfl) :
    PE X (.Call (.Name x p) (e1 :: es) [] pos) (tMk C sp E t) := by
  refine ⟨fun pins s σ H Q I h => wpAny_Call_Name_kw (ld_glob I hg hm ?_ hdb)⟩
  exact PySem.W.callWith_K (h₀ := X.base) I.ok.mod.kin Mk'.kp (thn (ha.run pos pins s σ H _ I h) fun us s1 ⟨vs, H1, I1, r, q⟩ => ⟨I1.kIn, run_mk Mk' F hr hb (hx σ) I1 r q⟩) he hpl
/-- a class and its __init__ -/
structure DnC (P : Program) (w : World) (K : PySem.W.Frag) (mg : Str → Option Value) (base : Heap) (c : Str) (k n : Nat) (F : Mo → List D → Option (DRes × Mo)) : Prop where
  ex : ∃ C f fd ps, mg c = some (.ref C) ∧ Mk K C f ∧ Binds K fd ps [] ∧ FnOk P w K mg base (L2.CX P w) k f fd ps (spN K mg n F)
theorem mk_wp {n : Nat} {F : Mo → List D → Option (DRes × Mo)} {rs : List R} {vs : List V} {Q : VK} {σ : L2.St} {S H : Hp} {ρ : ES} {C x dx : Addr} (hm : b.mg c = some (.ref C)) (hn : rs.length = n) (G : Good b σ S H ρ) (h : RFs b σ S vs rs) (hx : H x = none) (hdx : H dx = none) (hne : dx ≠ x)
    (w : Wp b W σ (mkK c F rs) S H ρ fun S' H' ρ' r => ∀ v, RR b σ S' H' ρ' v r → Q v H') : spN b.K b.mg n F (.ref x :: vs) (upd (upd H dx (.own x)) x (.ins C dx [])) (fun v H2 => v = .non ∧ Q (.ref x) H2) (WE W σ) := by
  have hl : vs.length = n := by
    rw [← hn]
    clear hn w
    induction h with
    | nil => rfl
    | cons _ _ ih => simp only [List.length_cons, ih]
  refine ⟨by rw [List.length_cons, hl], ?_⟩
  unfold Wp WpO mkK at w
  cases e : frzSs rs ρ with
  | none => rw [e] at w; exact w.elim
  | some z =>
    rw [e] at w
    cases z with
    | er x ρ' => exact w.elim
    | ok ds ρ1 =>
      have wy : Wp b WF σ (frzSs rs) S H ρ fun _ _ ρ' d => ρ' = ρ1 ∧ d = ds := by
        unfold Wp WpO
        rw [e]
        exact fun _ _ _ _ => ⟨rfl, rfl⟩
      obtain ⟨S1, ρ', ds', s1, G1, r1, q1, q2⟩ := Wp.frzSs G h wy
      subst q1 q2
      simp only at w
      have up : ∀ {a : Addr} {o : HO}, H a = some o → upd (upd H dx (.own x)) x (.ins C dx []) a = some o := fun {a o} e => by rw [upd_ne (ne_of_none e hx), upd_ne (ne_of_none e hdx)]; exact e
      have hS1 : S1 x = none := G1.sn hx
      refine ⟨S1, x, dx, .ob c [], vs, ds', rfl, fun a o e => up (G1.sub _ _ e), ⟨hS1, C, [], upd_same, hm, .nil⟩, r1, ?_⟩
      have post : ∀ {S' H' S''}, Post (fun y => y = x) S1 (upd (upd H dx (.own x)) x (.ins C dx [])) S' H' → Hsub S' S'' → Hsub S'' H' → (∀ a, S'' a ≠ none → a = x ∨ S' a ≠ none) → Post (fun _ => False) S1 H S'' H' := fun {S' H' S''} po u1 u2 u3 =>
        ⟨po.s.trans u1, u2, fun a o e _ => po.keep a o (up e) (ne_of_none e hx), (fun a e => by
          rcases u3 a e with z | z
          · subst z; exact Or.inr hx
          · rcases po.new a z with y | y
            · exact Or.inl y
            · cases q : H a with
              | none => exact Or.inr rfl
              | some o => rw [up q] at y; cases y), fun a e => by
          cases q : H a with
          | none => rfl
          | some o =>
            have := po.there a e
            rw [up q] at this; cases this⟩
      cases hF : F (.ob c []) ds' with
      | none => rw [hF] at w; exact w.elim
      | some rp =>
        obtain ⟨r, m'⟩ := rp
        rw [hF] at w
        cases r with
        | er ex => exact fun S' H' cls d po pn hx' => w S' H' cls d (s1.trans po.s) (G1.post (post po (Hsub.refl _) po.sub fun a e => Or.inr e)) (hx'.imp fun a z => G1.f0 a (by
          cases q : H a with
          | none => rfl
          | some u => rw [up q] at z; cases z))
        | ow es => cases m' <;> exact w.elim
        | va d =>
          cases d with
          | non =>
            cases m' with
            | pen _ => exact w.elim
            | ob c' fs =>
              simp only at w
              by_cases hc : c' = c
              · rw [if_pos hc] at w
                intro S' H' v po ⟨q0, C', fv, q1, q2, q3⟩ hv
                cases hv
                refine ⟨rfl, ?_⟩
                have G2 := G1.post (post (S'' := upd S' x (.ins C' dx fv)) po (Hsub.new q0) (fun a o e => by
                  by_cases z : a = x
                  · subst z; rw [upd_same] at e; cases e; exact q1
                  · rw [upd_ne z] at e; exact po.sub _ _ e) (fun a e => by
                  by_cases z : a = x
                  · exact Or.inl z
                  · rw [upd_ne z] at e; exact Or.inr e))
                exact w _ H' (s1.trans (po.s.trans (Hsub.new q0))) G2 _ (.ob upd_same (by rw [← hc]; exact q2) (Rpf.mono (Hsub.new q0) _ _ q3))
              · rw [if_neg hc] at w; exact w.elim
          | _ => cases m' <;> exact w.elim
theorem pe_mk {F : Mo → List D → Option (DRes × Mo)} (d : DnC X.prog X.w X.K X.mg X.base c k n F) (o : OKx b L X) (tk : Takes X W) (ha : PA X (e1 :: es) (rAr b W fs)) (hk : k + 1 ≤ L := by decide) (hg : Gl X c := by rfl) (hdb : (c == ("__debug__" : Str)) = false := by decide)
    (he : starEach (e1 :: es) X.env = (false, eval e1 X.env) :: starEach es X.env := by rfl) (hpl : (backTo pos (starEach es X.env)).any (·.1) = false := by rfl) : PE X (.Call (.Name c p) (e1 :: es) [] pos) (rE b W (evMake c F (evN n fs))) := by
  obtain ⟨C, f, fd, ps, hm, M', hb, Fk⟩ := d.ex
  refine PE.weak (pe_mkS (E := WE W) M' Fk (o.rm.mono hk) hg hm hb (fun σ => passAt tk σ) ha hdb he hpl) fun σ H Q ⟨b', S, ρ, eb, G, w⟩ => ⟨b', S, ρ, eb, G, ?_⟩
  refine Wp.mono (Wp.bind (f := fs) (Wp.bind w)) fun S1 H1 ρ1 rs s1 G1 q vs hvs x dx hx hdx hne => ?_
  have h2 : rs.length = n := by
    by_cases h : rs.length = n
    · exact h
    · exact wp_none (if_neg h) q
  have q2 := wp_ok (a := rs) (if_pos h2) q (Hsub.refl _) G1
  have := mk_wp (C := C) (by rw [eb.2, ← o.mg]; exact hm) h2 G1 hvs hx hdx hne q2
  rw [o.K, o.mg, ← eb.1, ← eb.2]
  exact this
end
end Mc
end
section
set_option Elab.async false
set_option linter.all false
set_option maxRecDepth 100000
set_option maxHeartbeats 4000000
set_option autoImplicit false
namespace Mc
open PySem PySem.Spec L2

/-! ### ==, != of own instances -/
abbrev OTab := List (Str × (List D → Option DRes))
structure OpT (P : Program) (w : World) (K : PySem.W.Frag) (mg : Str → Option Value) (base : Heap) (nm : Str) (k : Nat) (T : OTab) : Prop where
  ex : ∀ c F, T.lookup c = some F → ∃ C f fd ps, mg c = some (.ref C) ∧ PySem.W.findIn K (.ref C) nm = some (some (.ref f)) ∧ PySem.W.isFn K (.ref f) = true ∧ Binds K fd ps [] ∧ FnOk P w K mg base (L2.CX P w) k f fd ps (spP K mg 2 F)
def rOwnX (X : Cx) (nm : Str) (k : Nat) : R2 := fun x y H Q => ∃ (C f : Addr) (fd : FuncData) (ps : List Str) (F : List D → Option DRes) (a dx : Addr) (fv : List (Str × V)) (t : Value), x = .ref a ∧ H a = some (.ins C dx fv) ∧ PySem.W.findIn X.K (.ref C) nm = some (some (.ref f)) ∧ PySem.W.isFn X.K (.ref f) = true ∧
  Binds X.K fd ps [] ∧ FnOk X.prog X.w X.K X.mg X.base (L2.CX X.prog X.w) k f fd ps (spP X.K X.mg 2 F) ∧ TyX X.K H y t ∧ PySem.W.notFirst X.K C t = true ∧ spP X.K X.mg 2 F [x, y] H Q E0
theorem looks_ty {X : Cx} {pins : List (Addr × Obj)} {σ : L2.St} {H : Hp} {s : Shared} {y : V} {v t : Value} {M : Model} (I : Inv X pins σ H s) (r : RelV y v) (ty : TyX X.K H y t) : PySem.W.Looks M s.heap (typeOf v) t := by
  have ofT : ∀ {a : Addr} {T : String}, s.TypeIs (.ref a) T → PySem.W.Looks M s.heap (typeOf (.ref a)) (.type T) := fun {a T} ⟨o, ho, hc⟩ A Q E s' k q => wpAny_typeOf ⟨o, k _ _ ho, hc⟩ q
  cases ty with
  | base b =>
    cases b with
    | non => cases r; exact fun A Q E s' k q => wpAny_pure q
    | bl x => cases r; exact fun A Q E s' k q => wpAny_pure q
    | int x => obtain ⟨t, rfl⟩ := r; exact fun A Q E s' k q => wpAny_pure q
    | str x => obtain ⟨t, rfl⟩ := r; exact fun A Q E s' k q => wpAny_pure q
    | flt x => obtain ⟨t, rfl⟩ := r; exact fun A Q E s' k q => wpAny_pure q
    | lst e =>
      obtain rfl : v = Value.ref _ := r
      obtain ⟨_, its, n, _, h1⟩ := I.hok _ _ e
      exact ofT ⟨_, h1, rfl⟩
    | frz e =>
      obtain rfl : v = Value.ref _ := r
      obtain ⟨_, _, its, n, _, h1⟩ := I.hok _ _ e
      exact ofT ⟨_, h1, rfl⟩
    | tup e =>
      obtain rfl : v = Value.ref _ := r
      obtain ⟨_, its, _, o, h1, h2, _⟩ := I.hok _ _ e
      exact ofT ⟨_, h1, h2⟩
    | dK e =>
      obtain rfl : v = Value.ref _ := r
      obtain ⟨_, _, vs, _, o, es, ep, h1, h2, _⟩ := I.hok _ _ e
      exact ofT ⟨_, h1, h2.1⟩
    | dT e =>
      obtain rfl : v = Value.ref _ := r
      obtain ⟨_, _, vs, _, o, es, ep, h1, h2, _⟩ := I.hok _ _ e
      exact ofT ⟨_, h1, h2.1⟩
    | ins e cl ha hn htk hm =>
      obtain rfl : v = Value.ref _ := r
      obtain ⟨mA, O, _⟩ := ins_get I.hok e
      obtain ⟨od, J, _⟩ := O.look
      exact J.type
  | byt b => obtain ⟨t, rfl⟩ := r; exact fun A Q E s' k q => wpAny_pure q
  | set e =>
    obtain rfl : v = Value.ref _ := r
    obtain ⟨o, _, _, _, h1, ex, _⟩ := I.hok _ _ e
    exact ofT ⟨o, h1, ex.1⟩
  | kList e c => obtain rfl : v = Value.ref _ := r; exact ofT ⟨_, I.kIn _ _ e, c⟩
  | kTuple e c => obtain rfl : v = Value.ref _ := r; exact ofT ⟨_, I.kIn _ _ e, c⟩
  | kDict e c => obtain rfl : v = Value.ref _ := r; exact ofT ⟨_, I.kIn _ _ e, c⟩
  | fTuple e =>
    obtain rfl : v = Value.ref _ := r
    obtain ⟨_, _, its, _, o, h1, h2, _⟩ := I.hok _ _ e
    exact ofT ⟨_, h1, h2⟩
  | fDict e =>
    obtain rfl : v = Value.ref _ := r
    obtain ⟨_, _, _, vs, _, o, es, ep, h1, h2, _⟩ := I.hok _ _ e
    exact ofT ⟨_, h1, h2.1⟩
theorem op_ownX {X : Cx} {op : CmpOp} {k : Nat} (hop : ∀ a b, compareOp op a b = richCompare op a b) (hr : Room k X.A) : OpR X (compareOp op) (rOwnX X (cmpInfo op).2.1 k) := by
  intro pins s σ H x y v u Q I rx ry ⟨C, f, fd, ps, F, a, dx, fv, t, ex, ha, hs, hf, hb, Fk, ty, hn, q⟩
  subst ex
  obtain rfl : v = Value.ref a := rx
  obtain ⟨mA, O, _⟩ := ins_get I.hok ha
  obtain ⟨od, J, _⟩ := O.look
  obtain ⟨m, hF⟩ := I.fr
  rw [hop]
  refine PySem.W.cmp_K (op := op) hr.units0 hF I.ok.mod.kin J (looks_ty I ry ty) hn hs hf ?_
  refine wpAny_mono (run_fn (dvs := []) (ds := []) (us := [.ref a, u]) (vs := [.ref a, y]) Fk hr hb .nil passL I (.cons rfl (.cons ry .nil)) q) (fun w' s' z => ?_) fun _ _ x => x
  obtain ⟨z', H', I', rz, qz⟩ := z
  exact SlX.cmpback rz ⟨z', H', I', rz, qz⟩
def okK (cs : List Str) : Kd → Bool
  | .ob c => cs.contains c
  | _ => true
def noer (m : M R) : M R := fun ρ => match m ρ with
  | some (.ok r ρ') => some (.ok r ρ')
  | _ => none
def evOwn (T : OTab) (cs : List Str) (g : D → D → Option R) (fa fb : M R) : M R := M.bnd (frzM fa) fun r1 => M.bnd (frzM fb) fun r2 ρ => match rdD ρ r1, rdD ρ r2 with
  | some (.ob c fs), some e => (match T.lookup c, e.kd with
    | some F, some k => if (okK cs k && cs.contains c) = true then noer (callK F [r1, r2]) ρ else none
    | _, _ => none)
  | some d, some e => M.lift (g d e) ρ
  | _, _ => none
section
variable {b : Bs} {W : WX} {L k : Nat} {X : Cx} {pos : Pos} {e1 e2 : Expr} {fa fb : M R} {T : OTab} {cs : List Str}
theorem kit_first {K : PySem.W.Frag} {mg : Str → Option Value} {C : Addr} {c : Str} {kd : Kd} {t : Value} (kt : Kits K mg cs) (hc : c ∈ cs) (hC : mg c = some (.ref C)) (ht : KdT mg kd t) (ok : okK cs kd = true) : PySem.W.notFirst K C t = true := by
  have sub : ∀ {t : Value}, PySem.W.kitOne K t (.ref C) = some false → PySem.W.subIn K t (.ref C) = some false := fun {t} h => by
    unfold PySem.W.kitOne at h
    split at h
    · cases h
    · unfold PySem.W.kitCls at h
      simp only at h
      split at h
      · exact h
      · cases h
  unfold PySem.W.notFirst
  cases kd with
  | ob c' =>
    obtain ⟨C', h1, rfl⟩ := ht
    have hc' : c' ∈ cs := by simpa [okK] using ok
    have q := kt.oo c' hc' c hc C' C h1 hC
    by_cases e : c' = c
    · subst e; rw [hC] at h1; cases h1; simp
    · rw [decide_eq_false e] at q
      rw [sub q]; simp
  | non => cases ht; rw [sub (kt.bo c hc C hC .non (by decide))]; simp
  | bl => cases ht; rw [sub (kt.bo c hc C hC .bl (by decide))]; simp
  | int => cases ht; rw [sub (kt.bo c hc C hC .int (by decide))]; simp
  | str => cases ht; rw [sub (kt.bo c hc C hC .str (by decide))]; simp
  | tup => cases ht; rw [sub (kt.bo c hc C hC .tup (by decide))]; simp
  | lst => cases ht; rw [sub (kt.bo c hc C hC .lst (by decide))]; simp
theorem own_wp {nm : Str} {b0 : Bs} {g : D → D → Option R} {r0 : R2} (eb : EqB b b0) (o : OKx b0 L X) (kt : Kits X.K X.mg cs) (ot : OpT X.prog X.w X.K X.mg X.base nm k T) (sem : Sem2b b g r0) {σ : L2.St} {S H : Hp} {ρ : ES} {Q : VK} (G : Good b σ S H ρ)
    (w : Wp b W σ (evOwn T cs g fa fb) S H ρ fun S' H' ρ' r => ∀ v, RR b σ S' H' ρ' v r → Q v H') :
    Wp b W σ fa S H ρ fun S1 H1 ρ1 r1 => ∀ x, RR b σ S1 H1 ρ1 x r1 → rE b0 W fb σ H1 fun y H2 => r0 x y H2 Q ∨ rOwnX X nm k x y H2 Q := by
  refine Wp.frz (K := fun x H1 => rE b0 W fb σ H1 fun y H2 => r0 x y H2 Q ∨ rOwnX X nm k x y H2 Q) w fun S1 H1 ρ1 r1 x s1 G1 f1 w1 => ⟨b, S1, ρ1, eb, G1, ?_⟩
  refine Wp.frz (K := fun y H2 => r0 x y H2 Q ∨ rOwnX X nm k x y H2 Q) w1 fun S2 H2 ρ2 r2 y s2 G2 f2 w2 => ?_
  have eK : X.K = b.K := by rw [o.K, eb.1]
  have em : X.mg = b.mg := by rw [o.mg, eb.2]
  cases h1 : rdD ρ2 r1 with
  | none => exact wp_none (by simp only [h1]) w2
  | some d =>
    cases h2 : rdD ρ2 r2 with
    | none => cases d <;> exact wp_none (by simp only [h1, h2]) w2
    | some e =>
      have rvx := (f1.mono s2).rv G2 h1
      have rvy := f2.rv G2 h2
      have dat : (∀ c fs, d ≠ .ob c fs) → r0 x y H2 Q ∨ rOwnX X nm k x y H2 Q := fun hno => by
        cases h3 : g d e with
        | none => cases d <;> first | exact absurd rfl (hno _ _) | exact wp_none (by simp only [h1, h2, h3, M.lift]) w2
        | some z => exact Or.inl (sem σ S2 H2 ρ2 x y d e z G2 rvx rvy h3 Q fun v H' S' s' G' r => by
            cases d <;> first | exact absurd rfl (hno _ _) | exact wp_step (o := some (.ok z ρ2)) (by simp only [h1, h2, h3, M.lift]) w2 S' H' s' G' v r)
      cases d with
      | ob c fs =>
        cases h3 : T.lookup c with
        | none => exact wp_none (by simp only [h1, h2, h3]) w2
        | some F =>
          cases h4 : e.kd with
          | none => exact wp_none (by simp only [h1, h2, h3, h4]) w2
          | some kd =>
            cases h5 : (okK cs kd && cs.contains c) with
            | false => exact wp_none (by simp only [h1, h2, h3, h4, h5]; rfl) w2
            | true =>
              have w3 : Wp b W σ (noer (callK F [r1, r2])) S2 H2 ρ2 fun S' H' ρ' r => ∀ v, RR b σ S' H' ρ' v r → Q v H' := wp_is (by simp only [h1, h2, h3, h4, h5, if_true]) w2
              have w4 : Wp b WF σ (callK F [r1, r2]) S2 H2 ρ2 fun S' H' ρ' r => ∀ v, RR b σ S' H' ρ' v r → Q v H' := by
                unfold Wp WpO noer at w3
                unfold Wp WpO
                cases hk : callK F [r1, r2] ρ2 with
                | none => rw [hk] at w3; exact w3.elim
                | some z =>
                  rw [hk] at w3
                  cases z with
                  | ok r ρ' => exact w3
                  | er _ _ => exact w3.elim
              obtain ⟨ok, hc⟩ := Bool.and_eq_true_iff.mp h5
              have hc' : c ∈ cs := by simpa using hc
              obtain ⟨C, f, fd, ps, g1, g2, g3, g4, g5⟩ := ot.ex c F h3
              have rx' : Rp b.K b.mg S2 x (.ob c fs) := rvx
              cases rx' with
              | ob q1 q2 q3 =>
                rw [← em, g1] at q2
                cases q2
                have kt' : Kits b.K b.mg cs := by rw [← eK, ← em]; exact kt
                obtain ⟨t, ht, ty⟩ := ty_of kt' G2.sub rvy h4 (fun c e => by subst e; simpa [okK] using ok)
                have sp := call_wp (n := 2) rfl G2 (.cons (f1.mono s2) (.cons f2 .nil)) w4
                refine Or.inr ⟨C, f, fd, ps, F, _, _, _, t, rfl, G2.sub _ _ q1, g2, g3, g4, g5, by rw [eK]; exact ty, ?_, ?_⟩
                · exact kit_first kt hc' g1 (by rw [em]; exact ht) ok
                · rw [eK, em]
                  exact sp
      | non => exact dat (fun _ _ z => by cases z)
      | bl _ => exact dat (fun _ _ z => by cases z)
      | int _ => exact dat (fun _ _ z => by cases z)
      | str _ => exact dat (fun _ _ z => by cases z)
      | tup _ => exact dat (fun _ _ z => by cases z)
      | lst _ => exact dat (fun _ _ z => by cases z)
      | dic _ => exact dat (fun _ _ z => by cases z)
      | fn _ => exact dat (fun _ _ z => by cases z)
      | lam _ _ => exact dat (fun _ _ z => by cases z)
      | act _ _ => exact dat (fun _ _ z => by cases z)
theorem own_test {fa : M R} {σ : L2.St} {S H : Hp} {ρ : ES} {Q : Bool → Hp → Prop} (w : Wp b W σ (evBl fa) S H ρ fun S' H' ρ' c => Q c H') : Wp b W σ fa S H ρ fun S1 H1 ρ1 r1 => ∀ v, RR b σ S1 H1 ρ1 v r1 → ∃ k, v = .bl k ∧ Q k H1 := by
  refine Wp.mono (Wp.bind w) fun S1 H1 ρ1 r1 s1 G1 w1 v hv => ?_
  cases r1 with
  | va d =>
    cases d with
    | bl c => cases hv; exact ⟨c, rfl, wp_step (o := some (.ok c ρ1)) rfl w1 S1 H1 (Hsub.refl _) G1⟩
    | _ => exact wp_none rfl w1
  | _ => exact wp_none rfl w1
theorem pe_eqO (o : OKx b L X) (kt : Kits X.K X.mg cs) (ot : OpT X.prog X.w X.K X.mg X.base "__eq__" k T) (ha : PE X e1 (rE b W fa)) (hb : PE X e2 (rE b W fb)) (hk : k ≤ L := by decide) : PE X (.Compare e1 [.Eq] [e2] pos) (rE b W (evOwn T cs eqD fa fb)) :=
  PE.weak (pe_cmpR (op_or (op_eqD (by have := o.un; omega)) (op_ownX (op := .Eq) (k := k) (fun _ _ => rfl) (o.rm.mono hk))) ha hb (nomark _)) fun σ H Q ⟨b', S, ρ, eb, G, w⟩ => ⟨b', S, ρ, eb, G, own_wp eb o kt ot (by rw [o.K, ← eb.1]; exact sem_eq) G w⟩
theorem pe_neO (o : OKx b L X) (kt : Kits X.K X.mg cs) (ot : OpT X.prog X.w X.K X.mg X.base "__ne__" k T) (ha : PE X e1 (rE b W fa)) (hb : PE X e2 (rE b W fb)) (hk : k ≤ L := by decide) : PE X (.Compare e1 [.NotEq] [e2] pos) (rE b W (evOwn T cs neD fa fb)) :=
  PE.weak (pe_cmpR (op_or (op_neD (by have := o.un; omega)) (op_ownX (op := .NotEq) (k := k) (fun _ _ => rfl) (o.rm.mono hk))) ha hb (nomark _)) fun σ H Q ⟨b', S, ρ, eb, G, w⟩ => ⟨b', S, ρ, eb, G, own_wp eb o kt ot (by rw [o.K, ← eb.1]; exact sem_ne) G w⟩
theorem pt_eqO (o : OKx b L X) (kt : Kits X.K X.mg cs) (ot : OpT X.prog X.w X.K X.mg X.base "__eq__" k T) (ha : PE X e1 (rE b W fa)) (hb : PE X e2 (rE b W fb)) (hk : k ≤ L := by decide) : PT X (.Compare e1 [.Eq] [e2] pos) (rT b W (evBl (evOwn T cs eqD fa fb))) :=
  PT.weak (pt_cmpR (op_or (op_eqD (by have := o.un; omega)) (op_ownX (op := .Eq) (k := k) (fun _ _ => rfl) (o.rm.mono hk))) ha hb (nomark _)) fun σ H Q ⟨b', S, ρ, eb, G, w⟩ => ⟨b', S, ρ, eb, G, own_wp eb o kt ot (by rw [o.K, ← eb.1]; exact sem_eq) G (own_test w)⟩
theorem pt_neO (o : OKx b L X) (kt : Kits X.K X.mg cs) (ot : OpT X.prog X.w X.K X.mg X.base "__ne__" k T) (ha : PE X e1 (rE b W fa)) (hb : PE X e2 (rE b W fb)) (hk : k ≤ L := by decide) : PT X (.Compare e1 [.NotEq] [e2] pos) (rT b W (evBl (evOwn T cs neD fa fb))) :=
  PT.weak (pt_cmpR (op_or (op_neD (by have := o.un; omega)) (op_ownX (op := .NotEq) (k := k) (fun _ _ => rfl) (o.rm.mono hk))) ha hb (nomark _)) fun σ H Q ⟨b', S, ρ, eb, G, w⟩ => ⟨b', S, ρ, eb, G, own_wp eb o kt ot (by rw [o.K, ← eb.1]; exact sem_ne) G (own_test w)⟩
end
end Mc
end
section
set_option Elab.async false
set_option linter.all false
set_option maxRecDepth 100000
set_option maxHeartbeats 4000000
set_option autoImplicit false
namespace PySem
open Sem (wp)
set_option maxHeartbeats 1000000 in
theorem mc_enum_newT (l : Addr) (xs : Array Value) :
    Meets (Builtin.«enumerate.__new__» ⟨[.type "enumerate", .ref l], []⟩) (fun _ R s => s.heap.IsTuple l xs ∧
      R (.ok (.ret (.ref (s.heap.push { cls := .type "tuple_iterator", data := .fields #[.ref l, .int 0 0] }).objs.size)))
        { s with heap := (s.heap.push { cls := .type "tuple_iterator", data := .fields #[.ref l, .int 0 0] }).push { cls := .type "enumerate", data := .fields #[.none, .bool false, .ref s.heap.objs.size, rawInt 0, .none, .none] } }) :=
  .of_wp fun prog w A R s h => by
    obtain ⟨hp, g, d, tk, os⟩ := s; obtain ⟨hl, h⟩ := h
    have hsub := sub_enumerate
    have hL : Heap.IsTuple (Shared.heap ⟨hp, g, d, tk, os⟩) l xs := hl
    wp_walk
    refine wpAny_stack_any fun st => wpAny_pure ?_
    split
    · rename_i c _ _ _ _ _
      cases (c == Value.type "enumerate")
      · wp_walk using wpAny_pyIter_tuple hL
        exact ⟨_, rfl, h⟩
      · wp_walk using wpAny_pyIter_tuple hL
        exact ⟨_, rfl, h⟩
    · wp_walk using wpAny_pyIter_tuple hL
      exact ⟨_, rfl, h⟩
/-- an iterator record over a list or a tuple -/
def itN (tp : Bool) : String := if tp = true then "tuple_iterator" else "list_iterator"
abbrev itR (tp : Bool) (l : Addr) : Obj := { cls := .type (itN tp), data := .fields #[.ref l, .int 0 0] }
def IsSq (tp : Bool) (h : Heap) (l : Addr) (xs : Array Value) : Prop := if tp = true then h.IsTuple l xs else h.IsList l xs
def SIt (tp : Bool) (h : Heap) (it l : Addr) (i : Nat) : Prop := if tp = true then h.IsTupleIter it l i else h.IsListIter it l i
theorem SIt.new (tp : Bool) (h : Heap) (l : Addr) : SIt tp (h.push (itR tp l)) h.objs.size l 0 := by
  cases tp
  · exact ⟨_, Heap.get?_push_size _ rfl, rfl, rfl⟩
  · exact ⟨_, Heap.get?_push_size _ rfl, rfl, rfl⟩
theorem SIt.mono {tp : Bool} {h h' : Heap} {it l : Addr} {i : Nat} (x : SIt tp h it l i) (k : ∀ o, h.get? it = some o → h'.get? it = some o) : SIt tp h' it l i := by
  cases tp
  · exact Heap.IsListIter.at (show h.IsListIter it l i from x) k
  · exact Heap.IsTupleIter.at (show h.IsTupleIter it l i from x) k
theorem SIt.there {tp : Bool} {h : Heap} {it l : Addr} {i : Nat} (x : SIt tp h it l i) : ∃ o, h.get? it = some o ∧ o.data = .fields #[.ref l, .int i 0] := by
  cases tp
  · obtain ⟨o, a, _, c⟩ := (show h.IsListIter it l i from x); exact ⟨o, a, c⟩
  · obtain ⟨o, a, _, c⟩ := (show h.IsTupleIter it l i from x); exact ⟨o, a, c⟩
theorem IsSq.mono {tp : Bool} {h h' : Heap} {l : Addr} {xs : Array Value} (x : IsSq tp h l xs) (k : ∀ o, h.get? l = some o → h'.get? l = some o) : IsSq tp h' l xs := by
  cases tp
  · exact Heap.IsList.at (show h.IsList l xs from x) k
  · exact Heap.IsTuple.at (show h.IsTuple l xs from x) k
theorem IsSq.lt {tp : Bool} {h : Heap} {l : Addr} {xs : Array Value} (x : IsSq tp h l xs) : l < h.objs.size := by
  cases tp
  · obtain ⟨o, a, _⟩ := (show h.IsList l xs from x); exact Heap.lt_size a
  · obtain ⟨o, a, _⟩ := (show h.IsTuple l xs from x); exact Heap.lt_size a
theorem sq_draws {prog : Program} {w : World} {A : Around} (hh : A.handled = none) (tp : Bool) (it l : Addr) (hne : l ≠ it) (xs : Array Value) : Draws prog w A it [it, l] xs.size (fun i v => xs[i]? = some v) (fun i h => SIt tp h it l i ∧ IsSq tp h l xs) := by
  cases tp
  · exact Draws.list hh it l hne xs
  · exact Draws.tuple hh it l hne xs
theorem pyIter_sq {prog : Program} {w : World} {A : Around} {E : Value → Shared → Prop} {s : Shared} {tp : Bool} {l : Addr} {xs : Array Value} {Q : Value → Shared → Prop} (h : IsSq tp s.heap l xs) (q : Q (.ref s.heap.objs.size) { s with heap := s.heap.push (itR tp l) }) : wpAny (model prog w) A (pyIter (.ref l)) Q E s := by
  cases tp
  · exact wpAny_pyIter_list h q
  · exact wpAny_pyIter_tuple h q
section
variable {prog : Program} {w : World} {A : Around} {E : Value → Shared → Prop} {s : Shared}
theorem call_enumSq {tp : Bool} {l : Addr} {xs : Array Value} {Q : Value → Shared → Prop} (hl : IsSq tp s.heap l xs)
    (h : ∀ h', IsEnum h' (s.heap.objs.size + 1) s.heap.objs.size 0 .none → SIt tp h' s.heap.objs.size l 0 → h'.objs.size = s.heap.objs.size + 2 → (∀ c o, s.heap.get? c = some o → h'.get? c = some o) → Q (.ref (s.heap.objs.size + 1)) { s with heap := h' }) :
    wpAny (model prog w) A (call (.type "enumerate") [.ref l]) Q E s := by
  cases tp
  · exact call_enumerate_list hl h
  · have hL : s.heap.IsTuple l xs := hl
    refine callType_new F.called_enumerate (by decide) (F.typeCall_enumerate_1 _) (F.newCall_enumerate_1 _) (fun obj => F.args_object_init_2 obj _) F.entry_enumerate_new (mc_enum_newT l xs) ⟨hL, ?_⟩
    have hz : (s.heap.push (itR true l)).objs.size = s.heap.objs.size + 1 := Heap.size_push ..
    have he : IsEnum ((s.heap.push (itR true l)).push { cls := .type "enumerate", data := .fields #[.none, .bool false, .ref s.heap.objs.size, rawInt 0, .none, .none] }) (s.heap.objs.size + 1) s.heap.objs.size 0 .none := by
      rw [← hz]; exact Heap.get?_push_size _ rfl
    have hz' : (s.heap.push { cls := .type "tuple_iterator", data := .fields #[.ref l, .int 0 0] }).objs.size = s.heap.objs.size + 1 := hz
    show _ ∧ _
    rw [hz']
    exact ⟨⟨_, he, rfl⟩, h _ he ((SIt.new true s.heap l).mono fun o e => Heap.get?_push_of_some _ e) (by rw [Heap.size_push]; exact congrArg (· + 1) hz) fun c o x => Heap.get?_push_of_some _ (Heap.get?_push_of_some _ x)⟩
end
abbrev zq2 (a b : Bool) (h : Heap) (l1 l2 : Addr) : Heap := (h.push (itR a l1)).push (itR b l2)
abbrev zq3 (a b : Bool) (h : Heap) (l1 l2 : Addr) : Heap := (zq2 a b h l1 l2).push { cls := .type "tuple", data := .seq #[.ref h.objs.size, .ref (h.push (itR a l1)).objs.size] }
abbrev zq4 (a b : Bool) (h : Heap) (l1 l2 : Addr) : Heap := (zq3 a b h l1 l2).push { cls := .type "tuple", data := .seq #[.none, .none] }
abbrev zq5 (a b : Bool) (h : Heap) (l1 l2 : Addr) : Heap := (zq4 a b h l1 l2).push { cls := .type "zip", data := .fields #[.none, .bool false, .bool false, .ref (zq2 a b h l1 l2).objs.size, .ref (zq3 a b h l1 l2).objs.size] }
set_option maxHeartbeats 1000000 in
theorem mc_zip_new (a b : Bool) (l1 l2 : Addr) (xs ys : Array Value) :
    Meets (Builtin.«zip.__new__» ⟨[.type "zip", .ref l1, .ref l2], []⟩) (fun _ R s => IsSq a s.heap l1 xs ∧ IsSq b s.heap l2 ys ∧ R (.ok (.ret (.ref (zq4 a b s.heap l1 l2).objs.size))) { s with heap := zq5 a b s.heap l1 l2 }) :=
  .of_wp fun prog w A R s h => by
    obtain ⟨hp, g, d, tk, os⟩ := s; obtain ⟨hl1, hl2, h⟩ := h
    have hsub := sub_zip
    have hL1 : IsSq a (Shared.heap ⟨hp, g, d, tk, os⟩) l1 xs := hl1
    have hL2 : IsSq b (Shared.heap ⟨hp.push (itR a l1), g, d, tk, os⟩) l2 ys := IsSq.mono hl2 fun o e => Heap.get?_push_of_some _ e
    wp_walk using pyIter_sq hL1, pyIter_sq hL2
    exact ⟨_, rfl, h⟩
end PySem
end
section
set_option Elab.async false
set_option linter.all false
set_option maxRecDepth 100000
set_option maxHeartbeats 4000000
set_option autoImplicit false
namespace PySem
section
variable {prog : Program} {w : World} {A : Around} {E : Value → Shared → Prop} {s : Shared}
theorem call_zipSq {a b : Bool} {l1 l2 : Addr} {xs ys : Array Value} {Q : Value → Shared → Prop} (hl1 : IsSq a s.heap l1 xs) (hl2 : IsSq b s.heap l2 ys)
    (h : ∀ h', IsZip h' (s.heap.objs.size + 4) (s.heap.objs.size + 2) (s.heap.objs.size + 3) .none → IsTupOf2 h' (s.heap.objs.size + 2) (.ref s.heap.objs.size) (.ref (s.heap.objs.size + 1)) → IsTupOf2 h' (s.heap.objs.size + 3) .none .none →
      SIt a h' s.heap.objs.size l1 0 → SIt b h' (s.heap.objs.size + 1) l2 0 → h'.objs.size = s.heap.objs.size + 5 → (∀ c o, s.heap.get? c = some o → h'.get? c = some o) → Q (.ref (s.heap.objs.size + 4)) { s with heap := h' }) :
    wpAny (model prog w) A (call (.type "zip") [.ref l1, .ref l2]) Q E s := by
  refine callType_new F.called_zip (by decide) (F.typeCall_zip_2 _ _) (F.newCall_zip_2 _ _) (fun obj => F.args_object_init_3 obj _ _) F.entry_zip_new (mc_zip_new a b l1 l2 xs ys) ⟨hl1, hl2, ?_⟩
  have p1 : (s.heap.push (itR a l1)).objs.size = s.heap.objs.size + 1 := Heap.size_push ..
  have p2 : (zq2 a b s.heap l1 l2).objs.size = s.heap.objs.size + 2 := by rw [Heap.size_push, p1]
  have p3 : (zq3 a b s.heap l1 l2).objs.size = s.heap.objs.size + 3 := by rw [Heap.size_push, p2]
  have p4 : (zq4 a b s.heap l1 l2).objs.size = s.heap.objs.size + 4 := by rw [Heap.size_push, p3]
  have p5 : (zq5 a b s.heap l1 l2).objs.size = s.heap.objs.size + 5 := by rw [Heap.size_push, p4]
  have q5 : (zq5 a b s.heap l1 l2).get? (zq4 a b s.heap l1 l2).objs.size = some _ := Heap.get?_push_size _ rfl
  have q4 : (zq5 a b s.heap l1 l2).get? (zq3 a b s.heap l1 l2).objs.size = some _ := Heap.get?_push_of_some _ (Heap.get?_push_size _ rfl)
  have q3 : (zq5 a b s.heap l1 l2).get? (zq2 a b s.heap l1 l2).objs.size = some _ := Heap.get?_push_of_some _ (Heap.get?_push_of_some _ (Heap.get?_push_size _ rfl))
  have q2 : SIt b (zq5 a b s.heap l1 l2) (s.heap.push (itR a l1)).objs.size l2 0 := (SIt.new b (s.heap.push (itR a l1)) l2).mono fun o e => Heap.get?_push_of_some _ (Heap.get?_push_of_some _ (Heap.get?_push_of_some _ e))
  have q1 : SIt a (zq5 a b s.heap l1 l2) s.heap.objs.size l1 0 := (SIt.new a s.heap l1).mono fun o e => Heap.get?_push_of_some _ (Heap.get?_push_of_some _ (Heap.get?_push_of_some _ (Heap.get?_push_of_some _ e)))
  show _ ∧ _
  rw [p2, p3, p4] at q5
  rw [p1, p2] at q3
  rw [p3] at q4
  rw [p1] at q2
  rw [p4]
  exact ⟨⟨_, q5, rfl⟩, h _ q5 q3 q4 q1 q2 p5 fun c o x => Heap.get?_push_of_some _ (Heap.get?_push_of_some _ (Heap.get?_push_of_some _ (Heap.get?_push_of_some _ (Heap.get?_push_of_some _ x))))⟩
end
end PySem
namespace Mc
open PySem PySem.Spec L2

/-! ### enumerate, zip -/
def SqK (tp : Bool) (K : PySem.W.Frag) (H : Hp) (a : Addr) (xs : List V) : Prop := if tp = true then SqT K H a xs else SqL K H a xs
section
variable {X : Cx} {pins : List (Addr × Obj)} {σ : L2.St} {H : Hp} {s : Shared}
theorem sqk_is {tp : Bool} {a : Addr} {xs : List V} (I : Inv X pins σ H s) (h : SqK tp X.K H a xs) : ∃ its : List Value, Vals xs its ∧ IsSq tp s.heap a its.toArray := by
  cases tp
  · obtain ⟨its, rv, p, _⟩ := I.list (show SqL X.K H a xs from h); exact ⟨its, rv, p.isList⟩
  · obtain ⟨its, rv, p, _⟩ := I.tuple (show SqT X.K H a xs from h); exact ⟨its, rv, p⟩
theorem sqk_inj {tp : Bool} {a : Addr} {xs ys : List V} (I : Inv X pins σ H s) (h : SqK tp X.K H a xs) (h' : SqK tp X.K H a ys) : xs = ys := by
  cases tp
  · exact I.list_inj h h'
  · exact I.tuple_inj h h'
end
def IteX (tp : Bool) (K : PySem.W.Frag) (a : Addr) : It :=
  ⟨fun i H => ∃ xs x, SqK tp K H a xs ∧ xs[i]? = some x, fun i H v H' => ∃ T o x, v = .ref T ∧ H T = none ∧ TupO o ∧ H' = upd H T (.frz o (.tup [.int (i : Nat), x])) ∧ ∀ xs, SqK tp K H a xs → xs[i]? = some x, fun i H => ∃ xs, SqK tp K H a xs ∧ xs.length = i⟩
def ItzX (tp tq : Bool) (K : PySem.W.Frag) (a b : Addr) : It :=
  ⟨fun i H => ∃ xs ys x y, SqK tp K H a xs ∧ SqK tq K H b ys ∧ xs[i]? = some x ∧ ys[i]? = some y, fun i H v H' => ∃ T o x y, v = .ref T ∧ H T = none ∧ TupO o ∧ H' = upd H T (.frz o (.tup [x, y])) ∧ (∀ xs, SqK tp K H a xs → xs[i]? = some x) ∧ ∀ ys, SqK tq K H b ys → ys[i]? = some y,
    fun i H => ∃ xs ys, SqK tp K H a xs ∧ SqK tq K H b ys ∧ i ≤ xs.length ∧ i ≤ ys.length ∧ (i = xs.length ∨ i = ys.length)⟩
theorem get_lt {xs : List V} {its : List Value} {i : Nat} {x : V} (r : Vals xs its) (h : xs[i]? = some x) : i < its.toArray.size ∧ ∃ u, its.toArray[i]? = some u ∧ RelV x u := by
  obtain ⟨u, hu, ru⟩ := r.get h
  obtain ⟨hl, _⟩ := List.getElem?_eq_some_iff.mp hu
  exact ⟨by rw [List.size_toArray]; exact hl, u, by simpa using hu, ru⟩
theorem turn_enX {P : Program} {w : World} {K : PySem.W.Frag} {elts : List Expr} {kk : Nat} {tpos : Pos} (tp : Bool) (a e it : Addr) (ha : a ≠ it) (hae : a ≠ e) (hne : e ≠ it) :
    Turn P w K (.Tuple elts kk tpos) (IteX tp K a) [e, it] e (fun i h => (∃ old, IsEnum h e it (i : Nat) old) ∧ SIt tp h it a i) where
  mem := by simp
  obj := fun i h st c hc => by
    obtain ⟨⟨old, he⟩, hit⟩ := st
    rcases List.mem_cons.mp hc with z | z
    · rw [z]; exact ⟨_, he, fun v q => nomatch q⟩
    · rw [List.mem_singleton.mp z]
      obtain ⟨o, h1, h2⟩ := hit.there
      exact ⟨o, h1, fun v q => by rw [h2] at q; cases q⟩
  keep := fun i h h' st k => let ⟨⟨old, he⟩, hit⟩ := st; ⟨⟨old, k e (by simp) _ he⟩, hit.mono fun o q => k it (by simp) o q⟩
  item := by
    intro X hP hw hK hc i pins s σ H E I hf st hg
    subst hP hw hK
    obtain ⟨⟨old, he⟩, hit⟩ := st
    obtain ⟨xs, x, hq, hx⟩ := hg
    obtain ⟨its, rv, hs⟩ := sqk_is I hq
    obtain ⟨hlt, u, hu, ru⟩ := get_lt rv hx
    have hel : e < s.heap.objs.size := Heap.lt_size he
    have hil : it < s.heap.objs.size := by obtain ⟨o, q, _⟩ := hit.there; exact Heap.lt_size q
    have D := sq_draws (prog := X.prog) (w := X.w) (A := X.A.in1) (I.ok.hd hc) tp it a ha its.toArray
    refine wpAny_pyNext_enum_itemD D he ⟨hit, hs⟩ hlt hne (fun z => ?_) fun y h' tk hy ho hst hT hsz hk => ?_
    · rcases List.mem_cons.mp z with q | q
      · exact hne q
      · exact hae (List.mem_singleton.mp q).symm
    rw [hu] at hy
    cases hy
    refine ⟨_, rfl, wpAny_letOwnedTupleGo_enum (s := { s with heap := h', toks := tk + 1 }) ho fun h'' he' sb => ?_⟩
    have hT2 : h''.get? s.heap.objs.size = some { cls := .type "tuple", data := .seq #[.int i tk, u] } := (sb.2 _ (Nat.ne_of_gt hel)).trans hT
    have new : ObjOk X.prog X.w (upd H s.heap.objs.size (.frz { cls := .type "tuple", data := .seq #[.int i tk, u] } (.tup [.int (i : Nat), x]))) h'' s.heap.objs.size (.frz { cls := .type "tuple", data := .seq #[.int i tk, u] } (.tup [.int (i : Nat), x])) :=
      ⟨hT2, by show 2 ≤ sizeLine; decide, [.int i tk, u], .cons ⟨_, rfl⟩ (.cons ru .nil), ⟨_, hT2, rfl, _, rfl⟩⟩
    have I1 : Inv X pins σ _ { s with heap := h'', toks := tk + 1 } := I.turnedNew (ch := [e, it]) (fun c ob hc q => (sb.2 c (fun z => hc (by simp [z]))).trans (hk c ob (fun z => hc (by simp [z])) (fun z => hc (by simp [z])) q)) hf (Nat.le_refl _) new
    refine ⟨.ref s.heap.objs.size, _, I1, rfl, ⟨_, _, x, rfl, I.hok.fresh (Nat.le_refl _), ⟨rfl, rfl⟩, rfl, fun ys hy => by rw [sqk_inj I hy hq]; exact hx⟩, ⟨⟨u, ?_⟩, hst.1.mono fun o q => (sb.2 it (Ne.symm hne)).trans q⟩, fun c hc => ?_⟩
    · have e1 : ((i + 1 : Nat) : Int) = (i : Int) + 1 := by omega
      rw [e1]; exact he'
    · have hc' : c < s.heap.objs.size := by
        rcases List.mem_cons.mp hc with z | z
        · rw [z]; exact hel
        · rw [List.mem_singleton.mp z]; exact hil
      rw [upd_ne (Nat.ne_of_lt hc')]
      exact (hf c hc).1
  done := by
    intro X hP hw hK hc i pins s σ H E I hf st hg
    subst hP hw hK
    obtain ⟨⟨old, he⟩, hit⟩ := st
    obtain ⟨xs, hq, hx⟩ := hg
    obtain ⟨its, rv, hs⟩ := sqk_is I hq
    obtain ⟨f0, f1, f2, f3, f4, f5⟩ := hf it (by simp)
    have D := sq_draws (prog := X.prog) (w := X.w) (A := X.A.in1) (I.ok.hd hc) tp it a ha its.toArray
    have hi : i = its.toArray.size := by rw [List.size_toArray, ← rv.length]; exact hx.symm
    subst hi
    exact wpAny_pyNext_enum_endD D he ⟨hit, hs⟩ fun h' eb => ⟨rfl, I.turned (t' := s.toks) (fun b o hb q => eb b o hb q) f0 f1 f3 f4 f5⟩
  self := fun A i s Q E st h => let ⟨⟨_, he⟩, _⟩ := st; wpAny_pyIter_enum he h
theorem turn_zpX {P : Program} {w : World} {K : PySem.W.Frag} {elts : List Expr} {kk : Nat} {tpos : Pos} (tp tq : Bool) (a b z TI TO i1 i2 : Addr) (Sp : ZipSep2 z TI TO i1 i2 [i1, a] [i2, b]) (ha : a ≠ i1) (hb : b ≠ i2) :
    Turn P w K (.Tuple elts kk tpos) (ItzX tp tq K a b) [z, TI, TO, i1, i2] z (fun i h => IsZip h z TI TO .none ∧ IsTupOf2 h TI (.ref i1) (.ref i2) ∧ (∃ x y, IsTupOf2 h TO x y) ∧ SIt tp h i1 a i ∧ SIt tq h i2 b i) where
  mem := by simp
  obj := fun i h st c hc => by
    obtain ⟨hz, hTI, ⟨x, y, hTO⟩, h1, h2⟩ := st
    have e' : c = z ∨ c = TI ∨ c = TO ∨ c = i1 ∨ c = i2 := by simpa using hc
    rcases e' with q | q | q | q | q <;> rw [q]
    · exact ⟨_, hz, fun v q => nomatch q⟩
    · exact ⟨_, hTI, fun v q => nomatch q⟩
    · exact ⟨_, hTO, fun v q => nomatch q⟩
    · obtain ⟨o, g1, g2⟩ := h1.there; exact ⟨o, g1, fun v q => by rw [g2] at q; cases q⟩
    · obtain ⟨o, g1, g2⟩ := h2.there; exact ⟨o, g1, fun v q => by rw [g2] at q; cases q⟩
  keep := fun i h h' st k => by
    obtain ⟨hz, hTI, ⟨x, y, hTO⟩, h1, h2⟩ := st
    exact ⟨k z (by simp) _ hz, k TI (by simp) _ hTI, ⟨x, y, k TO (by simp) _ hTO⟩, h1.mono fun o q => k i1 (by simp) o q, h2.mono fun o q => k i2 (by simp) o q⟩
  item := by
    intro X hP hw hK hc i pins s σ H E I hf st hg
    subst hP hw hK
    obtain ⟨hz, hTI, ⟨x0, y0, hTO⟩, h1, h2⟩ := st
    obtain ⟨xs, ys, x, y, hqx, hqy, hx, hy⟩ := hg
    obtain ⟨its, rv, p⟩ := sqk_is I hqx
    obtain ⟨its2, rv2, p2⟩ := sqk_is I hqy
    obtain ⟨hl1, u, hu, ru⟩ := get_lt rv hx
    obtain ⟨hl2, u2, hu2, ru2⟩ := get_lt rv2 hy
    have hzl : z < s.heap.objs.size := Heap.lt_size hz
    have D1 := sq_draws (prog := X.prog) (w := X.w) (A := X.A.in1) (I.ok.hd hc) tp i1 a ha its.toArray
    have D2 := sq_draws (prog := X.prog) (w := X.w) (A := X.A.in1) (I.ok.hd hc) tq i2 b hb its2.toArray
    refine wpAny_pyNext_zipD2_item Sp D1 D2 hz hTI hTO ⟨h1, p⟩ ⟨h2, p2⟩ hl1 hl2 fun v1 v2 h' tk g1 g2 z' TO' st1 st2 hT hsz hk => ?_
    rw [hu] at g1; cases g1
    rw [hu2] at g2; cases g2
    refine ⟨_, rfl, wpAny_letOwnedTupleGo_zip (s := { s with heap := h', toks := tk }) z' fun h'' z'' sb => ?_⟩
    have hT2 : h''.get? s.heap.objs.size = some { cls := .type "tuple", data := .seq #[u, u2] } := (sb.2 _ (Nat.ne_of_gt hzl)).trans hT
    have new : ObjOk X.prog X.w (upd H s.heap.objs.size (.frz { cls := .type "tuple", data := .seq #[u, u2] } (.tup [x, y]))) h'' s.heap.objs.size (.frz { cls := .type "tuple", data := .seq #[u, u2] } (.tup [x, y])) :=
      ⟨hT2, by show 2 ≤ sizeLine; decide, [u, u2], .cons ru (.cons ru2 .nil), ⟨_, hT2, rfl, _, rfl⟩⟩
    have I1 : Inv X pins σ _ { s with heap := h'', toks := tk } := I.turnedNew (ch := [z, TI, TO, i1, i2]) (fun c o hb q => (sb.2 c (fun q' => hb (by simp [q']))).trans (hk c o (fun q' => hb (by simp [q'])) (fun q' => hb (by simp [q'])) (fun q' => hb (by simp [q'])) (fun q' => hb (by simp [q'])) q)) hf (Nat.le_refl _) new
    refine ⟨.ref s.heap.objs.size, _, I1, rfl, ⟨_, _, x, y, rfl, I.hok.fresh (Nat.le_refl _), ⟨rfl, rfl⟩, rfl, fun l hl => by rw [sqk_inj I hl hqx]; exact hx, fun l hl => by rw [sqk_inj I hl hqy]; exact hy⟩, ⟨z'', ?_, ⟨u, u2, ?_⟩, ?_, ?_⟩, fun c hcm => ?_⟩
    · exact (sb.2 _ Sp.TIz).trans (hk _ _ Sp.TIz Sp.TITO Sp.TIi1 Sp.TIi2 hTI)
    · exact (sb.2 _ Sp.TOz).trans TO'
    · exact st1.1.mono fun o q => (sb.2 _ (Ne.symm Sp.zi1)).trans q
    · exact st2.1.mono fun o q => (sb.2 _ (Ne.symm Sp.zi2)).trans q
    · have hlt : c < s.heap.objs.size := by
        have e' : c = z ∨ c = TI ∨ c = TO ∨ c = i1 ∨ c = i2 := by simpa using hcm
        rcases e' with q | q | q | q | q <;> rw [q]
        · exact hzl
        · exact Heap.lt_size hTI
        · exact Heap.lt_size hTO
        · obtain ⟨_, e1, _⟩ := h1.there; exact Heap.lt_size e1
        · obtain ⟨_, e2, _⟩ := h2.there; exact Heap.lt_size e2
      rw [upd_ne (Nat.ne_of_lt hlt)]
      exact (hf c hcm).1
  done := by
    intro X hP hw hK hc i pins s σ H E I hf st hg
    subst hP hw hK
    obtain ⟨hz, hTI, ⟨x0, y0, hTO⟩, h1, h2⟩ := st
    obtain ⟨xs, ys, hqx, hqy, l1, l2, hend⟩ := hg
    obtain ⟨its, rv, p⟩ := sqk_is I hqx
    obtain ⟨its2, rv2, p2⟩ := sqk_is I hqy
    have D1 := sq_draws (prog := X.prog) (w := X.w) (A := X.A.in1) (I.ok.hd hc) tp i1 a ha its.toArray
    have D2 := sq_draws (prog := X.prog) (w := X.w) (A := X.A.in1) (I.ok.hd hc) tq i2 b hb its2.toArray
    have e1 : its.toArray.size = xs.length := by rw [List.size_toArray, ← rv.length]
    have e2 : its2.toArray.size = ys.length := by rw [List.size_toArray, ← rv2.length]
    exact wpAny_pyNext_zipD2_end Sp D1 D2 hz hTI hTO ⟨h1, p⟩ ⟨h2, p2⟩ (by omega) (by omega) (by omega) fun h' tk hk => ⟨rfl, I.turnedL (ch := [z, TI, TO, i1, i2]) (fun c o hb q =>
      hk c o (fun q' => hb (by simp [q'])) (fun q' => hb (by simp [q'])) (fun q' => hb (by simp [q'])) (fun q' => hb (by simp [q'])) q) hf⟩
  self := fun A i s Q E st h => wpAny_pyIter_zip st.1 h
def iEnX (K : PySem.W.Frag) (ta : TA) : TI := fun σ H R => ta σ H fun vs H1 => ∃ a, vs = [.ref a] ∧ ∃ tp xs, SqK tp K H1 a xs ∧ R (IteX tp K a) H1
def iZpX (K : PySem.W.Frag) (ta : TA) : TI := fun σ H R => ta σ H fun vs H1 => ∃ a b, vs = [.ref a, .ref b] ∧ ∃ tp tq xs ys, SqK tp K H1 a xs ∧ SqK tq K H1 b ys ∧ R (ItzX tp tq K a b) H1
section
variable {X : Cx} {p pos tpos : Pos} {e e2 : Expr} {elts : List Expr} {kk : Nat} {ta : TA}
theorem pi_enX (hg : Gl X "enumerate") (hm : X.mg "enumerate" = none) (ha : PA X [e] ta) (hs : starEach [e] X.env = [(false, eval e X.env)] := by rfl) : PI X (.Tuple elts kk tpos) (.Call (.Name "enumerate" p) [e] [] pos) (iEnX X.K ta) := by
  refine ⟨fun pins s σ H R I h => PyProof.Rows.Call_ (ld_blt I hg hm PyProof.Rows.boot_enumerate (PyProof.Rows.callWith_type1 (thn (ha.run pos pins s σ H _ I h) fun us s1 ⟨vs, H1, I1, r1, q1⟩ => ?_) hs rfl))⟩
  obtain ⟨a, ev, tp, xs, hq, q⟩ := q1
  subst ev
  rw [Vals.ref1 r1]
  obtain ⟨its, rv, hl⟩ := sqk_is I1 hq
  have lt := hl.lt
  refine call_enumSq hl fun h' he hit hsz hk => wpAny_pyIter_enum he ?_
  refine ⟨s1.heap.objs.size + 1, [s1.heap.objs.size + 1, s1.heap.objs.size], _, _, H1, rfl, I1.kept (t' := s1.toks) hk, turn_enX tp a (s1.heap.objs.size + 1) s1.heap.objs.size (Nat.ne_of_lt lt) (Nat.ne_of_lt (Nat.lt_succ_of_lt lt)) (Nat.succ_ne_self _), ⟨⟨.none, he⟩, hit⟩, fun c hc => ?_, q⟩
  have hle : s1.heap.objs.size ≤ c := by
    rcases List.mem_cons.mp hc with z | z
    · rw [z]; exact Nat.le_succ _
    · rw [List.mem_singleton.mp z]; exact Nat.le_refl _
  exact I1.fpOk hle (I1.hok.fresh hle)
theorem zip_sep (n a b : Nat) (ha : a < n) (hb : b < n) : ZipSep2 (n + 4) (n + 2) (n + 3) n (n + 1) [n, a] [n + 1, b] := by
  have m : ∀ {x y z : Nat}, x ∈ ([y, z] : List Nat) → x = y ∨ x = z := fun h => by simpa using h
  exact ⟨by intro z; have z : (n + 2 : Nat) = n + 4 := z; omega, by intro z; have z : (n + 3 : Nat) = n + 4 := z; omega, by intro z; have z : (n + 2 : Nat) = n + 3 := z; omega, by intro z; have z : (n + 2 : Nat) = n := z; omega, by simp,
    fun z => by rcases m z with q | q <;> omega, fun z => by rcases m z with q | q <;> omega, by intro z; have z : (n + 2 : Nat) = n + 1 := z; omega, by simp, fun z => by rcases m z with q | q <;> omega, fun z => by rcases m z with q | q <;> omega, fun z => by rcases m z with q | q <;> omega, fun z => by rcases m z with q | q <;> omega⟩
theorem pi_zpX (hg : Gl X "zip") (hm : X.mg "zip" = none) (ha : PA X [e, e2] ta) (hs : starEach [e, e2] X.env = (false, eval e X.env) :: starEach [e2] X.env := by rfl) (hpl : (backTo pos (starEach [e2] X.env)).any (·.1) = false := by rfl) :
    PI X (.Tuple elts kk tpos) (.Call (.Name "zip" p) [e, e2] [] pos) (iZpX X.K ta) := by
  refine ⟨fun pins s σ H R I h => PyProof.Rows.Call_ (ld_blt I hg hm PyProof.Rows.boot_zip (PyProof.Rows.callWith_type1 (thn (ha.run pos pins s σ H _ I h) fun us s1 ⟨vs, H1, I1, r1, q1⟩ => ?_) hs hpl))⟩
  obtain ⟨a, b, ev, tp, tq, xs, ys, hqx, hqy, q⟩ := q1
  subst ev
  obtain ⟨u, u', rfl, ru, ru'⟩ := vals2 r1
  obtain rfl : u = Value.ref a := ru
  obtain rfl : u' = Value.ref b := ru'
  obtain ⟨its, rv, p1⟩ := sqk_is I1 hqx
  obtain ⟨its2, rv2, p2⟩ := sqk_is I1 hqy
  have la := p1.lt
  have lb := p2.lt
  refine call_zipSq p1 p2 fun h' hz hTI hTO h1 h2 hsz hk => wpAny_pyIter_zip hz ?_
  refine ⟨s1.heap.objs.size + 4, [s1.heap.objs.size + 4, s1.heap.objs.size + 2, s1.heap.objs.size + 3, s1.heap.objs.size, s1.heap.objs.size + 1], _, _, H1, rfl, I1.kept (t' := s1.toks) hk, turn_zpX tp tq a b _ _ _ _ _ (zip_sep s1.heap.objs.size a b la lb) (Nat.ne_of_lt la) (Nat.ne_of_lt (Nat.lt_succ_of_lt lb)), ⟨hz, hTI, ⟨_, _, hTO⟩, h1, h2⟩, fun c hcm => ?_, q⟩
  have hle : s1.heap.objs.size ≤ c := by
    have e' : c = s1.heap.objs.size + 4 ∨ c = s1.heap.objs.size + 2 ∨ c = s1.heap.objs.size + 3 ∨ c = s1.heap.objs.size ∨ c = s1.heap.objs.size + 1 := by simpa using hcm
    rcases e' with z | z | z | z | z <;> rw [z]
    · exact Nat.le_add_right _ _
    · exact Nat.le_add_right _ _
    · exact Nat.le_add_right _ _
    · exact Nat.le_refl _
    · exact Nat.le_add_right _ _
  exact I1.fpOk hle (I1.hok.fresh hle)
end
/-! ### the walks -/
def SqS (tp : Bool) (K : PySem.W.Frag) (S : Hp) (a : Addr) (vs : List V) : Prop := if tp = true then SqT K S a vs else S a = some (.lst vs)
theorem SqS.k {tp : Bool} {K : PySem.W.Frag} {S H : Hp} {a : Addr} {vs : List V} (h : SqS tp K S a vs) (s : Hsub S H) : SqK tp K H a vs := by
  cases tp
  · exact SqL.of (s _ _ h)
  · exact sqt_mono s h
def enD (ds : List D) : List D := (List.range ds.length).zipWith (fun i d => .tup [.int (i : Nat), d]) ds
def zpD (ds es : List D) : List D := ds.zipWith (fun d e => .tup [d, e]) es
theorem enD_length (ds : List D) : (enD ds).length = ds.length := by unfold enD; simp
theorem enD_get {ds : List D} {i : Nat} {d : D} (h : (enD ds)[i]? = some d) : ∃ e, ds[i]? = some e ∧ d = .tup [.int (i : Nat), e] := by
  have hl : i < ds.length := by rw [← enD_length ds]; exact (List.getElem?_eq_some_iff.mp h).1
  unfold enD at h
  rw [List.getElem?_zipWith, List.getElem?_range hl, List.getElem?_eq_getElem hl] at h
  cases h
  exact ⟨_, List.getElem?_eq_getElem hl, rfl⟩
theorem zpD_get {ds es : List D} {i : Nat} {d : D} (h : (zpD ds es)[i]? = some d) : ∃ e f, ds[i]? = some e ∧ es[i]? = some f ∧ d = .tup [e, f] := by
  unfold zpD at h
  rw [List.getElem?_zipWith] at h
  cases h1 : ds[i]? with
  | none => rw [h1] at h; cases h
  | some e =>
    cases h2 : es[i]? with
    | none => rw [h1, h2] at h; cases h
    | some f => rw [h1, h2] at h; cases h; exact ⟨e, f, rfl, rfl, rfl⟩
theorem Wk.en {K : PySem.W.Frag} {mg : Str → Option Value} {S : Hp} {tp : Bool} {a : Addr} {vs : List V} {ds : List D} (h : SqS tp K S a vs) (r : Rps K mg S vs ds) : Wk K mg (IteX tp K a) S (enD ds) where
  go := fun b σ S' H ρ i e1 e2 s G hi => by
    have hl := Rps.length r
    rw [enD_length] at hi
    exact ⟨vs, vs[i]'(by omega), h.k (s.trans G.sub), by simp⟩
  yld := fun b σ S' H H' ρ i d x e1 e2 s G hd ⟨T, o, y, ev, hT, ho, eH, hy⟩ => by
    obtain ⟨e, he, rfl⟩ := enD_get hd
    obtain ⟨v, hv, rv⟩ := Rps.get r he
    have hx := hy vs (h.k (s.trans G.sub))
    rw [hv] at hx; cases hx
    subst ev eH
    refine ⟨_, Hsub.new (G.sn hT), G.new hT, .tup (SqX.of upd_same ho.1 ho.2) (.cons (.int _) (.cons (Rp.mono (s.trans (Hsub.new (G.sn hT))) _ _ rv) .nil))⟩
  stop := fun b σ S' H ρ e1 e2 s G => ⟨vs, h.k (s.trans G.sub), by rw [Rps.length r, enD_length]⟩
theorem Wk.zp {K : PySem.W.Frag} {mg : Str → Option Value} {S : Hp} {tp tq : Bool} {a c : Addr} {vs ws : List V} {ds es : List D} (h : SqS tp K S a vs) (r : Rps K mg S vs ds) (h' : SqS tq K S c ws) (r' : Rps K mg S ws es) : Wk K mg (ItzX tp tq K a c) S (zpD ds es) where
  go := fun b σ S' H ρ i e1 e2 s G hi => by
    have hl := Rps.length r
    have hl' := Rps.length r'
    have hm : i < ds.length ∧ i < es.length := by unfold zpD at hi; rw [List.length_zipWith] at hi; omega
    exact ⟨vs, ws, vs[i]'(by omega), ws[i]'(by omega), h.k (s.trans G.sub), h'.k (s.trans G.sub), by simp, by simp⟩
  yld := fun b σ S' H H' ρ i d x e1 e2 s G hd ⟨T, o, y, z, ev, hT, ho, eH, hy, hz⟩ => by
    obtain ⟨e, f, he, hf, rfl⟩ := zpD_get hd
    obtain ⟨v, hv, rv⟩ := Rps.get r he
    obtain ⟨u, hu, ru⟩ := Rps.get r' hf
    have hx := hy vs (h.k (s.trans G.sub))
    have hx' := hz ws (h'.k (s.trans G.sub))
    rw [hv] at hx; cases hx
    rw [hu] at hx'; cases hx'
    subst ev eH
    exact ⟨_, Hsub.new (G.sn hT), G.new hT, .tup (SqX.of upd_same ho.1 ho.2) (.cons (Rp.mono (s.trans (Hsub.new (G.sn hT))) _ _ rv) (.cons (Rp.mono (s.trans (Hsub.new (G.sn hT))) _ _ ru) .nil))⟩
  stop := fun b σ S' H ρ e1 e2 s G => by
    have hl := Rps.length r
    have hl' := Rps.length r'
    refine ⟨vs, ws, h.k (s.trans G.sub), h'.k (s.trans G.sub), ?_⟩
    unfold zpD
    rw [List.length_zipWith]
    omega
def evEn (fa : M (List R)) : M (List D) := M.bnd fa fun rs => M.bnd (frzSs rs) fun ds => M.lift (match ds with
  | [d] => (sqD d).map enD
  | _ => none)
def evZp (fa : M (List R)) : M (List D) := M.bnd fa fun rs => M.bnd (frzSs rs) fun ds => M.lift (match ds with
  | [d, e] => (match sqD d, sqD e with
    | some xs, some ys => some (zpD xs ys)
    | _, _ => none)
  | _ => none)
theorem sqs_of {K : PySem.W.Frag} {mg : Str → Option Value} {S : Hp} {v : V} {d : D} {xs : List D} (r : Rp K mg S v d) (h : sqD d = some xs) : ∃ a tp vs, v = .ref a ∧ SqS tp K S a vs ∧ Rps K mg S vs xs := by
  cases r with
  | tup p q => cases h; exact ⟨_, true, _, rfl, p.1, q⟩
  | lst p q => cases h; exact ⟨_, false, _, rfl, p, q⟩
  | _ => cases h
section
variable {b : Bs} {W : WX} {L : Nat} {X : Cx} {p pos tpos : Pos} {e1 e2 : Expr} {elts : List Expr} {kk : Nat} {fs : M (List R)}
theorem pi_enM (o : OKx b L X) (ha : PA X [e1] (rAr b W fs)) (hm : X.mg "enumerate" = none) (hg : Gl X "enumerate" := by rfl) (hs : starEach [e1] X.env = [(false, eval e1 X.env)] := by rfl) : PI X (.Tuple elts kk tpos) (.Call (.Name "enumerate" p) [e1] [] pos) (iX b W (evEn fs)) := by
  refine PI.weak (pi_enX hg hm ha hs) fun σ H R ⟨b', S, ρ, eb, G, w⟩ => ⟨b', S, ρ, eb, G, Wp.mono (Wp.bind w) fun S1 H1 ρ1 rs s1 G1 w1 vs hvs => ?_⟩
  obtain ⟨S2, ρ2, ds, s2, G2, r2, w2⟩ := Wp.frzSs G1 hvs (Wp.bind w1)
  obtain ⟨xs, hx, k⟩ := Wp.lift G2 w2
  split at hx
  · obtain ⟨ys, hy, rfl⟩ := Option.map_eq_some_iff.mp hx
    cases r2 with
    | cons h1 h2 =>
      cases h2
      obtain ⟨a, tp, us, rfl, q1, q2⟩ := sqs_of h1 hy
      rw [o.K, ← eb.1]
      exact ⟨a, rfl, tp, us, q1.k G2.sub, k _ (Wk.en q1 q2)⟩
  · cases hx
theorem pi_zpM (o : OKx b L X) (ha : PA X [e1, e2] (rAr b W fs)) (hm : X.mg "zip" = none) (hg : Gl X "zip" := by rfl) (hs : starEach [e1, e2] X.env = (false, eval e1 X.env) :: starEach [e2] X.env := by rfl) (hpl : (backTo pos (starEach [e2] X.env)).any (·.1) = false := by rfl) :
    PI X (.Tuple elts kk tpos) (.Call (.Name "zip" p) [e1, e2] [] pos) (iX b W (evZp fs)) := by
  refine PI.weak (pi_zpX hg hm ha hs hpl) fun σ H R ⟨b', S, ρ, eb, G, w⟩ => ⟨b', S, ρ, eb, G, Wp.mono (Wp.bind w) fun S1 H1 ρ1 rs s1 G1 w1 vs hvs => ?_⟩
  obtain ⟨S2, ρ2, ds, s2, G2, r2, w2⟩ := Wp.frzSs G1 hvs (Wp.bind w1)
  obtain ⟨xs, hx, k⟩ := Wp.lift G2 w2
  split at hx
  · split at hx
    · rename_i _ xs' ys' hy hy'
      cases hx
      cases r2 with
      | cons h1 h2 =>
        cases h2 with
        | cons h2 h3 =>
          cases h3
          obtain ⟨a, tp, us, rfl, q1, q2⟩ := sqs_of h1 hy
          obtain ⟨c, tq, ws, rfl, q3, q4⟩ := sqs_of h2 hy'
          rw [o.K, ← eb.1]
          exact ⟨a, c, rfl, tp, tq, us, ws, q1.k G2.sub, q3.k G2.sub, k _ (Wk.zp q1 q2 q3 q4)⟩
    · cases hx
  · cases hx
end
end Mc
end
section
set_option Elab.async false
set_option linter.all false
set_option maxRecDepth 100000
set_option maxHeartbeats 4000000
set_option autoImplicit false
namespace Mc
open PySem PySem.Spec L2

/-! ### a, b = x, y -/
section
variable {b : Bs} {W : WX} {σ : L2.St} {S S' H H' : Hp} {ρ ρ' : ES}
theorem Wp.re {α : Type} {f : M α} {P : Hp → Hp → ES → α → Prop} (G : Good b σ S H ρ) (w : Wp b W σ f S H ρ P) : Wp (Mc.re b σ S H ρ) W σ f S H ρ P := by
  unfold Wp WpO at w ⊢
  cases e : f ρ with
  | none => rw [e] at w; exact w
  | some r =>
    rw [e] at w
    cases r with
    | ok a ρ' => exact fun S' H' s G' => w S' H' s (G.tr G')
    | er x ρ' => exact fun S' H' cls d s G' hx => w S' H' cls d s (G.tr G') (hx.imp fun a z => G.f0 a z)
theorem RR.turn {v : V} {r : R} (G : Good b σ S H ρ) (h : RR b σ S H ρ v r) (s : Hsub S S') (G' : Good (Mc.re b σ S H ρ) σ S' H' ρ') : RR b σ S' H' ρ' v r := by
  cases r with
  | va d => exact Rp.mono s _ _ h
  | sl i => exact h
  | ow ds =>
    obtain ⟨a, vs, e, h1, h2, h3, h4, h5⟩ := h
    have nB : ¬ (Mc.re b σ S H ρ).B a := fun z => z.elim (fun ⟨i, w⟩ => h4 i w) fun ⟨q, w⟩ => tab_ne (G.tab a q w).1 h1 noTab_lst rfl
    refine ⟨a, vs, e, G'.k0 a _ h1 nB, ?_, Rps.mono s _ _ h3, fun i w => ?_, h5⟩
    · cases q : S' a with
      | none => rfl
      | some o =>
        rcases G'.n0 a (by rw [q]; exact fun z => nomatch z) with z | z | z
        · exact (z h2).elim
        · have z' : H a = none := z
          rw [h1] at z'; cases z'
        · exact (nB z).elim
    · rcases G'.o0 i a w with z | z
      · have z' : H a = none := z
        rw [h1] at z'; cases z'
      · exact nB z
/-- apart from an earlier new list -/
theorem RR.apart {v u : V} {ds es : List D} (G : Good b σ S H ρ) (h : RR b σ S H ρ v (.ow ds)) (h' : RR (Mc.re b σ S H ρ) σ S' H' ρ' u (.ow es)) : v ≠ u := by
  obtain ⟨a, vs, e, h1, h2, h3, h4, h5⟩ := h
  obtain ⟨c, ws, e', q1, q2, q3, q4, q5⟩ := h'
  intro z
  rw [e, e'] at z
  cases z
  rcases q5 with y | ⟨i, y⟩ | ⟨q, y⟩
  · have y' : H a = none := y
    rw [h1] at y'; cases y'
  · exact h4 i y
  · exact tab_ne (G.tab a q y).1 h1 noTab_lst rfl
end
def setR (i : Nat) (r : R) (ρ : ES) : Option ES := if i < ρ.length then (match r with
  | .va d => some (ρ.set i (.va d))
  | .ow ds => some (ρ.set i (.ow ds))
  | .sl _ => none) else none
section
variable {b : Bs} {W : WX} {σ : L2.St} {S H : Hp} {ρ ρ' : ES}
theorem Good.setR {i : Nat} {r : R} {v : V} (G : Good b σ S H ρ) (h : RR b σ S H ρ v r) (e : Mc.setR i r ρ = some ρ') : Good b (σ.set i (some v)) S H ρ' := by
  unfold Mc.setR at e
  split at e
  · rename_i hi
    cases r with
    | va d => cases e; exact G.setVa hi h
    | ow ds => cases e; exact G.setOw hi h
    | sl _ => cases e
  · cases e
/-- a value that waits while a slot is stored -/
theorem RR.wait {i : Nat} {r q : R} {v u : V} (h : RR b σ S H ρ v r) (hq : RR b σ S H ρ u q) (hr : ∀ j, q ≠ .sl j) (ap : ∀ ds es, r = .ow ds → q = .ow es → v ≠ u) (e : Mc.setR i r ρ = some ρ') : RR b (σ.set i (some v)) S H ρ' u q := by
  cases q with
  | va d => exact hq
  | sl j => exact absurd rfl (hr j)
  | ow es =>
    obtain ⟨a, vs, e1, h1, h2, h3, h4, h5⟩ := hq
    refine ⟨a, vs, e1, h1, h2, h3, fun j w => ?_, h5⟩
    unfold Mc.setR at e
    split at e
    · rename_i hi
      cases r with
      | sl _ => cases e
      | va d =>
        cases e
        by_cases hj : j = i
        · subst hj
          obtain ⟨_, s, z, y⟩ := w
          rw [List.getElem?_set_self hi] at z
          cases z
          cases y
        · exact h4 j (w.set_ne hj)
      | ow ds =>
        cases e
        by_cases hj : j = i
        · subst hj
          obtain ⟨z, s, y, _⟩ := w
          obtain ⟨a', vs', e', h1', _⟩ := h
          have hl : j < σ.length ∨ ¬ j < σ.length := Nat.lt_or_ge j σ.length |>.imp id Nat.not_lt.mpr
          rcases hl with hl | hl
          · rw [List.getElem?_set_self hl] at z
            cases z
            exact ap ds es rfl rfl e1.symm
          · rw [List.getElem?_eq_none (by rw [List.length_set]; omega)] at z; cases z
        · exact h4 j (w.set_ne hj)
    · cases e
end
def noSl : R → Bool
  | .sl _ => false
  | _ => true
def evPar2 (i j : Nat) (fa fb : M R) : M Fl := M.bnd fa fun r1 => M.bnd fb fun r2 ρ => if (noSl r1 && noSl r2) = true then (match setR i r1 ρ with
  | some ρ1 => (match setR j r2 ρ1 with
    | some ρ2 => some (.ok .nx ρ2)
    | none => none)
  | none => none) else none
def evPar3 (i j l : Nat) (fa fb fc : M R) : M Fl := M.bnd fa fun r1 => M.bnd fb fun r2 => M.bnd fc fun r3 ρ => if (noSl r1 && (noSl r2 && noSl r3)) = true then (match setR i r1 ρ with
  | some ρ1 => (match setR j r2 ρ1 with
    | some ρ2 => (match setR l r3 ρ2 with
      | some ρ3 => some (.ok .nx ρ3)
      | none => none)
    | none => none)
  | none => none) else none
theorem noSl_ne {r : R} (h : noSl r = true) : ∀ j, r ≠ .sl j := fun j e => by subst e; cases h
section
variable {b : Bs} {W : WX} {L : Nat} {X : Cx} {px py pz pt pos : Pos} {kt k2 : Nat} {pt2 : Pos} {x y z : Str} {e1 e2 e3 : Expr} {fa fb fc : M R} {i j l : Nat}
theorem s_par2 (i j : Nat) (o : OKx b L X) (ha : PE X e1 (rE b W fa)) (hb : PE X e2 (rE b W fb)) (hi : X.N[i]? = some x := by rfl) (hj : X.N[j]? = some y := by rfl) (hij : i ≠ j := by decide) (hx : X.env.scope.names.lookup x = some .local := by rfl) (hy : X.env.scope.names.lookup y = some .local := by rfl)
    (hw : swappedStores [.Tuple [.Name x px, .Name y py] kt pt] (.Tuple [e1, e2] k2 pt2) X.env = pure (some [x, y]) := by rfl) (hs : swapsWithSole [.Tuple [.Name x px, .Name y py] kt pt] (.Tuple [e1, e2] k2 pt2) pos.line X.env = pure false := by rfl)
    (hs1 : starEach [e1, e2] X.env = (false, eval e1 X.env) :: starEach [e2] X.env := by rfl) (hs2 : starEach [e2] X.env = (false, eval e2 X.env) :: starEach [] X.env := by rfl) :
    PS X (.Assign [.Tuple [.Name x px, .Name y py] kt pt] (.Tuple [e1, e2] k2 pt2) pos) (rS b W (evPar2 i j fa fb)) := by
  refine PS.weak (ps_par o.calm o.nd hi hj hij hx hy (pa_cons ha (pa_cons hb pa_nil hs2) hs1) hw hs) fun D σ H ⟨b', S, ρ, eb, G, w⟩ => ⟨b', S, ρ, eb, G, ?_⟩
  refine Wp.mono (WpS.bind (σ := σ) (H := H) w) fun S1 H1 ρ1 r1 s1 G1 w1 v hv => ?_
  have w1' := Wp.re G1 (WpS.bind (σ := σ) (H := H1) w1)
  refine ⟨re b' σ S1 H1 ρ1, S1, ρ1, ⟨eb.1, eb.2, eb.3⟩, G1.re, Wp.mono w1' fun S2 H2 ρ2 r2 s2 G2 w2 u hu => ⟨v, u, rfl, ?_⟩⟩
  have G3 := G1.tr G2
  have hv3 := RR.turn G1 hv s2 G2
  have hu3 := RR.re G1 hu
  cases hn : (noSl r1 && noSl r2) with
  | false => exact wps_none (by simp only [hn]; rfl) w2
  | true =>
    obtain ⟨n1, n2⟩ := Bool.and_eq_true_iff.mp hn
    simp only [hn, if_true] at w2
    cases q1 : setR i r1 ρ2 with
    | none => exact wps_none (by simp only [q1]) w2
    | some ρ3 =>
      cases q2 : setR j r2 ρ3 with
      | none => exact wps_none (by simp only [q1, q2]) w2
      | some ρ4 =>
        simp only [q1, q2] at w2
        have G4 := G3.setR hv3 q1
        have hu4 := RR.wait hv3 hu3 (noSl_ne n2) (fun ds es e1 e2 => by subst e1 e2; exact RR.apart G1 hv hu) q1
        exact w2 _ S2 H2 (Hsub.refl _) (G4.setR hu4 q2)
theorem s_par3 (i j l : Nat) (o : OKx b L X) (ha : PE X e1 (rE b W fa)) (hb : PE X e2 (rE b W fb)) (hc : PE X e3 (rE b W fc)) (hi : X.N[i]? = some x := by rfl) (hj : X.N[j]? = some y := by rfl) (hl : X.N[l]? = some z := by rfl) (hij : i ≠ j := by decide) (hil : i ≠ l := by decide) (hjl : j ≠ l := by decide)
    (hx : X.env.scope.names.lookup x = some .local := by rfl) (hy : X.env.scope.names.lookup y = some .local := by rfl) (hz : X.env.scope.names.lookup z = some .local := by rfl)
    (hw : swappedStores [.Tuple [.Name x px, .Name y py, .Name z pz] kt pt] (.Tuple [e1, e2, e3] k2 pt2) X.env = pure (some [x, y, z]) := by rfl) (hs : swapsWithSole [.Tuple [.Name x px, .Name y py, .Name z pz] kt pt] (.Tuple [e1, e2, e3] k2 pt2) pos.line X.env = pure false := by rfl)
    (hs1 : starEach [e1, e2, e3] X.env = (false, eval e1 X.env) :: starEach [e2, e3] X.env := by rfl) (hs2 : starEach [e2, e3] X.env = (false, eval e2 X.env) :: starEach [e3] X.env := by rfl) (hs3 : starEach [e3] X.env = (false, eval e3 X.env) :: starEach [] X.env := by rfl) :
    PS X (.Assign [.Tuple [.Name x px, .Name y py, .Name z pz] kt pt] (.Tuple [e1, e2, e3] k2 pt2) pos) (rS b W (evPar3 i j l fa fb fc)) := by
  refine PS.weak (ps_par3 o.calm o.nd hi hj hl hij hil hjl hx hy hz (pa_cons ha (pa_cons hb (pa_cons hc pa_nil hs3) hs2) hs1) hw hs) fun D σ H ⟨b', S, ρ, eb, G, w⟩ => ⟨b', S, ρ, eb, G, ?_⟩
  refine Wp.mono (WpS.bind (σ := σ) (H := H) w) fun S1 H1 ρ1 r1 s1 G1 w1 v hv => ?_
  have w1' := Wp.re G1 (WpS.bind (σ := σ) (H := H1) w1)
  refine ⟨re b' σ S1 H1 ρ1, S1, ρ1, ⟨eb.1, eb.2, eb.3⟩, G1.re, Wp.mono w1' fun S2 H2 ρ2 r2 s2 G2 w2 u hu => ?_⟩
  have G3 := G1.tr G2
  have hv3 := RR.turn G1 hv s2 G2
  have hu3 := RR.re G1 hu
  have w2' := Wp.re G3 (WpS.bind (σ := σ) (H := H2) w2)
  refine ⟨re b' σ S2 H2 ρ2, S2, ρ2, ⟨eb.1, eb.2, eb.3⟩, G3.re, Wp.mono w2' fun S3 H3 ρ3 r3 s3 G4 w3 t ht => ⟨v, u, t, rfl, ?_⟩⟩
  have G5 := G3.tr G4
  have hv5 := RR.turn G3 hv3 s3 G4
  have hu5 := RR.turn G3 hu3 s3 G4
  have ht5 := RR.re G3 ht
  cases hn : (noSl r1 && (noSl r2 && noSl r3)) with
  | false => exact wps_none (by simp only [hn]; rfl) w3
  | true =>
    obtain ⟨n1, n23⟩ := Bool.and_eq_true_iff.mp hn
    obtain ⟨n2, n3⟩ := Bool.and_eq_true_iff.mp n23
    simp only [hn, if_true] at w3
    cases q1 : setR i r1 ρ3 with
    | none => exact wps_none (by simp only [q1]) w3
    | some ρ4 =>
      cases q2 : setR j r2 ρ4 with
      | none => exact wps_none (by simp only [q1, q2]) w3
      | some ρ5 =>
        cases q3 : setR l r3 ρ5 with
        | none => exact wps_none (by simp only [q1, q2, q3]) w3
        | some ρ6 =>
          simp only [q1, q2, q3] at w3
          have G6 := G5.setR hv5 q1
          have hu6 := RR.wait hv5 hu5 (noSl_ne n2) (fun ds es e1 e2 => by subst e1 e2; exact RR.apart G1 hv hu) q1
          have ht6 := RR.wait hv5 ht5 (noSl_ne n3) (fun ds es e1 e2 => by subst e1 e2; exact RR.apart G3 hv3 ht) q1
          have G7 := G6.setR hu6 q2
          have ht7 := RR.wait hu6 ht6 (noSl_ne n3) (fun ds es e1 e2 => by subst e1 e2; exact RR.apart G3 hu3 ht) q2
          exact w3 _ S3 H3 (Hsub.refl _) (G7.setR ht7 q3)

/-! ### names of the module: a number, a def -/
theorem pe_gint {i : Int} (h : ∃ t, X.mg x = some (.int i t)) (hg : Gl X x := by rfl) (hd : (x == ("__debug__" : Str)) = false := by decide) : PE X (.Name x px) (rE b W (evC (.int i))) := by
  obtain ⟨t, ht⟩ := h
  exact PE.weak (pe_glob hg ht (v := .int i) ⟨t, rfl⟩ hd) fun σ H Q ⟨b', S, ρ, eb, G, w⟩ => w S H (Hsub.refl _) G _ (.int i)
theorem pe_gfn {f : Addr} (o : OKx b L X) (h : X.mg x = some (.ref f)) (hg : Gl X x := by rfl) (hd : (x == ("__debug__" : Str)) = false := by decide) : PE X (.Name x px) (rE b W (evC (.fn x))) :=
  PE.weak (pe_glob hg h (v := .ref f) rfl hd) fun σ H Q ⟨b', S, ρ, eb, G, w⟩ => w S H (Hsub.refl _) G _ (.fn (by rw [eb.2, ← o.mg]; exact h))

/-! ### what is not reached -/
def evNo {α : Type} : M α := fun _ => none
theorem pe_no {e : Expr} : PE X e (rE b W evNo) := ⟨fun pins s σ H Q I ⟨b', S, ρ, eb, G, w⟩ => w.elim⟩
theorem pt_no {e : Expr} : PT X e (rT b W evNo) := ⟨fun pins s σ H Q I ⟨b', S, ρ, eb, G, w⟩ => w.elim⟩
theorem s_no {e : Stmt} : PS X e (rS b W evNo) := ⟨fun pins s σ H D I ⟨b', S, ρ, eb, G, w⟩ => w.elim⟩
theorem pi_no {tg e : Expr} : PI X tg e (iX b W evNo) := ⟨fun pins s σ H R I ⟨b', S, ρ, eb, G, w⟩ => w.elim⟩
end
end Mc
end
section
set_option Elab.async false
set_option linter.all false
set_option maxRecDepth 100000
set_option maxHeartbeats 4000000
set_option autoImplicit false
namespace Mc
open PySem PySem.Spec L2

/-! ### a def that stands in a slot is called -/
abbrev FTab := List (Str × Nat × (List D → Option DRes))
structure FTok (P : Program) (w : World) (K : PySem.W.Frag) (mg : Str → Option Value) (base : Heap) (k : Nat) (T : FTab) : Prop where
  ex : ∀ x n F, T.lookup x = some (n, F) → Dn P w K mg base x k n F
def evCallL (i : Nat) (T : FTab) (fs : M (List R)) : M R := fun ρ => match ρ[i]? with
  | some (.va (.fn x)) => (match T.lookup x with
    | some (n, F) => M.bnd fs (fun rs => if rs.length = n then noer (callK F rs) else fun _ => none) ρ
    | none => none)
  | _ => none
section
variable {b : Bs} {W : WX} {L k : Nat} {X : Cx} {p pos : Pos} {x : Str} {e1 : Expr} {es : List Expr} {fs : M (List R)} {T : FTab}
theorem noer_wf {f : M R} {σ : L2.St} {S H : Hp} {ρ : ES} {P : Hp → Hp → ES → R → Prop} (w : Wp b W σ (noer f) S H ρ P) : Wp b WF σ f S H ρ P := by
  unfold Wp WpO noer at w
  unfold Wp WpO
  cases e : f ρ with
  | none => rw [e] at w; exact w.elim
  | some z =>
    rw [e] at w
    cases z with
    | ok r ρ' => exact w
    | er _ _ => exact w.elim
theorem pe_fnL (i : Nat) (o : OKx b L X) (ft : FTok X.prog X.w X.K X.mg X.base k T) (ha : PA X (e1 :: es) (rAr b W fs)) (hk : k ≤ L := by decide) (hN : X.N[i]? = some x := by rfl) (hv : Vis X.env.scope x := by first | exact Or.inl rfl | exact Or.inr (Or.inl rfl) | exact Or.inr (Or.inr rfl))
    (hdb : (x == ("__debug__" : Str)) = false := by decide) (hcd : (x == ("__classdict__" : Str)) = false := by decide) (he : starEach (e1 :: es) X.env = (false, eval e1 X.env) :: starEach es X.env := by rfl) (hpl : (backTo pos (starEach es X.env)).any (·.1) = false := by rfl) :
    PE X (.Call (.Name x p) (e1 :: es) [] pos) (rE b W (evCallL i T fs)) := by
  refine ⟨fun pins s σ H Q I ⟨b', S, ρ, eb, G, w⟩ => ?_⟩
  unfold Wp WpO evCallL at w
  cases hi : ρ[i]? with
  | none => rw [hi] at w; exact w.elim
  | some sl =>
    rw [hi] at w
    cases sl with
    | va d =>
      cases d with
      | fn y =>
        cases hT : T.lookup y with
        | none => simp only [hT] at w
        | some nF =>
          obtain ⟨n, F⟩ := nF
          simp only [hT] at w
          obtain ⟨f, fd, ps, hm, kp, hb, Fk⟩ := (ft.ex y n F hT).ex
          obtain ⟨v, e1', r1⟩ := G.sl i _ hi
          have em : X.mg = b'.mg := by rw [o.mg, eb.2]
          cases r1 with
          | fn hy =>
            rw [← em, hm] at hy
            cases hy
            refine (pe_callL (E := E0) (dvs := []) (ds := []) Fk (o.rm.mono hk) hN hv kp hb .nil passL ha hdb hcd he hpl).run pins s σ H Q I ⟨e1', b', S, ρ, eb, G, ?_⟩
            refine Wp.mono (Wp.bind (f := fs) (g := fun rs => if rs.length = n then noer (callK F rs) else fun _ => none) w) fun S1 H1 ρ1 rs s1 G1 q vs hvs => ?_
            by_cases hn : rs.length = n
            · have q2 := wp_is (g := noer (callK F rs)) (by simp only [hn, if_true]) q
              have sp := call_wp hn G1 hvs (noer_wf q2)
              show spP X.K X.mg n F (vs ++ []) H1 Q E0
              rw [List.append_nil, o.K, o.mg, ← eb.1, ← eb.2]
              exact sp
            · exact wp_none (by simp only [hn, if_false]) q
      | _ => exact w.elim
    | _ => exact w.elim
end
end Mc
end
section
set_option Elab.async false
set_option linter.all false
set_option maxRecDepth 100000
set_option maxHeartbeats 4000000
set_option autoImplicit false
namespace Mc
open PySem PySem.Spec L2

/-! ### comparisons in one form -/
structure Cm (X : Cx) (b : Bs) (op : CmpOp) (g : D → D → Option R) : Prop where
  ex : ∃ r, OpR X (compareOp op) r ∧ Sem2 b.K g r
section
variable {b : Bs} {W : WX} {L k n : Nat} {X : Cx} {pos p : Pos} {e1 e2 e3 : Expr} {fa fb fc : M R} {op op' : CmpOp} {g g' : D → D → Option R} {x : Str} {es : List Expr} {fs : M (List R)}
theorem cm_eq (o : OKx b L X) : Cm X b .Eq eqD := ⟨⟨rEqD X.K, op_eqD (by have := o.un; omega), by rw [o.K]; exact sem2 fun b => sem_eq⟩⟩
theorem cm_ne (o : OKx b L X) : Cm X b .NotEq neD := ⟨⟨rNeD X.K, op_neD (by have := o.un; omega), by rw [o.K]; exact sem2 fun b => sem_ne⟩⟩
theorem cm_lt (o : OKx b L X) : Cm X b .Lt ltD := ⟨⟨_, op_lt' o, by rw [o.K]; exact sem2 (r := fun K => rOrd K fun p q => PySem.W.dataLt p q) fun b => sem_lt⟩⟩
theorem cm_gt (o : OKx b L X) : Cm X b .Gt gtD := ⟨⟨_, op_gt' o, by rw [o.K]; exact sem2 (r := fun K => rOrd K fun p q => PySem.W.dataLt q p) fun b => sem_gt⟩⟩
theorem cm_le (o : OKx b L X) : Cm X b .LtE leD := ⟨⟨_, op_le' o, by rw [o.K]; exact sem2 (r := fun K => rOrd K fun p q => !PySem.W.dataLt q p) fun b => sem_le⟩⟩
theorem cm_ge (o : OKx b L X) : Cm X b .GtE geD := ⟨⟨_, op_ge' o, by rw [o.K]; exact sem2 (r := fun K => rOrd K fun p q => !PySem.W.dataLt p q) fun b => sem_ge⟩⟩
theorem cm_in (o : OKx b L X) : Cm X b .In inD := ⟨⟨_, op_inU o, by rw [o.K]; exact sem2 (r := fun K => rInU K false) fun b => sem_in⟩⟩
theorem cm_nin (o : OKx b L X) : Cm X b .NotIn ninD := ⟨⟨_, op_ninU o, by rw [o.K]; exact sem2 (r := fun K => rInU K true) fun b => sem_nin⟩⟩
theorem cm_is (o : OKx b L X) : Cm X b .Is isD := ⟨⟨_, op_isK, fun b _ => sem_is⟩⟩
theorem cm_isnt (o : OKx b L X) : Cm X b .IsNot isntD := ⟨⟨_, op_isntK, fun b _ => sem_isnt⟩⟩
theorem pe_c (c : Cm X b op g) (ha : PE X e1 (rE b W fa)) (hb : PE X e2 (rE b W fb)) (hm : behindInMarks op e2 = false := by first | exact nomark _ | rfl) : PE X (.Compare e1 [op] [e2] pos) (rE b W (evBin g fa fb)) := by
  obtain ⟨r, h1, h2⟩ := c.ex
  exact pe_cmpM h1 h2 hm ha hb
theorem pt_c (c : Cm X b op g) (ha : PE X e1 (rE b W fa)) (hb : PE X e2 (rE b W fb)) (hm : behindInMarks op e2 = false := by first | exact nomark _ | rfl) : PT X (.Compare e1 [op] [e2] pos) (rT b W (evBl (evBin g fa fb))) := by
  obtain ⟨r, h1, h2⟩ := c.ex
  exact pt_cmpM h1 h2 hm ha hb
theorem pe_ch (c : Cm X b op g) (c' : Cm X b op' g') (ha : PE X e1 (rE b W fa)) (hb : PE X e2 (rE b W fb)) (hc : PE X e3 (rE b W fc)) (hm : lastMarks [op, op'] [e2, e3] = false := by with_unfolding_all rfl) : PE X (.Compare e1 [op, op'] [e2, e3] pos) (rE b W (evChain g g' fa fb fc)) := by
  obtain ⟨r, h1, h2⟩ := c.ex
  obtain ⟨r', h1', h2'⟩ := c'.ex
  exact pe_chainM h1 h1' h2 h2' ha hb hc hm
theorem pt_ch (c : Cm X b op g) (c' : Cm X b op' g') (ha : PE X e1 (rE b W fa)) (hb : PE X e2 (rE b W fb)) (hc : PE X e3 (rE b W fc)) (hm : lastMarks [op, op'] [e2, e3] = false := by with_unfolding_all rfl) : PT X (.Compare e1 [op, op'] [e2, e3] pos) (rT b W (evBl (evChain g g' fa fb fc))) := by
  obtain ⟨r, h1, h2⟩ := c.ex
  obtain ⟨r', h1', h2'⟩ := c'.ex
  exact pt_chainM h1 h1' h2 h2' ha hb hc hm

/-! ### levels -/
theorem Dn.up {P : Program} {w : World} {K : PySem.W.Frag} {mg : Str → Option Value} {base : Heap} {F : List D → Option DRes} (d : Dn P w K mg base x k n F) {j : Nat} (h : k ≤ j) : Dn P w K mg base x j n F := by
  obtain ⟨f, fd, ps, h1, h2, h3, h4⟩ := d.ex
  exact ⟨f, fd, ps, h1, h2, h3, h4.mono h⟩

/-! ### built-in functions by name -/
structure Bi (K : PySem.W.Frag) (mg : Str → Option Value) : Prop where
  len : mg "len" = none
  abs : mg "abs" = none
  int : mg "int" = none
  str : mg "str" = none
  bool : mg "bool" = none
  tuple : mg "tuple" = none
  list : mg "list" = none
  sum : mg "sum" = none
  any : mg "any" = none
  all : mg "all" = none
  max : mg "max" = none
  min : mg "min" = none
  sorted : mg "sorted" = none
  isinstance : mg "isinstance" = none
  range : mg "range" = none
  enumerate : mg "enumerate" = none
  zip : mg "zip" = none
end
end Mc
end
section
set_option Elab.async false
set_option linter.all false
set_option maxRecDepth 100000
set_option maxHeartbeats 4000000
set_option autoImplicit false
namespace Mc
open PySem PySem.Spec L2
section
variable {b : Bs} {W : WX} {L k n : Nat} {X : Cx} {pos p : Pos} {e1 e2 e3 : Expr} {fa fb fc : M R} {x : Str} {es : List Expr} {fs : M (List R)}
theorem pe_len (o : OKx b L X) (bi : Bi X.K X.mg) (ha : PA X (e1 :: es) (rAr b W fs)) (hg : Gl X "len" := by rfl)
    (he : starEach (e1 :: es) X.env = (false, eval e1 X.env) :: starEach es X.env := by rfl) (hpl : (backTo pos (starEach es X.env)).any (·.1) = false := by rfl) : PE X (.Call (.Name "len" p) (e1 :: es) [] pos) (rE b W (evB lenD fs)) :=
  pe_cB call_len (by first | exact sem_len | (rw [o.K]; exact sem_len)) ha bi.len (by decide +kernel) hg (by decide) (by decide) he hpl
theorem pe_abs (o : OKx b L X) (bi : Bi X.K X.mg) (ha : PA X (e1 :: es) (rAr b W fs)) (hg : Gl X "abs" := by rfl)
    (he : starEach (e1 :: es) X.env = (false, eval e1 X.env) :: starEach es X.env := by rfl) (hpl : (backTo pos (starEach es X.env)).any (·.1) = false := by rfl) : PE X (.Call (.Name "abs" p) (e1 :: es) [] pos) (rE b W (evB absD fs)) :=
  pe_cB call_abs (by first | exact sem_abs | (rw [o.K]; exact sem_abs)) ha bi.abs (by decide +kernel) hg (by decide) (by decide) he hpl
theorem pe_int (o : OKx b L X) (bi : Bi X.K X.mg) (ha : PA X (e1 :: es) (rAr b W fs)) (hg : Gl X "int" := by rfl)
    (he : starEach (e1 :: es) X.env = (false, eval e1 X.env) :: starEach es X.env := by rfl) (hpl : (backTo pos (starEach es X.env)).any (·.1) = false := by rfl) : PE X (.Call (.Name "int" p) (e1 :: es) [] pos) (rE b W (evB toiD fs)) :=
  pe_cT call_int1 (by first | exact sem_toi | (rw [o.K]; exact sem_toi)) ha bi.int (by decide +kernel) hg (by decide) (by decide) he hpl
theorem pe_str (o : OKx b L X) (bi : Bi X.K X.mg) (ha : PA X (e1 :: es) (rAr b W fs)) (hg : Gl X "str" := by rfl)
    (he : starEach (e1 :: es) X.env = (false, eval e1 X.env) :: starEach es X.env := by rfl) (hpl : (backTo pos (starEach es X.env)).any (·.1) = false := by rfl) : PE X (.Call (.Name "str" p) (e1 :: es) [] pos) (rE b W (evB strD fs)) :=
  pe_cT call_str_int (by first | exact sem_str | (rw [o.K]; exact sem_str)) ha bi.str (by decide +kernel) hg (by decide) (by decide) he hpl
theorem pe_tuple (o : OKx b L X) (bi : Bi X.K X.mg) (ha : PA X (e1 :: es) (rAr b W fs)) (hg : Gl X "tuple" := by rfl)
    (he : starEach (e1 :: es) X.env = (false, eval e1 X.env) :: starEach es X.env := by rfl) (hpl : (backTo pos (starEach es X.env)).any (·.1) = false := by rfl) : PE X (.Call (.Name "tuple" p) (e1 :: es) [] pos) (rE b W (evB tupD fs)) :=
  pe_cT call_tupX (by first | exact sem_tup | (rw [o.K]; exact sem_tup)) ha bi.tuple (by decide +kernel) hg (by decide) (by decide) he hpl
theorem pe_list (o : OKx b L X) (bi : Bi X.K X.mg) (ha : PA X (e1 :: es) (rAr b W fs)) (hg : Gl X "list" := by rfl)
    (he : starEach (e1 :: es) X.env = (false, eval e1 X.env) :: starEach es X.env := by rfl) (hpl : (backTo pos (starEach es X.env)).any (·.1) = false := by rfl) : PE X (.Call (.Name "list" p) (e1 :: es) [] pos) (rE b W (evB listD fs)) :=
  pe_cT call_list_of (by first | exact sem_list | (rw [o.K]; exact sem_list)) ha bi.list (by decide +kernel) hg (by decide) (by decide) he hpl
theorem pe_sum (o : OKx b L X) (bi : Bi X.K X.mg) (ha : PA X (e1 :: es) (rAr b W fs)) (hg : Gl X "sum" := by rfl)
    (he : starEach (e1 :: es) X.env = (false, eval e1 X.env) :: starEach es X.env := by rfl) (hpl : (backTo pos (starEach es X.env)).any (·.1) = false := by rfl) : PE X (.Call (.Name "sum" p) (e1 :: es) [] pos) (rE b W (evB sumD fs)) :=
  pe_cB (cr_sumA o.calm) (by first | exact sem_sum | (rw [o.K]; exact sem_sum)) ha bi.sum (by decide +kernel) hg (by decide) (by decide) he hpl
theorem pe_any (o : OKx b L X) (bi : Bi X.K X.mg) (ha : PA X (e1 :: es) (rAr b W fs)) (hg : Gl X "any" := by rfl)
    (he : starEach (e1 :: es) X.env = (false, eval e1 X.env) :: starEach es X.env := by rfl) (hpl : (backTo pos (starEach es X.env)).any (·.1) = false := by rfl) : PE X (.Call (.Name "any" p) (e1 :: es) [] pos) (rE b W (evB anyD fs)) :=
  pe_cB (cr_anyA o.calm) (by first | exact sem_any | (rw [o.K]; exact sem_any)) ha bi.any (by decide +kernel) hg (by decide) (by decide) he hpl
theorem pe_all (o : OKx b L X) (bi : Bi X.K X.mg) (ha : PA X (e1 :: es) (rAr b W fs)) (hg : Gl X "all" := by rfl)
    (he : starEach (e1 :: es) X.env = (false, eval e1 X.env) :: starEach es X.env := by rfl) (hpl : (backTo pos (starEach es X.env)).any (·.1) = false := by rfl) : PE X (.Call (.Name "all" p) (e1 :: es) [] pos) (rE b W (evB allD fs)) :=
  pe_cB (cr_allA o.calm) (by first | exact sem_all | (rw [o.K]; exact sem_all)) ha bi.all (by decide +kernel) hg (by decide) (by decide) he hpl
theorem pe_max1 (o : OKx b L X) (bi : Bi X.K X.mg) (ha : PA X (e1 :: es) (rAr b W fs)) (hg : Gl X "max" := by rfl)
    (he : starEach (e1 :: es) X.env = (false, eval e1 X.env) :: starEach es X.env := by rfl) (hpl : (backTo pos (starEach es X.env)).any (·.1) = false := by rfl) : PE X (.Call (.Name "max" p) (e1 :: es) [] pos) (rE b W (evB (best1D true) fs)) :=
  pe_cB (cr_max1 o) (by first | exact sem_best1 | (rw [o.K]; exact sem_best1)) ha bi.max (by decide +kernel) hg (by decide) (by decide) he hpl
theorem pe_max2 (o : OKx b L X) (bi : Bi X.K X.mg) (ha : PA X (e1 :: es) (rAr b W fs)) (hg : Gl X "max" := by rfl)
    (he : starEach (e1 :: es) X.env = (false, eval e1 X.env) :: starEach es X.env := by rfl) (hpl : (backTo pos (starEach es X.env)).any (·.1) = false := by rfl) : PE X (.Call (.Name "max" p) (e1 :: es) [] pos) (rE b W (evB (best2D true) fs)) :=
  pe_cB (cr_max2d o) (by first | exact sem_best2 | (rw [o.K]; exact sem_best2)) ha bi.max (by decide +kernel) hg (by decide) (by decide) he hpl
theorem pe_min1 (o : OKx b L X) (bi : Bi X.K X.mg) (ha : PA X (e1 :: es) (rAr b W fs)) (hg : Gl X "min" := by rfl)
    (he : starEach (e1 :: es) X.env = (false, eval e1 X.env) :: starEach es X.env := by rfl) (hpl : (backTo pos (starEach es X.env)).any (·.1) = false := by rfl) : PE X (.Call (.Name "min" p) (e1 :: es) [] pos) (rE b W (evB (best1D false) fs)) :=
  pe_cB (cr_min1 o) (by first | exact sem_best1 | (rw [o.K]; exact sem_best1)) ha bi.min (by decide +kernel) hg (by decide) (by decide) he hpl
theorem pe_min2 (o : OKx b L X) (bi : Bi X.K X.mg) (ha : PA X (e1 :: es) (rAr b W fs)) (hg : Gl X "min" := by rfl)
    (he : starEach (e1 :: es) X.env = (false, eval e1 X.env) :: starEach es X.env := by rfl) (hpl : (backTo pos (starEach es X.env)).any (·.1) = false := by rfl) : PE X (.Call (.Name "min" p) (e1 :: es) [] pos) (rE b W (evB (best2D false) fs)) :=
  pe_cB (cr_min2d o) (by first | exact sem_best2 | (rw [o.K]; exact sem_best2)) ha bi.min (by decide +kernel) hg (by decide) (by decide) he hpl
theorem pe_sorted (o : OKx b L X) (bi : Bi X.K X.mg) (ha : PA X (e1 :: es) (rAr b W fs)) (hg : Gl X "sorted" := by rfl)
    (he : starEach (e1 :: es) X.env = (false, eval e1 X.env) :: starEach es X.env := by rfl) (hpl : (backTo pos (starEach es X.env)).any (·.1) = false := by rfl) : PE X (.Call (.Name "sorted" p) (e1 :: es) [] pos) (rE b W (evB srtD fs)) :=
  pe_cB (cr_srt o) (by first | exact sem_srt | (rw [o.K]; exact sem_srt)) ha bi.sorted (by decide +kernel) hg (by decide) (by decide) he hpl
end
end Mc
end
section
set_option Elab.async false
set_option linter.all false
set_option maxRecDepth 100000
set_option maxHeartbeats 4000000
set_option autoImplicit false
namespace Mc
open PySem PySem.Spec L2

/-! ### a dict of tuple keys, by its entries alone: the keys are known elsewhere -/
abbrev Ks := List (List Key × Addr × Value)
abbrev TKd (P : Program) (w : World) : HeapKind P w (List Key) := tupleKind (mixKind P w)
def RawP (P : Program) (w : World) (D : Addr) (xs : Ks) (h : Heap) : Prop := (D == sysModules) = false ∧ (xs.map (·.1)).Nodup ∧ ∃ o es ep, h.get? D = some o ∧ o.ExactDict ∧ o.data = .dict es ep ∧ es.toList = xs.map (entryOfKey (TKd P w))
def rawO (P : Program) (w : World) (D : Addr) (xs : Ks) : HO := .ext (RawP P w D xs)
theorem rawO_noTab {P : Program} {w : World} {D : Addr} {xs : Ks} : NoTab (rawO P w D xs) := fun ps z => (by unfold rawO at z; cases z)
def KeysIn (K : PySem.W.Frag) (S : Hp) (xs : Ks) : Prop := ∀ x ∈ xs, SqT K S x.2.1 (x.1.map kV)
theorem rawO_ok {P : Program} {w : World} {H : Hp} {h : Heap} {D : Addr} {xs : Ks} (r : RawP P w D xs h) : ObjOk P w H h D (rawO P w D xs) := by
  obtain ⟨a1, a2, o, es, ep, h1, h2⟩ := r
  exact ⟨⟨a1, a2, o, es, ep, h1, h2⟩, ⟨o, h1⟩, fun g g' ⟨_, _, o', es', ep', q, q2⟩ k => ⟨a1, a2, o', es', ep', k _ q, q2⟩⟩
section
variable {X : Cx} {pins : List (Addr × Obj)} {σ : L2.St} {H : Hp} {s : Shared} {D : Addr} {xs : Ks}
theorem raw_of (I : Inv X pins σ H s) (e : H D = some (rawO X.prog X.w D xs)) : RawP X.prog X.w D xs s.heap := (show ObjOk X.prog X.w H s.heap D (rawO X.prog X.w D xs) from I.hok D _ e).1
theorem key_sqt (I : Inv X pins σ H s) {a : Addr} {ks : List Key} (t : SqT X.K H a (ks.map kV)) : (TKd X.prog X.w).is s.heap ks a := by
  obtain ⟨its, r, ⟨o, h1, h2, n, h3⟩, hz⟩ := I.tuple t
  exact ⟨o, its.toArray, n, h1, h2, h3, by simpa using items_are r⟩
theorem raw_dict (I : Inv X pins σ H s) (e : H D = some (rawO X.prog X.w D xs)) (ki : KeysIn X.K H xs) : s.heap.DictOfH (TKd X.prog X.w) D xs := by
  obtain ⟨_, nd, o, es, ep, h1, h2, h3, h4⟩ := raw_of I e
  exact ⟨o, es, ep, h1, h2, h3, h4, fun x hx => key_sqt I (ki x hx), nd⟩
theorem raw_put {E : Value → Shared → Prop} {k : List Key} {q : Addr} {r : Value} {Q : Unit → Shared → Prop} (hu : X.A.units < cLine) (I : Inv X pins σ H s) (e : H D = some (rawO X.prog X.w D xs)) (ki : KeysIn X.K H xs) (hk : SqT X.K H q (k.map kV)) (hz : xs.length < sizeLine)
    (h : ∀ s', Inv X pins σ (upd H D (rawO X.prog X.w D (storedH xs k q r))) s' → Q () s') : wpAny (model X.prog X.w) X.A (dictSet D (.ref q) r) Q E s := by
  have hd := (raw_of I e).1
  refine wpAny_dictSet_heap (hsz := Nat.le_of_lt hz) (knd := TKd X.prog X.w) hu (key_sqt I hk) (raw_dict I e ki) fun h' dd sb => h _ ?_
  obtain ⟨o, es, ep, h1, h2, h3, h4, _, h5⟩ := dd
  exact d_write I (by rw [e]; exact True.intro) sb ⟨o, h1⟩ (rawO_ok ⟨hd, h5, o, es, ep, h1, h2, h3, h4⟩)
def rLenX (P : Program) (w : World) (K : PySem.W.Frag) : List V → Hp → VK → Prop := fun vs H Q => ∃ D xs, vs = [.ref D] ∧ H D = some (rawO P w D xs) ∧ KeysIn K H xs ∧ xs.length < sizeLine ∧ Q (.int xs.length) H
theorem call_lenX : CallR X (.builtin "len") (rLenX X.prog X.w X.K) := by
  intro pins s σ H vs us Q I r ⟨D, xs, e, eD, ki, hz, q⟩
  subst e
  obtain ⟨u, rfl, rx⟩ := vals1 r
  cases rx
  have hl : ((xs.length : Nat) : Int) < 2 ^ 63 := by rw [sizeLine_eq] at hz; omega
  exact call_len_dictH (raw_of I eD).1 (raw_dict I eD ki) hl ⟨.int _, H, I.tok _, ⟨_, rfl⟩, q⟩
/-- {k: v for ..}: the keys tuples -/
def tDcX (P : Program) (w : World) (K : PySem.W.Frag) (wi : TI) (g : TG) (tt : TT) (tk tv : TE) (vs : List Nat) : TE := fun σ H Q => wi σ H fun J H1 => ∀ D, H1 D = none → ∃ Z : Nat → Nat → Hp → Prop, (∃ m, Z 0 m (upd H1 D (rawO P w D []))) ∧
  ∀ i m H', Z i m H' → (J.stop i H' ∧ Q (.ref D) H') ∨ (J.go i H' ∧ ∃ Y : Hp → Prop, (∀ G, Y G → ∃ m', m' < m ∧ Z (i + 1) m' G) ∧ ∀ x G, J.yld i H' x G → g x (L2.wipe σ vs) G fun σ2 H2 => L2.wipe σ2 vs = L2.wipe σ vs ∧
    tt σ2 H2 fun c H3 => if c = true then tk σ2 H3 fun y H4 => tv σ2 H4 fun _ H5 => ∃ xs k q, y = .ref q ∧ SqT K H5 q (k.map kV) ∧ KeysIn K H5 xs ∧ H5 D = some (rawO P w D xs) ∧ xs.length < sizeLine ∧ ∀ r : Value, Y (upd H5 D (rawO P w D (storedH xs k q r))) else Y H3)
end
end Mc
end
section
set_option Elab.async false
set_option linter.all false
set_option maxRecDepth 100000
set_option maxHeartbeats 4000000
set_option autoImplicit false
namespace Mc
open PySem PySem.Spec L2
section
variable {X : Cx}
abbrev AtB (X : Cx) (scope : Scope) (F : Cx → Prop) : Prop := ∀ (s : Shared) (H : Hp) (C : Addr) (cl : List (Str × Addr)) (fp : List Addr), F (X.blk s H scope (compEnvC scope cl C X.env) fp)
theorem pe_dcX {kx vx tg iter : Expr} {ifs : List Expr} {scope : Scope} {own : List (Str × Nat)} {pos : Pos} {wi : TI} {g : TG} {tt : TT} {tk tv : TE} (hu : X.A.units < cLine) (hc : X.calm = true) (hN : X.N.Nodup) (hi : PI X tg iter wi) (ok : BlkOk X.N X.env.scope scope own)
    (hg : AtB X scope fun Y => PG Y tg g) (ht : AtB X scope fun Y => PTs Y ifs tt) (hk : AtB X scope fun Y => PE Y kx tk) (he : AtB X scope fun Y => PE Y vx tv) (hs : ∀ x, foldedSetIterable iter X.env x = pure x := by intro _; rfl) :
    PE X (.DictComp kx vx [⟨tg, iter, ifs, 0⟩] scope pos) (tDcX X.prog X.w X.K wi g tt tk tv (own.map (·.2))) := by
  refine ⟨fun pins s σ H Q I h => ?_⟩
  rw [arm_eval_DictComp]
  have hfr : ∀ y ∈ scope.names, y.2 = .free → ∃ c, X.env.cells.lookup y.1 = some c := fun y hy e => (ok.free y hy e).elim (fun k => I.ok.has _ (.inl k)) fun k => I.ok.has _ (.inr k)
  refine wpAny_comprehension_free (use := none) rfl hs (closure_ok hfr) ok.kind (fun y hy e => by rw [ok.uniq y hy, e]) (thn (hi.run pins s σ H _ I h) fun xv s1 hx => thn hx fun itv s2 ⟨it, fp, tn, J, H2, e, I2, T, st2, f2, q⟩ => ?_)
  subst e
  refine wpAny_newObj_type (newEnv_comp ?_)
  generalize hD : s2.heap.objs.size = D
  have nD : H2 D = none := I2.hok.fresh (Nat.le_of_eq hD)
  obtain ⟨Z, ⟨m0, z0⟩, turn⟩ := q D nD
  generalize e3 : ({ s2 with heap := s2.heap.push { cls := .type "dict", data := .dict #[] } } : Shared) = s3
  generalize eH : upd H2 D (rawO X.prog X.w D []) = H3 at z0
  have I3 : Inv X pins σ H3 s3 := by
    rw [← e3, ← eH]
    refine I2.laid (t' := s2.toks) (fun b o e => Heap.get?_push_of_some _ e) (Nat.le_of_eq hD) ?_
    subst hD
    exact rawO_ok ⟨beq_eq_false_iff_ne.mpr (Ne.symm (Nat.ne_of_lt I2.big)), List.nodup_nil, _, #[], 0, Heap.get?_push_size _ rfl, ⟨rfl, rfl, rfl⟩, rfl, rfl⟩
  have p3 : s3.heap = s2.heap.push { cls := .type "dict", data := .dict #[] } := by rw [← e3]
  have lt : ∀ b ∈ fp, b < s2.heap.objs.size := fun b hb => let ⟨_, e, _⟩ := T.obj _ _ st2 b hb; Heap.lt_size e
  have f3 : ∀ b ∈ fp, FpOk X pins H3 b ∧ b < s3.heap.objs.size := fun b hb => by
    have l := lt b hb
    refine ⟨⟨?_, (f2 b hb).2⟩, by rw [p3, Heap.size_push]; exact Nat.lt_succ_of_lt l⟩
    rw [← eH, upd_ne (by rw [← hD]; exact Nat.ne_of_lt l)]
    exact (f2 b hb).1
  have st3 : tn 0 s3.heap := T.keep _ _ _ st2 fun b _ o e => by rw [p3]; exact Heap.get?_push_of_some _ e
  have I4 := block_start I3 ok hN f3
  have qg := hg s3 H3 s3.heap.objs.size (cellsFrom (s3.heap.objs.size + 1) scope.names (cloFrom X.env.cells scope.names [])) fp
  have qt := ht s3 H3 s3.heap.objs.size (cellsFrom (s3.heap.objs.size + 1) scope.names (cloFrom X.env.cells scope.names [])) fp
  have qk := hk s3 H3 s3.heap.objs.size (cellsFrom (s3.heap.objs.size + 1) scope.names (cloFrom X.env.cells scope.names [])) fp
  have qv := he s3 H3 s3.heap.objs.size (cellsFrom (s3.heap.objs.size + 1) scope.names (cloFrom X.env.cells scope.names [])) fp
  show codeAny _ _ (.compStart (.DictComp kx vx [⟨tg, iter, ifs, 0⟩] scope pos) 0 (.ref it) (.ref D) (compEnvC scope (cellsFrom (s3.heap.objs.size + 1) scope.names (cloFrom X.env.cells scope.names [])) s3.heap.objs.size X.env)) (compPost (model X.prog X.w) X.A X.xe none _ (.ref D) s3.heap.objs.size) { s3 with heap := pushCells (s3.heap.push { cls := .type "dict", data := .dict #[] }) scope.names }
  have nfp : ∀ b ∈ fp, H3 b = none := fun b hb => (f3 b hb).1.1
  generalize ece : compEnvC scope (cellsFrom (s3.heap.objs.size + 1) scope.names (cloFrom X.env.cells scope.names [])) s3.heap.objs.size X.env = ce at I4 qg qt qk qv ⊢
  have eL : ce.locals = s3.heap.objs.size := by subst ece; rfl
  generalize e4 : ({ s3 with heap := pushCells (s3.heap.push { cls := .type "dict", data := .dict #[] }) scope.names } : Shared) = s4 at I4 ⊢
  have st4 : tn 0 s4.heap := T.keep _ _ _ st3 fun b _ o e => by rw [← e4]; exact pushCells_keeps _ _ _ _ (Heap.get?_push_of_some _ e)
  have stat : ∀ {τ : L2.St} {G : Hp} {t : Shared}, Inv (X.blk s3 H3 scope ce fp) [] τ G t → (∀ b ∈ fp, G b = none) → ∀ b ∈ fp, FpOk (X.blk s3 H3 scope ce fp) [] G b := fun I' hn b hb =>
    ⟨hn b hb, (I'.ok.exf b hb).1, I'.ok.exfs b hb, .inl hb, fun x c e => (I'.ok.exf b hb).2 x c e, fun p hp => absurd (show p ∈ ([] : List (Addr × Obj)) ++ [] from hp) (by simp)⟩
  have lp : codeAny (model X.prog X.w) X.A (.compLoop (.DictComp kx vx [⟨tg, iter, ifs, 0⟩] scope pos) 0 (.ref it) (.ref D) ce) (compPost (model X.prog X.w) X.A X.xe none (fun v s' => EP X pins σ Q v s') (.ref D) s3.heap.objs.size) s4 := by
    refine compLoop_anyD (fun n t => ∃ i G, Inv (X.blk s3 H3 scope ce fp) [] (L2.wipe σ (own.map (·.2))) G t ∧ tn i t.heap ∧ (∀ b ∈ fp, G b = none) ∧ Z i n G) ?_ m0 ⟨0, H3, I4, st4, nfp, z0⟩
    rintro n s5 ⟨i, H5, I5, st5, n5, z5⟩
    rcases turn i n H5 z5 with ⟨stop, qq⟩ | ⟨go, Y, hY, step⟩
    · refine thnF (T.done (X.blk s3 H3 scope ce fp) rfl rfl rfl hc i [] s5 _ H5 (fun _ _ => False) I5 (stat I5 n5) st5 stop) fun r s6 ⟨hr, I6⟩ => ?_
      subst hr
      have I7 : Inv X pins σ H5 s6 := I3.call' (ch := fp) I6.os I6.base I6.hok I6.bare fun b hb => ⟨(f3 b hb).1.2.2.2.1, (f3 b hb).1.2.1, (f3 b hb).1.2.2.2.2.1, (f3 b hb).1.2.2.2.2.2⟩
      have nC : H5 s3.heap.objs.size = none := eL ▸ (show H5 ce.locals = none from I6.free)
      obtain ⟨m, hn, _⟩ := I6.loc
      have hn2 : s6.heap.Ns ce.locals m := hn
      rw [eL] at hn2
      refine ⟨m, hn2, fun h'' sb => ?_⟩
      obtain ⟨g0, g1, g2, g3, g4, g5⟩ := I3.fpOk (Nat.le_refl _) nC
      exact ⟨.ref D, H5, I7.turned (t' := s6.toks) (fun b o hb e => (sb.2 b hb).trans e) g0 g1 g3 g4 g5, rfl, qq⟩
    · refine thnF (T.item (X.blk s3 H3 scope ce fp) rfl rfl rfl hc i [] s5 _ H5 (fun _ _ => False) I5 (stat I5 n5) st5 go) fun r s6 ⟨u, hr, h6⟩ => ?_
      subst hr
      refine thnF h6 fun _ s7 ⟨x, H7, I7, r7, y7, st7, n7⟩ => ?_
      refine thnF (qg.run _ s7 _ H7 x u _ (I7.pinned (stat I7 n7) (T.obj _ _ st7)) r7 (step x H7 y7)) fun _ s8 ⟨σ8, H8, I8, hw8, q8⟩ => ?_
      refine thnF (qt.run _ s8 σ8 H8 _ I8 q8) fun c s9 ⟨H9, I9, q9⟩ => ?_
      have fin : ∀ {t : Shared} {G : Hp}, Inv (X.blk s3 H3 scope ce fp) ([] ++ pinsAt fp s7.heap) σ8 G t → Y G → ∃ m, m < n ∧ ∃ i G, Inv (X.blk s3 H3 scope ce fp) [] (L2.wipe σ (own.map (·.2))) G t ∧ tn i t.heap ∧ (∀ b ∈ fp, G b = none) ∧ Z i m G := fun {t G} I' y => by
        obtain ⟨m', hm, w'⟩ := hY G y
        have pn : ∀ b ∈ fp, ∀ o, s7.heap.get? b = some o → t.heap.get? b = some o ∧ G b = none := fun b hb o e => let z := I'.pin (b, o) (List.mem_append_right _ (List.mem_append_right _ (mem_pinsAt hb e))); ⟨z.1, z.2.1⟩
        have hl : (L2.wipe σ (own.map (·.2))).length = σ8.length := by rw [← hw8, L2.wipe_length]
        exact ⟨m', hm, i + 1, G, (I'.unpinned (pins := [])).weak hl (fun j v e => (wipe_some (hw8 ▸ e)).1), T.keep _ _ _ st7 fun b hb o e => (pn b hb o e).1, fun b hb => let ⟨o, e, _⟩ := T.obj _ _ st7 b hb; (pn b hb o e).2, w'⟩
      cases c with
      | false =>
        simp only [Bool.false_eq_true, if_false] at q9 ⊢
        exact fin I9 q9
      | true =>
        simp only [if_true] at q9 ⊢
        refine thnF (qk.run _ s9 σ8 H9 _ I9 q9) fun z s10 ⟨yk, H10, I10, r10, q10⟩ => ?_
        refine thnF (qv.run _ s10 σ8 H10 _ I10 q10) fun z2 s11 ⟨yv, H11, I11, r11, xs, k, a, ek, hk11, ki11, hD11, hz11, y⟩ => ?_
        subst ek
        cases r10
        exact raw_put (X := X.blk s3 H3 scope ce fp) hu I11 hD11 ki11 hk11 hz11 fun s12 I12 => fin I12 (y z2)
  exact codeAny_compStart_dict lp (T.self X.A 0 _ _ _ st4 lp)
end
end Mc
end
section
set_option Elab.async false
set_option linter.all false
set_option maxRecDepth 100000
set_option maxHeartbeats 4000000
set_option autoImplicit false
namespace Mc
open PySem PySem.Spec L2

/-! ### len({k: v for ..}), the keys tuples of numbers and texts -/
def keyOf : D → Option Key
  | .int i => some (.inl i)
  | .str s => some (.inr s)
  | _ => none
def keysOf : List D → Option (List Key)
  | [] => some []
  | d :: ds => match keyOf d, keysOf ds with
    | some k, some ks => some (k :: ks)
    | _, _ => none
def keyT : D → Option (List Key)
  | .tup ds => keysOf ds
  | _ => none
def insK (k : List Key) (ks : List (List Key)) : List (List Key) := if (ks.any fun x => decide (x = k)) = true then ks else ks ++ [k]
theorem Rps.keys {K : PySem.W.Frag} {mg : Str → Option Value} {S : Hp} : ∀ {ds : List D} {vs : List V} {ks : List Key}, Rps K mg S vs ds → keysOf ds = some ks → vs = ks.map kV
  | [], _, _, r, h => by cases r; cases h; rfl
  | d :: ds, _, ks, r, h => by
    cases r with
    | cons r1 r2 =>
      unfold keysOf at h
      cases h1 : keyOf d with
      | none => rw [h1] at h; cases h
      | some k =>
        cases h2 : keysOf ds with
        | none => rw [h1, h2] at h; cases h
        | some ks' =>
          rw [h1, h2] at h
          cases h
          rw [List.map_cons, ← Rps.keys r2 h2]
          cases d with
          | int i => cases h1; cases r1; rfl
          | str s => cases h1; cases r1; rfl
          | _ => cases h1
theorem stored_keys {xs : Ks} {k : List Key} {q : Addr} {r : Value} : (storedH xs k q r).map (·.1) = insK k (xs.map (·.1)) := by
  unfold insK
  cases h : atKey xs k with
  | none =>
    rw [storedH_new h, if_neg]
    · simp
    · intro hm
      unfold atKey at h
      obtain ⟨z, hz, ez⟩ := List.any_eq_true.mp hm
      obtain ⟨x, hx, e⟩ := List.mem_map.mp hz
      have e := e.trans (of_decide_eq_true ez)
      have := List.find?_eq_none.mp (Option.map_eq_none_iff.mp h) x hx
      simp [e] at this
  | some p =>
    rw [storedH_old h, keys_map_putAt, if_pos]
    unfold atKey at h
    obtain ⟨x, hx, _⟩ := Option.map_eq_some_iff.mp h
    have h1 := List.find?_some hx
    exact List.any_eq_true.mpr ⟨x.1, List.mem_map.mpr ⟨x, List.mem_of_find?_eq_some hx, rfl⟩, h1⟩
theorem stored_in {K : PySem.W.Frag} {S : Hp} {xs : Ks} {k : List Key} {q : Addr} {r : Value} (h : KeysIn K S xs) (hk : SqT K S q (k.map kV)) : KeysIn K S (storedH xs k q r) := by
  intro x hx
  cases e : atKey xs k with
  | none =>
    rw [storedH_new e] at hx
    rcases List.mem_append.mp hx with z | z
    · exact h x z
    · rw [List.mem_singleton.mp z]; exact hk
  | some p =>
    rw [storedH_old e] at hx
    obtain ⟨y, hy, rfl⟩ := List.mem_map.mp hx
    unfold putAt
    split
    · exact h y hy
    · exact h y hy
def dcM (vs : List Nat) (t : Tg) (c : M Bool) (fk fv : M R) : List D → List (List Key) → ES → Option (ES × List (List Key))
  | [], acc, ρ => some (ρ, acc)
  | d :: ds, acc, ρ => match t d ρ with
    | none => none
    | some ρ1 => match c ρ1 with
      | some (.ok false ρ2) => dcM vs t c fk fv ds acc (wipeE ρ2 vs)
      | some (.ok true ρ2) => (match M.bnd (frzM fk) frzS ρ2 with
        | some (.ok y ρ3) => (match keyT y, M.bnd (frzM fv) frzS ρ3 with
          | some k, some (.ok _ ρ4) => if few acc = true then dcM vs t c fk fv ds (insK k acc) (wipeE ρ4 vs) else none
          | _, _ => none)
        | _ => none)
      | _ => none
def evDcLen (vs : List Nat) (fi : M (List D)) (t : Tg) (c : M Bool) (fk fv : M R) : M R := M.bnd fi fun ds ρ => match dcM vs t c fk fv ds [] (wipeE ρ vs) with
  | some (ρ', acc) => if few acc = true then some (.ok (.va (.int acc.length)) (unwipe ρ ρ' vs)) else none
  | none => none
section
variable {b : Bs} {W : WX} {L : Nat} {X : Cx} {pos p0 p1 : Pos} {tg iter kx vx : Expr} {fk fv : M R} {ifs : List Expr}
structure GrowD (P : Program) (w : World) (b : Bs) (σ : L2.St) (S H : Hp) (ρ : ES) (p : Addr) (ks : List (List Key)) : Prop where
  good : Good b σ S H ρ
  at_ : ∃ xs : Ks, H p = some (rawO P w p xs) ∧ KeysIn b.K S xs ∧ xs.map (·.1) = ks
  fr : S p = none
  no : ∀ i, ¬ Own ρ σ i p
  h0 : b.H0 p = none
theorem KeysIn.mono {K : PySem.W.Frag} {S S' : Hp} {xs : Ks} (h : KeysIn K S xs) (s : Hsub S S') : KeysIn K S' xs := fun x hx => sqt_mono s (h x hx)
theorem GrowD.turn {P : Program} {w : World} {σ σ' : L2.St} {S S' H H' : Hp} {ρ ρ' : ES} {p : Addr} {ks : List (List Key)} (g : GrowD P w b σ S H ρ p ks) (s : Hsub S S') (G' : Good (re b σ S H ρ) σ' S' H' ρ') : GrowD P w b σ' S' H' ρ' p ks := by
  obtain ⟨xs, h1, h2, h3⟩ := g.at_
  have nB : ¬ (re b σ S H ρ).B p := fun z => z.elim (fun ⟨i, w⟩ => g.no i w) fun ⟨q, w⟩ => tab_ne (g.good.tab p q w).1 h1 rawO_noTab rfl
  refine ⟨g.good.tr G', ⟨xs, G'.k0 p _ h1 nB, h2.mono s, h3⟩, ?_, fun i w => ?_, g.h0⟩
  · cases e : S' p with
    | none => rfl
    | some o =>
      rcases G'.n0 p (by rw [e]; exact fun z => nomatch z) with z | z | z
      · exact (z g.fr).elim
      · have z' : H p = none := z
        rw [h1] at z'; cases z'
      · exact (nB z).elim
  · rcases G'.o0 i p w with z | z
    · have z' : H p = none := z
      rw [h1] at z'; cases z'
    · exact nB z
theorem dcl_wp {P : Program} {wd : World} {is vs : List Nat} {fi : M (List D)} {t : Tg} {c : M Bool} {σ : L2.St} {S H : Hp} {ρ : ES} {Q : VK} {b0 : Bs} (eb : EqB b b0) (his : ∀ j ∈ is, j ∈ vs) (G : Good b σ S H ρ)
    (w : Wp b W σ (evDcLen vs fi t c fk fv) S H ρ fun S' H' ρ' r => ∀ v, RR b σ S' H' ρ' v r → Q v H') :
    tDcX P wd b.K (iX b0 W fi) (rG b0 is t) (rT b0 WF c) (rE b0 WF fk) (rE b0 WF fv) vs σ H fun x H1 => rLenX P wd b.K [x] H1 Q := by
  refine ⟨b, S, ρ, eb, G, Wp.mono (Wp.bind w) fun S1 H1 ρ1 ds s1 G1 w1 J wk p hp => ?_⟩
  cases hc : dcM vs t c fk fv ds [] (wipeE ρ1 vs) with
  | none => exact wp_none (by simp only [hc]) w1
  | some r =>
    obtain ⟨ρf, accf⟩ := r
    have hfew : few accf = true := by
      cases h : few accf with
      | true => rfl
      | false => exact wp_none (by simp only [hc, h]; rfl) w1
    have wend : ∀ S' H', Hsub S1 S' → Good b σ S' H' (unwipe ρ1 ρf vs) → ∀ v, RR b σ S' H' (unwipe ρ1 ρf vs) v (.va (.int accf.length)) → Q v H' := fun S' H' s' G' =>
      wp_ok (a := R.va (.int accf.length)) (by simp only [hc, hfew, if_true]) w1 s' G'
    have g0 : GrowD P wd b (L2.wipe σ vs) S1 (upd H1 p (rawO P wd p [])) (wipeE ρ1 vs) p [] := ⟨(G1.wipe vs).newH hp, ⟨[], upd_same, (fun x hx => nomatch hx), rfl⟩, G1.sn hp, (fun i wo => by
      obtain ⟨⟨u, e⟩, _⟩ := (G1.wipe vs).ownat wo
      rw [hp] at e; cases e), G1.f0 _ hp⟩
    refine ⟨fun i m H2 => m = ds.length - i ∧ i ≤ ds.length ∧ ∃ S2 ρ2 acc, Hsub S1 S2 ∧ GrowD P wd b (L2.wipe σ vs) S2 H2 ρ2 p acc ∧ dcM vs t c fk fv (ds.drop i) acc ρ2 = some (ρf, accf), ⟨ds.length, by simp, Nat.zero_le _, S1, _, [], Hsub.refl _, g0, by rw [List.drop_zero]; exact hc⟩, ?_⟩
    rintro i m H2 ⟨rfl, hi, S2, ρ2, acc, s2, g2, hc2⟩
    by_cases hlt : i < ds.length
    · refine Or.inr ⟨wk.go b _ S2 H2 ρ2 i rfl rfl s2 g2.good hlt, fun H3 => ∃ S3 ρ3 acc, Hsub S1 S3 ∧ GrowD P wd b (L2.wipe σ vs) S3 H3 ρ3 p acc ∧ dcM vs t c fk fv (ds.drop (i + 1)) acc ρ3 = some (ρf, accf), fun H3 q => ⟨ds.length - (i + 1), by omega, rfl, hlt, q⟩, fun x H3 y => ?_⟩
      have eb2 : EqB (re b (L2.wipe σ vs) S2 H2 ρ2) b0 := ⟨eb.1, eb.2, eb.3⟩
      obtain ⟨S3, s3, G3, r3⟩ := wk.yld (re b (L2.wipe σ vs) S2 H2 ρ2) _ S2 H2 H3 ρ2 i _ x rfl rfl s2 g2.good.re (List.getElem?_eq_getElem hlt) y
      rw [List.drop_eq_getElem_cons hlt] at hc2
      unfold dcM at hc2
      cases ht : t ds[i] ρ2 with
      | none => rw [ht] at hc2; cases hc2
      | some ρ3 =>
        simp only [ht] at hc2
        refine ⟨_, S3, ρ2, ds[i], ρ3, eb2, G3, r3, ht, fun σ4 G4 k4 l4 => ?_⟩
        have hw : L2.wipe σ4 vs = L2.wipe σ vs := by
          refine wipe_eq (by rw [l4, wipe_length]) fun j hj => ?_
          rw [k4 j (fun z => hj (his j z)), wipe_get, if_neg hj]
        refine ⟨hw, _, S3, ρ3, eb2, G4, ?_⟩
        unfold Wp WpO
        cases hk : c ρ3 with
        | none => rw [hk] at hc2; cases hc2
        | some r =>
          rw [hk] at hc2
          cases r with
          | er x ρ4 => cases hc2
          | ok k ρ4 =>
            cases k with
            | false =>
              refine fun S5 H5 s5 G5 => ?_
              have G6 := G5.wipe vs
              rw [hw] at G6
              exact ⟨S5, _, acc, s2.trans (s3.trans s5), g2.turn (s3.trans s5) G6, hc2⟩
            | true =>
              simp only at hc2
              cases hy : M.bnd (frzM fk) frzS ρ4 with
              | none => rw [hy] at hc2; cases hc2
              | some r =>
                rw [hy] at hc2
                cases r with
                | er x ρ5 => cases hc2
                | ok y ρ5 =>
                  simp only at hc2
                  cases hq : keyT y with
                  | none => rw [hq] at hc2; cases hc2
                  | some k =>
                  cases hv : M.bnd (frzM fv) frzS ρ5 with
                  | none => rw [hq, hv] at hc2; cases hc2
                  | some rz =>
                  cases rz with
                  | er x ρ6 => rw [hq, hv] at hc2; cases hc2
                  | ok z ρ6 =>
                  simp only [hq, hv] at hc2
                  cases hf : few acc with
                  | false => rw [hf] at hc2; cases hc2
                  | true =>
                    simp only [hf, if_true] at hc2
                    refine fun S5 H5 s5 G5 => ⟨_, S5, ρ4, eb2, G5, ?_⟩
                    have wy : Wp (re b (L2.wipe σ vs) S2 H2 ρ2) WF σ4 (M.bnd (frzM fk) frzS) S5 H5 ρ4 fun S' H' ρ' d => ρ' = ρ5 ∧ d = y := by
                      unfold Wp WpO
                      rw [hy]
                      exact fun S' H' s' G' => ⟨rfl, rfl⟩
                    refine Wp.frz (K := fun y H4 => rE b0 WF fv σ4 H4 fun _ H5 => ∃ xs k q, y = .ref q ∧ SqT b.K H5 q (k.map kV) ∧ KeysIn b.K H5 xs ∧ H5 p = some (rawO P wd p xs) ∧ xs.length < sizeLine ∧
                      ∀ r : Value, ∃ S3 ρ3 acc_1, Hsub S1 S3 ∧ GrowD P wd b (L2.wipe σ vs) S3 (upd H5 p (rawO P wd p (storedH xs k q r))) ρ3 p acc_1 ∧ dcM vs t c fk fv (ds.drop (i + 1)) acc_1 ρ3 = some (ρf, accf)) wy fun S6 H6 ρ6' r v s6 G6 f6 w6 => ?_
                    obtain ⟨S7, ρ7, d, s7, G7, r7, e1, e2⟩ := Wp.frzS G6 f6 w6
                    subst e1 e2
                    refine ⟨_, S7, ρ7, eb2, G7, ?_⟩
                    have wz : Wp (re b (L2.wipe σ vs) S2 H2 ρ2) WF σ4 (M.bnd (frzM fv) frzS) S7 H6 ρ7 fun S' H' ρ' d => ρ' = ρ6 ∧ d = z := by
                      unfold Wp WpO
                      rw [hv]
                      exact fun S' H' s' G' => ⟨rfl, rfl⟩
                    refine Wp.frz (K := fun _ H5 => ∃ xs k q, v = .ref q ∧ SqT b.K H5 q (k.map kV) ∧ KeysIn b.K H5 xs ∧ H5 p = some (rawO P wd p xs) ∧ xs.length < sizeLine ∧
                      ∀ r : Value, ∃ S3 ρ3 acc_1, Hsub S1 S3 ∧ GrowD P wd b (L2.wipe σ vs) S3 (upd H5 p (rawO P wd p (storedH xs k q r))) ρ3 p acc_1 ∧ dcM vs t c fk fv (ds.drop (i + 1)) acc_1 ρ3 = some (ρf, accf)) wz fun S8 H8 ρ8 r' v' s8 G8 f8 w8 => ?_
                    obtain ⟨S9, ρ9, d', s9, G9, r9, e3, e4⟩ := Wp.frzS G8 f8 w8
                    subst e3 e4
                    have G10 := G9.wipe vs
                    rw [hw] at G10
                    have g10 := g2.turn (s3.trans (s5.trans (s6.trans (s7.trans (s8.trans s9))))) G10
                    obtain ⟨xs, hx1, hx2, hx3⟩ := g10.at_
                    have r7' := Rp.mono (s8.trans s9) _ _ r7
                    cases r7' with
                    | tup q1 q2 =>
                      have ev : _ = k.map kV := Rps.keys q2 hq
                      have q3 := q1.1
                      rw [ev] at q3
                      have lx : xs.length = acc.length := by rw [← hx3, List.length_map]
                      refine ⟨xs, k, _, rfl, sqt_mono G10.sub q3, hx2.mono G10.sub, hx1, by rw [lx]; exact few_lt hf, fun r => ⟨S9, _, insK k acc, s2.trans (s3.trans (s5.trans (s6.trans (s7.trans (s8.trans s9))))), ⟨g10.good.chg hx1 g10.fr g10.no (Or.inl g10.h0) rawO_noTab, ⟨_, upd_same, stored_in hx2 q3, by rw [stored_keys, hx3]⟩, g10.fr, g10.no, g10.h0⟩, hc2⟩⟩
                    | _ => cases hq
    · have e : i = ds.length := by omega
      subst e
      rw [List.drop_length] at hc2
      unfold dcM at hc2
      cases hc2
      obtain ⟨xs, hx1, hx2, hx3⟩ := g2.at_
      have lx : xs.length = accf.length := by rw [← hx3, List.length_map]
      refine Or.inl ⟨wk.stop b _ S2 H2 _ rfl rfl s2 g2.good, p, xs, rfl, hx1, hx2.mono g2.good.sub, by rw [lx]; exact few_lt hfew, ?_⟩
      rw [lx]
      exact wend S2 H2 s2 (G1.unwipe s2 g2.good) _ (.int _)
theorem pe_lenDc {is : List Nat} {scope : Scope} {own : List (Str × Nat)} {fi : M (List D)} {t : Tg} {c : M Bool} (o : OKx b L X) (bi : Bi X.K X.mg) (hi : PI X tg iter (iX b W fi)) (ok : BlkOk X.N X.env.scope scope own) (his : ∀ j ∈ is, j ∈ own.map (·.2))
    (hg : ∀ (s : Shared) (H : Hp) (C : Addr) (cl : List (Str × Addr)) (fp : List Addr), OKx b L (X.blk s H scope (compEnvC scope cl C X.env) fp) → PG (X.blk s H scope (compEnvC scope cl C X.env) fp) tg (rG b is t))
    (ht : ∀ (s : Shared) (H : Hp) (C : Addr) (cl : List (Str × Addr)) (fp : List Addr), OKx b L (X.blk s H scope (compEnvC scope cl C X.env) fp) → PTs (X.blk s H scope (compEnvC scope cl C X.env) fp) ifs (rT b WF c))
    (hk : ∀ (s : Shared) (H : Hp) (C : Addr) (cl : List (Str × Addr)) (fp : List Addr), OKx b L (X.blk s H scope (compEnvC scope cl C X.env) fp) → PE (X.blk s H scope (compEnvC scope cl C X.env) fp) kx (rE b WF fk))
    (he : ∀ (s : Shared) (H : Hp) (C : Addr) (cl : List (Str × Addr)) (fp : List Addr), OKx b L (X.blk s H scope (compEnvC scope cl C X.env) fp) → PE (X.blk s H scope (compEnvC scope cl C X.env) fp) vx (rE b WF fv))
    (hs : ∀ x, foldedSetIterable iter X.env x = pure x := by intro _; rfl) (hgl : Gl X "len" := by rfl)
    (hse : starEach [.DictComp kx vx [⟨tg, iter, ifs, 0⟩] scope p1] X.env = (false, eval (.DictComp kx vx [⟨tg, iter, ifs, 0⟩] scope p1) X.env) :: starEach [] X.env := by rfl) :
    PE X (.Call (.Name "len" p0) [.DictComp kx vx [⟨tg, iter, ifs, 0⟩] scope p1] [] pos) (rE b W (evDcLen (own.map (·.2)) fi t c fk fv)) := by
  have hu := o.un
  have ob : ∀ (s : Shared) (H : Hp) (C : Addr) (cl : List (Str × Addr)) (fp : List Addr), OKx b L (X.blk s H scope (compEnvC scope cl C X.env) fp) := fun _ _ _ _ _ => ⟨o.K, o.mg, o.calm, o.nd, o.rm⟩
  refine PE.weak (pe_callB call_lenX hgl bi.len (by decide +kernel) (pa_cons (pe_dcX (by omega) o.calm o.nd hi ok (fun s H C cl fp => hg s H C cl fp (ob s H C cl fp)) (fun s H C cl fp => ht s H C cl fp (ob s H C cl fp)) (fun s H C cl fp => hk s H C cl fp (ob s H C cl fp)) (fun s H C cl fp => he s H C cl fp (ob s H C cl fp)) hs) pa_nil hse) (by decide) (by decide) hse rfl) fun σ H Q ⟨b', S, ρ, eb, G, w⟩ => ?_
  have := dcl_wp (P := X.prog) (wd := X.w) eb his G w
  rw [eb.1, ← o.K] at this
  exact this
end
end Mc
end
section
set_option Elab.async false
set_option linter.all false
set_option maxRecDepth 100000
set_option maxHeartbeats 4000000
set_option autoImplicit false
namespace Mc
open PySem PySem.Spec L2

/-! ### _law_pen -/
def fE : M R := evBin (intD gMod) (evB toiD (evCons (evBin addD (evBin mulD (evVar 1) (evC (.int 47))) (evVar 2)) evNil)) (evC (.int 1000000007))
theorem fE_eq (x c : Int) : ∃ z, fE [.no, .va (.int x), .va (.int c)] = some (.ok (.va (.int z)) [.no, .va (.int x), .va (.int c)]) := by
  refine ⟨(x * 47 + c) % 1000000007, ?_⟩
  simp [fE, evBin, evB, evCons, evNil, evVar, evC, M.bnd, M.ret, M.lift, frzM, R.frz, rdD, rdDs, intD, addD, mulD, toiD, gMod, gMul, small64]
abbrev rLs (K : PySem.W.Frag) : List V → Hp → VK → Prop := fun xs H Q => ∃ p ys, xs = [.ref p] ∧ (SqL K H p ys ∨ SqT K H p ys) ∧ ∀ l, H l = none → Q (.ref l) (upd H l (.lst ys))
def tPen (K : PySem.W.Frag) (b : Bs) (W : WX) : TS := tSeq (tAsg (tC (.int 0)) (gName 1)) (tSeq (tFor (iSq K (tVar 0)) (gName 2) (tAsg (rE b W fE) (gName 1)))
  (tRet (tDisp [(tC (.str "cells"), tCB (rLs K) (tCons (tVar 0) tNil)), (tC (.str "at"), tC (.int 0)), (tC (.str "digits"), tC (.int 0)), (tC (.str "count"), tC (.int 0)), (tC (.str "fold"), tVar 1)])))
def PenAt (H : Hp) (p l : Addr) (q : Pn) : Prop := p ≠ l ∧ H p = some (.dK (penK l q)) ∧ H l = some (.lst (q.cells.map V.int))
def spPen (K : PySem.W.Frag) : Sp := fun vs H Q _ => ∃ a ns, vs = [.ref a] ∧ SqL K H a (ns.map V.int) ∧ ∀ p l fold H', PenAt H' p l ⟨ns, 0, 0, 0, fold⟩ → Hsub H H' → Q (.ref p) H'
theorem sql_up {K : PySem.W.Frag} {H H' : Hp} {a : Addr} {xs : List V} (h : SqL K H a xs) (s : Hsub H H') : SqL K H' a xs := by
  rcases h with (h | ⟨o, h⟩) | h
  · exact Or.inl (Or.inl (s _ _ h))
  · exact Or.inl (Or.inr ⟨o, s _ _ h⟩)
  · exact Or.inr h
theorem hsub_new {H : Hp} {p : Addr} {o : HO} (h : H p = none) : Hsub H (upd H p o) := Hsub.new h
def baseN (K : PySem.W.Frag) (mg : Str → Option Value) (H : Hp) : Bs := ⟨K, mg, H, fun _ => none, fun _ => False, none, none⟩
theorem good_flat {K : PySem.W.Frag} {mg : Str → Option Value} {H : Hp} {σ : L2.St} {x c : Int} (h1 : σ[1]? = some (some (.int x))) (h2 : σ[2]? = some (some (.int c))) (hl : σ.length = 3) : Good (baseN K mg H) σ (fun _ => none) H [.no, .va (.int x), .va (.int c)] where
  sub := fun a o e => nomatch e
  len := hl.symm
  sl := fun i s e => by
    match i, e with
    | 0, e => cases e; trivial
    | 1, e => cases e; exact ⟨_, h1, .int x⟩
    | 2, e => cases e; exact ⟨_, h2, .int c⟩
    | n + 3, e => simp at e
  dis := fun i j a ⟨_, s, e, o⟩ => by
    match i, e with
    | 0, e => cases e; cases o
    | 1, e => cases e; cases o
    | 2, e => cases e; cases o
    | n + 3, e => simp at e
  k0 := fun a o e _ => e
  o0 := fun i a ⟨_, s, e, o⟩ => by
    match i, e with
    | 0, e => cases e; cases o
    | 1, e => cases e; cases o
    | 2, e => cases e; cases o
    | n + 3, e => simp at e
  s0 := fun a o e => nomatch e
  n0 := fun a e => (e rfl).elim
  f0 := fun a e => e
  tab := fun P q e => nomatch e
theorem pen_pure {K : PySem.W.Frag} {mg : Str → Option Value} {W : WX} {b : Bs} (eb : EqB b (baseN K mg (fun _ => none))) {vs : List V} {H : Hp} {Q : VK} {E : XK} (h : spPen K vs H Q E) : tPen K b W { nx := fun _ H' => Q .non H', rt := Q } (L2.start ["script", "fold", "cell"] vs) H := by
  obtain ⟨a, ns, rfl, hS, q⟩ := h
  show tFor (iSq K (tVar 0)) (gName 2) (tAsg (rE b W fE) (gName 1)) _ [some (.ref a), some (.int 0), none] H
  refine ⟨.ref a, rfl, a, rfl, Or.inl ⟨⟨_, hS⟩, ?_⟩⟩
  refine ⟨fun i m σ H2 => m = ns.length - i ∧ i ≤ ns.length ∧ Hsub H H2 ∧ ∃ x c, σ = [some (.ref a), some (.int x), c], ⟨ns.length, by simp, Nat.zero_le _, Hsub.refl _, 0, none, rfl⟩, ?_⟩
  rintro i m σ H2 ⟨rfl, hi, s2, x, c, rfl⟩
  by_cases hlt : i < ns.length
  · refine Or.inr ⟨⟨ns.map V.int, .int ns[i], sql_up hS s2, by simp [hlt]⟩, fun σ3 H3 => Hsub H H3 ∧ ∃ x c, σ3 = [some (.ref a), some (.int x), c], fun σ3 H3 q => ⟨ns.length - (i + 1), by omega, rfl, hlt, q⟩, fun y H3 ⟨e1, e2⟩ => ?_⟩
    subst e1
    have ey := e2 _ (sql_up hS s2)
    rw [List.getElem?_map, List.getElem?_eq_getElem hlt] at ey
    cases ey
    obtain ⟨z, ez⟩ := fE_eq x ns[i]
    refine ⟨baseN K mg H3, _, _, ⟨eb.1.symm, eb.2.symm, eb.3.symm⟩, good_flat (K := K) (mg := mg) (H := H3) (σ := [some (.ref a), some (.int x), some (.int ns[i])]) rfl rfl rfl, ?_⟩
    unfold Wp WpO
    rw [ez]
    intro S' H' s' G' v hv
    cases hv
    exact ⟨fun p o e => G'.k0 p o (s2 p o e) (fun z => z), z, some (.int ns[i]), rfl⟩
  · have e : i = ns.length := by omega
    subst e
    refine Or.inl ⟨⟨ns.map V.int, sql_up hS s2, Nat.le_of_eq (List.length_map ..)⟩, ?_⟩
    intro p hp
    have s3 : Hsub H2 (upd H2 p (.dK [])) := Hsub.new hp
    refine ⟨.ref a, rfl, a, ns.map V.int, rfl, Or.inl (sql_up (sql_up hS s2) s3), fun l hl => ?_⟩
    have hpl : p ≠ l := fun e => by subst e; rw [upd_same] at hl; cases hl
    refine ⟨.int x, rfl, ?_⟩
    refine ⟨by rw [upd_ne hpl, upd_same], [(.inr "cells", .ref l), (.inr "at", .int 0), (.inr "digits", .int 0), (.inr "count", .int 0), (.inr "fold", .int x)], rfl, Nat.le_of_ble_eq_true rfl, q p l x _ ⟨hpl, ?_, ?_⟩ fun y o e => ?_⟩
    · rw [upd_same]
      exact congrArg (fun z => some (HO.dK z)) (show mergeK [] [(.inr "cells", .ref l), (.inr "at", .int 0), (.inr "digits", .int 0), (.inr "count", .int 0), (.inr "fold", .int x)] = penK l ⟨ns, 0, 0, 0, x⟩ by with_unfolding_all rfl)
    · rw [upd_ne (Ne.symm hpl), upd_same]
    · have h2 := s2 y o e
      have np : y ≠ p := ne_of_none h2 hp
      rw [upd_ne np, upd_ne (ne_of_none (s3 y o h2) hl), upd_ne np]
      exact h2
end Mc
end
section
set_option Elab.async false
set_option linter.all false
set_option maxRecDepth 100000
set_option maxHeartbeats 4000000
set_option autoImplicit false
namespace Mc
open PySem PySem.Spec L2

/-! ### the law's frame behind pen = _law_pen(script) -/
def iniL (N : Nat) (p : Pn) : ES := .no :: .pn (.pen p) :: List.replicate (N - 2) .no
def tLaw (b : Bs) (W : WX) (m : M Fl) : TS := tSeq (tAsg (tCallSD (spPen b.K) [] (WE W) (tCons (tVar 0) tNil)) (gName 1)) (rS b W m)
def spLaw (K : PySem.W.Frag) (n : Nat) : Sp := fun vs H Q _ => ∃ (a : Addr) (ns : List Int), vs = [.ref a] ∧ ns.length ≤ n ∧ SqL K H a (ns.map V.int) ∧ ∀ v H', v = .bl true → Q v H'
/-- the plain law: what the body says at every pen -/
def Plain (N n : Nat) (m : M Fl) : Prop := ∀ cells : List Int, cells.length ≤ n → ∀ fold : Int, ∃ ρ, m (iniL N ⟨cells, 0, 0, 0, fold⟩) = some (.ok (.rt (.va (.bl true))) ρ)
def spLawT (K : PySem.W.Frag) (n : Nat) (tb : Option (Addr × Str)) : Sp := fun vs H Q E => spLaw K n vs H Q E ∧ ∀ P q, tb = some (P, q) → H P = some (.tbl #[])
theorem law_pure {K : PySem.W.Frag} {mg : Str → Option Value} {W : WX} {b : Bs} {N : List Str} {m : M Fl} {vs : List V} {H : Hp} {Q : VK} {E : XK} {n : Nat} (hN : 2 ≤ N.length) (eK : b.K = K) (em : b.mg = mg) (pl : Plain N.length n m) (h : spLaw K n vs H Q E) (hT : ∀ P q, b.tb = some (P, q) → H P = some (.tbl #[])) :
    tLaw b W m { nx := fun _ H' => Q .non H', rt := Q } (L2.start N vs) H := by
  obtain ⟨a, ns, rfl, hn, hS, q⟩ := h
  have h0 : (L2.start N [V.ref a])[0]? = some (some (.ref a)) := start_get rfl
  refine ⟨.ref a, h0, a, ns, rfl, by rw [eK]; exact hS, fun p l fold H' ⟨hpl, hp, hl⟩ hsub => ?_⟩
  obtain ⟨ρe, hm⟩ := pl ns hn fold
  let b' : Bs := ⟨K, mg, H', fun x => if x = l then some (.lst (ns.map V.int)) else none, fun x => x = p ∨ ∃ q, b.tb = some (x, q), some (p, l), b.tb⟩
  have hlen : (L2.start N [V.ref a]).length = N.length := by
    unfold L2.start
    simp only [List.length_append, List.length_map, List.length_replicate, List.length_cons, List.length_nil]
    omega
  have h1 : ((L2.start N [V.ref a]).set 1 (some (.ref p)))[1]? = some (some (.ref p)) := List.getElem?_set_self (by omega)
  have own : ∀ {i x}, Own (iniL N.length ⟨ns, 0, 0, 0, fold⟩) ((L2.start N [V.ref a]).set 1 (some (.ref p))) i x → i = 1 ∧ x = p := fun {i x} ⟨e, s, e2, e3⟩ => by
    match i, e, e2 with
    | 0, e, e2 => cases e2; cases e3
    | 1, e, e2 => rw [h1] at e; cases e; exact ⟨rfl, rfl⟩
    | i + 2, e, e2 =>
      have e2' : (List.replicate (N.length - 2) Sl.no)[i]? = some s := e2
      rw [List.eq_of_mem_replicate (List.mem_of_getElem? e2')] at e3
      cases e3
  have hSl : b'.S0 p = none := if_neg hpl
  have G : Good b' ((L2.start N [V.ref a]).set 1 (some (.ref p))) b'.S0 H' (iniL N.length ⟨ns, 0, 0, 0, fold⟩) := by
    refine ⟨fun x o e => ?_, ?_, fun i s e => ?_, fun i j x w1 w2 => (own w1).1.trans (own w2).1.symm, fun x o e _ => e, fun i x w => Or.inr (Or.inl (own w).2), Hsub.refl _, fun x e => Or.inl e, fun x e => e, fun P q e => ⟨⟨#[], hsub _ _ (hT P q e), True.intro, fun pos cv hc => by
      have z : codeAmong pos [] = some cv := hc
      simp [codeAmong] at z⟩, Or.inr ⟨q, e⟩, if_neg fun z => by
      have h2 := hsub _ _ (hT P q e)
      rw [z, hl] at h2
      cases h2⟩⟩
    · by_cases hx : x = l
      · subst hx
        rw [show b'.S0 x = some (.lst (ns.map V.int)) from if_pos rfl] at e
        cases e; exact hl
      · rw [show b'.S0 x = none from if_neg hx] at e; cases e
    · rw [List.length_set, hlen]
      unfold iniL
      simp only [List.length_cons, List.length_replicate]
      omega
    · match i, e with
      | 0, e => cases e; trivial
      | 1, e => cases e; exact ⟨p, l, h1, ⟨hSl, hp, if_pos rfl⟩, rfl⟩
      | i + 2, e =>
        have e' : (List.replicate (N.length - 2) Sl.no)[i]? = some s := e
        rw [List.eq_of_mem_replicate (List.mem_of_getElem? e')]
        trivial
  refine ⟨b', b'.S0, _, ⟨eK.symm, em.symm, rfl⟩, G, ?_⟩
  rw [hm]
  exact fun σ' S' H2 v _ _ hv => by cases hv; exact q _ _ rfl
theorem fn_law {P : Program} {w : World} {K : PySem.W.Frag} {mg : Str → Option Value} {base : Heap} {x qual : Str} {params : Arguments} {body rest : List Stmt} {st : Stmt} {scope : Scope} {f : Addr} {fd : FuncData} {N : List Str} {k n : Nat} {m : M Fl} (F : FunD K x qual params body scope [] [] f fd)
    (S : FnScope N ["script"] scope) (hN : 2 ≤ N.length) (he : body = st :: rest)
    (h1 : ∀ (X : Cx) (W : WX), (∃ cdv A outer s H E, X = bodyX P w K mg base N qual scope f cdv A outer s H E) → Room k X.A → X.N.Nodup → Takes X W → PS X st (tAsg (tCallSD (spPen K) [] (WE W) (tCons (tVar 0) tNil)) (gName 1)))
    (hb : BodyIs P w K mg base N qual scope f k rest m) (pl : Plain N.length n m) : FnOk P w K mg base (L2.CX P w) (k + 1) f fd ["script"] (spLaw K n) := by
  refine F.ok S (fun vs H Q E ⟨_, _, h, _⟩ => by rw [h]; rfl) fun cdv A outer s H vs Q E hr h => ?_
  have tk : Takes (bodyX P w K mg base N qual scope f cdv A outer s H E) (fun cls d _ H => E cls d H) := takes_of rfl rfl rfl rfl
  subst he
  exact ⟨_, pss_cons (h1 (bodyX P w K mg base N qual scope f cdv A outer s H E) (fun cls d _ H => E cls d H) ⟨cdv, A, outer, s, H, E, rfl⟩ hr S.nd tk)
    (hb (bodyX P w K mg base N qual scope f cdv A outer s H E) (fun cls d _ H => E cls d H) (baseN K mg H) ⟨cdv, A, outer, s, H, E, rfl⟩ rfl rfl ⟨rfl, rfl, rfl, S.nd, hr⟩ tk (passes_of rfl)), law_pure (b := baseN K mg H) hN rfl rfl pl h (fun P q e => nomatch e)⟩
theorem fn_pen {P : Program} {w : World} {K : PySem.W.Frag} {mg : Str → Option Value} {base : Heap} {x qual : Str} {params : Arguments} {body : List Stmt} {scope : Scope} {f : Addr} {fd : FuncData} (F : FunD K x qual params body scope [] [] f fd)
    (S : FnScope ["script", "fold", "cell"] ["script"] scope)
    (hb : ∀ (X : Cx) (W : WX) (b : Bs), (∃ cdv A outer s H E, X = bodyX P w K mg base ["script", "fold", "cell"] qual scope f cdv A outer s H E) → b.K = K → b.mg = mg → OKx b 0 X → PassesOwn (model X.prog X.w) X.A X.env X.xe → PSs X body (tPen K b W)) :
    FnOk P w K mg base (L2.CX P w) 1 f fd ["script"] (spPen K) := by
  refine F.ok S (fun vs H Q E ⟨_, _, h, _⟩ => by rw [h]; rfl) fun cdv A outer s H vs Q E hr h => ?_
  exact ⟨_, hb (bodyX P w K mg base ["script", "fold", "cell"] qual scope f cdv A outer s H E) (fun cls d _ H => E cls d H) (baseN K mg (fun _ => none)) ⟨cdv, A, outer, s, H, E, rfl⟩ rfl rfl ⟨rfl, rfl, rfl, S.nd, hr⟩ (passes_of rfl), pen_pure (K := K) (mg := mg) ⟨rfl, rfl, rfl⟩ h⟩
end Mc
end
section
set_option Elab.async false
set_option linter.all false
set_option maxRecDepth 100000
set_option maxHeartbeats 4000000
set_option autoImplicit false
namespace Mc
open PySem PySem.Spec L2

/-! ### what the head tells of own classes -/
def insB (K : PySem.W.Frag) (x : Str) : Bool := (He.Fa.cls x).ok K && (He.eqO (PySem.W.findIn K (.ref (He.ga K x)) "__class__") (some (some (.builtin "object.__class__"))) && (He.eqO (PySem.W.specialIn K (.builtin "object.__class__") "__get__") (some (some (.builtin "getset_descriptor.__get__"))) &&
  (decide (PySem.W.takesIn K (.builtin "object.__class__") = some true) && (decide (PySem.W.mroIn K (He.ga K x) (.type "object") = some true) && decide (PySem.W.kitOne K (.ref (He.ga K x)) (.ref (He.ga K x)) = some true)))))
def kitsB (K : PySem.W.Frag) (cs : List Str) : Bool := cs.all fun c => (He.Fa.glo c).ok K && (insB K c && ((cs.all fun c' => decide (PySem.W.kitOne K (.ref (He.ga K c)) (.ref (He.ga K c')) = some (decide (c = c')))) &&
  ((bts.all fun k => decide (PySem.W.kitOne K (.ref (He.ga K c)) (.type k.nm) = some false)) && (bts'.all fun k => decide (PySem.W.kitOne K (.type k.nm) (.ref (He.ga K c)) = some false)))))
def ctB (K : PySem.W.Frag) (ct : CTab) : Bool := ct.all fun q => (He.Fa.glo q.1).ok K && ((He.Fa.cls q.1).ok K && q.2.all fun f => (He.Fa.noat q.1 f).ok K)
section
variable {K : PySem.W.Frag} {h : Heap} {mg : Str → Option Value} {cs : List Str} {ct : CTab}
theorem insB_ok {x : Str} (e : insB K x = true) : C8.InsC K (He.ga K x) := by
  unfold insB at e
  simp only [Bool.and_eq_true] at e
  obtain ⟨e1, e2, e3, e4, e5, e6⟩ := e
  exact ⟨He.cls_ok e1, He.eqO_ok e2, He.eqO_ok e3, of_decide_eq_true e4, of_decide_eq_true e5, of_decide_eq_true e6⟩
theorem kitsB_ok (X : K.In h) (G : h.Ns mainGlobals mg) (e : kitsB K cs = true) : Kits K mg cs := by
  have e' : ∀ c ∈ cs, (He.Fa.glo c).ok K = true ∧ insB K c = true ∧ (∀ c' ∈ cs, PySem.W.kitOne K (.ref (He.ga K c)) (.ref (He.ga K c')) = some (decide (c = c'))) ∧ (∀ k ∈ bts, PySem.W.kitOne K (.ref (He.ga K c)) (.type k.nm) = some false) ∧ ∀ k ∈ bts', PySem.W.kitOne K (.type k.nm) (.ref (He.ga K c)) = some false := fun c hc => by
    have z := List.all_eq_true.mp e c hc
    simp only [Bool.and_eq_true] at z
    obtain ⟨z1, z2, z3, z4, z5⟩ := z
    exact ⟨z1, z2, fun c' hc' => of_decide_eq_true (List.all_eq_true.mp z3 c' hc'), fun k hk => of_decide_eq_true (List.all_eq_true.mp z4 k hk), fun k hk => of_decide_eq_true (List.all_eq_true.mp z5 k hk)⟩
  refine ⟨fun c hc => ⟨_, He.glo_ok X G (e' c hc).1, insB_ok (e' c hc).2.1⟩, fun c hc c' hc' C C' h1 h2 => ?_, fun c hc C h1 k hk => ?_, fun c hc C h1 k hk => ?_⟩
  · rw [He.glo_ok X G (e' c hc).1] at h1
    rw [He.glo_ok X G (e' c' hc').1] at h2
    cases h1
    cases h2
    exact (e' c hc).2.2.1 c' hc'
  · rw [He.glo_ok X G (e' c hc).1] at h1
    cases h1
    exact (e' c hc).2.2.2.1 k hk
  · rw [He.glo_ok X G (e' c hc).1] at h1
    cases h1
    exact (e' c hc).2.2.2.2 k hk
theorem lookup_mem {α : Type} {x : Str} {v : α} : ∀ {l : List (Str × α)}, l.lookup x = some v → (x, v) ∈ l
  | (y, u) :: r, e => by
    rw [List.lookup_cons] at e
    cases q : (x == y) with
    | true => rw [q] at e; cases e; rw [eq_of_beq q]; exact List.mem_cons_self
    | false => rw [q] at e; exact List.mem_cons_of_mem _ (lookup_mem e)
theorem ctB_ok (X : K.In h) (G : h.Ns mainGlobals mg) (e : ctB K ct = true) : CTok K mg ct := by
  refine ⟨fun c f hf => ?_⟩
  unfold hasF at hf
  split at hf
  · rename_i fl hl
    have z := List.all_eq_true.mp e _ (lookup_mem hl)
    simp only [Bool.and_eq_true] at z
    obtain ⟨z1, z2, z3⟩ := z
    exact ⟨_, He.glo_ok X G z1, He.cls_ok z2, He.noat_ok (List.all_eq_true.mp z3 f (by simpa using hf))⟩
  · cases hf
end
/-- the end, where what a def may let out depends on the world -/
theorem walk_ofW {l : PySem.W.OpenLaw} {n k : Nat} {q : Program} {loose : List Str} {XP : (Str → Option Value) → Heap → Prop} {YP : World → Heap → Prop} {d : DefRec} {CX : World → CXT} {x : Str} (hn : l.most = some n) (hn2 : n ≤ sizeLine) (hdf : d.params.defaults = []) (hr : Room k callerA)
    (F : ∀ (w : World) (mg : Str → Option Value) (fa : Addr) (h : Heap), YP w h → h.Ns mainGlobals mg → mg d.name = some (.ref fa) → ∃ (K : PySem.W.Frag) (fd : FuncData) (sp : Sp), K.In h ∧ (∀ (s : Shared) (u : Value), BindsTo s fd ⟨[u], []⟩ [(x, u)]) ∧
      (∀ (H : Hp) (a : Addr) (ns : List Int), ns.length ≤ n → Only H → SqL K H a (ns.map V.int) → sp [.ref a] H (fun v _ => v = .bl true) fun _ _ _ => False) ∧ ∀ base : Heap, K.In base → base.Ns mainGlobals mg → FnOk l.prog w K mg base (CX w) k fa fd [x] sp)
    (hC : ∀ (w : World) (H : Hp) (s : Shared) (e : Value) (s' : Shared), CX w [] H s (fun _ _ _ => False) e s' → False) : PySem.W.WalkO q loose XP YP l.row.toRowW d [] (fun f vs => PySem.call f vs) := by
  refine Att.attach_call hn hdf fun wd s₀ s₁ mg mb f o pm cd doc a vs ns GG Y ho hd hcd hmg hobj hints hl hgn => ?_
  have ⟨K, fd, sp, KX, hb, hsp, hF⟩ := F wd mg f _ Y GG.T.g hmg
  exact law_call KX GG.T.g GG.T.b GG.T.builtins GG.T.nolimit hgn hobj hints (Nat.le_trans hl hn2) hr hF hb (fun H hO hS => hsp H a ns hl hO hS) (fun H e s' => hC wd H s₁ e s')
/-! ### tables -/
section
variable {P : Program} {w : World} {K : PySem.W.Frag} {mg : Str → Option Value} {base : Heap} {nm : Str} {k j n : Nat}
theorem OpT.nil : OpT P w K mg base nm k [] := ⟨fun c F h => by cases h⟩
theorem OpT.cons {c : Str} {C f : Addr} {fd : FuncData} {ps : List Str} {F : List D → Option DRes} {T : OTab} (h1 : mg c = some (.ref C)) (h2 : Meth K C nm f) (h3 : Binds K fd ps []) (h4 : FnOk P w K mg base (L2.CX P w) j f fd ps (spP K mg 2 F)) (hj : j ≤ k) (t : OpT P w K mg base nm k T) :
    OpT P w K mg base nm k ((c, F) :: T) := ⟨fun c' F' e => by
  rw [List.lookup_cons] at e
  cases q : (c' == c) with
  | true => rw [q] at e; cases e; rw [eq_of_beq q]; exact ⟨C, f, fd, ps, h1, h2.at_, h2.fn, h3, h4.mono hj⟩
  | false => rw [q] at e; exact t.ex c' F' e⟩
theorem FTok.nil : FTok P w K mg base k [] := ⟨fun c n F h => by cases h⟩
theorem FTok.cons {c : Str} {F : List D → Option DRes} {T : FTab} (d : Dn P w K mg base c j n F) (hj : j ≤ k) (t : FTok P w K mg base k T) : FTok P w K mg base k ((c, n, F) :: T) := ⟨fun c' n' F' e => by
  rw [List.lookup_cons] at e
  cases q : (c' == c) with
  | true => rw [q] at e; cases e; rw [eq_of_beq q]; exact d.up hj
  | false => rw [q] at e; exact t.ex c' n' F' e⟩
theorem bi_of {h : Heap} (X : K.In h) (G : h.Ns mainGlobals mg) (e : ([.free "len", .free "abs", .free "int", .free "str", .free "bool", .free "tuple", .free "list", .free "sum", .free "any", .free "all", .free "max", .free "min", .free "sorted", .free "isinstance", .free "range", .free "enumerate", .free "zip"] : List He.Fa).all (fun f => f.ok K) = true) : Bi K mg := by
  have e' := fun f hf => List.all_eq_true.mp e f hf
  exact ⟨He.free_ok X G (e' _ (by simp)), He.free_ok X G (e' _ (by simp)), He.free_ok X G (e' _ (by simp)), He.free_ok X G (e' _ (by simp)), He.free_ok X G (e' _ (by simp)), He.free_ok X G (e' _ (by simp)), He.free_ok X G (e' _ (by simp)), He.free_ok X G (e' _ (by simp)), He.free_ok X G (e' _ (by simp)), He.free_ok X G (e' _ (by simp)), He.free_ok X G (e' _ (by simp)), He.free_ok X G (e' _ (by simp)), He.free_ok X G (e' _ (by simp)), He.free_ok X G (e' _ (by simp)), He.free_ok X G (e' _ (by simp)), He.free_ok X G (e' _ (by simp)), He.free_ok X G (e' _ (by simp))⟩
end
end Mc
end
section
set_option Elab.async false
set_option linter.all false
set_option maxRecDepth 100000
set_option maxHeartbeats 4000000
set_option autoImplicit false
namespace Mc
open PySem PySem.Spec L2

/-! ### gcd of three -/
theorem run_gcd3 (a : Int) (t : Tok) (b : Int) (u : Tok) (c : Int) (v : Tok) :
    Gives (Builtin.«math.gcd» ⟨[.int a t, .int b u, .int c v], []⟩) (.int (((((Nat.gcd 0 a.natAbs).gcd b.natAbs).gcd c.natAbs : Nat) : Int))) :=
  .of_wp fun M A E s Q h => by obtain ⟨hp, g, d, tk, os⟩ := s; wp_walk; exact ⟨_, rfl, h⟩
theorem args_gcd3 (a b c : Value) : argsOk "math.gcd" ⟨[a, b, c], []⟩ := by unfold argsOk; kernel_rfl
def rGcd3 : List V → Hp → VK → Prop := fun vs H Q => ∃ a b c : Int, vs = [.int a, .int b, .int c] ∧ Q (.int ((((Nat.gcd a.natAbs b.natAbs).gcd c.natAbs : Nat) : Int))) H
section
variable {X : Cx} {b : Bs} {W : WX} {L : Nat} {pos p : Pos} {e1 e2 e3 tg : Expr} {es : List Expr} {fa fb : M R} {fs fr : M (List R)}
theorem cr_gcd3 : CallR X (.builtin "math.gcd") rGcd3 := by
  intro pins s σ H vs us Q I r h
  obtain ⟨i, j, k, rfl, q⟩ := h
  cases r with
  | cons h1 h2 =>
    cases h2 with
    | cons h3 h4 =>
      cases h4 with
      | cons h5 h6 =>
        cases h6
        obtain ⟨t1, rfl⟩ := h1
        obtain ⟨t2, rfl⟩ := h3
        obtain ⟨t3, rfl⟩ := h5
        have g := run_gcd3 i t1 j t2 k t3
        rw [Nat.gcd_zero_left] at g
        exact call_function_meets PySem.W.MGF.kind_gcd PySem.W.MGF.plain_gcd PySem.W.MGF.entry_gcd (args_gcd3 _ _ _) g.meets ⟨.int _, H, I.tok _, ⟨_, rfl⟩, q⟩
def gcd3D : List D → Option R
  | [.int a, .int b, .int c] => some (.va (.int (((Nat.gcd a.natAbs b.natAbs).gcd c.natAbs : Nat) : Int)))
  | _ => none
/-! ### the difference of two truths -/
def subT : D → D → Option R
  | .bl a, .bl b => some (.va (.int ((if a = true then 1 else 0) - (if b = true then 1 else 0))))
  | _, _ => none
theorem op_subT : OpR X (binaryOp .Sub) (fun x y H Q => ∃ i j : Bool, x = .bl i ∧ y = .bl j ∧ Q (.int ((if i = true then 1 else 0) - (if j = true then 1 else 0))) H) := by
  intro pins s σ H x y v u Q I rx ry h
  obtain ⟨i, j, rfl, rfl, q⟩ := h
  cases rx
  cases ry
  exact PyProof.Rows.sub_bool ⟨.int _, H, I.tok _, ⟨_, rfl⟩, q⟩
theorem pe_subT (ha : PE X e1 (rE b W fa)) (hb : PE X e2 (rE b W fb)) : PE X (.BinOp e1 .Sub e2 pos) (rE b W (evBin subT fa fb)) :=
  pe_bin op_subT (fun b _ => by
    intro σ S H ρ x y d e z G hx hy hz Q q
    unfold subT at hz
    split at hz
    · rename_i i j
      cases hx
      cases hy
      cases hz
      exact ⟨i, j, rfl, rfl, q _ H S (Hsub.refl _) G (Rp.int _)⟩
    · cases hz) ha hb
/-! ### a star in a display -/
def evStar (fa : M R) (fr : M (List R)) : M (List R) := M.bnd (evSq fa) fun ds => M.bnd fr fun rs => M.ret (ds.map R.va ++ rs)
theorem RFs.app {σ : L2.St} {S : Hp} {vs ws : List V} {rs qs : List R} (h : RFs b σ S vs rs) (k : RFs b σ S ws qs) : RFs b σ S (vs ++ ws) (rs ++ qs) := by
  induction h with
  | nil => exact k
  | cons p _ ih => exact .cons p ih
theorem RFs.of {σ : L2.St} {S : Hp} : ∀ {vs : List V} {ds : List D}, Rps b.K b.mg S vs ds → RFs b σ S vs (ds.map R.va)
  | _, [], h => by cases h; exact .nil
  | _, d :: ds, h => by cases h with | cons p q => exact .cons p (RFs.of q)
theorem pa_st (o : OKx b L X) (ha : PE X e1 (rE b W fa)) (hr : PA X es (rAr b W fr)) (hs : starEach (.Starred e1 p :: es) X.env = (true, eval e1 X.env) :: starEach es X.env := by rfl) :
    PA X (.Starred e1 p :: es) (rAr b W (evStar fa fr)) := by
  refine PA.weak (StX.pa_star ha hr hs) fun σ H Q ⟨b', S, ρ, eb, G, h⟩ => ⟨b', S, ρ, eb, G, ?_⟩
  have h1 := Wp.bind h
  unfold evSq at h1
  refine Wp.frz (K := fun x H1 => ∃ p xs, x = V.ref p ∧ (SqT X.K H1 p xs ∨ SqL X.K H1 p xs) ∧ rAr b W fr σ H1 fun ys H2 => Q (xs ++ ys) H2) h1 fun S1 H1 ρ1 r v s1 G1 f1 w1 => ?_
  obtain ⟨S2, ρ2, d, s2, G2, r2, w2⟩ := Wp.frzS G1 f1 (Wp.bind w1)
  obtain ⟨ds, hd, k⟩ := Wp.lift G2 w2
  have eK : X.K = b'.K := by rw [o.K, eb.1]
  have fin : ∀ {xs : List V}, Rps b'.K b'.mg S2 xs ds → rAr b W fr σ H1 fun ys H2 => Q (xs ++ ys) H2 := fun {xs} r => by
    refine ⟨b', S2, ρ2, eb, G2, Wp.mono (Wp.bind k) fun S3 H3 ρ3 rs s3 G3 q ys hy => ?_⟩
    exact q S3 H3 (Hsub.refl _) G3 _ (RFs.app (RFs.of (Rps.mono s3 _ _ r)) hy)
  cases d with
  | lst xs =>
    cases hd
    cases r2 with
    | lst p q => exact ⟨_, _, rfl, Or.inr (SqL.of (G2.sub _ _ p)), fin q⟩
  | tup xs =>
    cases hd
    cases r2 with
    | tup p q => exact ⟨_, _, rfl, Or.inl (by rw [eK]; exact sqt_mono G2.sub p.1), fin q⟩
  | _ => cases hd
/-! ### range with a step -/
def rngR3 : List R → Option (List D)
  | [.va (.int i), .va (.int j), .va (.int c)] => if (smI i && smI j && decide (c = -1)) = true then some (rngD i (-1) (i - j).toNat) else none
  | _ => none
theorem pi_rng3 (hg : Gl X "range") (hm : X.mg "range" = none) (ha : PA X [e1, e2, e3] (rAr b W fs))
    (hs : starEach [e1, e2, e3] X.env = (false, eval e1 X.env) :: starEach [e2, e3] X.env := by rfl) (hpl : (backTo pos (starEach [e2, e3] X.env)).any (·.1) = false := by rfl) :
    PI X tg (.Call (.Name "range" p) [e1, e2, e3] [] pos) (iX b W (evRng rngR3 fs)) := by
  refine PI.weak (pi_range3 hg hm ha hs hpl) fun σ H R ⟨b', S, ρ, eb, G, w⟩ => ⟨b', S, ρ, eb, G, Wp.mono (Wp.bind w) fun S1 H1 ρ1 rs s1 G1 w1 vs hvs => ?_⟩
  obtain ⟨ds, hd, k⟩ := Wp.lift G1 w1
  unfold rngR3 at hd
  split at hd
  · rename_i i j c
    split at hd
    · rename_i hj
      cases hd
      cases hvs with
      | cons h1 h2 =>
        cases h2 with
        | cons h3 h4 =>
          cases h4 with
          | cons h5 h6 =>
            cases h6
            cases h1
            cases h3
            cases h5
            obtain ⟨qa, qc⟩ := Bool.and_eq_true_iff.mp hj
            obtain ⟨qa, qb⟩ := Bool.and_eq_true_iff.mp qa
            obtain ⟨q1, q2⟩ := smI_ok qa
            obtain ⟨q3, q4⟩ := smI_ok qb
            have qc := of_decide_eq_true qc
            subst qc
            exact ⟨i, j, -1, _, rfl, RgC.neg q1 q2 q3 q4, k _ Wk.rngC⟩
    · cases hd
  · cases hd
end
end Mc
end
section
set_option Elab.async false
set_option linter.all false
set_option maxRecDepth 100000
set_option maxHeartbeats 4000000
set_option autoImplicit false
namespace Mc
open PySem PySem.Spec L2

/-! ### a function of another module, by its name -/
def biB (K : PySem.W.Frag) (x : Str) (id : String) : Bool := He.eqO (PySem.W.nsIn K mainGlobals x) (some (some (.builtin id)))
theorem biB_ok {K : PySem.W.Frag} {h : Heap} {mg : Str → Option Value} {x : Str} {id : String} (X : K.In h) (G : h.Ns mainGlobals mg) (c : biB K x id = true) : mg x = some (.builtin id) := PySem.W.mg_of X G (He.eqO_ok c)
section
variable {X : Cx} {b : Bs} {W : WX} {L : Nat} {pos p p1 p2 p3 p4 pt' : Pos} {x : Str} {id : String} {k : Nat} {e1 e2 e3 ev tg : Expr} {es : List Expr} {fa fb fv f1 f2 : M R} {fs fr : M (List R)} {g : List D → Option R} {r : List V → Hp → VK → Prop}
theorem pe_cBf (hc : CallR X (.builtin id) r) (sem : SemB b.K g r) (ha : PA X (e1 :: es) (rAr b W fs)) (hm : X.mg x = some (.builtin id)) (hg : Gl X x := by rfl) (hdb : (x == ("__debug__" : Str)) = false := by decide)
    (he : starEach (e1 :: es) X.env = (false, eval e1 X.env) :: starEach es X.env := by rfl) (hpl : (backTo pos (starEach es X.env)).any (·.1) = false := by rfl) : PE X (.Call (.Name x p) (e1 :: es) [] pos) (rE b W (evB g fs)) :=
  PE.weak (pe_callBfun hc hg hm ha hdb he hpl) fun σ H Q ⟨b', S, ρ, eb, G, w⟩ => ⟨b', S, ρ, eb, G, evB_wp (by rw [eb.1]; exact sem) w⟩
theorem sem_gcd3 {K : PySem.W.Frag} : SemB K gcd3D rGcd3 := by
  intro b eb σ S H ρ xs ds z G h hg Q q
  unfold gcd3D at hg
  split at hg
  · cases hg
    obtain ⟨v, u, w, rfl, h1, h2, h3⟩ := rv3 h
    cases h1
    cases h2
    cases h3
    exact ⟨_, _, _, rfl, q _ H S (Hsub.refl _) G (Rp.int _)⟩
  · cases hg
theorem pe_gcd3 (ha : PA X (e1 :: es) (rAr b W fs)) (hm : X.mg x = some (.builtin "math.gcd")) (hg : Gl X x := by rfl) (hdb : (x == ("__debug__" : Str)) = false := by decide)
    (he : starEach (e1 :: es) X.env = (false, eval e1 X.env) :: starEach es X.env := by rfl) (hpl : (backTo pos (starEach es X.env)).any (·.1) = false := by rfl) : PE X (.Call (.Name x p) (e1 :: es) [] pos) (rE b W (evB gcd3D fs)) :=
  pe_cBf cr_gcd3 sem_gcd3 ha hm hg hdb he hpl
/-! ### two places of a list are set at once -/
def evLSt (i : Nat) (fi : M R) (d : D) : M Unit := fun ρ => match ρ[i]? with
  | some (.ow _) => M.bnd fi (fun ri ρ => match ri, ρ[i]? with
    | .va (.int k), some (.ow xs) => (match ixN xs.length k with
      | some j => some (.ok () (ρ.set i (.ow (xs.set j d))))
      | none => none)
    | _, _ => none) ρ
  | _ => none
def evSwp (i : Nat) (f1 f2 fv : M R) : M Fl := M.bnd (frzM fv) fun rv => M.bnd (frzS rv) fun d => match d with
  | .tup [u, v] => M.bnd (evLSt i f1 u) fun _ => M.bnd (evLSt i f2 v) fun _ => M.ret .nx
  | _ => fun _ => none
theorem lst_go {b' : Bs} {i : Nat} {fi : M R} {d : D} {v : V} {σ : L2.St} {S H : Hp} {ρ : ES} {P : Hp → Hp → ES → Unit → Prop} (eb : EqB b' b) (G : Good b' σ S H ρ) (r : Rp b'.K b'.mg S v d) (w : Wp b' W σ (evLSt i fi d) S H ρ P) {Q : L2.St → Hp → Prop}
    (q : ∀ S' H' ρ', Hsub S S' → Good b' σ S' H' ρ' → P S' H' ρ' () → Q σ H') : L2.gSub (tVar i) (rE b W fi) rSetL v σ H Q := by
  unfold evLSt at w
  cases h2 : ρ[i]? with
  | none => exact wp_none (by simp only [h2]) w
  | some sl =>
    cases sl with
    | ow xs0 =>
      have w2 : Wp b' W σ (M.bnd fi fun ri ρ => match ri, ρ[i]? with
        | .va (.int k), some (.ow xs) => (match ixN xs.length k with
          | some j => some (.ok () (ρ.set i (.ow (xs.set j d))))
          | none => none)
        | _, _ => none) S H ρ P := by
        unfold Wp at w ⊢
        simp only [h2] at w
        exact w
      obtain ⟨a, vs0, e1', _, _, _⟩ := G.sl i _ h2
      refine ⟨.ref a, e1', b', S, ρ, eb, G, ?_⟩
      refine Wp.mono (Wp.bind w2) fun S3 H3 ρ3 ri s3 G3 w3 y hy => ?_
      cases ri with
      | ow ds => exact w3.elim
      | sl j => exact w3.elim
      | va e =>
        cases e with
        | int k =>
          cases hy
          cases h3 : ρ3[i]? with
          | none => exact wp_none (by simp only [h3]) w3
          | some sl =>
            cases sl with
            | ow xs =>
              cases h4 : ixN xs.length k with
              | none => exact wp_none (by simp only [h3, h4]) w3
              | some j =>
                unfold Wp at w3
                simp only [h3, h4] at w3
                obtain ⟨a', vs, e2, hH, hS, hr⟩ := G3.sl i _ h3
                rw [e1'] at e2; cases e2
                have G4 := G3.put h3 e1' hH hS (Rps.set (Rp.mono s3 _ _ r) j hr)
                exact ⟨a, vs, k, j, rfl, rfl, hH, by rw [Rps.length hr]; exact h4, q _ _ _ s3 G4 (w3 S3 _ (Hsub.refl _) G4)⟩
            | _ => exact wp_none (by simp only [h3]) w3
        | _ => exact w3.elim
    | _ => exact wp_none (by simp only [h2]) w
theorem s_swp (i : Nat) (o : OKx b L X) (he : PE X ev (rE b W fv)) (h1 : PE X e1 (rE b W f1)) (h2 : PE X e2 (rE b W f2)) (hN : X.N[i]? = some x := by rfl) (hv : Vis X.env.scope x := by first | exact Or.inl rfl | exact Or.inr (Or.inl rfl) | exact Or.inr (Or.inr rfl)) (hd : (x == ("__debug__" : Str)) = false := by decide)
    (hcd : (x == ("__classdict__" : Str)) = false := by decide)
    (ha1 : ∀ v, assign (.Subscript (.Name x p1) e1 p2) X.env v = (do
      let ov ← holding [v] (eval (.Name x p1) X.env)
      let iv ← holding [v, ov] (eval e1 X.env)
      standAt p2
      holding [v, ov, iv] (setItem ov iv v)
      release [v, ov, iv] []) := by intro _; rfl)
    (ha2 : ∀ v, assign (.Subscript (.Name x p3) e2 p4) X.env v = (do
      let ov ← holding [v] (eval (.Name x p3) X.env)
      let iv ← holding [v, ov] (eval e2 X.env)
      standAt p4
      holding [v, ov, iv] (setItem ov iv v)
      release [v, ov, iv] []) := by intro _; rfl)
    (hs1 : (assignEach [.Subscript (.Name x p1) e1 p2, .Subscript (.Name x p3) e2 p4] X.env).map (·.2) = assign (.Subscript (.Name x p1) e1 p2) X.env :: (assignEach [.Subscript (.Name x p3) e2 p4] X.env).map (·.2) := by rfl)
    (hs2 : (assignEach [.Subscript (.Name x p3) e2 p4] X.env).map (·.2) = assign (.Subscript (.Name x p3) e2 p4) X.env :: (assignEach [] X.env).map (·.2) := by rfl)
    (hn : (assignEach [.Subscript (.Name x p1) e1 p2, .Subscript (.Name x p3) e2 p4] X.env).length = 2 := by rfl) (hst : (assignEach [.Subscript (.Name x p1) e1 p2, .Subscript (.Name x p3) e2 p4] X.env).findIdx? (·.1) = none := by rfl)
    (hs : swapsWithSole [.Tuple [.Subscript (.Name x p1) e1 p2, .Subscript (.Name x p3) e2 p4] k pt'] ev pos.line X.env = pure false := by rfl) (hw : swappedStores [.Tuple [.Subscript (.Name x p1) e1 p2, .Subscript (.Name x p3) e2 p4] k pt'] ev X.env = pure none := by rfl)
    (hh : (assignEach [.Tuple [.Subscript (.Name x p1) e1 p2, .Subscript (.Name x p3) e2 p4] k pt'] X.env).map (·.2) = [assign (.Tuple [.Subscript (.Name x p1) e1 p2, .Subscript (.Name x p3) e2 p4] k pt') X.env] := by rfl) :
    PS X (.Assign [.Tuple [.Subscript (.Name x p1) e1 p2, .Subscript (.Name x p3) e2 p4] k pt'] ev pos) (rS b W (evSwp i f1 f2 fv)) := by
  refine PS.weak (ps_asg he (pg_tup o.calm (pgs_cons (pg_sub (pe_var hN hv hd hcd) h1 set_list ha1) (pgs_cons (pg_sub (pe_var hN hv hd hcd) h2 set_list ha2) pgs_nil hs2) hs1) hn hst) hs hw hh) fun D σ H ⟨b', S, ρ, eb, G, w⟩ => ⟨b', S, ρ, eb, G, ?_⟩
  refine Wp.frz0 (K := fun v H1 => gTup X.K 2 (gCons (L2.gSub (tVar i) (rE b W f1) rSetL) (gCons (L2.gSub (tVar i) (rE b W f2) rSetL) gNil)) v σ H1 D.nx) (WpS.bind (σ := σ) (H := H) (f := frzM fv) w) fun S1 H1 ρ1 r v s1 G1 fr1 w1 => ?_
  obtain ⟨S2, ρ2, d, s2, G2, r2, w2⟩ := Wp.frzS G1 fr1 (WpS.bind (σ := σ) (H := H1) w1)
  cases d with
  | tup ds =>
    match ds, r2, w2 with
    | [u1, u2], .tup pp qq, w2 =>
      cases qq with
      | cons q1 q2 =>
        cases q2 with
        | cons q3 q4 =>
          cases q4
          refine ⟨_, _, rfl, by rw [o.K, ← eb.1]; exact sqt_mono G2.sub pp.1, rfl, _, _, rfl, ?_⟩
          refine lst_go eb G2 q1 (WpS.bind (σ := σ) (H := H1) w2) fun S3 H3 ρ3 s3 G3 w3 => ⟨_, _, rfl, ?_⟩
          refine lst_go eb G3 (Rp.mono s3 _ _ q3) (WpS.bind (σ := σ) (H := H3) w3) fun S4 H4 ρ4 s4 G4 w4 => ⟨rfl, ?_⟩
          exact w4 σ S4 H4 (Hsub.refl _) G4
    | [], _, w2 => exact w2.elim
    | [_], _, w2 => exact w2.elim
    | _ :: _ :: _ :: _, _, w2 => exact w2.elim
  | _ => exact w2.elim
end
end Mc
end
section
set_option Elab.async false
set_option linter.all false
set_option maxRecDepth 100000
set_option maxHeartbeats 4000000
set_option autoImplicit false
namespace Mc
open PySem PySem.Spec L2 LamX

/-! ### a lambda is made -/
theorem lamO_ok {P : Program} {w : World} {H : Hp} {h : Heap} {f c : Addr} {cl : List (Str × Addr)} {t : LT} {pm ctv : Value}
    (e : h.get? f = some (PySem.W.kla_obj "<lambda>" t.q t.params t.body t.scope (cloFrom cl t.scope.names []) pm c ctv)) : ObjOk P w H h f (LamO f c cl t) :=
  ⟨⟨pm, ctv, e⟩, ⟨_, e⟩, fun h1 h2 ⟨a, b, z⟩ st => ⟨a, b, st _ z⟩⟩
theorem codeO_noTab {c : Addr} {q : Str} : NoTab (CodeO c q) := fun ps => codeO_ne ps
section
variable {X : Cx} {pins : List (Addr × Obj)} {σ : L2.St} {S H : Hp} {s : Shared}
/-- what stands behind the making: the lambda at f, its code object at c' -/
structure LamNew (S H H' : Hp) (P f c' : Addr) (cl : List (Str × Addr)) (t : LT) : Prop where
  keep : ∀ a o, H a = some o → a ≠ P → H' a = some o
  there : ∀ a, H' a = none → H a = none
  tab : ∃ ps : Array Value, H' P = some (.tbl ps) ∧ TriplesOk ps.toList ∧ ∀ (pos : Pos) (cv : Value), codeAmong pos ps.toList = some cv → ∃ c0, cv = .ref c0 ∧ (c0 = c' ∨ S c0 = some (CodeO c0 t.q))
  fnew : H f = none
  fc : f ≠ c'
  fat : H' f = some (LamO f c' cl t)
  cat : H' c' = some (CodeO c' t.q)
  cold : H c' = none ∨ S c' = some (CodeO c' t.q)
  fP : f ≠ P
  cP : c' ≠ P
theorem lam_new {c P : Addr} {t : LT} {lpos : Pos} {E Q : Value → Shared → Prop} (I : Inv X pins σ H s) (TB : TabB X.base X.mg c P) (hcode : X.env.code = .ref c) (hq : t.q = X.env.qual ++ "<lambda>") (hSH : Hsub S H) (hT : TabG S H P t.q)
    (hdef : defaultsOf t.params X.env = ([], [])) (hfree : ∀ y ∈ t.scope.names, y.2 = .free → ∃ c, X.env.cells.lookup y.1 = some c)
    (k : ∀ (f c' : Addr) (H' : Hp) (s' : Shared), Inv X pins σ H' s' → LamNew S H H' P f c' X.env.cells t → Q (.ref f) s') : wpAny (model X.prog X.w) X.A (eval (.Lambda t.params t.body t.scope lpos) X.env) Q E s := by
  obtain ⟨ps, hP, ht, ha⟩ := hT
  refine PySem.W.kla_eval hdef ?_
  have bP := TB.bm.keeps I.bk
  have gl := I.mod.glob.keeps I.bk
  have cd := TB.code.keeps I.bk
  have oP : s.heap.get? P = some { cls := .none, data := .fields ps } := I.hok P _ hP
  rw [← hq]
  cases hc : codeAmong lpos ps.toList with
  | none =>
    refine PySem.W.kla_makeFunction (mg := X.mg) (c := c) (P := P) (ps := ps) (closure_ok hfree) I.ok.glob gl hcode cd oP ht hc TB.gP bP ?_
    intro c' ctv h' tk hx hge hlt hrec htb
    obtain ⟨c2, oc, us, tt, e2, hoc, hd, hv⟩ := hrec
    cases e2
    have nc : H c' = none := I.hok.fresh hge
    have I1 := inv_table (t' := tk) (more := #[rawInt lpos.line, rawInt lpos.col, .ref c']) (h' := h') I hP (fun b o hb e => hx b o hb e) htb hge ⟨oc, us, tt, hoc, hd, hv⟩
    have nP : c' ≠ P := Ne.symm (ne_of_none hP nc)
    have nf := I1.hok.fresh (Nat.le_refl h'.objs.size)
    have e1 : h'.objs.size ≠ c' := Nat.ne_of_gt hlt
    have e3 : h'.objs.size ≠ P := Nat.ne_of_gt (Heap.lt_size htb)
    have nf0 : H h'.objs.size = none := I.hok.fresh (Nat.le_trans hge (Nat.le_of_lt hlt))
    have I2 := I1.laid (t' := tk) (a := h'.objs.size) (o := LamO h'.objs.size c' X.env.cells t) (h' := h'.push (PySem.W.kla_obj "<lambda>" t.q t.params t.body t.scope (cloFrom X.env.cells t.scope.names []) ((X.mg "__name__").getD .none) c' ctv))
      (fun b o e => Heap.get?_push_of_some _ e) (Nat.le_refl _) (lamO_ok (Heap.get?_push_size _ rfl))
    have eL : (ps ++ #[rawInt lpos.line, rawInt lpos.col, .ref c']).toList = ps.toList ++ [rawInt lpos.line, rawInt lpos.col, .ref c'] := by simp
    refine k _ c' _ _ I2 ⟨fun a o e n => ?_, fun a e => ?_, ⟨_, by rw [upd_ne e3.symm, upd_ne (Ne.symm nP), upd_same], by rw [eL]; exact PySem.TriplesOk_snoc _ _ _ _ ht, fun p' cv hcv => ?_⟩, nf0, e1, upd_same, by rw [upd_ne e1.symm, upd_same], Or.inl nc, e3, nP⟩
    · rw [upd_ne (ne_of_none e nf0), upd_ne (ne_of_none e nc), upd_ne n]
      exact e
    · by_cases q1 : a = h'.objs.size
      · rw [q1]; exact nf0
      · rw [upd_ne q1] at e
        by_cases q2 : a = c'
        · rw [q2]; exact nc
        · rw [upd_ne q2] at e
          by_cases q3 : a = P
          · rw [q3, upd_same] at e; cases e
          · rw [upd_ne q3] at e; exact e
    · rw [eL] at hcv
      rcases among_app _ ht hcv with z | z
      · obtain ⟨c0, z1, z2⟩ := ha p' cv z
        exact ⟨c0, z1, Or.inr z2⟩
      · exact ⟨c', z, Or.inl rfl⟩
  | some cv =>
    obtain ⟨c', e, hS⟩ := ha lpos cv hc
    subst e
    refine PySem.W.kla_makeFunctionHit (mg := X.mg) (c := c) (P := P) (ps := ps) (closure_ok hfree) I.ok.glob gl hcode cd oP ht hc bP ?_
    intro ctv h' tk hx hsz
    have I1 : Inv X pins σ H { s with heap := h', toks := tk } := I.kept hx
    have nf0 : H h'.objs.size = none := I1.hok.fresh (Nat.le_refl h'.objs.size)
    have hH := hSH _ _ hS
    have I2 := I1.laid (t' := tk) (a := h'.objs.size) (o := LamO h'.objs.size c' X.env.cells t) (h' := h'.push (PySem.W.kla_obj "<lambda>" t.q t.params t.body t.scope (cloFrom X.env.cells t.scope.names []) ((X.mg "__name__").getD .none) c' ctv))
      (fun b o e => Heap.get?_push_of_some _ e) (Nat.le_refl _) (lamO_ok (Heap.get?_push_size _ rfl))
    have e1 : h'.objs.size ≠ c' := fun z => by rw [z, hH] at nf0; cases nf0
    have e3 : h'.objs.size ≠ P := fun z => by rw [z, hP] at nf0; cases nf0
    refine k _ c' _ _ I2 ⟨fun a o e n => by rw [upd_ne (ne_of_none e nf0)]; exact e, fun a e => ?_, ⟨ps, by rw [upd_ne e3.symm]; exact hP, ht, fun p' cv hcv => ?_⟩, nf0, e1, upd_same, by rw [upd_ne e1.symm]; exact hH, Or.inr hS, e3, fun z => ?_⟩
    · by_cases q1 : a = h'.objs.size
      · rw [q1]; exact nf0
      · rw [upd_ne q1] at e; exact e
    · obtain ⟨c0, z1, z2⟩ := ha p' cv hcv
      exact ⟨c0, z1, Or.inr z2⟩
    · rw [z, hP] at hH
      exact codeO_ne _ (Option.some.inj hH).symm
end
def evLam (t : LT) (cl : List (Str × Addr)) : M R := M.ret (.va (.lam t cl))
section
variable {b : Bs} {W : WX} {L : Nat} {X : Cx} {pos : Pos} {σ : L2.St} {S H : Hp} {ρ : ES}
theorem Good.ownNoTab (G : Good b σ S H ρ) {i : Nat} {a : Addr} (w : Own ρ σ i a) : ∃ o, H a = some o ∧ NoTab o := by
  obtain ⟨e, s, hs, ho⟩ := w
  have k := G.sl i s hs
  cases s with
  | no => cases ho
  | va d => cases ho
  | ow ds =>
    obtain ⟨a', vs, e', r1, _⟩ := k
    rw [e] at e'; cases e'
    exact ⟨_, r1, noTab_lst⟩
  | pn p =>
    obtain ⟨a', c, e', r1, _⟩ := k
    rw [e] at e'; cases e'
    exact r1.noTab
theorem Good.lamNew {H' : Hp} {P f c' : Addr} {cl : List (Str × Addr)} {t : LT} (G : Good b σ S H ρ) (htb : b.tb = some (P, t.q)) (N : LamNew S H H' P f c' cl t) :
    Hsub S (upd (upd S c' (CodeO c' t.q)) f (LamO f c' cl t)) ∧ Good b σ (upd (upd S c' (CodeO c' t.q)) f (LamO f c' cl t)) H' ρ := by
  obtain ⟨tg, hB, hSP⟩ := G.tab P _ htb
  have sf : S f = none := G.sn N.fnew
  have up : Hsub S (upd (upd S c' (CodeO c' t.q)) f (LamO f c' cl t)) := fun a o e => by
    rw [upd_ne (ne_of_none e sf)]
    by_cases h : a = c'
    · subst h
      rw [upd_same]
      rcases N.cold with z | z
      · rw [G.sn z] at e; cases e
      · rw [z] at e; exact e
    · rw [upd_ne h]; exact e
  have ownP : ∀ {i a}, Own ρ σ i a → a ≠ P := fun {i a} w z => by
    obtain ⟨o, ho, nt⟩ := G.ownNoTab w
    subst z
    exact tab_ne tg ho nt rfl
  refine ⟨up, fun a o e => ?_, G.len, fun i sl e => ?_, G.dis, fun a o e n => ?_, G.o0, G.s0.trans up, fun a e => ?_, fun a e => G.f0 a (N.there a e), fun P2 q2 e => ?_⟩
  · by_cases h : a = f
    · subst h; rw [upd_same] at e; cases e; exact N.fat
    · rw [upd_ne h] at e
      by_cases h2 : a = c'
      · subst h2; rw [upd_same] at e; cases e; exact N.cat
      · rw [upd_ne h2] at e
        exact N.keep a o (G.sub a o e) fun z => by rw [z, hSP] at e; cases e
  · have q1 := (G.sl i sl e).heap (H' := H') fun a o ha ho h => N.keep a o h (ownP ⟨ha, sl, e, ho⟩)
    refine q1.mono up fun a ha ho => ?_
    obtain ⟨⟨u, hu⟩, hs⟩ := G.ownat ⟨ha, sl, e, ho⟩
    rw [upd_ne (fun z => by rw [z, N.fnew] at hu; cases hu), upd_ne (fun z => by
      subst z
      rcases N.cold with z | z
      · rw [z] at hu; cases hu
      · rw [hs] at z; cases z)]
    exact hs
  · exact N.keep a o (G.k0 a o e n) fun z => by subst z; exact n hB
  · by_cases h : a = f
    · subst h; exact Or.inr (Or.inl (G.f0 _ N.fnew))
    · rw [upd_ne h] at e
      by_cases h2 : a = c'
      · subst h2
        rcases N.cold with z | z
        · exact Or.inr (Or.inl (G.f0 _ z))
        · exact G.n0 a (by rw [z]; exact fun z => nomatch z)
      · rw [upd_ne h2] at e; exact G.n0 a e
  · rw [htb] at e
    cases e
    obtain ⟨ps, h1, h2, h3⟩ := N.tab
    refine ⟨⟨ps, h1, h2, fun p cv hc => ?_⟩, hB, by rw [upd_ne (Ne.symm N.fP), upd_ne (Ne.symm N.cP)]; exact hSP⟩
    obtain ⟨c0, e1, e2⟩ := h3 p cv hc
    refine ⟨c0, e1, ?_⟩
    rcases e2 with rfl | e2
    · rw [upd_ne (Ne.symm N.fc), upd_same]
    · exact up _ _ e2
theorem pe_lam {t : LT} {P c : Addr} {lpos : Pos} (o : OKx b L X) (TB : TabB X.base X.mg c P) (hcode : X.env.code = .ref c) (htb : b.tb = some (P, t.q)) (hq : t.q = X.env.qual ++ "<lambda>" := by rfl) (ls : LamS X.env.scope t.scope := by exact lamS_by rfl) (hdef : defaultsOf t.params X.env = ([], []) := by rfl) :
    PE X (.Lambda t.params t.body t.scope lpos) (rE b W (evLam t X.env.cells)) := by
  refine ⟨fun pins s σ H Q I ⟨b', S, ρ, eb, G, w⟩ => ?_⟩
  have htb' : b'.tb = some (P, t.q) := eb.tb.trans htb
  refine lam_new I TB hcode hq G.sub (G.tab P _ htb').1 hdef (ls.has I.ok) fun f c' H' s' I' N => ?_
  obtain ⟨up, G'⟩ := G.lamNew htb' N
  exact ⟨.ref f, H', I', rfl, w _ H' up G' (.ref f) (.lam upd_same (by rw [upd_ne (Ne.symm N.fc), upd_same]))⟩
end
end Mc
end
section
set_option Elab.async false
set_option linter.all false
set_option maxRecDepth 100000
set_option maxHeartbeats 4000000
set_option autoImplicit false
namespace Mc
open PySem PySem.Spec L2 LamX

/-! ### cells, tracked for a while -/
abbrev CMap := Addr → Option Obj
def lendC (M : CMap) (H : Hp) : Hp := fun a => match M a with
  | some o => some (CellO a o)
  | none => H a
def dropC (M : CMap) (H : Hp) : Hp := fun a => match M a with
  | some _ => none
  | none => H a
section
variable {M : CMap} {H : Hp} {a : Addr} {o : Obj}
theorem lend_at (h : M a = some o) : lendC M H a = some (CellO a o) := by unfold lendC; rw [h]
theorem lend_no (h : M a = none) : lendC M H a = H a := by unfold lendC; rw [h]
theorem drop_at (h : M a = some o) : dropC M H a = none := by unfold dropC; rw [h]
theorem drop_no (h : M a = none) : dropC M H a = H a := by unfold dropC; rw [h]
end
theorem cellO_nx {c : Addr} {o : Obj} {u : HO} (hu : ∀ φ, u ≠ .ext φ) : CellO c o ≠ u := fun z => by
  unfold CellO at z
  exact hu _ z.symm
theorem cellO_inj {c : Addr} {o o' : Obj} {P : Program} {w : World} {H : Hp} {h : Heap} (hok : HOk P w H h) (e : H c = some (CellO c o)) : h.get? c = some o := by
  have x : ObjOk P w H h c (.ext fun h => h.get? c = some o) := hok c _ e
  exact x.1
section
variable {P : Program} {w : World} {M : CMap} {H H2 : Hp} {h h' : Heap} {fs : List Addr}
/-- untracked cells of the heap h, each with its object -/
structure Cells (M : CMap) (H : Hp) (h : Heap) : Prop where
  at_ : ∀ c o, M c = some o → h.get? c = some o ∧ H c = none
theorem lend_hok (C : Cells M H h) (hok : HOk P w H h) : HOk P w (lendC M H) h := fun b o e => by
  cases q : M b with
  | some ob =>
    rw [lend_at q] at e
    cases e
    obtain ⟨e1, _⟩ := C.at_ b ob q
    exact ⟨e1, ⟨_, e1⟩, fun h1 h2 φ st => st _ φ⟩
  | none =>
    rw [lend_no q] at e
    have ne : ∀ {d u}, H d = some u → M d = none := fun {d u} z => by
      cases m : M d with
      | none => rfl
      | some od => rw [(C.at_ d od m).2] at z; cases z
    exact (hok b o e).stay (fun d u _ z => z) (fun d z => by rw [lend_no (ne z)]; exact z) (fun d xs z => by rw [lend_no (ne z)]; exact z)
theorem drop_hok (k : ∀ c o, M c = some o → H2 c = some (CellO c o)) (hok : HOk P w H2 h) : HOk P w (dropC M H2) h := fun b o e => by
  cases q : M b with
  | some ob => rw [drop_at q] at e; cases e
  | none =>
    rw [drop_no q] at e
    have ne : ∀ {d u}, H2 d = some u → (∀ φ, u ≠ .ext φ) → M d = none := fun {d u} z hu => by
      cases m : M d with
      | none => rfl
      | some od => rw [k d od m] at z; exact (cellO_nx hu (Option.some.inj z)).elim
    exact (hok b o e).stay (fun d u _ z => z) (fun d z => by rw [drop_no (ne z fun _ y => by cases y)]; exact z) (fun d xs z => by rw [drop_no (ne z fun _ y => by cases y)]; exact z)
/-- what happened while the cells were tracked, told without them -/
theorem un_drop (C : Cells M H h) (k : ∀ c o, M c = some o → H2 c = some (CellO c o)) (hok : HOk P w H2 h') (un : Un fs [] (lendC M H) H2 h h') : Un fs [] H (dropC M H2) h h' := by
  have cell : ∀ {b o ob}, h.get? b = some o → M b = some ob → h'.get? b = some o := fun {b o ob} e m => by
    rw [(C.at_ b ob m).1] at e
    cases e
    exact cellO_inj (o' := o) hok (k b _ m)
  have ne : ∀ {d u}, H d = some u → M d = none := fun {d u} z => by
    cases m : M d with
    | none => rfl
    | some od => rw [(C.at_ d od m).2] at z; cases z
  have nx : ∀ {d u}, H2 d = some u → (∀ φ, u ≠ .ext φ) → M d = none := fun {d u} z hu => by
    cases m : M d with
    | none => rfl
    | some od => rw [k d od m] at z; exact (cellO_nx hu (Option.some.inj z)).elim
  refine ⟨fun b o e n hf hx => ?_, fun b o e n hf hx => ?_, fun b o e n hx => ?_, fun b o e hx => ?_, fun b xs e => ?_, fun b o u e => ?_, fun b ps e => ?_⟩
  · cases m : M b with
    | some ob => exact cell e m
    | none => exact un.keep b o e (by rw [lend_no m]; exact n) hf hx
  · cases m : M b with
    | some ob => exact ⟨o.slots, cell e m⟩
    | none => exact un.slot b o e (by rw [lend_no m]; exact n) hf hx
  · cases m : M b with
    | some ob => exact drop_at m
    | none => rw [drop_no m]; exact un.free b o e (by rw [lend_no m]; exact n) hx
  · exact un.there b o e hx
  · rw [drop_no (ne e)]; exact un.tups b xs (by rw [lend_no (ne e)]; exact e)
  · rw [drop_no (ne e)]; exact un.frzs b o u (by rw [lend_no (ne e)]; exact e)
  · rw [drop_no (ne e)]; exact un.tbls b ps (by rw [lend_no (ne e)]; exact e)
/-- what happened while tracked cells were let go, told with them -/
theorem drop_cells (k : ∀ c o, M c = some o → H c = some (CellO c o)) (hok : HOk P w H h) : Cells M (dropC M H) h := ⟨fun c o m => ⟨cellO_inj (o' := o) hok (k c o m), drop_at m⟩⟩
theorem cells_go (k : ∀ c o, M c = some o → H c = some (CellO c o)) (hok : HOk P w H h) (nf : ∀ c o, M c = some o → c ∉ fs) (un : Un fs [] (dropC M H) H2 h h') : Cells M H2 h' := ⟨fun c o m => by
  have e := cellO_inj (o' := o) hok (k c o m)
  exact ⟨un.keep c o e (drop_at m) (nf c o m) (by simp), un.free c o e (drop_at m) (by simp)⟩⟩
theorem un_lend (k : ∀ c o, M c = some o → H c = some (CellO c o)) (hok : HOk P w H h) (nf : ∀ c o, M c = some o → c ∉ fs) (un : Un fs [] (dropC M H) H2 h h') : Un fs [] H (lendC M H2) h h' := by
  have nc : ∀ {b}, H b = none → M b = none := fun {b} n => by
    cases m : M b with
    | none => rfl
    | some ob => rw [k b ob m] at n; cases n
  have nx : ∀ {d u}, H d = some u → (∀ φ, u ≠ .ext φ) → M d = none := fun {d u} z hu => by
    cases m : M d with
    | none => rfl
    | some od => rw [k d od m] at z; exact (cellO_nx hu (Option.some.inj z)).elim
  refine ⟨fun b o e n hf hx => un.keep b o e (by rw [drop_no (nc n)]; exact n) hf hx, fun b o e n hf hx => un.slot b o e (by rw [drop_no (nc n)]; exact n) hf hx, fun b o e n hx => ?_, fun b o e hx => un.there b o e hx, fun b xs e => ?_, fun b o u e => ?_, fun b ps e => ?_⟩
  · rw [lend_no (nc n)]; exact un.free b o e (by rw [drop_no (nc n)]; exact n) hx
  · have m := nx e fun _ z => by cases z
    rw [lend_no m]; exact un.tups b xs (by rw [drop_no m]; exact e)
  · have m := nx e fun _ z => by cases z
    rw [lend_no m]; exact un.frzs b o u (by rw [drop_no m]; exact e)
  · have m := nx e fun _ z => by cases z
    rw [lend_no m]; exact un.tbls b ps (by rw [drop_no m]; exact e)
theorem ub_lend {B : Heap} (k : ∀ c o, M c = some o → H c = some (CellO c o)) (hok : HOk P w H h) (un : UB fs (dropC M H) H2 h B h') : UB fs H (lendC M H2) h B h' := by
  have nc : ∀ {b}, H b = none → M b = none := fun {b} n => by
    cases m : M b with
    | none => rfl
    | some ob => rw [k b ob m] at n; cases n
  have nx : ∀ {d u}, H d = some u → (∀ φ, u ≠ .ext φ) → M d = none := fun {d u} z hu => by
    cases m : M d with
    | none => rfl
    | some od => rw [k d od m] at z; exact (cellO_nx hu (Option.some.inj z)).elim
  refine ⟨fun b o e n hf => un.keep b o e (by rw [drop_no (nc n)]; exact n) hf, fun b o e hf => un.slot b o e hf, fun b o e n => ?_, fun b o e hf => un.there b o e hf, fun b xs e => ?_, fun b o u e => ?_, fun b ps e => ?_⟩
  · rw [lend_no (nc n)]; exact un.free b o e (by rw [drop_no (nc n)]; exact n)
  · have m := nx e fun _ z => by cases z
    rw [lend_no m]; exact un.tups b xs (by rw [drop_no m]; exact e)
  · have m := nx e fun _ z => by cases z
    rw [lend_no m]; exact un.frzs b o u (by rw [drop_no m]; exact e)
  · have m := nx e fun _ z => by cases z
    rw [lend_no m]; exact un.tbls b ps (by rw [drop_no m]; exact e)
/-- a call made while cells are tracked -/
theorem ce_drop {outer : List Env} {s s' : Shared} {Q Q' : VK} {u : Value} (C : Cells M H s.heap) (k : ∀ v H2, Q' v H2 → (∀ c o, M c = some o → H2 c = some (CellO c o)) ∧ Q v (dropC M H2)) (c : CE outer P w (lendC M H) s Q' u s') : CE outer P w H s Q u s' := by
  obtain ⟨v, H2, os, bare, un, hok, r, q⟩ := c
  obtain ⟨k1, k2⟩ := k v H2 q
  exact ⟨v, dropC M H2, os, bare, un_drop C k1 hok un, drop_hok k1 hok, r, k2⟩
/-- a call made while tracked cells are let go -/
theorem ce_lend {outer : List Env} {s s' : Shared} {Q Q' : VK} {u : Value} (k : ∀ c o, M c = some o → H c = some (CellO c o)) (hok : HOk P w H s.heap) (nf : ∀ c o, M c = some o → c ∉ frs outer) (kq : ∀ v H2, (∀ c o, M c = some o → H2 c = none) → Q' v H2 → Q v (lendC M H2)) (c : CE outer P w (dropC M H) s Q' u s') : CE outer P w H s Q u s' := by
  obtain ⟨v, H2, os, bare, un, hok2, r, q⟩ := c
  exact ⟨v, lendC M H2, os, bare, un_lend k hok nf un, lend_hok (cells_go k hok nf un) hok2, r, kq v H2 (fun c o m => ((cells_go k hok nf un).at_ c o m).2) q⟩
theorem cx_lend {outer : List Env} {s s' : Shared} {E E' : XK} {u : Value} (k : ∀ c o, M c = some o → H c = some (CellO c o)) (hok : HOk P w H s.heap) (nf : ∀ c o, M c = some o → c ∉ frs outer) (ke : ∀ cls d H2, (∀ c o, M c = some o → H2 c = none) → E' cls d H2 → E cls d (lendC M H2)) (c : L2.CX P w outer (dropC M H) s E' u s') : L2.CX P w outer H s E u s' := by
  obtain ⟨a, B, H2, cls, d, rfl, fl, hok2, ub, na, os, ag, q⟩ := c
  have C : Cells M H2 B := ⟨fun c o m => by
    have e := cellO_inj (o' := o) hok (k c o m)
    exact ⟨ub.keep c o e (drop_at m) (nf c o m), ub.free c o e (drop_at m)⟩⟩
  refine ⟨a, B, lendC M H2, cls, d, rfl, fl, lend_hok C hok2, ub_lend k hok ub, ?_, os, ag, ke cls d H2 (fun c o m => (C.at_ c o m).2) q⟩
  cases m : M a with
  | none => rw [lend_no m]; exact na
  | some o =>
    have e := (C.at_ a o m).1
    rw [fl.2.1] at e
    cases e
end
end Mc
end
section
set_option Elab.async false
set_option linter.all false
set_option maxRecDepth 100000
set_option maxHeartbeats 4000000
set_option autoImplicit false
namespace Mc
open PySem PySem.Spec L2 LamX

/-! ### data without closures -/
mutual
def D.pur : D → Bool
  | .lam _ _ => false
  | .act _ _ => false
  | .dic _ => false
  | .tup xs => D.purs xs
  | .lst xs => D.purs xs
  | .ob _ fs => D.purf fs
  | _ => true
def D.purs : List D → Bool
  | [] => true
  | x :: xs => x.pur && D.purs xs
def D.purf : List (Str × D) → Bool
  | [] => true
  | (_, x) :: xs => x.pur && D.purf xs
end
section
variable {K : PySem.W.Frag} {mg : Str → Option Value} {S S' : Hp}
theorem sqx_less (h : ∀ a o, S a = some o → (∀ φ, o ≠ .ext φ) → S' a = some o) {a : Addr} {vs : List V} (x : SqX K S a vs) : SqX K S' a vs := by
  refine ⟨?_, ?_⟩
  · rcases x.1 with (x | ⟨o, x⟩) | x
    · exact Or.inl (Or.inl (h _ _ x fun φ z => by cases z))
    · exact Or.inl (Or.inr ⟨o, h _ _ x fun φ z => by cases z⟩)
    · exact Or.inr x
  · exact x.2.elim (fun ⟨o, u, e, r⟩ => Or.inl ⟨o, u, h _ _ e (fun φ z => by cases z), r⟩) Or.inr
mutual
theorem Rp.less (h : ∀ a o, S a = some o → (∀ φ, o ≠ .ext φ) → S' a = some o) : ∀ (d : D) (v : V), d.pur = true → Rp K mg S v d → Rp K mg S' v d
  | .non, _, _, x => by cases x; exact .non
  | .bl _, _, _, x => by cases x; exact .bl _
  | .int _, _, _, x => by cases x; exact .int _
  | .str _, _, _, x => by cases x; exact .str _
  | .tup ds, _, p, x => by cases x with | tup a b => exact .tup (sqx_less h a) (Rps.less h ds _ (by simpa only [D.pur] using p) b)
  | .lst ds, _, p, x => by cases x with | lst a b => exact .lst (h _ _ a fun φ z => by cases z) (Rps.less h ds _ (by simpa only [D.pur] using p) b)
  | .ob c fs, _, p, x => by cases x with | ob a m b => exact .ob (h _ _ a fun φ z => by cases z) m (Rpf.less h fs _ (by simpa only [D.pur] using p) b)
  | .dic _, _, _, x => by cases x
  | .fn _, _, _, x => by cases x with | fn m => exact .fn m
  | .lam _ _, _, p, _ => by simp only [D.pur] at p; cases p
  | .act _ _, _, p, _ => by simp only [D.pur] at p; cases p
theorem Rps.less (h : ∀ a o, S a = some o → (∀ φ, o ≠ .ext φ) → S' a = some o) : ∀ (ds : List D) (vs : List V), D.purs ds = true → Rps K mg S vs ds → Rps K mg S' vs ds
  | [], _, _, x => by cases x; exact .nil
  | d :: ds, _, p, x => by
    simp only [D.purs, Bool.and_eq_true] at p
    cases x with | cons a b => exact .cons (Rp.less h d _ p.1 a) (Rps.less h ds _ p.2 b)
theorem Rpf.less (h : ∀ a o, S a = some o → (∀ φ, o ≠ .ext φ) → S' a = some o) : ∀ (ds : List (Str × D)) (vs : List (Str × V)), D.purf ds = true → Rpf K mg S vs ds → Rpf K mg S' vs ds
  | [], _, _, x => by cases x; exact .nil
  | (f, d) :: ds, _, p, x => by
    simp only [D.purf, Bool.and_eq_true] at p
    cases x with | cons a b => exact .cons (Rp.less h d _ p.1 a) (Rpf.less h ds _ p.2 b)
end
end

/-! ### a lambda that is called -/
structure ActOk (P : Program) (w : World) (K : PySem.W.Frag) (mg : Str → Option Value) (base : Heap) (k : Nat) (t : LT) (F : List D → Option DRes) : Prop where
  run : ∀ (A : Around) (outer : List Env) (s : Shared) (H S : Hp) (f c : Addr) (cl : List (Str × Addr)) (vs : List V) (ds : List D) (Q : VK) (E : XK), Room k A → Env0 P w K mg base A outer s H → Hsub S H → S f = some (LamO f c cl t) → S c = some (CodeO c t.q) →
    CellsS S (cloFrom cl t.scope.names []) t.fr vs → Rps K mg S vs ds → SpM K mg (fun _ => False) S H Q E (fun _ _ => True) (F ds) → codeAny (model P w) A (.call (.ref f) ⟨[], []⟩) (CR (L2.CX P w) outer P w H s Q E) s
theorem ActOk.mono {P : Program} {w : World} {K : PySem.W.Frag} {mg : Str → Option Value} {base : Heap} {j k : Nat} {t : LT} {F : List D → Option DRes} (a : ActOk P w K mg base j t F) (h : j ≤ k) : ActOk P w K mg base k t F :=
  ⟨fun A outer s H S f c cl vs ds Q E hr => a.run A outer s H S f c cl vs ds Q E (hr.mono h)⟩
def resA : Option (Res R) → Option DRes
  | some (.ok (.va d) _) => some (.va d)
  | some (.er x _) => some (.er x)
  | _ => none
def runA (N : Nat) (m : M R) : List D → Option DRes := fun ds => if D.purs ds = true then resA (m (ini N ds)) else none
/-- the words that the library's nested defs go by -/
def actF (t : LT) (cl : List (Str × Addr)) (c : Addr) : NdefX.NF := ⟨"<lambda>", t.q, t.params, [], t.scope, cloFrom cl t.scope.names [], c⟩
abbrev actX (P : Program) (w : World) (K : PySem.W.Frag) (mg : Str → Option Value) (base : Heap) (N : List Str) (t : LT) (f c : Addr) (cl : List (Str × Addr)) (A : Around) (outer : List Env) (s : Shared) (H : Hp) (E : XK) : Cx := NdefX.ncx (L2.CX P w) P w K mg base N (actF t cl c) f A outer s H E
def ActIs (P : Program) (w : World) (K : PySem.W.Frag) (mg : Str → Option Value) (base : Heap) (N : List Str) (t : LT) (k : Nat) (m : M R) : Prop :=
  ∀ (X : Cx) (W : WX) (b : Bs), (∃ f c cl A outer s H E, X = actX P w K mg base N t f c cl A outer s H E) → b.K = K → b.mg = mg → OKx b k X → Takes X W → PE X t.body (rE b W m)
theorem startF_eq {N : List Str} {vs : List V} : NdefX.startF N [] (vs.map some) = L2.start N vs := by
  unfold NdefX.startF L2.start
  simp
open Classical in
/-- the captured cells that S holds -/
noncomputable def capM (S : Hp) (cl : List (Str × Addr)) : CMap := fun a => if h : ∃ o, (∃ y, cl.lookup y = some a) ∧ (∃ w, o.data = .cell w) ∧ S a = some (CellO a o) then some h.choose else none
theorem capM_some {S : Hp} {cl : List (Str × Addr)} {a : Addr} {o : Obj} (h : capM S cl a = some o) : (∃ y, cl.lookup y = some a) ∧ (∃ w, o.data = .cell w) ∧ S a = some (CellO a o) := by
  unfold capM at h
  split at h
  · rename_i q
    cases h
    exact q.choose_spec
  · cases h
theorem capM_at {S : Hp} {cl : List (Str × Addr)} {fr : List Str} {vs : List V} (C : CellsS S cl fr vs) {y : Str} {a : Addr} (h : cl.lookup y = some a) : ∃ o, capM S cl a = some o := by
  obtain ⟨o, w, e1, e2⟩ := C.all y a h
  unfold capM
  have q : ∃ o, (∃ y, cl.lookup y = some a) ∧ (∃ w, o.data = .cell w) ∧ S a = some (CellO a o) := ⟨o, ⟨y, h⟩, ⟨w, e2⟩, e1⟩
  exact ⟨_, dif_pos q⟩
theorem act_of {P : Program} {w : World} {K : PySem.W.Frag} {mg : Str → Option Value} {base : Heap} {N : List Str} {t : LT} {k : Nat} {m : M R} (Sc : NdefX.NScope N [] t.fr t.scope)
    (hbind : ∀ (cl : List (Str × Addr)) (pm cv ctv : Value), bindArgs (PySem.W.kla_fn "<lambda>" t.q t.params t.body t.scope cl pm cv ctv) ⟨[], []⟩ = pure []) (hb : ActIs P w K mg base N t k m) : ActOk P w K mg base (k + 1) t (runA N.length m) := by
  refine ⟨fun A outer s H S f c cl vs ds Q E hr e0 hS hf hc C r hm => ?_⟩
  generalize hM : capM S (cloFrom cl t.scope.names []) = M
  have kS : ∀ c o, M c = some o → S c = some (CellO c o) := fun c o e => (capM_some (by rw [hM]; exact e)).2.2
  have kH : ∀ c o, M c = some o → H c = some (CellO c o) := fun c o e => hS _ _ (kS c o e)
  have mAt : ∀ {y a}, (cloFrom cl t.scope.names []).lookup y = some a → ∃ o, M a = some o := fun {y a} e => by rw [← hM]; exact capM_at C e
  have dn : ∀ {b}, H b = none → dropC M H b = none := fun {b} n => by
    cases q : M b with
    | none => rw [drop_no q]; exact n
    | some o => exact drop_at q
  have nf : ∀ c o, M c = some o → c ∉ frs outer := fun c o e hm => by
    have z := e0.frf c hm
    rw [kH c o e] at z
    cases z
  unfold runA at hm
  have hp : D.purs ds = true := by
    cases z : D.purs ds with
    | true => rfl
    | false => rw [if_neg (by rw [z]; exact Bool.false_ne_true)] at hm; exact hm.elim
  rw [if_pos hp] at hm
  have e0' : Env0 P w K mg base A outer s (dropC M H) := ⟨e0.frames, e0.mod, fun b o e => ⟨(e0.bs b o e).1, dn (e0.bs b o e).2⟩, e0.bsz, e0.funs, fun b hb => dn (e0.frf b hb), drop_hok kH e0.hok, e0.bare⟩
  obtain ⟨⟨pm, ctv, hof⟩, _, _⟩ := (show ObjOk P w H s.heap f (.ext _) from e0.hok f _ (hS _ _ hf))
  obtain ⟨⟨oc, us, tt, hoc, hdc, hvc⟩, _, _⟩ := (show ObjOk P w H s.heap c (.ext _) from e0.hok c _ (hS _ _ hc))
  have lim : s.heap.NoLimit := e0.mod.nolimit.keeps fun b o e => (e0.bs b o e).1
  have hdr := Rps.length r
  have clen := C.len
  have hpl : t.fr.length ≤ N.length := by
    have q := congrArg List.length Sc.pre
    rw [List.length_take, List.length_append] at q
    simp only [List.length_nil, Nat.zero_add] at q
    omega
  have cAt : NdefX.CellsAt (cloFrom cl t.scope.names []) t.fr (vs.map some) s.heap (dropC M H) := by
    refine ⟨by rw [List.length_map]; exact C.len, fun y a e => ?_, C.inj, fun i y e => ?_⟩
    · obtain ⟨o, ho⟩ := mAt e
      obtain ⟨_, ⟨w', hw⟩, _⟩ := capM_some (show capM S (cloFrom cl t.scope.names []) a = some o by rw [hM]; exact ho)
      exact ⟨drop_at ho, w', o, cellO_inj (o' := o) e0.hok (kH a o ho), hw⟩
    · have hi : i < t.fr.length := (List.getElem?_eq_some_iff.mp e).1
      obtain ⟨a, o, u, e1, e2, e3, e4⟩ := C.has i y (vs[i]'(by omega)) e (List.getElem?_eq_getElem (by omega))
      refine ⟨a, e1, fun v ev => ?_⟩
      rw [List.getElem?_map, List.getElem?_eq_getElem (by omega)] at ev
      cases ev
      exact ⟨u, e4, o, cellO_inj (o' := o) e0.hok (hS _ _ e2), e3⟩
  have low : ∀ a o, S a = some o → (∀ φ, o ≠ .ext φ) → dropC M S a = some o := fun a o e hx => by
    cases q : M a with
    | none => rw [drop_no q]; exact e
    | some ob =>
      rw [kS a ob q] at e
      exact (hx _ (Option.some.inj e).symm).elim
  let b : Bs := ⟨K, mg, dropC M H, dropC M S, fun _ => False, none, none⟩
  have hsub : Hsub (dropC M S) (dropC M H) := fun a o e => by
    cases q : M a with
    | none => rw [drop_no q] at e ⊢; exact hS a o e
    | some ob => rw [drop_at q] at e; cases e
  have G : Good b (L2.start N vs) (dropC M S) (dropC M H) (ini N.length ds) := good_start (by omega) hsub (Rps.less low ds vs hp r) rfl rfl
  have post : ∀ {S' H' ρ'}, Good b (L2.start N vs) S' H' ρ' → (∀ c o, M c = some o → H' c = none) → Post (fun _ => False) S H (lendC M S') (lendC M H') ∧ Hsub S' (lendC M S') := fun {S' H' ρ'} G' hn => by
    have sn : ∀ c o, M c = some o → S' c = none := fun c o e => G'.sn (hn c o e)
    refine ⟨⟨fun a o e => ?_, fun a o e => ?_, fun a o e _ => ?_, fun a e => ?_, fun a e => ?_⟩, fun a o e => ?_⟩
    · cases q : M a with
      | some ob => rw [lend_at q]; rw [kS a ob q] at e; exact e
      | none => rw [lend_no q]; exact G'.s0 a o (by show dropC M S a = _; rw [drop_no q]; exact e)
    · cases q : M a with
      | some ob => rw [lend_at q] at e ⊢; exact e
      | none => rw [lend_no q] at e ⊢; exact G'.sub a o e
    · cases q : M a with
      | some ob => rw [lend_at q]; rw [kH a ob q] at e; exact e
      | none => rw [lend_no q]; exact G'.k0 a o (by show dropC M H a = _; rw [drop_no q]; exact e) id
    · cases q : M a with
      | some ob => exact Or.inl (by rw [kS a ob q]; exact fun z => nomatch z)
      | none =>
        rw [lend_no q] at e
        rcases G'.n0 a e with z | z | z
        · have z' : dropC M S a ≠ none := z
          rw [drop_no q] at z'
          exact Or.inl z'
        · have z' : dropC M H a = none := z
          rw [drop_no q] at z'
          exact Or.inr z'
        · exact z.elim
    · cases q : M a with
      | some ob => rw [lend_at q] at e; cases e
      | none =>
        rw [lend_no q] at e
        have z : dropC M H a = none := G'.f0 a e
        rw [drop_no q] at z
        exact z
    · cases q : M a with
      | some ob => rw [sn a ob q] at e; cases e
      | none => rw [lend_no q]; exact e
  let Qm : VK := fun v H2 => (∀ c o, M c = some o → H2 c = none) → Q v (lendC M H2)
  let Em : XK := fun cls d H2 => (∀ c o, M c = some o → H2 c = none) → E cls d (lendC M H2)
  have key : codeAny (model P w) A (.call (.ref f) ⟨[], []⟩) (CR (L2.CX P w) outer P w (dropC M H) s Qm Em) s := by
    refine PySem.W.kla_callFunE hr.depth hof rfl Sc.co Sc.gen rfl ⟨c, oc, us, tt, rfl, hoc, hdc, hvc⟩ ?_
    rw [hbind]
    refine wpAny_pure (wpAny_newFunctionEnv Sc.nocell (fun y hy => absurd hy (by simp)) (fun h₁ hns hsb => ⟨lim.fresh _ hsb, ?_⟩) Sc.kind)
    show codeAny _ _ (.expr t.body (NdefX.envF (actF t cl c) f s.heap.objs.size)) _ _
    have kp : ∀ b o, s.heap.get? b = some o → h₁.get? b = some o := fun b o e => hsb.extBut b o (Nat.ne_of_lt (Heap.lt_size e)) (Heap.get?_push_of_some _ e)
    have J : Inv (actX P w K mg base N t f c cl A outer s (dropC M H) Em) [] (NdefX.startF N [] (vs.map some)) (dropC M H) { s with heap := h₁, toks := s.toks + ([] : List (Str × Value)).length } :=
      NdefX.inv_startN (F := actF t cl c) (ps := []) (us := []) (vs := []) Sc hr.hd e0' rfl .nil cAt hns kp
    rw [startF_eq] at J
    have hbody := hb (actX P w K mg base N t f c cl A outer s (dropC M H) Em) (fun cls d _ H => Em cls d H) b ⟨f, c, cl, A, outer, s, _, Em, rfl⟩ rfl rfl ⟨rfl, rfl, rfl, Sc.nd, hr.deeper _⟩ (takes_of rfl rfl rfl rfl)
    refine PySem.W.kla_codeExpr (wpAny_mono (hbody.run [] _ _ _ Qm J ⟨b, dropC M S, ini N.length ds, EqB.refl _, G, ?_⟩) (fun v s' hq => ?_) fun e s' hq => hq)
    · unfold Wp WpO
      cases e : m (ini N.length ds) with
      | none => rw [e] at hm; exact hm.elim
      | some q =>
        rw [e] at hm
        cases q with
        | er x ρ' =>
          intro S' H' cls d s' G' hx hn
          obtain ⟨po, up⟩ := post G' hn
          obtain ⟨C1, dx, fv, h1, h2, h3, h4, h5, h6⟩ := hx
          have h6' : dropC M H dx = none := h6
          refine hm (lendC M S') (lendC M H') cls d po trivial ⟨C1, dx, fv, h1, h2, h3, ?_, Rpf.mono up _ _ h5, ?_⟩
          cases qd : M dx with
          | none => rw [lend_no qd]; exact h4
          | some od => rw [hn dx od qd] at h4; cases h4
          · cases qd : M dx with
            | none => rw [drop_no qd] at h6'; exact h6'
            | some od => rw [hn dx od qd] at h4; cases h4
        | ok rr ρ' =>
          intro S' H' s' G' v hv hn
          obtain ⟨po, up⟩ := post G' hn
          cases rr with
          | va d => exact hm (lendC M S') (lendC M H') v po trivial (Rp.mono up _ _ hv)
          | ow es => exact hm.elim
          | sl i => exact hm.elim
    · obtain ⟨v', H', J', rv, q⟩ := hq
      exact ⟨v', H', J'.os, J'.bare, J'.base, J'.hok, rv, q⟩
  refine codeAny_mono key fun r s' hq => ?_
  cases r with
  | error e => exact cx_lend kH e0.hok nf (fun cls d H2 hn q => q hn) hq
  | ok fl =>
    cases fl with
    | ret u => exact ce_lend kH e0.hok nf (fun v H2 hn q => q hn) hq
    | next => exact False.elim hq
    | brk => exact False.elim hq
    | cont => exact False.elim hq

/-! ### the call of what a name holds -/
abbrev ATab := List (LT × (List D → Option DRes))
open Classical in
noncomputable def lookA : ATab → LT → Option (List D → Option DRes)
  | [], _ => none
  | (u, F) :: T, t => if t = u then some F else lookA T t
theorem lt_ne {t u : LT} (h : t.id ≠ u.id) : t ≠ u := fun z => h (by rw [z])
theorem lookA_hit {t : LT} {F : List D → Option DRes} {T : ATab} : lookA ((t, F) :: T) t = some F := by unfold lookA; rw [if_pos rfl]
theorem lookA_go {t u : LT} {F : List D → Option DRes} {T : ATab} (h : t.id ≠ u.id) : lookA ((u, F) :: T) t = lookA T t := by rw [lookA, if_neg (lt_ne h)]
structure ATok (P : Program) (w : World) (K : PySem.W.Frag) (mg : Str → Option Value) (base : Heap) (k : Nat) (T : ATab) : Prop where
  ex : ∀ t F, lookA T t = some F → ActOk P w K mg base k t F
theorem ATok.nil {P : Program} {w : World} {K : PySem.W.Frag} {mg : Str → Option Value} {base : Heap} {k : Nat} : ATok P w K mg base k [] := ⟨fun t F h => by cases h⟩
theorem ATok.cons {P : Program} {w : World} {K : PySem.W.Frag} {mg : Str → Option Value} {base : Heap} {j k : Nat} {t : LT} {F : List D → Option DRes} {T : ATab} (a : ActOk P w K mg base j t F) (hj : j ≤ k) (r : ATok P w K mg base k T) : ATok P w K mg base k ((t, F) :: T) := ⟨fun u G e => by
  unfold lookA at e
  split at e
  · rename_i z
    cases e
    rw [z]
    exact a.mono hj
  · exact r.ex u G e⟩
noncomputable def evAct (i : Nat) (T : ATab) : M R := fun ρ => match ρ[i]? with
  | some (.va (.act t ds)) => (match lookA T t with
    | some F => (match F ds with
      | some (.va d) => some (.ok (.va d) ρ)
      | some (.ow es) => some (.ok (.ow es) ρ)
      | some (.er x) => some (.er x ρ)
      | none => none)
    | none => none)
  | _ => none
section
variable {b : Bs} {W : WX} {L k i : Nat} {X : Cx} {p1 p2 : Pos} {a : Str} {T : ATab}
theorem pe_act (i : Nat) (at_ : ATok X.prog X.w X.K X.mg X.base k T) (o : OKx b L X) (tk : Takes X W) (hk : k ≤ L := by decide) (hN : X.N[i]? = some a := by rfl) (hv : Vis X.env.scope a := by first | exact Or.inl rfl | exact Or.inr (Or.inl rfl) | exact Or.inr (Or.inr rfl))
    (hd : (a == ("__debug__" : Str)) = false := by decide) (hcd : (a == ("__classdict__" : Str)) = false := by decide) : PE X (.Call (.Name a p1) [] [] p2) (rE b W (evAct i T)) := by
  refine ⟨fun pins s σ H Q I ⟨b', S, ρ, eb, G, w⟩ => ?_⟩
  unfold Wp WpO evAct at w
  cases hi : ρ[i]? with
  | none => rw [hi] at w; exact w.elim
  | some sl =>
    rw [hi] at w
    cases sl with
    | no => exact w.elim
    | ow ds => exact w.elim
    | pn p => exact w.elim
    | va d =>
      cases d with
      | act t ds =>
        simp only at w
        obtain ⟨v, hs, hr⟩ := G.sl i _ hi
        cases hr with
        | @act f c _ cl vs _ h1 h2 h3 h4 =>
          cases hT : lookA T t with
          | none => rw [hT] at w; exact w.elim
          | some F =>
            rw [hT] at w
            simp only at w
            have Fk := at_.ex t F hT
            refine wpAny_Call_Name_kw (thn ((pe_var (pos := p1) (i := i) hN hv hd hcd).run pins s σ H (fun v H1 => v = .ref f ∧ H1 = H) I ⟨.ref f, hs, rfl, rfl⟩) fun u s1 ⟨v, H1, I1, r1, q1⟩ => ?_)
            obtain ⟨ev, eH⟩ := q1
            subst ev
            rw [eH] at I1
            obtain rfl : u = Value.ref f := r1
            obtain ⟨⟨pm, ctv, hof⟩, _, _⟩ := (show ObjOk X.prog X.w H s1.heap f (.ext _) from I1.hok f _ (G.sub _ _ h1))
            refine PySem.W.callWith_F0 ⟨_, _, _, _, hof⟩ ?_
            have eK := o.K.trans eb.K.symm
            have em := o.mg.trans eb.mg.symm
            have h4' : Rps X.K X.mg S vs ds := by rw [eK, em]; exact h4
            have hsp : SpM X.K X.mg (fun _ => False) S H Q (WE W σ) (fun _ _ => True) (F ds) := by
              rw [eK, em]
              cases hF : F ds with
              | none => rw [hF] at w; exact w.elim
              | some r =>
                rw [hF] at w
                cases r with
                | er x => exact fun S' H' cls d p _ hx => w S' H' cls d p.s (G.post p) (hx.imp fun a z => G.f0 a z)
                | va d => exact fun S' H' v p _ hv => w S' H' p.s (G.post p) v hv
                | ow es => exact fun S' H' v p _ hv => w S' H' p.s (G.post p) v (RR.of_dr G p hv (Or.inr ⟨es, rfl, rfl⟩))
            refine wpAny_call (codeAny_mono (Fk.run X.A X.stack s1 H S f c cl vs ds Q (WE W σ) (o.rm.mono hk) I1.env0 G.sub h1 h2 h3 h4' hsp) fun r s' hq => ?_)
            cases r with
            | error e => exact passAt tk σ pins H s1 e s' I1 hq
            | ok fl =>
              cases fl with
              | ret u => exact I1.after hq
              | next => exact False.elim hq
              | brk => exact False.elim hq
              | cont => exact False.elim hq
      | _ => exact w.elim
end
end Mc
end
section
set_option Elab.async false
set_option linter.all false
set_option maxRecDepth 100000
set_option maxHeartbeats 4000000
set_option autoImplicit false
namespace Mc
open PySem PySem.Spec L2 LamX

/-! ### defs that are called where nothing is being shown (no guard stands on the stack) -/
structure FnG (P : Program) (w : World) (K : PySem.W.Frag) (mg : Str → Option Value) (base : Heap) (k : Nat) (f : Addr) (fd : FuncData) (ps : List Str) (sp : Sp) : Prop where
  len : ∀ vs H Q E, sp vs H Q E → vs.length = ps.length
  run : ∀ (A : Around) (outer : List Env) (s : Shared) (H : Hp) (args : Args) (us : List Value) (vs : List V) (Q : VK) (E : XK), Room k A → A.guards = some [] → Env0 P w K mg base A outer s H → BindsTo s fd args (ps.zip us) → Vals vs us → sp vs H Q E →
    codeAny (model P w) A (.call (.ref f) args) (CR (L2.CX P w) outer P w H s Q E) s
structure DnG (P : Program) (w : World) (K : PySem.W.Frag) (mg : Str → Option Value) (base : Heap) (x : Str) (k n : Nat) (F : List D → Option DRes) : Prop where
  ex : ∃ f fd ps, mg x = some (.ref f) ∧ PySem.W.keepIn K (.ref f) = true ∧ Binds K fd ps [] ∧ FnG P w K mg base k f fd ps (spP K mg n F)
section
variable {P : Program} {w : World} {K : PySem.W.Frag} {mg : Str → Option Value} {base : Heap}
theorem FnG.of {k : Nat} {f : Addr} {fd : FuncData} {ps : List Str} {sp : Sp} (F : FnOk P w K mg base (L2.CX P w) k f fd ps sp) : FnG P w K mg base k f fd ps sp := ⟨F.len, fun A outer s H args us vs Q E hr _ => F.run A outer s H args us vs Q E hr⟩
theorem DnG.of {x : Str} {k n : Nat} {F : List D → Option DRes} (d : Dn P w K mg base x k n F) : DnG P w K mg base x k n F := by
  obtain ⟨f, fd, ps, h1, h2, h3, h4⟩ := d.ex
  exact ⟨f, fd, ps, h1, h2, h3, .of h4⟩
def BodyIsG (P : Program) (w : World) (K : PySem.W.Frag) (mg : Str → Option Value) (base : Heap) (N : List Str) (qual : Str) (scope : Scope) (f : Addr) (k : Nat) (body : List Stmt) (m : M Fl) : Prop :=
  ∀ (X : Cx) (W : WX) (b : Bs), (∃ cdv A outer s H E, X = bodyX P w K mg base N qual scope f cdv A outer s H E ∧ A.guards = some []) → b.K = K → b.mg = mg → OKx b k X → Takes X W → PassesOwn (model X.prog X.w) X.A X.env X.xe → PSs X body (rS b W m)
theorem fn_defG {x qual : Str} {params : Arguments} {body : List Stmt} {scope : Scope} {f : Addr} {fd : FuncData} {N ps : List Str} {k : Nat} {m : M Fl} (F : FunD K x qual params body scope [] [] f fd) (S : FnScope N ps scope) (hl : ps.length ≤ N.length)
    (hb : BodyIsG P w K mg base N qual scope f k body m) : FnG P w K mg base (k + 1) f fd ps (spP K mg ps.length (runD N.length m)) := by
  obtain ⟨oc, od, dV, kV, doc, pm, an, cdv, ct, osl, rfl, lk, hcd, _, _⟩ := F.ex
  refine ⟨fun vs H Q E h => h.1, fun A outer s H args us vs Q E hr gd e0 hbd rv ⟨hvl, S0, ds, hS, hr0, hm⟩ => ?_⟩
  refine LamX.run_ofS (N := N) (ps := ps) lk hcd S hr e0 hbd rv hvl fun hr' => ?_
  let b : Bs := ⟨K, mg, H, S0, fun _ => False, none, none⟩
  have G : Good b (L2.start N vs) S0 H (ini N.length ds) := good_start (by omega) hS hr0 rfl rfl
  have post : ∀ {σ' S' H' ρ'}, Good b σ' S' H' ρ' → Post (fun _ => False) S0 H S' H' := fun {σ' S' H' ρ'} G' => ⟨G'.s0, G'.sub, fun a o e n => G'.k0 a o e n, fun a e => (G'.n0 a e).elim Or.inl fun z => z.elim Or.inr fun z => z.elim, G'.f0⟩
  refine ⟨_, hb (bodyX P w K mg base N qual scope f cdv A outer s H E) (fun cls d _ H => E cls d H) b ⟨cdv, A, outer, s, H, E, rfl, gd⟩ rfl rfl ⟨rfl, rfl, rfl, S.nd, hr'⟩ (takes_of rfl rfl rfl rfl) (passes_of rfl), b, S0, _, EqB.refl _, G, ?_⟩
  unfold runD at hm
  cases e : m (ini N.length ds) with
  | none => rw [e] at hm; exact hm.elim
  | some r =>
    rw [e] at hm
    cases r with
    | er x ρ' => exact fun σ' S' H' cls d s' G' hx => hm S' H' cls d (post G') trivial hx
    | ok fl ρ' =>
      cases fl with
      | nx => exact fun σ' S' H' s' G' => hm S' H' .non (post G') trivial .non
      | bk => exact hm.elim
      | ct => exact hm.elim
      | rt r =>
        cases r with
        | va d => exact fun σ' S' H' v s' G' hv => hm S' H' v (post G') trivial hv
        | ow ds => exact fun σ' S' H' v s' G' ⟨a, vs', e1, e2, e3, e4, e5, e6⟩ => hm S' H' v (post G') trivial ⟨a, vs', e1, e2, e3, e6.elim id (fun z => z.elim), e4⟩
        | sl i => exact hm.elim
end
section
variable {b : Bs} {W : WX} {L k n : Nat} {X : Cx} {p pos : Pos} {x : Str} {e1 : Expr} {es : List Expr} {fs : M (List R)} {F : List D → Option DRes}
theorem pe_fnG (d : DnG X.prog X.w X.K X.mg X.base x k n F) (o : OKx b L X) (tk : Takes X W) (gd : X.A.guards = some []) (ha : PA X (e1 :: es) (rAr b W fs)) (hk : k ≤ L := by decide) (hg : Gl X x := by rfl) (hdb : (x == ("__debug__" : Str)) = false := by decide)
    (he : starEach (e1 :: es) X.env = (false, eval e1 X.env) :: starEach es X.env := by rfl) (hpl : (backTo pos (starEach es X.env)).any (·.1) = false := by rfl) : PE X (.Call (.Name x p) (e1 :: es) [] pos) (rE b W (evCall F (evN n fs))) := by
  obtain ⟨f, fd, ps, hm, kp, hb, Fk⟩ := d.ex
  refine ⟨fun pins s σ H Q I ⟨b', S, ρ, eb, G, w⟩ => ?_⟩
  refine wpAny_Call_Name_kw (ld_glob I hg hm ?_ hdb)
  refine PySem.W.callWith_K (h₀ := X.base) I.ok.mod.kin kp (thn (ha.run pos pins s σ H (fun vs H1 => spP X.K X.mg n F vs H1 Q (WE W σ)) I ⟨b', S, ρ, eb, G, ?_⟩) fun us s1 ⟨vs, H1, I1, r, q⟩ => ⟨I1.kIn, ?_⟩) he hpl
  · refine Wp.mono (Wp.bind (f := fs) (Wp.bind w)) fun S1 H1 ρ1 rs s1 G1 q vs hvs => ?_
    have h2 : rs.length = n := by
      by_cases h : rs.length = n
      · exact h
      · exact wp_none (if_neg h) q
    have := call_wp h2 G1 hvs (wp_ok (a := rs) (if_pos h2) q (Hsub.refl _) G1)
    rw [o.K, o.mg, ← eb.1, ← eb.2]
    exact this
  · have hul : us.length = ps.length := by rw [← r.length]; exact Fk.len _ _ _ _ q
    have hbd := hb s1 us I1.kIn (by simpa using hul)
    rw [List.append_nil] at hbd
    show wpAny _ _ (call (.ref f) us) _ _ _
    refine wpAny_call (codeAny_mono (Fk.run X.A X.stack s1 H1 ⟨us, []⟩ us vs Q (WE W σ) (o.rm.mono hk) gd I1.env0 hbd r q) fun rr s' hq => ?_)
    cases rr with
    | error er => exact passAt tk σ pins H1 s1 er s' I1 hq
    | ok fl =>
      cases fl with
      | ret u => exact I1.after hq
      | next => exact False.elim hq
      | brk => exact False.elim hq
      | cont => exact False.elim hq
end
/-! ### lambdas of the frame, closed over what its names hold now -/
def capD (ρ : ES) : List Nat → Option (List D)
  | [] => some []
  | j :: js => match ρ[j]?, capD ρ js with
    | some (.va d), some ds => some (d :: ds)
    | _, _ => none
open Classical in
noncomputable def closeL (T : ATab) (cl : List (Str × Addr)) (ρ : ES) (t : LT) (cl' : List (Str × Addr)) : Option D := if cl' = cl ∧ (lookA T t).isSome = true then (match capD ρ t.js with
  | some ds => some (.act t ds)
  | none => none) else none
mutual
noncomputable def D.close (T : ATab) (cl : List (Str × Addr)) (ρ : ES) : D → Option D
  | .lam t cl' => closeL T cl ρ t cl'
  | .act _ _ => none
  | .tup xs => (match D.closes T cl ρ xs with | some ys => some (.tup ys) | none => none)
  | .lst xs => (match D.closes T cl ρ xs with | some ys => some (.lst ys) | none => none)
  | .ob c fs => (match D.closef T cl ρ fs with | some ys => some (.ob c ys) | none => none)
  | .non => some .non
  | .bl c => some (.bl c)
  | .int i => some (.int i)
  | .str s => some (.str s)
  | .dic _ => none
  | .fn x => some (.fn x)
noncomputable def D.closes (T : ATab) (cl : List (Str × Addr)) (ρ : ES) : List D → Option (List D)
  | [] => some []
  | x :: xs => match D.close T cl ρ x, D.closes T cl ρ xs with
    | some y, some ys => some (y :: ys)
    | _, _ => none
noncomputable def D.closef (T : ATab) (cl : List (Str × Addr)) (ρ : ES) : List (Str × D) → Option (List (Str × D))
  | [] => some []
  | (f, x) :: xs => match D.close T cl ρ x, D.closef T cl ρ xs with
    | some y, some ys => some ((f, y) :: ys)
    | _, _ => none
end
mutual
theorem close_pur {T : ATab} {cl : List (Str × Addr)} {ρ : ES} : ∀ d : D, d.pur = true → D.close T cl ρ d = some d
  | .non, _ => by simp only [D.close]
  | .bl _, _ => by simp only [D.close]
  | .int _, _ => by simp only [D.close]
  | .str _, _ => by simp only [D.close]
  | .fn _, _ => by simp only [D.close]
  | .tup xs, h => by simp only [D.close, closes_pur xs (by simpa only [D.pur] using h)]
  | .lst xs, h => by simp only [D.close, closes_pur xs (by simpa only [D.pur] using h)]
  | .ob c fs, h => by simp only [D.close, closef_pur fs (by simpa only [D.pur] using h)]
  | .dic _, h => by simp only [D.pur] at h; cases h
  | .lam _ _, h => by simp only [D.pur] at h; cases h
  | .act _ _, h => by simp only [D.pur] at h; cases h
theorem closes_pur {T : ATab} {cl : List (Str × Addr)} {ρ : ES} : ∀ xs : List D, D.purs xs = true → D.closes T cl ρ xs = some xs
  | [], _ => by simp only [D.closes]
  | x :: xs, h => by
    simp only [D.purs, Bool.and_eq_true] at h
    simp only [D.closes, close_pur x h.1, closes_pur xs h.2]
theorem closef_pur {T : ATab} {cl : List (Str × Addr)} {ρ : ES} : ∀ xs : List (Str × D), D.purf xs = true → D.closef T cl ρ xs = some xs
  | [], _ => by simp only [D.closef]
  | (f, x) :: xs, h => by
    simp only [D.purf, Bool.and_eq_true] at h
    simp only [D.closef, close_pur x h.1, closef_pur xs h.2]
end
/-- a lambda's captured names lie so in the frame that made it -/
structure LtOk (X : Cx) (t : LT) : Prop where
  free : ∀ y ∈ t.scope.names, y.2 = .free → X.env.scope.names.lookup y.1 = some .cell ∨ X.env.scope.names.lookup y.1 = some .free
  fr : ∀ y ∈ t.fr, (y, NameKind.free) ∈ t.scope.names
  js : t.js.map (fun j => X.N[j]?) = t.fr.map some
section
variable {b : Bs} {W : WX} {L k n : Nat} {X : Cx} {pins : List (Addr × Obj)} {σ : L2.St} {S H : Hp} {ρ : ES} {s : Shared} {T : ATab}
open Classical in
noncomputable def ownM (X : Cx) (s : Shared) : CMap := fun a => if ∃ y, X.env.cells.lookup y = some a then s.heap.get? a else none
theorem ownM_some {a : Addr} {o : Obj} (I : Inv X pins σ H s) (h : ownM X s a = some o) : ∃ y, X.env.cells.lookup y = some a ∧ s.heap.get? a = some o ∧ ∃ w, o.data = .cell w := by
  unfold ownM at h
  split at h
  · rename_i q
    obtain ⟨y, e⟩ := q
    obtain ⟨w, ob, h1, h2⟩ := I.cell y a e
    rw [h] at h1
    cases h1
    exact ⟨y, e, h, w, h2⟩
  · cases h
theorem ownM_at {a : Addr} {y : Str} (I : Inv X pins σ H s) (e : X.env.cells.lookup y = some a) : ∃ o w, ownM X s a = some o ∧ o.data = .cell w := by
  obtain ⟨w, ob, h1, h2⟩ := I.cell y a e
  refine ⟨ob, w, ?_, h2⟩
  unfold ownM
  rw [if_pos ⟨y, e⟩]
  exact h1
theorem ownM_cells (I : Inv X pins σ H s) : Cells (ownM X s) H s.heap := ⟨fun c o h => by
  obtain ⟨y, e, h1, _⟩ := ownM_some I h
  exact ⟨h1, I.freeC y c e⟩⟩
theorem cap_get {ds : List D} : ∀ {js : List Nat}, capD ρ js = some ds → ds.length = js.length ∧ ∀ (i j : Nat) (d : D), js[i]? = some j → ds[i]? = some d → ρ[j]? = some (.va d)
  | [], h => by
    simp only [capD] at h
    cases h
    exact ⟨rfl, fun i j d e => by simp at e⟩
  | j :: js, h => by
    simp only [capD] at h
    split at h
    · rename_i d ds' h1 h2
      cases h
      obtain ⟨l, g⟩ := cap_get h2
      refine ⟨congrArg Nat.succ l, fun i j' d' e1 e2 => ?_⟩
      cases i with
      | zero => simp at e1 e2; rw [← e1, ← e2]; exact h1
      | succ i => exact g i j' d' (by simpa using e1) (by simpa using e2)
    · cases h
theorem cap_rps (G : Good b σ S H ρ) {ds : List D} {js : List Nat} (h : capD ρ js = some ds) : ∃ vs : List V, vs.length = js.length ∧ Rps b.K b.mg S vs ds ∧ ∀ (i j : Nat) (v : V), js[i]? = some j → vs[i]? = some v → σ[j]? = some (some v) := by
  induction js generalizing ds with
  | nil =>
    simp only [capD] at h
    cases h
    exact ⟨[], rfl, .nil, fun i j v e => by simp at e⟩
  | cons j js ih =>
    simp only [capD] at h
    split at h
    · rename_i d ds' h1 h2
      cases h
      obtain ⟨vs, l, r, g⟩ := ih h2
      obtain ⟨v, e, rv⟩ := G.sl j _ h1
      refine ⟨v :: vs, congrArg Nat.succ l, .cons rv r, fun i j' v' e1 e2 => ?_⟩
      cases i with
      | zero => simp at e1 e2; rw [← e1, ← e2]; exact e
      | succ i => exact g i j' v' (by simpa using e1) (by simpa using e2)
    · cases h
theorem cells_lam (I : Inv X pins σ H s) {t : LT} (ok : LtOk X t) {vs : List V} (hl : vs.length = t.js.length) (hg : ∀ (i j : Nat) (v : V), t.js[i]? = some j → vs[i]? = some v → σ[j]? = some (some v)) {S' : Hp} (hS : ∀ c o, ownM X s c = some o → S' c = some (CellO c o)) :
    CellsS S' (cloFrom X.env.cells t.scope.names []) t.fr vs := by
  have cp := NdefX.Caps.made (X := X) (scope := t.scope) (fr := t.fr) (js := t.js) I.ok ok.free ok.fr ok.js
  have hln : t.js.length = t.fr.length := by
    have q := congrArg List.length ok.js
    simpa using q
  refine ⟨hl.trans hln, fun y c e => ?_, fun y z c e1 e2 => I.ok.inj y z c (cp.sub y c e1) (cp.sub z c e2), fun i y v e1 e2 => ?_⟩
  · obtain ⟨o, w, h1, h2⟩ := ownM_at I (cp.sub y c e)
    exact ⟨o, w, hS c o h1, h2⟩
  · have hi : i < t.js.length := by
      have := (List.getElem?_eq_some_iff.mp e1).1
      omega
    have hj : t.js[i]? = some t.js[i] := List.getElem?_eq_getElem hi
    have hN : X.N[t.js[i]]? = some y := by
      have q := congrArg (fun l => l[i]?) ok.js
      simp only [List.getElem?_map, hj, e1, Option.map_some] at q
      exact Option.some.inj q
    have hs := hg i _ v hj e2
    have kin := cp.kin y (List.mem_of_getElem? e1)
    obtain ⟨c, hc⟩ : ∃ c, X.env.cells.lookup y = some c := kin.elim (fun z => I.ok.has y (.inl z)) fun z => I.ok.has y (.inr z)
    obtain ⟨o, w, h1, h2⟩ := ownM_at I hc
    obtain ⟨mm, _, hlk⟩ := I.loc
    obtain ⟨u, ru, lk⟩ := hlk _ y v hN hs (kin.elim (fun z => .inr (.inl z)) fun z => .inr (.inr z))
    rcases lk with ⟨z, _⟩ | ⟨_, c', hc', oc, hoc, hdc⟩
    · have z' : X.env.scope.names.lookup y = some .local := z
      rcases kin with k | k <;> rw [k] at z' <;> cases z'
    · rw [hc] at hc'
      cases hc'
      obtain ⟨_, _, h3, _⟩ := ownM_some I h1
      rw [h3] at hoc
      cases hoc
      exact ⟨c, o, u, cp.sup y (List.mem_of_getElem? e1) c hc, hS c o h1, hdc, ru⟩
mutual
theorem Rp.closed (I : Inv X pins σ H s) (G : Good b σ S H ρ) (hT : ∀ t F, lookA T t = some F → LtOk X t) : ∀ (d d' : D) (v : V), D.close T X.env.cells ρ d = some d' → Rp b.K b.mg S v d → Rp b.K b.mg (lendC (ownM X s) S) v d'
  | .non, _, _, e, x => by simp only [D.close] at e; cases e; cases x; exact .non
  | .bl _, _, _, e, x => by simp only [D.close] at e; cases e; cases x; exact .bl _
  | .int _, _, _, e, x => by simp only [D.close] at e; cases e; cases x; exact .int _
  | .str _, _, _, e, x => by simp only [D.close] at e; cases e; cases x; exact .str _
  | .fn _, _, _, e, x => by simp only [D.close] at e; cases e; cases x with | fn m => exact .fn m
  | .dic _, _, _, e, x => by cases x
  | .act _ _, _, _, e, x => by simp only [D.close] at e; cases e
  | .tup xs, _, _, e, x => by
    simp only [D.close] at e
    split at e
    · rename_i ys hy
      cases e
      cases x with | tup p q => exact .tup (sqx_mono (lend_sub I G) p) (Rps.closed I G hT xs ys _ hy q)
    · cases e
  | .lst xs, _, _, e, x => by
    simp only [D.close] at e
    split at e
    · rename_i ys hy
      cases e
      cases x with | lst p q => exact .lst (lend_sub I G _ _ p) (Rps.closed I G hT xs ys _ hy q)
    · cases e
  | .ob c fs, _, _, e, x => by
    simp only [D.close] at e
    split at e
    · rename_i ys hy
      cases e
      cases x with | ob p m q => exact .ob (lend_sub I G _ _ p) m (Rpf.closed I G hT fs ys _ hy q)
    · cases e
  | .lam t cl, _, _, e, x => by
    simp only [D.close, closeL] at e
    split at e
    · rename_i hc
      obtain ⟨rfl, ht⟩ := hc
      obtain ⟨F, hF⟩ := Option.isSome_iff_exists.mp ht
      split at e
      · rename_i ds hd
        cases e
        cases x with
        | lam p q =>
          obtain ⟨vs, l, r, g⟩ := cap_rps G hd
          exact .act (lend_sub I G _ _ p) (lend_sub I G _ _ q) (cells_lam I (hT t F hF) l g fun c o h => lend_at h) (Rps.mono (lend_sub I G) _ _ r)
      · cases e
    · cases e
theorem Rps.closed (I : Inv X pins σ H s) (G : Good b σ S H ρ) (hT : ∀ t F, lookA T t = some F → LtOk X t) : ∀ (ds ds' : List D) (vs : List V), D.closes T X.env.cells ρ ds = some ds' → Rps b.K b.mg S vs ds → Rps b.K b.mg (lendC (ownM X s) S) vs ds'
  | [], _, _, e, x => by simp only [D.closes] at e; cases e; cases x; exact .nil
  | d :: ds, _, _, e, x => by
    simp only [D.closes] at e
    split at e
    · rename_i y ys h1 h2
      cases e
      cases x with | cons p q => exact .cons (Rp.closed I G hT d y _ h1 p) (Rps.closed I G hT ds ys _ h2 q)
    · cases e
theorem Rpf.closed (I : Inv X pins σ H s) (G : Good b σ S H ρ) (hT : ∀ t F, lookA T t = some F → LtOk X t) : ∀ (ds ds' : List (Str × D)) (vs : List (Str × V)), D.closef T X.env.cells ρ ds = some ds' → Rpf b.K b.mg S vs ds → Rpf b.K b.mg (lendC (ownM X s) S) vs ds'
  | [], _, _, e, x => by simp only [D.closef] at e; cases e; cases x; exact .nil
  | (f, d) :: ds, _, _, e, x => by
    simp only [D.closef] at e
    split at e
    · rename_i y ys h1 h2
      cases e
      cases x with | cons p q => exact .cons (Rp.closed I G hT d y _ h1 p) (Rpf.closed I G hT ds ys _ h2 q)
    · cases e
theorem lend_sub (I : Inv X pins σ H s) (G : Good b σ S H ρ) : Hsub S (lendC (ownM X s) S) := fun a o e => by
  cases q : ownM X s a with
  | none => rw [lend_no q]; exact e
  | some ob =>
    have z := ((ownM_cells I).at_ a ob q).2
    rw [G.sub a o e] at z
    cases z
end
/-- back from a call that saw the cells -/
theorem Good.lent {M : CMap} {S2 S' H' : Hp} (G : Good b σ S H ρ) (C : ∀ c o, M c = some o → H c = none) (p : Post (fun _ => False) S2 (lendC M H) S' H') : Good b σ S (dropC M H') ρ := by
  have ne : ∀ {a o}, H a = some o → M a = none := fun {a o} e => by
    cases q : M a with
    | none => rfl
    | some ob => rw [C a ob q] at e; cases e
  have kp : ∀ a o, H a = some o → dropC M H' a = some o := fun a o e => by
    rw [drop_no (ne e)]
    exact p.keep a o (by rw [lend_no (ne e)]; exact e) id
  refine ⟨fun a o e => kp a o (G.sub a o e), G.len, fun i sl e => (G.sl i sl e).heap fun a o _ _ h => kp a o h, G.dis, fun a o e n => kp a o (G.k0 a o e n), G.o0, G.s0, G.n0, fun a e => G.f0 a ?_, fun P q e => ⟨tabS_up (G.tab P q e).1 (Hsub.refl _) kp, (G.tab P q e).2⟩⟩
  cases q : M a with
  | some ob => exact C a ob q
  | none =>
    rw [drop_no q] at e
    have z := p.there a e
    rw [lend_no q] at z
    exact z
noncomputable def callA (T : ATab) (cl : List (Str × Addr)) (F : List D → Option DRes) (rs : List R) : M R := fun ρ => match frzSs rs ρ with
  | some (.ok ds ρ1) => (match D.closes T cl ρ1 ds with
    | some ds' => (match F ds' with
      | some (.va d) => if d.flat = true then some (.ok (.va d) ρ) else none
      | _ => none)
    | none => none)
  | _ => none
noncomputable def evCallA (T : ATab) (cl : List (Str × Addr)) (F : List D → Option DRes) (fs : M (List R)) : M R := M.bnd fs fun rs => callA T cl F rs
end
section
variable {b : Bs} {W : WX} {L k n : Nat} {X : Cx} {p pos : Pos} {x : Str} {e1 : Expr} {es : List Expr} {fs : M (List R)} {F : List D → Option DRes} {T : ATab}
theorem pe_fnA (d : DnG X.prog X.w X.K X.mg X.base x k n F) (o : OKx b L X) (gd : X.A.guards = some []) (hfn : X.fn = fun _ => true) (hT : ∀ t F, lookA T t = some F → LtOk X t) (ha : PA X (e1 :: es) (rAr b W fs)) (hk : k ≤ L := by decide) (hg : Gl X x := by rfl) (hdb : (x == ("__debug__" : Str)) = false := by decide)
    (he : starEach (e1 :: es) X.env = (false, eval e1 X.env) :: starEach es X.env := by rfl) (hpl : (backTo pos (starEach es X.env)).any (·.1) = false := by rfl) : PE X (.Call (.Name x p) (e1 :: es) [] pos) (rE b W (evCallA T X.env.cells F (evN n fs))) := by
  obtain ⟨f, fd, ps, hm, kp, hb, Fk⟩ := d.ex
  refine ⟨fun pins s σ H Q I ⟨b', S, ρ, eb, G, w⟩ => ?_⟩
  refine wpAny_Call_Name_kw (ld_glob I hg hm ?_ hdb)
  refine PySem.W.callWith_K (h₀ := X.base) I.ok.mod.kin kp (thn (ha.run pos pins s σ H (fun vs H1 => ∃ S1 ρ1 rs, Good b' σ S1 H1 ρ1 ∧ RFs b' σ S1 vs rs ∧ rs.length = n ∧ Wp b' W σ (callA T X.env.cells F rs) S1 H1 ρ1 fun S' H' ρ' r => ∀ v, RR b' σ S' H' ρ' v r → Q v H') I ⟨b', S, ρ, eb, G, ?_⟩) fun us s1 ⟨vs, H1, I1, r, q⟩ => ⟨I1.kIn, ?_⟩) he hpl
  · refine Wp.mono (Wp.bind (f := fs) (Wp.bind w)) fun S1 H1 ρ1 rs s1 G1 q vs hvs => ?_
    have h2 : rs.length = n := by
      by_cases h : rs.length = n
      · exact h
      · exact wp_none (if_neg h) q
    exact ⟨S1, ρ1, rs, G1, hvs, h2, wp_ok (a := rs) (if_pos h2) q (Hsub.refl _) G1⟩
  · obtain ⟨S1, ρ1, rs, G1, hvs, hn, w1⟩ := q
    have hl : vs.length = n := by
      rw [← hn]
      clear hn w1 r
      induction hvs with
      | nil => rfl
      | cons _ _ ih => simp only [List.length_cons, ih]
    unfold Wp WpO callA at w1
    cases e : frzSs rs ρ1 with
    | none => rw [e] at w1; exact w1.elim
    | some y =>
      rw [e] at w1
      cases y with
      | er y ρ' => exact w1.elim
      | ok ds ρ2 =>
        have wy : Wp b' WF σ (frzSs rs) S1 H1 ρ1 fun _ _ ρ' d => ρ' = ρ2 ∧ d = ds := by
          unfold Wp WpO
          rw [e]
          exact fun _ _ _ _ => ⟨rfl, rfl⟩
        obtain ⟨S2, ρ', ds', s12, G2, r2, q1, q2⟩ := Wp.frzSs G1 hvs wy
        subst q1 q2
        simp only at w1
        cases hcl : D.closes T X.env.cells ρ' ds' with
        | none => rw [hcl] at w1; exact w1.elim
        | some dc =>
          rw [hcl] at w1
          simp only at w1
          cases hF : F dc with
          | none => rw [hF] at w1; exact w1.elim
          | some rr =>
            rw [hF] at w1
            cases rr with
            | er y => exact w1.elim
            | ow y => exact w1.elim
            | va dv =>
              simp only at w1
              cases hfl : dv.flat with
              | false => rw [hfl] at w1; exact w1.elim
              | true =>
                rw [hfl, if_pos rfl] at w1
                have C := ownM_cells I1
                have eK := o.K.trans eb.K.symm
                have em := o.mg.trans eb.mg.symm
                have rc := Rps.closed I1 G2 hT ds' dc vs hcl r2
                have up : Hsub (lendC (ownM X s1) S2) (lendC (ownM X s1) H1) := fun a u z => by
                  cases q : ownM X s1 a with
                  | some ob => rw [lend_at q] at z ⊢; exact z
                  | none => rw [lend_no q] at z ⊢; exact G2.sub a u z
                let Q' : VK := fun v H2 => (∀ c u, ownM X s1 c = some u → H2 c = some (CellO c u)) ∧ Q v (dropC (ownM X s1) H2)
                have hsp : spP X.K X.mg n F vs (lendC (ownM X s1) H1) Q' (fun _ _ _ => False) := by
                  refine ⟨hl, lendC (ownM X s1) S2, dc, up, by rw [eK, em]; exact rc, ?_⟩
                  rw [hF]
                  intro S' H' v po _ hv
                  refine ⟨fun c u z => po.keep c _ (lend_at z) id, ?_⟩
                  exact w1 S1 (dropC (ownM X s1) H') (Hsub.refl _) (G1.lent (fun c u z => (C.at_ c u z).2) po) v (show Rp b'.K b'.mg S1 v dv by rw [← eK, ← em]; exact Rp.flat hv hfl)
                have big : ∀ {c u}, ownM X s1 c = some u → X.s_0.heap.objs.size ≤ c ∧ c ≠ X.env.locals := fun {c u} z => by
                  obtain ⟨y, hy, _⟩ := ownM_some I1 z
                  exact ⟨I1.ok.cab y c (by rw [hfn]) hy, I1.cne y c hy⟩
                have e0 : Env0 X.prog X.w X.K X.mg X.base X.A X.stack s1 (lendC (ownM X s1) H1) := by
                  have z0 := I1.env0
                  refine ⟨z0.frames, z0.mod, fun a u z => ⟨(z0.bs a u z).1, ?_⟩, z0.bsz, z0.funs, fun a z => ?_, lend_hok C z0.hok, z0.bare⟩
                  · cases q : ownM X s1 a with
                    | none => rw [lend_no q]; exact (z0.bs a u z).2
                    | some ob => exact absurd (Nat.lt_of_lt_of_le (Heap.lt_size z) (Nat.le_trans I1.ok.bsz (big q).1)) (Nat.lt_irrefl _)
                  · cases q : ownM X s1 a with
                    | none => rw [lend_no q]; exact z0.frf a z
                    | some ob =>
                      rcases List.mem_cons.mp (I1.stkSub a z) with z1 | z1
                      · exact absurd z1 (big q).2
                      · obtain ⟨_, o', e', _⟩ := I1.ok.funs.mem z1
                        exact absurd (Nat.lt_of_lt_of_le (Heap.lt_size e') (big q).1) (Nat.lt_irrefl _)
                have hul : us.length = ps.length := by rw [← r.length]; exact Fk.len _ _ _ _ hsp
                have hbd := hb s1 us I1.kIn (by simpa using hul)
                rw [List.append_nil] at hbd
                show wpAny _ _ (call (.ref f) us) _ _ _
                refine wpAny_call (codeAny_mono (Fk.run X.A X.stack s1 (lendC (ownM X s1) H1) ⟨us, []⟩ us vs Q' (fun _ _ _ => False) (o.rm.mono hk) gd e0 hbd r hsp) fun rr s' hq => ?_)
                cases rr with
                | error er =>
                  obtain ⟨_, _, _, _, _, _, _, _, _, _, _, _, z⟩ := hq
                  exact z.elim
                | ok fl =>
                  cases fl with
                  | ret u => exact I1.after (ce_drop C (fun v H2 z => z) hq)
                  | next => exact False.elim hq
                  | brk => exact False.elim hq
                  | cont => exact False.elim hq
end
end Mc
end
section
set_option Elab.async false
set_option linter.all false
set_option maxRecDepth 100000
set_option maxHeartbeats 4000000
set_option autoImplicit false
namespace Mc
open PySem PySem.Spec L2 LamX

/-! ### the classes of errors: their __init__ -/
/-- the promise of an own error's __init__: it stores its fields -/
def spX (C : Addr) (fns : List Str) : Sp := fun vs H Q _ => ∃ a ws, vs = .ref a :: ws ∧ ws.length = fns.length ∧ H a = some (exo a C none) ∧ ∀ dx, H dx = none → dx ≠ a → Q .non (upd (upd H dx (exd dx (fns.zip ws).reverse)) a (exo a C (some dx)))
section
variable {X : Cx} {x m : Str} {CL : Addr} {e : Expr} {es : List Expr} {ta : TA} {p1 p2 pos : Pos}
/-- what the base class must say, so that its __init__ is ValueError's -/
structure BaseI (K : PySem.W.Frag) (CL : Addr) : Prop where
  kp : PySem.W.keepIn K (.ref CL) = true
  rd : PySem.W.readsIn K CL (.type "type") = true
  ga : PySem.W.specialIn K (.ref CL) "__getattribute__" = some (some (.builtin "type.__getattribute__"))
  fi : PySem.W.findCls K (.ref CL) (.type "type") "__init__" = some (.val (.builtin "ValueError.__init__"))
theorem pe_leinit {pl : Sem Bool} (T : BaseI X.K CL) (hm : X.mg x = some (.ref CL)) (ha : PA X (e :: es) ta) (hg : Gl X x := by rfl) (hdb : (x == ("__debug__" : Str)) = false := by decide)
    (hc : eval (.Call (.Attribute (.Name x p1) "__init__" p2) (e :: es) [] pos) X.env = (do
      let ov ← eval (.Name x p1) X.env
      standAt p2.atName
      let (f, first) ← holding [ov] (getMethod ov "__init__" pl)
      callWith pos f first (backTo pos (starEach (e :: es) X.env)) (backToKw pos (keywordEach [] X.env))) := by rfl)
    (he : starEach (e :: es) X.env = (false, eval e X.env) :: starEach es X.env := by rfl) (hpl : (backTo pos (starEach es X.env)).any (·.1) = false := by rfl) :
    PE X (.Call (.Attribute (.Name x p1) "__init__" p2) (e :: es) [] pos) (tVeI X.K ta) := by
  refine ⟨fun pins s σ H Q I hh => ?_⟩
  refine PySem.W.methodCall_KW (ld_glob I hg hm ?_ hdb) hc
  refine PySem.W.method_cls I.kIn T.ga (PySem.W.cls_value I.kIn T.rd T.fi (by decide +kernel) ?_)
  show wpAny _ _ (callWith pos (Value.builtin "ValueError.__init__") [] (backTo pos (starEach (e :: es) X.env)) []) _ _ _
  refine PyProof.Rows.callWith_method1 (thn (ha.run pos pins _ σ H _ (I.tok _) hh) fun us s1 q => ?_) he hpl
  obtain ⟨vs, H1, I1, r1, a, C, ws, ev, hl, oc, ea, qq⟩ := q
  subst ev
  cases r1 with
  | @cons _ u0 _ ur ra rw' =>
    obtain rfl : u0 = Value.ref a := ra
    have hlen : ur.length ≤ sizeLine := by
      have := Paired.length rw'
      rw [sizeLine_eq]
      omega
    exact oinit_ok oc I1 ea hlen fun s' J => ⟨.non, H1, J, rfl, qq⟩
/-- the stores of the fields, one behind another: field f from slot i -/
def tOsts (K : PySem.W.Frag) : List (Str × Nat) → TS
  | [] => tNext
  | (f, i) :: r => tSeq (tOst K f (tVar 0) (tVar i)) (tOsts K r)
theorem upd_swap {H : Hp} {a d : Addr} {o o' u : HO} (h : d ≠ a) : upd (upd (upd H d o) a u) d o' = upd (upd H d o') a u := by
  funext b
  by_cases h1 : b = d
  · subst h1; rw [upd_same, upd_ne h, upd_same]
  · rw [upd_ne h1]
    by_cases h2 : b = a
    · subst h2; rw [upd_same, upd_same]
    · rw [upd_ne h2, upd_ne h1, upd_ne h2, upd_ne h1]
theorem osts_go {K : PySem.W.Frag} {C a dx : Addr} {H : Hp} {D : Ends} {σ : L2.St} (T : OexC K C) (hd : dx ≠ a) (h0 : σ[0]? = some (some (.ref a))) : ∀ (l : List (Str × Nat)) (ws : List V) (done : List (Str × V)), ws.length = l.length → (∀ f ∈ l, PySem.W.findIn K (.ref C) f.1 = some none) →
    (∀ (j : Nat) (f : Str × Nat) (v : V), l[j]? = some f → ws[j]? = some v → σ[f.2]? = some (some v)) → done.length + l.length ≤ 900 → D.nx σ (upd (upd H dx (exd dx (((l.map (·.1)).zip ws).reverse ++ done))) a (exo a C (some dx))) →
    tOsts K l D σ (upd (upd H dx (exd dx done)) a (exo a C (some dx)))
  | [], ws, done, hl, hf, hs, hz, q => by
    cases ws with
    | nil => exact q
    | cons _ _ => cases hl
  | (f, i) :: l, ws, done, hl, hf, hs, hz, q => by
    cases ws with
    | nil => cases hl
    | cons v ws =>
      have hi : σ[i]? = some (some v) := hs 0 (f, i) v rfl rfl
      simp only [List.length_cons] at hz
      refine ⟨v, hi, .ref a, h0, a, C, rfl, T, hf _ List.mem_cons_self, Or.inr ⟨dx, done, upd_same, by rw [upd_ne hd, upd_same], by omega, ?_⟩⟩
      show tOsts K l D σ _
      rw [upd_swap hd]
      refine osts_go T hd h0 l ws ((f, v) :: done) (by simpa using hl) (fun g hg => hf g (List.mem_cons_of_mem _ hg)) (fun j g w e1 e2 => hs (j + 1) g w (by simpa using e1) (by simpa using e2)) (by simp only [List.length_cons]; omega) ?_
      simpa using q
/-- the whole __init__ -/
theorem init_sem {K : PySem.W.Frag} {C : Addr} {N : List Str} {l : List (Str × Nat)} {vs : List V} {H : Hp} {Q : VK} {E : XK} (T : OexC K C) (hne : l ≠ []) (hf : ∀ f ∈ l, PySem.W.findIn K (.ref C) f.1 = some none) (hi : l.map (·.2) = List.range' 1 l.length) (hz : l.length ≤ 800) (h : spX C (l.map (·.1)) vs H Q E) :
    tSeq (tDrop (tVeI K (tCons (tVar 0) (tCons (tC (.str m)) tNil)))) (tOsts K l) { nx := fun _ H' => Q .non H', rt := Q } (L2.start N vs) H := by
  obtain ⟨a, ws, rfl, hl, ha, q⟩ := h
  rw [List.length_map] at hl
  have h0 : (L2.start N (V.ref a :: ws))[0]? = some (some (.ref a)) := start_get rfl
  have hs : ∀ (j : Nat) (f : Str × Nat) (v : V), l[j]? = some f → ws[j]? = some v → (L2.start N (V.ref a :: ws))[f.2]? = some (some v) := fun j f v e1 e2 => by
    have e3 : (l.map (·.2))[j]? = some f.2 := by rw [List.getElem?_map, e1]; rfl
    rw [hi] at e3
    obtain ⟨hj, e4⟩ := List.getElem?_eq_some_iff.mp e3
    rw [List.getElem_range'] at e4
    refine start_get ?_
    rw [← e4, show 1 + 1 * j = j + 1 by omega, List.getElem?_cons_succ]
    exact e2
  refine ⟨.ref a, h0, a, C, [.str m], rfl, by simp, T, ha, ?_⟩
  show tOsts K l _ _ H
  cases l with
  | nil => exact (hne rfl).elim
  | cons f l =>
    cases ws with
    | nil => cases hl
    | cons v ws =>
      obtain ⟨f, i⟩ := f
      simp only [List.length_cons] at hz hl
      refine ⟨v, hs 0 (f, i) v rfl rfl, .ref a, h0, a, C, rfl, T, hf _ List.mem_cons_self, Or.inl ⟨ha, fun dx hdx hda => ?_⟩⟩
      show tOsts K l _ _ _
      refine osts_go T hda h0 l ws [(f, v)] (by omega) (fun g hg => hf g (List.mem_cons_of_mem _ hg)) (fun j g w e1 e2 => hs (j + 1) g w (by simpa using e1) (by simpa using e2)) (by simp only [List.length_cons, List.length_nil]; omega) ?_
      have := q dx hdx hda
      simpa using this
end
/-! ### raise -/
/-- an own error x with the fields fns -/
structure ExcK (P : Program) (w : World) (K : PySem.W.Frag) (mg : Str → Option Value) (base : Heap) (x : Str) (k : Nat) (fns : List Str) : Prop where
  ex : ∃ C fI fd ps, mg x = some (.ref C) ∧ OexC K C ∧ PySem.W.findIn K (.ref C) "__init__" = some (some (.ref fI)) ∧ PySem.W.typeIn K (.ref fI) = some (.type "function") ∧ Binds K fd ps [] ∧ FnOk P w K mg base (L2.CX P w) k fI fd ps (spX C fns)
def evRaise (x : Str) (fns : List Str) (fs : M (List R)) : M Fl := M.bnd fs fun rs => M.bnd (frzSs rs) fun ds ρ => if ds.length = fns.length ∧ fns.length ≤ 800 then some (.er ⟨x, (fns.zip ds).reverse⟩ ρ) else none
theorem Rpf.zip {K : PySem.W.Frag} {mg : Str → Option Value} {S : Hp} : ∀ {fns : List Str} {vs : List V} {ds : List D}, Rps K mg S vs ds → Rpf K mg S (fns.zip vs) (fns.zip ds)
  | [], _, _, _ => by simp only [List.zip_nil_left]; exact .nil
  | f :: fns, _, _, .nil => by simp only [List.zip_nil_right]; exact .nil
  | f :: fns, _, _, .cons a b => by simp only [List.zip_cons_cons]; exact .cons a (Rpf.zip b)
theorem Rpf.app {K : PySem.W.Frag} {mg : Str → Option Value} {S : Hp} : ∀ {a c : List (Str × V)} {b d : List (Str × D)}, Rpf K mg S a b → Rpf K mg S c d → Rpf K mg S (a ++ c) (b ++ d)
  | _, _, _, _, .nil, y => y
  | _, _, _, _, .cons p q, y => .cons p (Rpf.app q y)
theorem Rpf.rev {K : PySem.W.Frag} {mg : Str → Option Value} {S : Hp} : ∀ {a : List (Str × V)} {b : List (Str × D)}, Rpf K mg S a b → Rpf K mg S a.reverse b.reverse
  | _, _, .nil => .nil
  | _, _, .cons p q => by simp only [List.reverse_cons]; exact Rpf.app (Rpf.rev q) (.cons p .nil)
section
variable {b : Bs} {W : WX} {L k : Nat} {X : Cx} {p pos pos' : Pos} {x : Str} {e1 : Expr} {es : List Expr} {fs : M (List R)} {fns : List Str}
theorem raise_at {H1 H2 : Hp} {a d : Addr} {C : Addr} {fs : List (Str × V)} (hn : H1 a = none) (hd : d ≠ a) : upd (del (upd (upd (upd H1 a (exo a C none)) d (exd d fs)) a (exo a C (some d))) a) d (.xd fs) = upd H1 d (.xd fs) := by
  funext c
  by_cases h1 : c = d
  · subst h1; rw [upd_same, upd_same]
  · rw [upd_ne h1, upd_ne h1]
    by_cases h2 : c = a
    · subst h2; rw [del_same]; exact hn.symm
    · rw [del_ne h2, upd_ne h2, upd_ne h1, upd_ne h2]
theorem s_raise (K : ExcK X.prog X.w X.K X.mg X.base x k fns) (o : OKx b L X) (tk : Takes X W) (ha : PA X (e1 :: es) (rAr b W fs)) (hk : k + 1 ≤ L := by decide) (hg : Gl X x := by rfl) (hdb : (x == ("__debug__" : Str)) = false := by decide)
    (he : starEach (e1 :: es) X.env = (false, eval e1 X.env) :: starEach es X.env := by rfl) (hpl : (backTo pos (starEach es X.env)).any (·.1) = false := by rfl) :
    PS X (.Raise (some (.Call (.Name x p) (e1 :: es) [] pos)) none pos') (rS b W (evRaise x fns fs)) := by
  obtain ⟨C, fI, fd, ps, hm, T, iC, tI, hb, F1⟩ := K.ex
  refine PS.weak (ps_raise o.calm tk (pmk_oex T iC tI F1 (o.rm.mono hk) hb .nil (passes_call L2.takes0 fun _ _ _ _ z => z) hg hm ha hdb he hpl)) fun D σ H ⟨b', S, ρ, eb, G, w⟩ => ?_
  refine ⟨b', S, ρ, eb, G, Wp.mono (WpS.bind (f := fs) w) fun S1 H1 ρ1 rs s1 G1 w1 vs hvs => ?_⟩
  obtain ⟨S2, ρ2, ds, s2, G2, r2, w2⟩ := Wp.frzSs G1 hvs (WpS.bind (σ := σ) (H := H1) w1)
  by_cases hl : ds.length = fns.length ∧ fns.length ≤ 800
  · rw [if_pos hl] at w2
    have hlv := Rps.length r2
    refine ⟨by omega, fun a hna => ⟨a, vs ++ [], rfl, by rw [List.append_nil]; omega, upd_same, fun dx hdx hda => ⟨rfl, dx, _, upd_same, by rw [upd_ne hda, upd_same], by rw [← hdx, upd_ne hda], ?_⟩⟩⟩
    have hd1 : H1 dx = none := by rw [← hdx, upd_ne hda]
    rw [raise_at (H2 := H1) hna hda, List.append_nil]
    have G3 : Good b' σ S2 (upd H1 dx (.xd (fns.zip vs).reverse)) ρ2 := G2.newH hd1
    refine w2 σ S2 _ (.ref C) (some dx) (Hsub.refl _) G3 ⟨C, dx, (fns.zip vs).reverse, rfl, by rw [eb.mg, ← o.mg]; exact hm, rfl, upd_same, ?_⟩
    exact ⟨Rpf.rev (Rpf.zip r2), G1.f0 _ hd1⟩
  · exact wps_none (if_neg hl) w2
end
end Mc
end
section
set_option Elab.async false
set_option linter.all false
set_option maxRecDepth 100000
set_option maxHeartbeats 4000000
set_option autoImplicit false
namespace Mc
open PySem PySem.Spec L2 LamX

/-! ### repr of plain data -/
mutual
def shwP : PyData → Bool
  | .none => true
  | .bool _ => true
  | .int i => decide (i.natAbs < 2 ^ 1900)
  | .str x => x.cps.toList.all fun c => decide (c < 16 ^ 8)
  | .list xs => shwPs xs
  | .tuple xs => shwPs xs
  | .dict _ => false
def shwPs : List PyData → Bool
  | [] => true
  | x :: xs => shwP x && shwPs xs
end
theorem log_lt {n : Nat} (h : n < 2 ^ 1900) : n.log2 < 1920 := by
  by_cases h0 : n = 0
  · subst h0; decide
  · exact Nat.lt_of_lt_of_le ((Nat.log2_lt h0).mpr h) (by decide)
theorem int_short {i : Int} (h : i.natAbs < 2 ^ 1900) : (PyData.shown (.int i)).length ≤ 2000 := by
  have e := int_text_length_le (k := 1920) (a := i) (by decide) (log_lt h)
  simp only [PyData.shown]
  rw [ofString_length]
  omega
mutual
theorem shw_all : ∀ p : PyData, shwP p = true → p.showable = true ∧ p.leavesShort 2000 = true ∧ p.hasDict = false
  | .none, _ => ⟨rfl, rfl, rfl⟩
  | .bool _, _ => ⟨rfl, rfl, rfl⟩
  | .int i, h => by
    simp only [shwP, decide_eq_true_eq] at h
    exact ⟨by simp only [PyData.showable, decide_eq_true_eq]; exact log_lt h, by simp only [PyData.leavesShort, decide_eq_true_eq]; exact int_short h, rfl⟩
  | .str x, h => ⟨rfl, by simpa only [shwP, PyData.leavesShort] using h, rfl⟩
  | .list xs, h => by
    have k := shw_alls xs (by simpa only [shwP] using h)
    exact ⟨by simp only [PyData.showable]; exact k.1, by simp only [PyData.leavesShort]; exact k.2.1, by simp only [PyData.hasDict]; exact k.2.2⟩
  | .tuple xs, h => by
    have k := shw_alls xs (by simpa only [shwP] using h)
    exact ⟨by simp only [PyData.showable]; exact k.1, by simp only [PyData.leavesShort]; exact k.2.1, by simp only [PyData.hasDict]; exact k.2.2⟩
  | .dict _, h => by simp only [shwP] at h; cases h
theorem shw_alls : ∀ xs : List PyData, shwPs xs = true → PyData.showableAll xs = true ∧ PyData.leavesShortAll 2000 xs = true ∧ PyData.hasDictAll xs = false
  | [], _ => ⟨rfl, rfl, rfl⟩
  | x :: xs, h => by
    simp only [shwPs, Bool.and_eq_true] at h
    have k1 := shw_all x h.1
    have k2 := shw_alls xs h.2
    exact ⟨by simp only [PyData.showableAll, k1.1, k2.1, Bool.and_self], by simp only [PyData.leavesShortAll, k1.2.1, k2.2.1, Bool.and_self], by simp only [PyData.hasDictAll, k1.2.2, k2.2.2, Bool.or_self]⟩
end
def okR (p : PyData) : Bool := shwP p && (decide (p.bulk ≤ 8000) && decide (p.depth ≤ 40))
def reprD : List D → Option R := fun ds => match ds with
  | [d] => (match d.py with
    | some p => if okR p = true then some (.va (.str p.shown)) else none
    | none => none)
  | _ => none
def rRepr (K : PySem.W.Frag) : List V → Hp → VK → Prop := fun xs H Q => ∃ v p, xs = [v] ∧ Dp K H v p ∧ okR p = true ∧ Q (.str p.shown) H
theorem shown_fits {p : PyData} (h : okR p = true) : p.shown.length ≤ sizeLine := by
  unfold okR at h
  simp only [Bool.and_eq_true, decide_eq_true_eq] at h
  have k := PyData.shown_le_bulk 2000 (by decide) p (shw_all p h.1).2.1
  have k2 : (2000 + 2) * p.bulk ≤ 2002 * 8000 := Nat.mul_le_mul_left 2002 h.2.1
  rw [sizeLine_eq]
  omega
theorem sem_repr {K : PySem.W.Frag} : SemB K reprD (rRepr K) := by
  intro b eb σ S H ρ xs ds z G h hg Q q
  subst eb
  unfold reprD at hg
  split at hg
  · rename_i d
    obtain ⟨v, rfl, hv⟩ := rv1 h
    cases hp : d.py with
    | none => rw [hp] at hg; cases hg
    | some p =>
      rw [hp] at hg
      simp only at hg
      split at hg
      · rename_i ok
        cases hg
        exact ⟨v, p, rfl, Rp.dp d v p (RV.rp hv G.sub) hp, ok, q _ H S (Hsub.refl _) G (.str _)⟩
      · cases hg
  · cases hg
theorem call_repr {X : Cx} (gd : X.A.guards = some []) (hu : X.A.units + 128 < cLine) : CallR X (.builtin "repr") (rRepr X.K) := by
  intro pins s σ H xs us Q I r ⟨v, p, ex, hd, ok, q⟩
  subst ex
  obtain ⟨u, rfl, ru⟩ := vals1 r
  obtain ⟨as, R⟩ := Dp.reads I p v u hd ru
  have hz := shown_fits ok
  unfold okR at ok
  simp only [Bool.and_eq_true, decide_eq_true_eq] at ok
  obtain ⟨h1, h2, h3⟩ := shw_all p ok.1
  have dep := ok.2.2
  have fin : ∀ {h' : Heap} {tk u : Tok}, (∀ b o, s.heap.get? b = some o → h'.get? b = some o) → EP X pins σ Q (.str p.shown u) { s with heap := h', toks := tk } := fun {h' tk u} k => ⟨.str p.shown, H, I.kept k, ⟨u, rfl⟩, q⟩
  cases R with
  | none => exact P.repr_of_none (fin fun _ _ e => e)
  | bool c => exact P.repr_of_bool (fin fun _ _ e => e)
  | int i t => exact P.repr_of_int (by simpa only [PyData.showable, decide_eq_true_eq] using h1) (fin fun _ _ e => e)
  | str x t => exact P.repr_of_str (fin fun _ _ e => e) (by simpa only [PyData.shown] using hz)
  | list a1 a2 a3 a4 => exact repr_of_reads' (.list a1 a2 a3 a4) h1 (PyData.noDict_hsm h3) gd (by omega) (fun _ _ e => e) (fun h' u tk k => fin k) hz
  | tuple a1 a2 a3 a4 => exact repr_of_reads' (.tuple a1 a2 a3 a4) h1 (PyData.noDict_hsm h3) gd (by omega) (fun _ _ e => e) (fun h' u tk k => fin k) hz
  | dict a1 a2 a3 a4 a5 => exact repr_of_reads' (.dict a1 a2 a3 a4 a5) h1 (PyData.noDict_hsm h3) gd (by omega) (fun _ _ e => e) (fun h' u tk k => fin k) hz
section
variable {b : Bs} {W : WX} {L : Nat} {X : Cx} {pos p : Pos} {e1 : Expr} {es : List Expr} {fs : M (List R)}
theorem pe_repr (o : OKx b L X) (gd : X.A.guards = some []) (hm : X.mg "repr" = none) (ha : PA X (e1 :: es) (rAr b W fs)) (hg : Gl X "repr" := by rfl)
    (he : starEach (e1 :: es) X.env = (false, eval e1 X.env) :: starEach es X.env := by rfl) (hpl : (backTo pos (starEach es X.env)).any (·.1) = false := by rfl) : PE X (.Call (.Name "repr" p) (e1 :: es) [] pos) (rE b W (evB reprD fs)) :=
  pe_cB (call_repr gd o.un) (by first | exact sem_repr | (rw [o.K]; exact sem_repr)) ha hm (by decide +kernel) hg (by decide) (by decide) he hpl
end
end Mc
end
section
set_option Elab.async false
set_option linter.all false
set_option maxRecDepth 100000
set_option maxHeartbeats 4000000
set_option autoImplicit false
namespace Mc
open PySem PySem.Spec L2 LamX

/-! ### try: body, several clauses `except x as n`, one of which takes what the body lets out -/
abbrev Cl := Value × (Addr → Value → Option Addr → TS)
def goneD (i : Nat) (D : Ends) : Ends := { nx := fun σ' H' => D.nx (σ'.set i none) H', rt := D.rt, bk := fun σ' H' => D.bk (σ'.set i none) H', ct := fun σ' H' => D.ct (σ'.set i none) H' }
def wMAs (K : PySem.W.Frag) (i : Nat) (D : Ends) : List Cl → WX
  | [] => fun _ _ _ _ => False
  | q :: r => fun cls d σ H => ∃ c, PySem.W.exmOne K cls q.1 = some c ∧ (c = true → ∀ a, H a = none → q.2 a cls d (goneD i D) (σ.set i (some (.ref a))) H) ∧ (c = false → wMAs K i D r cls d σ H)
inductive HdsAs (X : Cx) (n : Str) : List ExceptHandler → List Cl → Prop
  | nil : HdsAs X n [] []
  | cons {x : Str} {q : Cl} {s0 : Stmt} {ss : List Stmt} {np hp : Pos} {hds : List ExceptHandler} {l : List Cl} (hc : Names X x q.1)
      (hsu : ∀ (a : Addr) (oe : Obj) (cls : Value) (d : Option Addr) (pn : List (Addr × Obj)), Zc cls d oe → (∃ vs, oe.data = .fields vs) → PSs (X.suite a ((a, oe) :: pn)) (s0 :: ss) (q.2 a cls d)) (r : HdsAs X n hds l) :
      HdsAs X n (.ExceptHandler (some (.Name x np)) (some n) (s0 :: ss) hp :: hds) (q :: l)
section
variable {X : Cx} {n : Str} {i : Nat} {body : List Stmt} {h0 : ExceptHandler} {hds : List ExceptHandler} {l : List Cl} {pos : Pos} {tb : WX → TS}
theorem ps_try_asM (hs : X.stack = X.env :: X.outer) (hf : X.env.frame = some X.env.locals) (hN : X.N.Nodup) (hi : X.N[i]? = some n) (hln : X.env.kindOf n = some .local)
    (hb : ∀ (W : WX) (pn : List (Addr × Obj)) (xe : Value → Shared → Prop), Takes (X.tr pn xe) W → PassesOwn (model X.prog X.w) X.A X.env xe → PSs (X.tr pn xe) body (tb W)) (hh : HdsAs X n (h0 :: hds) l) :
    PS X (.Try body (h0 :: hds) [] [] pos) (fun D σ H => tb (wMAs X.K i D l) D σ H) := by
  constructor
  intro pins s σ H D I hw
  have okX := I.ok
  have frX : X.A.frames = some (X.env :: X.outer) := okX.frames.trans (congrArg some hs)
  apply wpAny_Try_except
  let xe : Value → Shared → Prop := fun e t1 => wpAny (model X.prog X.w) X.A (noteFrame e X.env) (fun _ t2 => wpAny (model X.prog X.w) X.A (setFlight e none) (fun _ t3 => wpAny (model X.prog X.w) X.A (handleBy e X.env (h0 :: hds)) (SP X pins D) X.xe t3) X.xe t2) X.xe t1
  have tk : Takes (X.tr (X.pn ++ pins) xe) (wMAs X.K i D l) := by
    intro u s' xx
    obtain ⟨a, B, sI, pins', σ', H', cls, d, rfl, J', nb, up, sky, na, os, ag, want⟩ := xx
    have J := J'.ofTry okX
    have sky2 : Sky B (X.env :: X.outer) a (Zc cls d) X.env.locals s'.heap := hs ▸ sky
    show wpAny (model X.prog X.w) X.A (noteFrame (.ref a) X.env) _ _ _
    refine Sky.land Zc.steady frX hf sky2 ?_
    intro g3 fl3 up3
    have J3 : Inv X pins σ' H' { s' with heap := g3 } := J.landed nb fl3.1 (up.trans up3) os ag
    obtain ⟨o3, v3, at3, z3, d3⟩ := fl3.there
    have nfr : a ∉ frs (X.env :: X.outer) := fun hm => by
      obtain ⟨_, o', e', hnf⟩ := fl3.2.2.1.mem hm
      rw [at3] at e'
      cases e'
      exact hnf _ d3
    have nL : a ≠ X.env.locals := fun z => nfr (List.mem_filterMap.mpr ⟨X.env, List.mem_cons_self, hf.trans (congrArg some z.symm)⟩)
    have nF : a ∉ X.fs := fun hm => by
      obtain ⟨e, he, q⟩ := List.mem_filterMap.mp hm
      exact nfr (List.mem_filterMap.mpr ⟨e, List.mem_cons_of_mem _ he, q⟩)
    have S3 := J3.suite at3 d3 na nL nF
    have go : ∀ {hs2 : List ExceptHandler} {l2 : List Cl}, HdsAs X n hs2 l2 → wMAs X.K i D l2 cls d σ' H' → wpAny (model X.prog X.w) X.A (handleBy (.ref a) X.env hs2) (SP X pins D) X.xe { s' with heap := g3 } := by
      intro hs2 l2 hk
      induction hk with
      | nil => exact fun w => w.elim
      | @cons x q s0 ss np hp hds2 l2 hc hsu r ih =>
        intro w
        obtain ⟨c, hc1, yes, no⟩ := w
        refine wpAny_handleBy_cons (codeAny_handlers_test ?_) (fun q => nomatch q)
        have LT : PySem.W.Looks (model X.prog X.w) g3 (typeOf (.ref a)) cls := fun A Q E s k q => wpAny_typeOf_ref (k _ _ at3) (z3.1.symm ▸ q)
        have LM := PySem.W.exm_one (M := model X.prog X.w) (J3.kIn) LT hc1
        obtain ⟨hg, hdbg, hm⟩ := hc
        have test : ∀ {Q E : Value → Shared → Prop}, Q q.1 { s' with heap := g3 } → wpAny (model X.prog X.w) (X.A.mark (some (.ref a))) (eval (.Name x np) X.env) Q E { s' with heap := g3 } := fun {Q E} y => hm.elim (fun hm => ld_glob (X := X.suite a ((a, o3) :: (X.pn ++ pins))) S3 hg hm y hdbg) fun ⟨hm, hv, hnn⟩ => ld_blt (X := X.suite a ((a, o3) :: (X.pn ++ pins))) S3 hg hm hv y hnn hdbg
        refine test (LM.here ?_)
        cases c with
        | false => exact ih (no rfl)
        | true =>
          refine codeAny_handlers_suite_as (HandSPX.lands_againZ fl3 fun g4 fl4 up4 => ?_)
          obtain ⟨o4, v4, at4, z4, d4⟩ := fl4.there
          have J4 : Inv X pins σ' H' { s' with heap := g4 } := J.landed nb fl4.1 ((up.trans up3).trans up4) os ag
          refine store_ok (X := X.suite a ((a, o4) :: (X.pn ++ pins))) (v := .ref a) (J4.suite at4 d4 na nL nF) hN hi (.inl hln) rfl (fun s5 S5 => ?_) (.inr hln)
          have ends : ∀ {σ6 : St} {H6 : Hp} {s6 : Shared} {Q : Shared → Prop}, Inv (X.suite a ((a, o4) :: (X.pn ++ pins))) [] σ6 H6 s6 → (∀ s7, Inv X pins (σ6.set i none) H6 s7 → Q s7) → wpAny (model X.prog X.w) X.A (do bindName X.env n .none; unbindBehindTheSuite X.env n hp) (fun _ s7 => Q s7) X.xe s6 := fun {σ6 H6 s6 Q} S6 hq => gone_ok (S6.unsuite okX) hN hi hln hq
          refine wpAny_mono ((hsu a o4 cls d (X.pn ++ pins) z4 ⟨_, d4⟩).run [] s5 _ H' _ S5 (yes rfl a na)) (fun f s6 hsp => ?_) (fun _ _ z => False.elim z)
          cases f with
          | next => obtain ⟨σ6, H6, S6, q6⟩ := hsp; exact ends S6 fun s7 J7 => ⟨_, _, J7, q6⟩
          | brk => obtain ⟨σ6, H6, S6, q6⟩ := hsp; exact ends S6 fun s7 J7 => ⟨_, _, J7, q6⟩
          | cont => obtain ⟨σ6, H6, S6, q6⟩ := hsp; exact ends S6 fun s7 J7 => ⟨_, _, J7, q6⟩
          | ret u => obtain ⟨v6, σ6, H6, S6, r6, q6⟩ := hsp; exact ends S6 fun s7 J7 => ⟨_, _, _, J7, r6, q6⟩
    exact go hh want
  refine wpAny_mono ((hb _ (X.pn ++ pins) xe tk PassesOwn.looking).run [] s σ H D (I.toTry _) hw) (fun f s1 hsp => ?_) (fun e s1 he => he)
  cases f with
  | next => obtain ⟨σ', H', J, q⟩ := hsp; exact wpAny_execs_nil ⟨σ', H', J.ofTry okX, q⟩
  | brk => obtain ⟨σ', H', J, q⟩ := hsp; exact ⟨σ', H', J.ofTry okX, q⟩
  | cont => obtain ⟨σ', H', J, q⟩ := hsp; exact ⟨σ', H', J.ofTry okX, q⟩
  | ret u => obtain ⟨v, σ', H', J, r, q⟩ := hsp; exact ⟨v, σ', H', J.ofTry okX, r, q⟩
end
/-! ### the value-level try -/
/-- a clause: its class, the classes that it takes, those that it lets by, its suite -/
structure Clz where
  c : Str
  yes : List Str
  nos : List Str
  m : Ex → M Fl
def runCl (i : Nat) (x : Ex) (m : Ex → M Fl) : M Fl := fun ρ => match m x (ρ.set i .no) with
  | some (.ok .nx ρ') => if i < ρ'.length then some (.ok .nx (ρ'.set i .no)) else none
  | some (.ok (.rt r) ρ') => some (.ok (.rt r) ρ')
  | _ => none
def handleC (i : Nat) (x : Ex) : List Clz → M Fl
  | [] => fun _ => none
  | q :: r => fun ρ => if x.cls ∈ q.yes then runCl i x q.m ρ else if x.cls ∈ q.nos then handleC i x r ρ else none
def evTry (f : M Fl) (i : Nat) (cs : List Clz) : M Fl := fun ρ => match f ρ with
  | some (.er x ρ') => if i < ρ'.length then handleC i x cs ρ' else none
  | o => o
/-- what is known in a clause's suite -/
structure SuS (b0 b : Bs) (i : Nat) (a : Addr) (cls : Value) (d : Option Addr) (x : Ex) (σ : L2.St) (S H : Hp) (ρ : ES) : Prop where
  eb : EqB b b0
  good : Good b σ S H ρ
  at_ : σ[i]? = some (some (.ref a))
  ex : ∃ C dx fv, cls = .ref C ∧ b.mg x.cls = some (.ref C) ∧ d = some dx ∧ S dx = some (.xd fv) ∧ Rpf b.K b.mg S fv x.fs
def rSu (b0 : Bs) (i : Nat) (m : Ex → M Fl) (a : Addr) (cls : Value) (d : Option Addr) : TS := fun D σ H => ∃ b S ρ x, SuS b0 b i a cls d x σ S H ρ ∧ WpS b WF (m x ρ) S D
structure ClOk (K : PySem.W.Frag) (mg : Str → Option Value) (q : Clz) (C : Addr) : Prop where
  at_ : mg q.c = some (.ref C)
  yes : ∀ y ∈ q.yes, ∀ E, mg y = some (.ref E) → PySem.W.exmOne K (.ref E) (.ref C) = some true
  nos : ∀ y ∈ q.nos, ∀ E, mg y = some (.ref E) → PySem.W.exmOne K (.ref E) (.ref C) = some false
inductive Hdz (X : Cx) (b : Bs) (n : Str) (i : Nat) : List ExceptHandler → List Clz → Prop
  | nil : Hdz X b n i [] []
  | cons {q : Clz} {C : Addr} {s0 : Stmt} {ss : List Stmt} {np hp : Pos} {hds : List ExceptHandler} {l : List Clz} (ok : ClOk X.K X.mg q C) (hg : Gl X q.c) (hdb : (q.c == ("__debug__" : Str)) = false)
      (hsu : ∀ (a : Addr) (oe : Obj) (cls : Value) (d : Option Addr) (pn : List (Addr × Obj)), Zc cls d oe → (∃ vs, oe.data = .fields vs) → PSs (X.suite a ((a, oe) :: pn)) (s0 :: ss) (rSu b i q.m a cls d)) (r : Hdz X b n i hds l) :
      Hdz X b n i (.ExceptHandler (some (.Name q.c np)) (some n) (s0 :: ss) hp :: hds) (q :: l)
section
variable {b : Bs} {W : WX} {L i : Nat} {X : Cx} {n : Str} {pos : Pos} {body : List Stmt} {h0 : ExceptHandler} {hds : List ExceptHandler} {l : List Clz} {f : M Fl}
theorem hdz_as {hs : List ExceptHandler} {cs : List Clz} (h : Hdz X b n i hs cs) : ∃ l : List Cl, HdsAs X n hs l ∧ ∀ (b' : Bs) (x : Ex) (σ : L2.St) (S H : Hp) (ρ : ES) (D : Ends) (cls : Value) (d : Option Addr), EqB b' b → X.K = b.K → X.mg = b.mg → i < ρ.length → Good b' σ S H ρ → ExR b' S H cls d x → WpS b' W (handleC i x cs ρ) S D →
    wMAs X.K i D l cls d σ H := by
  induction h with
  | nil => exact ⟨[], .nil, fun b' x σ S H ρ D cls d _ _ _ _ _ _ w => w.elim⟩
  | @cons q C s0 ss np hp hds l ok hg hdb hsu r ih =>
    obtain ⟨l2, h2, k2⟩ := ih
    refine ⟨(.ref C, rSu b i q.m) :: l2, .cons (q := (.ref C, rSu b i q.m)) ⟨hg, hdb, .inl ok.at_⟩ hsu h2, fun b' x σ S H ρ D cls d eb eK em hi G hx w => ?_⟩
    have hx0 := hx
    obtain ⟨Cx, dx, fv, h1, h3, h4, h5, h6, h7⟩ := hx0
    have mgx : X.mg x.cls = some (.ref Cx) := by rw [em, ← eb.mg]; exact h3
    unfold handleC at w
    by_cases y1 : x.cls ∈ q.yes
    · rw [if_pos y1] at w
      refine ⟨true, by rw [h1]; exact ok.yes _ y1 _ mgx, fun _ a na => ?_, fun z => nomatch z⟩
      -- the error's dict is held stable
      obtain ⟨S2, s2, G2, e2⟩ : ∃ S2, Hsub S S2 ∧ Good b' σ S2 H ρ ∧ S2 dx = some (.xd fv) := by
        cases q : S dx with
        | some o =>
          have z := G.sub _ _ q
          rw [h5] at z
          cases z
          exact ⟨S, Hsub.refl _, G, q⟩
        | none =>
          refine ⟨upd S dx (.xd fv), Hsub.new q, G.hold h5 (fun j w => ?_) q (Or.inl h7) (fun _ z => by cases z), upd_same⟩
          obtain ⟨e, sl, hsl, ho⟩ := w
          have k := G.sl j sl hsl
          cases sl with
          | no => cases ho
          | va _ => cases ho
          | ow ds =>
            obtain ⟨a', vs, e', r1, _⟩ := k
            rw [e] at e'; cases e'
            rw [h5] at r1; cases r1
          | pn p =>
            obtain ⟨a', c, e', r1, _⟩ := k
            rw [e] at e'; cases e'
            cases p with
            | pen p => have := r1.2.1; rw [h5] at this; cases this
            | ob cl fs => obtain ⟨_, _, _, z, _⟩ := r1; rw [h5] at z; cases z
      have G3 : Good b' (σ.set i (some (.ref a))) S2 H (ρ.set i .no) := G2.setNo hi
      refine ⟨b', S2, ρ.set i .no, x, ⟨eb, G3, List.getElem?_set_self (by rw [← G.len]; exact hi), Cx, dx, fv, h1, h3, h4, e2, Rpf.mono s2 _ _ h6⟩, ?_⟩
      unfold runCl at w
      cases e : q.m x (ρ.set i .no) with
      | none => rw [e] at w; exact w.elim
      | some r =>
        rw [e] at w
        cases r with
        | er y ρ' => exact w.elim
        | ok fl ρ' =>
          cases fl with
          | bk => exact w.elim
          | ct => exact w.elim
          | nx =>
            intro σ' S' H' s' G'
            by_cases hi' : i < ρ'.length
            · simp only [if_pos hi'] at w
              exact w (σ'.set i none) S' H' (s2.trans s') (G'.setNo hi')
            · simp only [if_neg hi'] at w
              exact w.elim
          | rt r => exact fun σ' S' H' v s' G' hv => w σ' S' H' v (s2.trans s') G' hv
    · rw [if_neg y1] at w
      by_cases y2 : x.cls ∈ q.nos
      · rw [if_pos y2] at w
        exact ⟨false, by rw [h1]; exact ok.nos _ y2 _ mgx, fun z => (nomatch z), fun _ => k2 b' x σ S H ρ D cls d eb eK em hi G hx w⟩
      · rw [if_neg y2] at w
        exact w.elim
theorem s_tryA (o : OKx b L X) (hb : ∀ (W : WX) (pn : List (Addr × Obj)) (xe : Value → Shared → Prop), OKx b L (X.tr pn xe) → Takes (X.tr pn xe) W → PassesOwn (model X.prog X.w) X.A X.env xe → PSs (X.tr pn xe) body (rS b W f)) (hh : Hdz X b n i (h0 :: hds) l)
    (hs : X.stack = X.env :: X.outer := by rfl) (hf : X.env.frame = some X.env.locals := by rfl) (hi : X.N[i]? = some n := by rfl) (hln : X.env.kindOf n = some .local := by rfl) :
    PS X (.Try body (h0 :: hds) [] [] pos) (rS b W (evTry f i l)) := by
  obtain ⟨cl, h2, k2⟩ := hdz_as (W := W) hh
  refine PS.weak (ps_try_asM (tb := fun W => rS b W f) hs hf o.nd hi hln (fun W pn xe => hb W pn xe ⟨o.K, o.mg, o.calm, o.nd, o.rm⟩) h2) fun D σ H ⟨b', S, ρ, eb, G, w⟩ => ⟨b', S, ρ, eb, G, ?_⟩
  unfold evTry at w
  unfold WpS at w ⊢
  cases e : f ρ with
  | none => rw [e] at w; exact w.elim
  | some r =>
    rw [e] at w
    cases r with
    | ok fl ρ' => cases fl <;> exact w
    | er x ρ' =>
      intro σ' S' H' cls d s' G' hx
      by_cases hi' : i < ρ'.length
      · simp only [if_pos hi'] at w
        exact k2 b' x σ' S' H' ρ' D cls d eb o.K o.mg hi' G' hx (WpS.sub w s')
      · simp only [if_neg hi'] at w
end
end Mc
end
section
set_option Elab.async false
set_option linter.all false
set_option maxRecDepth 100000
set_option maxHeartbeats 4000000
set_option autoImplicit false
namespace Mc
open PySem PySem.Spec L2 LamX

/-! ### the classes of errors: what the text says of them -/
structure ExF (K : PySem.W.Frag) (mg : Str → Option Value) (tab : List (Str × List Str)) : Prop where
  at_ : ∀ q ∈ tab, ∃ C, mg q.1 = some (.ref C) ∧ XfC K C ∧ ∀ f ∈ q.2, PySem.W.findIn K (.ref C) f = some none
  exm : ∀ c ∈ tab.map (·.1), ∀ e ∈ tab.map (·.1), ∀ C E, mg c = some (.ref C) → mg e = some (.ref E) → PySem.W.exmOne K (.ref C) (.ref E) = some (decide (c = e))
def exfB (K : PySem.W.Frag) (tab : List (Str × List Str)) : Bool :=
  (tab.all fun q => (He.Fa.glo q.1).ok K && (xfB K (He.ga K q.1) && q.2.all fun f => decide (PySem.W.findIn K (.ref (He.ga K q.1)) f = some none))) &&
  tab.all fun q => tab.all fun r => decide (PySem.W.exmOne K (.ref (He.ga K q.1)) (.ref (He.ga K r.1)) = some (decide (q.1 = r.1)))
theorem exfB_ok {K : PySem.W.Frag} {h : Heap} {mg : Str → Option Value} {tab : List (Str × List Str)} (X : K.In h) (G : h.Ns mainGlobals mg) (c : exfB K tab = true) : ExF K mg tab := by
  obtain ⟨c1, c2⟩ := Bool.and_eq_true_iff.mp c
  have at_ : ∀ q ∈ tab, mg q.1 = some (.ref (He.ga K q.1)) := fun q hq => He.glo_ok X G (Bool.and_eq_true_iff.mp (List.all_eq_true.mp c1 q hq)).1
  refine ⟨fun q hq => ?_, fun c hc e he C E h1 h2 => ?_⟩
  · obtain ⟨k1, k2⟩ := Bool.and_eq_true_iff.mp (List.all_eq_true.mp c1 q hq)
    obtain ⟨k2, k3⟩ := Bool.and_eq_true_iff.mp k2
    exact ⟨_, at_ q hq, xfB_ok k2, fun f hf => of_decide_eq_true (List.all_eq_true.mp k3 f hf)⟩
  · obtain ⟨q, hq, rfl⟩ := List.mem_map.mp hc
    obtain ⟨r, hr, rfl⟩ := List.mem_map.mp he
    rw [at_ q hq] at h1
    rw [at_ r hr] at h2
    cases h1
    cases h2
    exact of_decide_eq_true (List.all_eq_true.mp (List.all_eq_true.mp c2 q hq) r hr)
theorem cl_own {K : PySem.W.Frag} {mg : Str → Option Value} {tab : List (Str × List Str)} (F : ExF K mg tab) {c : Str} {nos : List Str} {m : Ex → M Fl} (hc : c ∈ tab.map (·.1)) (hn : ∀ y ∈ nos, y ∈ tab.map (·.1) ∧ y ≠ c) : ∃ C, ClOk K mg ⟨c, [c], nos, m⟩ C := by
  obtain ⟨q, hq, rfl⟩ := List.mem_map.mp hc
  obtain ⟨C, h1, _⟩ := F.at_ q hq
  refine ⟨C, h1, fun y hy E hE => ?_, fun y hy E hE => ?_⟩
  · have e : y = q.1 := by simpa using hy
    subst e
    have := F.exm _ hc _ hc E C hE h1
    rw [this]; simp
  · obtain ⟨h2, h3⟩ := hn y hy
    have := F.exm y h2 _ hc E C hE h1
    rw [this]; simp [h3]
/-! ### a clause's suite: found = ("..", error.f, repr(error.f), ..) -/
inductive El where
  | s (y : Str) | f (y : Str) | r (y : Str)
def El.val (x : Ex) : El → Option D
  | .s y => some (.str y)
  | .f y => x.fs.lookup y
  | .r y => match x.fs.lookup y with
    | some d => (match reprD [d] with
      | some (.va e) => some e
      | _ => none)
    | none => none
def elsV (x : Ex) : List El → Option (List D)
  | [] => some []
  | e :: es => match e.val x, elsV x es with
    | some d, some ds => some (d :: ds)
    | _, _ => none
def mErr (c : Str) (els : List El) (j : Nat) (x : Ex) : M Fl := fun ρ => if x.cls = c then (match elsV x els with
  | some ds => if j < ρ.length ∧ ds.length ≤ 100 then some (.ok .nx (ρ.set j (.va (.tup ds)))) else none
  | none => none) else none
theorem Rpf.look {K : PySem.W.Frag} {mg : Str → Option Value} {S : Hp} {f : Str} {d : D} : ∀ {fv : List (Str × V)} {fs : List (Str × D)}, Rpf K mg S fv fs → fs.lookup f = some d → ∃ v, fv.lookup f = some v ∧ Rp K mg S v d
  | _, _, .nil, e => by simp at e
  | _, _, .cons (f := g) (v := v) p q, e => by
    rw [List.lookup_cons] at e ⊢
    cases z : (f == g) with
    | true => rw [z] at e; cases e; exact ⟨v, rfl, p⟩
    | false => rw [z] at e; exact Rpf.look q e
section
variable {b0 : Bs} {X : Cx} {L i j : Nat} {a C : Addr} {oe : Obj} {cls : Value} {d : Option Addr} {pn : List (Addr × Obj)} {c n f : Str} {p p1 p2 p3 pos : Pos}
structure PEl (X : Cx) (b0 : Bs) (i : Nat) (a : Addr) (cls : Value) (d : Option Addr) (c : Str) (e : Expr) (el : El) : Prop where
  ex : ∃ t, PE X e t ∧ ∀ (b : Bs) (x : Ex) (σ : L2.St) (S H : Hp) (ρ : ES) (dv : D) (Q : VK), SuS b0 b i a cls d x σ S H ρ → x.cls = c → el.val x = some dv → (∀ v, Rp b.K b.mg S v dv → Q v H) → t σ H Q
structure PEls (X : Cx) (b0 : Bs) (i : Nat) (a : Addr) (cls : Value) (d : Option Addr) (c : Str) (es : List Expr) (els : List El) : Prop where
  ex : ∃ t, PA X es t ∧ ∀ (b : Bs) (x : Ex) (σ : L2.St) (S H : Hp) (ρ : ES) (ds : List D) (Q : List V → Hp → Prop), SuS b0 b i a cls d x σ S H ρ → x.cls = c → elsV x els = some ds → (∀ vs, Rps b.K b.mg S vs ds → Q vs H) → t σ H Q
theorem el_s {y : Str} {k : Nat} : PEl X b0 i a cls d c (.Constant (.str y) k p) (.s y) := ⟨_, L2.pe_str, fun b x σ S H ρ dv Q su hc hv q => by
  cases hv
  exact q (.str y) (.str y)⟩
theorem el_n : PEls X b0 i a cls d c [] [] := ⟨_, pa_nil, fun b x σ S H ρ ds Q su hc hv q => by
  cases hv
  exact q [] .nil⟩
theorem el_c {e : Expr} {es : List Expr} {el : El} {els : List El} (h1 : PEl X b0 i a cls d c e el) (h2 : PEls X b0 i a cls d c es els) (hs : starEach (e :: es) X.env = (false, eval e X.env) :: starEach es X.env := by rfl) : PEls X b0 i a cls d c (e :: es) (el :: els) := by
  obtain ⟨t, ht, k⟩ := h1.ex
  obtain ⟨u, hu, ku⟩ := h2.ex
  refine ⟨_, pa_cons ht hu hs, fun b x σ S H ρ ds Q su hc hv q => ?_⟩
  unfold elsV at hv
  split at hv
  · rename_i dv dvs e1 e2
    cases hv
    exact k b x σ S H ρ dv _ su hc e1 fun v rv => ku b x σ S H ρ dvs _ su hc e2 fun vs rvs => q _ (.cons rv rvs)
  · cases hv
theorem el_f {tab : List (Str × List Str)} {fns : List Str} (F : ExF X.K X.mg tab) (o : OKx b0 L X) (hq : (c, fns) ∈ tab) (hf : f ∈ fns) (hz : Zc cls d oe) (hd : ∃ vs, oe.data = .fields vs) (hN : X.N[i]? = some n := by rfl) (hv : X.env.scope.names.lookup n = some .local := by rfl)
    (hd1 : (n == ("__debug__" : Str)) = false := by decide) (hd2 : (n == ("__classdict__" : Str)) = false := by decide) (hb : attributeBase (.Name n p1) f X.env (eval (.Name n p1) X.env) = eval (.Name n p1) X.env := by rfl) :
    PEl (X.suite a ((a, oe) :: pn)) b0 i a cls d c (.Attribute (.Name n p1) f p2) (.f f) := by
  obtain ⟨C, h1, h2, h3⟩ := F.at_ _ hq
  refine ⟨_, pe_xf h2 (h3 f hf) hz hd (pe_var (X := X.suite a ((a, oe) :: pn)) (i := i) hN (Or.inl hv) hd1 hd2) hb, fun b x σ S H ρ dv Q su hc hval q => ?_⟩
  obtain ⟨C', dx, fv, e1, e2, e3, e4, e5⟩ := su.ex
  subst hc
  rw [su.eb.mg, ← o.mg, h1] at e2
  cases e2
  obtain ⟨v, hl, rv⟩ := Rpf.look e5 hval
  exact ⟨.ref a, su.at_, rfl, e1, dx, fv, v, e3, su.good.sub _ _ e4, hl, q v rv⟩
theorem el_r {tab : List (Str × List Str)} {fns : List Str} (F : ExF X.K X.mg tab) (o : OKx b0 L X) (gd : X.A.guards = some []) (hm : X.mg "repr" = none) (hq : (c, fns) ∈ tab) (hf : f ∈ fns) (hz : Zc cls d oe) (hd : ∃ vs, oe.data = .fields vs) (hN : X.N[i]? = some n := by rfl) (hv : X.env.scope.names.lookup n = some .local := by rfl)
    (hg : Gl X "repr" := by rfl) (hd1 : (n == ("__debug__" : Str)) = false := by decide) (hd2 : (n == ("__classdict__" : Str)) = false := by decide) (hb : attributeBase (.Name n p1) f X.env (eval (.Name n p1) X.env) = eval (.Name n p1) X.env := by rfl)
    (hs0 : starEach [.Attribute (.Name n p1) f p2] X.env = (false, eval (.Attribute (.Name n p1) f p2) X.env) :: starEach [] X.env := by rfl) (hpl : (backTo pos (starEach [] X.env)).any (·.1) = false := by rfl) :
    PEl (X.suite a ((a, oe) :: pn)) b0 i a cls d c (.Call (.Name "repr" p) [.Attribute (.Name n p1) f p2] [] pos) (.r f) := by
  obtain ⟨t, ht, k⟩ := (el_f (pn := pn) (a := a) (p2 := p2) F o hq hf hz hd hN hv hd1 hd2 hb).ex
  refine ⟨_, pe_callB (X := X.suite a ((a, oe) :: pn)) (call_repr (X := X.suite a ((a, oe) :: pn)) gd o.un) hg hm (by decide +kernel) (pa_cons ht pa_nil hs0) (by decide) (by decide) hs0 hpl, fun b x σ S H ρ dv Q su hc hval q => ?_⟩
  have hval : (match x.fs.lookup f with
    | some d => (match reprD [d] with
      | some (.va e) => some e
      | _ => none)
    | none => none) = some dv := hval
  split at hval
  · rename_i dd hl
    split at hval
    · rename_i e hr
      cases hval
      refine k b x σ S H ρ dd _ su hc hl fun v rv => ?_
      unfold reprD at hr
      simp only at hr
      cases hp : dd.py with
      | none => rw [hp] at hr; cases hr
      | some pp =>
        rw [hp] at hr
        simp only at hr
        split at hr
        · rename_i ok
          cases hr
          refine ⟨v, pp, rfl, ?_, ok, q _ (.str _)⟩
          have h := Rp.dp dd v pp (Rp.mono su.good.sub _ _ rv) hp
          rw [su.eb.K, ← o.K] at h
          exact h
        · cases hr
    · cases hval
  · cases hval
theorem ss_err {es : List Expr} {els : List El} {y : Str} {k : Nat} {ps pt p0 : Pos} (o : OKx b0 L X) (h : PEls (X.suite a ((a, oe) :: pn)) b0 i a cls d c es els) (hj : X.N[j]? = some y := by rfl) (hy : X.env.scope.names.lookup y = some .local := by rfl)
    (hsw : swapsWith (.Tuple es k pt) (some (.Name y ps)) p0.line X.env = pure false := by rfl) :
    PSs (X.suite a ((a, oe) :: pn)) [.Assign [.Name y ps] (.Tuple es k pt) p0] (rSu b0 i (mErr c els j) a cls d) := by
  obtain ⟨t, ht, kk⟩ := h.ex
  refine PSs.weak (pss_one (ps_set (X := X.suite a ((a, oe) :: pn)) (i := j) o.nd hj (Or.inl hy) (pe_tupX ht) hsw (Or.inr hy))) fun D σ H ⟨b, S, ρ, x, su, w⟩ => ?_
  unfold mErr at w
  by_cases hc : x.cls = c
  · simp only [if_pos hc] at w
    cases hv : elsV x els with
    | none => rw [hv] at w; exact w.elim
    | some ds =>
      rw [hv] at w
      simp only at w
      split at w
      · rename_i hl
        refine kk b x σ S H ρ ds _ su hc hv fun vs rvs => ⟨?_, fun q o2 hq hto => ?_⟩
        · rw [Rps.length rvs, sizeLine_eq]; omega
        · have G2 : Good b σ (upd S q (.frz o2 (.tup vs))) (upd H q (.frz o2 (.tup vs))) ρ := su.good.new hq
          have nq := su.good.sn hq
          exact w _ _ _ (Hsub.new nq) (G2.setVa hl.1 (.tup (SqX.of upd_same hto.1 hto.2) (Rps.mono (Hsub.new nq) _ _ rvs)))
      · exact w.elim
  · simp only [if_neg hc] at w
    exact w.elim
end
end Mc
end
section
set_option Elab.async false
set_option linter.all false
set_option maxRecDepth 100000
set_option maxHeartbeats 4000000
set_option autoImplicit false
namespace Mc
open PySem PySem.Spec L2 LamX PyProof.Rows

/-! ### the law, where its frame makes lambdas -/
def BodyIsT (P : Program) (w : World) (K : PySem.W.Frag) (mg : Str → Option Value) (base : Heap) (N : List Str) (qual : Str) (scope : Scope) (f c Pt : Addr) (q : Str) (k : Nat) (body : List Stmt) (m : List (Str × Addr) → M Fl) : Prop :=
  ∀ (X : Cx) (W : WX) (b : Bs), (∃ A outer s H E, X = bodyX P w K mg base N qual scope f (.ref c) A outer s H E ∧ A.guards = some []) → b.K = K → b.mg = mg → b.tb = some (Pt, q) → OKx b k X → Takes X W → PassesOwn (model X.prog X.w) X.A X.env X.xe → PSs X body (rS b W (m X.env.cells))
def baseT (K : PySem.W.Frag) (mg : Str → Option Value) (Pt : Addr) (q : Str) : Bs := ⟨K, mg, fun _ => none, fun _ => none, fun _ => False, none, some (Pt, q)⟩
theorem fn_lawG {P : Program} {w : World} {K : PySem.W.Frag} {mg : Str → Option Value} {base : Heap} {x qual : Str} {params : Arguments} {body rest : List Stmt} {st : Stmt} {scope : Scope} {f c Pt : Addr} {q : Str} {fd : FuncData} {N : List Str} {k n : Nat} {m : List (Str × Addr) → M Fl} (F : FunD K x qual params body scope [] [] f fd)
    (hcd : fd.code = .ref c) (S : FnScope N ["script"] scope) (hN : 2 ≤ N.length) (he : body = st :: rest)
    (h1 : ∀ (X : Cx) (W : WX), (∃ cdv A outer s H E, X = bodyX P w K mg base N qual scope f cdv A outer s H E) → Room k X.A → X.N.Nodup → Takes X W → PS X st (tAsg (tCallSD (spPen K) [] (WE W) (tCons (tVar 0) tNil)) (gName 1)))
    (hb : BodyIsT P w K mg base N qual scope f c Pt q k rest m) (pl : ∀ cl, Plain N.length n (m cl)) : FnG P w K mg base (k + 1) f fd ["script"] (spLawT K n (some (Pt, q))) := by
  obtain ⟨oc, od, dV, kV, doc, pm, an, cdv, ct, osl, rfl, lk, hcd2, _, _⟩ := F.ex
  have ec : cdv = .ref c := hcd
  subst ec
  refine ⟨fun vs H Q E ⟨⟨_, _, h, _⟩, _⟩ => by rw [h]; rfl, fun A outer s H args us vs Q E hr gd e0 hbd rv ⟨h, hT⟩ => ?_⟩
  refine LamX.run_ofS (N := N) (ps := ["script"]) lk hcd2 S hr e0 hbd rv (by obtain ⟨_, _, e, _⟩ := h; rw [e]; rfl) fun hr' => ?_
  have tk : Takes (bodyX P w K mg base N qual scope f (.ref c) A outer s H E) (fun cls d _ H => E cls d H) := takes_of rfl rfl rfl rfl
  subst he
  exact ⟨_, pss_cons (h1 (bodyX P w K mg base N qual scope f (.ref c) A outer s H E) (fun cls d _ H => E cls d H) ⟨_, A, outer, s, H, E, rfl⟩ hr' S.nd tk)
    (hb (bodyX P w K mg base N qual scope f (.ref c) A outer s H E) (fun cls d _ H => E cls d H) (baseT K mg Pt q) ⟨A, outer, s, H, E, rfl, gd⟩ rfl rfl rfl ⟨rfl, rfl, rfl, S.nd, hr'⟩ tk (passes_of rfl)), law_pure (b := baseT K mg Pt q) hN rfl rfl (pl _) h hT⟩

/-! ### the end -/
open Classical in
/-- what is tracked when the law is called: the table, and the script's list where the text does not hold it -/
noncomputable def Hlaw (K : PySem.W.Frag) (Pt a : Addr) (o : Obj) (xs : List V) : Hp := fun b => if b = Pt then some (.tbl #[]) else if b = a ∧ K.lookup a = none then some (.frz o (.lst xs)) else none
section
variable {K : PySem.W.Frag} {Pt a : Addr} {o : Obj} {xs : List V}
theorem hlaw_tab : Hlaw K Pt a o xs Pt = some (.tbl #[]) := by unfold Hlaw; rw [if_pos rfl]
theorem hlaw_lst (h : a ≠ Pt) (hk : K.lookup a = none) : Hlaw K Pt a o xs a = some (.frz o (.lst xs)) := by unfold Hlaw; rw [if_neg h, if_pos ⟨rfl, hk⟩]
theorem hlaw_some {b : Addr} {u : HO} (h : Hlaw K Pt a o xs b = some u) : (b = Pt ∧ u = .tbl #[]) ∨ (b = a ∧ K.lookup a = none ∧ u = .frz o (.lst xs)) := by
  unfold Hlaw at h
  split at h
  · rename_i e; cases h; exact Or.inl ⟨e, rfl⟩
  · split at h
    · rename_i e; cases h; exact Or.inr ⟨e.1, e.2, rfl⟩
    · cases h
end
theorem law_callG {P : Program} {w : World} {K : PySem.W.Frag} {mg mb : Str → Option Value} {k : Nat} {fa a c Pt : Addr} {fd : FuncData} {x : Str} {sp : Sp} {s : Shared} {vs : List Value} {ns : List Int}
    (KX : K.In s.heap) (hns : s.heap.Ns mainGlobals mg) (hb : s.heap.Ns builtinsNs mb) (hbb : ∀ x : Str, x ≠ "__name__" → mb x = bootBuiltins x) (hlim : s.heap.NoLimit) (hg : s.gens = #[]) (hT : s.heap.get? Pt = some { cls := .none, data := .fields #[] }) (nT : K.lookup Pt = none) (C : PySem.W.CodeHd s.heap c Pt)
    (hbm : ∃ (bm : Addr) (ob : Obj), mg "__builtins__" = some (.ref bm) ∧ bm ≠ builtinsNs ∧ s.heap.get? bm = some ob ∧ ob.cls = .type "module" ∧ ob.dict = some builtinsNs ∧ ob.data = .plain)
    (ha : s.heap.get? a = some { cls := .type "list", data := .seq vs.toArray }) (hi : IntsAre vs ns) (hl : ns.length ≤ sizeLine) (hr : Room k callerA)
    (F : ∀ base : Heap, K.In base → base.Ns mainGlobals mg → TabB base mg c Pt → FnG P w K mg base k fa fd [x] sp) (hbind : ∀ (s : Shared) (u : Value), BindsTo s fd ⟨[u], []⟩ [(x, u)])
    (hsp : ∀ H : Hp, H Pt = some (.tbl #[]) → SqL K H a (ns.map V.int) → sp [.ref a] H (fun v _ => v = .bl true) fun _ _ _ => False) :
    codeAny (model P w) callerA (.call (.ref fa) ⟨[.ref a], []⟩) (fun r s' => r = .ok (.ret (.bool true)) ∧ OldK s.heap s'.heap ∧ s'.os = s.os ∧ AllBare s'.gens) s := by
  have rv := vals_ints hi
  have lenV := hi.length
  generalize hob : ({ cls := .type "list", data := .seq vs.toArray } : Obj) = ob at ha
  have aP : a ≠ Pt := fun z => by
    rw [z, hT] at ha
    rw [← hob] at ha
    cases ha
  generalize hH : Hlaw K Pt a ob (ns.map V.int) = H
  have hHs : ∀ {b : Addr} {u : HO}, H b = some u → (b = Pt ∧ u = .tbl #[]) ∨ (b = a ∧ K.lookup a = none ∧ u = .frz ob (.lst (ns.map V.int))) := fun {b u} e => hlaw_some (by rw [hH]; exact e)
  have hP : H Pt = some (.tbl #[]) := by rw [← hH]; exact hlaw_tab
  -- the objects that are not tracked
  have no : ∀ {b : Addr} {o : Obj}, s.heap.get? b = some o → o ≠ ob → o ≠ { cls := .none, data := .fields #[] } → H b = none := fun {b o} e n1 n2 => by
    cases q : H b with
    | none => rfl
    | some u =>
      rcases hHs q with ⟨z, _⟩ | ⟨z, _, _⟩
      · rw [z, hT] at e; exact (n2 (Option.some.inj e).symm).elim
      · rw [z, ha] at e; exact (n1 (Option.some.inj e).symm).elim
  have noD : ∀ {b : Addr} {o : Obj}, s.heap.get? b = some o → (∀ xs n, o.data ≠ .seq xs n) → o.data ≠ .fields #[] → H b = none := fun {b o} e n1 n2 => no e (fun z => n1 vs.toArray 0 (by rw [z, ← hob])) fun z => n2 (by rw [z])
  have dic : ∀ {b : Addr} {o : Obj} {es : Array DictEntry} {ep : Nat}, s.heap.get? b = some o → o.data = .dict es ep → H b = none := fun {b o es ep} e d => noD e (fun xs n z => by rw [d] at z; cases z) fun z => by rw [d] at z; cases z
  have low : ∀ {b : Addr} {m : Str → Option Value}, s.heap.Ns b m → (hidT s.heap H).Ns b m := fun {b m} ⟨o, es, ep, e, d, r⟩ => ⟨o, es, ep, hidT_get e (dic e d), d, r⟩
  have KB : K.In (hidT s.heap H) := fun b o e => hidT_get (KX b o e) (by
    cases q : H b with
    | none => rfl
    | some u =>
      rcases hHs q with ⟨z, _⟩ | ⟨z, zk, _⟩
      · rw [z, nT] at e; cases e
      · rw [z, zk] at e; cases e)
  have MB : L2.Mod K mg (hidT s.heap H) := by
    obtain ⟨mc, q1, q2⟩ := hlim
    exact ⟨KB, low hns, ⟨mb, low hb, hbb⟩, ⟨mc, low q1, q2⟩⟩
  have okH : HOk P w H s.heap := fun b u e => by
    rcases hHs e with ⟨z, zu⟩ | ⟨z, _, zu⟩
    · rw [z, zu]; exact hT
    · rw [z, zu]
      exact ⟨ha, by rw [List.length_map]; exact hl, vs, 0, rv, by rw [ha, ← hob]⟩
  have sq : SqL K H a (ns.map V.int) := by
    cases q : K.lookup a with
    | none => exact Or.inl (Or.inr ⟨ob, by rw [← hH]; exact hlaw_lst aP q⟩)
    | some o =>
      have e := KX a o q
      rw [ha] at e
      cases e
      exact Or.inr ⟨_, vs.toArray, _, q, by rw [← hob], by rw [← hob], by rw [← hob], by rw [List.size_toArray, lenV]; exact hl, by simpa using rv⟩
  have TB : TabB (hidT s.heap H) mg c Pt := by
    refine ⟨?_, ?_, fun z => ?_⟩
    · obtain ⟨o, us, file, tf, flags, tg, inF, text, tt, e1, r1, r2, r3, r4⟩ := C
      refine ⟨o, us, file, tf, flags, tg, inF, text, tt, hidT_get e1 (noD e1 (fun xs n z => ?_) fun z => ?_), r1, r2, r3, r4⟩
      · rw [r2] at z; cases z
      · rw [r2] at z; cases z; simp at r3
    · obtain ⟨bm, om, b1, b2, b3, b4, b5, b6⟩ := hbm
      refine ⟨bm, om, b1, b2, fun z => ?_, fun z => ?_, hidT_get b3 (noD b3 (fun xs n z => ?_) fun z => ?_), b4, b5, b6⟩
      · obtain ⟨o, es, ep, e, hd, _⟩ := hns
        rw [z, e] at b3
        cases b3
        rw [hd] at b6; cases b6
      · rw [z, hT] at b3
        cases b3
        cases b6
      · rw [b6] at z; cases z
      · rw [b6] at z; cases z
    · obtain ⟨o, es, ep, e, hd, _⟩ := hns
      rw [z, hT] at e
      cases e
      cases hd
  have e0 : Env0 P w K mg (hidT s.heap H) callerA [] s H := ⟨rfl, MB, fun b o e => of_hidT e, Nat.le_of_eq (hidT_size _ _), trivial, fun b hb => absurd (show b ∈ ([] : List Addr) from hb) (by simp), okH, .of_eq hg⟩
  refine codeAny_mono ((F _ KB (low hns) TB).run callerA [] s H ⟨[.ref a], []⟩ [.ref a] [.ref a] _ _ hr rfl e0 (hbind s (.ref a)) (.cons rfl .nil) (hsp H hP sq)) fun r s' h => ?_
  cases r with
  | error e =>
    obtain ⟨_, _, _, _, _, _, _, _, _, _, _, _, z⟩ := h
    exact z.elim
  | ok fl =>
    cases fl with
    | next => exact False.elim h
    | brk => exact False.elim h
    | cont => exact False.elim h
    | ret u =>
      obtain ⟨v, H', os, bare, un, ok', r', q⟩ := h
      have q' : v = .bl true := q
      subst q'
      obtain rfl : u = Value.bool true := r'
      have nil0 : ∀ b : Addr, b ∉ frs ([] : List Env) := fun b z => absurd (show b ∈ ([] : List Addr) from z) (by simp)
      have rest : ∀ b o, b ≠ Pt → s.heap.get? b = some o → s'.heap.get? b = some o := fun b o nb e => by
        cases q : H b with
        | none => exact un.keep b o e q (nil0 b) (by simp)
        | some u =>
          rcases hHs q with ⟨z, _⟩ | ⟨_, _, zu⟩
          · exact absurd z nb
          · subst zu
            obtain ⟨e1, _⟩ := okH b _ q
            obtain ⟨e2, _⟩ := ok' b _ (un.frzs b ob _ q)
            rw [e] at e1
            cases e1
            exact e2
      obtain ⟨more, hm⟩ := un.tbls Pt #[] hP
      have hm' : s'.heap.get? Pt = some { cls := .none, data := .fields (#[] ++ more) } := ok' Pt _ hm
      refine ⟨rfl, ⟨fun b o e => ?_, fun b o e => ?_⟩, os, bare⟩
      · by_cases hb : b = Pt
        · rw [hb] at e ⊢
          rw [hT] at e
          cases e
          exact .inr (.inl ⟨(C.tab hT).isCodeTable, rfl, #[], more, rfl, hm'⟩)
        · exact .inl (rest b o hb e)
      · by_cases hb : b = Pt
        · rw [hb]; exact ⟨_, hm'⟩
        · exact ⟨o, rest b o hb e⟩
theorem walk_ofG {l : PySem.W.OpenLaw} {n k : Nat} {q : Program} {loose : List Str} {XP : (Str → Option Value) → Heap → Prop} {YP : World → Heap → Prop} {d : DefRec} {x : Str} (hn : l.most = some n) (hn2 : n ≤ sizeLine) (hdf : d.params.defaults = []) (hr : Room k callerA)
    (F : ∀ (w : World) (mg : Str → Option Value) (fa : Addr) (h : Heap), YP w h → h.Ns mainGlobals mg → mg d.name = some (.ref fa) → ∃ (K : PySem.W.Frag) (fd : FuncData) (sp : Sp) (c Pt : Addr), K.In h ∧ h.get? Pt = some { cls := .none, data := .fields #[] } ∧ K.lookup Pt = none ∧ PySem.W.CodeHd h c Pt ∧
      (∀ (s : Shared) (u : Value), BindsTo s fd ⟨[u], []⟩ [(x, u)]) ∧ (∀ (H : Hp) (a : Addr) (ns : List Int), ns.length ≤ n → H Pt = some (.tbl #[]) → SqL K H a (ns.map V.int) → sp [.ref a] H (fun v _ => v = .bl true) fun _ _ _ => False) ∧
      ∀ base : Heap, K.In base → base.Ns mainGlobals mg → TabB base mg c Pt → FnG l.prog w K mg base k fa fd [x] sp) : PySem.W.WalkO q loose XP YP l.row.toRowW d [] (fun f vs => PySem.call f vs) := by
  refine Att.attach_call hn hdf fun w s₀ s₁ mg mb fa o pm cd doc a vs ns G Y ho hd hcd hmg hobj hints hlen hg => ?_
  obtain ⟨K, fd, sp, c, Pt, KX, hT, nT, C, hb, hsp, hF⟩ := F w mg fa _ Y G.T.g hmg
  exact law_callG KX G.T.g G.T.b G.T.builtins G.T.nolimit hg hT nT C G.T.bmain hobj hints (Nat.le_trans hlen hn2) hr hF hb fun H hH hS => hsp H a ns hlen hH hS
end Mc
end
section
set_option Elab.async false
set_option linter.all false
set_option maxRecDepth 100000
set_option maxHeartbeats 4000000
set_option autoImplicit false
namespace Mc
open PySem PySem.Spec L2 LamX PyProof.Rows

/-! ### what the text says of an own error's class -/
def oexcB (K : PySem.W.Frag) (C : Addr) : Bool := match K.lookup C with
  | some ⟨.type "type", _, .cls cd, sl⟩ => (match cd.mro, sl.toList with
    | .ref D :: bm, [_, _, _, _, some (.builtin n), _] => D == C && (n == "ValueError.__new__" && (cd.hasDict && (!cd.hasDel && PySem.HandSPX.refsVE bm)))
    | _, _ => false)
  | _ => false
theorem oexcB_ok {K : PySem.W.Frag} {C : Addr} (h : oexcB K C = true) : ∃ nm q N bs bm sn sub ab col dd k0 k1 k2 k3 k5, K.lookup C = some (excClassObj nm q C N bs bm true sn sub ab col dd k0 k1 k2 k3 k5 "ValueError.__new__") ∧ PySem.HandSPX.refsVE bm = true := by
  unfold oexcB at h
  split at h
  · rename_i dd cd sl ho
    split at h
    · rename_i D bm k0 k1 k2 k3 n k5 hm hs
      simp only [Bool.and_eq_true, beq_iff_eq, Bool.not_eq_true'] at h
      obtain ⟨h1, h2, h3, h4, h5⟩ := h
      subst h1 h2
      obtain ⟨nm, bs, mro, ns, qn, hd, sn, sub, ab, col, del⟩ := cd
      dsimp only at hm h3 h4
      subst hm h3 h4
      have hsl : sl = #[k0, k1, k2, k3, some (.builtin "ValueError.__new__"), k5] := by
        obtain ⟨l⟩ := sl
        simp only at hs
        rw [hs]
      subst hsl
      exact ⟨nm, qn, ns, bs, bm, sn, sub, ab, col, dd, k0, k1, k2, k3, k5, ho, h5⟩
    · cases h
  · cases h
/-- the class x with the fields fns -/
def exkB (K : PySem.W.Frag) (q : Str × List Str) : Bool :=
  (He.Fa.glo q.1).ok K && (oexcB K (He.ga K q.1) && (He.eqO (PySem.W.findIn K (.ref (He.ga K q.1)) "__setattr__") (some (some (.builtin "object.__setattr__"))) && (decide (PySem.W.subIn K (.ref (He.ga K q.1)) (.type "BaseException") = some true) && (decide (PySem.W.typeIn K (.ref (He.ga K q.1)) = some (.type "type")) &&
  (PySem.W.keepIn K (.ref (He.ga K q.1)) && (He.eqO (PySem.W.findIn K (.ref (He.ga K q.1)) "__init__") (some (some (.ref (He.ma K (He.ga K q.1) "__init__")))) && (decide (PySem.W.typeIn K (.ref (He.ma K (He.ga K q.1) "__init__")) = some (.type "function")) && q.2.all fun f => decide (PySem.W.findIn K (.ref (He.ga K q.1)) f = some none))))))))
structure ExkOk (K : PySem.W.Frag) (mg : Str → Option Value) (x : Str) (fns : List Str) (C fI : Addr) : Prop where
  at_ : mg x = some (.ref C)
  T : OexC K C
  iC : PySem.W.findIn K (.ref C) "__init__" = some (some (.ref fI))
  tI : PySem.W.typeIn K (.ref fI) = some (.type "function")
  hf : ∀ f ∈ fns, PySem.W.findIn K (.ref C) f = some none
theorem exkB_ok {K : PySem.W.Frag} {h : Heap} {mg : Str → Option Value} {q : Str × List Str} (X : K.In h) (G : h.Ns mainGlobals mg) (c : exkB K q = true) : ExkOk K mg q.1 q.2 (He.ga K q.1) (He.ma K (He.ga K q.1) "__init__") := by
  obtain ⟨c1, c⟩ := Bool.and_eq_true_iff.mp c
  obtain ⟨c2, c⟩ := Bool.and_eq_true_iff.mp c
  obtain ⟨c3, c⟩ := Bool.and_eq_true_iff.mp c
  obtain ⟨c4, c⟩ := Bool.and_eq_true_iff.mp c
  obtain ⟨c5, c⟩ := Bool.and_eq_true_iff.mp c
  obtain ⟨c6, c⟩ := Bool.and_eq_true_iff.mp c
  obtain ⟨c7, c⟩ := Bool.and_eq_true_iff.mp c
  obtain ⟨c8, c9⟩ := Bool.and_eq_true_iff.mp c
  exact ⟨He.glo_ok X G c1, ⟨oexcB_ok c2, He.eqO_ok c3, of_decide_eq_true c4, of_decide_eq_true c5, c6⟩, He.eqO_ok c7, of_decide_eq_true c8, fun f hf => of_decide_eq_true (List.all_eq_true.mp c9 f hf)⟩
/-- the base of all own errors -/
def baseB (K : PySem.W.Frag) (x : Str) : Bool := (He.Fa.glo x).ok K && (PySem.W.keepIn K (.ref (He.ga K x)) && (PySem.W.readsIn K (He.ga K x) (.type "type") && (He.eqO (PySem.W.specialIn K (.ref (He.ga K x)) "__getattribute__") (some (some (.builtin "type.__getattribute__"))) &&
  (match PySem.W.findCls K (.ref (He.ga K x)) (.type "type") "__init__" with
    | some (.val (.builtin n)) => n == "ValueError.__init__"
    | _ => false))))
theorem baseB_ok {K : PySem.W.Frag} {h : Heap} {mg : Str → Option Value} {x : Str} (X : K.In h) (G : h.Ns mainGlobals mg) (c : baseB K x = true) : ∃ CL, mg x = some (.ref CL) ∧ BaseI K CL := by
  obtain ⟨c1, c⟩ := Bool.and_eq_true_iff.mp c
  obtain ⟨c2, c⟩ := Bool.and_eq_true_iff.mp c
  obtain ⟨c3, c⟩ := Bool.and_eq_true_iff.mp c
  obtain ⟨c4, c5⟩ := Bool.and_eq_true_iff.mp c
  refine ⟨_, He.glo_ok X G c1, c2, c3, He.eqO_ok c4, ?_⟩
  split at c5
  · rename_i n e
    rw [e, eq_of_beq c5]
  · cases c5
theorem excK_mk {P : Program} {w : World} {K : PySem.W.Frag} {mg : Str → Option Value} {base : Heap} {x m qual : Str} {params : Arguments} {body : List Stmt} {scope : Scope} {C fI : Addr} {fd : FuncData} {N ps : List Str} {l : List (Str × Nat)} (k : ExkOk K mg x (l.map (·.1)) C fI) (F : FunD K "__init__" qual params body scope [] [] fI fd)
    (hbd : Binds K fd ps []) (S : FnScope N ps scope) (hp : ps.length = l.length + 1) (hne : l ≠ []) (hi : l.map (·.2) = List.range' 1 l.length) (hz : l.length ≤ 800)
    (hb : ∀ X : Cx, (∃ cdv A outer s H E, X = bodyX P w K mg base N qual scope fI cdv A outer s H E) → PSs X body (tSeq (tDrop (tVeI K (tCons (tVar 0) (tCons (tC (.str m)) tNil)))) (tOsts K l))) : ExcK P w K mg base x 1 (l.map (·.1)) := by
  refine ⟨C, fI, fd, ps, k.at_, k.T, k.iC, k.tI, hbd, F.ok S (fun vs H Q E ⟨a, ws, e, hl, _⟩ => by rw [e, hp, List.length_cons, hl, List.length_map]) fun cdv A outer s H vs Q E hr h => ⟨_, hb _ ⟨cdv, A, outer, s, H, E, rfl⟩, init_sem k.T hne (fun f hf => k.hf _ (List.mem_map.mpr ⟨f, hf, rfl⟩)) hi hz h⟩⟩
/-! ### parts of a text -/
def sBlk : Stmt → Nat → List Stmt
  | .For _ _ b _ _, 0 => b
  | .For _ _ _ b _, _ => b
  | .While _ b _ _, 0 => b
  | .While _ _ b _, _ => b
  | .If _ b _ _, 0 => b
  | .If _ _ b _, _ => b
  | _, _ => []
def noE : Expr := .Name "" ⟨0, 0, 0, 0⟩
def sEx : Stmt → Expr
  | .Assign _ v _ => v
  | .Expr v _ => v
  | .Return (some v) _ => v
  | .If t _ _ _ => t
  | .While t _ _ _ => t
  | .For _ it _ _ _ => it
  | _ => noE
def eCh : Expr → Nat → Expr
  | .BoolOp _ vs _, i => vs.getD i noE
  | .BinOp l _ r _, i => [l, r].getD i noE
  | .UnaryOp _ e _, _ => e
  | .IfExp t b o _, i => [t, b, o].getD i noE
  | .Compare l _ cs _, i => (l :: cs).getD i noE
  | .Call f as _ _, i => (f :: as).getD i noE
  | .List es _, i => es.getD i noE
  | .Tuple es _ _, i => es.getD i noE
  | .Subscript v s _, i => [v, s].getD i noE
  | _, _ => noE
def stN (b : List Stmt) (i : Nat) : Stmt := b.getD i (.Pass ⟨0, 0, 0, 0⟩)
def lamA : Expr → Arguments
  | .Lambda a _ _ _ => a
  | _ => defArgs (.Pass ⟨0, 0, 0, 0⟩)
def lamB : Expr → Expr
  | .Lambda _ b _ _ => b
  | _ => noE
def lamSc : Expr → Scope
  | .Lambda _ _ s _ => s
  | _ => defScope (.Pass ⟨0, 0, 0, 0⟩)
def lamQ (qual : Str) (scope : Scope) : Str := (envOfC qual scope 0 0 (.ref 0)).qual ++ "<lambda>"
abbrev LtsOk (X : Cx) (T : ATab) : Prop := ∀ t F, lookA T t = some F → LtOk X t
theorem ltsOk_nil {X : Cx} : LtsOk X [] := fun t F h => by cases h
theorem ltsOk_cons {X : Cx} {t : LT} {F : List D → Option DRes} {T : ATab} (a : LtOk X t) (r : LtsOk X T) : LtsOk X ((t, F) :: T) := fun u G e => by
  unfold lookA at e
  split at e
  · rename_i z; rw [z]; exact a
  · exact r u G e
theorem ltOk_by {X : Cx} {t : LT} (h : NdefX.ndefB X.env.scope t.scope t.fr = true) (hj : t.js.map (fun j => X.N[j]?) = t.fr.map some) : LtOk X t := ⟨NdefX.ndef_free h, NdefX.ndef_fr h, hj⟩
end Mc
end
section
set_option Elab.async false
set_option linter.all false
set_option maxRecDepth 100000
set_option maxHeartbeats 4000000
set_option autoImplicit false
namespace Mc
open PySem PySem.Spec L2

/-! ### gcd of two -/
def gcd2D : List D → Option R
  | [.int a, .int b] => some (.va (.int ((Nat.gcd a.natAbs b.natAbs : Nat) : Int)))
  | _ => none
section
variable {X : Cx} {b : Bs} {W : WX} {L : Nat} {pos p : Pos} {x : Str} {e1 : Expr} {es : List Expr} {fs : M (List R)}
theorem sem_gcd2 {K : PySem.W.Frag} : SemB K gcd2D rGcd := by
  intro b eb σ S H ρ xs ds z G h hg Q q
  unfold gcd2D at hg
  split at hg
  · cases hg
    obtain ⟨v, u, rfl, h1, h2⟩ := rv2 h
    cases h1
    cases h2
    exact ⟨_, _, rfl, q _ H S (Hsub.refl _) G (Rp.int _)⟩
  · cases hg
theorem pe_gcd2 (ha : PA X (e1 :: es) (rAr b W fs)) (hm : X.mg x = some (.builtin "math.gcd")) (hg : Gl X x := by rfl) (hdb : (x == ("__debug__" : Str)) = false := by decide)
    (he : starEach (e1 :: es) X.env = (false, eval e1 X.env) :: starEach es X.env := by rfl) (hpl : (backTo pos (starEach es X.env)).any (·.1) = false := by rfl) : PE X (.Call (.Name x p) (e1 :: es) [] pos) (rE b W (evB gcd2D fs)) :=
  pe_cBf cr_gcd sem_gcd2 ha hm hg hdb he hpl
end
end Mc
end
section
set_option Elab.async false
set_option linter.all false
set_option maxRecDepth 100000
set_option maxHeartbeats 4000000
set_option autoImplicit false
namespace Mc
open PySem PySem.Spec L2

/-! ### what is seen of the heap behind the top: with the interpreter's own statics -/
def asY (g : Addr → Option Obj) (n : Nat) : List Addr := He.asD g n ++ [cStatics]
def obsY (n : Nat) (fa : List He.Fa) (fn : List He.DefD) (tf : List He.Defn) (ex : PySem.W.Frag → Bool) (g : Addr → Option Obj) : He.AlX :=
  (He.obsT fa fn [] (He.frT g (asY g n)), ex (He.frT g (asY g n)) && He.tabsB g tf (He.frT g (asY g n)))
theorem saysY_of {n : Nat} {fa : List He.Fa} {fn : List He.DefD} {tf : List He.Defn} {ex : PySem.W.Frag → Bool} {w : World} {h : Heap} (e : obsY n fa fn tf ex h.get? = He.valX fn [] w) : He.SaysX fa fn [] tf ex w h (He.frT h.get? (asY h.get? n)) := by
  obtain ⟨K, hK⟩ : ∃ K, K = He.frT h.get? (asY h.get? n) := ⟨_, rfl⟩
  unfold obsY at e
  rw [← hK] at e ⊢
  have e1 : He.obsT fa fn [] K = He.valT fn [] w := congrArg Prod.fst e
  have e2 : (ex K && He.tabsB h.get? tf K) = true := congrArg Prod.snd e
  obtain ⟨x1, x2⟩ := Bool.and_eq_true_iff.mp e2
  have tab : ∀ p ∈ tf, PySem.W.codeHdIn K (He.cT K p).1 (He.cT K p).2 = true ∧ ∃ o, h.get? (He.cT K p).2 = some o ∧ He.emptyTab o = true := by
    intro p hp
    obtain ⟨y1, y2⟩ := Bool.and_eq_true_iff.mp (List.all_eq_true.mp x2 p hp)
    refine ⟨y1, ?_⟩
    split at y2
    · rename_i o ho
      exact ⟨o, ho, y2⟩
    · cases y2
  refine ⟨e1, x1, fun p hp => (tab p hp).1, fun p hp => ?_, fun p hp => ?_⟩
  · obtain ⟨_, o, q, z⟩ := tab p hp
    have r := He.frT_none (as := asY h.get? n) q z
    rw [← hK] at r
    exact r
  · obtain ⟨_, o, q, z⟩ := tab p hp
    exact q.trans (congrArg some (He.emptyTab_eq z))
def hookY (n : Nat) (fa : List He.Fa) (fn : List He.DefD) (tf : List He.Defn) (ex : PySem.W.Frag → Bool) : PySem.W.Hook where
  α := He.AlX
  obs := fun s => obsY n fa fn tf ex s.heap.get?
  val := fun w => He.valX fn [] w
  says := fun w h => ∃ K : PySem.W.Frag, K.In h ∧ He.SaysX fa fn [] tf ex w h K
  of := fun _ _ e => ⟨_, He.frT_in, saysY_of e⟩
  keeps := fun _ _ _ q k => by
    obtain ⟨K, hK, c⟩ := q
    exact ⟨K, PySem.W.Frag.In.keeps hK k, ⟨c.t, c.more, c.hd, c.out, fun p hp => k _ _ (c.empty p hp)⟩⟩
theorem obsY_eq {n : Nat} {fa : List He.Fa} {fn : List He.DefD} {tf : List He.Defn} {ex : PySem.W.Frag → Bool} {g : Addr → Option Obj} {s : Shared} (h : ∀ a, g a = s.heap.get? a) : obsY n fa fn tf ex g = (hookY n fa fn tf ex).obs s := congrArg (obsY n fa fn tf ex) (funext h)
end Mc
end
section
set_option Elab.async false
set_option linter.all false
set_option maxRecDepth 100000
set_option maxHeartbeats 4000000
set_option autoImplicit false
namespace Mc
open PySem PySem.Spec L2

/-! ### x, y = a, b where x or y lies in a cell: the pair is made and unpacked -/
theorem RR.newH {b : Bs} {σ : L2.St} {S H : Hp} {ρ : ES} {v : V} {r : R} {p : Addr} {o : HO} (h : RR b σ S H ρ v r) (hp : H p = none) : RR b σ S (upd H p o) ρ v r := by
  cases r with
  | va d => exact h
  | sl i => exact h
  | ow ds =>
    obtain ⟨a, vs, e1, h1, h2, h3, h4, h5⟩ := h
    exact ⟨a, vs, e1, by rw [upd_ne (ne_of_none h1 hp)]; exact h1, h2, h3, h4, h5⟩
section
variable {b : Bs} {W : WX} {L : Nat} {X : Cx} {px py pt pos : Pos} {kt k2 : Nat} {pt2 : Pos} {x y : Str} {e1 e2 : Expr} {fa fb : M R} {i j : Nat}
theorem s_par2C (i j : Nat) (o : OKx b L X) (ha : PE X e1 (rE b W fa)) (hb : PE X e2 (rE b W fb)) (hi : X.N[i]? = some x := by rfl) (hj : X.N[j]? = some y := by rfl)
    (hx : Loc X.env.scope x := by first | exact Or.inl rfl | exact Or.inr rfl) (hy : Loc X.env.scope y := by first | exact Or.inl rfl | exact Or.inr rfl) (hfx : X.fn x = true ∨ X.env.scope.names.lookup x = some .local := by first | exact .inl rfl | exact .inr rfl) (hfy : X.fn y = true ∨ X.env.scope.names.lookup y = some .local := by first | exact .inl rfl | exact .inr rfl)
    (hw : swappedStores [.Tuple [.Name x px, .Name y py] kt pt] (.Tuple [e1, e2] k2 pt2) X.env = pure none := by rfl) (hs : swapsWithSole [.Tuple [.Name x px, .Name y py] kt pt] (.Tuple [e1, e2] k2 pt2) pos.line X.env = pure false := by rfl)
    (h1 : (assignEach [.Tuple [.Name x px, .Name y py] kt pt] X.env).map (·.2) = [assign (.Tuple [.Name x px, .Name y py] kt pt) X.env] := by rfl)
    (hn : (assignEach [.Name x px, .Name y py] X.env).length = 2 := by rfl) (hst : (assignEach [.Name x px, .Name y py] X.env).findIdx? (·.1) = none := by rfl)
    (hc1 : (assignEach [.Name x px, .Name y py] X.env).map (·.2) = assign (.Name x px) X.env :: (assignEach [.Name y py] X.env).map (·.2) := by rfl) (hc2 : (assignEach [.Name y py] X.env).map (·.2) = assign (.Name y py) X.env :: (assignEach [] X.env).map (·.2) := by rfl)
    (hs1 : starEach [e1, e2] X.env = (false, eval e1 X.env) :: starEach [e2] X.env := by rfl) (hs2 : starEach [e2] X.env = (false, eval e2 X.env) :: starEach [] X.env := by rfl) :
    PS X (.Assign [.Tuple [.Name x px, .Name y py] kt pt] (.Tuple [e1, e2] k2 pt2) pos) (rS b W (evPar2 i j fa fb)) := by
  refine PS.weak (ps_asg (pe_tupX (pa_cons ha (pa_cons hb pa_nil hs2) hs1)) (pg_tup o.calm (pgs_cons (pg_name (i := i) o.nd hi hx hfx) (pgs_cons (pg_name (i := j) o.nd hj hy hfy) pgs_nil hc2) hc1) hn hst) hs hw h1) fun D σ H ⟨b', S, ρ, eb, G, w⟩ => ⟨b', S, ρ, eb, G, ?_⟩
  refine Wp.mono (WpS.bind (σ := σ) (H := H) w) fun S1 H1 ρ1 r1 s1 G1 w1 v hv => ?_
  have w1' := Wp.re G1 (WpS.bind (σ := σ) (H := H1) w1)
  refine ⟨re b' σ S1 H1 ρ1, S1, ρ1, ⟨eb.1, eb.2, eb.3⟩, G1.re, Wp.mono w1' fun S2 H2 ρ2 r2 s2 G2 w2 u hu => ?_⟩
  have G3 := G1.tr G2
  have hv3 := RR.turn G1 hv s2 G2
  have hu3 := RR.re G1 hu
  refine ⟨show 2 ≤ sizeLine by decide, fun p oo hp ho => ⟨p, [v, u], rfl, Or.inl (Or.inr ⟨oo, upd_same⟩), rfl, v, [u], rfl, u, [], rfl, rfl, ?_⟩⟩
  cases hnn : (noSl r1 && noSl r2) with
  | false => exact wps_none (by simp only [hnn]; rfl) w2
  | true =>
    obtain ⟨n1, n2⟩ := Bool.and_eq_true_iff.mp hnn
    simp only [hnn, if_true] at w2
    cases q1 : setR i r1 ρ2 with
    | none => exact wps_none (by simp only [q1]) w2
    | some ρ3 =>
      cases q2 : setR j r2 ρ3 with
      | none => exact wps_none (by simp only [q1, q2]) w2
      | some ρ4 =>
        simp only [q1, q2] at w2
        have G4 := (G3.newH (o := .frz oo (.tup [v, u])) hp).setR (hv3.newH hp) q1
        have hu4 := RR.wait (hv3.newH (o := .frz oo (.tup [v, u])) hp) (hu3.newH hp) (noSl_ne n2) (fun ds es e1 e2 => by subst e1 e2; exact RR.apart G1 hv hu) q1
        exact w2 _ S2 _ (Hsub.refl _) (G4.setR hu4 q2)
end
end Mc
end
section
set_option Elab.async false
set_option linter.all false
set_option maxRecDepth 100000
set_option maxHeartbeats 4000000
namespace Mc
namespace Lw
open PySem PySem.Spec L2
noncomputable section
def top (i : Nat) : Stmt := PySem.Challenge.pw_landparcels_k91_whole_where_to_meet.main.body.getD i (.Pass ⟨0, 0, 0, 0⟩)
abbrev s0 : Stmt := inClass (top 2) 0
abbrev s1 : Stmt := inClass (top 3) 0
abbrev s2 : Stmt := inClass (top 4) 0
abbrev s3 : Stmt := inClass (top 5) 0
abbrev s4 : Stmt := inClass (top 6) 0
abbrev s5 : Stmt := inClass (top 7) 0
abbrev s6 : Stmt := inClass (top 8) 0
abbrev s7 : Stmt := inClass (top 9) 0
abbrev s8 : Stmt := top 11
abbrev s9 : Stmt := top 13
abbrev s10 : Stmt := top 14
abbrev s11 : Stmt := top 15
abbrev s12 : Stmt := top 18
abbrev s13 : Stmt := top 19
abbrev s14 : Stmt := top 20
abbrev s15 : Stmt := top 21
abbrev s16 : Stmt := top 22
abbrev s17 : Stmt := top 23
abbrev s18 : Stmt := top 25
abbrev s19 : Stmt := top 26
abbrev s20 : Stmt := top 27
abbrev s21 : Stmt := top 28
abbrev s22 : Stmt := top 29
abbrev s23 : Stmt := top 30
abbrev s24 : Stmt := top 31
abbrev s25 : Stmt := top 32
abbrev s26 : Stmt := top 33
abbrev s27 : Stmt := top 34
abbrev s28 : Stmt := top 35
abbrev s29 : Stmt := top 36
abbrev s30 : Stmt := top 37
abbrev s31 : Stmt := top 38
/-! ### bodies -/
def csL : List Str := []
def ct : CTab := []
def exTab : List (Str × List Str) := [("BadName", ["name"]), ("BadNumber", ["what", "number"]), ("BadRow", ["what", "row"]), ("NoStone", ["name"]), ("NoName", ["name"]), ("TakenName", ["name"]), ("Unlike", ["what"]), ("TooMany", ["what", "many", "limit"])]
structure Ev (K : PySem.W.Frag) (mg : Str → Option Value) : Prop where
  bi : Bi K mg
  kt : Kits K mg csL
  ct : CTok K mg ct
  g_MOST_STONES : ∃ t, mg "MOST_STONES" = some (.int 12 t)
  v_repr : mg "repr" = none
  xf : ExF K mg exTab
  v_is_point : ∃ f, mg "is_point" = some (.ref f)
/-! is_whole -/
abbrev N8 : List Str := ["value"]
def m8 : M Fl := (evRet (evAnd (evUn (isiD csL .int) (evVar 0)) (evNot (evUn (isiD csL .bl) (evVar 0)))))
def F8 : List D → Option DRes := runD 1 m8
theorem b8 {P : Program} {w : World} {K : PySem.W.Frag} {mg : Str → Option Value} {base : Heap} {f : Addr} (E : Ev K mg) : BodyIs P w K mg base N8 "is_whole" (defScope s8) f 0 (defBody s8) m8 := by
  rintro X W b ⟨cdv, A, outer, s, H, E', rfl⟩ eK em o tk hp
  exact (ss_one (s_ret (pe_andM o (pe_isi o E.kt (pe_v 0) (clx_int E.bi.int) E.bi.isinstance) (pe_one1 (pe_notM o (pe_isi o E.kt (pe_v 0) (clx_bl E.bi.bool) E.bi.isinstance))))))
/-! steps_by -/
abbrev N13 : List Str := ["one", "other"]
def m13 : M Fl := (evRet (evBin addD (evB absD (evCons (evBin (intD gSub) (evBin ixD (evVar 0) (evC (.int 0))) (evBin ixD (evVar 1) (evC (.int 0)))) evNil)) (evB absD (evCons (evBin (intD gSub) (evBin ixD (evVar 0) (evC (.int 1))) (evBin ixD (evVar 1) (evC (.int 1)))) evNil))))
def F13 : List D → Option DRes := runD 2 m13
theorem b13 {P : Program} {w : World} {K : PySem.W.Frag} {mg : Str → Option Value} {base : Heap} {f : Addr} (E : Ev K mg) : BodyIs P w K mg base N13 "steps_by" (defScope s13) f 0 (defBody s13) m13 := by
  rintro X W b ⟨cdv, A, outer, s, H, E', rfl⟩ eK em o tk hp
  exact (ss_one (s_ret (pe_add' o (pe_abs o E.bi (pa_c (pe_sub' (pe_ix' o (pe_v 0) pe_ci) (pe_ix' o (pe_v 1) pe_ci)) pa_n)) (pe_abs o E.bi (pa_c (pe_sub' (pe_ix' o (pe_v 0) pe_ci) (pe_ix' o (pe_v 1) pe_ci)) pa_n)))))
/-! middle_of -/
abbrev N16 : List Str := ["pairs", "whole", "low", "high", "number", "weight", "other", "own"]
def m16 : M Fl := (evSeq (evAsg 1 (evB sumD (evCons (evComp [4, 5] (evSq (evVar 0)) (tgTup 2 (tgCons (tgN 4) (tgCons (tgN 5) tgNil))) (M.ret true) (evVar 5)) evNil))) (evSeq (evPar2 2 3 (evLst evNil) (evLst evNil)) (evSeq (evFor (evSq (evVar 0)) (tgTup 2 (tgCons (tgN 4) (tgCons (tgN 5) tgNil))) (evSeq (evIf (evBl (evBin geD (evBin mulD (evC (.int 2)) (evB sumD (evCons (evComp [6, 7] (evSq (evVar 0)) (tgTup 2 (tgCons (tgN 6) (tgCons (tgN 7) tgNil))) (evBl (evBin leD (evVar 6) (evVar 4))) (evVar 7)) evNil))) (evVar 1))) (evDrop (evLM 2 apM (evCons (evVar 4) evNil))) evSkip) (evIf (evBl (evBin geD (evBin mulD (evC (.int 2)) (evB sumD (evCons (evComp [6, 7] (evSq (evVar 0)) (tgTup 2 (tgCons (tgN 6) (tgCons (tgN 7) tgNil))) (evBl (evBin geD (evVar 6) (evVar 4))) (evVar 7)) evNil))) (evVar 1))) (evDrop (evLM 3 apM (evCons (evVar 4) evNil))) evSkip))) (evRet (evTup (evCons (evB (best1D false) (evCons (evVar 2) evNil)) (evCons (evB (best1D true) (evCons (evVar 3) evNil)) evNil)))))))
def F16 : List D → Option DRes := runD 8 m16
theorem b16 {P : Program} {w : World} {K : PySem.W.Frag} {mg : Str → Option Value} {base : Heap} {f : Addr} (E : Ev K mg) : BodyIs P w K mg base N16 "middle_of" (defScope s16) f 0 (defBody s16) m16 := by
  rintro X W b ⟨cdv, A, outer, s, H, E', rfl⟩ eK em o tk hp
  exact (ss_cons (s_set 1 o (pe_sum o E.bi (pa_c (pe_lcM o (own := [("number", 4), ("weight", 5)]) (pi_sqM o (pe_v 0)) (blkOk_by rfl) (by decide) (fun s H C cl fp o => (pg_t o (pgs_c (pg_n 4 o) (pgs_c (pg_n 5 o) pgs_n)))) (fun s H C cl fp o => pts_n) (fun s H C cl fp o => (pe_v 5))) pa_n))) (ss_cons (s_par2 2 3 o (pe_lstM pa_n) (pe_lstM pa_n)) (ss_cons (s_for o hp (pi_sqM o (pe_v 0)) (pg_t o (pgs_c (pg_n 4 o) (pgs_c (pg_n 5 o) pgs_n))) (ss_cons (s_if (pt_c (cm_ge o) (pe_mul' o pe_ci (pe_sum o E.bi (pa_c (pe_lcM o (own := [("other", 6), ("own", 7)]) (pi_sqM o (pe_v 0)) (blkOk_by rfl) (by decide) (fun s H C cl fp o => (pg_t o (pgs_c (pg_n 6 o) (pgs_c (pg_n 7 o) pgs_n)))) (fun s H C cl fp o => (pts_1 (pt_c (cm_le o) (pe_v 6) (pe_v 4)))) (fun s H C cl fp o => (pe_v 7))) pa_n))) (pe_v 1)) (ss_one (s_expr (pe_lm 2 PySem.F.slot_list_append PySem.F.type_list_append mt_append sem_ap (pa_c (pe_v 4) pa_n) o))) ss_nil) (ss_one (s_if (pt_c (cm_ge o) (pe_mul' o pe_ci (pe_sum o E.bi (pa_c (pe_lcM o (own := [("other", 6), ("own", 7)]) (pi_sqM o (pe_v 0)) (blkOk_by rfl) (by decide) (fun s H C cl fp o => (pg_t o (pgs_c (pg_n 6 o) (pgs_c (pg_n 7 o) pgs_n)))) (fun s H C cl fp o => (pts_1 (pt_c (cm_ge o) (pe_v 6) (pe_v 4)))) (fun s H C cl fp o => (pe_v 7))) pa_n))) (pe_v 1)) (ss_one (s_expr (pe_lm 3 PySem.F.slot_list_append PySem.F.type_list_append mt_append sem_ap (pa_c (pe_v 4) pa_n) o))) ss_nil)))) (ss_one (s_ret (pe_tupM (pa_c (pe_min1 o E.bi (pa_c (pe_v 2) pa_n)) (pa_c (pe_max1 o E.bi (pa_c (pe_v 3) pa_n)) pa_n))))))))
/-! _law_draw -/
abbrev N19 : List Str := ["pen", "many", "cell", "digit", "blend"]
def m19 : M Fl := (evSeq (evPnPut 0 "count" (evBin addD (evPnGet 0 "count") (evC (.int 1)))) (evSeq (evIf (evAndT (evBl (evBin eqD (evPnGet 0 "digits") (evC (.int 0)))) (evBl (evBin ltD (evPnGet 0 "at") (evB lenD (evCons (evPnGet 0 "cells") evNil))))) (evSeq (evAsg 2 (evBin ixD (evPnGet 0 "cells") (evPnGet 0 "at"))) (evSeq (evPnPut 0 "at" (evBin addD (evPnGet 0 "at") (evC (.int 1)))) (evIf (evBl (evBin geD (evVar 2) (evBin (intD gPow) (evC (.int 10)) (evC (.int 18))))) (evPnPut 0 "digits" (evBin (intD gSub) (evVar 2) (evBin (intD gPow) (evC (.int 10)) (evC (.int 18))))) (evPnPut 0 "fold" (evBin (intD gMod) (evB toiD (evCons (evBin addD (evBin mulD (evPnGet 0 "fold") (evC (.int 69069))) (evVar 2)) evNil)) (evC (.int 2147483587))))))) evSkip) (evSeq (evIf (evBl (evBin gtD (evPnGet 0 "digits") (evC (.int 0)))) (evSeq (evAsg 3 (evBin (intD gMod) (evB toiD (evCons (evPnGet 0 "digits") evNil)) (evVar 1))) (evSeq (evPnPut 0 "digits" (evBin (intD gDiv) (evPnGet 0 "digits") (evVar 1))) (evRet (evVar 3)))) evSkip) (evSeq (evAsg 4 (evBin (intD gMod) (evB toiD (evCons (evBin addD (evBin addD (evBin mulD (evPnGet 0 "fold") (evC (.int 48271))) (evBin mulD (evPnGet 0 "count") (evC (.int 7919)))) (evC (.int 13))) evNil)) (evC (.int 2147483647)))) (evSeq (evAsg 4 (evBin (intD gMod) (evB toiD (evCons (evBin addD (evBin addD (evBin mulD (evVar 4) (evVar 4)) (evBin mulD (evC (.int 31)) (evVar 4))) (evPnGet 0 "count")) evNil)) (evC (.int 2147483629)))) (evSeq (evPnPut 0 "fold" (evBin (intD gMod) (evB toiD (evCons (evBin addD (evBin mulD (evVar 4) (evC (.int 16807))) (evC (.int 7))) evNil)) (evC (.int 2147483647)))) (evRet (evBin (intD gMod) (evB toiD (evCons (evBin (intD gDiv) (evVar 4) (evC (.int 64))) evNil)) (evVar 1)))))))))
def F19 : Mo → List D → Option (DRes × Mo) := runN 5 m19
theorem b19 {P : Program} {w : World} {K : PySem.W.Frag} {mg : Str → Option Value} {base : Heap} {f : Addr} (E : Ev K mg) : BodyIs P w K mg base N19 "_law_draw" (defScope s19) f 0 (defBody s19) m19 := by
  rintro X W b ⟨cdv, A, outer, s, H, E', rfl⟩ eK em o tk hp
  exact (ss_cons (s_pnPut o 0 (pe_add' o (pe_pnGet o 0) pe_ci)) (ss_cons (s_if (PW.pt (pw_andM (pt_c (cm_eq o) (pe_pnGet o 0) pe_ci) (pw_and1M (pt_c (cm_lt o) (pe_pnGet o 0) (pe_len o E.bi (pa_c (pe_pnGet o 0) pa_n)))))) (ss_cons (s_set 2 o (pe_ix' o (pe_pnGet o 0) (pe_pnGet o 0))) (ss_cons (s_pnPut o 0 (pe_add' o (pe_pnGet o 0) pe_ci)) (ss_one (s_if (pt_c (cm_ge o) (pe_v 2) (pe_pow' pe_ci pe_ci)) (ss_one (s_pnPut o 0 (pe_sub' (pe_v 2) (pe_pow' pe_ci pe_ci)))) (ss_one (s_pnPut o 0 (pe_mod' (pe_int o E.bi (pa_c (pe_add' o (pe_mul' o (pe_pnGet o 0) pe_ci) (pe_v 2)) pa_n)) pe_ci))))))) ss_nil) (ss_cons (s_if (pt_c (cm_gt o) (pe_pnGet o 0) pe_ci) (ss_cons (s_set 3 o (pe_mod' (pe_int o E.bi (pa_c (pe_pnGet o 0) pa_n)) (pe_v 1))) (ss_cons (s_pnPut o 0 (pe_div' (pe_pnGet o 0) (pe_v 1))) (ss_one (s_ret (pe_v 3))))) ss_nil) (ss_cons (s_set 4 o (pe_mod' (pe_int o E.bi (pa_c (pe_add' o (pe_add' o (pe_mul' o (pe_pnGet o 0) pe_ci) (pe_mul' o (pe_pnGet o 0) pe_ci)) pe_ci) pa_n)) pe_ci)) (ss_cons (s_set 4 o (pe_mod' (pe_int o E.bi (pa_c (pe_add' o (pe_add' o (pe_mul' o (pe_v 4) (pe_v 4)) (pe_mul' o pe_ci (pe_v 4))) (pe_pnGet o 0)) pa_n)) pe_ci)) (ss_cons (s_pnPut o 0 (pe_mod' (pe_int o E.bi (pa_c (pe_add' o (pe_mul' o (pe_v 4) pe_ci) pe_ci) pa_n)) pe_ci)) (ss_one (s_ret (pe_mod' (pe_int o E.bi (pa_c (pe_div' (pe_v 4) pe_ci) pa_n)) (pe_v 1))))))))))
/-! _law_whole -/
abbrev N22 : List Str := ["value"]
def m22 : M Fl := (evRet (evAnd (evUn (isiD csL .int) (evVar 0)) (evNot (evUn (isiD csL .bl) (evVar 0)))))
def F22 : List D → Option DRes := runD 1 m22
theorem b22 {P : Program} {w : World} {K : PySem.W.Frag} {mg : Str → Option Value} {base : Heap} {f : Addr} (E : Ev K mg) : BodyIs P w K mg base N22 "_law_whole" (defScope s22) f 0 (defBody s22) m22 := by
  rintro X W b ⟨cdv, A, outer, s, H, E', rfl⟩ eK em o tk hp
  exact (ss_one (s_ret (pe_andM o (pe_isi o E.kt (pe_v 0) (clx_int E.bi.int) E.bi.isinstance) (pe_one1 (pe_notM o (pe_isi o E.kt (pe_v 0) (clx_bl E.bi.bool) E.bi.isinstance))))))
/-! _law_walk -/
abbrev N28 : List Str := ["one", "other"]
def m28 : M Fl := (evRet (evBin addD (evB absD (evCons (evBin (intD gSub) (evBin ixD (evVar 0) (evC (.int 0))) (evBin ixD (evVar 1) (evC (.int 0)))) evNil)) (evB absD (evCons (evBin (intD gSub) (evBin ixD (evVar 0) (evC (.int 1))) (evBin ixD (evVar 1) (evC (.int 1)))) evNil))))
def F28 : List D → Option DRes := runD 2 m28
theorem b28 {P : Program} {w : World} {K : PySem.W.Frag} {mg : Str → Option Value} {base : Heap} {f : Addr} (E : Ev K mg) : BodyIs P w K mg base N28 "_law_walk" (defScope s28) f 0 (defBody s28) m28 := by
  rintro X W b ⟨cdv, A, outer, s, H, E', rfl⟩ eK em o tk hp
  exact (ss_one (s_ret (pe_add' o (pe_abs o E.bi (pa_c (pe_sub' (pe_ix' o (pe_v 0) pe_ci) (pe_ix' o (pe_v 1) pe_ci)) pa_n)) (pe_abs o E.bi (pa_c (pe_sub' (pe_ix' o (pe_v 0) pe_ci) (pe_ix' o (pe_v 1) pe_ci)) pa_n)))))
/-! is_point -/
abbrev N9 : List Str := ["value", "one"]
def m9 : M Fl := (evRet (evAnd (evUn (isiD csL .tup) (evVar 0)) (evAnd (evBin eqD (evB lenD (evCons (evVar 0) evNil)) (evC (.int 2))) (evB allD (evCons (evComp [1] (evSq (evVar 0)) (tgN 1) (M.ret true) (evCall F8 (evN 1 (evCons (evVar 1) evNil)))) evNil)))))
def F9 : List D → Option DRes := runD 2 m9
theorem b9 {P : Program} {w : World} {K : PySem.W.Frag} {mg : Str → Option Value} {base : Heap} {f : Addr} (E : Ev K mg) (h_is_whole : Dn P w K mg base "is_whole" 1 1 F8) : BodyIs P w K mg base N9 "is_point" (defScope s9) f 1 (defBody s9) m9 := by
  rintro X W b ⟨cdv, A, outer, s, H, E', rfl⟩ eK em o tk hp
  exact (ss_one (s_ret (pe_andM o (pe_isi o E.kt (pe_v 0) (clx_tup E.bi.tuple) E.bi.isinstance) (pe_andM o (pe_c (cm_eq o) (pe_len o E.bi (pa_c (pe_v 0) pa_n)) pe_ci) (pe_one1 (pe_all o E.bi (pa_c (pe_lcM o (own := [("one", 1)]) (pi_sqM o (pe_v 0)) (blkOk_by rfl) (by decide) (fun s H C cl fp o => (pg_n 1 o)) (fun s H C cl fp o => pts_n) (fun s H C cl fp o => (pe_fn h_is_whole o takes0 (pa_c (pe_v 1) pa_n)))) pa_n)))))))
/-! _law_pick -/
abbrev N20 : List Str := ["pen", "some"]
def m20 : M Fl := (evRet (evBin ixD (evVar 1) (evCallN F19 (evN 2 (evCons (evVar 0) (evCons (evB lenD (evCons (evVar 1) evNil)) evNil))))))
def F20 : Mo → List D → Option (DRes × Mo) := runN 2 m20
theorem b20 {P : Program} {w : World} {K : PySem.W.Frag} {mg : Str → Option Value} {base : Heap} {f : Addr} (E : Ev K mg) (h__law_draw : DnN P w K mg base "_law_draw" 1 1 F19) : BodyIs P w K mg base N20 "_law_pick" (defScope s20) f 1 (defBody s20) m20 := by
  rintro X W b ⟨cdv, A, outer, s, H, E', rfl⟩ eK em o tk hp
  exact (ss_one (s_ret (pe_ix' o (pe_v 1) (pe_fnN h__law_draw o tk (pa_c (pe_v 0) (pa_c (pe_len o E.bi (pa_c (pe_v 1) pa_n)) pa_n))))))
/-! _law_drawn_point -/
abbrev N23 : List Str := ["pen", "wide"]
def m23 : M Fl := (evRet (evTup (evCons (evBin (intD gSub) (evCallN F19 (evN 2 (evCons (evVar 0) (evCons (evBin addD (evBin mulD (evC (.int 2)) (evVar 1)) (evC (.int 1))) evNil)))) (evVar 1)) (evCons (evBin (intD gSub) (evCallN F19 (evN 2 (evCons (evVar 0) (evCons (evBin addD (evBin mulD (evC (.int 2)) (evVar 1)) (evC (.int 1))) evNil)))) (evVar 1)) evNil))))
def F23 : Mo → List D → Option (DRes × Mo) := runN 2 m23
theorem b23 {P : Program} {w : World} {K : PySem.W.Frag} {mg : Str → Option Value} {base : Heap} {f : Addr} (E : Ev K mg) (h__law_draw : DnN P w K mg base "_law_draw" 1 1 F19) : BodyIs P w K mg base N23 "_law_drawn_point" (defScope s23) f 1 (defBody s23) m23 := by
  rintro X W b ⟨cdv, A, outer, s, H, E', rfl⟩ eK em o tk hp
  exact (ss_one (s_ret (pe_tupM (pa_c (pe_sub' (pe_fnN h__law_draw o tk (pa_c (pe_v 0) (pa_c (pe_add' o (pe_mul' o pe_ci (pe_v 1)) pe_ci) pa_n))) (pe_v 1)) (pa_c (pe_sub' (pe_fnN h__law_draw o tk (pa_c (pe_v 0) (pa_c (pe_add' o (pe_mul' o pe_ci (pe_v 1)) pe_ci) pa_n))) (pe_v 1)) pa_n)))))
/-! _law_is_pair -/
abbrev N29 : List Str := ["value", "one"]
def m29 : M Fl := (evRet (evAnd (evUn (isiD csL .tup) (evVar 0)) (evAnd (evBin eqD (evB lenD (evCons (evVar 0) evNil)) (evC (.int 2))) (evBin eqD (evComp [1] (evSq (evVar 0)) (tgN 1) (evNotT (evTru (evCall F22 (evN 1 (evCons (evVar 1) evNil))))) (evVar 1)) (evLst evNil)))))
def F29 : List D → Option DRes := runD 2 m29
theorem b29 {P : Program} {w : World} {K : PySem.W.Frag} {mg : Str → Option Value} {base : Heap} {f : Addr} (E : Ev K mg) (h__law_whole : Dn P w K mg base "_law_whole" 1 1 F22) : BodyIs P w K mg base N29 "_law_is_pair" (defScope s29) f 1 (defBody s29) m29 := by
  rintro X W b ⟨cdv, A, outer, s, H, E', rfl⟩ eK em o tk hp
  exact (ss_one (s_ret (pe_andM o (pe_isi o E.kt (pe_v 0) (clx_tup E.bi.tuple) E.bi.isinstance) (pe_andM o (pe_c (cm_eq o) (pe_len o E.bi (pa_c (pe_v 0) pa_n)) pe_ci) (pe_one1 (pe_c (cm_eq o) (pe_lcM o (own := [("one", 1)]) (pi_sqM o (pe_v 0)) (blkOk_by rfl) (by decide) (fun s H C cl fp o => (pg_n 1 o)) (fun s H C cl fp o => (pts_1 (pt_notM (pt_tru o (pe_fn h__law_whole o takes0 (pa_c (pe_v 1) pa_n)))))) (fun s H C cl fp o => (pe_v 1))) (pe_lstM pa_n)))))))
/-! _law_sum_at -/
abbrev N30 : List Str := ["stones", "weights", "point", "stone", "weight"]
def m30 : M Fl := (evRet (evB sumD (evCons (evComp [3, 4] (evZp (evCons (evVar 0) (evCons (evVar 1) evNil))) (tgTup 2 (tgCons (tgN 3) (tgCons (tgN 4) tgNil))) (M.ret true) (evBin mulD (evVar 4) (evCall F28 (evN 2 (evCons (evVar 3) (evCons (evVar 2) evNil)))))) evNil)))
def F30 : List D → Option DRes := runD 5 m30
theorem b30 {P : Program} {w : World} {K : PySem.W.Frag} {mg : Str → Option Value} {base : Heap} {f : Addr} (E : Ev K mg) (h__law_walk : Dn P w K mg base "_law_walk" 1 2 F28) : BodyIs P w K mg base N30 "_law_sum_at" (defScope s30) f 1 (defBody s30) m30 := by
  rintro X W b ⟨cdv, A, outer, s, H, E', rfl⟩ eK em o tk hp
  exact (ss_one (s_ret (pe_sum o E.bi (pa_c (pe_lcM o (own := [("stone", 3), ("weight", 4)]) (pi_zpM o (pa_c (pe_v 0) (pa_c (pe_v 1) pa_n)) E.bi.zip) (blkOk_by rfl) (by decide) (fun s H C cl fp o => (pg_t o (pgs_c (pg_n 3 o) (pgs_c (pg_n 4 o) pgs_n)))) (fun s H C cl fp o => pts_n) (fun s H C cl fp o => (pe_mul' o (pe_v 4) (pe_fn h__law_walk o takes0 (pa_c (pe_v 3) (pa_c (pe_v 2) pa_n)))))) pa_n))))
def TF : FTab := [("is_point", 1, F9)]
/-! need_as -/
abbrev N10 : List Str := ["what", "value", "is_right", "known"]
def m10 : M Fl := (evSeq (evAsg 3 (evIf (evTru (evUn (isiD csL .lst) (evVar 1))) (evB tupD (evCons (evVar 1) evNil)) (evVar 1))) (evSeq (evIf (evNotT (evTru (evCallL 2 TF (evCons (evVar 3) evNil)))) (evRaise "BadRow" ["what", "row"] (evCons (evVar 0) (evCons (evVar 1) evNil))) evSkip) (evRet (evVar 3))))
def F10 : List D → Option DRes := runD 4 m10
theorem b10 {P : Program} {w : World} {K : PySem.W.Frag} {mg : Str → Option Value} {base : Heap} {f : Addr} (E : Ev K mg) (ft : FTok P w K mg base 2 TF) (xk_BadRow : ExcK P w K mg base "BadRow" 1 ["what", "row"]) : BodyIs P w K mg base N10 "need_as" (defScope s10) f 2 (defBody s10) m10 := by
  rintro X W b ⟨cdv, A, outer, s, H, E', rfl⟩ eK em o tk hp
  exact (ss_cons (s_set 3 o (pe_ifM (pt_tru o (pe_isi o E.kt (pe_v 1) (clx_lst E.bi.list) E.bi.isinstance)) (pe_tuple o E.bi (pa_c (pe_v 1) pa_n)) (pe_v 1))) (ss_cons (s_if (pt_notM (pt_tru o (pe_fnL 2 o ft (pa_c (pe_v 3) pa_n)))) (ss_one (s_raise xk_BadRow o tk (pa_c (pe_v 0) (pa_c (pe_v 1) pa_n)))) ss_nil) (ss_one (s_ret (pe_v 3)))))
/-! need_posts -/
abbrev N12 : List Str := ["stones", "stone"]
def m12 : M Fl := (evSeq (evIf (evOrT (evNotT (evTru (evUn (isiD2 csL .lst .tup) (evVar 0)))) (evNotT (evBl (evChain leD leD (evC (.int 1)) (evB lenD (evCons (evVar 0) evNil)) (evC (.int 12)))))) (evRaise "BadRow" ["what", "row"] (evCons (evC (.str "stones")) (evCons (evVar 0) evNil))) evSkip) (evSeq (evIf (evOrT (evNotT (evTru (evB allD (evCons (evComp [1] (evSq (evVar 0)) (tgN 1) (M.ret true) (evCall F9 (evN 1 (evCons (evVar 1) evNil)))) evNil)))) (evBl (evBin ltD (evDcLen [1] (evSq (evVar 0)) (tgN 1) (M.ret true) (evVar 1) (evC (.bl true))) (evB lenD (evCons (evVar 0) evNil))))) (evRaise "BadRow" ["what", "row"] (evCons (evC (.str "stones")) (evCons (evVar 0) evNil))) evSkip) (evRet (evB tupD (evCons (evVar 0) evNil)))))
def F12 : List D → Option DRes := runD 2 m12
theorem b12 {P : Program} {w : World} {K : PySem.W.Frag} {mg : Str → Option Value} {base : Heap} {f : Addr} (E : Ev K mg) (h_is_point : Dn P w K mg base "is_point" 2 1 F9) (xk_BadRow : ExcK P w K mg base "BadRow" 1 ["what", "row"]) : BodyIs P w K mg base N12 "need_posts" (defScope s12) f 2 (defBody s12) m12 := by
  rintro X W b ⟨cdv, A, outer, s, H, E', rfl⟩ eK em o tk hp
  exact (ss_cons (s_if (PW.pt (pw_orM (pt_notM (pt_tru o (pe_isi2 o E.kt (pe_v 0) (clx_lst E.bi.list) (clx_tup E.bi.tuple) E.bi.isinstance))) (pw_or1M (pt_notM (pt_ch (cm_le o) (cm_le o) pe_ci (pe_len o E.bi (pa_c (pe_v 0) pa_n)) (pe_gint E.g_MOST_STONES)))))) (ss_one (s_raise xk_BadRow o tk (pa_c pe_cs (pa_c (pe_v 0) pa_n)))) ss_nil) (ss_cons (s_if (PW.pt (pw_orM (pt_notM (pt_tru o (pe_all o E.bi (pa_c (pe_lcM o (own := [("stone", 1)]) (pi_sqM o (pe_v 0)) (blkOk_by rfl) (by decide) (fun s H C cl fp o => (pg_n 1 o)) (fun s H C cl fp o => pts_n) (fun s H C cl fp o => (pe_fn h_is_point o takes0 (pa_c (pe_v 1) pa_n)))) pa_n)))) (pw_or1M (pt_c (cm_lt o) (pe_lenDc (own := [("stone", 1)]) o E.bi (pi_sqM o (pe_v 0)) (blkOk_by rfl) (by decide) (fun s H C cl fp o => (pg_n 1 o)) (fun s H C cl fp o => pts_n) (fun s H C cl fp o => (pe_v 1)) (fun s H C cl fp o => pe_cb)) (pe_len o E.bi (pa_c (pe_v 0) pa_n)))))) (ss_one (s_raise xk_BadRow o tk (pa_c pe_cs (pa_c (pe_v 0) pa_n)))) ss_nil) (ss_one (s_ret (pe_tuple o E.bi (pa_c (pe_v 0) pa_n))))))
/-! need_weights -/
abbrev N14 : List Str := ["stones", "weights", "one"]
def m14 : M Fl := (evSeq (evIf (evOrT (evNotT (evTru (evUn (isiD2 csL .lst .tup) (evVar 1)))) (evBl (evBin neD (evB lenD (evCons (evVar 1) evNil)) (evB lenD (evCons (evVar 0) evNil))))) (evRaise "BadRow" ["what", "row"] (evCons (evC (.str "weights")) (evCons (evVar 1) evNil))) evSkip) (evSeq (evIf (evNotT (evTru (evB allD (evCons (evComp [2] (evSq (evVar 1)) (tgN 2) (M.ret true) (evAnd (evCall F8 (evN 1 (evCons (evVar 2) evNil))) (evBin gtD (evVar 2) (evC (.int 0))))) evNil)))) (evRaise "BadRow" ["what", "row"] (evCons (evC (.str "weights")) (evCons (evVar 1) evNil))) evSkip) (evRet (evB tupD (evCons (evVar 1) evNil)))))
def F14 : List D → Option DRes := runD 3 m14
theorem b14 {P : Program} {w : World} {K : PySem.W.Frag} {mg : Str → Option Value} {base : Heap} {f : Addr} (E : Ev K mg) (h_is_whole : Dn P w K mg base "is_whole" 1 1 F8) (xk_BadRow : ExcK P w K mg base "BadRow" 1 ["what", "row"]) : BodyIs P w K mg base N14 "need_weights" (defScope s14) f 2 (defBody s14) m14 := by
  rintro X W b ⟨cdv, A, outer, s, H, E', rfl⟩ eK em o tk hp
  exact (ss_cons (s_if (PW.pt (pw_orM (pt_notM (pt_tru o (pe_isi2 o E.kt (pe_v 1) (clx_lst E.bi.list) (clx_tup E.bi.tuple) E.bi.isinstance))) (pw_or1M (pt_c (cm_ne o) (pe_len o E.bi (pa_c (pe_v 1) pa_n)) (pe_len o E.bi (pa_c (pe_v 0) pa_n)))))) (ss_one (s_raise xk_BadRow o tk (pa_c pe_cs (pa_c (pe_v 1) pa_n)))) ss_nil) (ss_cons (s_if (pt_notM (pt_tru o (pe_all o E.bi (pa_c (pe_lcM o (own := [("one", 2)]) (pi_sqM o (pe_v 1)) (blkOk_by rfl) (by decide) (fun s H C cl fp o => (pg_n 2 o)) (fun s H C cl fp o => pts_n) (fun s H C cl fp o => (pe_andM o (pe_fn h_is_whole o takes0 (pa_c (pe_v 2) pa_n)) (pe_one1 (pe_c (cm_gt o) (pe_v 2) pe_ci))))) pa_n)))) (ss_one (s_raise xk_BadRow o tk (pa_c pe_cs (pa_c (pe_v 1) pa_n)))) ss_nil) (ss_one (s_ret (pe_tuple o E.bi (pa_c (pe_v 1) pa_n))))))
/-! _law_odd_point -/
abbrev N24 : List Str := ["pen"]
def m24 : M Fl := (evRet (evCallN F20 (evN 2 (evCons (evVar 0) (evCons (evLst (evCons (evC .non) (evCons (evC (.int 5)) (evCons (evC (.str "ab")) (evCons (evTup evNil) (evCons (evTup (evCons (evC (.int 1)) evNil)) (evCons (evTup (evCons (evC (.int 1)) (evCons (evC (.int 2)) (evCons (evC (.int 3)) evNil)))) (evCons (evTup (evCons (evC (.int 1)) (evCons (evC .non) evNil))) (evCons (evTup (evCons (evC (.bl true)) (evCons (evC (.int 2)) evNil))) (evCons (evTup (evCons (evC (.int 1)) (evCons (evC (.str "2")) evNil))) (evCons (evTup (evCons (evTup (evCons (evC (.int 1)) (evCons (evC (.int 2)) evNil))) (evCons (evC (.int 3)) evNil))) evNil))))))))))) evNil)))))
def F24 : Mo → List D → Option (DRes × Mo) := runN 1 m24
theorem b24 {P : Program} {w : World} {K : PySem.W.Frag} {mg : Str → Option Value} {base : Heap} {f : Addr} (E : Ev K mg) (h__law_pick : DnN P w K mg base "_law_pick" 2 1 F20) : BodyIs P w K mg base N24 "_law_odd_point" (defScope s24) f 2 (defBody s24) m24 := by
  rintro X W b ⟨cdv, A, outer, s, H, E', rfl⟩ eK em o tk hp
  exact (ss_one (s_ret (pe_fnN h__law_pick o tk (pa_c (pe_v 0) (pa_c (pe_lstM (pa_c pe_cn (pa_c pe_ci (pa_c pe_cs (pa_c (pe_tupM pa_n) (pa_c (pe_tupM (pa_c pe_ci pa_n)) (pa_c (pe_tupM (pa_c pe_ci (pa_c pe_ci (pa_c pe_ci pa_n)))) (pa_c (pe_tupM (pa_c pe_ci (pa_c pe_cn pa_n))) (pa_c (pe_tupM (pa_c pe_cb (pa_c pe_ci pa_n))) (pa_c (pe_tupM (pa_c pe_ci (pa_c pe_cs pa_n))) (pa_c (pe_tupM (pa_c (pe_tupM (pa_c pe_ci (pa_c pe_ci pa_n))) (pa_c pe_ci pa_n))) pa_n))))))))))) pa_n)))))
/-! _law_stones -/
abbrev N27 : List Str := ["pen", "most", "wide", "rows", "many", "way", "x", "y", "lap", "point"]
def m27 : M Fl := (evSeq (evPar3 3 4 5 (evLst evNil) (evBin addD (evC (.int 1)) (evCallN F19 (evN 2 (evCons (evVar 0) (evCons (evVar 1) evNil))))) (evCallN F19 (evN 2 (evCons (evVar 0) (evCons (evC (.int 5)) evNil))))) (evSeq (evPar2 6 7 (evBin (intD gSub) (evCallN F19 (evN 2 (evCons (evVar 0) (evCons (evC (.int 3)) evNil)))) (evC (.int 1))) (evBin addD (evC (.int 1)) (evCallN F19 (evN 2 (evCons (evVar 0) (evCons (evC (.int 2)) evNil)))))) (evSeq (evFor (evRng rngR1 (evCons (evBin mulD (evC (.int 3)) (evVar 4)) evNil)) (tgN 8) (evSeq (evAsg 9 (evCallN F23 (evN 2 (evCons (evVar 0) (evCons (evVar 2) evNil))))) (evSeq (evAsg 9 (evIf (evBl (evBin eqD (evVar 5) (evC (.int 0)))) (evTup (evCons (evBin mulD (evVar 6) (evBin ixD (evVar 9) (evC (.int 0)))) (evCons (evBin mulD (evVar 7) (evBin ixD (evVar 9) (evC (.int 0)))) evNil))) (evVar 9))) (evIf (evAndT (evBl (evBin ninD (evVar 9) (evVar 3))) (evBl (evBin ltD (evB lenD (evCons (evVar 3) evNil)) (evVar 4)))) (evDrop (evLM 3 apM (evCons (evVar 9) evNil))) evSkip)))) (evRet (evB tupD (evCons (evVar 3) evNil))))))
def F27 : Mo → List D → Option (DRes × Mo) := runN 10 m27
theorem b27 {P : Program} {w : World} {K : PySem.W.Frag} {mg : Str → Option Value} {base : Heap} {f : Addr} (E : Ev K mg) (h__law_drawn_point : DnN P w K mg base "_law_drawn_point" 2 1 F23) (h__law_draw : DnN P w K mg base "_law_draw" 1 1 F19) : BodyIs P w K mg base N27 "_law_stones" (defScope s27) f 2 (defBody s27) m27 := by
  rintro X W b ⟨cdv, A, outer, s, H, E', rfl⟩ eK em o tk hp
  exact (ss_cons (s_par3 3 4 5 o (pe_lstM pa_n) (pe_add' o pe_ci (pe_fnN h__law_draw o tk (pa_c (pe_v 0) (pa_c (pe_v 1) pa_n)))) (pe_fnN h__law_draw o tk (pa_c (pe_v 0) (pa_c pe_ci pa_n)))) (ss_cons (s_par2 6 7 o (pe_sub' (pe_fnN h__law_draw o tk (pa_c (pe_v 0) (pa_c pe_ci pa_n))) pe_ci) (pe_add' o pe_ci (pe_fnN h__law_draw o tk (pa_c (pe_v 0) (pa_c pe_ci pa_n))))) (ss_cons (s_for o hp (pi_rng1 rfl E.bi.range (pa_c (pe_mul' o pe_ci (pe_v 4)) pa_n)) (pg_n 8 o) (ss_cons (s_set 9 o (pe_fnN h__law_drawn_point o tk (pa_c (pe_v 0) (pa_c (pe_v 2) pa_n)))) (ss_cons (s_set 9 o (pe_ifM (pt_c (cm_eq o) (pe_v 5) pe_ci) (pe_tupM (pa_c (pe_mul' o (pe_v 6) (pe_ix' o (pe_v 9) pe_ci)) (pa_c (pe_mul' o (pe_v 7) (pe_ix' o (pe_v 9) pe_ci)) pa_n))) (pe_v 9))) (ss_one (s_if (PW.pt (pw_andM (pt_c (cm_nin o) (pe_v 9) (pe_v 3)) (pw_and1M (pt_c (cm_lt o) (pe_len o E.bi (pa_c (pe_v 3) pa_n)) (pe_v 4))))) (ss_one (s_expr (pe_lm 3 PySem.F.slot_list_append PySem.F.type_list_append mt_append sem_ap (pa_c (pe_v 9) pa_n) o))) ss_nil))))) (ss_one (s_ret (pe_tuple o E.bi (pa_c (pe_v 3) pa_n)))))))
/-! need_point -/
abbrev N11 : List Str := ["what", "value"]
def m11 : M Fl := (evRet (evCall F10 (evN 3 (evCons (evVar 0) (evCons (evVar 1) (evCons (evC (.fn "is_point")) evNil))))))
def F11 : List D → Option DRes := runD 2 m11
theorem b11 {P : Program} {w : World} {K : PySem.W.Frag} {mg : Str → Option Value} {base : Heap} {f : Addr} (E : Ev K mg) (h_need_as : Dn P w K mg base "need_as" 3 3 F10) : BodyIs P w K mg base N11 "need_point" (defScope s11) f 3 (defBody s11) m11 := by
  rintro X W b ⟨cdv, A, outer, s, H, E', rfl⟩ eK em o tk hp
  obtain ⟨_, gf_is_point⟩ := E.v_is_point
  exact (ss_one (s_ret (pe_fn h_need_as o tk (pa_c (pe_v 0) (pa_c (pe_v 1) (pa_c (pe_gfn o gf_is_point) pa_n))))))
/-! meeting_box -/
abbrev N17 : List Str := ["stones", "weights", "known", "rows", "east", "stone", "weight"]
def m17 : M Fl := (evSeq (evAsg 2 (evCall F12 (evN 1 (evCons (evVar 0) evNil)))) (evSeq (evAsg 3 (evCall F14 (evN 2 (evCons (evVar 2) (evCons (evVar 1) evNil))))) (evSeq (evAsg 4 (evCall F16 (evN 1 (evCons (evComp [5, 6] (evZp (evCons (evVar 2) (evCons (evVar 3) evNil))) (tgTup 2 (tgCons (tgN 5) (tgCons (tgN 6) tgNil))) (M.ret true) (evTup (evCons (evBin ixD (evVar 5) (evC (.int 0))) (evCons (evVar 6) evNil)))) evNil)))) (evRet (evTup (evCons (evVar 4) (evCons (evCall F16 (evN 1 (evCons (evComp [5, 6] (evZp (evCons (evVar 2) (evCons (evVar 3) evNil))) (tgTup 2 (tgCons (tgN 5) (tgCons (tgN 6) tgNil))) (M.ret true) (evTup (evCons (evBin ixD (evVar 5) (evC (.int 1))) (evCons (evVar 6) evNil)))) evNil))) evNil)))))))
def F17 : List D → Option DRes := runD 7 m17
theorem b17 {P : Program} {w : World} {K : PySem.W.Frag} {mg : Str → Option Value} {base : Heap} {f : Addr} (E : Ev K mg) (h_middle_of : Dn P w K mg base "middle_of" 1 1 F16) (h_need_weights : Dn P w K mg base "need_weights" 3 2 F14) (h_need_posts : Dn P w K mg base "need_posts" 3 1 F12) : BodyIs P w K mg base N17 "meeting_box" (defScope s17) f 3 (defBody s17) m17 := by
  rintro X W b ⟨cdv, A, outer, s, H, E', rfl⟩ eK em o tk hp
  exact (ss_cons (s_set 2 o (pe_fn h_need_posts o tk (pa_c (pe_v 0) pa_n))) (ss_cons (s_set 3 o (pe_fn h_need_weights o tk (pa_c (pe_v 2) (pa_c (pe_v 1) pa_n)))) (ss_cons (s_set 4 o (pe_fn h_middle_of o tk (pa_c (pe_lcM o (own := [("stone", 5), ("weight", 6)]) (pi_zpM o (pa_c (pe_v 2) (pa_c (pe_v 3) pa_n)) E.bi.zip) (blkOk_by rfl) (by decide) (fun s H C cl fp o => (pg_t o (pgs_c (pg_n 5 o) (pgs_c (pg_n 6 o) pgs_n)))) (fun s H C cl fp o => pts_n) (fun s H C cl fp o => (pe_tupM (pa_c (pe_ix' o (pe_v 5) pe_ci) (pa_c (pe_v 6) pa_n))))) pa_n))) (ss_one (s_ret (pe_tupM (pa_c (pe_v 4) (pa_c (pe_fn h_middle_of o tk (pa_c (pe_lcM o (own := [("stone", 5), ("weight", 6)]) (pi_zpM o (pa_c (pe_v 2) (pa_c (pe_v 3) pa_n)) E.bi.zip) (blkOk_by rfl) (by decide) (fun s H C cl fp o => (pg_t o (pgs_c (pg_n 5 o) (pgs_c (pg_n 6 o) pgs_n)))) (fun s H C cl fp o => pts_n) (fun s H C cl fp o => (pe_tupM (pa_c (pe_ix' o (pe_v 5) pe_ci) (pa_c (pe_v 6) pa_n))))) pa_n)) pa_n))))))))
/-! meeting_sum -/
abbrev N15 : List Str := ["stones", "weights", "point", "known", "row", "goal", "stone", "weight"]
def m15 : M Fl := (evSeq (evAsg 3 (evCall F12 (evN 1 (evCons (evVar 0) evNil)))) (evSeq (evAsg 4 (evCall F14 (evN 2 (evCons (evVar 3) (evCons (evVar 1) evNil))))) (evSeq (evAsg 5 (evCall F11 (evN 2 (evCons (evC (.str "point")) (evCons (evVar 2) evNil))))) (evRet (evB sumD (evCons (evComp [6, 7] (evZp (evCons (evVar 3) (evCons (evVar 4) evNil))) (tgTup 2 (tgCons (tgN 6) (tgCons (tgN 7) tgNil))) (M.ret true) (evBin mulD (evVar 7) (evCall F13 (evN 2 (evCons (evVar 6) (evCons (evVar 5) evNil)))))) evNil))))))
def F15 : List D → Option DRes := runD 8 m15
theorem b15 {P : Program} {w : World} {K : PySem.W.Frag} {mg : Str → Option Value} {base : Heap} {f : Addr} (E : Ev K mg) (h_steps_by : Dn P w K mg base "steps_by" 1 2 F13) (h_need_point : Dn P w K mg base "need_point" 4 2 F11) (h_need_weights : Dn P w K mg base "need_weights" 3 2 F14) (h_need_posts : Dn P w K mg base "need_posts" 3 1 F12) : BodyIs P w K mg base N15 "meeting_sum" (defScope s15) f 4 (defBody s15) m15 := by
  rintro X W b ⟨cdv, A, outer, s, H, E', rfl⟩ eK em o tk hp
  exact (ss_cons (s_set 3 o (pe_fn h_need_posts o tk (pa_c (pe_v 0) pa_n))) (ss_cons (s_set 4 o (pe_fn h_need_weights o tk (pa_c (pe_v 3) (pa_c (pe_v 1) pa_n)))) (ss_cons (s_set 5 o (pe_fn h_need_point o tk (pa_c pe_cs (pa_c (pe_v 2) pa_n)))) (ss_one (s_ret (pe_sum o E.bi (pa_c (pe_lcM o (own := [("stone", 6), ("weight", 7)]) (pi_zpM o (pa_c (pe_v 3) (pa_c (pe_v 4) pa_n)) E.bi.zip) (blkOk_by rfl) (by decide) (fun s H C cl fp o => (pg_t o (pgs_c (pg_n 6 o) (pgs_c (pg_n 7 o) pgs_n)))) (fun s H C cl fp o => pts_n) (fun s H C cl fp o => (pe_mul' o (pe_v 7) (pe_fn h_steps_by o takes0 (pa_c (pe_v 6) (pa_c (pe_v 5) pa_n)))))) pa_n)))))))
/-! _law_is -/
abbrev N21 : List Str := ["told", "due", "at"]
def m21 (F' : List D → Option DRes) : M Fl := (evSeq (evIf (evTru (evUn (isiD csL .tup) (evVar 1))) (evSeq (evIf (evOrT (evNotT (evTru (evUn (isiD csL .tup) (evVar 0)))) (evBl (evBin neD (evB lenD (evCons (evVar 0) evNil)) (evB lenD (evCons (evVar 1) evNil))))) (evRet (evC (.bl false))) evSkip) (evRet (evBin eqD (evComp [2] (evRng rngR1 (evCons (evB lenD (evCons (evVar 1) evNil)) evNil)) (tgN 2) (evNotT (evTru (evCall F' (evN 2 (evCons (evBin ixD (evVar 0) (evVar 2)) (evCons (evBin ixD (evVar 1) (evVar 2)) evNil)))))) (evVar 2)) (evLst evNil)))) evSkip) (evSeq (evIf (evBl (evBin isD (evVar 1) (evC .non))) (evRet (evBin isD (evVar 0) (evC .non))) evSkip) (evSeq (evIf (evBl (evBin isD (evVar 1) (evC (.bl true)))) (evRet (evBin isD (evVar 0) (evC (.bl true)))) evSkip) (evSeq (evIf (evBl (evBin isD (evVar 1) (evC (.bl false)))) (evRet (evBin isD (evVar 0) (evC (.bl false)))) evSkip) (evSeq (evIf (evTru (evUn (isiD csL .str) (evVar 1))) (evRet (evAnd (evUn (isiD csL .str) (evVar 0)) (evBin eqD (evVar 0) (evVar 1)))) evSkip) (evRet (evAnd (evUn (isiD csL .int) (evVar 0)) (evAnd (evNot (evUn (isiD csL .bl) (evVar 0))) (evBin eqD (evVar 0) (evVar 1))))))))))
def F21 : Nat → List D → Option DRes
  | 0 => fun _ => none
  | n + 1 => runD 3 (m21 (F21 n))
theorem b21 {P : Program} {w : World} {K : PySem.W.Frag} {mg : Str → Option Value} {base : Heap} {f : Addr} {k : Nat} {F' : List D → Option DRes} (E : Ev K mg) (h__law_is : Dn P w K mg base "_law_is" k 2 F') : BodyIs P w K mg base N21 "_law_is" (defScope s21) f k (defBody s21) (m21 F') := by
  rintro X W b ⟨cdv, A, outer, s, H, E', rfl⟩ eK em o tk hp
  exact (ss_cons (s_if (pt_tru o (pe_isi o E.kt (pe_v 1) (clx_tup E.bi.tuple) E.bi.isinstance)) (ss_cons (s_if (PW.pt (pw_orM (pt_notM (pt_tru o (pe_isi o E.kt (pe_v 0) (clx_tup E.bi.tuple) E.bi.isinstance))) (pw_or1M (pt_c (cm_ne o) (pe_len o E.bi (pa_c (pe_v 0) pa_n)) (pe_len o E.bi (pa_c (pe_v 1) pa_n)))))) (ss_one (s_ret pe_cb)) ss_nil) (ss_one (s_ret (pe_c (cm_eq o) (pe_lcM o (own := [("at", 2)]) (pi_rng1 rfl E.bi.range (pa_c (pe_len o E.bi (pa_c (pe_v 1) pa_n)) pa_n)) (blkOk_by rfl) (by decide) (fun s H C cl fp o => (pg_n 2 o)) (fun s H C cl fp o => (pts_1 (pt_notM (pt_tru o (pe_fn h__law_is o takes0 (hk := Nat.le_refl _) (pa_c (pe_ix' o (pe_v 0) (pe_v 2)) (pa_c (pe_ix' o (pe_v 1) (pe_v 2)) pa_n))))))) (fun s H C cl fp o => (pe_v 2))) (pe_lstM pa_n))))) ss_nil) (ss_cons (s_if (pt_c (cm_is o) (pe_v 1) pe_cn) (ss_one (s_ret (pe_c (cm_is o) (pe_v 0) pe_cn))) ss_nil) (ss_cons (s_if (pt_c (cm_is o) (pe_v 1) pe_cb) (ss_one (s_ret (pe_c (cm_is o) (pe_v 0) pe_cb))) ss_nil) (ss_cons (s_if (pt_c (cm_is o) (pe_v 1) pe_cb) (ss_one (s_ret (pe_c (cm_is o) (pe_v 0) pe_cb))) ss_nil) (ss_cons (s_if (pt_tru o (pe_isi o E.kt (pe_v 1) (clx_str E.bi.str) E.bi.isinstance)) (ss_one (s_ret (pe_andM o (pe_isi o E.kt (pe_v 0) (clx_str E.bi.str) E.bi.isinstance) (pe_one1 (pe_c (cm_eq o) (pe_v 0) (pe_v 1)))))) ss_nil) (ss_one (s_ret (pe_andM o (pe_isi o E.kt (pe_v 0) (clx_int E.bi.int) E.bi.isinstance) (pe_andM o (pe_notM o (pe_isi o E.kt (pe_v 0) (clx_bl E.bi.bool) E.bi.isinstance)) (pe_one1 (pe_c (cm_eq o) (pe_v 0) (pe_v 1))))))))))))
/-! the lambdas -/
def lq : Str := lamQ "law" (defScope s31)
def le0 : Expr := (eCh (eCh (sEx (stN (sBlk (stN (defBody s31) 1) 0) 15)) 1) 0)
def lt0 : LT := ⟨0, lamA le0, lamB le0, lamSc le0, ["stones", "bad"], [3, 18], lq⟩
theorem ndo0 : NdefX.ndefB (defScope s31) lt0.scope lt0.fr = true := by decide +kernel
theorem nds0 : LamX.lamSB (defScope s31) lt0.scope = true := by decide +kernel
abbrev Nl0 : List Str := ["stones", "bad"]
def ml0 : M R := (evCall F17 (evN 2 (evCons (evVar 0) (evCons (evVar 1) evNil))))
def A0 : List D → Option DRes := runA 2 ml0
theorem bl0 {P : Program} {w : World} {K : PySem.W.Frag} {mg : Str → Option Value} {base : Heap} (E : Ev K mg) (h_meeting_box : Dn P w K mg base "meeting_box" 4 2 F17) : ActIs P w K mg base Nl0 lt0 4 ml0 := by
  rintro X W b ⟨f, c, cl, A, outer, s, H, E', rfl⟩ eK em o tk
  exact (pe_fn h_meeting_box o tk (pa_c (pe_v 0) (pa_c (pe_v 1) pa_n)))
def le1 : Expr := (eCh (eCh (sEx (stN (sBlk (stN (defBody s31) 1) 0) 14)) 1) 0)
def lt1 : LT := ⟨1, lamA le1, lamB le1, lamSc le1, ["odd", "bad"], [17, 18], lq⟩
theorem ndo1 : NdefX.ndefB (defScope s31) lt1.scope lt1.fr = true := by decide +kernel
theorem nds1 : LamX.lamSB (defScope s31) lt1.scope = true := by decide +kernel
abbrev Nl1 : List Str := ["odd", "bad"]
def ml1 : M R := (evCall F17 (evN 2 (evCons (evVar 0) (evCons (evVar 1) evNil))))
def A1 : List D → Option DRes := runA 2 ml1
theorem bl1 {P : Program} {w : World} {K : PySem.W.Frag} {mg : Str → Option Value} {base : Heap} (E : Ev K mg) (h_meeting_box : Dn P w K mg base "meeting_box" 4 2 F17) : ActIs P w K mg base Nl1 lt1 4 ml1 := by
  rintro X W b ⟨f, c, cl, A, outer, s, H, E', rfl⟩ eK em o tk
  exact (pe_fn h_meeting_box o tk (pa_c (pe_v 0) (pa_c (pe_v 1) pa_n)))
def le2 : Expr := (eCh (eCh (sEx (stN (sBlk (stN (defBody s31) 1) 0) 13)) 1) 0)
def lt2 : LT := ⟨2, lamA le2, lamB le2, lamSc le2, ["stones", "weights", "none"], [3, 4, 19], lq⟩
theorem ndo2 : NdefX.ndefB (defScope s31) lt2.scope lt2.fr = true := by decide +kernel
theorem nds2 : LamX.lamSB (defScope s31) lt2.scope = true := by decide +kernel
abbrev Nl2 : List Str := ["stones", "weights", "none"]
def ml2 : M R := (evCall F15 (evN 3 (evCons (evVar 0) (evCons (evVar 1) (evCons (evVar 2) evNil)))))
def A2 : List D → Option DRes := runA 3 ml2
theorem bl2 {P : Program} {w : World} {K : PySem.W.Frag} {mg : Str → Option Value} {base : Heap} (E : Ev K mg) (h_meeting_sum : Dn P w K mg base "meeting_sum" 5 3 F15) : ActIs P w K mg base Nl2 lt2 5 ml2 := by
  rintro X W b ⟨f, c, cl, A, outer, s, H, E', rfl⟩ eK em o tk
  exact (pe_fn h_meeting_sum o tk (pa_c (pe_v 0) (pa_c (pe_v 1) (pa_c (pe_v 2) pa_n))))
def le3 : Expr := (eCh (eCh (sEx (stN (sBlk (stN (defBody s31) 1) 0) 12)) 1) 0)
def lt3 : LT := ⟨3, lamA le3, lamB le3, lamSc le3, ["stones", "bad", "none"], [3, 18, 19], lq⟩
theorem ndo3 : NdefX.ndefB (defScope s31) lt3.scope lt3.fr = true := by decide +kernel
theorem nds3 : LamX.lamSB (defScope s31) lt3.scope = true := by decide +kernel
abbrev Nl3 : List Str := ["stones", "bad", "none"]
def ml3 : M R := (evCall F15 (evN 3 (evCons (evVar 0) (evCons (evVar 1) (evCons (evVar 2) evNil)))))
def A3 : List D → Option DRes := runA 3 ml3
theorem bl3 {P : Program} {w : World} {K : PySem.W.Frag} {mg : Str → Option Value} {base : Heap} (E : Ev K mg) (h_meeting_sum : Dn P w K mg base "meeting_sum" 5 3 F15) : ActIs P w K mg base Nl3 lt3 5 ml3 := by
  rintro X W b ⟨f, c, cl, A, outer, s, H, E', rfl⟩ eK em o tk
  exact (pe_fn h_meeting_sum o tk (pa_c (pe_v 0) (pa_c (pe_v 1) (pa_c (pe_v 2) pa_n))))
def le4 : Expr := (eCh (eCh (sEx (stN (sBlk (stN (defBody s31) 1) 0) 11)) 1) 0)
def lt4 : LT := ⟨4, lamA le4, lamB le4, lamSc le4, ["odd", "bad", "none"], [17, 18, 19], lq⟩
theorem ndo4 : NdefX.ndefB (defScope s31) lt4.scope lt4.fr = true := by decide +kernel
theorem nds4 : LamX.lamSB (defScope s31) lt4.scope = true := by decide +kernel
abbrev Nl4 : List Str := ["odd", "bad", "none"]
def ml4 : M R := (evCall F15 (evN 3 (evCons (evVar 0) (evCons (evVar 1) (evCons (evVar 2) evNil)))))
def A4 : List D → Option DRes := runA 3 ml4
theorem bl4 {P : Program} {w : World} {K : PySem.W.Frag} {mg : Str → Option Value} {base : Heap} (E : Ev K mg) (h_meeting_sum : Dn P w K mg base "meeting_sum" 5 3 F15) : ActIs P w K mg base Nl4 lt4 5 ml4 := by
  rintro X W b ⟨f, c, cl, A, outer, s, H, E', rfl⟩ eK em o tk
  exact (pe_fn h_meeting_sum o tk (pa_c (pe_v 0) (pa_c (pe_v 1) (pa_c (pe_v 2) pa_n))))
def TA : ATab := [(lt0, A0), (lt1, A1), (lt2, A2), (lt3, A3), (lt4, A4)]
theorem ndl : True ∧ True := ⟨trivial, trivial⟩
/-! _law_error -/
abbrev N25 : List Str := ["call", "found", "error"]
def m25 : M Fl := (evSeq (evAsg 1 (evTup (evCons (evC (.str "none")) evNil))) (evSeq (evTry (evDrop (evAct 0 TA)) 2 [⟨"BadName", ["BadName"], ["BadNumber", "BadRow", "NoStone", "NoName", "TakenName", "Unlike", "TooMany"], mErr "BadName" [.s "name", .r "name"] 1⟩, ⟨"BadNumber", ["BadNumber"], ["BadName", "BadRow", "NoStone", "NoName", "TakenName", "Unlike", "TooMany"], mErr "BadNumber" [.s "number", .f "what", .r "number"] 1⟩, ⟨"BadRow", ["BadRow"], ["BadName", "BadNumber", "NoStone", "NoName", "TakenName", "Unlike", "TooMany"], mErr "BadRow" [.s "row", .f "what", .r "row"] 1⟩, ⟨"NoName", ["NoName"], ["BadName", "BadNumber", "BadRow", "NoStone", "TakenName", "Unlike", "TooMany"], mErr "NoName" [.s "noname", .r "name"] 1⟩, ⟨"NoStone", ["NoStone"], ["BadName", "BadNumber", "BadRow", "NoName", "TakenName", "Unlike", "TooMany"], mErr "NoStone" [.s "nostone", .r "name"] 1⟩, ⟨"TakenName", ["TakenName"], ["BadName", "BadNumber", "BadRow", "NoStone", "NoName", "Unlike", "TooMany"], mErr "TakenName" [.s "taken", .r "name"] 1⟩, ⟨"TooMany", ["TooMany"], ["BadName", "BadNumber", "BadRow", "NoStone", "NoName", "TakenName", "Unlike"], mErr "TooMany" [.s "many", .f "what", .f "many", .r "limit"] 1⟩, ⟨"Unlike", ["Unlike"], ["BadName", "BadNumber", "BadRow", "NoStone", "NoName", "TakenName", "TooMany"], mErr "Unlike" [.s "unlike", .r "what"] 1⟩]) (evRet (evVar 1))))
def F25 : List D → Option DRes := runD 3 m25
theorem b25 {P : Program} {w : World} {K : PySem.W.Frag} {mg : Str → Option Value} {base : Heap} {f : Addr} (E : Ev K mg) (at_ : ATok P w K mg base 6 TA) : BodyIsG P w K mg base N25 "_law_error" (defScope s25) f 6 (defBody s25) m25 := by
  rintro X W b ⟨cdv, A, outer, s, H, E', rfl, gd⟩ eK em o tk hp
  exact (ss_cons (s_set 1 o (pe_tupM (pa_c pe_cs pa_n))) (ss_cons (s_tryA o (fun W pn xe o tk hp => (ss_one (s_expr (pe_act 0 at_ o tk)))) (Hdz.cons (q := ⟨"BadName", ["BadName"], ["BadNumber", "BadRow", "NoStone", "NoName", "TakenName", "Unlike", "TooMany"], mErr "BadName" [.s "name", .r "name"] 1⟩) (cl_own E.xf (by decide) (by decide)).choose_spec rfl (by decide) (fun a oe cls d pn hz hd => ss_err (j := 1) o (el_c el_s (el_c (el_r (fns := ["name"]) E.xf o gd E.v_repr (by decide) (by decide) hz hd) el_n))) (Hdz.cons (q := ⟨"BadNumber", ["BadNumber"], ["BadName", "BadRow", "NoStone", "NoName", "TakenName", "Unlike", "TooMany"], mErr "BadNumber" [.s "number", .f "what", .r "number"] 1⟩) (cl_own E.xf (by decide) (by decide)).choose_spec rfl (by decide) (fun a oe cls d pn hz hd => ss_err (j := 1) o (el_c el_s (el_c (el_f (fns := ["what", "number"]) E.xf o (by decide) (by decide) hz hd) (el_c (el_r (fns := ["what", "number"]) E.xf o gd E.v_repr (by decide) (by decide) hz hd) el_n)))) (Hdz.cons (q := ⟨"BadRow", ["BadRow"], ["BadName", "BadNumber", "NoStone", "NoName", "TakenName", "Unlike", "TooMany"], mErr "BadRow" [.s "row", .f "what", .r "row"] 1⟩) (cl_own E.xf (by decide) (by decide)).choose_spec rfl (by decide) (fun a oe cls d pn hz hd => ss_err (j := 1) o (el_c el_s (el_c (el_f (fns := ["what", "row"]) E.xf o (by decide) (by decide) hz hd) (el_c (el_r (fns := ["what", "row"]) E.xf o gd E.v_repr (by decide) (by decide) hz hd) el_n)))) (Hdz.cons (q := ⟨"NoName", ["NoName"], ["BadName", "BadNumber", "BadRow", "NoStone", "TakenName", "Unlike", "TooMany"], mErr "NoName" [.s "noname", .r "name"] 1⟩) (cl_own E.xf (by decide) (by decide)).choose_spec rfl (by decide) (fun a oe cls d pn hz hd => ss_err (j := 1) o (el_c el_s (el_c (el_r (fns := ["name"]) E.xf o gd E.v_repr (by decide) (by decide) hz hd) el_n))) (Hdz.cons (q := ⟨"NoStone", ["NoStone"], ["BadName", "BadNumber", "BadRow", "NoName", "TakenName", "Unlike", "TooMany"], mErr "NoStone" [.s "nostone", .r "name"] 1⟩) (cl_own E.xf (by decide) (by decide)).choose_spec rfl (by decide) (fun a oe cls d pn hz hd => ss_err (j := 1) o (el_c el_s (el_c (el_r (fns := ["name"]) E.xf o gd E.v_repr (by decide) (by decide) hz hd) el_n))) (Hdz.cons (q := ⟨"TakenName", ["TakenName"], ["BadName", "BadNumber", "BadRow", "NoStone", "NoName", "Unlike", "TooMany"], mErr "TakenName" [.s "taken", .r "name"] 1⟩) (cl_own E.xf (by decide) (by decide)).choose_spec rfl (by decide) (fun a oe cls d pn hz hd => ss_err (j := 1) o (el_c el_s (el_c (el_r (fns := ["name"]) E.xf o gd E.v_repr (by decide) (by decide) hz hd) el_n))) (Hdz.cons (q := ⟨"TooMany", ["TooMany"], ["BadName", "BadNumber", "BadRow", "NoStone", "NoName", "TakenName", "Unlike"], mErr "TooMany" [.s "many", .f "what", .f "many", .r "limit"] 1⟩) (cl_own E.xf (by decide) (by decide)).choose_spec rfl (by decide) (fun a oe cls d pn hz hd => ss_err (j := 1) o (el_c el_s (el_c (el_f (fns := ["what", "many", "limit"]) E.xf o (by decide) (by decide) hz hd) (el_c (el_f (fns := ["what", "many", "limit"]) E.xf o (by decide) (by decide) hz hd) (el_c (el_r (fns := ["what", "many", "limit"]) E.xf o gd E.v_repr (by decide) (by decide) hz hd) el_n))))) (Hdz.cons (q := ⟨"Unlike", ["Unlike"], ["BadName", "BadNumber", "BadRow", "NoStone", "NoName", "TakenName", "TooMany"], mErr "Unlike" [.s "unlike", .r "what"] 1⟩) (cl_own E.xf (by decide) (by decide)).choose_spec rfl (by decide) (fun a oe cls d pn hz hd => ss_err (j := 1) o (el_c el_s (el_c (el_r (fns := ["what"]) E.xf o gd E.v_repr (by decide) (by decide) hz hd) el_n))) Hdz.nil))))))))) (ss_one (s_ret (pe_v 1)))))
/-! _law_raise_so -/
abbrev N26 : List Str := ["calls", "call", "due"]
def m26 : M Fl := (evSeq (evFor (evSq (evVar 0)) (tgTup 2 (tgCons (tgN 1) (tgCons (tgN 2) tgNil))) (evIf (evBl (evBin neD (evCall F25 (evN 1 (evCons (evVar 1) evNil))) (evBin addD (evSlice (evVar 2) (M.ret none) (evPart (evUn negD (evC (.int 1))))) (evTup (evCons (evB reprD (evCons (evBin ixD (evVar 2) (evUn negD (evC (.int 1)))) evNil)) evNil))))) (evRet (evC (.bl false))) evSkip)) (evRet (evC (.bl true))))
def F26 : List D → Option DRes := runD 3 m26
theorem b26 {P : Program} {w : World} {K : PySem.W.Frag} {mg : Str → Option Value} {base : Heap} {f : Addr} (E : Ev K mg) (h__law_error : DnG P w K mg base "_law_error" 7 1 F25) : BodyIsG P w K mg base N26 "_law_raise_so" (defScope s26) f 7 (defBody s26) m26 := by
  rintro X W b ⟨cdv, A, outer, s, H, E', rfl, gd⟩ eK em o tk hp
  exact (ss_cons (s_for o hp (pi_sqM o (pe_v 0)) (pg_t o (pgs_c (pg_n 1 o) (pgs_c (pg_n 2 o) pgs_n))) (ss_one (s_if (pt_c (cm_ne o) (pe_fnG h__law_error o tk gd (pa_c (pe_v 1) pa_n)) (pe_add' o (pe_sl' o (pe_v 2) po_n (po_s (pe_neg' pe_ci))) (pe_tupM (pa_c (pe_repr o gd E.v_repr (pa_c (pe_ix' o (pe_v 2) (pe_neg' pe_ci)) pa_n)) pa_n)))) (ss_one (s_ret pe_cb)) ss_nil))) (ss_one (s_ret pe_cb)))
def Teq : OTab := []
def Tne : OTab := []
/-! law -/
abbrev N31 : List Str := ["script", "pen", "lap", "stones", "weights", "point", "given", "row", "told", "west", "east", "south", "north", "best", "x", "y", "own", "odd", "bad", "none", "calls", "stone", "pair"]
def m31 (cl : List (Str × Addr)) : M Fl := (evSeq (evFor (evRng rngR1 (evCons (evC (.int 3)) evNil)) (tgN 2) (evSeq (evAsg 3 (evCallN F27 (evN 3 (evCons (evVar 1) (evCons (evC (.int 7)) (evCons (evCallN F20 (evN 2 (evCons (evVar 1) (evCons (evLst (evCons (evC (.int 2)) (evCons (evC (.int 4)) evNil))) evNil)))) evNil)))))) (evSeq (evAsgT (tgTup 2 (tgCons (tgN 4) (tgCons (tgN 5) tgNil))) (evTup (evCons (evB tupD (evCons (evComp [21] (evSq (evVar 3)) (tgN 21) (M.ret true) (evBin addD (evC (.int 1)) (evCallN F19 (evN 2 (evCons (evVar 1) (evCons (evC (.int 5)) evNil)))))) evNil)) (evCons (evCallN F23 (evN 2 (evCons (evVar 1) (evCons (evC (.int 9)) evNil)))) evNil)))) (evSeq (evPar2 6 7 (evCallN F20 (evN 2 (evCons (evVar 1) (evCons (evLst (evCons (evVar 3) (evCons (evB listD (evCons (evVar 3) evNil)) evNil))) evNil)))) (evCallN F20 (evN 2 (evCons (evVar 1) (evCons (evLst (evCons (evVar 4) (evCons (evB listD (evCons (evVar 4) evNil)) evNil))) evNil))))) (evSeq (evIf (evNotT (evTru (evCall (F21 6) (evN 2 (evCons (evCall F15 (evN 3 (evCons (evVar 6) (evCons (evVar 7) (evCons (evCallN F20 (evN 2 (evCons (evVar 1) (evCons (evLst (evCons (evVar 5) (evCons (evB listD (evCons (evVar 5) evNil)) evNil))) evNil)))) evNil))))) (evCons (evCall F30 (evN 3 (evCons (evVar 3) (evCons (evVar 4) (evCons (evVar 5) evNil))))) evNil)))))) (evRet (evC (.bl false))) evSkip) (evSeq (evAsg 8 (evCall F17 (evN 2 (evCons (evVar 6) (evCons (evVar 7) evNil))))) (evSeq (evIf (evOrT (evNotT (evTru (evUn (isiD csL .tup) (evVar 8)))) (evOrT (evBl (evBin neD (evB lenD (evCons (evVar 8) evNil)) (evC (.int 2)))) (evBl (evOwn Tne csL neD (evComp [22] (evSq (evVar 8)) (tgN 22) (evNotT (evTru (evCall F29 (evN 1 (evCons (evVar 22) evNil))))) (evVar 22)) (evLst evNil))))) (evRet (evC (.bl false))) evSkip) (evSeq (evAsgT (tgTup 2 (tgCons (tgTup 2 (tgCons (tgN 9) (tgCons (tgN 10) tgNil))) (tgCons (tgTup 2 (tgCons (tgN 11) (tgCons (tgN 12) tgNil))) tgNil))) (evVar 8)) (evSeq (evAsg 13 (evCall F30 (evN 3 (evCons (evVar 3) (evCons (evVar 4) (evCons (evTup (evCons (evVar 9) (evCons (evVar 11) evNil))) evNil)))))) (evSeq (evFor (evRng rngR2 (evCons (evBin (intD gSub) (evB (best1D false) (evCons (evComp [21] (evSq (evVar 3)) (tgN 21) (M.ret true) (evBin ixD (evVar 21) (evC (.int 0)))) evNil)) (evC (.int 1))) (evCons (evBin addD (evB (best1D true) (evCons (evComp [21] (evSq (evVar 3)) (tgN 21) (M.ret true) (evBin ixD (evVar 21) (evC (.int 0)))) evNil)) (evC (.int 2))) evNil))) (tgN 14) (evFor (evRng rngR2 (evCons (evBin (intD gSub) (evB (best1D false) (evCons (evComp [21] (evSq (evVar 3)) (tgN 21) (M.ret true) (evBin ixD (evVar 21) (evC (.int 1)))) evNil)) (evC (.int 1))) (evCons (evBin addD (evB (best1D true) (evCons (evComp [21] (evSq (evVar 3)) (tgN 21) (M.ret true) (evBin ixD (evVar 21) (evC (.int 1)))) evNil)) (evC (.int 2))) evNil))) (tgN 15) (evSeq (evAsg 16 (evCall F30 (evN 3 (evCons (evVar 3) (evCons (evVar 4) (evCons (evTup (evCons (evVar 14) (evCons (evVar 15) evNil))) evNil)))))) (evIf (evOrT (evBl (evBin ltD (evVar 16) (evVar 13))) (evBl (evOwn Tne csL neD (evOwn Teq csL eqD (evVar 16) (evVar 13)) (evAnd (evChain leD leD (evVar 9) (evVar 14) (evVar 10)) (evChain leD leD (evVar 11) (evVar 15) (evVar 12)))))) (evRet (evC (.bl false))) evSkip)))) (evSeq (evAsgT (tgTup 2 (tgCons (tgN 17) (tgCons (tgN 18) tgNil))) (evTup (evCons (evCallN F20 (evN 2 (evCons (evVar 1) (evCons (evLst (evCons (evC .non) (evCons (evC (.int 5)) (evCons (evTup evNil) (evCons (evBin addD (evVar 3) (evSlice (evVar 3) (M.ret none) (evPart (evC (.int 1))))) (evCons (evTup (evCons (evTup (evCons (evC (.int 0)) evNil)) evNil)) evNil)))))) evNil)))) (evCons (evCallN F20 (evN 2 (evCons (evVar 1) (evCons (evLst (evCons (evC .non) (evCons (evC (.int 5)) (evCons (evSlice (evVar 4) (evPart (evC (.int 1))) (M.ret none)) (evCons (evBin addD (evVar 4) (evTup (evCons (evC (.int 1)) evNil))) (evCons (evBin mulD (evTup (evCons (evC (.int 0)) evNil)) (evB lenD (evCons (evVar 4) evNil))) (evCons (evBin mulD (evTup (evCons (evC (.bl true)) evNil)) (evB lenD (evCons (evVar 4) evNil))) (evCons (evC (.str "ab")) evNil)))))))) evNil)))) evNil)))) (evSeq (evPar2 19 20 (evCallN F24 (evN 1 (evCons (evVar 1) evNil))) (evLst evNil)) (evSeq (evDrop (evLM 20 apM (evCons (evTup (evCons (evLam lt4 cl) (evCons (evTup (evCons (evC (.str "row")) (evCons (evC (.str "stones")) (evCons (evVar 17) evNil)))) evNil))) evNil))) (evSeq (evDrop (evLM 20 apM (evCons (evTup (evCons (evLam lt3 cl) (evCons (evTup (evCons (evC (.str "row")) (evCons (evC (.str "weights")) (evCons (evVar 18) evNil)))) evNil))) evNil))) (evSeq (evDrop (evLM 20 apM (evCons (evTup (evCons (evLam lt2 cl) (evCons (evTup (evCons (evC (.str "row")) (evCons (evC (.str "point")) (evCons (evVar 19) evNil)))) evNil))) evNil))) (evSeq (evDrop (evLM 20 apM (evCons (evTup (evCons (evLam lt1 cl) (evCons (evTup (evCons (evC (.str "row")) (evCons (evC (.str "stones")) (evCons (evVar 17) evNil)))) evNil))) evNil))) (evSeq (evDrop (evLM 20 apM (evCons (evTup (evCons (evLam lt0 cl) (evCons (evTup (evCons (evC (.str "row")) (evCons (evC (.str "weights")) (evCons (evVar 18) evNil)))) evNil))) evNil))) (evIf (evNotT (evTru (evCallA TA cl F26 (evN 1 (evCons (evVar 20) evNil))))) (evRet (evC (.bl false))) evSkip)))))))))))))))))) (evRet (evC (.bl true))))
theorem b31 {P : Program} {w : World} {K : PySem.W.Frag} {mg : Str → Option Value} {base : Heap} {f : Addr} {c Pt : Addr} (TB : LamX.TabB base mg c Pt) (E : Ev K mg) (h__law_raise_so : DnG P w K mg base "_law_raise_so" 8 1 F26) (h__law_odd_point : DnN P w K mg base "_law_odd_point" 3 0 F24) (h__law_pick : DnN P w K mg base "_law_pick" 2 1 F20) (h__law_sum_at : Dn P w K mg base "_law_sum_at" 2 3 F30) (h__law_is_pair : Dn P w K mg base "_law_is_pair" 2 1 F29) (h_meeting_box : Dn P w K mg base "meeting_box" 4 2 F17) (h_meeting_sum : Dn P w K mg base "meeting_sum" 5 3 F15) (h__law_is : Dn P w K mg base "_law_is" 7 2 (F21 6)) (h__law_draw : DnN P w K mg base "_law_draw" 1 1 F19) (h__law_drawn_point : DnN P w K mg base "_law_drawn_point" 2 1 F23) (h__law_stones : DnN P w K mg base "_law_stones" 3 2 F27) (oeq : OpT P w K mg base "__eq__" 0 Teq) (one : OpT P w K mg base "__ne__" 0 Tne) : BodyIsT P w K mg base N31 "law" (defScope s31) f c Pt lq 8 ((defBody s31).tail) m31 := by
  rintro X W b ⟨A, outer, s, H, E', rfl, gd⟩ eK em htb o tk hp
  have ltsok : LtsOk (bodyX P w K mg base N31 "law" (defScope s31) f (.ref c) A outer s H E') TA := ltsOk_cons (ltOk_by ndo0 rfl) (ltsOk_cons (ltOk_by ndo1 rfl) (ltsOk_cons (ltOk_by ndo2 rfl) (ltsOk_cons (ltOk_by ndo3 rfl) (ltsOk_cons (ltOk_by ndo4 rfl) (ltsOk_nil)))))
  exact (ss_cons (s_for o hp (pi_rng1 rfl E.bi.range (pa_c pe_ci pa_n)) (pg_n 2 o) (ss_cons (s_set 3 o (pe_fnN h__law_stones o tk (pa_c (pe_v 1) (pa_c pe_ci (pa_c (pe_fnN h__law_pick o tk (pa_c (pe_v 1) (pa_c (pe_lstM (pa_c pe_ci (pa_c pe_ci pa_n))) pa_n))) pa_n))))) (ss_cons (s_asgT (pe_tupM (pa_c (pe_tuple o E.bi (pa_c (pe_lcM o (own := [("stone", 21)]) (pi_sqM o (pe_v 3)) (blkOk_by rfl) (by decide) (fun s H C cl fp o => (pg_n 21 o)) (fun s H C cl fp o => pts_n) (fun s H C cl fp o => (pe_add' o pe_ci (pe_fnN h__law_draw o takes0 (pa_c (pe_v 1) (pa_c pe_ci pa_n)))))) pa_n)) (pa_c (pe_fnN h__law_drawn_point o tk (pa_c (pe_v 1) (pa_c pe_ci pa_n))) pa_n))) (pg_t o (pgs_c (pg_n 4 o) (pgs_c (pg_n 5 o) pgs_n)))) (ss_cons (s_par2 6 7 o (pe_fnN h__law_pick o tk (pa_c (pe_v 1) (pa_c (pe_lstM (pa_c (pe_v 3) (pa_c (pe_list o E.bi (pa_c (pe_v 3) pa_n)) pa_n))) pa_n))) (pe_fnN h__law_pick o tk (pa_c (pe_v 1) (pa_c (pe_lstM (pa_c (pe_v 4) (pa_c (pe_list o E.bi (pa_c (pe_v 4) pa_n)) pa_n))) pa_n)))) (ss_cons (s_if (pt_notM (pt_tru o (pe_fn h__law_is o tk (pa_c (pe_fn h_meeting_sum o tk (pa_c (pe_v 6) (pa_c (pe_v 7) (pa_c (pe_fnN h__law_pick o tk (pa_c (pe_v 1) (pa_c (pe_lstM (pa_c (pe_v 5) (pa_c (pe_list o E.bi (pa_c (pe_v 5) pa_n)) pa_n))) pa_n))) pa_n)))) (pa_c (pe_fn h__law_sum_at o tk (pa_c (pe_v 3) (pa_c (pe_v 4) (pa_c (pe_v 5) pa_n)))) pa_n))))) (ss_one (s_ret pe_cb)) ss_nil) (ss_cons (s_set 8 o (pe_fn h_meeting_box o tk (pa_c (pe_v 6) (pa_c (pe_v 7) pa_n)))) (ss_cons (s_if (PW.pt (pw_orM (pt_notM (pt_tru o (pe_isi o E.kt (pe_v 8) (clx_tup E.bi.tuple) E.bi.isinstance))) (pw_orM (pt_c (cm_ne o) (pe_len o E.bi (pa_c (pe_v 8) pa_n)) pe_ci) (pw_or1M (pt_neO o E.kt one (pe_lcM o (own := [("pair", 22)]) (pi_sqM o (pe_v 8)) (blkOk_by rfl) (by decide) (fun s H C cl fp o => (pg_n 22 o)) (fun s H C cl fp o => (pts_1 (pt_notM (pt_tru o (pe_fn h__law_is_pair o takes0 (pa_c (pe_v 22) pa_n)))))) (fun s H C cl fp o => (pe_v 22))) (pe_lstM pa_n)))))) (ss_one (s_ret pe_cb)) ss_nil) (ss_cons (s_asgT (pe_v 8) (pg_t o (pgs_c (pg_t o (pgs_c (pg_n 9 o) (pgs_c (pg_n 10 o) pgs_n))) (pgs_c (pg_t o (pgs_c (pg_n 11 o) (pgs_c (pg_n 12 o) pgs_n))) pgs_n)))) (ss_cons (s_set 13 o (pe_fn h__law_sum_at o tk (pa_c (pe_v 3) (pa_c (pe_v 4) (pa_c (pe_tupM (pa_c (pe_v 9) (pa_c (pe_v 11) pa_n))) pa_n))))) (ss_cons (s_for o hp (pi_rng2 rfl E.bi.range (pa_c (pe_sub' (pe_min1 o E.bi (pa_c (pe_lcM o (own := [("stone", 21)]) (pi_sqM o (pe_v 3)) (blkOk_by rfl) (by decide) (fun s H C cl fp o => (pg_n 21 o)) (fun s H C cl fp o => pts_n) (fun s H C cl fp o => (pe_ix' o (pe_v 21) pe_ci))) pa_n)) pe_ci) (pa_c (pe_add' o (pe_max1 o E.bi (pa_c (pe_lcM o (own := [("stone", 21)]) (pi_sqM o (pe_v 3)) (blkOk_by rfl) (by decide) (fun s H C cl fp o => (pg_n 21 o)) (fun s H C cl fp o => pts_n) (fun s H C cl fp o => (pe_ix' o (pe_v 21) pe_ci))) pa_n)) pe_ci) pa_n))) (pg_n 14 o) (ss_one (s_for o hp (pi_rng2 rfl E.bi.range (pa_c (pe_sub' (pe_min1 o E.bi (pa_c (pe_lcM o (own := [("stone", 21)]) (pi_sqM o (pe_v 3)) (blkOk_by rfl) (by decide) (fun s H C cl fp o => (pg_n 21 o)) (fun s H C cl fp o => pts_n) (fun s H C cl fp o => (pe_ix' o (pe_v 21) pe_ci))) pa_n)) pe_ci) (pa_c (pe_add' o (pe_max1 o E.bi (pa_c (pe_lcM o (own := [("stone", 21)]) (pi_sqM o (pe_v 3)) (blkOk_by rfl) (by decide) (fun s H C cl fp o => (pg_n 21 o)) (fun s H C cl fp o => pts_n) (fun s H C cl fp o => (pe_ix' o (pe_v 21) pe_ci))) pa_n)) pe_ci) pa_n))) (pg_n 15 o) (ss_cons (s_set 16 o (pe_fn h__law_sum_at o tk (pa_c (pe_v 3) (pa_c (pe_v 4) (pa_c (pe_tupM (pa_c (pe_v 14) (pa_c (pe_v 15) pa_n))) pa_n))))) (ss_one (s_if (PW.pt (pw_orM (pt_c (cm_lt o) (pe_v 16) (pe_v 13)) (pw_or1M (pt_neO o E.kt one (pe_eqO o E.kt oeq (pe_v 16) (pe_v 13)) (pe_andM o (pe_ch (cm_le o) (cm_le o) (pe_v 9) (pe_v 14) (pe_v 10)) (pe_one1 (pe_ch (cm_le o) (cm_le o) (pe_v 11) (pe_v 15) (pe_v 12)))))))) (ss_one (s_ret pe_cb)) ss_nil)))))) (ss_cons (s_asgT (pe_tupM (pa_c (pe_fnN h__law_pick o tk (pa_c (pe_v 1) (pa_c (pe_lstM (pa_c pe_cn (pa_c pe_ci (pa_c (pe_tupM pa_n) (pa_c (pe_add' o (pe_v 3) (pe_sl' o (pe_v 3) po_n (po_s pe_ci))) (pa_c (pe_tupM (pa_c (pe_tupM (pa_c pe_ci pa_n)) pa_n)) pa_n)))))) pa_n))) (pa_c (pe_fnN h__law_pick o tk (pa_c (pe_v 1) (pa_c (pe_lstM (pa_c pe_cn (pa_c pe_ci (pa_c (pe_sl' o (pe_v 4) (po_s pe_ci) po_n) (pa_c (pe_add' o (pe_v 4) (pe_tupM (pa_c pe_ci pa_n))) (pa_c (pe_mul' o (pe_tupM (pa_c pe_ci pa_n)) (pe_len o E.bi (pa_c (pe_v 4) pa_n))) (pa_c (pe_mul' o (pe_tupM (pa_c pe_cb pa_n)) (pe_len o E.bi (pa_c (pe_v 4) pa_n))) (pa_c pe_cs pa_n)))))))) pa_n))) pa_n))) (pg_t o (pgs_c (pg_n 17 o) (pgs_c (pg_n 18 o) pgs_n)))) (ss_cons (s_par2C 19 20 o (pe_fnN h__law_odd_point o tk (pa_c (pe_v 1) pa_n)) (pe_lstM pa_n)) (ss_cons (s_expr (pe_lm 20 PySem.F.slot_list_append PySem.F.type_list_append mt_append sem_ap (pa_c (pe_tupM (pa_c (pe_lam (t := lt4) o TB rfl htb (ls := LamX.lamS_by nds4)) (pa_c (pe_tupM (pa_c pe_cs (pa_c pe_cs (pa_c (pe_v 17) pa_n)))) pa_n))) pa_n) o)) (ss_cons (s_expr (pe_lm 20 PySem.F.slot_list_append PySem.F.type_list_append mt_append sem_ap (pa_c (pe_tupM (pa_c (pe_lam (t := lt3) o TB rfl htb (ls := LamX.lamS_by nds3)) (pa_c (pe_tupM (pa_c pe_cs (pa_c pe_cs (pa_c (pe_v 18) pa_n)))) pa_n))) pa_n) o)) (ss_cons (s_expr (pe_lm 20 PySem.F.slot_list_append PySem.F.type_list_append mt_append sem_ap (pa_c (pe_tupM (pa_c (pe_lam (t := lt2) o TB rfl htb (ls := LamX.lamS_by nds2)) (pa_c (pe_tupM (pa_c pe_cs (pa_c pe_cs (pa_c (pe_v 19) pa_n)))) pa_n))) pa_n) o)) (ss_cons (s_expr (pe_lm 20 PySem.F.slot_list_append PySem.F.type_list_append mt_append sem_ap (pa_c (pe_tupM (pa_c (pe_lam (t := lt1) o TB rfl htb (ls := LamX.lamS_by nds1)) (pa_c (pe_tupM (pa_c pe_cs (pa_c pe_cs (pa_c (pe_v 17) pa_n)))) pa_n))) pa_n) o)) (ss_cons (s_expr (pe_lm 20 PySem.F.slot_list_append PySem.F.type_list_append mt_append sem_ap (pa_c (pe_tupM (pa_c (pe_lam (t := lt0) o TB rfl htb (ls := LamX.lamS_by nds0)) (pa_c (pe_tupM (pa_c pe_cs (pa_c pe_cs (pa_c (pe_v 18) pa_n)))) pa_n))) pa_n) o)) (ss_one (s_if (pt_notM (pt_tru o (pe_fnA h__law_raise_so o gd rfl ltsok (pa_c (pe_v 20) pa_n)))) (ss_one (s_ret pe_cb)) ss_nil))))))))))))))))))) (ss_one (s_ret pe_cb)))

end
end Lw
end Mc
end
section
set_option Elab.async false
set_option linter.all false
set_option maxRecDepth 100000
set_option maxHeartbeats 0
namespace Mc
namespace Lw
open PySem PySem.Spec L2
def d2 : He.DefD := ⟨("BadRow", some "__init__"), "__init__", "BadRow.__init__", defArgs s2, defBody s2, defScope s2, [], []⟩
abbrev N2 : List Str := ["self", "what", "row"]
theorem sc2 : FnScope N2 ["self", "what", "row"] (defScope s2) := ⟨rfl, rfl, rfl, by decide +kernel, rfl, by decide +kernel, by decide +kernel⟩
def d8 : He.DefD := ⟨("is_whole", none), "is_whole", "is_whole", defArgs s8, defBody s8, defScope s8, [], []⟩
theorem sc8 : FnScope N8 ["value"] (defScope s8) := ⟨rfl, rfl, rfl, by decide +kernel, rfl, by decide +kernel, by decide +kernel⟩
def d9 : He.DefD := ⟨("is_point", none), "is_point", "is_point", defArgs s9, defBody s9, defScope s9, [], []⟩
theorem sc9 : FnScope N9 ["value"] (defScope s9) := ⟨rfl, rfl, rfl, by decide +kernel, rfl, by decide +kernel, by decide +kernel⟩
def d10 : He.DefD := ⟨("need_as", none), "need_as", "need_as", defArgs s10, defBody s10, defScope s10, [], []⟩
theorem sc10 : FnScope N10 ["what", "value", "is_right"] (defScope s10) := ⟨rfl, rfl, rfl, by decide +kernel, rfl, by decide +kernel, by decide +kernel⟩
def d11 : He.DefD := ⟨("need_point", none), "need_point", "need_point", defArgs s11, defBody s11, defScope s11, [], []⟩
theorem sc11 : FnScope N11 ["what", "value"] (defScope s11) := ⟨rfl, rfl, rfl, by decide +kernel, rfl, by decide +kernel, by decide +kernel⟩
def d12 : He.DefD := ⟨("need_posts", none), "need_posts", "need_posts", defArgs s12, defBody s12, defScope s12, [], []⟩
theorem sc12 : FnScope N12 ["stones"] (defScope s12) := ⟨rfl, rfl, rfl, by decide +kernel, rfl, by decide +kernel, by decide +kernel⟩
def d13 : He.DefD := ⟨("steps_by", none), "steps_by", "steps_by", defArgs s13, defBody s13, defScope s13, [], []⟩
theorem sc13 : FnScope N13 ["one", "other"] (defScope s13) := ⟨rfl, rfl, rfl, by decide +kernel, rfl, by decide +kernel, by decide +kernel⟩
def d14 : He.DefD := ⟨("need_weights", none), "need_weights", "need_weights", defArgs s14, defBody s14, defScope s14, [], []⟩
theorem sc14 : FnScope N14 ["stones", "weights"] (defScope s14) := ⟨rfl, rfl, rfl, by decide +kernel, rfl, by decide +kernel, by decide +kernel⟩
def d15 : He.DefD := ⟨("meeting_sum", none), "meeting_sum", "meeting_sum", defArgs s15, defBody s15, defScope s15, [], []⟩
theorem sc15 : FnScope N15 ["stones", "weights", "point"] (defScope s15) := ⟨rfl, rfl, rfl, by decide +kernel, rfl, by decide +kernel, by decide +kernel⟩
def d16 : He.DefD := ⟨("middle_of", none), "middle_of", "middle_of", defArgs s16, defBody s16, defScope s16, [], []⟩
theorem sc16 : FnScope N16 ["pairs"] (defScope s16) := ⟨rfl, rfl, rfl, by decide +kernel, rfl, by decide +kernel, by decide +kernel⟩
def d17 : He.DefD := ⟨("meeting_box", none), "meeting_box", "meeting_box", defArgs s17, defBody s17, defScope s17, [], []⟩
theorem sc17 : FnScope N17 ["stones", "weights"] (defScope s17) := ⟨rfl, rfl, rfl, by decide +kernel, rfl, by decide +kernel, by decide +kernel⟩
def d18 : He.DefD := ⟨("_law_pen", none), "_law_pen", "_law_pen", defArgs s18, defBody s18, defScope s18, [], []⟩
abbrev N18 : List Str := ["script", "fold", "cell"]
theorem sc18 : FnScope N18 ["script"] (defScope s18) := ⟨rfl, rfl, rfl, by decide +kernel, rfl, by decide +kernel, by decide +kernel⟩
def d19 : He.DefD := ⟨("_law_draw", none), "_law_draw", "_law_draw", defArgs s19, defBody s19, defScope s19, [], []⟩
theorem sc19 : FnScope N19 ["pen", "many"] (defScope s19) := ⟨rfl, rfl, rfl, by decide +kernel, rfl, by decide +kernel, by decide +kernel⟩
def d20 : He.DefD := ⟨("_law_pick", none), "_law_pick", "_law_pick", defArgs s20, defBody s20, defScope s20, [], []⟩
theorem sc20 : FnScope N20 ["pen", "some"] (defScope s20) := ⟨rfl, rfl, rfl, by decide +kernel, rfl, by decide +kernel, by decide +kernel⟩
def d21 : He.DefD := ⟨("_law_is", none), "_law_is", "_law_is", defArgs s21, defBody s21, defScope s21, [], []⟩
theorem sc21 : FnScope N21 ["told", "due"] (defScope s21) := ⟨rfl, rfl, rfl, by decide +kernel, rfl, by decide +kernel, by decide +kernel⟩
def d22 : He.DefD := ⟨("_law_whole", none), "_law_whole", "_law_whole", defArgs s22, defBody s22, defScope s22, [], []⟩
theorem sc22 : FnScope N22 ["value"] (defScope s22) := ⟨rfl, rfl, rfl, by decide +kernel, rfl, by decide +kernel, by decide +kernel⟩
def d23 : He.DefD := ⟨("_law_drawn_point", none), "_law_drawn_point", "_law_drawn_point", defArgs s23, defBody s23, defScope s23, [], []⟩
theorem sc23 : FnScope N23 ["pen", "wide"] (defScope s23) := ⟨rfl, rfl, rfl, by decide +kernel, rfl, by decide +kernel, by decide +kernel⟩
def d24 : He.DefD := ⟨("_law_odd_point", none), "_law_odd_point", "_law_odd_point", defArgs s24, defBody s24, defScope s24, [], []⟩
theorem sc24 : FnScope N24 ["pen"] (defScope s24) := ⟨rfl, rfl, rfl, by decide +kernel, rfl, by decide +kernel, by decide +kernel⟩
def d25 : He.DefD := ⟨("_law_error", none), "_law_error", "_law_error", defArgs s25, defBody s25, defScope s25, [], []⟩
theorem sc25 : FnScope N25 ["call"] (defScope s25) := ⟨rfl, rfl, rfl, by decide +kernel, rfl, by decide +kernel, by decide +kernel⟩
def d26 : He.DefD := ⟨("_law_raise_so", none), "_law_raise_so", "_law_raise_so", defArgs s26, defBody s26, defScope s26, [], []⟩
theorem sc26 : FnScope N26 ["calls"] (defScope s26) := ⟨rfl, rfl, rfl, by decide +kernel, rfl, by decide +kernel, by decide +kernel⟩
def d27 : He.DefD := ⟨("_law_stones", none), "_law_stones", "_law_stones", defArgs s27, defBody s27, defScope s27, [], []⟩
theorem sc27 : FnScope N27 ["pen", "most", "wide"] (defScope s27) := ⟨rfl, rfl, rfl, by decide +kernel, rfl, by decide +kernel, by decide +kernel⟩
def d28 : He.DefD := ⟨("_law_walk", none), "_law_walk", "_law_walk", defArgs s28, defBody s28, defScope s28, [], []⟩
theorem sc28 : FnScope N28 ["one", "other"] (defScope s28) := ⟨rfl, rfl, rfl, by decide +kernel, rfl, by decide +kernel, by decide +kernel⟩
def d29 : He.DefD := ⟨("_law_is_pair", none), "_law_is_pair", "_law_is_pair", defArgs s29, defBody s29, defScope s29, [], []⟩
theorem sc29 : FnScope N29 ["value"] (defScope s29) := ⟨rfl, rfl, rfl, by decide +kernel, rfl, by decide +kernel, by decide +kernel⟩
def d30 : He.DefD := ⟨("_law_sum_at", none), "_law_sum_at", "_law_sum_at", defArgs s30, defBody s30, defScope s30, [], []⟩
theorem sc30 : FnScope N30 ["stones", "weights", "point"] (defScope s30) := ⟨rfl, rfl, rfl, by decide +kernel, rfl, by decide +kernel, by decide +kernel⟩
def d31 : He.DefD := ⟨("law", none), "law", "law", defArgs s31, defBody s31, defScope s31, [], []⟩
theorem sc31 : FnScope N31 ["script"] (defScope s31) := ⟨rfl, rfl, rfl, by decide +kernel, rfl, by decide +kernel, by decide +kernel⟩
def fn : List He.DefD := [d2, d8, d9, d10, d11, d12, d13, d14, d15, d16, d17, d18, d19, d20, d21, d22, d23, d24, d25, d26, d27, d28, d29, d30, d31]
def fr : List He.Fa := [.free "len", .free "abs", .free "int", .free "str", .free "bool", .free "tuple", .free "list", .free "sum", .free "any", .free "all", .free "max", .free "min", .free "sorted", .free "isinstance", .free "range", .free "enumerate", .free "zip"]
def fg : List He.Fa := [.glo "is_whole", .glo "is_point", .glo "need_as", .glo "need_point", .glo "need_posts", .glo "steps_by", .glo "need_weights", .glo "meeting_sum", .glo "middle_of", .glo "meeting_box", .glo "_law_pen", .glo "_law_draw", .glo "_law_pick", .glo "_law_is", .glo "_law_whole", .glo "_law_drawn_point", .glo "_law_odd_point", .glo "_law_error", .glo "_law_raise_so", .glo "_law_stones", .glo "_law_walk", .glo "_law_is_pair", .glo "_law_sum_at", .glo "law", .free "repr", .int "MOST_STONES" 12]
def fa : List He.Fa := fr ++ fg
def TF0 : List He.Defn := [("law", none)]
abbrev RW0 : PySem.W.OpenRow := PySem.W.OpenLaw.row PySem.Challenge.rw_landparcels_k91_whole_where_to_meet
def exB (K : PySem.W.Frag) : Bool := kitsB K csL && (exfB K exTab && (exkB K ("BadRow", ["what", "row"]) && (baseB K "LandError" && ctB K ct)))
abbrev hk : PySem.W.Hook := hookY 4 fa fn TF0 exB
def ob (s : PySem.W.SharedT) : He.AlX := obsY 4 fa fn TF0 exB (HandSHeadRun.getT s)
theorem ob_eq (s : PySem.W.SharedT) : ob s = hk.obs s.abs := obsY_eq (HandSHeadRun.getT_eq s)
def names0 : List PySem.Str := ["LandError", "BadName", "BadNumber", "BadRow", "NoStone", "NoName", "TakenName", "Unlike", "TooMany", "is_whole", "is_point", "need_as", "need_point", "need_posts", "steps_by", "need_weights", "meeting_sum", "middle_of", "meeting_box", "_law_pen", "_law_draw", "_law_pick", "_law_is", "_law_whole"]
def names1 : List PySem.Str := ["_law_drawn_point", "_law_odd_point", "_law_error", "_law_raise_so", "_law_stones", "_law_walk", "_law_is_pair", "_law_sum_at", "MOST_STONES"]
def names : List PySem.Str := names0 ++ names1
theorem run (w : World) : HandSHeadRun.RunEq RW0 (PySem.W.view RW0.prog [38]) hk ob 4000 names w := by
  intro os
  kernel_rfl
end Lw
end Mc
end
section
set_option Elab.async false
set_option linter.all false
set_option maxRecDepth 100000
set_option maxHeartbeats 4000000
set_option autoImplicit false
namespace Mc
open PySem PySem.Spec L2

/-! ### plain reckoning: what a term gives -/
def Ho {α : Type} (o : Option (Res α)) (Q : α → ES → Prop) : Prop := match o with
  | some (.ok a ρ) => Q a ρ
  | _ => False
section
variable {α β : Type} {ρ : ES}
theorem Ho.get {o : Option (Res α)} {Q : α → ES → Prop} (h : Ho o Q) : ∃ a ρ, o = some (.ok a ρ) ∧ Q a ρ := by
  unfold Ho at h
  split at h
  · exact ⟨_, _, rfl, h⟩
  · exact h.elim
theorem Ho.mk {o : Option (Res α)} {Q : α → ES → Prop} {a : α} (e : o = some (.ok a ρ)) (q : Q a ρ) : Ho o Q := by rw [e]; exact q
theorem Ho.imp {o : Option (Res α)} {Q Q' : α → ES → Prop} (h : Ho o Q) (k : ∀ a ρ, Q a ρ → Q' a ρ) : Ho o Q' := by
  obtain ⟨a, ρ, e, q⟩ := h.get
  exact Ho.mk e (k a ρ q)
theorem ho_ok {Q : α → ES → Prop} {a : α} : Ho (some (.ok a ρ)) Q = Q a ρ := rfl
theorem ho_none {Q : α → ES → Prop} : Ho (none : Option (Res α)) Q = False := rfl
theorem ho_er {Q : α → ES → Prop} {x : Ex} : Ho (some (.er x ρ)) Q = False := rfl
theorem ho_ret {Q : α → ES → Prop} {a : α} : Ho (M.ret a ρ) Q = Q a ρ := rfl
theorem ho_bnd {f : M α} {g : α → M β} {Q : β → ES → Prop} : Ho (M.bnd f g ρ) Q = Ho (f ρ) fun a ρ' => Ho (g a ρ') Q := by
  unfold M.bnd Ho
  cases f ρ with
  | none => rfl
  | some r => cases r <;> rfl
theorem ho_lift {o : Option α} {Q : α → ES → Prop} : Ho (M.lift o ρ) Q = (match o with
    | some a => Q a ρ
    | none => False) := by
  unfold M.lift
  cases o <;> rfl
theorem ho_frzM {f : M R} {Q : R → ES → Prop} : Ho (frzM f ρ) Q = Ho (f ρ) fun r ρ' => Q r.frz ρ' := by
  unfold frzM
  rw [ho_bnd]
  rfl
theorem ho_evC {d : D} {Q : R → ES → Prop} : Ho (evC d ρ) Q = Q (.va d) ρ := rfl
theorem ho_evVar {i : Nat} {Q : R → ES → Prop} : Ho (evVar i ρ) Q = (match ρ[i]? with
    | some (.va d) => Q (.va d) ρ
    | some (.ow _) => Q (.sl i) ρ
    | some (.pn _) => Q (.sl i) ρ
    | _ => False) := by
  unfold evVar
  cases ρ[i]? with
  | none => rfl
  | some s => cases s <;> rfl
theorem ho_evNil {Q : List R → ES → Prop} : Ho (evNil ρ) Q = Q [] ρ := rfl
theorem ho_evCons {fa : M R} {fr : M (List R)} {Q : List R → ES → Prop} : Ho (evCons fa fr ρ) Q = Ho (fa ρ) fun r ρ1 => Ho (fr ρ1) fun rs ρ2 => Q (r.frz :: rs) ρ2 := by
  unfold evCons
  rw [ho_bnd, ho_frzM]
  simp only [ho_bnd, ho_ret]
theorem ho_frzS_va {d : D} {Q : D → ES → Prop} : Ho (frzS (.va d) ρ) Q = Q d ρ := rfl
theorem ho_frzS_sl {i : Nat} {Q : D → ES → Prop} : Ho (frzS (.sl i) ρ) Q = (match ρ[i]? with
    | some (.ow ds) => Q (.lst ds) (ρ.set i (.va (.lst ds)))
    | some (.va d) => Q d ρ
    | _ => False) := by
  unfold frzS
  simp only
  cases ρ[i]? with
  | none => rfl
  | some s => cases s <;> rfl
theorem ho_frzSs_nil {Q : List D → ES → Prop} : Ho (frzSs [] ρ) Q = Q [] ρ := rfl
theorem ho_frzSs_cons {r : R} {rs : List R} {Q : List D → ES → Prop} : Ho (frzSs (r :: rs) ρ) Q = Ho (frzS r ρ) fun d ρ1 => Ho (frzSs rs ρ1) fun ds ρ2 => Q (d :: ds) ρ2 := by
  show Ho (M.bnd (frzS r) (fun d => M.bnd (frzSs rs) fun ds => M.ret (d :: ds)) ρ) Q = _
  rw [ho_bnd]
  simp only [ho_bnd, ho_ret]
theorem ho_if {c : Bool} {f : M α} {Q : α → ES → Prop} : Ho ((if c = true then f else fun _ => none) ρ) Q = (c = true ∧ Ho (f ρ) Q) := by
  cases c <;> simp [Ho]
theorem ho_evTup {fs : M (List R)} {Q : R → ES → Prop} : Ho (evTup fs ρ) Q = Ho (fs ρ) fun rs ρ1 => Ho (frzSs rs ρ1) fun ds ρ2 => few ds = true ∧ Q (.va (.tup ds)) ρ2 := by
  unfold evTup
  simp only [ho_bnd, ho_if, ho_ret]
theorem ho_evLst {fs : M (List R)} {Q : R → ES → Prop} : Ho (evLst fs ρ) Q = Ho (fs ρ) fun rs ρ1 => Ho (frzSs rs ρ1) fun ds ρ2 => few ds = true ∧ Q (.ow ds) ρ2 := by
  unfold evLst
  simp only [ho_bnd, ho_if, ho_ret]
def optH {γ : Type} (o : Option γ) (Q : γ → Prop) : Prop := match o with
  | some z => Q z
  | none => False
theorem optH_some {γ : Type} {z : γ} {Q : γ → Prop} : optH (some z) Q = Q z := rfl
theorem optH_none {γ : Type} {Q : γ → Prop} : optH (none : Option γ) Q = False := rfl
theorem optH_map {γ δ : Type} {o : Option γ} {f : γ → δ} {Q : δ → Prop} : optH (o.map f) Q = optH o fun z => Q (f z) := by cases o <;> rfl
theorem ho_evBin {g : D → D → Option R} {fa fb : M R} {Q : R → ES → Prop} : Ho (evBin g fa fb ρ) Q = Ho (fa ρ) fun r1 ρ1 => Ho (fb ρ1) fun r2 ρ2 => optH (rdD ρ2 r1.frz) fun d => optH (rdD ρ2 r2.frz) fun e => optH (g d e) fun z => Q z ρ2 := by
  unfold evBin
  simp only [ho_bnd, ho_frzM]
  congr 1; funext r1 ρ1; congr 1; funext r2 ρ2
  cases rdD ρ2 r1.frz with
  | none => rfl
  | some d =>
    cases rdD ρ2 r2.frz with
    | none => rfl
    | some e =>
      simp only [ho_lift, optH]
theorem ho_evUn {g : D → Option R} {fa : M R} {Q : R → ES → Prop} : Ho (evUn g fa ρ) Q = Ho (fa ρ) fun r ρ1 => optH (rdD ρ1 r.frz) fun d => optH (g d) fun z => Q z ρ1 := by
  unfold evUn
  simp only [ho_bnd, ho_frzM]
  congr 1; funext r1 ρ1
  cases rdD ρ1 r1.frz with
  | none => rfl
  | some d =>
    simp only [ho_lift, optH]
theorem ho_evB {g : List D → Option R} {fs : M (List R)} {Q : R → ES → Prop} : Ho (evB g fs ρ) Q = Ho (fs ρ) fun rs ρ1 => optH (rdDs ρ1 rs) fun ds => optH (g ds) fun z => Q z ρ1 := by
  unfold evB
  simp only [ho_bnd]
  congr 1; funext r1 ρ1
  cases rdDs ρ1 r1 with
  | none => rfl
  | some d =>
    simp only [ho_lift, optH]
theorem ho_evAnd {fa fb : M R} {Q : R → ES → Prop} : Ho (evAnd fa fb ρ) Q = Ho (fa ρ) fun r ρ1 => optH (truR ρ1 r.frz) fun c => if c = true then Ho (fb ρ1) Q else Q r.frz ρ1 := by
  unfold evAnd
  simp only [ho_bnd, ho_frzM]
  congr 1; funext r ρ1
  cases truR ρ1 r.frz with
  | none => rfl
  | some c => cases c <;> rfl
theorem ho_evOr {fa fb : M R} {Q : R → ES → Prop} : Ho (evOr fa fb ρ) Q = Ho (fa ρ) fun r ρ1 => optH (truR ρ1 r.frz) fun c => if c = true then Q r.frz ρ1 else Ho (fb ρ1) Q := by
  unfold evOr
  simp only [ho_bnd, ho_frzM]
  congr 1; funext r ρ1
  cases truR ρ1 r.frz with
  | none => rfl
  | some c => cases c <;> rfl
theorem ho_evNot {fa : M R} {Q : R → ES → Prop} : Ho (evNot fa ρ) Q = Ho (fa ρ) fun r ρ1 => optH (truR ρ1 r.frz) fun c => Q (.va (.bl (!c))) ρ1 := by
  unfold evNot
  simp only [ho_bnd, ho_frzM]
  congr 1; funext r ρ1
  cases truR ρ1 r.frz <;> rfl
theorem ho_evTru {fa : M R} {Q : Bool → ES → Prop} : Ho (evTru fa ρ) Q = Ho (fa ρ) fun r ρ1 => optH (truR ρ1 r.frz) fun c => Q c ρ1 := by
  unfold evTru
  simp only [ho_bnd, ho_frzM]
  congr 1; funext r ρ1
  cases truR ρ1 r.frz <;> rfl
theorem ho_ite {c : Bool} {f g : M α} {Q : α → ES → Prop} : Ho ((if c = true then f else g) ρ) Q = (if c = true then Ho (f ρ) Q else Ho (g ρ) Q) := by cases c <;> rfl
theorem ho_evAndT {f g : M Bool} {Q : Bool → ES → Prop} : Ho (evAndT f g ρ) Q = Ho (f ρ) fun c ρ1 => if c = true then Ho (g ρ1) Q else Q false ρ1 := by
  unfold evAndT
  simp only [ho_bnd, ho_ite, ho_ret]
theorem ho_evOrT {f g : M Bool} {Q : Bool → ES → Prop} : Ho (evOrT f g ρ) Q = Ho (f ρ) fun c ρ1 => if c = true then Q true ρ1 else Ho (g ρ1) Q := by
  unfold evOrT
  simp only [ho_bnd, ho_ite, ho_ret]
theorem ho_evNotT {f : M Bool} {Q : Bool → ES → Prop} : Ho (evNotT f ρ) Q = Ho (f ρ) fun c ρ1 => Q (!c) ρ1 := by
  unfold evNotT
  simp only [ho_bnd, ho_ret]
theorem ho_evIf {c : M Bool} {f g : M α} {Q : α → ES → Prop} : Ho (evIf c f g ρ) Q = Ho (c ρ) fun k ρ1 => if k = true then Ho (f ρ1) Q else Ho (g ρ1) Q := by
  unfold evIf
  simp only [ho_bnd, ho_ite]
def blH (r : R) (Q : Bool → Prop) : Prop := match r with
  | .va (.bl c) => Q c
  | _ => False
theorem blH_bl {c : Bool} {Q : Bool → Prop} : blH (.va (.bl c)) Q = Q c := rfl
theorem ho_evBl {fa : M R} {Q : Bool → ES → Prop} : Ho (evBl fa ρ) Q = Ho (fa ρ) fun r ρ1 => blH r fun c => Q c ρ1 := by
  unfold evBl
  simp only [ho_bnd]
  congr 1; funext r ρ1
  cases r with
  | va d => cases d <;> rfl
  | _ => rfl
theorem ho_evChain {g g' : D → D → Option R} {fa fb fc : M R} {Q : R → ES → Prop} : Ho (evChain g g' fa fb fc ρ) Q = Ho (fa ρ) fun r1 ρ1 => Ho (fb ρ1) fun r2 ρ2 => optH (rdD ρ2 r1.frz) fun d => optH (rdD ρ2 r2.frz) fun e => optH (g d e) fun z => blH z fun k =>
    if k = true then Ho (fc ρ2) (fun r3 ρ3 => optH (rdD ρ3 r2.frz) fun d' => optH (rdD ρ3 r3.frz) fun e' => optH (g' d' e') fun z => Q z ρ3) else Q (.va (.bl false)) ρ2 := by
  unfold evChain
  simp only [ho_bnd, ho_frzM]
  congr 1; funext r1 ρ1; congr 1; funext r2 ρ2
  cases rdD ρ2 r1.frz with
  | none => rfl
  | some d =>
    cases rdD ρ2 r2.frz with
    | none => rfl
    | some e =>
      simp only [optH]
      cases g d e with
      | none => rfl
      | some z =>
        cases z with
        | va z =>
          cases z with
          | bl k =>
            cases k with
            | false => rfl
            | true =>
              simp only [blH, if_true]
              rw [ho_bnd, ho_frzM]
              congr 1; funext r3 ρ3
              cases rdD ρ3 r2.frz with
              | none => rfl
              | some d' =>
                cases rdD ρ3 r3.frz with
                | none => rfl
                | some e' => simp only [ho_lift]
          | _ => rfl
        | _ => rfl
/-! ### statements -/
def nxH (fl : Fl) (ρ : ES) (k : Prop) (Q : Fl → ES → Prop) : Prop := match fl with
  | .nx => k
  | fl => Q fl ρ
theorem nxH_nx {k : Prop} {Q : Fl → ES → Prop} : nxH .nx ρ k Q = k := rfl
theorem nxH_rt {k : Prop} {Q : Fl → ES → Prop} {r : R} : nxH (.rt r) ρ k Q = Q (.rt r) ρ := rfl
theorem nxH_bk {k : Prop} {Q : Fl → ES → Prop} : nxH .bk ρ k Q = Q .bk ρ := rfl
theorem nxH_ct {k : Prop} {Q : Fl → ES → Prop} : nxH .ct ρ k Q = Q .ct ρ := rfl
theorem ho_evSeq {f g : M Fl} {Q : Fl → ES → Prop} : Ho (evSeq f g ρ) Q = Ho (f ρ) fun fl ρ1 => nxH fl ρ1 (Ho (g ρ1) Q) Q := by
  unfold evSeq
  cases f ρ with
  | none => rfl
  | some r =>
    cases r with
    | er x ρ1 => rfl
    | ok fl ρ1 => cases fl <;> rfl
theorem ho_evSkip {Q : Fl → ES → Prop} : Ho (evSkip ρ) Q = Q .nx ρ := rfl
theorem ho_evDrop {fa : M R} {Q : Fl → ES → Prop} : Ho (evDrop fa ρ) Q = Ho (fa ρ) fun _ ρ1 => Q .nx ρ1 := by
  unfold evDrop
  simp only [ho_bnd, ho_ret]
def retH (r : R) (ρ : ES) (Q : Fl → ES → Prop) : Prop := match r with
  | .sl i => (match ρ[i]? with
    | some (.ow ds) => Q (.rt (.ow ds)) (ρ.set i .no)
    | _ => False)
  | r => Q (.rt r) ρ
theorem retH_va {d : D} {Q : Fl → ES → Prop} : retH (.va d) ρ Q = Q (.rt (.va d)) ρ := rfl
theorem retH_ow {ds : List D} {Q : Fl → ES → Prop} : retH (.ow ds) ρ Q = Q (.rt (.ow ds)) ρ := rfl
theorem retH_sl {i : Nat} {Q : Fl → ES → Prop} : retH (.sl i) ρ Q = (match ρ[i]? with
    | some (.ow ds) => Q (.rt (.ow ds)) (ρ.set i .no)
    | _ => False) := rfl
theorem ho_evRet {fa : M R} {Q : Fl → ES → Prop} : Ho (evRet fa ρ) Q = Ho (fa ρ) fun r ρ1 => retH r ρ1 Q := by
  unfold evRet
  simp only [ho_bnd]
  congr 1; funext r ρ1
  cases r with
  | va d => rfl
  | ow ds => rfl
  | sl i =>
    simp only [retH]
    cases ρ1[i]? with
    | none => rfl
    | some s => cases s <;> rfl
def asgH (i : Nat) (r : R) (ρ : ES) (Q : Fl → ES → Prop) : Prop := i < ρ.length ∧ (match r with
  | .va d => Q .nx (ρ.set i (.va d))
  | .ow ds => Q .nx (ρ.set i (.ow ds))
  | .sl j => (match ρ[j]? with
    | some (.ow ds) => Q .nx ((ρ.set j (.va (.lst ds))).set i (.va (.lst ds)))
    | _ => False))
theorem asgH_va {i : Nat} {d : D} {Q : Fl → ES → Prop} : asgH i (.va d) ρ Q = (i < ρ.length ∧ Q .nx (ρ.set i (.va d))) := rfl
theorem asgH_ow {i : Nat} {d : List D} {Q : Fl → ES → Prop} : asgH i (.ow d) ρ Q = (i < ρ.length ∧ Q .nx (ρ.set i (.ow d))) := rfl
theorem ho_evAsg {i : Nat} {fa : M R} {Q : Fl → ES → Prop} : Ho (evAsg i fa ρ) Q = Ho (fa ρ) fun r ρ1 => asgH i r ρ1 Q := by
  unfold evAsg
  simp only [ho_bnd]
  congr 1; funext r ρ1
  unfold asgH
  by_cases hi : i < ρ1.length
  · simp only [hi, if_true, true_and]
    cases r with
    | va d => rfl
    | ow ds => rfl
    | sl j =>
      simp only
      cases ρ1[j]? with
      | none => rfl
      | some s => cases s <;> rfl
  · simp [hi, Ho]
theorem ho_evAsgT {t : Tg} {fa : M R} {Q : Fl → ES → Prop} : Ho (evAsgT t fa ρ) Q = Ho (fa ρ) fun r ρ1 => Ho (frzS r.frz ρ1) fun d ρ2 => optH (t d ρ2) fun ρ3 => Q .nx ρ3 := by
  unfold evAsgT
  simp only [ho_bnd, ho_frzM]
  congr 1; funext r ρ1; congr 1; funext d ρ2
  cases t d ρ2 <;> rfl
theorem ho_evPar2 {i j : Nat} {fa fb : M R} {Q : Fl → ES → Prop} : Ho (evPar2 i j fa fb ρ) Q = Ho (fa ρ) fun r1 ρ1 => Ho (fb ρ1) fun r2 ρ2 => (noSl r1 && noSl r2) = true ∧ optH (setR i r1 ρ2) fun ρ3 => optH (setR j r2 ρ3) fun ρ4 => Q .nx ρ4 := by
  unfold evPar2
  simp only [ho_bnd]
  congr 1; funext r1 ρ1; congr 1; funext r2 ρ2
  cases noSl r1 && noSl r2 with
  | false => simp [Ho]
  | true =>
    simp only [if_true, true_and]
    cases setR i r1 ρ2 with
    | none => rfl
    | some ρ3 =>
      simp only [optH]
      cases setR j r2 ρ3 <;> rfl
theorem ho_evPar3 {i j l : Nat} {fa fb fc : M R} {Q : Fl → ES → Prop} : Ho (evPar3 i j l fa fb fc ρ) Q = Ho (fa ρ) fun r1 ρ1 => Ho (fb ρ1) fun r2 ρ2 => Ho (fc ρ2) fun r3 ρ3 => (noSl r1 && (noSl r2 && noSl r3)) = true ∧ optH (setR i r1 ρ3) fun ρ4 => optH (setR j r2 ρ4) fun ρ5 => optH (setR l r3 ρ5) fun ρ6 => Q .nx ρ6 := by
  unfold evPar3
  simp only [ho_bnd]
  congr 1; funext r1 ρ1; congr 1; funext r2 ρ2; congr 1; funext r3 ρ3
  cases noSl r1 && (noSl r2 && noSl r3) with
  | false => simp [Ho]
  | true =>
    simp only [if_true, true_and]
    cases setR i r1 ρ3 with
    | none => rfl
    | some ρ4 =>
      simp only [optH]
      cases setR j r2 ρ4 with
      | none => rfl
      | some ρ5 =>
        simp only [optH]
        cases setR l r3 ρ5 <;> rfl
/-! ### calls -/
def resH (o : Option DRes) (Q : R → Prop) (Q' : R → Prop) : Prop := match o with
  | some (.va d) => if d.flat = true then Q (.va d) else Q' (.va d)
  | some (.ow ds) => Q' (.ow ds)
  | _ => False
theorem ho_callK {F : List D → Option DRes} {rs : List R} {Q : R → ES → Prop} : Ho (callK F rs ρ) Q = Ho (frzSs rs ρ) fun ds ρ1 => resH (F ds) (fun r => Q r ρ) (fun r => Q r ρ1) := by
  unfold callK
  cases frzSs rs ρ with
  | none => rfl
  | some r =>
    cases r with
    | er x ρ1 => rfl
    | ok ds ρ1 =>
      simp only [ho_ok]
      cases F ds with
      | none => rfl
      | some z =>
        cases z with
        | va d => unfold resH; simp only [Ho]; cases d.flat <;> rfl
        | ow es => rfl
        | er x => rfl
theorem ho_evCall {F : List D → Option DRes} {fs : M (List R)} {Q : R → ES → Prop} : Ho (evCall F fs ρ) Q = Ho (fs ρ) fun rs ρ1 => Ho (frzSs rs ρ1) fun ds ρ2 => resH (F ds) (fun r => Q r ρ1) (fun r => Q r ρ2) := by
  unfold evCall
  simp only [ho_bnd, ho_callK]
theorem ho_evN {n : Nat} {fs : M (List R)} {Q : List R → ES → Prop} : Ho (evN n fs ρ) Q = Ho (fs ρ) fun rs ρ1 => rs.length = n ∧ Q rs ρ1 := by
  unfold evN
  simp only [ho_bnd]
  congr 1; funext rs ρ1
  by_cases h : rs.length = n
  · simp [h, Ho]
  · simp [h, Ho]
def resNH (o : Option (DRes × Mo)) (p : Mo) (i : Nat) (ρ ρ1 : ES) (Q : R → ES → Prop) : Prop := match o with
  | some (.va d, p') => if (d.flat && p.isPen && p'.isPen) = true then Q (.va d) (ρ.set i (.pn p')) else Q (.va d) (ρ1.set i (.pn p'))
  | some (.ow ds, p') => Q (.ow ds) (ρ1.set i (.pn p'))
  | _ => False
theorem ho_callN {F : Mo → List D → Option (DRes × Mo)} {i : Nat} {rs : List R} {p : Mo} {Q : R → ES → Prop} (h : ρ[i]? = some (.pn p)) : Ho (callN F (.sl i :: rs) ρ) Q = Ho (frzSs rs ρ) fun ds ρ1 => resNH (F p ds) p i ρ ρ1 Q := by
  unfold callN
  simp only [h]
  cases frzSs rs ρ with
  | none => rfl
  | some r =>
    cases r with
    | er x ρ1 => rfl
    | ok ds ρ1 =>
      simp only [ho_ok]
      cases F p ds with
      | none => rfl
      | some z =>
        obtain ⟨z, p'⟩ := z
        cases z with
        | va d => unfold resNH; simp only [Ho]; cases (d.flat && p.isPen && p'.isPen) <;> rfl
        | ow es => rfl
        | er x => rfl
theorem ho_evCallN {F : Mo → List D → Option (DRes × Mo)} {fs : M (List R)} {Q : R → ES → Prop} : Ho (evCallN F fs ρ) Q = Ho (fs ρ) fun rs ρ1 => Ho (callN F rs ρ1) Q := by
  unfold evCallN
  simp only [ho_bnd]
end
end Mc
end
section
set_option Elab.async false
set_option linter.all false
set_option maxRecDepth 100000
set_option maxHeartbeats 4000000
set_option autoImplicit false
namespace Mc
open PySem PySem.Spec L2
section
variable {α β : Type} {ρ : ES}
theorem ho_evPart {f : M R} {Q : Option Int → ES → Prop} : Ho (evPart f ρ) Q = Ho (f ρ) fun r ρ1 => (match r with
    | .va (.int i) => Q (some i) ρ1
    | _ => False) := by
  unfold evPart
  simp only [ho_bnd]
  congr 1; funext r ρ1
  cases r with
  | va d => cases d <;> rfl
  | _ => rfl
theorem ho_evSlice {fa : M R} {fl fh : M (Option Int)} {Q : R → ES → Prop} : Ho (evSlice fa fl fh ρ) Q = Ho (fa ρ) fun r ρ1 => Ho (fl ρ1) fun lo ρ2 => Ho (fh ρ2) fun hi ρ3 => optH (rdD ρ3 r.frz) fun d => optH (cutD d lo hi) fun z => Q z ρ3 := by
  unfold evSlice
  simp only [ho_bnd, ho_frzM]
  congr 1; funext r ρ1; congr 1; funext lo ρ2; congr 1; funext hi ρ3
  cases rdD ρ3 r.frz with
  | none => rfl
  | some d => simp only [ho_lift, optH]
def fldH (ct : CTab) (f : Str) (r : R) (ρ : ES) (Q : R → Prop) : Prop := match r with
  | .va (.ob c fs) => optH (fldD ct f c fs) Q
  | .sl i => (match ρ[i]? with
    | some (.pn (.ob c fs)) => optH (fldD ct f c fs) Q
    | _ => False)
  | _ => False
theorem fldH_ob {ct : CTab} {f c : Str} {fs : List (Str × D)} {Q : R → Prop} : fldH ct f (.va (.ob c fs)) ρ Q = optH (fldD ct f c fs) Q := rfl
theorem ho_evFld {ct : CTab} {f : Str} {fa : M R} {Q : R → ES → Prop} : Ho (evFld ct f fa ρ) Q = Ho (fa ρ) fun r ρ1 => fldH ct f r.frz ρ1 fun z => Q z ρ1 := by
  unfold evFld
  simp only [ho_bnd, ho_frzM]
  congr 1; funext r ρ1
  cases r.frz with
  | va d => cases d <;> first | rfl | simp only [ho_lift, fldH, optH]
  | ow ds => rfl
  | sl i =>
    simp only [fldH]
    cases ρ1[i]? with
    | none => rfl
    | some s =>
      cases s with
      | pn m => cases m <;> first | rfl | simp only [ho_lift, optH]
      | _ => rfl
theorem ho_evPnGet {i : Nat} {x : Str} {p : Pn} {Q : R → ES → Prop} (h : ρ[i]? = some (.pn (.pen p))) : Ho (evPnGet i x ρ) Q = optH (pnGet x p) fun d => Q (.va d) ρ := by
  unfold evPnGet
  simp only [h]
  cases pnGet x p <;> rfl
theorem ho_evPnPut {i : Nat} {x : Str} {fa : M R} {Q : Fl → ES → Prop} : Ho (evPnPut i x fa ρ) Q = Ho (fa ρ) fun r ρ1 => (match r, ρ1[i]? with
    | .va (.int j), some (.pn (.pen p)) => optH (pnPut x j p) fun p' => Q .nx (ρ1.set i (.pn (.pen p')))
    | _, _ => False) := by
  unfold evPnPut
  simp only [ho_bnd]
  congr 1; funext r ρ1
  cases r with
  | va d =>
    cases d with
    | int j =>
      cases ρ1[i]? with
      | none => rfl
      | some s =>
        cases s with
        | pn m =>
          cases m with
          | pen p =>
            simp only
            cases pnPut x j p <;> rfl
          | ob _ _ => rfl
        | _ => rfl
    | _ => rfl
  | _ => rfl
theorem ho_evLM {i : Nat} {m : List D → List D → Option (D × List D)} {fs : M (List R)} {xs0 : List D} {Q : R → ES → Prop} (h : ρ[i]? = some (.ow xs0)) : Ho (evLM i m fs ρ) Q = Ho (fs ρ) fun rs ρ1 => Ho (frzSs rs ρ1) fun ds ρ2 => (match ρ2[i]? with
    | some (.ow xs) => optH (m xs ds) fun z => Q (.va z.1) (ρ2.set i (.ow z.2))
    | _ => False) := by
  unfold evLM
  simp only [h, ho_bnd]
  congr 1; funext rs ρ1; congr 1; funext ds ρ2
  cases ρ2[i]? with
  | none => rfl
  | some s =>
    cases s with
    | ow xs =>
      simp only
      cases m xs ds with
      | none => rfl
      | some z => obtain ⟨z1, z2⟩ := z; rfl
    | _ => rfl
theorem ho_evLSet {i : Nat} {fi fv : M R} {Q : Fl → ES → Prop} : Ho (evLSet i fi fv ρ) Q = Ho (fv ρ) fun rv ρ1 => Ho (frzS rv.frz ρ1) fun d ρ2 => (match ρ2[i]? with
    | some (.ow _) => Ho (fi ρ2) fun ri ρ3 => (match ri, ρ3[i]? with
      | .va (.int k), some (.ow xs) => optH (ixN xs.length k) fun j => Q .nx (ρ3.set i (.ow (xs.set j d)))
      | _, _ => False)
    | _ => False) := by
  unfold evLSet
  simp only [ho_bnd, ho_frzM]
  congr 1; funext rv ρ1; congr 1; funext d ρ2
  cases ρ2[i]? with
  | none => rfl
  | some s =>
    cases s with
    | ow xs0 =>
      simp only [ho_bnd]
      congr 1; funext ri ρ3
      cases ri with
      | va e =>
        cases e with
        | int k =>
          cases ρ3[i]? with
          | none => rfl
          | some s =>
            cases s with
            | ow xs =>
              simp only
              cases ixN xs.length k <;> rfl
            | _ => rfl
        | _ => rfl
      | _ => rfl
    | _ => rfl
def tmH (g : List D → D → Option R) (d : D) (k : (List D → Prop) → Prop) : Prop := match d with
  | .lst _ => k fun _ => True
  | _ => True
/-- xs.index(x), xs.count(x) on data -/
theorem ho_evTM_tup {g : List D → D → Option R} {fa fb : M R} {Q : R → ES → Prop} {r : R} {ρ1 : ES} {xs : List D} (h : fa ρ = some (.ok r ρ1)) (hd : r.frz = .va (.tup xs)) : Ho (evTM g fa fb ρ) Q = Ho (fb ρ1) fun r2 ρ2 => optH (rdD ρ2 r2.frz) fun e => optH (g xs e) fun z => Q z ρ2 := by
  unfold evTM
  rw [ho_bnd, ho_frzM, h, ho_ok, hd]
  show Ho (M.bnd (evCons fb evNil) _ ρ1) Q = _
  rw [ho_bnd, ho_evCons]
  congr 1; funext r2 ρ2
  rw [ho_evNil]
  show Ho (match rdD ρ2 r2.frz with
    | some e => M.lift (g xs e) ρ2
    | none => none) Q = _
  cases rdD ρ2 r2.frz with
  | none => rfl
  | some d => simp only [ho_lift, optH]
theorem ho_evSq {fa : M R} {Q : List D → ES → Prop} : Ho (evSq fa ρ) Q = Ho (fa ρ) fun r ρ1 => Ho (frzS r.frz ρ1) fun d ρ2 => optH (sqD d) fun ds => Q ds ρ2 := by
  unfold evSq
  simp only [ho_bnd, ho_frzM]
  congr 1; funext r ρ1; congr 1; funext d ρ2
  simp only [ho_lift, optH]
theorem ho_evRng {g : List R → Option (List D)} {fs : M (List R)} {Q : List D → ES → Prop} : Ho (evRng g fs ρ) Q = Ho (fs ρ) fun rs ρ1 => optH (g rs) fun ds => Q ds ρ1 := by
  unfold evRng
  simp only [ho_bnd, ho_lift, optH]
theorem ho_evEn {fs : M (List R)} {Q : List D → ES → Prop} : Ho (evEn fs ρ) Q = Ho (fs ρ) fun rs ρ1 => Ho (frzSs rs ρ1) fun ds ρ2 => (match ds with
    | [d] => optH (sqD d) fun xs => Q (enD xs) ρ2
    | _ => False) := by
  unfold evEn
  simp only [ho_bnd, ho_lift]
  congr 1; funext rs ρ1; congr 1; funext ds ρ2
  match ds with
  | [] => rfl
  | [d] => simp only; cases sqD d <;> rfl
  | _ :: _ :: _ => rfl
theorem ho_evZp {fs : M (List R)} {Q : List D → ES → Prop} : Ho (evZp fs ρ) Q = Ho (fs ρ) fun rs ρ1 => Ho (frzSs rs ρ1) fun ds ρ2 => (match ds with
    | [d, e] => optH (sqD d) fun xs => optH (sqD e) fun ys => Q (zpD xs ys) ρ2
    | _ => False) := by
  unfold evZp
  simp only [ho_bnd, ho_lift]
  congr 1; funext rs ρ1; congr 1; funext ds ρ2
  match ds with
  | [] => rfl
  | [d] => rfl
  | [d, e] =>
    simp only
    cases sqD d with
    | none => rfl
    | some xs => cases sqD e <;> rfl
  | _ :: _ :: _ :: _ => rfl
/-! ### loops -/
theorem ho_evFor {fi : M (List D)} {t : Tg} {f : M Fl} {Q : Fl → ES → Prop} : Ho (evFor fi t f ρ) Q = Ho (fi ρ) fun ds ρ1 => Ho (forM t f ds ρ1) Q := by
  unfold evFor
  rw [ho_bnd]
def stepH (fl : Fl) (ρ : ES) (k : Prop) (Q : Fl → ES → Prop) : Prop := match fl with
  | .nx => k
  | .ct => k
  | .bk => Q .nx ρ
  | .rt r => Q (.rt r) ρ
theorem stepH_nx {k : Prop} {Q : Fl → ES → Prop} : stepH .nx ρ k Q = k := rfl
theorem stepH_ct {k : Prop} {Q : Fl → ES → Prop} : stepH .ct ρ k Q = k := rfl
theorem stepH_bk {k : Prop} {Q : Fl → ES → Prop} : stepH .bk ρ k Q = Q .nx ρ := rfl
theorem stepH_rt {k : Prop} {Q : Fl → ES → Prop} {r : R} : stepH (.rt r) ρ k Q = Q (.rt r) ρ := rfl
theorem forM_inv {t : Tg} {f : M Fl} {Q : Fl → ES → Prop} (I : List D → ES → Prop) (h : ∀ d ds ρ, I (d :: ds) ρ → optH (t d ρ) fun ρ1 => Ho (f ρ1) fun fl ρ2 => stepH fl ρ2 (I ds ρ2) Q) (h0 : ∀ ρ, I [] ρ → Q .nx ρ) :
    ∀ (ds : List D) (ρ : ES), I ds ρ → Ho (forM t f ds ρ) Q
  | [], ρ, i => h0 ρ i
  | d :: ds, ρ, i => by
    have q := h d ds ρ i
    unfold forM
    cases ht : t d ρ with
    | none => rw [ht] at q; exact q.elim
    | some ρ1 =>
      rw [ht] at q
      obtain ⟨fl, ρ2, e, q2⟩ := Ho.get (show Ho (f ρ1) _ from q)
      simp only [e]
      cases fl with
      | nx => exact forM_inv I h h0 ds ρ2 q2
      | ct => exact forM_inv I h h0 ds ρ2 q2
      | bk => exact q2
      | rt r => exact q2
theorem whileM_inv {c : M Bool} {f : M Fl} {Q : Fl → ES → Prop} (I : Nat → ES → Prop) (h : ∀ n ρ, I n ρ → Ho (c ρ) fun k ρ1 => if k = true then Ho (f ρ1) (fun fl ρ2 => stepH fl ρ2 (∃ m, m < n ∧ I m ρ2) Q) else Q .nx ρ1) :
    ∀ (n : Nat) (ρ : ES), I n ρ → ∃ m, Ho (whileM c f m ρ) Q := by
  intro n
  induction n using Nat.strongRecOn with
  | ind n ih =>
    intro ρ i
    obtain ⟨k, ρ1, e, q⟩ := (h n ρ i).get
    cases k with
    | false => exact ⟨1, by unfold whileM; simp only [e]; exact q⟩
    | true =>
      simp only [if_true] at q
      obtain ⟨fl, ρ2, e2, q2⟩ := q.get
      cases fl with
      | nx =>
        obtain ⟨m, hm, i2⟩ := q2
        obtain ⟨j, hj⟩ := ih m hm ρ2 i2
        exact ⟨j + 1, by unfold whileM; simp only [e, e2]; exact hj⟩
      | ct =>
        obtain ⟨m, hm, i2⟩ := q2
        obtain ⟨j, hj⟩ := ih m hm ρ2 i2
        exact ⟨j + 1, by unfold whileM; simp only [e, e2]; exact hj⟩
      | bk => exact ⟨1, by unfold whileM; simp only [e, e2]; exact q2⟩
      | rt r => exact ⟨1, by unfold whileM; simp only [e, e2]; exact q2⟩
theorem ho_evWhile {c : M Bool} {f : M Fl} {Q : Fl → ES → Prop} (I : Nat → ES → Prop) (h : ∀ n ρ, I n ρ → Ho (c ρ) fun k ρ1 => if k = true then Ho (f ρ1) (fun fl ρ2 => stepH fl ρ2 (∃ m, m < n ∧ I m ρ2) Q) else Q .nx ρ1) (n : Nat) (i : I n ρ) : Ho (evWhile c f ρ) Q := by
  obtain ⟨m, hm⟩ := whileM_inv I h n ρ i
  obtain ⟨a, ρ', e, q⟩ := hm.get
  exact Ho.mk (evWhile_of e) q
theorem ho_evComp {vs : List Nat} {fi : M (List D)} {t : Tg} {c : M Bool} {f : M R} {Q : R → ES → Prop} : Ho (evComp vs fi t c f ρ) Q = Ho (fi ρ) fun ds ρ1 => Ho (compE vs t c f ds ρ1) Q := by
  unfold evComp
  rw [ho_bnd]
theorem compM_map {vs : List Nat} {t : Tg} {c : M Bool} {f : M R} {ρ0 : ES} {g : D → Option D} : ∀ (ds acc : List D), (∀ d ∈ ds, optH (t d ρ0) fun ρ1 => Ho (c ρ1) fun k ρ2 => if k = true then Ho (f ρ2) (fun r ρ3 => Ho (frzS r.frz ρ3) fun y ρ4 => wipeE ρ4 vs = ρ0 ∧ g d = some y) else wipeE ρ2 vs = ρ0 ∧ g d = none) →
    acc.length + ds.length ≤ 100000 → compM vs t c f ds acc ρ0 = some (ρ0, acc ++ ds.filterMap g)
  | [], acc, _, _ => by simp [compM]
  | d :: ds, acc, h, hl => by
    have q := h d List.mem_cons_self
    rw [List.length_cons] at hl
    unfold compM
    cases ht : t d ρ0 with
    | none => rw [ht] at q; exact q.elim
    | some ρ1 =>
      rw [ht] at q
      obtain ⟨k, ρ2, e, q2⟩ := Ho.get (show Ho (c ρ1) _ from q)
      simp only [e]
      cases k with
      | false =>
        simp only [Bool.false_eq_true, if_false] at q2 ⊢
        rw [q2.1, compM_map ds acc (fun d' hd => h d' (List.mem_cons_of_mem _ hd)) (by omega), List.filterMap_cons_none q2.2]
      | true =>
        simp only [if_true] at q2 ⊢
        have q3 : Ho (M.bnd (frzM f) frzS ρ2) fun y ρ4 => wipeE ρ4 vs = ρ0 ∧ g d = some y := by rw [ho_bnd, ho_frzM]; exact q2
        obtain ⟨y, ρ4, e4, q4⟩ := q3.get
        have hf : few acc = true := decide_eq_true (by omega)
        simp only [e4, hf, if_true]
        rw [q4.1, compM_map ds (acc ++ [y]) (fun d' hd => h d' (List.mem_cons_of_mem _ hd)) (by rw [List.length_append]; simp; omega), List.filterMap_cons_some q4.2]
        simp
theorem ho_compE {vs : List Nat} {t : Tg} {c : M Bool} {f : M R} {ds : List D} {Q : R → ES → Prop} (g : D → Option D) (h : ∀ d ∈ ds, optH (t d (wipeE ρ vs)) fun ρ1 => Ho (c ρ1) fun k ρ2 => if k = true then Ho (f ρ2) (fun r ρ3 => Ho (frzS r.frz ρ3) fun y ρ4 => wipeE ρ4 vs = wipeE ρ vs ∧ g d = some y) else wipeE ρ2 vs = wipeE ρ vs ∧ g d = none)
    (hl : ds.length ≤ 100000) (q : Q (.ow (ds.filterMap g)) (unwipe ρ (wipeE ρ vs) vs)) : Ho (compE vs t c f ds ρ) Q := by
  unfold compE
  rw [compM_map ds [] h (by simpa using hl)]
  simp only [List.nil_append]
  exact q
/-! ### a def's answer -/
def flR (fl : Fl) (P : DRes → Prop) : Prop := match fl with
  | .nx => P (.va .non)
  | .rt (.va d) => P (.va d)
  | .rt (.ow ds) => P (.ow ds)
  | _ => False
theorem runD_ex {N : Nat} {m : M Fl} {ds : List D} {P : DRes → Prop} (h : Ho (m (ini N ds)) fun fl _ => flR fl P) : ∃ r, runD N m ds = some r ∧ P r := by
  obtain ⟨fl, ρ, e, q⟩ := h.get
  unfold runD
  rw [e]
  cases fl with
  | nx => exact ⟨_, rfl, q⟩
  | rt r =>
    cases r with
    | va d => exact ⟨_, rfl, q⟩
    | ow es => exact ⟨_, rfl, q⟩
    | sl i => exact q.elim
  | _ => exact q.elim
theorem runD_eq {N : Nat} {m : M Fl} {ds : List D} {r : DRes} (h : Ho (m (ini N ds)) fun fl _ => flR fl fun z => z = r) : runD N m ds = some r := by
  obtain ⟨z, e, q⟩ := runD_ex h
  rw [e, q]
theorem runN_ex {N : Nat} {m : M Fl} {p : Mo} {ds : List D} {P : DRes → Mo → Prop} (h : Ho (m (.pn p :: ini (N - 1) ds)) fun fl ρ => flR fl fun r => ∃ p', ρ[0]? = some (.pn p') ∧ P r p') : ∃ r p', runN N m p ds = some (r, p') ∧ P r p' := by
  obtain ⟨fl, ρ, e, q⟩ := h.get
  unfold runN
  rw [e]
  cases fl with
  | nx => obtain ⟨p', e2, q2⟩ := q; exact ⟨_, p', by simp only [resP, e2], q2⟩
  | rt r =>
    cases r with
    | va d => obtain ⟨p', e2, q2⟩ := q; exact ⟨_, p', by simp only [resP, resR, e2], q2⟩
    | ow es => obtain ⟨p', e2, q2⟩ := q; exact ⟨_, p', by simp only [resP, resR, e2], q2⟩
    | sl i => exact q.elim
  | _ => exact q.elim
end
end Mc
end
section
set_option Elab.async false
set_option linter.all false
set_option maxRecDepth 100000
set_option maxHeartbeats 4000000
set_option autoImplicit false
namespace Mc
open PySem PySem.Spec L2

/-! ### values -/
section
variable {i j : Int} {xs ys : List D} {ρ : ES} {d : D}
theorem beqI : (i == j) = decide (i = j) := by
  by_cases h : i = j <;> simp [h]
theorem v_add : addD (.int i) (.int j) = some (.va (.int (i + j))) := rfl
theorem v_sub : intD gSub (.int i) (.int j) = some (.va (.int (i - j))) := rfl
theorem v_mul (h : (small64 i || small64 j) = true) : mulD (.int i) (.int j) = some (.va (.int (i * j))) := by
  simp only [mulD, h, if_true, gMul, Option.map]
theorem v_mod (h : 0 < j) : intD gMod (.int i) (.int j) = some (.va (.int (i % j))) := by
  simp only [intD, gMod, h, if_true, Option.map]
theorem v_div (h : 0 < j ∧ j < 1073741824) : intD gDiv (.int i) (.int j) = some (.va (.int (i / j))) := by
  simp only [intD, gDiv, h, and_self, if_true, Option.map]
theorem v_neg : negD (.int i) = some (.va (.int (-i))) := rfl
theorem v_eqI : eqD (.int i) (.int j) = some (.va (.bl (decide (i = j)))) := by
  have : eqB (.int i) (.int j) = some (i == j) := rfl
  unfold eqD
  rw [this, beqI]
  rfl
theorem v_neI : neD (.int i) (.int j) = some (.va (.bl (!decide (i = j)))) := by
  have : eqB (.int i) (.int j) = some (i == j) := rfl
  unfold neD
  rw [this, beqI]
  rfl
theorem v_ltB : ltB (.int i) (.int j) = some (decide (i < j)) := by
  rw [← PySem.W.dataLt_int]
  rfl
theorem v_gtB : gtB (.int i) (.int j) = some (decide (j < i)) := by
  rw [← PySem.W.dataLt_int]
  rfl
theorem v_lt : ltD (.int i) (.int j) = some (.va (.bl (decide (i < j)))) := by unfold ltD; rw [v_ltB]; rfl
theorem v_gt : gtD (.int i) (.int j) = some (.va (.bl (decide (j < i)))) := by unfold gtD; rw [v_gtB]; rfl
theorem v_le : leD (.int i) (.int j) = some (.va (.bl (!decide (j < i)))) := by unfold leD; rw [v_gtB]; rfl
theorem v_ge : geD (.int i) (.int j) = some (.va (.bl (!decide (i < j)))) := by unfold geD; rw [v_ltB]; rfl
theorem v_lenL : lenD [.lst xs] = some (.va (.int xs.length)) := rfl
theorem v_lenT : lenD [.tup xs] = some (.va (.int xs.length)) := rfl
theorem v_toi : toiD [.int i] = some (.va (.int i)) := rfl
theorem v_abs : absD [.int i] = some (.va (.int (if i < 0 then -i else i))) := rfl
theorem v_tupL : tupD [.lst xs] = some (.va (.tup xs)) := rfl
theorem v_tupT : tupD [.tup xs] = some (.va (.tup xs)) := rfl
theorem v_ixL : ixD (.lst xs) (.int i) = (atI xs i).map .va := rfl
theorem v_ixT : ixD (.tup xs) (.int i) = (atI xs i).map .va := rfl
theorem v_sqL : sqD (.lst xs) = some xs := rfl
theorem v_sqT : sqD (.tup xs) = some xs := rfl
theorem r_va : rdD ρ (.va d) = some d := rfl
theorem r_sl {i : Nat} : rdD ρ (.sl i) = (match ρ[i]? with
    | some (.ow ds) => some (.lst ds)
    | some (.va d) => some d
    | _ => none) := rfl
theorem z_va : R.frz (.va d) = .va d := rfl
theorem z_ow : R.frz (.ow xs) = .va (.lst xs) := rfl
theorem z_sl {i : Nat} : R.frz (.sl i) = .sl i := rfl
theorem rs_nil : rdDs ρ [] = some [] := rfl
theorem rs_cons {r : R} {rs : List R} : rdDs ρ (r :: rs) = (match rdD ρ r, rdDs ρ rs with
    | some d, some ds => some (d :: ds)
    | _, _ => none) := rfl
theorem tru_def {r : R} : truR ρ r = (match rdD ρ r with
    | some d => truD d
    | none => none) := rfl
theorem v_pow : intD gPow (.int i) (.int j) = (gPow i j).map fun n => .va (.int n) := rfl
end
/-- the term is reckoned -/
def hos := (And.intro @ho_ok (And.intro @ho_ret (And.intro @ho_evC (And.intro @ho_evVar (And.intro @ho_evNil (And.intro @ho_evCons (And.intro @ho_evBin (And.intro @ho_evUn (And.intro @ho_evB (And.intro @ho_evAnd (And.intro @ho_evOr (And.intro @ho_evNot (And.intro @ho_evTru (And.intro @ho_evAndT (And.intro @ho_evOrT (And.intro @ho_evNotT (And.intro @ho_evIf (And.intro @ho_evBl (And.intro @ho_evChain (And.intro @ho_evSeq (And.intro @ho_evSkip (And.intro @ho_evDrop (And.intro @ho_evRet (And.intro @ho_evAsg (And.intro @ho_evAsgT (And.intro @ho_evPar2 (And.intro @ho_evPar3 (And.intro @ho_evCall (And.intro @ho_evCallN (And.intro @ho_evN (And.intro @ho_evTup (And.intro @ho_evLst (And.intro @ho_evPart (And.intro @ho_evSlice (And.intro @ho_evFld (And.intro @ho_evPnPut (And.intro @ho_frzS_va (And.intro @ho_frzS_sl (And.intro @ho_frzSs_nil (And.intro @ho_frzSs_cons (And.intro @ho_evSq (And.intro @ho_evRng (And.intro @ho_evFor (And.intro @ho_evComp (And.intro @ho_evLSet (And.intro @ho_evEn (And.intro @ho_evZp (And.intro @optH_some (And.intro @optH_none (And.intro @optH_map (And.intro @blH_bl (And.intro @nxH_nx (And.intro @nxH_rt (And.intro @nxH_bk (And.intro @nxH_ct (And.intro @retH_va (And.intro @retH_ow (And.intro @retH_sl (And.intro @asgH_va (And.intro @asgH_ow (And.intro @fldH_ob (And.intro @r_va (And.intro @r_sl (And.intro @z_va (And.intro @z_ow (And.intro @z_sl (And.intro @rs_nil (And.intro @rs_cons (And.intro @tru_def (And.intro @v_add (And.intro @v_sub (And.intro @v_neg (And.intro @v_eqI (And.intro @v_neI (And.intro @v_lt (And.intro @v_gt (And.intro @v_le (And.intro @v_ge (And.intro @v_lenL (And.intro @v_lenT (And.intro @v_toi (And.intro @v_abs (And.intro @v_tupL (And.intro @v_tupT (And.intro @v_ixL (And.intro @v_ixT (And.intro @v_sqL @v_sqT)))))))))))))))))))))))))))))))))))))))))))))))))))))))))))))))))))))))))))))))))))))))
theorem gz {α : Type} {a : α} {l : List α} : (a :: l)[0]? = some a := rfl
/-! ### _law_draw -/
def drawM : M Fl := (evSeq (evPnPut 0 "count" (evBin addD (evPnGet 0 "count") (evC (.int 1)))) (evSeq (evIf (evAndT (evBl (evBin eqD (evPnGet 0 "digits") (evC (.int 0)))) (evBl (evBin ltD (evPnGet 0 "at") (evB lenD (evCons (evPnGet 0 "cells") evNil))))) (evSeq (evAsg 2 (evBin ixD (evPnGet 0 "cells") (evPnGet 0 "at"))) (evSeq (evPnPut 0 "at" (evBin addD (evPnGet 0 "at") (evC (.int 1)))) (evIf (evBl (evBin geD (evVar 2) (evBin (intD gPow) (evC (.int 10)) (evC (.int 18))))) (evPnPut 0 "digits" (evBin (intD gSub) (evVar 2) (evBin (intD gPow) (evC (.int 10)) (evC (.int 18))))) (evPnPut 0 "fold" (evBin (intD gMod) (evB toiD (evCons (evBin addD (evBin mulD (evPnGet 0 "fold") (evC (.int 69069))) (evVar 2)) evNil)) (evC (.int 2147483587))))))) evSkip) (evSeq (evIf (evBl (evBin gtD (evPnGet 0 "digits") (evC (.int 0)))) (evSeq (evAsg 3 (evBin (intD gMod) (evB toiD (evCons (evPnGet 0 "digits") evNil)) (evVar 1))) (evSeq (evPnPut 0 "digits" (evBin (intD gDiv) (evPnGet 0 "digits") (evVar 1))) (evRet (evVar 3)))) evSkip) (evSeq (evAsg 4 (evBin (intD gMod) (evB toiD (evCons (evBin addD (evBin addD (evBin mulD (evPnGet 0 "fold") (evC (.int 48271))) (evBin mulD (evPnGet 0 "count") (evC (.int 7919)))) (evC (.int 13))) evNil)) (evC (.int 2147483647)))) (evSeq (evAsg 4 (evBin (intD gMod) (evB toiD (evCons (evBin addD (evBin addD (evBin mulD (evVar 4) (evVar 4)) (evBin mulD (evC (.int 31)) (evVar 4))) (evPnGet 0 "count")) evNil)) (evC (.int 2147483629)))) (evSeq (evPnPut 0 "fold" (evBin (intD gMod) (evB toiD (evCons (evBin addD (evBin mulD (evVar 4) (evC (.int 16807))) (evC (.int 7))) evNil)) (evC (.int 2147483647)))) (evRet (evBin (intD gMod) (evB toiD (evCons (evBin (intD gDiv) (evVar 4) (evC (.int 64))) evNil)) (evVar 1)))))))))
/-- a pen as it may stand -/
def PnOk (p : Pn) : Prop := 0 ≤ p.at_ ∧ 0 ≤ p.digits
theorem g_count {p : Pn} : pnGet "count" p = some (.int p.count) := by with_unfolding_all rfl
theorem g_digits {p : Pn} : pnGet "digits" p = some (.int p.digits) := by with_unfolding_all rfl
theorem g_at {p : Pn} : pnGet "at" p = some (.int p.at_) := by with_unfolding_all rfl
theorem g_fold {p : Pn} : pnGet "fold" p = some (.int p.fold) := by with_unfolding_all rfl
theorem g_cells {p : Pn} : pnGet "cells" p = some (.lst (p.cells.map .int)) := by with_unfolding_all rfl
theorem u_count {p : Pn} {i : Int} : pnPut "count" i p = some { p with count := i } := by with_unfolding_all rfl
theorem u_digits {p : Pn} {i : Int} : pnPut "digits" i p = some { p with digits := i } := by with_unfolding_all rfl
theorem u_at {p : Pn} {i : Int} : pnPut "at" i p = some { p with at_ := i } := by with_unfolding_all rfl
theorem u_fold {p : Pn} {i : Int} : pnPut "fold" i p = some { p with fold := i } := by with_unfolding_all rfl
theorem ho_get {ρ : ES} {i : Nat} {x : Str} {p : Pn} {d : D} {Q : R → ES → Prop} (h : ρ[i]? = some (.pn (.pen p))) (e : pnGet x p = some d) : Ho (evPnGet i x ρ) Q = Q (.va d) ρ := by rw [ho_evPnGet h, e]; rfl

theorem seq_i {f g : M Fl} {ρ : ES} {Q : Fl → ES → Prop} (I : ES → Prop) (h : Ho (f ρ) fun fl ρ' => nxH fl ρ' (I ρ') Q) (k : ∀ ρ', I ρ' → Ho (g ρ') Q) : Ho (evSeq f g ρ) Q := by
  rw [ho_evSeq]
  refine h.imp fun fl ρ' q => ?_
  cases fl with
  | nx => exact k ρ' q
  | _ => exact q
theorem if_t {α : Type} {c : M Bool} {f g : M α} {ρ : ES} {Q : α → ES → Prop} (h : Ho (c ρ) fun k ρ' => k = true ∧ ρ' = ρ) (k : Ho (f ρ) Q) : Ho (evIf c f g ρ) Q := by
  rw [ho_evIf]
  refine h.imp fun b ρ' ⟨e1, e2⟩ => ?_
  subst e1 e2
  exact k
theorem if_f {α : Type} {c : M Bool} {f g : M α} {ρ : ES} {Q : α → ES → Prop} (h : Ho (c ρ) fun k ρ' => k = false ∧ ρ' = ρ) (k : Ho (g ρ) Q) : Ho (evIf c f g ρ) Q := by
  rw [ho_evIf]
  refine h.imp fun b ρ' ⟨e1, e2⟩ => ?_
  subst e1 e2
  exact k
theorem atI_get {xs : List Int} {i : Int} (h0 : 0 ≤ i) (h1 : i < xs.length) : ∃ c, atI (xs.map D.int) i = some (.int c) := by
  refine ⟨xs[i.toNat]'(by omega), ?_⟩
  unfold L2.atI L2.ixN
  rw [List.length_map, if_pos h0, if_pos h1]
  simp only [Option.bind_some, List.getElem?_map]
  rw [List.getElem?_eq_getElem (by omega)]
  rfl
def drawA : M Fl := (evSeq (evAsg 2 (evBin ixD (evPnGet 0 "cells") (evPnGet 0 "at"))) (evSeq (evPnPut 0 "at" (evBin addD (evPnGet 0 "at") (evC (.int 1)))) (evIf (evBl (evBin geD (evVar 2) (evBin (intD gPow) (evC (.int 10)) (evC (.int 18))))) (evPnPut 0 "digits" (evBin (intD gSub) (evVar 2) (evBin (intD gPow) (evC (.int 10)) (evC (.int 18))))) (evPnPut 0 "fold" (evBin (intD gMod) (evB toiD (evCons (evBin addD (evBin mulD (evPnGet 0 "fold") (evC (.int 69069))) (evVar 2)) evNil)) (evC (.int 2147483587)))))))
theorem draw_a {p : Pn} {many : D} (hp : PnOk p) (hl : p.at_ < p.cells.length) : Ho (drawA [.pn (.pen p), .va many, .no, .no, .no]) fun fl ρ => fl = .nx ∧ ∃ p' c, PnOk p' ∧ ρ = [.pn (.pen p'), .va many, .va (.int c), .no, .no] := by
  obtain ⟨ha, hd⟩ := hp
  obtain ⟨c, hc⟩ := atI_get ha hl
  have e2 : gPow 10 18 = some 1000000000000000000 := by decide +kernel
  have e3 : ∀ i : Int, (small64 i || small64 69069) = true := fun i => by simp [small64]
  unfold drawA
  refine seq_i (fun ρ => ρ = [.pn (.pen p), .va many, .va (.int c), .no, .no]) ?_ fun ρ e => ?_
  · simp only [↓hos, ↓ho_get gz g_cells, ↓ho_get gz g_at, ↓hc, Option.map, List.length_cons, List.length_nil, List.set_cons_zero, List.set_cons_succ]
    exact ⟨by decide, trivial⟩
  subst e
  refine seq_i (fun ρ => ρ = [.pn (.pen { p with at_ := p.at_ + 1 }), .va many, .va (.int c), .no, .no]) ?_ fun ρ e => ?_
  · simp only [↓hos, ↓ho_evPnPut, ↓ho_get gz g_at, ↓gz, ↓u_at, List.set_cons_zero]
  subst e
  by_cases h : (1000000000000000000 : Int) ≤ c
  · refine if_t ?_ ?_
    · simp only [↓hos, ↓gz, ↓List.getElem?_cons_succ, v_pow, e2, Option.map]
      simp; omega
    · simp only [↓hos, ↓ho_evPnPut, ↓gz, ↓List.getElem?_cons_succ, v_pow, e2, Option.map, ↓u_digits, List.set_cons_zero]
      refine ⟨trivial, _, c, ?_, rfl⟩
      constructor <;> simp only <;> omega
  · refine if_f ?_ ?_
    · simp only [↓hos, ↓gz, ↓List.getElem?_cons_succ, v_pow, e2, Option.map]
      simp; omega
    · simp only [↓hos, ↓ho_evPnPut, ↓ho_get gz g_fold, ↓gz, ↓List.getElem?_cons_succ, v_mul (e3 _), v_mod (show (0 : Int) < 2147483587 by decide), ↓u_fold, List.set_cons_zero]
      refine ⟨trivial, _, c, ?_, rfl⟩
      constructor <;> simp only <;> omega
def drawB : M Fl := (evSeq (evAsg 3 (evBin (intD gMod) (evB toiD (evCons (evPnGet 0 "digits") evNil)) (evVar 1))) (evSeq (evPnPut 0 "digits" (evBin (intD gDiv) (evPnGet 0 "digits") (evVar 1))) (evRet (evVar 3))))
def drawC : M Fl := (evSeq (evAsg 4 (evBin (intD gMod) (evB toiD (evCons (evBin addD (evBin addD (evBin mulD (evPnGet 0 "fold") (evC (.int 48271))) (evBin mulD (evPnGet 0 "count") (evC (.int 7919)))) (evC (.int 13))) evNil)) (evC (.int 2147483647)))) (evSeq (evAsg 4 (evBin (intD gMod) (evB toiD (evCons (evBin addD (evBin addD (evBin mulD (evVar 4) (evVar 4)) (evBin mulD (evC (.int 31)) (evVar 4))) (evPnGet 0 "count")) evNil)) (evC (.int 2147483629)))) (evSeq (evPnPut 0 "fold" (evBin (intD gMod) (evB toiD (evCons (evBin addD (evBin mulD (evVar 4) (evC (.int 16807))) (evC (.int 7))) evNil)) (evC (.int 2147483647)))) (evRet (evBin (intD gMod) (evB toiD (evCons (evBin (intD gDiv) (evVar 4) (evC (.int 64))) evNil)) (evVar 1))))))
theorem drawM_is : drawM = evSeq (evPnPut 0 "count" (evBin addD (evPnGet 0 "count") (evC (.int 1)))) (evSeq (evIf (evAndT (evBl (evBin eqD (evPnGet 0 "digits") (evC (.int 0)))) (evBl (evBin ltD (evPnGet 0 "at") (evB lenD (evCons (evPnGet 0 "cells") evNil))))) drawA evSkip) (evSeq (evIf (evBl (evBin gtD (evPnGet 0 "digits") (evC (.int 0)))) drawB evSkip) drawC)) := rfl
def DrawP (many : Int) (r : DRes) (q : Mo) : Prop := ∃ i p', r = .va (.int i) ∧ q = .pen p' ∧ 0 ≤ i ∧ i < many ∧ PnOk p'
theorem draw_b {p : Pn} {many : Int} {x y z : Sl} (hp : PnOk p) (h0 : 0 < many) (h1 : many < 1073741824) : Ho (drawB [.pn (.pen p), .va (.int many), x, y, z]) fun fl ρ => flR fl fun r => ∃ p', ρ[0]? = some (.pn p') ∧ DrawP many r p' := by
  unfold drawB
  refine seq_i (fun ρ => ρ = [.pn (.pen p), .va (.int many), x, .va (.int (p.digits % many)), z]) ?_ fun ρ e => ?_
  · simp only [↓hos, ↓ho_get gz g_digits, ↓gz, ↓List.getElem?_cons_succ, ↓v_mod h0, List.length_cons, List.length_nil, List.set_cons_zero, List.set_cons_succ]
    exact ⟨by decide, trivial⟩
  subst e
  refine seq_i (fun ρ => ρ = [.pn (.pen { p with digits := p.digits / many }), .va (.int many), x, .va (.int (p.digits % many)), z]) ?_ fun ρ e => ?_
  · simp only [↓hos, ↓ho_evPnPut, ↓ho_get gz g_digits, ↓gz, ↓List.getElem?_cons_succ, ↓v_div ⟨h0, h1⟩, ↓u_digits, List.set_cons_zero]
  subst e
  simp only [↓hos, ↓gz, ↓List.getElem?_cons_succ]
  exact ⟨_, rfl, _, _, rfl, rfl, Int.emod_nonneg _ (by omega), Int.emod_lt_of_pos _ h0, hp.1, Int.ediv_nonneg hp.2 (by omega)⟩
theorem small_of {i : Int} (h0 : 0 ≤ i) (h1 : i < 18446744073709551616) : small64 i = true := by
  unfold small64
  exact decide_eq_true ⟨by omega, h1⟩
theorem draw_c {p : Pn} {many : Int} {x y z : Sl} (hp : PnOk p) (h0 : 0 < many) : Ho (drawC [.pn (.pen p), .va (.int many), x, y, z]) fun fl ρ => flR fl fun r => ∃ p', ρ[0]? = some (.pn p') ∧ DrawP many r p' := by
  unfold drawC
  have e1 : ∀ i : Int, (small64 i || small64 48271) = true := fun i => by simp [small64]
  have e2 : ∀ i : Int, (small64 i || small64 7919) = true := fun i => by simp [small64]
  have e3 : ∀ i : Int, (small64 i || small64 16807) = true := fun i => by simp [small64]
  have e4 : ∀ i : Int, (small64 31 || small64 i) = true := fun i => by simp [small64]
  obtain ⟨b, hb, hb0, hb1⟩ : ∃ b : Int, b = (p.fold * 48271 + p.count * 7919 + 13) % 2147483647 ∧ 0 ≤ b ∧ b < 2147483647 := ⟨_, rfl, Int.emod_nonneg _ (by decide), Int.emod_lt_of_pos _ (by decide)⟩
  refine seq_i (fun ρ => ρ = [.pn (.pen p), .va (.int many), x, y, .va (.int b)]) ?_ fun ρ e => ?_
  · simp only [↓hos, ↓ho_get gz g_fold, ↓ho_get gz g_count, ↓gz, ↓List.getElem?_cons_succ, ↓v_mul (e1 _), ↓v_mul (e2 _), ↓v_mod (show (0 : Int) < 2147483647 by decide), List.length_cons, List.length_nil, List.set_cons_zero, List.set_cons_succ, ← hb]
    exact ⟨by decide, trivial⟩
  subst e
  have e5 : (small64 b || small64 b) = true := by rw [small_of hb0 (by omega)]; rfl
  obtain ⟨c, hc⟩ : ∃ c : Int, c = (b * b + 31 * b + p.count) % 2147483629 := ⟨_, rfl⟩
  refine seq_i (fun ρ => ρ = [.pn (.pen p), .va (.int many), x, y, .va (.int c)]) ?_ fun ρ e => ?_
  · simp only [↓hos, ↓ho_get gz g_count, ↓gz, ↓List.getElem?_cons_succ, ↓v_mul e5, ↓v_mul (e4 _), ↓v_mod (show (0 : Int) < 2147483629 by decide), List.length_cons, List.length_nil, List.set_cons_zero, List.set_cons_succ, ← hc]
    exact ⟨by decide, trivial⟩
  subst e
  obtain ⟨g, hg⟩ : ∃ g : Int, g = (c * 16807 + 7) % 2147483647 := ⟨_, rfl⟩
  refine seq_i (fun ρ => ρ = [.pn (.pen { p with fold := g }), .va (.int many), x, y, .va (.int c)]) ?_ fun ρ e => ?_
  · simp only [↓hos, ↓ho_evPnPut, ↓gz, ↓List.getElem?_cons_succ, ↓v_mul (e3 _), ↓v_mod (show (0 : Int) < 2147483647 by decide), ↓u_fold, List.set_cons_zero, ← hg]
  subst e
  simp only [↓hos, ↓gz, ↓List.getElem?_cons_succ, ↓v_div (show (0 : Int) < 64 ∧ (64 : Int) < 1073741824 by decide), ↓v_mod h0]
  exact ⟨_, rfl, _, _, rfl, rfl, Int.emod_nonneg _ (by omega), Int.emod_lt_of_pos _ h0, hp⟩
theorem draw_ok {p : Pn} {many : Int} (hp : PnOk p) (h0 : 0 < many) (h1 : many < 1073741824) : ∃ i p', runN 5 drawM (.pen p) [.int many] = some (.va (.int i), .pen p') ∧ 0 ≤ i ∧ i < many ∧ PnOk p' := by
  have key : ∃ r q, runN 5 drawM (.pen p) [.int many] = some (r, q) ∧ DrawP many r q := by
    refine runN_ex ?_
    rw [drawM_is]
    show Ho (evSeq _ _ [.pn (.pen p), .va (.int many), .no, .no, .no]) _
    refine seq_i (fun ρ => ρ = [.pn (.pen { p with count := p.count + 1 }), .va (.int many), .no, .no, .no]) ?_ fun ρ e => ?_
    · simp only [↓hos, ↓ho_evPnPut, ↓ho_get gz g_count, ↓gz, ↓u_count, List.set_cons_zero]
    subst e
    have hp1 : PnOk { p with count := p.count + 1 } := hp
    generalize ({ p with count := p.count + 1 } : Pn) = p1 at hp1
    refine seq_i (fun ρ => ∃ p2 x, PnOk p2 ∧ ρ = [.pn (.pen p2), .va (.int many), x, .no, .no]) ?_ fun ρ ⟨p2, x, hp2, e⟩ => ?_
    · by_cases hc : p1.digits = 0 ∧ p1.at_ < p1.cells.length
      · refine if_t ?_ ?_
        · simp only [↓hos, ↓ho_get gz g_digits, ↓ho_get gz g_at, ↓ho_get gz g_cells, hc.1, decide_true, if_true, List.length_map, hc.2]
          exact ⟨trivial, trivial⟩
        · refine (draw_a hp1 hc.2).imp fun fl ρ ⟨e1, p', c, h2, e2⟩ => ?_
          subst e1 e2
          exact ⟨p', _, h2, rfl⟩
      · refine if_f ?_ ?_
        · by_cases hd : p1.digits = 0
          · have hl : ¬ p1.at_ < p1.cells.length := fun z => hc ⟨hd, z⟩
            simp only [↓hos, ↓ho_get gz g_digits, ↓ho_get gz g_at, ↓ho_get gz g_cells, hd, decide_true, if_true, List.length_map, hl, decide_false]
            exact ⟨trivial, trivial⟩
          · simp only [↓hos, ↓ho_get gz g_digits, hd, decide_false, Bool.false_eq_true, if_false]
            exact ⟨trivial, trivial⟩
        · exact ⟨p1, .no, hp1, rfl⟩
    subst e
    by_cases hd : 0 < p2.digits
    · refine seq_i (fun _ => False) ?_ fun ρ z => z.elim
      refine if_t ?_ ?_
      · simp only [↓hos, ↓ho_get gz g_digits, hd, decide_true]
        exact ⟨trivial, trivial⟩
      · refine (draw_b hp2 h0 h1).imp fun fl ρ q => ?_
        cases fl with
        | nx => obtain ⟨_, _, _, _, z, _⟩ := q; cases z
        | rt r => exact q
        | _ => exact q.elim
    · refine seq_i (fun ρ => ρ = [.pn (.pen p2), .va (.int many), x, .no, .no]) ?_ fun ρ e => ?_
      · refine if_f ?_ ?_
        · simp only [↓hos, ↓ho_get gz g_digits, hd, decide_false]
          exact ⟨trivial, trivial⟩
        · exact rfl
      · subst e
        exact draw_c hp2 h0
  obtain ⟨r, q, e, i, p', rfl, rfl, h⟩ := key
  exact ⟨i, p', e, h⟩
end Mc
end
section
set_option Elab.async false
set_option linter.all false
set_option maxRecDepth 100000
set_option maxHeartbeats 4000000
set_option autoImplicit false
namespace Mc
open PySem PySem.Spec L2

/-! ### calls with the pen -/
def drawF : Mo → List D → Option (DRes × Mo) := runN 5 drawM
theorem call_draw {i : Nat} {fa : M R} {ρ : ES} {Q : R → ES → Prop} {sl : Sl} (h0 : ρ[i]? = some sl) (hs : ∃ p, sl = .pn p) (ha : Ho (fa ρ) fun r ρ1 => ∃ many p, r = .va (.int many) ∧ ρ1[i]? = some (.pn (.pen p)) ∧ PnOk p ∧ 0 < many ∧ many < 1073741824 ∧ ∀ j p', 0 ≤ j → j < many → PnOk p' → Q (.va (.int j)) (ρ1.set i (.pn (.pen p')))) :
    Ho (evCallN drawF (evN 2 (evCons (evVar i) (evCons fa evNil))) ρ) Q := by
  obtain ⟨p0, rfl⟩ := hs
  rw [ho_evCallN, ho_evN, ho_evCons, ho_evVar]
  simp only [h0]
  rw [ho_evCons]
  refine ha.imp fun r ρ1 ⟨many, p, e, h1, h2, h3, h4, k⟩ => ?_
  subst e
  rw [ho_evNil]
  refine ⟨rfl, ?_⟩
  show Ho (callN drawF (.sl i :: [.va (.int many)]) ρ1) Q
  rw [ho_callN h1]
  simp only [↓hos]
  obtain ⟨j, p', e, q1, q2, q3⟩ := draw_ok h2 h3 h4
  rw [show drawF (.pen p) [.int many] = some (.va (.int j), .pen p') from e]
  exact k j p' q1 q2 q3
def pickM : M Fl := (evRet (evBin ixD (evVar 1) (evCallN drawF (evN 2 (evCons (evVar 0) (evCons (evB lenD (evCons (evVar 1) evNil)) evNil))))))
def pickF : Mo → List D → Option (DRes × Mo) := runN 2 pickM
theorem atI_mem {xs : List D} {i : Int} (h0 : 0 ≤ i) (h1 : i < xs.length) : ∃ d ∈ xs, atI xs i = some d := by
  refine ⟨xs[i.toNat]'(by omega), List.getElem_mem _, ?_⟩
  unfold L2.atI L2.ixN
  rw [if_pos h0, if_pos h1]
  simp only [Option.bind_some]
  rw [List.getElem?_eq_getElem (by omega)]
theorem pick_ok {p : Pn} {xs : List D} (hp : PnOk p) (h0 : 0 < xs.length) (h1 : xs.length < 1000000000) : ∃ d ∈ xs, ∃ p', pickF (.pen p) [.lst xs] = some (.va d, .pen p') ∧ PnOk p' := by
  have key : ∃ r q, pickF (.pen p) [.lst xs] = some (r, q) ∧ (∃ d ∈ xs, ∃ p', r = .va d ∧ q = .pen p' ∧ PnOk p') := by
    refine runN_ex ?_
    show Ho (pickM [.pn (.pen p), .va (.lst xs)]) _
    unfold pickM
    rw [ho_evRet, ho_evBin, ho_evVar]
    simp only [↓List.getElem?_cons_succ, ↓gz]
    refine call_draw (i := 0) rfl ⟨_, rfl⟩ ?_
    simp only [↓hos, ↓List.getElem?_cons_succ, ↓gz]
    refine ⟨_, p, rfl, rfl, hp, by omega, by omega, fun j p' q0 q1 q2 => ?_⟩
    obtain ⟨d, hd, e⟩ := atI_mem q0 q1
    simp only [↓hos, e, Option.map]
    exact ⟨_, rfl, d, hd, p', rfl, rfl, q2⟩
  obtain ⟨r, q, e, d, hd, p', rfl, rfl, h⟩ := key
  exact ⟨d, hd, p', e, h⟩
theorem call_pick {i : Nat} {fa : M R} {ρ : ES} {Q : R → ES → Prop} {sl : Sl} (h0 : ρ[i]? = some sl) (hs : ∃ p, sl = .pn p) (ha : Ho (fa ρ) fun r ρ1 => ∃ xs p, r.frz = .va (.lst xs) ∧ ρ1[i]? = some (.pn (.pen p)) ∧ PnOk p ∧ 0 < xs.length ∧ xs.length < 1000000000 ∧ ∀ d ∈ xs, ∀ p', PnOk p' → Q (.va d) (ρ1.set i (.pn (.pen p')))) :
    Ho (evCallN pickF (evN 2 (evCons (evVar i) (evCons fa evNil))) ρ) Q := by
  obtain ⟨p0, rfl⟩ := hs
  rw [ho_evCallN, ho_evN, ho_evCons, ho_evVar]
  simp only [h0]
  rw [ho_evCons]
  refine ha.imp fun r ρ1 ⟨xs, p, e, h1, h2, h3, h4, k⟩ => ?_
  rw [ho_evNil]
  refine ⟨rfl, ?_⟩
  rw [e]
  show Ho (callN pickF (.sl i :: [.va (.lst xs)]) ρ1) Q
  rw [ho_callN h1]
  simp only [↓hos]
  obtain ⟨d, hd, p', e, q3⟩ := pick_ok h2 h3 h4
  rw [e]
  have := k d hd p' q3
  unfold resNH
  simp only
  split <;> exact this
end Mc
end
section
set_option Elab.async false
set_option linter.all false
set_option maxRecDepth 100000
set_option maxHeartbeats 4000000
set_option autoImplicit false
namespace Mc
namespace Lw
open PySem PySem.Spec L2
theorem ho_evSelf {ct : CTab} {i : Nat} {f : Str} {fa : M R} {ρ : ES} {Q : Fl → ES → Prop} : Ho (evSelf ct i f fa ρ) Q = Ho (fa ρ) fun r ρ1 => Ho (frzS r.frz ρ1) fun d ρ2 => (match ρ2[i]? with
    | some (.pn (.ob c fs)) => (hasF ct c f && decide (fs.length < 1000)) = true ∧ Q .nx (ρ2.set i (.pn (.ob c (putD f d fs))))
    | _ => False) := by
  unfold evSelf
  simp only [ho_bnd, ho_frzM]
  congr 1; funext r ρ1; congr 1; funext d ρ2
  cases ρ2[i]? with
  | none => rfl
  | some s =>
    cases s with
    | pn m =>
      cases m with
      | pen _ => rfl
      | ob c fs =>
        simp only
        cases hasF ct c f && decide (fs.length < 1000) <;> simp [Ho]
    | _ => rfl
abbrev Pt := Int × Int
def pt (a : Pt) : D := .tup [.int a.1, .int a.2]
def Sm (a : Pt) : Prop := -1000 ≤ a.1 ∧ a.1 ≤ 1000 ∧ -1000 ≤ a.2 ∧ a.2 ≤ 1000
def crs (a b c : Pt) : Int := (b.1 - a.1) * (c.2 - a.2) - (b.2 - a.2) * (c.1 - a.1)
theorem sm_l {i j : Int} (h : -1000000 ≤ i) (h' : i ≤ 1000000) : (small64 i || small64 j) = true := by
  have : small64 i = true := decide_eq_true ⟨by omega, by omega⟩
  rw [this]; rfl
theorem at0 {a b : D} : atI [a, b] 0 = some a := rfl
theorem at1 {a b : D} : atI [a, b] 1 = some b := rfl
/-- all the keys differ -/
theorem dcM_all {vs : List Nat} {t : Tg} {c : M Bool} {fk fv : M R} {ρ0 : ES} {g : D → List Key} : ∀ (ds : List D) (acc : List (List Key)), (∀ d ∈ ds, optH (t d ρ0) fun ρ1 => Ho (c ρ1) fun k ρ2 => k = true ∧ Ho (fk ρ2) (fun r ρ3 => Ho (frzS r.frz ρ3) fun y ρ4 => keyT y = some (g d) ∧ Ho (fv ρ4) (fun r ρ5 => Ho (frzS r.frz ρ5) fun _ ρ6 => wipeE ρ6 vs = ρ0))) →
    (acc ++ ds.map g).Nodup → acc.length + ds.length ≤ 100000 → dcM vs t c fk fv ds acc ρ0 = some (ρ0, acc ++ ds.map g)
  | [], acc, _, _, _ => by simp [dcM]
  | d :: ds, acc, h, hn, hl => by
    have q := h d List.mem_cons_self
    rw [List.length_cons] at hl
    rw [List.map_cons] at hn
    unfold dcM
    cases ht : t d ρ0 with
    | none => rw [ht] at q; exact q.elim
    | some ρ1 =>
      rw [ht] at q
      obtain ⟨k, ρ2, e, rfl, q2⟩ := Ho.get (show Ho (c ρ1) _ from q)
      simp only [e]
      have q3 : Ho (M.bnd (frzM fk) frzS ρ2) fun y ρ4 => keyT y = some (g d) ∧ Ho (fv ρ4) (fun r ρ5 => Ho (frzS r.frz ρ5) fun _ ρ6 => wipeE ρ6 vs = ρ0) := by rw [ho_bnd, ho_frzM]; exact q2
      obtain ⟨y, ρ4, e4, q4, q5⟩ := q3.get
      have q6 : Ho (M.bnd (frzM fv) frzS ρ4) fun _ ρ6 => wipeE ρ6 vs = ρ0 := by rw [ho_bnd, ho_frzM]; exact q5
      obtain ⟨z, ρ6, e6, q7⟩ := q6.get
      have hf : few acc = true := decide_eq_true (by omega)
      simp only [e4, q4, e6, hf, if_true]
      have hi : insK (g d) acc = acc ++ [g d] := by
        unfold insK
        rw [if_neg]
        intro hm
        obtain ⟨x, hx, ex⟩ := List.any_eq_true.mp hm
        have ex := of_decide_eq_true ex
        subst ex
        have := (List.nodup_append.mp hn).2.2 _ hx _ List.mem_cons_self
        exact this rfl
      rw [hi, q7, dcM_all ds (acc ++ [g d]) (fun d' hd => h d' (List.mem_cons_of_mem _ hd)) (by simpa using hn) (by rw [List.length_append]; simp; omega)]
      simp
theorem ho_evDcLen {vs : List Nat} {fi : M (List D)} {t : Tg} {c : M Bool} {fk fv : M R} {ρ : ES} {Q : R → ES → Prop} : Ho (evDcLen vs fi t c fk fv ρ) Q = Ho (fi ρ) fun ds ρ1 => optH (dcM vs t c fk fv ds [] (wipeE ρ1 vs)) fun z => few z.2 = true ∧ Q (.va (.int z.2.length)) (unwipe ρ1 z.1 vs) := by
  unfold evDcLen
  rw [ho_bnd]
  congr 1; funext ds ρ1
  cases dcM vs t c fk fv ds [] (wipeE ρ1 vs) with
  | none => rfl
  | some z =>
    obtain ⟨z1, z2⟩ := z
    simp only [optH]
    cases few z2 with
    | true => simp [Ho]
    | false => simp [Ho]
def keyP (d : D) : List Key := match keyT d with
  | some k => k
  | none => []
theorem keyT_pt {a : Pt} : keyT (pt a) = some [.inl a.1, .inl a.2] := rfl
theorem keyP_pt {a : Pt} : keyP (pt a) = [.inl a.1, .inl a.2] := rfl
theorem all_true {ds : List D} (h : ∀ d ∈ ds, d = .bl true) : allD [.lst ds] = some (.va (.bl true)) := by
  have : optAll trD ds = some (ds.map fun _ => true) := by
    induction ds with
    | nil => rfl
    | cons d ds ih =>
      unfold optAll
      rw [h d List.mem_cons_self, ih fun d' hd => h d' (List.mem_cons_of_mem _ hd)]
      rfl
  unfold allD
  simp only [sqDs, this, Option.map]
  simp
theorem fm_some {ds : List D} {g : D → D} : ds.filterMap (fun d => some (g d)) = ds.map g := by simp
def py (a : Pt) : PyData := .tuple [.int a.1, .int a.2]
theorem py_pt {a : Pt} : (pt a).py = some (py a) := rfl
theorem pys_pts : ∀ ps : List Pt, D.pys (ps.map pt) = some (ps.map py)
  | [] => rfl
  | p :: ps => by
    rw [List.map_cons, D.pys, py_pt, pys_pts ps]
    rfl
theorem lay_pts : ∀ ps : List Pt, PyData.canLayAll0 (ps.map py) = true
  | [] => by simp [PyData.canLayAll0]
  | p :: ps => by
    rw [List.map_cons, PyData.canLayAll0, lay_pts ps]
    simp [py, PyData.canLay0, PyData.canLayAll0]
theorem dep_pts : ∀ ps : List Pt, PyData.depthAll (ps.map py) ≤ 1
  | [] => by simp [PyData.depthAll]
  | p :: ps => by
    rw [List.map_cons, PyData.depthAll]
    have := dep_pts ps
    have h : PyData.depth (py p) = 1 := by simp [py, PyData.depth, PyData.depthAll]
    rw [h]
    omega
theorem sh_pts {ps : List Pt} : SeqAt.shaped (.list (ps.map py)) = true := by
  have := dep_pts ps
  unfold SeqAt.shaped
  rw [show PyData.canLay0 (.list (ps.map py)) = true by rw [PyData.canLay0]; exact lay_pts ps]
  rw [show PyData.depth (.list (ps.map py)) = PyData.depthAll (ps.map py) + 1 by rw [PyData.depth]]
  simp; omega
theorem sh_pt {a : Pt} : SeqAt.shaped (py a) = true := by
  simp [SeqAt.shaped, py, PyData.canLay0, PyData.canLayAll0, PyData.depth, PyData.depthAll]
theorem eqv_pt {a b : Pt} : PyData.eqv (py a) (py b) = decide (a = b) := by
  have : PyData.eqv (py a) (py b) = ((a.1 == b.1) && (a.2 == b.2)) := by simp [py, PyData.eqv, PyData.eqvAll]
  rw [this]
  obtain ⟨a1, a2⟩ := a
  obtain ⟨b1, b2⟩ := b
  by_cases h1 : a1 = b1 <;> by_cases h2 : a2 = b2 <;> simp [h1, h2]
theorem idx_pts {ps : List Pt} {c : Pt} (hc : c ∈ ps) : ∃ j : Nat, j < ps.length ∧ idxP (ps.map pt) (pt c) = some (.va (.int j)) := by
  have h : ∃ j, (ps.map py).findIdx? (fun z => PyData.eqv z (py c)) = some j ∧ j < (ps.map py).length := by
    cases e : (ps.map py).findIdx? (fun z => PyData.eqv z (py c)) with
    | none =>
      have := List.findIdx?_eq_none_iff.mp e (py c) (List.mem_map.mpr ⟨c, hc, rfl⟩)
      rw [eqv_pt] at this
      simp at this
    | some j => exact ⟨j, rfl, (List.findIdx?_eq_some_iff_getElem.mp e).1⟩
  obtain ⟨j, e, hj⟩ := h
  refine ⟨j, by simpa using hj, ?_⟩
  unfold idxP
  rw [pys_pts, py_pt]
  simp only [sh_pts, sh_pt, Bool.and_self, if_true, e, Option.map]
def iss (ws : List Int) : List D := ws.map .int
def prD (q : Pt × Int) : D := .tup [pt q.1, .int q.2]
theorem argBest_le (bt : Nat → Nat → Bool) : ∀ k, PySem.argBest bt k ≤ k
  | 0 => Nat.le_refl _
  | k + 1 => by
    unfold PySem.argBest
    split
    · exact Nat.le_refl _
    · exact Nat.le_succ_of_le (argBest_le bt k)
theorem bIx_le {mx : Bool} {ps : List PyData} : bIx mx ps ≤ ps.length - 1 := argBest_le _ _
theorem ho_evMake {c : Str} {F : Mo → List D → Option (DRes × Mo)} {fs : M (List R)} {ρ : ES} {Q : R → ES → Prop} : Ho (evMake c F fs ρ) Q = Ho (fs ρ) fun rs ρ1 => Ho (frzSs rs ρ1) fun ds ρ2 => (match F (.ob c []) ds with
    | some (.va .non, .ob c' fs) => if c' = c then Q (.va (.ob c fs)) ρ2 else False
    | _ => False) := by
  unfold evMake
  rw [ho_bnd]
  congr 1; funext rs ρ1
  unfold mkK
  cases frzSs rs ρ1 with
  | none => rfl
  | some r =>
    cases r with
    | er x ρ2 => rfl
    | ok ds ρ2 =>
      simp only [ho_ok]
      cases F (.ob c []) ds with
      | none => rfl
      | some z =>
        obtain ⟨z, m⟩ := z
        cases z with
        | va d =>
          cases d with
          | non =>
            cases m with
            | pen _ => rfl
            | ob c' fs =>
              simp only
              by_cases h : c' = c
              · simp only [h, if_true]; rfl
              · simp only [h, if_false]; rfl
          | _ => cases m <;> rfl
        | _ => cases m <;> rfl
theorem ord_pt {a b : Pt} : ordOk (py a) (py b) = true := by with_unfolding_all rfl
theorem le_pt {a b : Pt} : ∃ k, leD (pt a) (pt b) = some (.va (.bl k)) := by
  unfold leD gtB
  rw [py_pt, py_pt]
  simp only [ord_pt, if_true, Option.map]
  exact ⟨_, rfl⟩
theorem ok2 {a b : Pt} : okAll [py a, py b] = true := by
  unfold okAll
  simp [ord_pt]
theorem best2_pt {mx : Bool} {a b : Pt} : ∃ e, (e = a ∨ e = b) ∧ best2D mx [pt a, pt b] = some (.va (pt e)) := by
  have h : bIx mx [py a, py b] ≤ 1 := bIx_le
  have hp : D.pys [pt a, pt b] = some [py a, py b] := rfl
  have hl : ((pt a).isLst || (pt b).isLst) = false := rfl
  rcases (show bIx mx [py a, py b] = 0 ∨ bIx mx [py a, py b] = 1 by omega) with e | e
  · exact ⟨a, Or.inl rfl, by unfold best2D bestD; simp only [hl, hp, ok2, e, if_true, Bool.false_eq_true, if_false]; rfl⟩
  · exact ⟨b, Or.inr rfl, by unfold best2D bestD; simp only [hl, hp, ok2, e, if_true, Bool.false_eq_true, if_false]; rfl⟩
theorem ok2i {a b : Int} : okAll [.int a, .int b] = true := by
  have : ∀ x y : Int, ordOk (.int x) (.int y) = true := fun x y => by with_unfolding_all rfl
  unfold okAll
  simp [this]
theorem best2_int {mx : Bool} {a b : Int} : ∃ e, (e = a ∨ e = b) ∧ best2D mx [.int a, .int b] = some (.va (.int e)) := by
  have h : bIx mx [.int a, .int b] ≤ 1 := bIx_le
  have hp : D.pys [.int a, .int b] = some [.int a, .int b] := rfl
  have hl : ((D.int a).isLst || (D.int b).isLst) = false := rfl
  rcases (show bIx mx [.int a, .int b] = 0 ∨ bIx mx [.int a, .int b] = 1 by omega) with e | e
  · exact ⟨a, Or.inl rfl, by unfold best2D bestD; simp only [hl, hp, ok2i, e, if_true, Bool.false_eq_true, if_false]; rfl⟩
  · exact ⟨b, Or.inr rfl, by unfold best2D bestD; simp only [hl, hp, ok2i, e, if_true, Bool.false_eq_true, if_false]; rfl⟩
theorem pys_ints : ∀ ws : List Int, D.pys (iss ws) = some (ws.map .int)
  | [] => rfl
  | w :: ws => by
    unfold iss at *
    rw [List.map_cons, D.pys]
    rw [show D.pys (ws.map D.int) = some (ws.map .int) from pys_ints ws]
    rfl
theorem best1_ints {mx : Bool} {ws : List Int} (h : 0 < ws.length) : ∃ m ∈ ws, best1D mx [.lst (iss ws)] = some (.va (.int m)) := by
  have ok : okAll (ws.map PyData.int) = true := by
    have : ∀ x y : Int, ordOk (.int x) (.int y) = true := fun x y => by with_unfolding_all rfl
    unfold okAll
    rw [Bool.and_eq_true]
    constructor
    · cases ws with
      | nil => simp at h
      | cons _ _ => rfl
    · simp [this]
  have hb := bIx_le (mx := mx) (ps := ws.map PyData.int)
  rw [List.length_map] at hb
  have hlt : bIx mx (ws.map PyData.int) < ws.length := by omega
  refine ⟨ws[bIx mx (ws.map PyData.int)], List.getElem_mem _, ?_⟩
  unfold best1D bestD
  simp only [sqDs, pys_ints, ok, if_true]
  unfold iss
  rw [List.getElem?_map, List.getElem?_eq_getElem hlt]
  rfl
theorem resH_same {d : D} {Q : R → Prop} : resH (some (.va d)) Q Q = Q (.va d) := by
  unfold resH
  simp only [ite_self]
/-- one thing of a row -/
def Atom (d : D) : Prop := (∃ i, d = .int i) ∨ (∃ c, d = .bl c) ∨ d = .non
theorem fm_id {ds : List D} : ds.filterMap some = ds := by simp
/-- a number is small -/
def Bd (n : Nat) (i : Int) : Prop := i.natAbs ≤ n
theorem Bd.mul {m n : Nat} {i j : Int} (hi : Bd m i) (hj : Bd n j) : Bd (m * n) (i * j) := by
  unfold Bd at *
  rw [Int.natAbs_mul]
  exact Nat.mul_le_mul hi hj
theorem Bd.add {m n : Nat} {i j : Int} (hi : Bd m i) (hj : Bd n j) : Bd (m + n) (i + j) := by
  unfold Bd at *
  omega
theorem Bd.neg {m : Nat} {i : Int} (hi : Bd m i) : Bd m (-i) := by
  unfold Bd at *
  omega
theorem Bd.up {m n : Nat} {i : Int} (hi : Bd m i) (h : m ≤ n) : Bd n i := Nat.le_trans hi h
theorem bd_of {n : Nat} {i : Int} (h : -(n : Int) ≤ i) (h' : i ≤ n) : Bd n i := by
  unfold Bd
  omega
theorem Sm.x {a : Pt} (h : Sm a) : Bd 1000 a.1 := bd_of (by have := h.1; omega) (by have := h.2.1; omega)
theorem Sm.y {a : Pt} (h : Sm a) : Bd 1000 a.2 := bd_of (by have := h.2.2.1; omega) (by have := h.2.2.2; omega)
theorem fm_map {α : Type} {ps : List α} {h : α → D} {g : D → D} : (ps.map h).filterMap (fun d => some (g d)) = ps.map fun a => g (h a) := by
  rw [List.filterMap_map]
  exact List.filterMap_eq_map' (f := fun a => g (h a)) ▸ rfl
/-- the two parts of a pair of numbers -/
def fst_ (d : D) : Int := match d with
  | .tup [.int x, _] => x
  | _ => 0
def snd_ (d : D) : Int := match d with
  | .tup [_, .int y] => y
  | _ => 0
theorem at_pt {hs : List Pt} {i : Int} (h0 : -(hs.length : Int) ≤ i) (h1 : i < hs.length) : ∃ a ∈ hs, atI (hs.map pt) i = some (pt a) := by
  by_cases h : 0 ≤ i
  · refine ⟨hs[i.toNat]'(by omega), List.getElem_mem _, ?_⟩
    unfold L2.atI L2.ixN
    rw [List.length_map, if_pos h, if_pos h1]
    simp only [Option.bind_some, List.getElem?_map]
    rw [List.getElem?_eq_getElem (by omega)]
    rfl
  · refine ⟨hs[(i + hs.length).toNat]'(by omega), List.getElem_mem _, ?_⟩
    unfold L2.atI L2.ixN
    rw [List.length_map, if_neg h, if_pos h0]
    simp only [Option.bind_some, List.getElem?_map]
    rw [List.getElem?_eq_getElem (by omega)]
    rfl
def unp (d : D) : Pt := (fst_ d, snd_ d)
theorem unp_pt {a : Pt} : unp (pt a) = a := rfl
theorem srt_pts (ps : List Pt) : ∃ rs : List Pt, srt (ps.map pt) (ps.map py) = rs.map pt ∧ rs.length = ps.length ∧ ∀ r ∈ rs, r ∈ ps := by
  have hz : (ps.map pt).zip (ps.map py) = ps.map fun a => (pt a, py a) := by
    rw [List.zip_map']
  have hp := List.mergeSort_perm (ps.map fun a => (pt a, py a)) pLe
  refine ⟨((ps.map fun a => (pt a, py a)).mergeSort pLe).map fun z => unp z.1, ?_, by rw [List.length_map, hp.length_eq, List.length_map], fun r hr => ?_⟩
  · unfold srt
    rw [hz, List.map_map]
    refine List.map_congr_left fun z hz' => ?_
    obtain ⟨a, _, rfl⟩ := List.mem_map.mp (hp.mem_iff.mp hz')
    rfl
  · obtain ⟨z, hz', rfl⟩ := List.mem_map.mp hr
    obtain ⟨a, ha, rfl⟩ := List.mem_map.mp (hp.mem_iff.mp hz')
    exact ha
theorem srt_ok {ps : List Pt} : srtOk (ps.map py) = true := by
  have al : ∀ a b : Pt, PySem.W.alike (py a) (py b) = true := fun a b => by with_unfolding_all rfl
  have dp : ∀ a : Pt, (py a).depth = 1 := fun a => by simp [py, PyData.depth, PyData.depthAll]
  unfold srtOk
  simp only [List.all_map, Bool.and_eq_true, Bool.or_eq_true, List.all_eq_true]
  refine ⟨⟨fun a _ => ?_, Or.inl fun a _ => rfl⟩, fun a _ => ?_⟩
  · show (ps.all ((fun q => PySem.W.alike (py a) q) ∘ py)) = true
    exact List.all_eq_true.mpr fun b _ => al a b
  · show decide ((py a).depth ≤ 64) = true
    rw [dp]
    rfl
theorem sorted_pts {ps : List Pt} {d : D} (hd : d = .tup (ps.map pt) ∨ d = .lst (ps.map pt)) : ∃ rs : List Pt, srtD [d] = some (.ow (rs.map pt)) ∧ rs.length = ps.length ∧ ∀ r ∈ rs, r ∈ ps := by
  obtain ⟨rs, e, h⟩ := srt_pts ps
  refine ⟨rs, ?_, h⟩
  have hs : sqDs [d] = some (ps.map pt) := by rcases hd with rfl | rfl <;> rfl
  unfold srtD
  simp only [hs, pys_pts, srt_ok, if_true, e]
theorem cut_last {xs : List D} : cutG xs none (some (-1)) = xs.dropLast := by
  unfold cutG
  have h : HT.sIx xs.length xs.length (some (-1)) = xs.length - 1 := by
    show (if (-1 : Int) < 0 then ((-1 : Int) + (xs.length : Int)).toNat else min (-1 : Int).toNat xs.length) = _
    rw [if_pos (by decide)]
    omega
  have h' : HT.sIx xs.length 0 none = 0 := rfl
  rw [h', h, List.drop_zero, Nat.sub_zero, List.dropLast_eq_take]
def hh (hs : List Pt) (i : Nat) : Pt := (hs[i]?).getD (0, 0)
theorem hh_eq {hs : List Pt} {i : Nat} (h : i < hs.length) : hh hs i = hs[i] := by
  unfold hh
  rw [List.getElem?_eq_getElem h]
  rfl
theorem hh_mem {hs : List Pt} {i : Nat} (h : i < hs.length) : hh hs i ∈ hs := by
  rw [hh_eq h]
  exact List.getElem_mem h
theorem at_hh {hs : List Pt} {i : Nat} {j : Int} (e : j = i) (h : i < hs.length) : atI (hs.map pt) j = some (pt (hh hs i)) := by
  subst e
  unfold L2.atI L2.ixN
  rw [List.length_map, if_pos (by omega), if_pos (by omega)]
  simp only [Option.bind_some, List.getElem?_map, Int.toNat_natCast]
  rw [List.getElem?_eq_getElem h, hh_eq h]
  rfl
theorem at_last {hs : List Pt} (h : 0 < hs.length) : atI (hs.map pt) (-1) = some (pt (hh hs (hs.length - 1))) := by
  unfold L2.atI L2.ixN
  rw [List.length_map, if_neg (by decide), if_pos (by omega)]
  have : ((-1 : Int) + (hs.length : Int)).toNat = hs.length - 1 := by omega
  simp only [Option.bind_some, List.getElem?_map, this]
  rw [List.getElem?_eq_getElem (by omega), hh_eq (by omega)]
  rfl
theorem en_pts {hs : List Pt} : enD (hs.map pt) = (List.range' 0 hs.length).map fun i => D.tup [.int (i : Nat), pt (hh hs i)] := by
  refine List.ext_getElem? fun i => ?_
  by_cases h : i < hs.length
  · unfold enD
    rw [List.getElem?_zipWith, List.length_map, List.getElem?_range h, List.getElem?_map, List.getElem?_map, List.getElem?_eq_getElem h, List.getElem?_range' h]
    simp only [Nat.zero_add, Nat.one_mul, Option.map_some]
    rw [hh_eq h]
  · rw [List.getElem?_eq_none (by rw [enD_length, List.length_map]; omega), List.getElem?_eq_none (by rw [List.length_map, List.length_range']; omega)]
theorem rng2_at {m n : Nat} (h : n < 1000) : rngR2 [.va (.int 1), .va (.int (n : Nat))] = some ((List.range' 0 (n - 1)).map fun k => D.int ((k : Nat) + 1 : Nat)) := by
  have hs : smI (n : Nat) = true := by
    unfold smI
    rw [decide_eq_true (by omega), decide_eq_true (by omega)]
    rfl
  show (if (smI 1 && smI (n : Nat)) = true then some (rngD 1 1 ((n : Int) - 1).toNat) else none) = _
  rw [show smI 1 = true from rfl, hs]
  simp only [Bool.and_self, if_true]
  unfold rngD
  rw [show ((n : Int) - 1).toNat = n - 1 by omega, List.range_eq_range']
  exact congrArg some (List.map_congr_left fun k _ => congrArg D.int (by omega))
def kp (s : Sl) : Sl := match s with
  | .va d => .va d
  | _ => .no
theorem all3 {p q r : Bool} : allD [.lst [.bl p, .bl q, .bl r]] = some (.va (.bl (p && (q && r)))) := by cases p <;> cases q <;> cases r <;> rfl
theorem lt_ok {m n : Nat} (h : Nat.ble (m + 1) n = true) : m < n := Nat.le_of_ble_eq_true h
theorem eq_pt {a b : Pt} : eqD (pt a) (pt b) = some (.va (.bl (decide (a = b)))) := by
  unfold eqD eqB
  rw [py_pt, py_pt]
  simp only [sh_pt, Bool.and_self, if_true, eqv_pt, Option.map]
theorem strOk_int (i : Int) : PyData.strOk (toString i : String) = true := by
  unfold PyData.strOk
  rw [Array.all_eq_true']
  intro c hc
  by_cases h : c < 0x110000
  · exact decide_eq_true h
  · exact absurd (Array.mem_toList_iff.mpr hc) (PyProof.Rows.int_text_free' c ⟨by omega, Or.inr (by omega)⟩ i)
/-- one thing that may stand in a paper -/
def Atm (d : D) : Prop := d = .non ∨ (∃ c, d = .bl c) ∨ (∃ s, d = .str s ∧ PyData.strOk s = true) ∨ ∃ i, d = .int i
theorem Atom.atm {d : D} (h : Atom d) : Atm d := by
  rcases h with h | h | h
  · exact .inr (.inr (.inr h))
  · exact .inr (.inl h)
  · exact .inl h
def whl : D → Bool
  | .int _ => true
  | _ => false
def geI (l : Int) : D → Bool
  | .int i => decide (l ≤ i)
  | _ => false
theorem allD_bls {bs : List Bool} : allD [.lst (bs.map D.bl)] = some (.va (.bl (bs.all id))) := by
  have : ∀ bs : List Bool, optAll trD (bs.map D.bl) = some bs := fun bs => by
    induction bs with
    | nil => rfl
    | cons b bs ih =>
      rw [List.map_cons]
      unfold optAll
      rw [ih]
      rfl
  unfold allD
  simp only [sqDs, this, Option.map]
theorem allD_map {ds : List D} {g : D → Bool} : allD [.lst (ds.map fun d => D.bl (g d))] = some (.va (.bl (ds.all g))) := by
  have := allD_bls (bs := ds.map g)
  rw [List.map_map] at this
  rw [show (ds.map fun d => D.bl (g d)) = ds.map (D.bl ∘ g) from rfl, this, List.all_map]
  rfl
theorem whl_int {d : D} (h : whl d = true) : ∃ i, d = .int i := by
  cases d <;> first | exact ⟨_, rfl⟩ | cases h
theorem pys_atm : ∀ {ds : List D}, (∀ d ∈ ds, Atm d) → ∃ ps, D.pys ds = some ps ∧ PyData.canLayAll0 ps = true ∧ PyData.depthAll ps ≤ 1 ∧ ps.length = ds.length
  | [], _ => ⟨[], rfl, by simp [PyData.canLayAll0], by simp [PyData.depthAll], rfl⟩
  | d :: ds, h => by
    obtain ⟨ps, e1, e2, e3, e4⟩ := pys_atm (ds := ds) fun d' hd => h d' (List.mem_cons_of_mem _ hd)
    rw [D.pys, e1]
    rcases h d List.mem_cons_self with rfl | ⟨c, rfl⟩ | ⟨s, rfl, hs⟩ | ⟨i, rfl⟩
    · exact ⟨.none :: ps, rfl, by simp [PyData.canLayAll0, PyData.canLay0, e2], by simp [PyData.depthAll, PyData.depth]; omega, by simp [e4]⟩
    · exact ⟨.bool c :: ps, rfl, by simp [PyData.canLayAll0, PyData.canLay0, e2], by simp [PyData.depthAll, PyData.depth]; omega, by simp [e4]⟩
    · exact ⟨.str s :: ps, rfl, by simp [PyData.canLayAll0, PyData.canLay0, e2, hs], by simp [PyData.depthAll, PyData.depth]; omega, by simp [e4]⟩
    · exact ⟨.int i :: ps, rfl, by simp [PyData.canLayAll0, PyData.canLay0, e2], by simp [PyData.depthAll, PyData.depth]; omega, by simp [e4]⟩
theorem eqB_nil {ds : List D} {ps : List PyData} (e1 : D.pys ds = some ps) (e2 : PyData.canLayAll0 ps = true) (e3 : PyData.depthAll ps ≤ 60) (e4 : ps.length = ds.length) : eqB (.lst ds) (.lst []) = some ds.isEmpty := by
  have h : D.py (.lst ds) = some (.list ps) := by rw [D.py, e1]
  have h' : D.py (.lst []) = some (.list []) := rfl
  have s1 : SeqAt.shaped (.list ps) = true := by
    unfold SeqAt.shaped
    rw [show PyData.canLay0 (.list ps) = true by rw [PyData.canLay0]; exact e2]
    rw [show PyData.depth (.list ps) = PyData.depthAll ps + 1 by rw [PyData.depth]]
    simp; omega
  have s2 : SeqAt.shaped (.list []) = true := by
    simp [SeqAt.shaped, PyData.canLay0, PyData.canLayAll0, PyData.depth, PyData.depthAll]
  unfold eqB
  rw [h, h']
  simp only [s1, s2, Bool.and_self, if_true]
  cases ds with
  | nil =>
    cases ps with
    | nil => simp [PyData.eqv, PyData.eqvAll]
    | cons _ _ => cases e4
  | cons d ds =>
    cases ps with
    | nil => cases e4
    | cons _ _ => simp [PyData.eqv, PyData.eqvAll]
theorem eq_nil {ds : List D} (h : ∀ d ∈ ds, Atm d) : eqD (.lst ds) (.lst []) = some (.va (.bl ds.isEmpty)) := by
  obtain ⟨ps, e1, e2, e3, e4⟩ := pys_atm h
  unfold eqD
  rw [eqB_nil e1 e2 (by omega) e4]
  rfl
theorem ne_nil_pts {ps : List Pt} : neD (.lst (ps.map pt)) (.lst []) = some (.va (.bl (!ps.isEmpty))) := by
  unfold neD
  have := dep_pts ps
  rw [eqB_nil (pys_pts ps) (lay_pts ps) (by omega) (by simp)]
  cases ps <;> rfl
theorem filt_empty {ds : List D} {g : D → Bool} : (ds.filterMap fun d => if g d = true then none else some d).isEmpty = ds.all g := by
  induction ds with
  | nil => rfl
  | cons d ds ih =>
    rw [List.filterMap_cons, List.all_cons]
    cases e : g d with
    | true => simpa [e] using ih
    | false => simp
theorem numD_iss {ws : List Int} : optAll numD (iss ws) = some ws := by
  unfold iss
  induction ws with
  | nil => rfl
  | cons w ws ih =>
    rw [List.map_cons]
    unfold optAll
    rw [ih]
    rfl
theorem sumL {ws : List Int} : sumD [.lst (iss ws)] = some (.va (.int ws.sum)) := by
  unfold sumD
  simp only [sqDs, numD_iss, Option.map]
theorem sumT {ws : List Int} : sumD [.tup (iss ws)] = some (.va (.int ws.sum)) := by
  unfold sumD
  simp only [sqDs, numD_iss, Option.map]
theorem anyT {ws : List Int} : anyD [.tup (iss ws)] = some (.va (.bl (ws.any fun w => w != 0))) := by
  have : ∀ ws : List Int, optAll trD (iss ws) = some (ws.map fun w => w != 0) := fun ws => by
    unfold iss
    induction ws with
    | nil => rfl
    | cons w ws ih =>
      rw [List.map_cons]
      unfold optAll
      rw [ih]
      rfl
  unfold anyD
  simp only [sqDs, this, Option.map, List.any_map]
  rfl
/-- the product of a pair of numbers -/
def mulP (d : D) : Int := fst_ d * snd_ d
def dot (xs ws : List Int) : Int := (List.zipWith (fun x w => x * w) xs ws).sum
theorem zip_iss {xs ws : List Int} : (zpD (iss xs) (iss ws)).map (fun d => D.int (mulP d)) = iss (List.zipWith (fun x w => x * w) xs ws) := by
  unfold zpD iss
  rw [List.zipWith_map, List.map_zipWith, List.map_zipWith]
  rfl
theorem mem_zp {d : D} : ∀ {xs ys : List D}, d ∈ zpD xs ys → ∃ x ∈ xs, ∃ y ∈ ys, d = .tup [x, y]
  | [], _, h => by simp [zpD] at h
  | _ :: _, [], h => by simp [zpD] at h
  | x :: xs, y :: ys, h => by
    have h' : d ∈ D.tup [x, y] :: zpD xs ys := h
    rcases List.mem_cons.mp h' with rfl | h'
    · exact ⟨x, List.mem_cons_self, y, List.mem_cons_self, rfl⟩
    · obtain ⟨x', hx, y', hy, e⟩ := mem_zp h'
      exact ⟨x', List.mem_cons_of_mem _ hx, y', List.mem_cons_of_mem _ hy, e⟩
theorem zp_iss {xs ws : List Int} {d : D} (h : d ∈ zpD (iss xs) (iss ws)) : ∃ x ∈ xs, ∃ w, d = .tup [.int x, .int w] := by
  obtain ⟨a, ha, b, hb, rfl⟩ := mem_zp h
  obtain ⟨x, hx, rfl⟩ := List.mem_map.mp ha
  obtain ⟨w, hw, rfl⟩ := List.mem_map.mp hb
  exact ⟨x, hx, w, rfl⟩
theorem zp_pts {ps : List Pt} {ws : List Int} {d : D} (h : d ∈ zpD (ps.map pt) (iss ws)) : ∃ p ∈ ps, ∃ w, d = .tup [pt p, .int w] := by
  obtain ⟨a, ha, b, hb, rfl⟩ := mem_zp h
  obtain ⟨x, hx, rfl⟩ := List.mem_map.mp ha
  obtain ⟨w, hw, rfl⟩ := List.mem_map.mp hb
  exact ⟨x, hx, w, rfl⟩
def fsts (ps : List Pt) : List Int := ps.map (·.1)
def snds (ps : List Pt) : List Int := ps.map (·.2)
def hd_ (d : D) : D := match d with
  | .tup [x, _] => x
  | _ => .non
theorem zip_pts {ps : List Pt} {ws : List Int} {g : Pt → Int} : (zpD (ps.map pt) (iss ws)).map (fun d => D.int (g (unp (hd_ d)) * snd_ d)) = iss (List.zipWith (fun x w => x * w) (ps.map g) ws) := by
  unfold zpD iss
  rw [List.zipWith_map, List.map_zipWith, List.map_zipWith, List.zipWith_map_left]
  rfl
theorem sum_nn : ∀ {ws : List Int}, (∀ w ∈ ws, 0 ≤ w) → 0 ≤ ws.sum ∧ ((ws.any fun w => w != 0) = decide (ws.sum ≠ 0))
  | [], _ => ⟨by simp, by simp⟩
  | w :: ws, h => by
    obtain ⟨h1, h2⟩ := sum_nn (ws := ws) fun x hx => h x (List.mem_cons_of_mem _ hx)
    have h0 := h w List.mem_cons_self
    rw [List.sum_cons, List.any_cons, h2]
    refine ⟨by omega, ?_⟩
    by_cases e : w = 0
    · subst e
      simp
    · have e1 : (w != 0) = true := by simpa using e
      rw [e1, Bool.true_or]
      exact (decide_eq_true (by omega)).symm
theorem iss_of : ∀ {ds : List D} {l : Int}, ds.all (geI l) = true → ∃ ws : List Int, ds = iss ws ∧ ∀ w ∈ ws, l ≤ w
  | [], _, _ => ⟨[], rfl, fun _ h => by cases h⟩
  | d :: ds, l, h => by
    rw [List.all_cons] at h
    obtain ⟨h1, h2⟩ := Bool.and_eq_true_iff.mp h
    obtain ⟨ws, e, hw⟩ := iss_of h2
    cases d with
    | int i =>
      refine ⟨i :: ws, by rw [e]; rfl, fun w hw' => ?_⟩
      rcases List.mem_cons.mp hw' with rfl | hw'
      · exact of_decide_eq_true h1
      · exact hw w hw'
    | _ => cases h1
theorem sm_r {i j : Int} (h : -1000000 ≤ j) (h' : j ≤ 1000000) : (small64 i || small64 j) = true := by
  have : small64 j = true := decide_eq_true ⟨by omega, by omega⟩
  rw [this, Bool.or_true]
theorem filt_pts {ps : List Pt} {P : Pt → Bool} : (ps.map pt).filterMap (fun d => if P (unp d) = true then some d else none) = (ps.filter P).map pt := by
  induction ps with
  | nil => rfl
  | cons p ps ih =>
    rw [List.map_cons, List.filterMap_cons, ih, unp_pt, List.filter_cons]
    cases P p <;> rfl
theorem filt_nil {ps : List Pt} {P : Pt → Bool} : (!(ps.filter P).isEmpty) = !ps.all fun p => !P p := by
  congr 1
  induction ps with
  | nil => rfl
  | cons p ps ih =>
    rw [List.filter_cons, List.all_cons]
    cases e : P p with
    | true => rfl
    | false => simpa using ih
theorem pow9 : gPow 10 9 = some 1000000000 := by decide +kernel
theorem call_pen {F : Mo → List D → Option (DRes × Mo)} {i n : Nat} {fs : M (List R)} {ρ : ES} {Q : R → ES → Prop} {p0 : Mo} (h0 : ρ[i]? = some (.pn p0)) (hf : Ho (fs ρ) fun rs ρ1 => rs.length = n ∧ Ho (frzSs rs ρ1) fun ds ρ2 => ρ2 = ρ1 ∧ ∃ p d p', ρ1[i]? = some (.pn (.pen p)) ∧ F (.pen p) ds = some (.va d, .pen p') ∧ Q (.va d) (ρ1.set i (.pn (.pen p')))) : Ho (evCallN F (evN (n + 1) (evCons (evVar i) fs)) ρ) Q := by
  rw [ho_evCallN, ho_evN, ho_evCons, ho_evVar]
  simp only [h0]
  refine hf.imp fun rs ρ1 ⟨hl, hz⟩ => ?_
  refine ⟨by rw [List.length_cons, hl], ?_⟩
  obtain ⟨ds, ρ2, e, rfl, p, d, p', h1, h2, h3⟩ := hz.get
  show Ho (callN F (.sl i :: rs) ρ2) Q
  rw [ho_callN h1, e, ho_ok, h2]
  unfold resNH
  simp only
  split <;> exact h3
/-- a draw, by one name -/
def cD (i : Nat) (fa : M R) : M R := evCallN drawF (evN 2 (evCons (evVar i) (evCons fa evNil)))
theorem ho_cD {i : Nat} {fa : M R} {ρ : ES} {Q : R → ES → Prop} {p0 : Mo} (h0 : ρ[i]? = some (.pn p0)) (hf : Ho (fa ρ) fun r ρ1 => ∃ many p, r = .va (.int many) ∧ ρ1[i]? = some (.pn (.pen p)) ∧ PnOk p ∧ 0 < many ∧ many < 1000000000 ∧ ∀ j p', 0 ≤ j → j < many → PnOk p' → Q (.va (.int j)) (ρ1.set i (.pn (.pen p')))) : Ho (cD i fa ρ) Q :=
  call_draw h0 ⟨_, rfl⟩ (hf.imp fun r ρ1 ⟨many, p, h1, h2, h3, h4, h5, h6⟩ => ⟨many, p, h1, h2, h3, h4, by omega, h6⟩)
def cP (i : Nat) (fa : M R) : M R := evCallN pickF (evN 2 (evCons (evVar i) (evCons fa evNil)))
theorem ho_cP {i : Nat} {fa : M R} {ρ : ES} {Q : R → ES → Prop} {p0 : Mo} (h0 : ρ[i]? = some (.pn p0)) (hf : Ho (fa ρ) fun r ρ1 => ∃ xs p, r.frz = .va (.lst xs) ∧ ρ1[i]? = some (.pn (.pen p)) ∧ PnOk p ∧ 0 < xs.length ∧ xs.length < 1000000000 ∧ ∀ d ∈ xs, ∀ p', PnOk p' → Q (.va d) (ρ1.set i (.pn (.pen p')))) : Ho (cP i fa ρ) Q :=
  call_pick h0 ⟨_, rfl⟩ hf
/-- a pick from a list in a slot -/
theorem ho_cP_sl {i j : Nat} {ρ : ES} {Q : R → ES → Prop} {p : Pn} {xs : List D} (h0 : ρ[i]? = some (.pn (.pen p))) (hj : ρ[j]? = some (.ow xs) ∨ ρ[j]? = some (.va (.lst xs))) (hp : PnOk p) (h1 : 0 < xs.length) (h2 : xs.length < 1000000000) (k : ∀ d ∈ xs, ∀ p' ρ', PnOk p' → (ρ' = ρ ∨ ρ' = ρ.set j (.va (.lst xs))) → Q (.va d) (ρ'.set i (.pn (.pen p')))) : Ho (cP i (evVar j) ρ) Q := by
  unfold cP
  rw [ho_evCallN, ho_evN, ho_evCons, ho_evVar]
  simp only [h0]
  rw [ho_evCons, ho_evVar]
  rcases hj with hj | hj
  · simp only [hj]
    rw [ho_evNil]
    refine ⟨rfl, ?_⟩
    show Ho (callN pickF (.sl i :: [.sl j]) ρ) Q
    rw [ho_callN h0]
    simp only [↓hos, hj]
    obtain ⟨d, hd, p', e, q3⟩ := pick_ok hp h1 h2
    rw [e]
    unfold resNH
    simp only
    split
    · exact k d hd p' ρ q3 (Or.inl rfl)
    · exact k d hd p' _ q3 (Or.inr rfl)
  · simp only [hj]
    rw [ho_evNil]
    refine ⟨rfl, ?_⟩
    show Ho (callN pickF (.sl i :: [.va (.lst xs)]) ρ) Q
    rw [ho_callN h0]
    simp only [↓hos, hj]
    obtain ⟨d, hd, p', e, q3⟩ := pick_ok hp h1 h2
    rw [e]
    unfold resNH
    simp only
    split
    · exact k d hd p' ρ q3 (Or.inl rfl)
    · exact k d hd p' _ q3 (Or.inl rfl)
/-- a point in a square about the origin -/
def Wd (w : Int) (a : Pt) : Prop := -w ≤ a.1 ∧ a.1 ≤ w ∧ -w ≤ a.2 ∧ a.2 ≤ w
theorem Wd.sm {w : Int} {a : Pt} (h : Wd w a) (hw : w ≤ 1000) : Sm a := by
  obtain ⟨h1, h2, h3, h4⟩ := h
  exact ⟨by omega, by omega, by omega, by omega⟩
theorem any_pts {ps : List Pt} {a : Pt} : ((ps.map py).any fun z => PyData.eqv z (py a)) = decide (a ∈ ps) := by
  rw [List.any_map]
  rw [show ((fun z => PyData.eqv z (py a)) ∘ py) = fun b => decide (b = a) from funext fun b => eqv_pt]
  by_cases h : a ∈ ps
  · rw [decide_eq_true h]
    exact List.any_eq_true.mpr ⟨a, h, decide_eq_true rfl⟩
  · rw [decide_eq_false h]
    refine Bool.eq_false_iff.mpr fun z => ?_
    obtain ⟨b, hb, e⟩ := List.any_eq_true.mp z
    have := of_decide_eq_true e
    subst this
    exact h hb
theorem nin_pts {ps : List Pt} {a : Pt} : ninD (pt a) (.lst (ps.map pt)) = some (.va (.bl (!decide (a ∈ ps)))) := by
  unfold ninD inB
  rw [py_pt]
  simp only [pys_pts, sh_pt, sh_pts, Bool.and_self, if_true, any_pts, Option.map]
theorem rng1 {n : Int} (h : n < 1000000) (h0 : 0 ≤ n) : ∃ ds, rngR1 [.va (.int n)] = some ds ∧ ds.length = n.toNat := by
  have hs : smI n = true := by
    unfold smI
    rw [decide_eq_true (by omega), decide_eq_true (by omega)]
    rfl
  refine ⟨rngD 0 1 n.toNat, ?_, rngD_length _ _ _⟩
  show (if smI n = true then some (rngD 0 1 n.toNat) else none) = _
  rw [hs]
  rfl
theorem cut_tup {xs : List D} {lo hi : Option Int} : ∃ zs, cutD (.tup xs) lo hi = some (.va (.tup zs)) ∧ zs.length ≤ xs.length ∧ ∀ z ∈ zs, z ∈ xs := by
  refine ⟨_, rfl, ?_, ?_⟩
  · split
    · exact Nat.le_refl _
    · unfold cutG
      rw [List.length_take, List.length_drop]
      omega
  · intro z hz
    split at hz
    · exact hz
    · unfold cutG at hz
      exact List.mem_of_mem_drop (List.mem_of_mem_take hz)
theorem add_tup {xs ys : List D} (h : xs.length + ys.length ≤ 1000) : addD (.tup xs) (.tup ys) = some (.va (.tup (xs ++ ys))) := by
  have : okN (xs.length + ys.length) = true := decide_eq_true (by omega)
  simp only [addD, this, if_true]
theorem rep_tup {c : Int} {n : Nat} (h1 : 1 ≤ n) (h2 : n ≤ 100) : ∃ zs, mulD (.tup [.int c]) (.int (n : Nat)) = some (.va (.tup zs)) ∧ zs.length ≤ 1000 ∧ ∀ z ∈ zs, Atom z := by
  by_cases e : ((n : Nat) : Int) = 1
  · refine ⟨[.int c], by simp only [mulD, e, if_true], by simp, fun z hz => ?_⟩
    rw [List.mem_singleton.mp hz]
    exact .inl ⟨c, rfl⟩
  · refine ⟨(List.replicate ((n : Nat) : Int).toNat [.int c]).flatten, ?_, ?_, fun z hz => ?_⟩
    · simp only [mulD, e, if_false]
      rw [if_pos ⟨by omega, by omega, by simp⟩]
    · simp
      omega
    · obtain ⟨l, hl, hz'⟩ := List.mem_flatten.mp hz
      rw [List.eq_of_mem_replicate hl] at hz'
      rw [List.mem_singleton.mp hz']
      exact .inl ⟨c, rfl⟩
theorem iss_atom {ws : List Int} {d : D} (h : d ∈ iss ws) : Atom d := by
  obtain ⟨i, _, rfl⟩ := List.mem_map.mp h
  exact .inl ⟨i, rfl⟩
theorem iss_len {ws : List Int} : (iss ws).length = ws.length := by
  unfold iss
  rw [List.length_map]
theorem rng_c {n : Int} (h : n < 1000000) (h0 : 0 ≤ n) : ∃ ds, rngR1 [.va (.int n)] = some ds ∧ ∀ d ∈ ds, ∃ i, d = .int i := by
  have hs : smI n = true := by
    unfold smI
    rw [decide_eq_true (by omega), decide_eq_true (by omega)]
    rfl
  refine ⟨rngD 0 1 n.toNat, ?_, fun d hd => ?_⟩
  · show (if smI n = true then some (rngD 0 1 n.toNat) else none) = _
    rw [hs]
    rfl
  · obtain ⟨k, _, rfl⟩ := List.mem_map.mp hd
    exact ⟨_, rfl⟩
theorem crs_anti {a b c : Pt} : crs a b c = -crs b a c := by
  unfold crs
  have : ∀ x y z w : Int, x * y - z * w = -(z * w - x * y) := fun x y z w => by omega
  have e : ∀ p q r s t u : Int, (p - q) * (r - s) - (t - s) * (u - q) = p * r - p * s - q * r - (t * u - t * q - s * u) := fun p q r s t u => by
    rw [Int.sub_mul, Int.mul_sub, Int.mul_sub, Int.sub_mul, Int.mul_sub, Int.mul_sub]
    have := Int.mul_comm s q
    omega
  rw [e, e]
  have h1 : b.1 * a.2 = a.2 * b.1 := Int.mul_comm _ _
  have h2 : a.1 * b.2 = b.2 * a.1 := Int.mul_comm _ _
  rw [Int.mul_comm a.2 c.1, Int.mul_comm b.2 c.1, Int.mul_comm a.2 b.1, Int.mul_comm b.2 a.1]
  omega
end Lw
end Mc
end
section
set_option Elab.async false
set_option linter.all false
set_option maxRecDepth 100000
set_option maxHeartbeats 4000000
set_option autoImplicit false
namespace Mc
namespace Lw
open PySem PySem.Spec L2
/-! ### the order of points -/
def llt (a b : Pt) : Bool := decide (a.1 < b.1) || (decide (a.1 = b.1) && decide (a.2 < b.2))
theorem eqv_int {i j : Int} : PyData.eqv (.int i) (.int j) = decide (i = j) := by
  have : PyData.eqv (.int i) (.int j) = (i == j) := by simp [PyData.eqv]
  rw [this, beqI]
theorem lt_py {a b : Pt} : PySem.W.dataLt (py a) (py b) = llt a b := by
  have al : ∀ i j : Int, PySem.W.alike (.int i) (.int j) = true := fun i j => by simp only [PySem.W.alike]
  unfold py llt
  rw [PySem.W.dataLt_tuple]
  by_cases h1 : a.1 = b.1
  · rw [PySem.W.dataLt_all_yes (al _ _) (by rw [eqv_int]; exact decide_eq_true h1)]
    rw [decide_eq_true h1, decide_eq_false (by omega : ¬ a.1 < b.1), Bool.true_and, Bool.false_or]
    by_cases h2 : a.2 = b.2
    · rw [PySem.W.dataLt_all_yes (al _ _) (by rw [eqv_int]; exact decide_eq_true h2), decide_eq_false (by omega : ¬ a.2 < b.2)]
      exact PyProof.Rows.lex_irrefl _
    · rw [PySem.W.dataLt_all_no (al _ _) (by rw [eqv_int]; exact decide_eq_false h2), PySem.W.dataLt_int]
  · rw [PySem.W.dataLt_all_no (al _ _) (by rw [eqv_int]; exact decide_eq_false h1), PySem.W.dataLt_int, decide_eq_false h1, Bool.false_and, Bool.or_false]
theorem leD_pt {a b : Pt} : leD (pt a) (pt b) = some (.va (.bl (!llt b a))) := by
  unfold leD gtB
  rw [py_pt, py_pt]
  simp only [ord_pt, if_true, Option.map, lt_py]
theorem gtD_pt {a b : Pt} : gtD (pt a) (pt b) = some (.va (.bl (llt b a))) := by
  unfold gtD gtB
  rw [py_pt, py_pt]
  simp only [ord_pt, if_true, Option.map, lt_py]
theorem ltD_pt {a b : Pt} : ltD (pt a) (pt b) = some (.va (.bl (llt a b))) := by
  unfold ltD ltB
  rw [py_pt, py_pt]
  simp only [ord_pt, if_true, Option.map, lt_py]
theorem argBest_congr {f g : Nat → Nat → Bool} : ∀ {k : Nat}, (∀ i j, i ≤ k → j ≤ k → f i j = g i j) → PySem.argBest f k = PySem.argBest g k
  | 0, _ => rfl
  | k + 1, h => by
    have ih := argBest_congr (f := f) (g := g) (k := k) fun i j hi hj => h i j (by omega) (by omega)
    unfold PySem.argBest
    rw [ih, h _ _ (Nat.le_refl _) (Nat.le_succ_of_le (argBest_le g k))]
def btP (mx : Bool) (ps : List Pt) (i j : Nat) : Bool := if mx = true then llt (hh ps j) (hh ps i) else llt (hh ps i) (hh ps j)
/-- the least or greatest point, the first one of equals -/
def bestP (mx : Bool) (ps : List Pt) : Pt := hh ps (PySem.argBest (btP mx ps) (ps.length - 1))
theorem getD_py {ps : List Pt} {i : Nat} (h : i < ps.length) : (ps.map py).getD i .none = py (hh ps i) := by
  rw [List.getD_eq_getElem?_getD, List.getElem?_map, List.getElem?_eq_getElem h, hh_eq h]
  rfl
theorem bIx_pts {mx : Bool} {ps : List Pt} (h : 0 < ps.length) : bIx mx (ps.map py) = PySem.argBest (btP mx ps) (ps.length - 1) := by
  unfold bIx
  rw [List.length_map]
  refine argBest_congr fun i j hi hj => ?_
  unfold btP
  rw [getD_py (by omega), getD_py (by omega), lt_py, lt_py]
theorem ok_pts {ps : List Pt} (h : 0 < ps.length) : okAll (ps.map py) = true := by
  unfold okAll
  rw [Bool.and_eq_true]
  refine ⟨?_, ?_⟩
  · cases ps with
    | nil => cases h
    | cons _ _ => rfl
  · simp [ord_pt]
theorem bestD_pts {mx : Bool} {ps : List Pt} (h : 0 < ps.length) : bestD mx (ps.map pt) = some (pt (bestP mx ps)) := by
  unfold bestD
  simp only [pys_pts, ok_pts h, if_true, bIx_pts h]
  have hl : PySem.argBest (btP mx ps) (ps.length - 1) < ps.length := by
    have := argBest_le (btP mx ps) (ps.length - 1)
    omega
  rw [List.getElem?_map, List.getElem?_eq_getElem hl]
  unfold bestP
  rw [hh_eq hl]
  rfl
theorem best1T {mx : Bool} {ps : List Pt} (h : 0 < ps.length) : best1D mx [.tup (ps.map pt)] = some (.va (pt (bestP mx ps))) := by
  unfold best1D
  simp only [sqDs, bestD_pts h, Option.map]
theorem best1L {mx : Bool} {ps : List Pt} (h : 0 < ps.length) : best1D mx [.lst (ps.map pt)] = some (.va (pt (bestP mx ps))) := by
  unfold best1D
  simp only [sqDs, bestD_pts h, Option.map]
def lmn (a b : Pt) : Pt := if llt b a = true then b else a
def lmx (a b : Pt) : Pt := if llt a b = true then b else a
theorem bestP_mn {a b : Pt} : bestP false [a, b] = lmn a b := by
  show hh [a, b] (PySem.argBest (btP false [a, b]) 1) = _
  unfold lmn PySem.argBest
  show hh [a, b] (if btP false [a, b] 1 0 = true then 1 else 0) = _
  show hh [a, b] (if llt b a = true then 1 else 0) = _
  split <;> rfl
theorem bestP_mx {a b : Pt} : bestP true [a, b] = lmx a b := by
  show hh [a, b] (PySem.argBest (btP true [a, b]) 1) = _
  unfold lmx PySem.argBest
  show hh [a, b] (if btP true [a, b] 1 0 = true then 1 else 0) = _
  show hh [a, b] (if llt a b = true then 1 else 0) = _
  split <;> rfl
theorem mn2 {a b : Pt} : best2D false [pt a, pt b] = some (.va (pt (lmn a b))) := by
  show (if false = true then none else (bestD false [pt a, pt b]).map R.va) = _
  rw [if_neg Bool.false_ne_true]
  have := bestD_pts (mx := false) (ps := [a, b]) (by simp)
  rw [bestP_mn] at this
  exact congrArg (Option.map R.va) this
theorem mx2 {a b : Pt} : best2D true [pt a, pt b] = some (.va (pt (lmx a b))) := by
  show (if false = true then none else (bestD true [pt a, pt b]).map R.va) = _
  rw [if_neg Bool.false_ne_true]
  have := bestD_pts (mx := true) (ps := [a, b]) (by simp)
  rw [bestP_mx] at this
  exact congrArg (Option.map R.va) this
/-! ### sides -/
abbrev Sd := Pt × Pt
def sd (s : Sd) : D := .tup [pt s.1, pt s.2]
theorem mn1 {s : Sd} : best1D false [sd s] = some (.va (pt (lmn s.1 s.2))) := by
  have := best1T (mx := false) (ps := [s.1, s.2]) (by simp)
  rw [bestP_mn] at this
  exact this
theorem mx1 {s : Sd} : best1D true [sd s] = some (.va (pt (lmx s.1 s.2))) := by
  have := best1T (mx := true) (ps := [s.1, s.2]) (by simp)
  rw [bestP_mx] at this
  exact this
theorem lmn_or {a b : Pt} : lmn a b = a ∨ lmn a b = b := by
  unfold lmn
  split
  · exact Or.inr rfl
  · exact Or.inl rfl
theorem lmx_or {a b : Pt} : lmx a b = a ∨ lmx a b = b := by
  unfold lmx
  split
  · exact Or.inr rfl
  · exact Or.inl rfl
theorem lmn_sm {a b : Pt} (ha : Sm a) (hb : Sm b) : Sm (lmn a b) := by rcases lmn_or (a := a) (b := b) with e | e <;> rw [e] <;> assumption
theorem lmx_sm {a b : Pt} (ha : Sm a) (hb : Sm b) : Sm (lmx a b) := by rcases lmx_or (a := a) (b := b) with e | e <;> rw [e] <;> assumption
def sg (i : Int) : Int := if 0 < i then 1 else if i < 0 then -1 else 0
/-- whether a point is on the way from one to another one -/
def btw (a b c : Pt) : Bool := decide (crs a b c = 0) && (!llt c (lmn a b) && !llt (lmx a b) c)
/-- what two sides have in common -/
inductive Cmn where
  | no
  | seg (a b : Pt)
  | spo (x y d : Int)
def spt (x y d : Int) : Cmn :=
  let g : Int := ((Nat.gcd x.natAbs y.natAbs).gcd d.natAbs : Nat)
  let g := if d < 0 then -g else g
  .spo (x.fdiv g) (y.fdiv g) (d.fdiv g)
def crSpot (s t : Sd) : Cmn :=
  let top := crs t.1 t.2 s.1
  let bot := top - crs t.1 t.2 s.2
  spt (s.1.1 * bot + (s.2.1 - s.1.1) * top) (s.1.2 * bot + (s.2.2 - s.1.2) * top) bot
def cmn (s t : Sd) : Cmn :=
  if crs s.1 s.2 t.1 = 0 ∧ crs s.1 s.2 t.2 = 0 then
    (if llt (lmn (lmx s.1 s.2) (lmx t.1 t.2)) (lmx (lmn s.1 s.2) (lmn t.1 t.2)) = true then .no
    else if lmx (lmn s.1 s.2) (lmn t.1 t.2) = lmn (lmx s.1 s.2) (lmx t.1 t.2) then .spo (lmx (lmn s.1 s.2) (lmn t.1 t.2)).1 (lmx (lmn s.1 s.2) (lmn t.1 t.2)).2 1
    else .seg (lmx (lmn s.1 s.2) (lmn t.1 t.2)) (lmn (lmx s.1 s.2) (lmx t.1 t.2)))
  else if 0 < sg (crs s.1 s.2 t.1) * sg (crs s.1 s.2 t.2) then .no
  else if 0 < sg (crs t.1 t.2 s.1) * sg (crs t.1 t.2 s.2) then .no
  else crSpot s t
def Cmn.d : Cmn → D
  | .no => .non
  | .seg a b => sd (a, b)
  | .spo x y d => .tup [.int x, .int y, .int d]
def how (s t : Sd) : Str := match cmn s t with
  | .no => "none"
  | .seg _ _ => "share"
  | .spo x y d => if d = 1 ∧ (x, y) ∈ [s.1, s.2, t.1, t.2] then "touch" else "cross"
end Lw
end Mc
end
section
set_option Elab.async false
set_option linter.all false
set_option maxRecDepth 100000
set_option maxHeartbeats 4000000
set_option autoImplicit false
namespace Mc
open PySem PySem.Spec L2
/-- a loop that looks for the first thing to return -/
theorem for_find {t : Tg} {f : M Fl} (I : ES → Prop) (r : D → Option R) : ∀ (ds : List D) (ρ : ES), I ρ → (∀ d ∈ ds, ∀ ρ, I ρ → optH (t d ρ) fun ρ1 => Ho (f ρ1) fun fl ρ2 => (match r d with
    | some v => fl = .rt v
    | none => fl = .nx ∧ I ρ2)) → Ho (forM t f ds ρ) fun fl ρ' => (match ds.findSome? r with
    | some v => fl = .rt v
    | none => fl = .nx ∧ I ρ')
  | [], ρ, i, _ => ⟨rfl, i⟩
  | d :: ds, ρ, i, h => by
    have q := h d List.mem_cons_self ρ i
    unfold forM
    cases ht : t d ρ with
    | none => rw [ht] at q; exact q.elim
    | some ρ1 =>
      rw [ht] at q
      obtain ⟨fl, ρ2, e, q2⟩ := Ho.get (show Ho (f ρ1) _ from q)
      simp only [e]
      rw [List.findSome?_cons]
      cases hr : r d with
      | some v =>
        rw [hr] at q2
        simp only at q2
        subst q2
        rfl
      | none =>
        rw [hr] at q2
        simp only at q2
        obtain ⟨rfl, i2⟩ := q2
        exact for_find I r ds ρ2 i2 fun d' hd => h d' (List.mem_cons_of_mem _ hd)
namespace Lw
theorem rng1_eq {n : Nat} (h : n ≤ 100000) : rngR1 [.va (.int (n : Nat))] = some ((List.range n).map fun i => D.int (i : Nat)) := by
  have hs : smI (n : Nat) = true := by
    unfold smI
    rw [decide_eq_true (by omega), decide_eq_true (by omega)]
    rfl
  show (if smI (n : Nat) = true then some (rngD 0 1 ((n : Int)).toNat) else none) = _
  rw [hs]
  simp only [if_true]
  unfold rngD
  exact congrArg some (List.map_congr_left fun k _ => congrArg D.int (by omega))
theorem rng2_eq {i n : Nat} (h : n ≤ 100000) (hi : i ≤ 100000) : rngR2 [.va (.int (i : Nat)), .va (.int (n : Nat))] = some ((List.range' i (n - i)).map fun j => D.int (j : Nat)) := by
  have hs : smI (n : Nat) = true := by
    unfold smI
    rw [decide_eq_true (by omega), decide_eq_true (by omega)]
    rfl
  have hs2 : smI (i : Nat) = true := by
    unfold smI
    rw [decide_eq_true (by omega), decide_eq_true (by omega)]
    rfl
  show (if (smI (i : Nat) && smI (n : Nat)) = true then some (rngD i 1 ((n : Int) - i).toNat) else none) = _
  rw [hs, hs2]
  simp only [Bool.and_self, if_true]
  unfold rngD
  rw [show ((n : Int) - i).toNat = n - i by omega, List.range_eq_range']
  refine congrArg some (List.ext_getElem? fun k => ?_)
  by_cases hk : k < n - i
  · rw [List.getElem?_map, List.getElem?_map, List.getElem?_range' hk, List.getElem?_range' hk]
    simp only [Option.map_some]
    exact congrArg (fun z => some (D.int z)) (by omega)
  · rw [List.getElem?_eq_none (by simp; omega), List.getElem?_eq_none (by simp; omega)]
def tl_ (d : D) : D := match d with
  | .tup [_, y] => y
  | _ => .non
/-- the number that a datum is -/
def toN : D → Nat
  | .int i => i.toNat
  | _ => 0
theorem toN_int {i : Nat} : toN (.int (i : Nat)) = i := by
  show ((i : Int)).toNat = i
  omega
theorem rng_map {n : Nat} {g : Nat → D} : ((List.range n).map fun i => D.int (i : Nat)).filterMap (fun d => some (g (toN d))) = (List.range n).map g := by
  rw [fm_map]
  refine List.map_congr_left fun i _ => ?_
  rw [toN_int]
theorem sh_ptsT {ps : List Pt} : SeqAt.shaped (.tuple (ps.map py)) = true := by
  have := dep_pts ps
  unfold SeqAt.shaped
  rw [show PyData.canLay0 (.tuple (ps.map py)) = true by rw [PyData.canLay0]; exact lay_pts ps]
  rw [show PyData.depth (.tuple (ps.map py)) = PyData.depthAll (ps.map py) + 1 by rw [PyData.depth]]
  simp; omega
theorem in_ptsT {ps : List Pt} {a : Pt} : inD (pt a) (.tup (ps.map pt)) = some (.va (.bl (decide (a ∈ ps)))) := by
  unfold inD inB
  rw [py_pt]
  simp only [pys_pts, sh_pt, sh_ptsT, Bool.and_self, if_true, any_pts, Option.map]
def lo2 (s t : Sd) : Pt := lmx (lmn s.1 s.2) (lmn t.1 t.2)
def hi2 (s t : Sd) : Pt := lmn (lmx s.1 s.2) (lmx t.1 t.2)
theorem sg_mul {i j : Int} : (0 < sg i * sg j) = ((0 < i ∧ 0 < j) ∨ (i < 0 ∧ j < 0)) := by
  have c : ∀ i : Int, (0 < i ∧ sg i = 1) ∨ (i = 0 ∧ sg i = 0) ∨ (i < 0 ∧ sg i = -1) := fun i => by
    unfold sg
    rcases (show 0 < i ∨ i = 0 ∨ i < 0 by omega) with h | h | h
    · exact Or.inl ⟨h, if_pos h⟩
    · exact Or.inr (Or.inl ⟨h, by rw [if_neg (by omega), if_neg (by omega)]⟩)
    · exact Or.inr (Or.inr ⟨h, by rw [if_neg (by omega), if_pos h]⟩)
  rcases c i with ⟨h1, e1⟩ | ⟨h1, e1⟩ | ⟨h1, e1⟩ <;> rcases c j with ⟨h2, e2⟩ | ⟨h2, e2⟩ | ⟨h2, e2⟩ <;> rw [e1, e2] <;> simp <;> omega
/-! ### how two sides meet -/
inductive Hw where
  | none | touch | cross | share
  deriving DecidableEq
def Hw.s : Hw → Str
  | .none => "none"
  | .touch => "touch"
  | .cross => "cross"
  | .share => "share"
def Cmn.hw (s t : Sd) : Cmn → Hw
  | .no => .none
  | .seg _ _ => .share
  | .spo x y d => if d = 1 ∧ (x, y) ∈ [s.1, s.2, t.1, t.2] then .touch else .cross
def hw (s t : Sd) : Hw := (cmn s t).hw s t
theorem hw_eqN {h : Hw} : eqD (.str h.s) (.str "none") = some (.va (.bl (decide (h = .none)))) := by cases h <;> with_unfolding_all rfl
theorem hw_eqS {h : Hw} : eqD (.str h.s) (.str "share") = some (.va (.bl (decide (h = .share)))) := by cases h <;> with_unfolding_all rfl
theorem hw_neS {h : Hw} : neD (.str h.s) (.str "share") = some (.va (.bl (!decide (h = .share)))) := by cases h <;> with_unfolding_all rfl
theorem hw_neN {h : Hw} : neD (.str h.s) (.str "none") = some (.va (.bl (!decide (h = .none)))) := by cases h <;> with_unfolding_all rfl
/-! ### rings -/
def side (ps : List Pt) (i : Nat) : Sd := (hh ps i, hh ps ((i + 1) % ps.length))
def sds (ps : List Pt) : List Sd := (List.range ps.length).map (side ps)
def dbl (ps : List Pt) : Int := ((sds ps).map fun s => s.1.1 * s.2.2 - s.1.2 * s.2.1).sum
def fst0 (r : List Pt) (a : Pt) : Nat := r.findIdx fun b => decide (b = a)
def rot (r : List Pt) (i : Nat) : List Pt := r.drop i ++ r.take i
def ahd (ps : List Pt) : List Pt := if 0 < dbl ps then ps else ps.reverse
def led (ps : List Pt) : List Pt := rot (ahd ps) (fst0 (ahd ps) (bestP false (ahd ps)))
def prv (n i : Nat) : Nat := if i = 0 then n - 1 else i - 1
def tat (ps : List Pt) (i : Nat) : Int := sg (crs (hh ps (prv ps.length i)) (hh ps i) (hh ps ((i + 1) % ps.length)))
inductive Ft where
  | str (i : Nat)
  | flt (i j : Nat) (h : Hw)
def bes (n i j : Nat) : Bool := decide (j - i = 1 ∨ j - i = n - 1)
def ft (ps : List Pt) (i j : Nat) : Option Hw :=
  if hw (side ps i) (side ps j) = .none ∨ (bes ps.length i j = true ∧ hw (side ps i) (side ps j) ≠ .share) then none else some (hw (side ps i) (side ps j))
def ffS (ps : List Pt) : Option Ft := (List.range ps.length).findSome? fun i => if tat ps i = 0 then some (.str i) else none
def ffF (ps : List Pt) : Option Ft := (List.range ps.length).findSome? fun i => (List.range' (i + 1) (ps.length - (i + 1))).findSome? fun j => (ft ps i j).map (Ft.flt i j)
def ff (ps : List Pt) : Option Ft := match ffS ps with
  | some f => some f
  | none => ffF ps
def Ft.d : Ft → D
  | .str i => .ob "Straight" [("index", .int (i : Nat))]
  | .flt i j h => .ob "Fault" [("one", .int (i : Nat)), ("other", .int (j : Nat)), ("how", .str h.s)]
def ffD (o : Option Ft) : D := match o with
  | some f => f.d
  | none => .non
def SmR (ps : List Pt) : Prop := ∀ p ∈ ps, Sm p
theorem hh_sm {ps : List Pt} {i : Nat} (hp : SmR ps) : Sm (hh ps i) := by
  by_cases h : i < ps.length
  · exact hp _ (hh_mem h)
  · unfold hh
    rw [List.getElem?_eq_none (by omega)]
    exact ⟨by decide, by decide, by decide, by decide⟩
theorem side_sm {ps : List Pt} {i : Nat} (hp : SmR ps) : Sm (side ps i).1 ∧ Sm (side ps i).2 := ⟨hh_sm hp, hh_sm hp⟩
theorem at_prv {ps : List Pt} {i : Nat} (h : i < ps.length) : atI (ps.map pt) ((i : Int) - 1) = some (pt (hh ps (prv ps.length i))) := by
  unfold prv
  by_cases h0 : i = 0
  · rw [if_pos h0]
    have := at_last (hs := ps) (by omega)
    rw [← this]
    congr 1
    omega
  · rw [if_neg h0]
    exact at_hh (by omega) (by omega)
theorem at_nxt {ps : List Pt} {i : Nat} (h : i < ps.length) : atI (ps.map pt) (((i : Int) + 1) % (ps.length : Nat)) = some (pt (hh ps ((i + 1) % ps.length))) :=
  at_hh (by rw [Int.natCast_emod]; rfl) (Nat.mod_lt _ (by omega))
theorem at_sds {ps : List Pt} {i : Nat} (h : i < ps.length) : atI ((sds ps).map sd) (i : Nat) = some (sd (side ps i)) := by
  unfold L2.atI L2.ixN sds
  rw [List.length_map, List.length_map, List.length_range, if_pos (by omega), if_pos (by omega)]
  simp only [Option.bind_some, List.getElem?_map, Int.toNat_natCast]
  rw [List.getElem?_range h]
  rfl
end Lw
end Mc
end
section
set_option Elab.async false
set_option linter.all false
set_option maxRecDepth 100000
set_option maxHeartbeats 4000000
set_option autoImplicit false
namespace Mc
open PySem PySem.Spec L2

/-! ### terms that raise -/
def Er {α : Type} (o : Option (Res α)) (x : Ex) : Prop := ∃ ρ, o = some (.er x ρ)
section
variable {α β : Type} {ρ : ES} {x : Ex}
theorem er_bnd1 {f : M α} {g : α → M β} (h : Er (f ρ) x) : Er (M.bnd f g ρ) x := by
  obtain ⟨ρ', e⟩ := h
  unfold M.bnd
  rw [e]
  exact ⟨ρ', rfl⟩
theorem er_bnd2 {f : M α} {g : α → M β} (h : Ho (f ρ) fun a ρ' => Er (g a ρ') x) : Er (M.bnd f g ρ) x := by
  obtain ⟨a, ρ', e, ρ2, q⟩ := h.get
  unfold M.bnd
  rw [e]
  exact ⟨ρ2, q⟩
theorem er_seq1 {f g : M Fl} (h : Er (f ρ) x) : Er (evSeq f g ρ) x := by
  obtain ⟨ρ', e⟩ := h
  unfold evSeq
  rw [e]
  exact ⟨ρ', rfl⟩
theorem er_seq2 {f g : M Fl} (I : ES → Prop) (h : Ho (f ρ) fun fl ρ' => fl = .nx ∧ I ρ') (k : ∀ ρ', I ρ' → Er (g ρ') x) : Er (evSeq f g ρ) x := by
  obtain ⟨a, ρ', e, rfl, q⟩ := h.get
  unfold evSeq
  rw [e]
  exact k _ q
theorem er_if_t {c : M Bool} {f g : M α} (h : Ho (c ρ) fun k ρ' => k = true ∧ ρ' = ρ) (k : Er (f ρ) x) : Er (evIf c f g ρ) x := by
  unfold evIf
  refine er_bnd2 (h.imp fun b ρ' ⟨e1, e2⟩ => ?_)
  subst e1 e2
  exact k
theorem er_if_f {c : M Bool} {f g : M α} (h : Ho (c ρ) fun k ρ' => k = false ∧ ρ' = ρ) (k : Er (g ρ) x) : Er (evIf c f g ρ) x := by
  unfold evIf
  refine er_bnd2 (h.imp fun b ρ' ⟨e1, e2⟩ => ?_)
  subst e1 e2
  exact k
theorem er_raise {c : Str} {fns : List Str} {fs : M (List R)} {ds : List D} (h : Ho (fs ρ) fun rs ρ1 => Ho (frzSs rs ρ1) fun ds' _ => ds' = ds) (hl : ds.length = fns.length) (h8 : fns.length ≤ 800) : Er (evRaise c fns fs ρ) ⟨c, (fns.zip ds).reverse⟩ := by
  unfold evRaise
  refine er_bnd2 (h.imp fun rs ρ1 q => er_bnd2 (q.imp fun ds' ρ2 e => ?_))
  subst e
  rw [if_pos ⟨hl, h8⟩]
  exact ⟨ρ2, rfl⟩
theorem er_call {F : List D → Option DRes} {fs : M (List R)} (h : Ho (fs ρ) fun rs ρ1 => Ho (frzSs rs ρ1) fun ds _ => F ds = some (.er x)) : Er (evCall F fs ρ) x := by
  unfold evCall
  refine er_bnd2 (h.imp fun rs ρ1 q => ?_)
  obtain ⟨ds, ρ2, e, q⟩ := q.get
  unfold callK
  rw [e]
  simp only [q]
  exact ⟨ρ2, rfl⟩
theorem er_asg {i : Nat} {f : M R} (h : Er (f ρ) x) : Er (evAsg i f ρ) x := er_bnd1 h
theorem er_ret {f : M R} (h : Er (f ρ) x) : Er (evRet f ρ) x := er_bnd1 h
theorem runD_er {N : Nat} {m : M Fl} {ds : List D} (h : Er (m (ini N ds)) x) : runD N m ds = some (.er x) := by
  obtain ⟨ρ, e⟩ := h
  unfold runD
  rw [e]
  rfl
theorem runA_er {N : Nat} {m : M R} {ds : List D} (p : D.purs ds = true) (h : Er (m (ini N ds)) x) : runA N m ds = some (.er x) := by
  obtain ⟨ρ, e⟩ := h
  unfold runA
  rw [if_pos p, e]
  rfl
theorem act_er {T : ATab} {t : LT} {ds : List D} {A : List D → Option DRes} (hT : lookA T t = some A) (hA : A ds = some (.er x)) : evDrop (evAct 0 T) (.va (.act t ds) :: ρ) = some (.er x (.va (.act t ds) :: ρ)) := by
  unfold evDrop M.bnd evAct
  simp only [gz, hT, hA]
theorem ho_try {f : M Fl} {i : Nat} {cs : List Clz} {ρ' : ES} {Q : Fl → ES → Prop} (h : f ρ = some (.er x ρ')) (hi : i < ρ'.length) (q : Ho (handleC i x cs ρ') Q) : Ho (evTry f i cs ρ) Q := by
  unfold evTry
  rw [h]
  simp only [hi, if_true]
  exact q
theorem hc_go {i : Nat} {q : Clz} {r : List Clz} {Q : Fl → ES → Prop} (h1 : x.cls ∉ q.yes) (h2 : x.cls ∈ q.nos) (k : Ho (handleC i x r ρ) Q) : Ho (handleC i x (q :: r) ρ) Q := by
  unfold handleC
  rw [if_neg h1, if_pos h2]
  exact k
theorem hc_hit {i : Nat} {q : Clz} {r : List Clz} {Q : Fl → ES → Prop} (h1 : x.cls ∈ q.yes) (k : Ho (runCl i x q.m ρ) Q) : Ho (handleC i x (q :: r) ρ) Q := by
  unfold handleC
  rw [if_pos h1]
  exact k
theorem ho_cl {i j : Nat} {c : Str} {els : List El} {ds : List D} {Q : Fl → ES → Prop} (hc : x.cls = c) (he : elsV x els = some ds) (hj : j < ρ.length) (hi : i < ρ.length) (hl : ds.length ≤ 100) (q : Q .nx (((ρ.set i .no).set j (.va (.tup ds))).set i .no)) : Ho (runCl i x (mErr c els j) ρ) Q := by
  unfold runCl mErr
  rw [if_pos hc, he]
  simp only [List.length_set, hj, hl, and_self, if_true, hi]
  exact q
end
/-! ### lambdas, closed -/
section
variable {T : ATab} {cl : List (Str × Addr)} {ρ : ES}
theorem close_row {t : LT} {A : List D → Option DRes} {ds due : List D} (hT : lookA T t = some A) (hc : capD ρ t.js = some ds) (hp : D.purs due = true) : D.close T cl ρ (.tup [.lam t cl, .tup due]) = some (.tup [.act t ds, .tup due]) := by
  simp only [D.close, D.closes, closeL, hT, Option.isSome, and_self, if_true, hc, closes_pur due hp]
theorem closes_rows {α : Type} {f g : α → D} : ∀ {l : List α}, (∀ a ∈ l, D.close T cl ρ (f a) = some (g a)) → D.closes T cl ρ (l.map f) = some (l.map g)
  | [], _ => by simp only [List.map_nil, D.closes]
  | a :: l, h => by
    simp only [List.map_cons, D.closes, h a List.mem_cons_self, closes_rows fun b hb => h b (List.mem_cons_of_mem _ hb)]
theorem ho_evCallA {F : List D → Option DRes} {i : Nat} {xs ys : List D} {d : D} {Q : R → ES → Prop} (hi : ρ[i]? = some (.ow xs)) (hc : D.closes T cl (ρ.set i (.va (.lst xs))) xs = some ys) (hF : F [.lst ys] = some (.va d)) (hd : d.flat = true) (q : Q (.va d) ρ) : Ho (evCallA T cl F (evN 1 (evCons (evVar i) evNil)) ρ) Q := by
  unfold evCallA
  rw [ho_bnd, ho_evN, ho_evCons, ho_evVar, hi]
  simp only [ho_evNil, z_sl]
  refine ⟨rfl, ?_⟩
  have e : frzSs [.sl i] ρ = some (.ok [.lst xs] (ρ.set i (.va (.lst xs)))) := by
    unfold frzSs M.bnd frzS
    simp only [hi]
    rfl
  unfold callA
  rw [e]
  simp only [D.closes, D.close, hc, hF, hd, if_true]
  exact q
end
/-! ### how many keys a dict keeps -/
theorem dcM_fold {vs : List Nat} {t : Tg} {c : M Bool} {fk fv : M R} {ρ0 : ES} {g : D → List Key} : ∀ (ds : List D) (acc : List (List Key)), (∀ d ∈ ds, optH (t d ρ0) fun ρ1 => Ho (c ρ1) fun k ρ2 => k = true ∧ Ho (fk ρ2) (fun r ρ3 => Ho (frzS r.frz ρ3) fun y ρ4 => keyT y = some (g d) ∧ Ho (fv ρ4) (fun r ρ5 => Ho (frzS r.frz ρ5) fun _ ρ6 => wipeE ρ6 vs = ρ0))) →
    acc.length + ds.length ≤ 100000 → dcM vs t c fk fv ds acc ρ0 = some (ρ0, ds.foldl (fun acc d => insK (g d) acc) acc)
  | [], acc, _, _ => by simp [dcM]
  | d :: ds, acc, h, hl => by
    have q := h d List.mem_cons_self
    rw [List.length_cons] at hl
    unfold dcM
    cases ht : t d ρ0 with
    | none => rw [ht] at q; exact q.elim
    | some ρ1 =>
      rw [ht] at q
      obtain ⟨k, ρ2, e, rfl, q2⟩ := Ho.get (show Ho (c ρ1) _ from q)
      simp only [e]
      have q3 : Ho (M.bnd (frzM fk) frzS ρ2) fun y ρ4 => keyT y = some (g d) ∧ Ho (fv ρ4) (fun r ρ5 => Ho (frzS r.frz ρ5) fun _ ρ6 => wipeE ρ6 vs = ρ0) := by rw [ho_bnd, ho_frzM]; exact q2
      obtain ⟨y, ρ4, e4, q4, q5⟩ := q3.get
      have q6 : Ho (M.bnd (frzM fv) frzS ρ4) fun _ ρ6 => wipeE ρ6 vs = ρ0 := by rw [ho_bnd, ho_frzM]; exact q5
      obtain ⟨z, ρ6, e6, q7⟩ := q6.get
      have hf : few acc = true := decide_eq_true (by omega)
      simp only [e4, q4, e6, hf, if_true]
      have hi : (insK (g d) acc).length ≤ acc.length + 1 := by
        unfold insK
        split
        · omega
        · simp
      rw [q7, dcM_fold ds (insK (g d) acc) (fun d' hd => h d' (List.mem_cons_of_mem _ hd)) (by omega)]
      rfl
theorem insK_in {k : List Key} {acc : List (List Key)} (h : k ∈ acc) : insK k acc = acc := by
  unfold insK
  rw [if_pos]
  exact List.any_eq_true.mpr ⟨k, h, decide_eq_true rfl⟩
theorem insK_mem {k : List Key} {acc : List (List Key)} : k ∈ insK k acc ∧ (∀ j ∈ acc, j ∈ insK k acc) ∧ (insK k acc).length ≤ acc.length + 1 := by
  by_cases h : k ∈ acc
  · rw [insK_in h]
    exact ⟨h, fun j hj => hj, by omega⟩
  · unfold insK
    rw [if_neg]
    · exact ⟨by simp, fun j hj => List.mem_append.mpr (.inl hj), by simp⟩
    · intro z
      obtain ⟨y, hy, e⟩ := List.any_eq_true.mp z
      have := of_decide_eq_true e
      subst this
      exact h hy
theorem fold_ins {g : D → List Key} : ∀ (ds : List D) (acc : List (List Key)), (∀ j ∈ acc, j ∈ ds.foldl (fun acc d => insK (g d) acc) acc) ∧ (∀ d ∈ ds, g d ∈ ds.foldl (fun acc d => insK (g d) acc) acc) ∧ (ds.foldl (fun acc d => insK (g d) acc) acc).length ≤ acc.length + ds.length
  | [], acc => ⟨fun j h => h, fun d h => (List.not_mem_nil h).elim, by simp⟩
  | d :: ds, acc => by
    obtain ⟨h1, h2, h3⟩ := fold_ins (g := g) ds (insK (g d) acc)
    obtain ⟨k1, k2, k3⟩ := insK_mem (k := g d) (acc := acc)
    refine ⟨fun j hj => h1 j (k2 j hj), fun e he => ?_, by simp only [List.foldl_cons, List.length_cons]; omega⟩
    rcases List.mem_cons.mp he with rfl | he
    · exact h1 _ k1
    · exact h2 e he
theorem fold_dup {g : D → List Key} {ds : List D} {d : D} (h : d ∈ ds) : ((ds ++ [d]).foldl (fun acc d => insK (g d) acc) []).length < (ds ++ [d]).length := by
  obtain ⟨_, h2, h3⟩ := fold_ins (g := g) ds []
  rw [List.foldl_append, List.foldl_cons, List.foldl_nil, insK_in (h2 d h)]
  simp only [List.length_append, List.length_cons, List.length_nil] at *
  omega
/-! ### small data can be shown -/
namespace Lw
theorem shw_pts : ∀ {ps : List Pt}, (∀ p ∈ ps, Sm p) → shwPs (ps.map py) = true
  | [], _ => rfl
  | p :: ps, h => by
    obtain ⟨h1, h2, h3, h4⟩ := h p List.mem_cons_self
    have e : ∀ i : Int, -1000 ≤ i → i ≤ 1000 → decide (i.natAbs < 2 ^ 1900) = true := fun i a b => decide_eq_true (Nat.lt_of_lt_of_le (show i.natAbs < 1001 by omega) (by decide +kernel))
    rw [List.map_cons, shwPs, shw_pts fun q hq => h q (List.mem_cons_of_mem _ hq)]
    simp only [py, shwP, shwPs, e p.1 h1 h2, e p.2 h3 h4, Bool.and_self]
theorem bulk_pts : ∀ {ps : List Pt}, PyData.bulkAll (ps.map py) ≤ 20 * ps.length
  | [] => by simp [PyData.bulkAll]
  | p :: ps => by
    rw [List.map_cons, PyData.bulkAll, List.length_cons]
    have := bulk_pts (ps := ps)
    simp only [py, PyData.bulk, PyData.bulkAll]
    omega
theorem okR_pts {ps : List Pt} (h : ∀ p ∈ ps, Sm p) (hl : ps.length ≤ 300) : okR (.tuple (ps.map py)) = true := by
  have h1 := bulk_pts (ps := ps)
  have h2 := dep_pts ps
  unfold okR
  rw [shwP, shw_pts h]
  rw [Bool.true_and, Bool.and_eq_true, decide_eq_true_eq, decide_eq_true_eq]
  exact ⟨by rw [PyData.bulk]; omega, by rw [PyData.depth]; omega⟩
theorem shw_ints : ∀ {ws : List Int}, (∀ w ∈ ws, w.natAbs ≤ 1000) → shwPs (ws.map .int) = true
  | [], _ => rfl
  | w :: ws, h => by
    have e : decide (w.natAbs < 2 ^ 1900) = true := decide_eq_true (Nat.lt_of_lt_of_le (show w.natAbs < 1001 by have := h w List.mem_cons_self; omega) (by decide +kernel))
    rw [List.map_cons, shwPs, shw_ints fun q hq => h q (List.mem_cons_of_mem _ hq)]
    simp only [shwP, e, Bool.and_self]
theorem bulk_ints : ∀ {ws : List Int}, PyData.bulkAll (ws.map .int) ≤ 20 * ws.length
  | [] => by simp [PyData.bulkAll]
  | p :: ps => by
    rw [List.map_cons, PyData.bulkAll, List.length_cons]
    have := bulk_ints (ws := ps)
    simp only [PyData.bulk]
    omega
theorem depth_ints : ∀ {ws : List Int}, PyData.depthAll (ws.map .int) ≤ 1
  | [] => by simp [PyData.depthAll]
  | p :: ps => by
    rw [List.map_cons, PyData.depthAll]
    have := depth_ints (ws := ps)
    simp only [PyData.depth]
    omega
theorem okR_ints {ws : List Int} (h : ∀ w ∈ ws, w.natAbs ≤ 1000) (hl : ws.length ≤ 300) : okR (.tuple (ws.map .int)) = true := by
  have h1 := bulk_ints (ws := ws)
  have h2 := depth_ints (ws := ws)
  unfold okR
  rw [shwP, shw_ints h]
  rw [Bool.true_and, Bool.and_eq_true, decide_eq_true_eq, decide_eq_true_eq]
  exact ⟨by rw [PyData.bulk]; omega, by rw [PyData.depth]; omega⟩
end Lw
end Mc
end
section
set_option Elab.async false
set_option linter.all false
set_option maxRecDepth 100000
set_option maxHeartbeats 4000000
set_option autoImplicit false
namespace Mc
open PySem PySem.Spec L2
theorem hc_goC {c : Str} {x : Ex} {i : Nat} {q : Clz} {r : List Clz} {ρ : ES} {Q : Fl → ES → Prop} (e : x.cls = c) (h1 : c ∉ q.yes) (h2 : c ∈ q.nos) (k : Ho (handleC i x r ρ) Q) : Ho (handleC i x (q :: r) ρ) Q := by
  subst e
  exact hc_go h1 h2 k
theorem hc_hitC {c : Str} {x : Ex} {i : Nat} {q : Clz} {r : List Clz} {ρ : ES} {Q : Fl → ES → Prop} (e : x.cls = c) (h1 : c ∈ q.yes) (k : Ho (runCl i x q.m ρ) Q) : Ho (handleC i x (q :: r) ρ) Q := by
  subst e
  exact hc_hit h1 k
namespace Lw
theorem stk_app {a b : Str} (h1 : PyData.strOk a = true) (h2 : PyData.strOk b = true) : PyData.strOk (a ++ b) = true := by
  unfold PyData.strOk at *
  show (a.cps ++ b.cps).all _ = true
  rw [Array.all_append, h1, h2]
  rfl
theorem stk_join : ∀ {ts : List Str}, (∀ t ∈ ts, PyData.strOk t = true) → PyData.strOk (Str.join ", " ts) = true
  | [], _ => by with_unfolding_all rfl
  | [x], h => by
    show PyData.strOk x = true
    exact h x List.mem_cons_self
  | x :: y :: r, h => by
    show PyData.strOk (x ++ ", " ++ Str.join ", " (y :: r)) = true
    exact stk_app (stk_app (h x List.mem_cons_self) (by with_unfolding_all rfl)) (stk_join fun t ht => h t (List.mem_cons_of_mem _ ht))
theorem stk_tup {xs : List PyData} (h : ∀ t ∈ PyData.shownAll xs, PyData.strOk t = true) : PyData.strOk (PyData.shown (.tuple xs)) = true := by
  rw [PyData.shown]
  unfold tupleText
  refine stk_app (stk_app (by with_unfolding_all rfl) (stk_join h)) ?_
  split <;> with_unfolding_all rfl
theorem stk_int {i : Int} : PyData.strOk (PyData.shown (.int i)) = true := by
  rw [PyData.shown]
  exact strOk_int i
theorem stk_all {xs : List PyData} (h : ∀ p ∈ xs, PyData.strOk p.shown = true) : ∀ t ∈ PyData.shownAll xs, PyData.strOk t = true := by
  induction xs with
  | nil => intro t ht; rw [PyData.shownAll] at ht; exact (List.not_mem_nil ht).elim
  | cons p ps ih =>
    intro t ht
    rw [PyData.shownAll] at ht
    rcases List.mem_cons.mp ht with rfl | ht
    · exact h p List.mem_cons_self
    · exact ih (fun q hq => h q (List.mem_cons_of_mem _ hq)) t ht
theorem stk_pt {a : Pt} : PyData.strOk (py a).shown = true := stk_tup (stk_all fun p hp => by
  simp only [List.mem_cons, List.not_mem_nil, or_false] at hp
  rcases hp with rfl | rfl <;> exact stk_int)
theorem stk_pts {ps : List Pt} : PyData.strOk (PyData.shown (.tuple (ps.map py))) = true := stk_tup (stk_all fun p hp => by
  obtain ⟨a, _, rfl⟩ := List.mem_map.mp hp
  exact stk_pt)
theorem stk_ints {ws : List Int} : PyData.strOk (PyData.shown (.tuple (ws.map .int))) = true := stk_tup (stk_all fun p hp => by
  obtain ⟨a, _, rfl⟩ := List.mem_map.mp hp
  exact stk_int)
/-- a value that can be shown, and its text compared -/
structure Shw (v : D) : Prop where
  ex : ∃ p, v.py = some p ∧ okR p = true ∧ PyData.strOk p.shown = true
theorem shw_ptsD {ps : List Pt} (h : ∀ p ∈ ps, Sm p) (hl : ps.length ≤ 300) : Shw (.tup (ps.map pt)) := ⟨_, by simp only [D.py, pys_pts], okR_pts h hl, stk_pts⟩
theorem shw_intsD {ws : List Int} (h : ∀ w ∈ ws, w.natAbs ≤ 1000) (hl : ws.length ≤ 300) : Shw (.tup (iss ws)) := ⟨_, by simp only [D.py, pys_ints], okR_ints h hl, stk_ints⟩
theorem shw_by {v : D} (p : PyData) (h1 : v.py = some p) (h2 : okR p = true) (h3 : PyData.strOk p.shown = true) : Shw v := ⟨p, h1, h2, h3⟩
theorem shw_none : Shw .non := shw_by .none (by rfl) (by decide +kernel) (by decide +kernel)
theorem shw_5 : Shw (.int 5) := shw_by (.int 5) (by rfl) (by decide +kernel) stk_int
theorem shw_ab : Shw (.str "ab") := shw_by (.str "ab") (by rfl) (by decide +kernel) (by decide +kernel)
theorem shw_nil : Shw (.tup []) := shw_by (.tuple []) (by rfl) (by decide +kernel) (by decide +kernel)
end Lw
end Mc
end
section
set_option Elab.async false
set_option linter.all false
set_option maxRecDepth 100000
set_option maxHeartbeats 4000000
set_option autoImplicit false
namespace Mc
namespace Lw
open PySem PySem.Spec L2
/-! ### the least and the greatest of ints -/
theorem bIx_ints {ws : List Int} {mx : Bool} (h : 0 < ws.length) : bIx mx (ws.map PyData.int) = PySem.argBest (fun i j => if mx = true then decide (ws.getD j 0 < ws.getD i 0) else decide (ws.getD i 0 < ws.getD j 0)) (ws.length - 1) := by
  unfold bIx
  rw [List.length_map]
  refine argBest_congr fun i j hi hj => ?_
  have g : ∀ k, k < ws.length → (ws.map PyData.int).getD k .none = .int (ws.getD k 0) := fun k hk => by
    rw [List.getD_eq_getElem?_getD, List.getElem?_map, List.getElem?_eq_getElem hk, List.getD_eq_getElem?_getD, List.getElem?_eq_getElem hk]
    rfl
  rw [g i (by omega), g j (by omega), PySem.W.dataLt_int, PySem.W.dataLt_int]
theorem ok_ints {ws : List Int} (h : 0 < ws.length) : okAll (ws.map PyData.int) = true := by
  have : ∀ x y : Int, ordOk (.int x) (.int y) = true := fun x y => by with_unfolding_all rfl
  unfold okAll
  rw [Bool.and_eq_true]
  constructor
  · cases ws with
    | nil => simp at h
    | cons _ _ => rfl
  · simp [this]
theorem best_ix {ws : List Int} {mx : Bool} (h : 0 < ws.length) : best1D mx [.lst (iss ws)] = some (.va (.int (ws.getD (bIx mx (ws.map PyData.int)) 0))) := by
  have hb := bIx_le (mx := mx) (ps := ws.map PyData.int)
  rw [List.length_map] at hb
  have hlt : bIx mx (ws.map PyData.int) < ws.length := by omega
  unfold best1D bestD
  simp only [sqDs, pys_ints, ok_ints h, if_true]
  unfold iss
  rw [List.getElem?_map, List.getElem?_eq_getElem hlt, List.getD_eq_getElem?_getD, List.getElem?_eq_getElem hlt]
  rfl
theorem getD_all {ws : List Int} {P : Int → Prop} (h : ∀ j, j < ws.length → P (ws.getD j 0)) : ∀ w ∈ ws, P w := fun w hw => by
  obtain ⟨i, hi, e⟩ := List.mem_iff_getElem.mp hw
  have := h i hi
  rw [List.getD_eq_getElem?_getD, List.getElem?_eq_getElem hi] at this
  rw [← e]
  exact this
theorem getD_in {ws : List Int} {j : Nat} (h : j < ws.length) : ws.getD j 0 ∈ ws := by
  rw [List.getD_eq_getElem?_getD, List.getElem?_eq_getElem h]
  exact List.getElem_mem _
theorem mn_ints {ws : List Int} (h : 0 < ws.length) : ∃ m ∈ ws, (∀ w ∈ ws, m ≤ w) ∧ best1D false [.lst (iss ws)] = some (.va (.int m)) := by
  have hb := bIx_le (mx := false) (ps := ws.map PyData.int)
  rw [List.length_map] at hb
  refine ⟨_, getD_in (by omega), ?_, best_ix h⟩
  rw [bIx_ints h]
  have := (PySem.argBest_lt (fun k => ws.getD k 0) (ws.length - 1)).2
  exact getD_all fun j hj => this j (by omega)
theorem mx_ints {ws : List Int} (h : 0 < ws.length) : ∃ m ∈ ws, (∀ w ∈ ws, w ≤ m) ∧ best1D true [.lst (iss ws)] = some (.va (.int m)) := by
  have hb := bIx_le (mx := true) (ps := ws.map PyData.int)
  rw [List.length_map] at hb
  refine ⟨_, getD_in (by omega), ?_, best_ix h⟩
  rw [bIx_ints h]
  have := (PySem.argBest_gt (fun k => ws.getD k 0) (ws.length - 1)).2
  exact getD_all fun j hj => this j (by omega)
theorem rng2_i {i j : Int} (hi : -1000 ≤ i ∧ i ≤ 1000) (hj : -1000 ≤ j ∧ j ≤ 1000) : rngR2 [.va (.int i), .va (.int j)] = some ((List.range (j - i).toNat).map fun k => D.int (i + (k : Nat))) := by
  have s : ∀ i : Int, (-1000 ≤ i ∧ i ≤ 1000) → smI i = true := fun i hi => by
    unfold smI
    rw [decide_eq_true (by omega), decide_eq_true (by omega)]
    rfl
  show (if (smI i && smI j) = true then some (rngD i 1 (j - i).toNat) else none) = _
  rw [s i hi, s j hj]
  simp only [Bool.and_self, if_true]
  unfold rngD
  simp only [Int.mul_one]
end Lw
end Mc
namespace Mc
open PySem PySem.Spec L2
/-- a comprehension that draws -/
theorem compM_inv {vs : List Nat} {t : Tg} {c : M Bool} {f : M R} {P : ES × List D → Prop} (I : List D → List D → ES → Prop)
    (h : ∀ d ds acc ρ, I acc (d :: ds) ρ → optH (t d ρ) fun ρ1 => Ho (c ρ1) fun k ρ2 => if k = true then Ho (f ρ2) (fun r ρ3 => Ho (frzS r.frz ρ3) fun y ρ4 => I (acc ++ [y]) ds (wipeE ρ4 vs)) else I acc ds (wipeE ρ2 vs))
    (h0 : ∀ acc ρ, I acc [] ρ → P (ρ, acc)) : ∀ (ds acc : List D) (ρ : ES), I acc ds ρ → acc.length + ds.length ≤ 100000 → ∃ z, compM vs t c f ds acc ρ = some z ∧ P z
  | [], acc, ρ, i, _ => ⟨_, rfl, h0 acc ρ i⟩
  | d :: ds, acc, ρ, i, hl => by
    have q := h d ds acc ρ i
    rw [List.length_cons] at hl
    unfold compM
    cases ht : t d ρ with
    | none => rw [ht] at q; exact q.elim
    | some ρ1 =>
      rw [ht] at q
      obtain ⟨k, ρ2, e, q2⟩ := Ho.get (show Ho (c ρ1) _ from q)
      simp only [e]
      cases k with
      | false =>
        simp only [Bool.false_eq_true, if_false] at q2 ⊢
        exact compM_inv I h h0 ds acc _ q2 (by omega)
      | true =>
        simp only [if_true] at q2 ⊢
        have q3 : Ho (M.bnd (frzM f) frzS ρ2) fun y ρ4 => I (acc ++ [y]) ds (wipeE ρ4 vs) := by rw [ho_bnd, ho_frzM]; exact q2
        obtain ⟨y, ρ4, e4, q4⟩ := q3.get
        have hf : few acc = true := decide_eq_true (by omega)
        simp only [e4, hf, if_true]
        exact compM_inv I h h0 ds (acc ++ [y]) _ q4 (by rw [List.length_append, List.length_cons, List.length_nil]; omega)
theorem ho_compI {vs : List Nat} {t : Tg} {c : M Bool} {f : M R} {ds : List D} {ρ : ES} {Q : R → ES → Prop} (I : List D → List D → ES → Prop)
    (h : ∀ d ds acc ρ, I acc (d :: ds) ρ → optH (t d ρ) fun ρ1 => Ho (c ρ1) fun k ρ2 => if k = true then Ho (f ρ2) (fun r ρ3 => Ho (frzS r.frz ρ3) fun y ρ4 => I (acc ++ [y]) ds (wipeE ρ4 vs)) else I acc ds (wipeE ρ2 vs))
    (i : I [] ds (wipeE ρ vs)) (hl : ds.length ≤ 100000) (q : ∀ acc ρ', I acc [] ρ' → Q (.ow acc) (unwipe ρ ρ' vs)) : Ho (compE vs t c f ds ρ) Q := by
  obtain ⟨z, e, hz⟩ := compM_inv (P := fun z => Q (.ow z.2) (unwipe ρ z.1 vs)) I h (fun acc ρ' i => q acc ρ' i) ds [] _ i (by simpa using hl)
  unfold compE
  rw [e]
  exact hz
namespace Lw
theorem ints_at {ws : List Int} {i : Nat} (h : i < ws.length) : atI (iss ws) (i : Nat) = some (.int (ws.getD i 0)) := by
  unfold L2.atI L2.ixN iss
  rw [List.length_map, if_pos (by omega), if_pos (by omega)]
  simp only [Option.bind_some, List.getElem?_map, Int.toNat_natCast]
  rw [List.getElem?_eq_getElem h, List.getD_eq_getElem?_getD, List.getElem?_eq_getElem h]
  rfl
theorem ints_last {ws : List Int} (h : 0 < ws.length) : atI (iss ws) (-1) = some (.int (ws.getD (ws.length - 1) 0)) := by
  unfold L2.atI L2.ixN iss
  rw [List.length_map, if_neg (by omega), if_pos (by omega)]
  simp only [Option.bind_some, List.getElem?_map]
  rw [show ((-1 : Int) + (ws.length : Nat)).toNat = ws.length - 1 by omega, List.getElem?_eq_getElem (by omega), List.getD_eq_getElem?_getD, List.getElem?_eq_getElem (by omega)]
  rfl
end Lw
end Mc
end
section
set_option Elab.async false
set_option linter.all false
set_option maxRecDepth 100000
set_option maxHeartbeats 4000000
set_option autoImplicit false
namespace Mc
namespace Lw
open PySem PySem.Spec L2
theorem repr_ok {v : D} {p : PyData} (hv : v.py = some p) (ok : okR p = true) : reprD [v] = some (.va (.str p.shown)) := by
  unfold reprD
  simp only [hv, ok, if_true]
theorem err_row {t : LT} {ds : List D} {A : List D → Option DRes} {v : D} {w : Str} {p : PyData} (hT : lookA TA t = some A) (hA : A ds = some (.er ⟨"BadRow", [("row", v), ("what", .str w)]⟩)) (hv : v.py = some p) (ok : okR p = true) : F25 [.act t ds] = some (.va (.tup [.str "row", .str w, .str p.shown])) := by
  refine runD_eq ?_
  show Ho (m25 [.va (.act t ds), .no, .no]) _
  unfold m25
  refine seq_i (fun ρ => ρ = [.va (.act t ds), .va (.tup [.str "none"]), .no]) ?_ fun ρ e => ?_
  · simp only [↓hos]
    exact ⟨rfl, lt_ok rfl, rfl⟩
  subst e
  refine seq_i (fun ρ => ρ = [.va (.act t ds), .va (.tup [.str "row", .str w, .str p.shown]), .no]) ?_ fun ρ e => ?_
  · refine ho_try (act_er hT hA) (by simp) ?_
    have he : elsV ⟨"BadRow", [("row", v), ("what", .str w)]⟩ [.s "row", .f "what", .r "row"] = some [.str "row", .str w, .str p.shown] := by
      have h1 : List.lookup ("what" : Str) [(("row" : Str), v), ("what", D.str w)] = some (.str w) := by with_unfolding_all rfl
      have h2 : List.lookup ("row" : Str) [(("row" : Str), v), ("what", D.str w)] = some v := by with_unfolding_all rfl
      simp only [elsV, El.val, h1, h2, repr_ok hv ok]
    exact hc_goC (c := "BadRow") rfl (by dsimp only; decide) (by dsimp only; decide) (hc_goC (c := "BadRow") rfl (by dsimp only; decide) (by dsimp only; decide) (hc_hitC (c := "BadRow") rfl (by dsimp only; decide) (ho_cl rfl he (by simp) (by simp) (by simp) rfl)))
  subst e
  simp only [↓hos, ↓gz, ↓List.getElem?_cons_succ]
  rfl
theorem eq_shown {hd : List D} {ps : List PyData} {s : Str} (h : D.pys hd = some ps) (hs : SeqAt.shaped (.tuple (ps ++ [.str s])) = true) (hr : PyData.eqv (.tuple (ps ++ [.str s])) (.tuple (ps ++ [.str s])) = true) : neD (.tup (hd ++ [.str s])) (.tup (hd ++ [.str s])) = some (.va (.bl false)) := by
  have e : D.pys (hd ++ [.str s]) = some (ps ++ [.str s]) := by
    clear hs hr
    induction hd generalizing ps with
    | nil => simp only [D.pys] at h; cases h; rfl
    | cons d ds ih =>
      simp only [List.cons_append, D.pys] at h ⊢
      split at h
      · rename_i y ys h1 h2
        cases h
        rw [h1, ih h2]
        rfl
      · cases h
  unfold neD eqB
  simp only [D.py, e, hs, hr, Bool.and_self, if_true, Option.map]
  rfl
/-- a call that raises what is due -/
structure Rzs (c : D) : Prop where
  ex : ∃ a due hd v p, c = .tup [a, .tup due] ∧ cutD (.tup due) none (some (-1)) = some (.va (.tup hd)) ∧ atI due (-1) = some v ∧ hd.length ≤ 20 ∧ v.py = some p ∧ okR p = true ∧ F25 [a] = some (.va (.tup (hd ++ [.str p.shown]))) ∧ neD (.tup (hd ++ [.str p.shown])) (.tup (hd ++ [.str p.shown])) = some (.va (.bl false))
theorem raise_so {l : List D} (h : ∀ c ∈ l, Rzs c) : F26 [.lst l] = some (.va (.bl true)) := by
  refine runD_eq ?_
  show Ho (m26 [.va (.lst l), .no, .no]) _
  unfold m26
  refine seq_i (fun _ => True) ?_ fun ρ _ => ?_
  · simp only [↓hos, ↓gz]
    refine forM_inv (fun ds ρ => (∀ c ∈ ds, c ∈ l) ∧ ∃ a b, ρ = [.va (.lst l), a, b]) ?_ ?_ _ _ ⟨fun c hc => hc, _, _, rfl⟩
    · rintro c ds ρ ⟨hc, a, b, rfl⟩
      obtain ⟨a', due, hd, v, p, rfl, h1, h2, h3, h4, h5, h6, h7⟩ := (h c (hc c List.mem_cons_self)).ex
      rw [show tgTup 2 (tgCons (tgN 1) (tgCons (tgN 2) tgNil)) (.tup [a', .tup due]) [.va (.lst l), a, b] = some [.va (.lst l), .va a', .va (.tup due)] from rfl, optH_some]
      have ha : addD (.tup hd) (.tup [.str p.shown]) = some (.va (.tup (hd ++ [.str p.shown]))) := add_tup (by simp; omega)
      rw [ho_evIf]
      simp only [↓hos, ↓gz, ↓List.getElem?_cons_succ, h6, ↓resH_same, h1, h2, Option.map, repr_ok h4 h5, ha, h7]
      refine ⟨rfl, rfl, ?_⟩
      exact ⟨fun c hd => hc c (List.mem_cons_of_mem _ hd), _, _, rfl⟩
    · exact fun _ _ => trivial
  simp only [↓hos]
  rfl
theorem sh3 {w s : Str} (hw : PyData.strOk w = true) (hs : PyData.strOk s = true) : SeqAt.shaped (.tuple [.str "row", .str w, .str s]) = true := by
  have h0 : PyData.strOk "row" = true := by decide +kernel
  simp [SeqAt.shaped, PyData.canLay0, PyData.canLayAll0, PyData.depth, PyData.depthAll, hw, hs, h0]
theorem rzs_row {t : LT} {ds : List D} {A : List D → Option DRes} {v : D} {w : Str} (hw : PyData.strOk w = true) (hT : lookA TA t = some A) (hA : A ds = some (.er ⟨"BadRow", [("row", v), ("what", .str w)]⟩)) (sv : Shw v) : Rzs (.tup [.act t ds, .tup [.str "row", .str w, v]]) := by
  obtain ⟨p, hv, ok, hs⟩ := sv
  refine ⟨_, _, [.str "row", .str w], v, p, rfl, by with_unfolding_all rfl, rfl, by simp, hv, ok, err_row hT hA hv ok, eq_shown (ps := [.str "row", .str w]) rfl (sh3 hw hs) ?_⟩
  simp [PyData.eqv, PyData.eqvAll]
end Lw
end Mc
end
section
set_option Elab.async false
set_option linter.all false
set_option maxRecDepth 100000
set_option maxHeartbeats 4000000
set_option autoImplicit false
namespace Mc
namespace Lw
open PySem PySem.Spec L2
theorem cD_is {i : Nat} {fa : M R} : evCallN F19 (evN 2 (evCons (evVar i) (evCons fa evNil))) = cD i fa := rfl
theorem cP_is {i : Nat} {fa : M R} : evCallN F20 (evN 2 (evCons (evVar i) (evCons fa evNil))) = cP i fa := rfl
theorem drawn_ok {p : Pn} {w : Int} (hp : PnOk p) (h0 : 0 ≤ w) (h1 : w ≤ 100) : ∃ a p', F23 (.pen p) [.int w] = some (.va (pt a), .pen p') ∧ PnOk p' ∧ Wd w a := by
  have key : ∃ r q, F23 (.pen p) [.int w] = some (r, q) ∧ ∃ a p', r = .va (pt a) ∧ q = .pen p' ∧ PnOk p' ∧ Wd w a := by
    refine runN_ex ?_
    show Ho (m23 [.pn (.pen p), .va (.int w)]) _
    unfold m23
    simp only [cD_is]
    simp only [↓hos]
    have e2 : (small64 2 || small64 w) = true := by simp [small64]
    refine ho_cD (p0 := .pen p) rfl ?_
    simp only [↓hos, ↓gz, ↓List.getElem?_cons_succ, v_mul e2]
    refine ⟨_, p, rfl, rfl, hp, by omega, by omega, fun j p1 j0 j1 hp1 => ?_⟩
    simp only [↓hos, ↓gz, ↓List.getElem?_cons_succ, List.set_cons_zero]
    refine ho_cD (p0 := .pen p1) rfl ?_
    simp only [↓hos, ↓gz, ↓List.getElem?_cons_succ, v_mul e2]
    refine ⟨_, p1, rfl, rfl, hp1, by omega, by omega, fun j2 p2 j20 j21 hp2 => ?_⟩
    simp only [↓hos, ↓gz, ↓List.getElem?_cons_succ, List.set_cons_zero]
    refine ⟨rfl, _, rfl, (j - w, j2 - w), p2, rfl, rfl, hp2, ?_⟩
    unfold Wd
    simp only
    omega
  obtain ⟨r, q, e, a, p', rfl, rfl, h⟩ := key
  exact ⟨a, p', e, h⟩
def cX (i : Nat) (fa : M R) : M R := evCallN F23 (evN 2 (evCons (evVar i) (evCons fa evNil)))
theorem cX_is {i : Nat} {fa : M R} : evCallN F23 (evN 2 (evCons (evVar i) (evCons fa evNil))) = cX i fa := rfl
theorem ho_cX {i : Nat} {fa : M R} {ρ : ES} {Q : R → ES → Prop} {p0 : Mo} (h0 : ρ[i]? = some (.pn p0)) (hf : Ho (fa ρ) fun r ρ1 => ∃ w p, r = .va (.int w) ∧ ρ1[i]? = some (.pn (.pen p)) ∧ PnOk p ∧ 0 ≤ w ∧ w ≤ 100 ∧ ∀ a p', Wd w a → PnOk p' → Q (.va (pt a)) (ρ1.set i (.pn (.pen p')))) : Ho (cX i fa ρ) Q := by
  refine call_pen (n := 1) h0 ?_
  rw [ho_evCons]
  refine hf.imp fun r ρ1 ⟨w, p, h1, h2, h3, h4, h5, h6⟩ => ?_
  subst h1
  rw [ho_evNil]
  refine ⟨rfl, ?_⟩
  simp only [↓hos]
  obtain ⟨a, p', e, q1, q2⟩ := drawn_ok h3 h4 h5
  exact ⟨trivial, p, _, p', h2, e, h6 a p' q2 q1⟩
abbrev S36 (mo wi : Int) (p : Pn) (r : Sl) (m w x y : Int) (a b : Sl) : ES := [.pn (.pen p), .va (.int mo), .va (.int wi), r, .va (.int m), .va (.int w), .va (.int x), .va (.int y), a, b]
theorem stones_ok {mo wi : Int} {p : Pn} (mo1 : 1 ≤ mo) (mo2 : mo ≤ 20) (wi1 : 0 ≤ wi) (wi2 : wi ≤ 20) (hp : PnOk p) : ∃ (ps : List Pt) (p' : Pn), F27 (.pen p) [.int mo, .int wi] = some (.va (.tup (ps.map pt)), .pen p') ∧ PnOk p' ∧ 1 ≤ ps.length ∧ (ps.length : Int) ≤ mo ∧ ps.Nodup ∧ ∀ q ∈ ps, Wd (2 * wi) q := by
  have key : ∃ r q, F27 (.pen p) [.int mo, .int wi] = some (r, q) ∧ ∃ (ps : List Pt) (p' : Pn), r = .va (.tup (List.map pt ps)) ∧ q = .pen p' ∧ PnOk p' ∧ 1 ≤ ps.length ∧ (ps.length : Int) ≤ mo ∧ ps.Nodup ∧ ∀ q ∈ ps, Wd (2 * wi) q := by
    refine runN_ex ?_
    show Ho (m27 [.pn (.pen p), .va (.int mo), .va (.int wi), .no, .no, .no, .no, .no, .no, .no]) _
    unfold m27
    simp only [cD_is, cX_is]
    refine seq_i (fun ρ => ∃ p m w, PnOk p ∧ 1 ≤ m ∧ m ≤ mo ∧ ρ = [.pn (.pen p), .va (.int mo), .va (.int wi), .ow [], .va (.int m), .va (.int w), .no, .no, .no, .no]) ?_ fun ρ ⟨p, m, w, hp, m1, m2, e⟩ => ?_
    · simp only [↓hos]
      refine ⟨rfl, ?_⟩
      refine ho_cD (p0 := .pen p) rfl ?_
      simp only [↓hos, ↓gz, ↓List.getElem?_cons_succ]
      refine ⟨_, p, rfl, rfl, hp, by omega, by omega, fun j p1 j0 j1 hp1 => ?_⟩
      simp only [↓hos, ↓gz, ↓List.getElem?_cons_succ, List.set_cons_zero]
      refine ho_cD (p0 := .pen p1) rfl ?_
      simp only [↓hos, ↓gz, ↓List.getElem?_cons_succ]
      refine ⟨_, p1, rfl, rfl, hp1, by omega, by omega, fun j2 p2 j20 j21 hp2 => ?_⟩
      exact ⟨rfl, p2, 1 + j, j2, hp2, by omega, by omega, rfl⟩
    subst e
    refine seq_i (fun ρ => ∃ p x y, PnOk p ∧ -1 ≤ x ∧ x ≤ 1 ∧ 1 ≤ y ∧ y ≤ 2 ∧ ρ = S36 mo wi p (.ow []) m w x y .no .no) ?_ fun ρ ⟨p, x, y, hp, x1, x2, y1, y2, e⟩ => ?_
    · simp only [↓hos]
      refine ho_cD (p0 := .pen p) rfl ?_
      simp only [↓hos, ↓gz, ↓List.getElem?_cons_succ]
      refine ⟨_, p, rfl, rfl, hp, by omega, by omega, fun j p1 j0 j1 hp1 => ?_⟩
      simp only [↓hos, ↓gz, ↓List.getElem?_cons_succ, List.set_cons_zero]
      refine ho_cD (p0 := .pen p1) rfl ?_
      simp only [↓hos, ↓gz, ↓List.getElem?_cons_succ]
      refine ⟨_, p1, rfl, rfl, hp1, by omega, by omega, fun j2 p2 j20 j21 hp2 => ?_⟩
      exact ⟨rfl, p2, j - 1, 1 + j2, hp2, by omega, by omega, by omega, by omega, rfl⟩
    subst e
    have s1 : ∀ i, (small64 x || small64 i) = true := fun i => sm_l (by omega) (by omega)
    have s2 : ∀ i, (small64 y || small64 i) = true := fun i => sm_l (by omega) (by omega)
    refine seq_i (fun ρ => ∃ (p : Pn) (rs : List Pt) (a b : Sl), PnOk p ∧ ρ = S36 mo wi p (.ow (List.map pt rs)) m w x y a b ∧ 1 ≤ rs.length ∧ (rs.length : Int) ≤ mo ∧ rs.Nodup ∧ ∀ q ∈ rs, Wd (2 * wi) q) ?_ fun ρ ⟨p, rs, a, b, hp, e, h1, h2, h3, h4⟩ => ?_
    · have e3 : (small64 3 || small64 m) = true := by simp [small64]
      obtain ⟨ds, hds, hlen⟩ := rng1 (n := 3 * m) (by omega) (by omega)
      simp only [↓hos, ↓gz, ↓List.getElem?_cons_succ, v_mul e3, hds]
      refine forM_inv (fun ds ρ => ∃ (p : Pn) (rs : List Pt) (a b : Sl), PnOk p ∧ ρ = S36 mo wi p (.ow (List.map pt rs)) m w x y a b ∧ (ds = [] → 1 ≤ rs.length) ∧ (rs.length : Int) ≤ m ∧ rs.Nodup ∧ ∀ q ∈ rs, Wd (2 * wi) q) ?_ ?_ _ _ ⟨p, [], .no, .no, hp, rfl, fun z => by subst z; simp at hlen; omega, by simp; omega, List.nodup_nil, fun q h => by cases h⟩
      · rintro d ds ρ ⟨p, rs, a, b, hp, rfl, q1, q2, q3, q4⟩
        rw [show tgN 8 d (S36 mo wi p (.ow (List.map pt rs)) m w x y a b) = some (S36 mo wi p (.ow (List.map pt rs)) m w x y (.va d) b) from rfl, optH_some]
        refine seq_i (fun ρ => ∃ p c, PnOk p ∧ Wd wi c ∧ ρ = S36 mo wi p (.ow (List.map pt rs)) m w x y (.va d) (.va (pt c))) ?_ fun ρ ⟨p, c, hp, hc, e⟩ => ?_
        · simp only [↓hos]
          refine ho_cX (p0 := .pen p) rfl ?_
          simp only [↓hos, ↓gz, ↓List.getElem?_cons_succ]
          exact ⟨_, p, rfl, rfl, hp, by omega, by omega, fun c p1 hc hp1 => ⟨lt_ok rfl, p1, c, hp1, hc, rfl⟩⟩
        subst e
        refine seq_i (fun ρ => ∃ c, Wd (2 * wi) c ∧ ρ = S36 mo wi p (.ow (List.map pt rs)) m w x y (.va d) (.va (pt c))) ?_ fun ρ ⟨c, hc, e⟩ => ?_
        · by_cases hw : w = 0
          · have hx := Bd.mul (m := 1) (n := wi.toNat) (i := x) (j := c.1) (bd_of (by omega) (by omega)) (bd_of (by have := hc.1; omega) (by have := hc.2.1; omega))
            have hy := Bd.mul (m := 2) (n := wi.toNat) (i := y) (j := c.1) (bd_of (by omega) (by omega)) (bd_of (by have := hc.1; omega) (by have := hc.2.1; omega))
            rw [show pt c = D.tup [.int c.1, .int c.2] from rfl]
            simp only [↓hos, ↓gz, ↓List.getElem?_cons_succ, hw, decide_true, if_true, at0, Option.map, v_mul (s1 _), v_mul (s2 _)]
            refine ⟨rfl, lt_ok rfl, (x * c.1, y * c.1), ?_, rfl⟩
            unfold Bd at hx hy
            unfold Wd
            simp only
            omega
          · simp only [↓hos, ↓gz, ↓List.getElem?_cons_succ, hw, decide_false, Bool.false_eq_true, if_false]
            exact ⟨lt_ok rfl, c, ⟨by have := hc.1; omega, by have := hc.2.1; omega, by have := hc.2.2.1; omega, by have := hc.2.2.2; omega⟩, rfl⟩
        subst e
        by_cases hk : c ∉ rs ∧ (rs.length : Int) < m
        · refine if_t ?_ ?_
          · simp only [↓hos, ↓gz, ↓List.getElem?_cons_succ, nin_pts, hk.1, decide_false, Bool.not_false, if_true, List.length_map, hk.2, decide_true]
            exact ⟨trivial, trivial⟩
          · rw [ho_evDrop, ho_evLM (xs0 := List.map pt rs) rfl]
            have hf : few (List.map pt rs) = true := decide_eq_true (by rw [List.length_map]; omega)
            simp only [↓hos, ↓gz, ↓List.getElem?_cons_succ, apM, hf, if_true, stepH_nx]
            refine ⟨p, rs ++ [c], _, _, hp, by rw [List.map_append]; rfl, fun _ => by simp, by simp; omega, ?_, fun q hq => ?_⟩
            · rw [List.nodup_append]
              exact ⟨q3, by simp, fun u hu v hv e => hk.1 (by rw [List.mem_singleton.mp hv] at e; exact e ▸ hu)⟩
            · rcases List.mem_append.mp hq with z | z
              · exact q4 q z
              · rw [List.mem_singleton.mp z]; exact hc
        · refine if_f ?_ ?_
          · by_cases hin : c ∈ rs
            · simp only [↓hos, ↓gz, ↓List.getElem?_cons_succ, nin_pts, hin, decide_true, Bool.not_true, Bool.false_eq_true, if_false]
              exact ⟨trivial, trivial⟩
            · have hm : ¬ (rs.length : Int) < m := fun z => hk ⟨hin, z⟩
              simp only [↓hos, ↓gz, ↓List.getElem?_cons_succ, nin_pts, hin, decide_false, Bool.not_false, if_true, List.length_map, hm]
              exact ⟨trivial, trivial⟩
          · refine ⟨p, rs, _, _, hp, rfl, fun _ => ?_, q2, q3, q4⟩
            by_cases hin : c ∈ rs
            · exact List.length_pos_of_mem hin
            · have hm : ¬ (rs.length : Int) < m := fun z => hk ⟨hin, z⟩
              omega
      · rintro ρ ⟨p, rs, a, b, hp, rfl, q1, q2, q3, q4⟩
        exact ⟨p, rs, a, b, hp, rfl, q1 rfl, by omega, q3, q4⟩
    · subst e
      simp only [↓hos, ↓gz, ↓List.getElem?_cons_succ]
      exact ⟨_, rfl, rs, p, rfl, rfl, hp, h1, h2, h3, h4⟩
  obtain ⟨r, q, e, ps, p', rfl, rfl, h⟩ := key
  exact ⟨ps, p', e, h⟩
end Lw
end Mc
end
section
set_option Elab.async false
set_option linter.all false
set_option maxRecDepth 100000
set_option maxHeartbeats 4000000
set_option autoImplicit false
namespace Mc
namespace Lw
open PySem PySem.Spec L2
theorem whole_int {i : Int} : F8 [.int i] = some (.va (.bl true)) := by with_unfolding_all rfl
theorem point_is {a : Pt} : F9 [pt a] = some (.va (.bl true)) := by with_unfolding_all rfl
theorem need_pt {a : Pt} {x : Str} : F11 [.str x, pt a] = some (.va (pt a)) := by with_unfolding_all rfl
def ptL (a : Pt) : D := .lst [.int a.1, .int a.2]
theorem need_ptL {a : Pt} {x : Str} : F11 [.str x, ptL a] = some (.va (pt a)) := by with_unfolding_all rfl
def SqP (d : D) (ps : List Pt) : Prop := d = .tup (ps.map pt) ∨ d = .lst (ps.map pt)
def SqI (d : D) (ws : List Int) : Prop := d = .tup (iss ws) ∨ d = .lst (iss ws)
def bad (w : Str) (d : D) : Option DRes := some (.er ⟨"BadRow", [("row", d), ("what", .str w)]⟩)
/-! ### need_posts -/
theorem posts_ok {d : D} {ps : List Pt} (hd : SqP d ps) (h0 : 1 ≤ ps.length) (h1 : ps.length ≤ 12) (nd : ps.Nodup) : F12 [d] = some (.va (.tup (ps.map pt))) := by
  refine runD_eq ?_
  show Ho (m12 [.va d, .no]) _
  unfold m12
  have hi : isiD2 csL .lst .tup d = some (.va (.bl true)) := by rcases hd with rfl | rfl <;> rfl
  have hs : sqD d = some (ps.map pt) := by rcases hd with rfl | rfl <;> rfl
  have hl : lenD [d] = some (.va (.int (ps.length : Nat))) := by rcases hd with rfl | rfl <;> (show some (R.va (D.int ((ps.map pt).length : Nat))) = _; rw [List.length_map])
  refine seq_i (fun ρ => ρ = [.va d, .no]) ?_ fun ρ e => ?_
  · refine if_f ?_ rfl
    have a1 : ¬ ((ps.length : Int) < 1) := by omega
    have a2 : ¬ ((12 : Int) < ps.length) := by omega
    simp only [↓hos, ↓gz, hi, truD, Bool.not_true, Bool.false_eq_true, if_false, hl, a1, a2, decide_false, Bool.not_false, if_true]
    first | exact ⟨rfl, rfl⟩ | exact ⟨trivial, rfl⟩ | exact ⟨rfl, trivial⟩ | exact ⟨trivial, trivial⟩ | exact ⟨rfl, rfl, rfl⟩ | exact ⟨rfl, trivial, rfl⟩ | exact ⟨rfl, rfl, trivial⟩ | exact ⟨rfl, trivial, trivial⟩
  subst e
  refine seq_i (fun ρ => ρ = [.va d, .no]) ?_ fun ρ e => ?_
  · refine if_f ?_ rfl
    rw [ho_evOrT]
    simp only [↓hos, ↓gz, hs]
    refine ho_compE (fun d => some (.bl true)) (fun d' hd' => ?_) (by simp; omega) ?_
    · obtain ⟨a, _, rfl⟩ := List.mem_map.mp hd'
      rw [show wipeE [Sl.va d, .no] [1] = [.va d, .no] from rfl, show tgN 1 (pt a) [Sl.va d, .no] = some [.va d, .va (pt a)] from rfl, optH_some]
      simp only [↓hos, if_true, ↓gz, ↓List.getElem?_cons_succ]
      rw [point_is]
      simp only [resH, D.flat, if_true, ↓hos]
      exact ⟨rfl, rfl, trivial⟩
    · rw [fm_some]
      simp only [↓hos, all_true (ds := (ps.map pt).map fun _ => D.bl true) (fun d hd => by obtain ⟨_, _, rfl⟩ := List.mem_map.mp hd; rfl), truD, Bool.not_true, Bool.false_eq_true, if_false]
      rw [ho_evDcLen]
      simp only [↓hos]
      rw [show unwipe [Sl.va d, .no] (wipeE [Sl.va d, .no] [1]) [1] = [.va d, .no] from rfl]
      simp only [↓gz, hs, ↓hos]
      have key : dcM [1] (tgN 1) (M.ret true) (evVar 1) (evC (.bl true)) (ps.map pt) [] [.va d, .no] = some ([.va d, .no], [] ++ (ps.map pt).map keyP) := by
        refine dcM_all _ _ (fun d' hd' => ?_) ?_ (by simp; omega)
        · obtain ⟨a, _, rfl⟩ := List.mem_map.mp hd'
          rw [show tgN 1 (pt a) [Sl.va d, .no] = some [.va d, .va (pt a)] from rfl, optH_some]
          simp only [↓hos, ↓gz, ↓List.getElem?_cons_succ]
          exact ⟨trivial, rfl, rfl⟩
        · simp only [List.nil_append, List.map_map]
          refine List.Pairwise.map _ (fun a b hab e => hab ?_) nd
          have e' : keyP (pt a) = keyP (pt b) := e
          rw [keyP_pt, keyP_pt] at e'
          cases a; cases b
          simp at e'
          simp [e']
      rw [show wipeE [Sl.va d, .no] [1] = [.va d, .no] from rfl, key]
      simp only [optH_some, List.nil_append]
      rw [show unwipe [Sl.va d, .no] [.va d, .no] [1] = [.va d, .no] from rfl]
      refine ⟨decide_eq_true (by simp; omega), ?_⟩
      simp only [↓hos, ↓gz, List.length_map, hl, Int.lt_irrefl, decide_false]
      first | exact ⟨rfl, rfl⟩ | exact ⟨trivial, rfl⟩ | exact ⟨rfl, trivial⟩ | exact ⟨trivial, trivial⟩ | exact ⟨rfl, rfl, rfl⟩ | exact ⟨rfl, trivial, rfl⟩ | exact ⟨rfl, rfl, trivial⟩ | exact ⟨rfl, trivial, trivial⟩
  subst e
  rcases hd with rfl | rfl
  · simp only [↓hos, ↓gz]
    rfl
  · simp only [↓hos, ↓gz]
    rfl
theorem posts_dup {ps : List Pt} {p : Pt} (hp : p ∈ ps) (h1 : ps.length ≤ 11) : F12 [.tup ((ps ++ [p]).map pt)] = bad "stones" (.tup ((ps ++ [p]).map pt)) := by
  refine runD_er ?_
  show Er (m12 [.va _, .no]) _
  unfold m12
  have hi : isiD2 csL .lst .tup (.tup ((ps ++ [p]).map pt)) = some (.va (.bl true)) := rfl
  have hs : sqD (.tup ((ps ++ [p]).map pt)) = some ((ps ++ [p]).map pt) := rfl
  have hl : lenD [.tup ((ps ++ [p]).map pt)] = some (.va (.int ((ps.length + 1 : Nat) : Int))) := by
    show some (R.va (D.int (((ps ++ [p]).map pt).length : Nat))) = _
    rw [List.length_map, List.length_append]
    rfl
  have fd := fold_dup (g := keyP) (ds := ps.map pt) (d := pt p) (List.mem_map.mpr ⟨p, hp, rfl⟩)
  have eL : (ps ++ [p]).map pt = ps.map pt ++ [pt p] := by rw [List.map_append]; rfl
  have hlen : (ps.map pt ++ [pt p]).length = ps.length + 1 := by simp
  rw [← eL] at fd hlen
  rw [hlen] at fd
  have hall : ∀ d' ∈ (ps ++ [p]).map pt, ∃ a : Pt, d' = pt a := fun d' hd' => by
    obtain ⟨a, _, rfl⟩ := List.mem_map.mp hd'
    exact ⟨a, rfl⟩
  generalize (ps ++ [p]).map pt = L at *
  refine er_seq2 (fun ρ => ρ = [.va (.tup L), .no]) ?_ fun ρ e => ?_
  · refine if_f ?_ ⟨rfl, rfl⟩
    have a1 : ¬ ((L.length : Int) < 1) := by omega
    have a2 : ¬ ((12 : Int) < (L.length : Int)) := by omega
    simp only [↓hos, ↓gz, hi, truD, Bool.not_true, Bool.false_eq_true, if_false, hl, a1, a2, decide_false, Bool.not_false, if_true]
    first | exact ⟨rfl, rfl⟩ | exact ⟨trivial, rfl⟩ | exact ⟨rfl, trivial⟩ | exact ⟨trivial, trivial⟩ | exact ⟨rfl, rfl, rfl⟩ | exact ⟨rfl, trivial, rfl⟩ | exact ⟨rfl, rfl, trivial⟩ | exact ⟨rfl, trivial, trivial⟩
  subst e
  refine er_seq1 (er_if_t ?_ ?_)
  · rw [ho_evOrT]
    simp only [↓hos, ↓gz, hs]
    refine ho_compE (fun d => some (.bl true)) (fun d' hd' => ?_) (by omega) ?_
    · obtain ⟨a, rfl⟩ := hall d' hd'
      rw [show wipeE [Sl.va (.tup L), .no] [1] = [.va (.tup L), .no] from rfl, show tgN 1 (pt a) [Sl.va (.tup L), .no] = some [.va (.tup L), .va (pt a)] from rfl, optH_some]
      simp only [↓hos, if_true, ↓gz, ↓List.getElem?_cons_succ]
      rw [point_is]
      simp only [resH, D.flat, if_true, ↓hos]
      exact ⟨rfl, rfl, trivial⟩
    · rw [fm_some]
      simp only [↓hos, all_true (ds := L.map fun _ => D.bl true) (fun d hd => by obtain ⟨_, _, rfl⟩ := List.mem_map.mp hd; rfl), truD, Bool.not_true, Bool.false_eq_true, if_false]
      rw [ho_evDcLen]
      simp only [↓hos]
      rw [show unwipe [Sl.va (.tup L), .no] (wipeE [Sl.va (.tup L), .no] [1]) [1] = [.va (.tup L), .no] from rfl]
      simp only [↓gz, hs, ↓hos]
      have key : dcM [1] (tgN 1) (M.ret true) (evVar 1) (evC (.bl true)) L [] [.va (.tup L), .no] = some ([.va (.tup L), .no], L.foldl (fun acc d => insK (keyP d) acc) []) := by
        refine dcM_fold _ _ (fun d' hd' => ?_) (by simp; omega)
        obtain ⟨a, rfl⟩ := hall d' hd'
        rw [show tgN 1 (pt a) [Sl.va (.tup L), .no] = some [.va (.tup L), .va (pt a)] from rfl, optH_some]
        simp only [↓hos, ↓gz, ↓List.getElem?_cons_succ]
        exact ⟨trivial, rfl, rfl⟩
      rw [show wipeE [Sl.va (.tup L), .no] [1] = [.va (.tup L), .no] from rfl, key]
      simp only [optH_some]
      rw [show unwipe [Sl.va (.tup L), .no] [.va (.tup L), .no] [1] = [.va (.tup L), .no] from rfl]
      refine ⟨decide_eq_true (by omega), ?_⟩
      have a3 : (((L.foldl (fun acc d => insK (keyP d) acc) []).length : Nat) : Int) < (L.length : Int) := by omega
      simp only [↓hos, ↓gz, hl, a3, decide_true]
      first | exact ⟨rfl, rfl⟩ | exact ⟨trivial, rfl⟩ | exact ⟨rfl, trivial⟩ | exact ⟨trivial, trivial⟩ | exact ⟨rfl, rfl, rfl⟩ | exact ⟨rfl, trivial, rfl⟩ | exact ⟨rfl, rfl, trivial⟩ | exact ⟨rfl, trivial, trivial⟩
  · refine er_raise (ds := [.str "stones", .tup L]) ?_ rfl (by decide)
    simp only [↓hos, ↓gz]
theorem posts_non : F12 [.non] = bad "stones" .non := by with_unfolding_all rfl
theorem posts_5 : F12 [.int 5] = bad "stones" (.int 5) := by with_unfolding_all rfl
theorem posts_nil : F12 [.tup []] = bad "stones" (.tup []) := by with_unfolding_all rfl
theorem posts_0 : F12 [.tup [.tup [.int 0]]] = bad "stones" (.tup [.tup [.int 0]]) := by with_unfolding_all rfl
/-! ### need_weights -/
def wts (ds : List D) : Bool := ds.all fun d => match d with
  | .int i => decide (0 < i)
  | _ => false
theorem wh_bl {c : Bool} : F8 [.bl c] = some (.va (.bl false)) := by cases c <;> with_unfolding_all rfl
def WI (d : D) : Prop := (∃ i, d = .int i) ∨ ∃ c, d = .bl c
def wpos (d : D) : Bool := match d with
  | .int i => decide (0 < i)
  | _ => false
theorem wts_ho {x : D} {d : D} {ds : List D} {Q : Bool → ES → Prop} (hs : sqD d = some ds) (hd : ∀ e ∈ ds, WI e) (hl : ds.length ≤ 1000) (q : Q (!ds.all wpos) [.va x, .va d, .no]) : Ho ((evNotT (evTru (evB allD (evCons (evComp [2] (evSq (evVar 1)) (tgN 2) (M.ret true) (evAnd (evCall F8 (evN 1 (evCons (evVar 2) evNil))) (evBin gtD (evVar 2) (evC (.int 0))))) evNil)))) [.va x, .va d, .no]) Q := by
  simp only [↓hos, ↓gz, ↓List.getElem?_cons_succ, hs]
  refine ho_compE (fun d => some (.bl (wpos d))) (fun e he => ?_) (by omega) ?_
  · rw [show wipeE [Sl.va x, .va d, .no] [2] = [.va x, .va d, .no] from rfl, show tgN 2 e [Sl.va x, .va d, .no] = some [.va x, .va d, .va e] from rfl, optH_some]
    rcases hd e he with ⟨i, rfl⟩ | ⟨c, rfl⟩
    · simp only [↓hos, ↓gz, ↓List.getElem?_cons_succ, whole_int, ↓resH_same, truD, if_true]
      exact ⟨rfl, rfl, rfl⟩
    · simp only [↓hos, ↓gz, ↓List.getElem?_cons_succ, wh_bl, ↓resH_same, truD, Bool.false_eq_true, if_false, if_true]
      exact ⟨rfl, rfl, rfl⟩
  · rw [fm_some]
    simp only [↓hos, allD_map, truD]
    rw [show unwipe [Sl.va x, .va d, .no] (wipeE [Sl.va x, .va d, .no] [2]) [2] = [.va x, .va d, .no] from rfl]
    exact q
theorem iss_wi {ws : List Int} : ∀ e ∈ iss ws, WI e := fun e he => by
  obtain ⟨i, _, rfl⟩ := List.mem_map.mp he
  exact .inl ⟨i, rfl⟩
theorem iss_pos {ws : List Int} (h : ∀ w ∈ ws, 1 ≤ w) : (iss ws).all wpos = true := by
  refine List.all_eq_true.mpr fun e he => ?_
  obtain ⟨i, hi, rfl⟩ := List.mem_map.mp he
  exact decide_eq_true (by have := h i hi; omega)
theorem weights_ok {ps : List Pt} {d : D} {ws : List Int} (hd : SqI d ws) (h0 : ws.length = ps.length) (h1 : ps.length ≤ 12) (hw : ∀ w ∈ ws, 1 ≤ w) : F14 [.tup (ps.map pt), d] = some (.va (.tup (iss ws))) := by
  refine runD_eq ?_
  show Ho (m14 [.va _, .va d, .no]) _
  unfold m14
  have hi : isiD2 csL .lst .tup d = some (.va (.bl true)) := by rcases hd with rfl | rfl <;> rfl
  have hs : sqD d = some (iss ws) := by rcases hd with rfl | rfl <;> rfl
  have hl : lenD [d] = some (.va (.int (ps.length : Nat))) := by rcases hd with rfl | rfl <;> (show some (R.va (D.int ((iss ws).length : Nat))) = _; rw [iss_len, h0])
  have hl2 : lenD [.tup (ps.map pt)] = some (.va (.int (ps.length : Nat))) := by (show some (R.va (D.int ((ps.map pt).length : Nat))) = _); rw [List.length_map]
  refine seq_i (fun ρ => ρ = [.va (.tup (ps.map pt)), .va d, .no]) ?_ fun ρ e => ?_
  · refine if_f ?_ rfl
    simp only [↓hos, ↓gz, ↓List.getElem?_cons_succ, hi, truD, Bool.not_true, Bool.false_eq_true, if_false, hl, List.length_map, decide_true]
    first | exact ⟨rfl, rfl⟩ | exact ⟨trivial, rfl⟩ | exact ⟨rfl, trivial⟩ | exact ⟨trivial, trivial⟩ | exact ⟨rfl, rfl, rfl⟩ | exact ⟨rfl, trivial, rfl⟩ | exact ⟨rfl, rfl, trivial⟩ | exact ⟨rfl, trivial, trivial⟩
  subst e
  refine seq_i (fun ρ => ρ = [.va (.tup (ps.map pt)), .va d, .no]) ?_ fun ρ e => ?_
  · exact if_f (wts_ho hs iss_wi (by rw [iss_len]; omega) ⟨by rw [iss_pos hw]; rfl, rfl⟩) rfl
  subst e
  rcases hd with rfl | rfl
  · simp only [↓hos, ↓gz, ↓List.getElem?_cons_succ]
    rfl
  · simp only [↓hos, ↓gz, ↓List.getElem?_cons_succ]
    rfl
theorem weights_bad {ps : List Pt} {ds : List D} (h : ds.length ≠ ps.length ∨ ds.all wpos = false) (hl : ds.length ≤ 1000) (hd : ∀ e ∈ ds, WI e) : F14 [.tup (ps.map pt), .tup ds] = bad "weights" (.tup ds) := by
  refine runD_er ?_
  show Er (m14 [.va _, .va _, .no]) _
  unfold m14
  have hi : isiD2 csL .lst .tup (.tup ds) = some (.va (.bl true)) := rfl
  have hl1 : lenD [.tup ds] = some (.va (.int (ds.length : Nat))) := rfl
  have hl2 : lenD [.tup (ps.map pt)] = some (.va (.int (ps.length : Nat))) := by (show some (R.va (D.int ((ps.map pt).length : Nat))) = _); rw [List.length_map]
  by_cases e : ds.length = ps.length
  · have h2 : ds.all wpos = false := h.resolve_left fun z => z e
    refine er_seq2 (fun ρ => ρ = [.va (.tup (ps.map pt)), .va (.tup ds), .no]) ?_ fun ρ e => ?_
    · refine if_f ?_ ⟨rfl, rfl⟩
      simp only [↓hos, ↓gz, ↓List.getElem?_cons_succ, hi, truD, Bool.not_true, Bool.false_eq_true, if_false, List.length_map, e, decide_true]
      first | exact ⟨rfl, rfl⟩ | exact ⟨trivial, rfl⟩ | exact ⟨rfl, trivial⟩ | exact ⟨trivial, trivial⟩ | exact ⟨rfl, rfl, rfl⟩ | exact ⟨rfl, trivial, rfl⟩ | exact ⟨rfl, rfl, trivial⟩ | exact ⟨rfl, trivial, trivial⟩
    subst e
    refine er_seq1 (er_if_t (wts_ho (ds := ds) rfl hd hl ⟨by rw [h2]; rfl, rfl⟩) ?_)
    refine er_raise (ds := [.str "weights", .tup ds]) ?_ rfl (by decide)
    simp only [↓hos, ↓gz, ↓List.getElem?_cons_succ]
  · refine er_seq1 (er_if_t ?_ ?_)
    · have e' : ¬ ((ds.length : Int) = (ps.length : Int)) := by omega
      simp only [↓hos, ↓gz, ↓List.getElem?_cons_succ, hi, truD, Bool.not_true, Bool.false_eq_true, if_false, List.length_map, e', decide_false, Bool.not_false]
      first | exact ⟨rfl, rfl⟩ | exact ⟨trivial, rfl⟩ | exact ⟨rfl, trivial⟩ | exact ⟨trivial, trivial⟩ | exact ⟨rfl, rfl, rfl⟩ | exact ⟨rfl, trivial, rfl⟩ | exact ⟨rfl, rfl, trivial⟩ | exact ⟨rfl, trivial, trivial⟩
    · refine er_raise (ds := [.str "weights", .tup ds]) ?_ rfl (by decide)
      simp only [↓hos, ↓gz, ↓List.getElem?_cons_succ]
theorem weights_non {d : D} : F14 [d, .non] = bad "weights" .non := by with_unfolding_all rfl
theorem weights_5 {d : D} : F14 [d, .int 5] = bad "weights" (.int 5) := by with_unfolding_all rfl
theorem weights_ab {d : D} : F14 [d, .str "ab"] = bad "weights" (.str "ab") := by with_unfolding_all rfl
theorem rep_tupE {x : D} {n : Nat} (h1 : 1 ≤ n) (h2 : n ≤ 100) : mulD (.tup [x]) (.int (n : Nat)) = some (.va (.tup (List.replicate n x))) := by
  by_cases e : ((n : Nat) : Int) = 1
  · have : n = 1 := by omega
    subst this
    rfl
  · simp only [mulD, e, if_false]
    rw [if_pos ⟨by omega, by omega, by simp⟩]
    congr 3
    rw [Int.toNat_natCast]
    clear e h1 h2
    induction n with
    | zero => rfl
    | succ n ih => rw [List.replicate_succ, List.flatten_cons, ih, List.replicate_succ]; rfl
end Lw
end Mc
end
section
set_option Elab.async false
set_option linter.all false
set_option maxRecDepth 100000
set_option maxHeartbeats 4000000
set_option autoImplicit false
namespace Mc
namespace Lw
open PySem PySem.Spec L2
/-! ### sums over stones with weights -/
def stq (a b : Pt) : Int := ((a.1 - b.1).natAbs : Int) + ((a.2 - b.2).natAbs : Int)
theorem natE {i : Int} : (if i < 0 then -i else i) = (i.natAbs : Int) := by split <;> omega
theorem steps_ok {a b : Pt} : F13 [pt a, pt b] = some (.va (.int (stq a b))) := by
  refine runD_eq ?_
  show Ho (m13 [.va (pt a), .va (pt b)]) _
  unfold m13 pt
  simp only [↓hos, ↓gz, ↓List.getElem?_cons_succ, at0, at1, Option.map, natE]
  rfl
theorem walk_ok {a b : Pt} : F28 [pt a, pt b] = some (.va (.int (stq a b))) := by
  refine runD_eq ?_
  show Ho (m28 [.va (pt a), .va (pt b)]) _
  unfold m28 pt
  simp only [↓hos, ↓gz, ↓List.getElem?_cons_succ, at0, at1, Option.map, natE]
  rfl
theorem zp_pr : ∀ {ps : List Pt} {ws : List Int}, zpD (ps.map pt) (iss ws) = (ps.zip ws).map prD
  | [], _ => rfl
  | _ :: _, [] => rfl
  | p :: ps, w :: ws => by
    show D.tup [pt p, .int w] :: zpD (ps.map pt) (iss ws) = prD (p, w) :: (ps.zip ws).map prD
    rw [zp_pr]
    rfl
def sumW (l : List (Pt × Int)) (q : Pt) : Int := (l.map fun r => r.2 * stq r.1 q).sum
theorem sumW_iss {l : List (Pt × Int)} {q : Pt} : (l.map prD).filterMap (fun d => some (D.int (snd_ d * stq (unp (hd_ d)) q))) = iss (l.map fun r => r.2 * stq r.1 q) := by
  rw [fm_map]
  unfold iss
  rw [List.map_map]
  rfl
theorem smw {l : List (Pt × Int)} {r : Pt × Int} (h : ∀ r ∈ l, 1 ≤ r.2 ∧ r.2 ≤ 1000) (hr : r ∈ l) (i : Int) : (small64 r.2 || small64 i) = true := sm_l (by have := h r hr; omega) (by have := h r hr; omega)
theorem sumat_ok {ps : List Pt} {ws : List Int} {q : Pt} (h : ∀ r ∈ ps.zip ws, 1 ≤ r.2 ∧ r.2 ≤ 1000) (hl : (ps.zip ws).length ≤ 1000) : F30 [.tup (ps.map pt), .tup (iss ws), pt q] = some (.va (.int (sumW (ps.zip ws) q))) := by
  refine runD_eq ?_
  show Ho (m30 [.va (.tup (ps.map pt)), .va (.tup (iss ws)), .va (pt q), .no, .no]) _
  unfold m30
  simp only [↓hos, ↓gz, ↓List.getElem?_cons_succ, zp_pr]
  refine ho_compE (fun d => some (.int (snd_ d * stq (unp (hd_ d)) q))) (fun d hd => ?_) (by rw [List.length_map]; omega) ?_
  · obtain ⟨r, hr, rfl⟩ := List.mem_map.mp hd
    rw [show wipeE [Sl.va (.tup (ps.map pt)), .va (.tup (iss ws)), .va (pt q), .no, .no] [3, 4] = [Sl.va (.tup (ps.map pt)), .va (.tup (iss ws)), .va (pt q), .no, .no] from rfl, show tgTup 2 (tgCons (tgN 3) (tgCons (tgN 4) tgNil)) (prD r) [Sl.va (.tup (ps.map pt)), .va (.tup (iss ws)), .va (pt q), .no, .no] = some [Sl.va (.tup (ps.map pt)), .va (.tup (iss ws)), .va (pt q), .va (pt r.1), .va (.int r.2)] from rfl, optH_some]
    simp only [↓hos, if_true, ↓gz, ↓List.getElem?_cons_succ, walk_ok, ↓resH_same, v_mul (smw h hr _)]
    exact ⟨rfl, rfl, rfl⟩
  · rw [sumW_iss]
    simp only [↓hos, sumL]
    rfl
theorem sum_ok {d e f : D} {ps : List Pt} {ws : List Int} {q : Pt} (hd : SqP d ps) (he : SqI e ws) (hf : f = pt q ∨ f = ptL q) (h0 : 1 ≤ ps.length) (h1 : ps.length ≤ 12) (nd : ps.Nodup) (hl : ws.length = ps.length) (hw : ∀ w ∈ ws, 1 ≤ w ∧ w ≤ 1000) : F15 [d, e, f] = some (.va (.int (sumW (ps.zip ws) q))) := by
  have h : ∀ r ∈ ps.zip ws, 1 ≤ r.2 ∧ r.2 ≤ 1000 := fun r hr => hw _ (List.of_mem_zip hr).2
  have e1 := posts_ok hd h0 h1 nd
  have e2 := weights_ok he hl h1 (fun w hh => (hw w hh).1)
  have e3 : F11 [.str "point", f] = some (.va (pt q)) := by rcases hf with rfl | rfl; exact need_pt; exact need_ptL
  refine runD_eq ?_
  show Ho (m15 [.va d, .va e, .va f, .no, .no, .no, .no, .no]) _
  unfold m15
  refine seq_i (fun ρ => ρ = [.va d, .va e, .va f, .va (.tup (ps.map pt)), .no, .no, .no, .no]) ?_ fun ρ e => ?_
  · simp only [↓hos, ↓gz, ↓List.getElem?_cons_succ, e1, ↓resH_same]
    exact ⟨rfl, lt_ok rfl, rfl⟩
  subst e
  refine seq_i (fun ρ => ρ = [.va d, .va e, .va f, .va (.tup (ps.map pt)), .va (.tup (iss ws)), .no, .no, .no]) ?_ fun ρ e => ?_
  · simp only [↓hos, ↓gz, ↓List.getElem?_cons_succ, e2, ↓resH_same]
    exact ⟨rfl, lt_ok rfl, rfl⟩
  subst e
  refine seq_i (fun ρ => ρ = [.va d, .va e, .va f, .va (.tup (ps.map pt)), .va (.tup (iss ws)), .va (pt q), .no, .no]) ?_ fun ρ e => ?_
  · simp only [↓hos, ↓gz, ↓List.getElem?_cons_succ, e3, ↓resH_same]
    exact ⟨rfl, lt_ok rfl, rfl⟩
  subst e
  simp only [↓hos, ↓gz, ↓List.getElem?_cons_succ, zp_pr]
  refine ho_compE (fun d => some (.int (snd_ d * stq (unp (hd_ d)) q))) (fun d' hd' => ?_) (by rw [List.length_map, List.length_zip]; omega) ?_
  · obtain ⟨r, hr, rfl⟩ := List.mem_map.mp hd'
    rw [show wipeE [Sl.va d, .va e, .va f, .va (.tup (ps.map pt)), .va (.tup (iss ws)), .va (pt q), .no, .no] [6, 7] = [Sl.va d, .va e, .va f, .va (.tup (ps.map pt)), .va (.tup (iss ws)), .va (pt q), .no, .no] from rfl, show tgTup 2 (tgCons (tgN 6) (tgCons (tgN 7) tgNil)) (prD r) [Sl.va d, .va e, .va f, .va (.tup (ps.map pt)), .va (.tup (iss ws)), .va (pt q), .no, .no] = some [Sl.va d, .va e, .va f, .va (.tup (ps.map pt)), .va (.tup (iss ws)), .va (pt q), .va (pt r.1), .va (.int r.2)] from rfl, optH_some]
    simp only [↓hos, if_true, ↓gz, ↓List.getElem?_cons_succ, steps_ok, ↓resH_same, v_mul (smw h hr _)]
    exact ⟨rfl, rfl, rfl⟩
  · rw [sumW_iss]
    simp only [↓hos, sumL]
    rfl
/-! ### the weighted middle -/
def wsum (l : List Pt) : Int := (l.map (·.2)).sum
def lo_ (l : List Pt) (x : Int) : Int := wsum (l.filter fun p => decide (p.1 ≤ x))
def hi_ (l : List Pt) (x : Int) : Int := wsum (l.filter fun p => decide (x ≤ p.1))
structure Mid (l : List Pt) (a b : Int) : Prop where
  a1 : wsum l ≤ 2 * lo_ l a
  a2 : ∀ p ∈ l, wsum l ≤ 2 * lo_ l p.1 → a ≤ p.1
  b1 : wsum l ≤ 2 * hi_ l b
  b2 : ∀ p ∈ l, wsum l ≤ 2 * hi_ l p.1 → p.1 ≤ b
  ab : -900 ≤ a ∧ a ≤ 900
  bb : -900 ≤ b ∧ b ≤ 900
theorem ws_iss {l : List Pt} {P : Pt → Bool} : (l.map pt).filterMap (fun d => if P (unp d) = true then some (D.int (snd_ d)) else none) = iss ((l.filter P).map (·.2)) := by
  induction l with
  | nil => rfl
  | cons p l ih =>
    rw [List.map_cons, List.filterMap_cons, ih, unp_pt, List.filter_cons]
    cases P p <;> rfl
abbrev Z16 (l : List Pt) (w : Int) (lo hi : List Int) (u v : Sl) : ES := [.va (.lst (l.map pt)), .va (.int w), .ow (iss lo), .ow (iss hi), u, v, .no, .no]
theorem sum2_nn : ∀ {l : List Pt}, (∀ p ∈ l, 1 ≤ p.2) → 0 ≤ wsum l
  | [], _ => by decide
  | p :: l, h => by
    have := sum2_nn fun q hq => h q (List.mem_cons_of_mem _ hq)
    have h1 := h p List.mem_cons_self
    unfold wsum at *
    rw [List.map_cons, List.sum_cons]
    omega
theorem cond_lo {l : List Pt} {w n : Int} {L H : List Int} {v : Sl} {Q : Bool → ES → Prop} (hl : l.length ≤ 1000) (q : Q (!decide (2 * lo_ l n < w)) (Z16 l w L H (.va (.int n)) v)) : Ho ((evBl (evBin geD (evBin mulD (evC (.int 2)) (evB sumD (evCons (evComp [6, 7] (evSq (evVar 0)) (tgTup 2 (tgCons (tgN 6) (tgCons (tgN 7) tgNil))) (evBl (evBin leD (evVar 6) (evVar 4))) (evVar 7)) evNil))) (evVar 1))) (Z16 l w L H (.va (.int n)) v)) Q := by
  simp only [↓hos, ↓gz, ↓List.getElem?_cons_succ]
  refine ho_compE (fun d => if decide ((unp d).1 ≤ n) = true then some (D.int (snd_ d)) else none) (fun d' hd' => ?_) (by rw [List.length_map]; omega) ?_
  · obtain ⟨r, hr, rfl⟩ := List.mem_map.mp hd'
    rw [show tgTup 2 (tgCons (tgN 6) (tgCons (tgN 7) tgNil)) (pt r) (wipeE (Z16 l w L H (.va (.int n)) v) [6, 7]) = some ([.va (.lst (l.map pt)), .va (.int w), .ow (iss L), .ow (iss H), .va (.int n), v, .va (.int r.1), .va (.int r.2)]) from rfl, optH_some]
    by_cases c : r.1 ≤ n
    · have c' : ¬ n < r.1 := by omega
      simp only [↓hos, ↓gz, ↓List.getElem?_cons_succ, c', decide_false, Bool.not_false, if_true, unp_pt, c, decide_true]
      exact ⟨rfl, rfl⟩
    · have c' : n < r.1 := by omega
      simp only [↓hos, ↓gz, ↓List.getElem?_cons_succ, c', decide_true, Bool.not_true, Bool.false_eq_true, if_false, unp_pt, c, decide_false]
      exact ⟨rfl, trivial⟩
  · rw [ws_iss (P := fun p => decide (p.1 ≤ n))]
    rw [show unwipe (Z16 l w L H (.va (.int n)) v) (wipeE (Z16 l w L H (.va (.int n)) v) [6, 7]) [6, 7] = Z16 l w L H (.va (.int n)) v from rfl]
    have s2 : ∀ i, (small64 2 || small64 i) = true := fun i => by simp [small64]
    simp only [↓hos, sumL, v_mul (s2 _), ↓gz, ↓List.getElem?_cons_succ]
    exact q
theorem cond_hi {l : List Pt} {w n : Int} {L H : List Int} {v : Sl} {Q : Bool → ES → Prop} (hl : l.length ≤ 1000) (q : Q (!decide (2 * hi_ l n < w)) (Z16 l w L H (.va (.int n)) v)) : Ho ((evBl (evBin geD (evBin mulD (evC (.int 2)) (evB sumD (evCons (evComp [6, 7] (evSq (evVar 0)) (tgTup 2 (tgCons (tgN 6) (tgCons (tgN 7) tgNil))) (evBl (evBin geD (evVar 6) (evVar 4))) (evVar 7)) evNil))) (evVar 1))) (Z16 l w L H (.va (.int n)) v)) Q := by
  simp only [↓hos, ↓gz, ↓List.getElem?_cons_succ]
  refine ho_compE (fun d => if decide (n ≤ (unp d).1) = true then some (D.int (snd_ d)) else none) (fun d' hd' => ?_) (by rw [List.length_map]; omega) ?_
  · obtain ⟨r, hr, rfl⟩ := List.mem_map.mp hd'
    rw [show tgTup 2 (tgCons (tgN 6) (tgCons (tgN 7) tgNil)) (pt r) (wipeE (Z16 l w L H (.va (.int n)) v) [6, 7]) = some ([.va (.lst (l.map pt)), .va (.int w), .ow (iss L), .ow (iss H), .va (.int n), v, .va (.int r.1), .va (.int r.2)]) from rfl, optH_some]
    by_cases c : n ≤ r.1
    · have c' : ¬ r.1 < n := by omega
      simp only [↓hos, ↓gz, ↓List.getElem?_cons_succ, c', decide_false, Bool.not_false, if_true, unp_pt, c, decide_true]
      exact ⟨rfl, rfl⟩
    · have c' : r.1 < n := by omega
      simp only [↓hos, ↓gz, ↓List.getElem?_cons_succ, c', decide_true, Bool.not_true, Bool.false_eq_true, if_false, unp_pt, c, decide_false]
      exact ⟨rfl, trivial⟩
  · rw [ws_iss (P := fun p => decide (n ≤ p.1))]
    rw [show unwipe (Z16 l w L H (.va (.int n)) v) (wipeE (Z16 l w L H (.va (.int n)) v) [6, 7]) [6, 7] = Z16 l w L H (.va (.int n)) v from rfl]
    have s2 : ∀ i, (small64 2 || small64 i) = true := fun i => by simp [small64]
    simp only [↓hos, sumL, v_mul (s2 _), ↓gz, ↓List.getElem?_cons_succ]
    exact q
end Lw
end Mc
end
section
set_option Elab.async false
set_option linter.all false
set_option maxRecDepth 100000
set_option maxHeartbeats 4000000
set_option autoImplicit false
namespace Mc
namespace Lw
open PySem PySem.Spec L2
/-! ### the plain law of the weighted middle -/
def cst (l : List Pt) (x : Int) : Int := (l.map fun p => p.2 * ((p.1 - x).natAbs : Int)).sum
theorem ws_cons {p : Pt} {l : List Pt} : wsum (p :: l) = p.2 + wsum l := by
  unfold wsum
  rw [List.map_cons, List.sum_cons]
theorem ws_filt {l : List Pt} {P : Pt → Bool} {p : Pt} : wsum ((p :: l).filter P) = (if P p = true then p.2 else 0) + wsum (l.filter P) := by
  rw [List.filter_cons]
  cases P p with
  | true => simp only [if_true]; exact ws_cons
  | false => simp
theorem lo_cons {p : Pt} {l : List Pt} {x : Int} : lo_ (p :: l) x = (if p.1 ≤ x then p.2 else 0) + lo_ l x := by
  unfold lo_
  rw [ws_filt]
  by_cases h : p.1 ≤ x <;> simp [h]
theorem hi_cons {p : Pt} {l : List Pt} {x : Int} : hi_ (p :: l) x = (if x ≤ p.1 then p.2 else 0) + hi_ l x := by
  unfold hi_
  rw [ws_filt]
  by_cases h : x ≤ p.1 <;> simp [h]
theorem cst_step : ∀ (l : List Pt) (x : Int), cst l (x + 1) - cst l x = 2 * lo_ l x - wsum l
  | [], x => by simp [cst, lo_, wsum]
  | p :: l, x => by
    have ih := cst_step l x
    rw [lo_cons, ws_cons]
    unfold cst at *
    rw [List.map_cons, List.map_cons, List.sum_cons, List.sum_cons]
    by_cases h : p.1 ≤ x
    · have e : ((p.1 - (x + 1)).natAbs : Int) = ((p.1 - x).natAbs : Int) + 1 := by omega
      rw [e, Int.mul_add, if_pos h]
      omega
    · have e : ((p.1 - x).natAbs : Int) = ((p.1 - (x + 1)).natAbs : Int) + 1 := by omega
      rw [e, Int.mul_add, if_neg h]
      omega
theorem lo_mono : ∀ {l : List Pt} {x y : Int}, (∀ p ∈ l, 1 ≤ p.2) → x ≤ y → lo_ l x ≤ lo_ l y
  | [], _, _, _, _ => Int.le_refl _
  | p :: l, x, y, h, hxy => by
    have ih := lo_mono (l := l) (fun q hq => h q (List.mem_cons_of_mem _ hq)) hxy
    have h1 := h p List.mem_cons_self
    rw [lo_cons, lo_cons]
    split <;> split <;> omega
theorem hi_lo : ∀ {l : List Pt} {x : Int}, hi_ l (x + 1) = wsum l - lo_ l x
  | [], _ => by simp [hi_, lo_, wsum]
  | p :: l, x => by
    have ih := hi_lo (l := l) (x := x)
    rw [lo_cons, hi_cons, ws_cons]
    split <;> split <;> omega
theorem ws_pos {l : List Pt} (h : ∀ p ∈ l, 1 ≤ p.2) (h0 : l ≠ []) : 1 ≤ wsum l := by
  cases l with
  | nil => exact (h0 rfl).elim
  | cons p l =>
    have := sum2_nn fun q hq => h q (List.mem_cons_of_mem _ hq)
    have h1 := h p List.mem_cons_self
    rw [ws_cons]
    omega
theorem max_of : ∀ {l : List Pt}, l ≠ [] → ∃ p ∈ l, ∀ q ∈ l, q.1 ≤ p.1
  | [], h => (h rfl).elim
  | [p], _ => ⟨p, by simp, by simp⟩
  | p :: q :: l, _ => by
    obtain ⟨m, hm, hx⟩ := max_of (l := q :: l) (by simp)
    by_cases h : m.1 ≤ p.1
    · refine ⟨p, List.mem_cons_self, fun r hr => ?_⟩
      rcases List.mem_cons.mp hr with rfl | hr
      · exact Int.le_refl _
      · have := hx r hr; omega
    · refine ⟨m, List.mem_cons_of_mem _ hm, fun r hr => ?_⟩
      rcases List.mem_cons.mp hr with rfl | hr
      · omega
      · exact hx r hr
theorem min_of : ∀ {l : List Pt}, l ≠ [] → ∃ p ∈ l, ∀ q ∈ l, p.1 ≤ q.1
  | [], h => (h rfl).elim
  | [p], _ => ⟨p, by simp, by simp⟩
  | p :: q :: l, _ => by
    obtain ⟨m, hm, hx⟩ := min_of (l := q :: l) (by simp)
    by_cases h : p.1 ≤ m.1
    · refine ⟨p, List.mem_cons_self, fun r hr => ?_⟩
      rcases List.mem_cons.mp hr with rfl | hr
      · exact Int.le_refl _
      · have := hx r hr; omega
    · refine ⟨m, List.mem_cons_of_mem _ hm, fun r hr => ?_⟩
      rcases List.mem_cons.mp hr with rfl | hr
      · omega
      · exact hx r hr
theorem lo_at {l : List Pt} {x : Int} (h : 0 < lo_ l x) : ∃ p ∈ l, p.1 ≤ x ∧ lo_ l p.1 = lo_ l x := by
  have h0 : l.filter (fun p => decide (p.1 ≤ x)) ≠ [] := fun z => by
    unfold lo_ at h
    rw [z] at h
    exact absurd h (by decide)
  obtain ⟨p, hp, hm⟩ := max_of h0
  obtain ⟨h1, h2⟩ := List.mem_filter.mp hp
  have h2 := of_decide_eq_true h2
  refine ⟨p, h1, h2, ?_⟩
  unfold lo_
  congr 1
  refine List.filter_congr fun q hq => ?_
  by_cases c : q.1 ≤ x
  · have := hm q (List.mem_filter.mpr ⟨hq, decide_eq_true c⟩)
    rw [decide_eq_true c, decide_eq_true this]
  · rw [decide_eq_false c, decide_eq_false (by omega)]
theorem hi_at {l : List Pt} {x : Int} (h : 0 < hi_ l x) : ∃ p ∈ l, x ≤ p.1 ∧ hi_ l p.1 = hi_ l x := by
  have h0 : l.filter (fun p => decide (x ≤ p.1)) ≠ [] := fun z => by
    unfold hi_ at h
    rw [z] at h
    exact absurd h (by decide)
  obtain ⟨p, hp, hm⟩ := min_of h0
  obtain ⟨h1, h2⟩ := List.mem_filter.mp hp
  have h2 := of_decide_eq_true h2
  refine ⟨p, h1, h2, ?_⟩
  unfold hi_
  congr 1
  refine List.filter_congr fun q hq => ?_
  by_cases c : x ≤ q.1
  · have := hm q (List.mem_filter.mpr ⟨hq, decide_eq_true c⟩)
    rw [decide_eq_true c, decide_eq_true this]
  · rw [decide_eq_false c, decide_eq_false (by omega)]
theorem valley {f : Int → Int} {a b : Int} (h1 : ∀ x, x < a → f (x + 1) < f x) (h2 : ∀ x, a ≤ x → x < b → f (x + 1) = f x) (h3 : ∀ x, b ≤ x → f x < f (x + 1)) (hab : a ≤ b) (x : Int) : f a ≤ f x ∧ (f x = f a ↔ a ≤ x ∧ x ≤ b) := by
  have k1 : ∀ n : Nat, f a + n ≤ f (a - n) := fun n => by
    induction n with
    | zero => simp
    | succ n ih =>
      have := h1 (a - (n + 1 : Nat)) (by omega)
      rw [show a - ((n + 1 : Nat) : Int) + 1 = a - (n : Nat) by omega] at this
      omega
  have k2 : ∀ n : Nat, a + n ≤ b → f (a + n) = f a := fun n => by
    induction n with
    | zero => intro _; simp
    | succ n ih =>
      intro h
      have := h2 (a + n) (by omega) (by omega)
      rw [show a + ((n + 1 : Nat) : Int) = a + n + 1 by omega, this]
      exact ih (by omega)
  have k3 : ∀ n : Nat, f b + n ≤ f (b + n) := fun n => by
    induction n with
    | zero => simp
    | succ n ih =>
      have := h3 (b + n) (by omega)
      rw [show b + ((n + 1 : Nat) : Int) = b + n + 1 by omega]
      omega
  have kb : f b = f a := by
    have := k2 (b - a).toNat (by omega)
    rw [show a + ((b - a).toNat : Int) = b by omega] at this
    exact this
  by_cases c1 : x < a
  · have := k1 (a - x).toNat
    rw [show a - ((a - x).toNat : Int) = x by omega] at this
    omega
  · by_cases c2 : x ≤ b
    · have := k2 (x - a).toNat (by omega)
      rw [show a + ((x - a).toNat : Int) = x by omega] at this
      omega
    · have := k3 (x - b).toNat
      rw [show b + ((x - b).toNat : Int) = x by omega] at this
      omega
theorem mid_law {l : List Pt} {a b : Int} (hw : ∀ p ∈ l, 1 ≤ p.2) (h0 : l ≠ []) (M : Mid l a b) (x : Int) : cst l a ≤ cst l x ∧ (cst l x = cst l a ↔ a ≤ x ∧ x ≤ b) := by
  have hW := ws_pos hw h0
  have s1 : ∀ x, x < a → 2 * lo_ l x < wsum l := fun x hx => by
    by_cases c : wsum l ≤ 2 * lo_ l x
    · obtain ⟨p, hp, h1, h2⟩ := lo_at (l := l) (x := x) (by omega)
      have := M.a2 p hp (by rw [h2]; exact c)
      omega
    · omega
  have s2 : ∀ x, a ≤ x → wsum l ≤ 2 * lo_ l x := fun x hx => by
    have := lo_mono hw hx
    have := M.a1
    omega
  have s3 : ∀ x, b ≤ x → wsum l < 2 * lo_ l x := fun x hx => by
    have e := hi_lo (l := l) (x := x)
    by_cases c : wsum l ≤ 2 * hi_ l (x + 1)
    · obtain ⟨p, hp, h1, h2⟩ := hi_at (l := l) (x := x + 1) (by omega)
      have := M.b2 p hp (by rw [h2]; exact c)
      omega
    · omega
  have s4 : ∀ x, x < b → 2 * lo_ l x ≤ wsum l := fun x hx => by
    have e := hi_lo (l := l) (x := b - 1)
    rw [show b - 1 + 1 = b by omega] at e
    have := M.b1
    have := lo_mono (l := l) hw (show x ≤ b - 1 by omega)
    omega
  refine valley (fun x hx => ?_) (fun x h1 h2 => ?_) (fun x hx => ?_) ?_ x
  · have := cst_step l x
    have := s1 x hx
    omega
  · have := cst_step l x
    have := s2 x h1
    have := s4 x h2
    omega
  · have := cst_step l x
    have := s3 x hx
    omega
  · by_cases c : a ≤ b
    · exact c
    · have := s1 b (by omega)
      have := s3 b (by omega)
      omega
/-! ### the two ways -/
def ea (r : Pt × Int) : Pt := (r.1.1, r.2)
def no_ (r : Pt × Int) : Pt := (r.1.2, r.2)
theorem sumW_two : ∀ {l : List (Pt × Int)} {x y : Int}, sumW l (x, y) = cst (l.map ea) x + cst (l.map no_) y
  | [], _, _ => by simp [sumW, cst]
  | r :: l, x, y => by
    have ih := sumW_two (l := l) (x := x) (y := y)
    unfold sumW cst stq at *
    rw [List.map_cons, List.map_cons, List.map_cons, List.map_cons, List.map_cons, List.sum_cons, List.sum_cons, List.sum_cons, ih, Int.mul_add]
    simp only [ea, no_]
    omega
theorem meet_law {l : List (Pt × Int)} {a b c e : Int} (hw : ∀ r ∈ l, 1 ≤ r.2) (h0 : l ≠ []) (M1 : Mid (l.map ea) a b) (M2 : Mid (l.map no_) c e) (x y : Int) :
    sumW l (a, c) ≤ sumW l (x, y) ∧ (sumW l (x, y) = sumW l (a, c) ↔ (a ≤ x ∧ x ≤ b) ∧ c ≤ y ∧ y ≤ e) := by
  have k1 := mid_law (l := l.map ea) (fun p hp => by obtain ⟨r, hr, rfl⟩ := List.mem_map.mp hp; exact hw r hr) (by simpa using h0) M1 x
  have k2 := mid_law (l := l.map no_) (fun p hp => by obtain ⟨r, hr, rfl⟩ := List.mem_map.mp hp; exact hw r hr) (by simpa using h0) M2 y
  rw [sumW_two, sumW_two]
  obtain ⟨k1, k3⟩ := k1
  obtain ⟨k2, k4⟩ := k2
  refine ⟨by omega, ?_⟩
  rw [← k3, ← k4]
  omega
end Lw
end Mc
end
section
set_option Elab.async false
set_option linter.all false
set_option maxRecDepth 100000
set_option maxHeartbeats 4000000
set_option autoImplicit false
namespace Mc
namespace Lw
open PySem PySem.Spec L2
theorem ws_all {l : List Pt} : (l.map pt).filterMap (fun d => some (D.int (snd_ d))) = iss (l.map (·.2)) := by
  rw [fm_map]
  unfold iss
  rw [List.map_map]
  rfl
theorem lo_max {l : List Pt} {p : Pt} (h : ∀ q ∈ l, q.1 ≤ p.1) : lo_ l p.1 = wsum l := by
  unfold lo_
  rw [List.filter_eq_self.mpr fun q hq => decide_eq_true (h q hq)]
theorem hi_min {l : List Pt} {p : Pt} (h : ∀ q ∈ l, p.1 ≤ q.1) : hi_ l p.1 = wsum l := by
  unfold hi_
  rw [List.filter_eq_self.mpr fun q hq => decide_eq_true (h q hq)]
def Pl (l : List Pt) (p : Pt) : Bool := !decide (2 * lo_ l p.1 < wsum l)
def Ph (l : List Pt) (p : Pt) : Bool := !decide (2 * hi_ l p.1 < wsum l)
def kept (P : Pt → Bool) (l : List Pt) : List Int := (l.filter P).map (·.1)
theorem kept_app {P : Pt → Bool} {l : List Pt} {p : Pt} : kept P (l ++ [p]) = kept P l ++ (if P p = true then [p.1] else []) := by
  unfold kept
  rw [List.filter_append, List.map_append]
  congr 1
  rw [List.filter_cons]
  cases P p <;> rfl
theorem kept_mem {P : Pt → Bool} {l : List Pt} {x : Int} : x ∈ kept P l ↔ ∃ p ∈ l, P p = true ∧ p.1 = x := by
  unfold kept
  rw [List.mem_map]
  exact ⟨fun ⟨p, h, e⟩ => ⟨p, (List.mem_filter.mp h).1, (List.mem_filter.mp h).2, e⟩, fun ⟨p, h1, h2, e⟩ => ⟨p, List.mem_filter.mpr ⟨h1, h2⟩, e⟩⟩
theorem mid_ok {l : List Pt} (h0 : l ≠ []) (h1 : l.length ≤ 1000) (hw : ∀ p ∈ l, 1 ≤ p.2) (hb : ∀ p ∈ l, -900 ≤ p.1 ∧ p.1 ≤ 900) : ∃ a b, F16 [.lst (l.map pt)] = some (.va (pt (a, b))) ∧ Mid l a b := by
  have hW := ws_pos hw h0
  obtain ⟨pm, hpm, hmax⟩ := max_of h0
  obtain ⟨pn, hpn, hmin⟩ := min_of h0
  have n1 : 0 < (kept (Pl l) l).length := List.length_pos_of_mem (kept_mem.mpr ⟨pm, hpm, by unfold Pl; rw [lo_max hmax, decide_eq_false (by omega)]; rfl, rfl⟩)
  have n2 : 0 < (kept (Ph l) l).length := List.length_pos_of_mem (kept_mem.mpr ⟨pn, hpn, by unfold Ph; rw [hi_min hmin, decide_eq_false (by omega)]; rfl, rfl⟩)
  obtain ⟨a, ha, ha2, ea⟩ := mn_ints n1
  obtain ⟨b, hb', hb2, eb⟩ := mx_ints n2
  refine ⟨a, b, runD_eq ?_, ?_⟩
  · show Ho (m16 [.va (.lst (l.map pt)), .no, .no, .no, .no, .no, .no, .no]) _
    unfold m16
    refine seq_i (fun ρ => ρ = [.va (.lst (l.map pt)), .va (.int (wsum l)), .no, .no, .no, .no, .no, .no]) ?_ fun ρ e => ?_
    · simp only [↓hos, ↓gz]
      refine ho_compE (fun d => some (D.int (snd_ d))) (fun d' hd' => ?_) (by rw [List.length_map]; omega) ?_
      · obtain ⟨r, hr, rfl⟩ := List.mem_map.mp hd'
        rw [show tgTup 2 (tgCons (tgN 4) (tgCons (tgN 5) tgNil)) (pt r) (wipeE [Sl.va (.lst (l.map pt)), .no, .no, .no, .no, .no, .no, .no] [4, 5]) = some [.va (.lst (l.map pt)), .no, .no, .no, .va (.int r.1), .va (.int r.2), .no, .no] from rfl, optH_some]
        simp only [↓hos, ↓gz, ↓List.getElem?_cons_succ, if_true]
        exact ⟨rfl, rfl⟩
      · rw [ws_all]
        simp only [↓hos, sumL]
        exact ⟨lt_ok rfl, rfl⟩
    subst e
    refine seq_i (fun ρ => ρ = Z16 l (wsum l) [] [] .no .no) ?_ fun ρ e => ?_
    · simp only [↓hos]
      exact ⟨rfl, rfl, rfl, rfl⟩
    subst e
    refine seq_i (fun ρ => ∃ u v, ρ = Z16 l (wsum l) (kept (Pl l) l) (kept (Ph l) l) u v) ?_ fun ρ ⟨u, v, e⟩ => ?_
    · simp only [↓hos, ↓gz]
      refine forM_inv (fun ds ρ => ∃ done rest u v, done ++ rest = l ∧ ds = rest.map pt ∧ ρ = Z16 l (wsum l) (kept (Pl l) done) (kept (Ph l) done) u v) ?_ ?_ _ _ ⟨[], l, _, _, rfl, rfl, rfl⟩
      · rintro d ds ρ ⟨done, rest, u, v, hdr, hds, rfl⟩
        cases rest with
        | nil => cases hds
        | cons p rest =>
          rw [List.map_cons] at hds
          cases hds
          have hpl : p ∈ l := by rw [← hdr]; simp
          have hlen : done.length + 1 + rest.length = l.length := by rw [← hdr]; simp; omega
          rw [show tgTup 2 (tgCons (tgN 4) (tgCons (tgN 5) tgNil)) (pt p) (Z16 l (wsum l) (kept (Pl l) done) (kept (Ph l) done) u v) = some (Z16 l (wsum l) (kept (Pl l) done) (kept (Ph l) done) (.va (.int p.1)) (.va (.int p.2))) from rfl, optH_some]
          have kl : ∀ (P : Pt → Bool), (kept P done).length ≤ 1000 := fun P => by
            unfold kept
            rw [List.length_map]
            have := List.length_filter_le P done
            omega
          have fw : ∀ (P : Pt → Bool), few (iss (kept P done)) = true := fun P => decide_eq_true (by rw [iss_len]; have := kl P; omega)
          have app : ∀ (P : Pt → Bool), iss (kept P done) ++ [D.int p.1] = iss (kept P done ++ [p.1]) := fun P => by unfold iss; rw [List.map_append]; rfl
          refine seq_i (fun ρ => ρ = Z16 l (wsum l) (kept (Pl l) (done ++ [p])) (kept (Ph l) done) (.va (.int p.1)) (.va (.int p.2))) ?_ fun ρ e => ?_
          · rw [kept_app]
            rw [ho_evIf]
            refine cond_lo h1 ?_
            show ite (Pl l p = true) _ _
            cases hP : Pl l p with
            | true =>
              simp only [if_true]
              rw [ho_evDrop, ho_evLM (xs0 := iss (kept (Pl l) done)) rfl]
              simp only [↓hos, ↓gz, ↓List.getElem?_cons_succ, apM, fw, if_true]
              rw [app]
              rfl
            | false =>
              simp only [Bool.false_eq_true, if_false, ↓hos, List.append_nil]
          subst e
          rw [ho_evIf]
          refine cond_hi h1 ?_
          show ite (Ph l p = true) _ _
          have fin : ∀ x, x = Z16 l (wsum l) (kept (Pl l) (done ++ [p])) (kept (Ph l) (done ++ [p])) (.va (.int p.1)) (.va (.int p.2)) → ∃ done' rest' u v, done' ++ rest' = l ∧ rest.map pt = rest'.map pt ∧ x = Z16 l (wsum l) (kept (Pl l) done') (kept (Ph l) done') u v := fun x e => ⟨done ++ [p], rest, _, _, by rw [← hdr]; simp, rfl, e⟩
          cases hP : Ph l p with
          | true =>
            simp only [if_true]
            rw [ho_evDrop, ho_evLM (xs0 := iss (kept (Ph l) done)) rfl]
            simp only [↓hos, ↓gz, ↓List.getElem?_cons_succ, apM, fw, if_true, stepH_nx]
            refine fin _ ?_
            rw [kept_app (P := Ph l), hP, if_pos rfl, app]
            rfl
          | false =>
            simp only [Bool.false_eq_true, if_false, ↓hos, stepH_nx]
            refine fin _ ?_
            rw [kept_app (P := Ph l), hP]
            simp
      · rintro ρ ⟨done, rest, u, v, hdr, hds, rfl⟩
        cases rest with
        | nil => rw [List.append_nil] at hdr; subst hdr; exact ⟨u, v, rfl⟩
        | cons p rest => cases hds
    subst e
    simp only [↓hos, ↓gz, ↓List.getElem?_cons_succ, ea, eb]
    exact ⟨rfl, rfl⟩
  · obtain ⟨p, hp, hP, rfl⟩ := kept_mem.mp ha
    obtain ⟨q, hq, hQ, rfl⟩ := kept_mem.mp hb'
    refine ⟨?_, fun r hr h => ha2 _ (kept_mem.mpr ⟨r, hr, ?_, rfl⟩), ?_, fun r hr h => hb2 _ (kept_mem.mpr ⟨r, hr, ?_, rfl⟩), hb p hp, hb q hq⟩
    · unfold Pl at hP
      simp only [Bool.not_eq_true', decide_eq_false_iff_not] at hP
      omega
    · unfold Pl
      rw [decide_eq_false (by omega)]
      rfl
    · unfold Ph at hQ
      simp only [Bool.not_eq_true', decide_eq_false_iff_not] at hQ
      omega
    · unfold Ph
      rw [decide_eq_false (by omega)]
      rfl
theorem box_ok {d e : D} {ps : List Pt} {ws : List Int} (hd : SqP d ps) (he : SqI e ws) (h0 : 1 ≤ ps.length) (h1 : ps.length ≤ 12) (nd : ps.Nodup) (hl : ws.length = ps.length) (hw : ∀ w ∈ ws, 1 ≤ w) (hb : ∀ p ∈ ps, -900 ≤ p.1 ∧ p.1 ≤ 900 ∧ -900 ≤ p.2 ∧ p.2 ≤ 900) :
    ∃ a b c g, F17 [d, e] = some (.va (.tup [pt (a, b), pt (c, g)])) ∧ Mid ((ps.zip ws).map ea) a b ∧ Mid ((ps.zip ws).map no_) c g := by
  have e1 := posts_ok hd h0 h1 nd
  have e2 := weights_ok he hl h1 hw
  have hz : (ps.zip ws).length = ps.length := by rw [List.length_zip]; omega
  have ne : ps.zip ws ≠ [] := fun z => by rw [z] at hz; simp at hz; omega
  obtain ⟨a, b, q1, q2⟩ := mid_ok (l := (ps.zip ws).map ea) (by simpa using ne) (by rw [List.length_map]; omega) (fun p hp => by obtain ⟨r, hr, rfl⟩ := List.mem_map.mp hp; exact hw _ (List.of_mem_zip hr).2) (fun p hp => by obtain ⟨r, hr, rfl⟩ := List.mem_map.mp hp; have := hb _ (List.of_mem_zip hr).1; exact ⟨this.1, this.2.1⟩)
  obtain ⟨c, g, q3, q4⟩ := mid_ok (l := (ps.zip ws).map no_) (by simpa using ne) (by rw [List.length_map]; omega) (fun p hp => by obtain ⟨r, hr, rfl⟩ := List.mem_map.mp hp; exact hw _ (List.of_mem_zip hr).2) (fun p hp => by obtain ⟨r, hr, rfl⟩ := List.mem_map.mp hp; have := hb _ (List.of_mem_zip hr).1; exact ⟨this.2.2.1, this.2.2.2⟩)
  refine ⟨a, b, c, g, runD_eq ?_, q2, q4⟩
  show Ho (m17 [.va d, .va e, .no, .no, .no, .no, .no]) _
  unfold m17
  refine seq_i (fun ρ => ρ = [.va d, .va e, .va (.tup (ps.map pt)), .no, .no, .no, .no]) ?_ fun ρ e => ?_
  · simp only [↓hos, ↓gz, ↓List.getElem?_cons_succ, e1, ↓resH_same]
    exact ⟨rfl, lt_ok rfl, rfl⟩
  subst e
  refine seq_i (fun ρ => ρ = [.va d, .va e, .va (.tup (ps.map pt)), .va (.tup (iss ws)), .no, .no, .no]) ?_ fun ρ e => ?_
  · simp only [↓hos, ↓gz, ↓List.getElem?_cons_succ, e2, ↓resH_same]
    exact ⟨rfl, lt_ok rfl, rfl⟩
  subst e
  have m1 : ((ps.zip ws).map prD).filterMap (fun d => some (pt ((unp (hd_ d)).1, snd_ d))) = ((ps.zip ws).map ea).map pt := by
    rw [fm_map (g := fun d => pt ((unp (hd_ d)).1, snd_ d)), List.map_map]
    rfl
  have m2 : ((ps.zip ws).map prD).filterMap (fun d => some (pt ((unp (hd_ d)).2, snd_ d))) = ((ps.zip ws).map no_).map pt := by
    rw [fm_map (g := fun d => pt ((unp (hd_ d)).2, snd_ d)), List.map_map]
    rfl
  have x0 : ∀ r : Pt, ixD (pt r) (.int 0) = some (.va (.int r.1)) := fun _ => rfl
  have x1 : ∀ r : Pt, ixD (pt r) (.int 1) = some (.va (.int r.2)) := fun _ => rfl
  refine seq_i (fun ρ => ρ = [.va d, .va e, .va (.tup (ps.map pt)), .va (.tup (iss ws)), .va (pt (a, b)), .no, .no]) ?_ fun ρ e => ?_
  · simp only [↓hos, ↓gz, ↓List.getElem?_cons_succ, zp_pr]
    refine ho_compE (fun d => some (pt ((unp (hd_ d)).1, snd_ d))) (fun d' hd' => ?_) (by rw [List.length_map]; omega) ?_
    · obtain ⟨r, hr, rfl⟩ := List.mem_map.mp hd'
      rw [show tgTup 2 (tgCons (tgN 5) (tgCons (tgN 6) tgNil)) (prD r) (wipeE [Sl.va d, .va e, .va (.tup (ps.map pt)), .va (.tup (iss ws)), .no, .no, .no] [5, 6]) = some [Sl.va d, .va e, .va (.tup (ps.map pt)), .va (.tup (iss ws)), .no, .va (pt r.1), .va (.int r.2)] from rfl, optH_some]
      simp only [↓hos, if_true, ↓gz, ↓List.getElem?_cons_succ, x0]
      exact ⟨rfl, rfl, rfl⟩
    · rw [m1]
      simp only [↓hos, q1, ↓resH_same]
      exact ⟨rfl, lt_ok rfl, rfl⟩
  subst e
  simp only [↓hos, ↓gz, ↓List.getElem?_cons_succ, zp_pr]
  refine ho_compE (fun d => some (pt ((unp (hd_ d)).2, snd_ d))) (fun d' hd' => ?_) (by rw [List.length_map]; omega) ?_
  · obtain ⟨r, hr, rfl⟩ := List.mem_map.mp hd'
    rw [show tgTup 2 (tgCons (tgN 5) (tgCons (tgN 6) tgNil)) (prD r) (wipeE [Sl.va d, .va e, .va (.tup (ps.map pt)), .va (.tup (iss ws)), .va (pt (a, b)), .no, .no] [5, 6]) = some [Sl.va d, .va e, .va (.tup (ps.map pt)), .va (.tup (iss ws)), .va (pt (a, b)), .va (pt r.1), .va (.int r.2)] from rfl, optH_some]
    simp only [↓hos, if_true, ↓gz, ↓List.getElem?_cons_succ, x1]
    exact ⟨rfl, rfl, rfl⟩
  · rw [m2]
    simp only [↓hos, q3, ↓resH_same]
    exact ⟨rfl, rfl, rfl⟩
end Lw
end Mc
end
section
set_option Elab.async false
set_option linter.all false
set_option maxRecDepth 100000
set_option maxHeartbeats 4000000
set_option autoImplicit false
namespace Mc
open PySem PySem.Spec L2
/-- a comparison that may be of own instances, of other data -/
theorem ho_evOwn_d {T : OTab} {cs : List Str} {g : D → D → Option R} {fa fb : M R} {ρ : ES} {Q : R → ES → Prop} (h : Ho (fa ρ) fun r1 ρ1 => Ho (fb ρ1) fun r2 ρ2 => ∃ d e, rdD ρ2 r1.frz = some d ∧ rdD ρ2 r2.frz = some e ∧ (∀ c fs, d ≠ .ob c fs) ∧ optH (g d e) fun z => Q z ρ2) : Ho (evOwn T cs g fa fb ρ) Q := by
  unfold evOwn
  rw [ho_bnd, ho_frzM]
  refine h.imp fun r1 ρ1 q => ?_
  rw [ho_bnd, ho_frzM]
  refine q.imp fun r2 ρ2 ⟨d, e, h1, h2, h3, h4⟩ => ?_
  simp only [h1, h2]
  cases d with
  | ob c fs => exact absurd rfl (h3 c fs)
  | _ =>
    simp only [ho_lift]
    revert h4
    cases g _ e <;> exact id
namespace Lw
/-! ### what raises -/
section
variable {d e f k k2 : D} {x : Ex}
theorem sum_bad1 (h : F12 [d] = some (.er x)) : F15 [d, e, f] = some (.er x) := by
  refine runD_er ?_
  show Er (m15 [.va d, .va e, .va f, .no, .no, .no, .no, .no]) _
  unfold m15
  refine er_seq1 (er_asg (er_call ?_))
  simp only [↓hos, ↓gz, ↓List.getElem?_cons_succ, h]
  first | exact ⟨rfl, rfl⟩ | exact ⟨trivial, rfl⟩ | exact ⟨rfl, trivial⟩ | exact ⟨trivial, trivial⟩ | exact ⟨rfl, rfl, rfl⟩ | exact ⟨rfl, trivial, rfl⟩ | exact ⟨rfl, rfl, trivial⟩ | exact ⟨rfl, trivial, trivial⟩
theorem sum_bad2 (h : F12 [d] = some (.va k)) (h2 : F14 [k, e] = some (.er x)) : F15 [d, e, f] = some (.er x) := by
  refine runD_er ?_
  show Er (m15 [.va d, .va e, .va f, .no, .no, .no, .no, .no]) _
  unfold m15
  refine er_seq2 (fun ρ => ρ = [.va d, .va e, .va f, .va k, .no, .no, .no, .no]) ?_ fun ρ e => ?_
  · simp only [↓hos, ↓gz, ↓List.getElem?_cons_succ, h, ↓resH_same]
    exact ⟨rfl, lt_ok rfl, trivial, rfl⟩
  subst e
  refine er_seq1 (er_asg (er_call ?_))
  simp only [↓hos, ↓gz, ↓List.getElem?_cons_succ, h2]
  first | exact ⟨rfl, rfl⟩ | exact ⟨trivial, rfl⟩ | exact ⟨rfl, trivial⟩ | exact ⟨trivial, trivial⟩ | exact ⟨rfl, rfl, rfl⟩ | exact ⟨rfl, trivial, rfl⟩ | exact ⟨rfl, rfl, trivial⟩ | exact ⟨rfl, trivial, trivial⟩
theorem sum_bad3 (h : F12 [d] = some (.va k)) (h2 : F14 [k, e] = some (.va k2)) (h3 : F11 [.str "point", f] = some (.er x)) : F15 [d, e, f] = some (.er x) := by
  refine runD_er ?_
  show Er (m15 [.va d, .va e, .va f, .no, .no, .no, .no, .no]) _
  unfold m15
  refine er_seq2 (fun ρ => ρ = [.va d, .va e, .va f, .va k, .no, .no, .no, .no]) ?_ fun ρ e => ?_
  · simp only [↓hos, ↓gz, ↓List.getElem?_cons_succ, h, ↓resH_same]
    exact ⟨rfl, lt_ok rfl, trivial, rfl⟩
  subst e
  refine er_seq2 (fun ρ => ρ = [.va d, .va e, .va f, .va k, .va k2, .no, .no, .no]) ?_ fun ρ e => ?_
  · simp only [↓hos, ↓gz, ↓List.getElem?_cons_succ, h2, ↓resH_same]
    exact ⟨rfl, lt_ok rfl, trivial, rfl⟩
  subst e
  refine er_seq1 (er_asg (er_call ?_))
  simp only [↓hos, ↓gz, ↓List.getElem?_cons_succ, h3]
  first | exact ⟨rfl, rfl⟩ | exact ⟨trivial, rfl⟩ | exact ⟨rfl, trivial⟩ | exact ⟨trivial, trivial⟩ | exact ⟨rfl, rfl, rfl⟩ | exact ⟨rfl, trivial, rfl⟩ | exact ⟨rfl, rfl, trivial⟩ | exact ⟨rfl, trivial, trivial⟩
theorem box_bad1 (h : F12 [d] = some (.er x)) : F17 [d, e] = some (.er x) := by
  refine runD_er ?_
  show Er (m17 [.va d, .va e, .no, .no, .no, .no, .no]) _
  unfold m17
  refine er_seq1 (er_asg (er_call ?_))
  simp only [↓hos, ↓gz, ↓List.getElem?_cons_succ, h]
  first | exact ⟨rfl, rfl⟩ | exact ⟨trivial, rfl⟩ | exact ⟨rfl, trivial⟩ | exact ⟨trivial, trivial⟩ | exact ⟨rfl, rfl, rfl⟩ | exact ⟨rfl, trivial, rfl⟩ | exact ⟨rfl, rfl, trivial⟩ | exact ⟨rfl, trivial, trivial⟩
theorem box_bad2 (h : F12 [d] = some (.va k)) (h2 : F14 [k, e] = some (.er x)) : F17 [d, e] = some (.er x) := by
  refine runD_er ?_
  show Er (m17 [.va d, .va e, .no, .no, .no, .no, .no]) _
  unfold m17
  refine er_seq2 (fun ρ => ρ = [.va d, .va e, .va k, .no, .no, .no, .no]) ?_ fun ρ e => ?_
  · simp only [↓hos, ↓gz, ↓List.getElem?_cons_succ, h, ↓resH_same]
    exact ⟨rfl, lt_ok rfl, trivial, rfl⟩
  subst e
  refine er_seq1 (er_asg (er_call ?_))
  simp only [↓hos, ↓gz, ↓List.getElem?_cons_succ, h2]
  first | exact ⟨rfl, rfl⟩ | exact ⟨trivial, rfl⟩ | exact ⟨rfl, trivial⟩ | exact ⟨trivial, trivial⟩ | exact ⟨rfl, rfl, rfl⟩ | exact ⟨rfl, trivial, rfl⟩ | exact ⟨rfl, rfl, trivial⟩ | exact ⟨rfl, trivial, trivial⟩
end
structure OddS (d : D) : Prop where
  b : F12 [d] = bad "stones" d
  s : Shw d
  p : D.pur d = true
structure OddW (ps : List Pt) (d : D) : Prop where
  b : F14 [.tup (ps.map pt), d] = bad "weights" d
  s : Shw d
  p : D.pur d = true
structure OddP (d : D) : Prop where
  b : F11 [.str "point", d] = bad "point" d
  s : Shw d
  p : D.pur d = true
theorem pur_pts {ps : List Pt} : D.pur (.tup (ps.map pt)) = true := by
  simp only [D.pur]
  induction ps with
  | nil => rfl
  | cons p ps ih => rw [List.map_cons, D.purs, ih]; rfl
theorem pur_ints {ws : List Int} : D.pur (.tup (iss ws)) = true := by
  simp only [D.pur]
  induction ws with
  | nil => rfl
  | cons p ps ih => (show (true && D.purs (iss ps)) = true); rw [ih]; rfl
theorem shw_00 : Shw (.tup [.tup [.int 0]]) := shw_by (.tuple [.tuple [.int 0]]) (by rfl) (by decide +kernel) (by decide +kernel)
theorem odd_s {ps : List Pt} {d : D} (h0 : 1 ≤ ps.length) (h1 : ps.length ≤ 11) (hp : ∀ p ∈ ps, Sm p) (h : d ∈ [D.non, .int 5, .tup [], .tup (ps.map pt ++ (ps.map pt).take 1), .tup [.tup [.int 0]]]) : OddS d := by
  simp only [List.mem_cons, List.not_mem_nil, or_false] at h
  rcases h with rfl | rfl | rfl | rfl | rfl
  · exact ⟨posts_non, shw_none, rfl⟩
  · exact ⟨posts_5, shw_5, rfl⟩
  · exact ⟨posts_nil, shw_nil, rfl⟩
  · cases ps with
    | nil => simp at h0
    | cons p ps =>
      have e : (p :: ps).map pt ++ ((p :: ps).map pt).take 1 = ((p :: ps) ++ [p]).map pt := by rw [List.map_append]; rfl
      rw [e]
      exact ⟨posts_dup List.mem_cons_self h1, shw_ptsD (fun q hq => by
        rcases List.mem_append.mp hq with z | z
        · exact hp q z
        · rw [List.mem_singleton.mp z]; exact hp p List.mem_cons_self) (by simp at h1 ⊢; omega), pur_pts⟩
  · exact ⟨posts_0, shw_00, rfl⟩
theorem odd_w {ps : List Pt} {ws : List Int} {d : D} (h0 : 1 ≤ ps.length) (h1 : ps.length ≤ 11) (hl : ws.length = ps.length) (hw : ∀ w ∈ ws, w.natAbs ≤ 1000) (h : d ∈ [D.non, .int 5, .tup ((iss ws).drop 1), .tup (iss ws ++ [.int 1]), .tup (List.replicate ws.length (.int 0)), .tup (List.replicate ws.length (.bl true)), .str "ab"]) : OddW ps d := by
  simp only [List.mem_cons, List.not_mem_nil, or_false] at h
  rcases h with rfl | rfl | rfl | rfl | rfl | rfl | rfl
  · exact ⟨weights_non, shw_none, rfl⟩
  · exact ⟨weights_5, shw_5, rfl⟩
  · have e : (iss ws).drop 1 = iss (ws.drop 1) := by unfold iss; rw [List.map_drop]
    rw [e]
    refine ⟨weights_bad (.inl ?_) (by rw [iss_len]; simp; omega) iss_wi, shw_intsD (fun w hh => hw w (List.mem_of_mem_drop hh)) (by simp; omega), pur_ints⟩
    rw [iss_len]; simp; omega
  · have e : iss ws ++ [.int 1] = iss (ws ++ [1]) := by unfold iss; rw [List.map_append]; rfl
    rw [e]
    refine ⟨weights_bad (.inl ?_) (by rw [iss_len]; simp; omega) iss_wi, shw_intsD (fun w hh => ?_) (by simp; omega), pur_ints⟩
    · rw [iss_len]; simp; omega
    · rcases List.mem_append.mp hh with z | z
      · exact hw w z
      · rw [List.mem_singleton.mp z]; decide
  · have e : List.replicate ws.length (D.int 0) = iss (List.replicate ws.length 0) := by unfold iss; rw [List.map_replicate]
    rw [e]
    refine ⟨weights_bad (.inr ?_) (by rw [iss_len]; simp; omega) iss_wi, shw_intsD (fun w hh => ?_) (by simp; omega), pur_ints⟩
    · rw [← e]
      obtain ⟨n, hn⟩ : ∃ n, ws.length = n + 1 := ⟨ws.length - 1, by omega⟩
      rw [hn, List.replicate_succ]
      rfl
    · rw [List.eq_of_mem_replicate hh]; decide
  · obtain ⟨n, hn⟩ : ∃ n, ws.length = n + 1 := ⟨ws.length - 1, by omega⟩
    refine ⟨weights_bad (.inr ?_) (by simp; omega) (fun e he => .inr ⟨true, List.eq_of_mem_replicate he⟩), ?_, ?_⟩
    · rw [hn, List.replicate_succ]; rfl
    · have key : ∀ n, n ≤ 11 → Shw (.tup (List.replicate n (.bl true))) := fun n hn => by
        refine shw_by (.tuple (List.replicate n (.bool true))) ?_ ?_ ?_
        · simp only [D.py]
          rw [show D.pys (List.replicate n (.bl true)) = some (List.replicate n (.bool true)) from by
            clear hn
            induction n with
            | zero => rfl
            | succ n ih => rw [List.replicate_succ, D.pys, ih]; rfl]
        · revert n
          decide +kernel
        · revert n
          decide +kernel
      exact key _ (by omega)
    · simp only [D.pur]
      generalize ws.length = n
      clear hn
      induction n with
      | zero => rfl
      | succ n ih => rw [List.replicate_succ, D.purs, ih]; rfl
  · exact ⟨weights_ab, shw_ab, rfl⟩
theorem odd_p {d : D} (h : d ∈ [D.non, .int 5, .str "ab", .tup [], .tup [.int 1], .tup [.int 1, .int 2, .int 3], .tup [.int 1, .non], .tup [.bl true, .int 2], .tup [.int 1, .str "2"], .tup [.tup [.int 1, .int 2], .int 3]]) : OddP d := by
  simp only [List.mem_cons, List.not_mem_nil, or_false] at h
  rcases h with rfl | rfl | rfl | rfl | rfl | rfl | rfl | rfl | rfl | rfl
  · exact ⟨by with_unfolding_all rfl, shw_none, rfl⟩
  · exact ⟨by with_unfolding_all rfl, shw_5, rfl⟩
  · exact ⟨by with_unfolding_all rfl, shw_ab, rfl⟩
  · exact ⟨by with_unfolding_all rfl, shw_nil, rfl⟩
  · exact ⟨by with_unfolding_all rfl, shw_by (.tuple [.int 1]) (by rfl) (by decide +kernel) (by decide +kernel), rfl⟩
  · exact ⟨by with_unfolding_all rfl, shw_by (.tuple [.int 1, .int 2, .int 3]) (by rfl) (by decide +kernel) (by decide +kernel), rfl⟩
  · exact ⟨by with_unfolding_all rfl, shw_by (.tuple [.int 1, .none]) (by rfl) (by decide +kernel) (by decide +kernel), rfl⟩
  · exact ⟨by with_unfolding_all rfl, shw_by (.tuple [.bool true, .int 2]) (by rfl) (by decide +kernel) (by decide +kernel), rfl⟩
  · exact ⟨by with_unfolding_all rfl, shw_by (.tuple [.int 1, .str "2"]) (by rfl) (by decide +kernel) (by decide +kernel), rfl⟩
  · exact ⟨by with_unfolding_all rfl, shw_by (.tuple [.tuple [.int 1, .int 2], .int 3]) (by rfl) (by decide +kernel) (by decide +kernel), rfl⟩
end Lw
end Mc
end
section
set_option Elab.async false
set_option linter.all false
set_option maxRecDepth 100000
set_option maxHeartbeats 4000000
set_option autoImplicit false
namespace Mc
namespace Lw
open PySem PySem.Spec L2
/-- what a statement gives, kept closed -/
structure HoS (f : M Fl) (ρ : ES) (Q : Fl → ES → Prop) : Prop where
  h : Ho (f ρ) Q
theorem HoS.seq {f g : M Fl} {ρ : ES} {Q : Fl → ES → Prop} (I : ES → Prop) (a : HoS f ρ fun fl ρ' => fl = .nx ∧ I ρ') (k : ∀ ρ', I ρ' → HoS g ρ' Q) : HoS (evSeq f g) ρ Q := ⟨by
  rw [ho_evSeq]
  refine a.h.imp fun fl ρ' ⟨e, q⟩ => ?_
  subst e
  exact (k ρ' q).h⟩
theorem list_T {xs : List D} : listD [.tup xs] = some (.ow xs) := rfl
theorem list_pt {a : Pt} : listD [pt a] = some (.ow [.int a.1, .int a.2]) := rfl
theorem cut_drop {xs : List D} {i : Nat} (h : i ≤ xs.length) : cutD (.tup xs) (some (i : Nat)) none = some (.va (.tup (xs.drop i))) := by
  have h1 : HT.sIx xs.length 0 (some (i : Nat)) = i := by
    show (if ((i : Int)) < 0 then ((i : Int) + (xs.length : Int)).toNat else min (i : Int).toNat xs.length) = _
    rw [if_neg (by omega)]
    omega
  have h2 : HT.sIx xs.length xs.length none = xs.length := rfl
  show some (R.va (.tup (if HT.sIx xs.length 0 (some (i : Nat)) = 0 ∧ HT.sIx xs.length xs.length none = xs.length then xs else cutG xs (some (i : Nat)) none))) = _
  rw [h1, h2]
  by_cases h0 : i = 0
  · subst h0
    rw [if_pos ⟨rfl, rfl⟩]
    rfl
  · rw [if_neg fun z => h0 z.1]
    unfold cutG
    rw [h1, h2, List.take_of_length_le (by simp)]
theorem cut_take {xs : List D} {i : Nat} (h : i ≤ xs.length) : cutD (.tup xs) none (some (i : Nat)) = some (.va (.tup (xs.take i))) := by
  have h1 : HT.sIx xs.length xs.length (some (i : Nat)) = i := by
    show (if ((i : Int)) < 0 then ((i : Int) + (xs.length : Int)).toNat else min (i : Int).toNat xs.length) = _
    rw [if_neg (by omega)]
    omega
  have h2 : HT.sIx xs.length 0 none = 0 := rfl
  show some (R.va (.tup (if HT.sIx xs.length 0 none = 0 ∧ HT.sIx xs.length xs.length (some (i : Nat)) = xs.length then xs else cutG xs none (some (i : Nat))))) = _
  rw [h1, h2]
  by_cases h0 : i = xs.length
  · subst h0
    rw [if_pos ⟨rfl, rfl⟩, List.take_length]
  · rw [if_neg fun z => h0 z.2]
    unfold cutG
    rw [h1, h2, List.drop_zero, Nat.sub_zero]
theorem lis_int {n : Nat} {i : Int} : F21 (n + 1) [.int i, .int i] = some (.va (.bl true)) := by
  show runD 3 (m21 (F21 n)) [.int i, .int i] = _
  generalize F21 n = G
  refine runD_eq ?_
  show Ho (m21 G [.va (.int i), .va (.int i), .no]) _
  unfold m21
  have k1 : isiD csL .tup (.int i) = some (.va (.bl false)) := rfl
  have k2 : isiD csL .str (.int i) = some (.va (.bl false)) := rfl
  have k3 : isiD csL .int (.int i) = some (.va (.bl true)) := rfl
  have k4 : isiD csL .bl (.int i) = some (.va (.bl false)) := rfl
  have k5 : isD (.int i) .non = some (.va (.bl false)) := rfl
  have k6 : isD (.int i) (.bl true) = some (.va (.bl false)) := rfl
  have k7 : isD (.int i) (.bl false) = some (.va (.bl false)) := rfl
  simp only [↓hos, ↓gz, ↓List.getElem?_cons_succ, k1, k2, k3, k4, k5, k6, k7, truD, Bool.false_eq_true, if_false, if_true, Bool.not_false, decide_true]
  rfl
noncomputable section
def q0 : M Fl := (evAsg 3 (evCallN F27 (evN 3 (evCons (evVar 1) (evCons (evC (.int 7)) (evCons (evCallN F20 (evN 2 (evCons (evVar 1) (evCons (evLst (evCons (evC (.int 2)) (evCons (evC (.int 4)) evNil))) evNil)))) evNil))))))
def q1 : M Fl := (evAsgT (tgTup 2 (tgCons (tgN 4) (tgCons (tgN 5) tgNil))) (evTup (evCons (evB tupD (evCons (evComp [21] (evSq (evVar 3)) (tgN 21) (M.ret true) (evBin addD (evC (.int 1)) (evCallN F19 (evN 2 (evCons (evVar 1) (evCons (evC (.int 5)) evNil)))))) evNil)) (evCons (evCallN F23 (evN 2 (evCons (evVar 1) (evCons (evC (.int 9)) evNil)))) evNil))))
def q2 : M Fl := (evPar2 6 7 (evCallN F20 (evN 2 (evCons (evVar 1) (evCons (evLst (evCons (evVar 3) (evCons (evB listD (evCons (evVar 3) evNil)) evNil))) evNil)))) (evCallN F20 (evN 2 (evCons (evVar 1) (evCons (evLst (evCons (evVar 4) (evCons (evB listD (evCons (evVar 4) evNil)) evNil))) evNil)))))
def q3 : M Fl := (evIf (evNotT (evTru (evCall (F21 6) (evN 2 (evCons (evCall F15 (evN 3 (evCons (evVar 6) (evCons (evVar 7) (evCons (evCallN F20 (evN 2 (evCons (evVar 1) (evCons (evLst (evCons (evVar 5) (evCons (evB listD (evCons (evVar 5) evNil)) evNil))) evNil)))) evNil))))) (evCons (evCall F30 (evN 3 (evCons (evVar 3) (evCons (evVar 4) (evCons (evVar 5) evNil))))) evNil)))))) (evRet (evC (.bl false))) evSkip)
def q4 : M Fl := (evAsg 8 (evCall F17 (evN 2 (evCons (evVar 6) (evCons (evVar 7) evNil)))))
def q5 : M Fl := (evIf (evOrT (evNotT (evTru (evUn (isiD csL .tup) (evVar 8)))) (evOrT (evBl (evBin neD (evB lenD (evCons (evVar 8) evNil)) (evC (.int 2)))) (evBl (evOwn Tne csL neD (evComp [22] (evSq (evVar 8)) (tgN 22) (evNotT (evTru (evCall F29 (evN 1 (evCons (evVar 22) evNil))))) (evVar 22)) (evLst evNil))))) (evRet (evC (.bl false))) evSkip)
def q6 : M Fl := (evAsgT (tgTup 2 (tgCons (tgTup 2 (tgCons (tgN 9) (tgCons (tgN 10) tgNil))) (tgCons (tgTup 2 (tgCons (tgN 11) (tgCons (tgN 12) tgNil))) tgNil))) (evVar 8))
def q7 : M Fl := (evAsg 13 (evCall F30 (evN 3 (evCons (evVar 3) (evCons (evVar 4) (evCons (evTup (evCons (evVar 9) (evCons (evVar 11) evNil))) evNil))))))
def q8 : M Fl := (evFor (evRng rngR2 (evCons (evBin (intD gSub) (evB (best1D false) (evCons (evComp [21] (evSq (evVar 3)) (tgN 21) (M.ret true) (evBin ixD (evVar 21) (evC (.int 0)))) evNil)) (evC (.int 1))) (evCons (evBin addD (evB (best1D true) (evCons (evComp [21] (evSq (evVar 3)) (tgN 21) (M.ret true) (evBin ixD (evVar 21) (evC (.int 0)))) evNil)) (evC (.int 2))) evNil))) (tgN 14) (evFor (evRng rngR2 (evCons (evBin (intD gSub) (evB (best1D false) (evCons (evComp [21] (evSq (evVar 3)) (tgN 21) (M.ret true) (evBin ixD (evVar 21) (evC (.int 1)))) evNil)) (evC (.int 1))) (evCons (evBin addD (evB (best1D true) (evCons (evComp [21] (evSq (evVar 3)) (tgN 21) (M.ret true) (evBin ixD (evVar 21) (evC (.int 1)))) evNil)) (evC (.int 2))) evNil))) (tgN 15) (evSeq (evAsg 16 (evCall F30 (evN 3 (evCons (evVar 3) (evCons (evVar 4) (evCons (evTup (evCons (evVar 14) (evCons (evVar 15) evNil))) evNil)))))) (evIf (evOrT (evBl (evBin ltD (evVar 16) (evVar 13))) (evBl (evOwn Tne csL neD (evOwn Teq csL eqD (evVar 16) (evVar 13)) (evAnd (evChain leD leD (evVar 9) (evVar 14) (evVar 10)) (evChain leD leD (evVar 11) (evVar 15) (evVar 12)))))) (evRet (evC (.bl false))) evSkip))))
def q9 : M Fl := (evAsgT (tgTup 2 (tgCons (tgN 17) (tgCons (tgN 18) tgNil))) (evTup (evCons (evCallN F20 (evN 2 (evCons (evVar 1) (evCons (evLst (evCons (evC .non) (evCons (evC (.int 5)) (evCons (evTup evNil) (evCons (evBin addD (evVar 3) (evSlice (evVar 3) (M.ret none) (evPart (evC (.int 1))))) (evCons (evTup (evCons (evTup (evCons (evC (.int 0)) evNil)) evNil)) evNil)))))) evNil)))) (evCons (evCallN F20 (evN 2 (evCons (evVar 1) (evCons (evLst (evCons (evC .non) (evCons (evC (.int 5)) (evCons (evSlice (evVar 4) (evPart (evC (.int 1))) (M.ret none)) (evCons (evBin addD (evVar 4) (evTup (evCons (evC (.int 1)) evNil))) (evCons (evBin mulD (evTup (evCons (evC (.int 0)) evNil)) (evB lenD (evCons (evVar 4) evNil))) (evCons (evBin mulD (evTup (evCons (evC (.bl true)) evNil)) (evB lenD (evCons (evVar 4) evNil))) (evCons (evC (.str "ab")) evNil)))))))) evNil)))) evNil))))
def q10 : M Fl := (evPar2 19 20 (evCallN F24 (evN 1 (evCons (evVar 1) evNil))) (evLst evNil))
def q11 (cl : List (Str × Addr)) : M Fl := (evDrop (evLM 20 apM (evCons (evTup (evCons (evLam lt4 cl) (evCons (evTup (evCons (evC (.str "row")) (evCons (evC (.str "stones")) (evCons (evVar 17) evNil)))) evNil))) evNil)))
def q12 (cl : List (Str × Addr)) : M Fl := (evDrop (evLM 20 apM (evCons (evTup (evCons (evLam lt3 cl) (evCons (evTup (evCons (evC (.str "row")) (evCons (evC (.str "weights")) (evCons (evVar 18) evNil)))) evNil))) evNil)))
def q13 (cl : List (Str × Addr)) : M Fl := (evDrop (evLM 20 apM (evCons (evTup (evCons (evLam lt2 cl) (evCons (evTup (evCons (evC (.str "row")) (evCons (evC (.str "point")) (evCons (evVar 19) evNil)))) evNil))) evNil)))
def q14 (cl : List (Str × Addr)) : M Fl := (evDrop (evLM 20 apM (evCons (evTup (evCons (evLam lt1 cl) (evCons (evTup (evCons (evC (.str "row")) (evCons (evC (.str "stones")) (evCons (evVar 17) evNil)))) evNil))) evNil)))
def q15 (cl : List (Str × Addr)) : M Fl := (evDrop (evLM 20 apM (evCons (evTup (evCons (evLam lt0 cl) (evCons (evTup (evCons (evC (.str "row")) (evCons (evC (.str "weights")) (evCons (evVar 18) evNil)))) evNil))) evNil)))
def q16 (cl : List (Str × Addr)) : M Fl := (evIf (evNotT (evTru (evCallA TA cl F26 (evN 1 (evCons (evVar 20) evNil))))) (evRet (evC (.bl false))) evSkip)
def lapM (cl : List (Str × Addr)) : M Fl := (evSeq (q0) (evSeq (q1) (evSeq (q2) (evSeq (q3) (evSeq (q4) (evSeq (q5) (evSeq (q6) (evSeq (q7) (evSeq (q8) (evSeq (q9) (evSeq (q10) (evSeq (q11 cl) (evSeq (q12 cl) (evSeq (q13 cl) (evSeq (q14 cl) (evSeq (q15 cl) (q16 cl)))))))))))))))))
theorem law_is (cl : List (Str × Addr)) : m31 cl = (evSeq (evFor (evRng rngR1 (evCons (evC (.int 3)) evNil)) (tgN 2) (lapM cl)) (evRet (evC (.bl true)))) := rfl
end

abbrev Z (p : Pn) (l st we po gi ro to wt ez so no be x y ow od ba nn ca : Sl) : ES := [.no, .pn (.pen p), l, st, we, po, gi, ro, to, wt, ez, so, no, be, x, y, ow, od, ba, nn, ca, .no, .no]
section
variable {p : Pn} {l st we po gi ro to wt ez so no be x y ow od ba nn ca : Sl} {ps : List Pt} {ws : List Int} {q : Pt}
/-- stones with their weights -/
structure Ok (ps : List Pt) (ws : List Int) : Prop where
  l0 : 1 ≤ ps.length
  l1 : ps.length ≤ 7
  nd : ps.Nodup
  wd : ∀ q ∈ ps, Wd 8 q
  wl : ws.length = ps.length
  wb : ∀ w ∈ ws, 1 ≤ w ∧ w ≤ 5
theorem q0_ok (hp : PnOk p) : HoS q0 (Z p l st we po gi ro to wt ez so no be x y ow od ba nn ca) fun fl ρ => fl = .nx ∧ ∃ (p : Pn) (ps : List Pt), PnOk p ∧ 1 ≤ ps.length ∧ ps.length ≤ 7 ∧ ps.Nodup ∧ (∀ q ∈ ps, Wd 8 q) ∧ ρ = Z p l (.va (.tup (ps.map pt))) we po gi ro to wt ez so no be x y ow od ba nn ca := by
  constructor
  unfold q0
  simp only [cP_is]
  rw [ho_evAsg]
  refine call_pen (n := 2) (p0 := .pen p) rfl ?_
  simp only [↓hos]
  refine ho_cP (p0 := .pen p) rfl ?_
  simp only [↓hos]
  refine ⟨(by first | rfl | trivial), _, p, rfl, rfl, hp, by simp, by simp, fun d hd p1 hp1 => ?_⟩
  obtain ⟨w, rfl, w0, w1⟩ : ∃ w, d = D.int w ∧ 0 ≤ w ∧ w ≤ 4 := by
    simp only [List.mem_cons, List.not_mem_nil, or_false] at hd
    rcases hd with rfl | rfl
    · exact ⟨_, rfl, by omega, by omega⟩
    · exact ⟨_, rfl, by omega, by omega⟩
  try simp only [↓hos]
  obtain ⟨ps, p2, e, hp2, h1, h2, h3, h4⟩ := stones_ok (mo := 7) (wi := w) (by omega) (by omega) w0 (by omega) hp1
  refine ⟨(by first | rfl | trivial), (by first | rfl | trivial), p1, _, p2, rfl, e, lt_ok rfl, (by first | rfl | trivial), p2, ps, hp2, h1, by omega, h3, fun q hq => ?_, rfl⟩
  have := h4 q hq
  unfold Wd at *
  omega
abbrev Zi (p : Pn) (l st we po gi ro to wt ez so no be x y ow od ba nn ca s : Sl) : ES := [.no, .pn (.pen p), l, st, we, po, gi, ro, to, wt, ez, so, no, be, x, y, ow, od, ba, nn, ca, s, .no]
theorem unw {p' : Pn} {l' st' we' po' gi' ro' to' wt' ez' so' no' be' x' y' ow' od' ba' nn' ca' : Sl} : unwipe (Z p' l' st' we' po' gi' ro' to' wt' ez' so' no' be' x' y' ow' od' ba' nn' ca') (Z p l st we po gi ro to wt ez so no be x y ow od ba nn ca) [21] = Z p l st we po gi ro to wt ez so no be x y ow od ba nn ca := rfl
theorem q1_ok (hp : PnOk p) (h0 : 1 ≤ ps.length) (h1 : ps.length ≤ 7) : HoS q1 (Z p l (.va (.tup (ps.map pt))) we po gi ro to wt ez so no be x y ow od ba nn ca) fun fl ρ => fl = .nx ∧ ∃ (p : Pn) (ws : List Int) (q : Pt), PnOk p ∧ ws.length = ps.length ∧ (∀ w ∈ ws, 1 ≤ w ∧ w ≤ 5) ∧ Wd 9 q ∧ ρ = Z p l (.va (.tup (ps.map pt))) (.va (.tup (iss ws))) (.va (pt q)) gi ro to wt ez so no be x y ow od ba nn ca := by
  constructor
  unfold q1
  simp only [cD_is, cX_is]
  simp only [↓hos, ↓gz, ↓List.getElem?_cons_succ]
  refine ho_compI (fun acc ds ρ => ∃ (p : Pn) (ws : List Int), PnOk p ∧ acc = iss ws ∧ ws.length + ds.length = ps.length ∧ (∀ w ∈ ws, 1 ≤ w ∧ w ≤ 5) ∧ ρ = Z p l (.va (.tup (ps.map pt))) we po gi ro to wt ez so no be x y ow od ba nn ca) ?_ ⟨p, [], hp, rfl, by simp, (fun w h => by cases h), rfl⟩ (by rw [List.length_map]; omega) ?_
  · rintro d ds acc ρ ⟨p, ws, hp, rfl, hl, hw, rfl⟩
    rw [show tgN 21 d (Z p l (.va (.tup (ps.map pt))) we po gi ro to wt ez so no be x y ow od ba nn ca) = some (Zi p l (.va (.tup (ps.map pt))) we po gi ro to wt ez so no be x y ow od ba nn ca (.va d)) from rfl, optH_some]
    try simp only [↓hos, if_true]
    refine ho_cD (p0 := .pen p) rfl ?_
    try simp only [↓hos]
    refine ⟨_, p, rfl, rfl, hp, by omega, by omega, fun j p1 j0 j1 hp1 => ?_⟩
    try simp only [↓hos]
    refine ⟨p1, ws ++ [1 + j], hp1, by unfold iss; rw [List.map_append]; rfl, by simp at hl ⊢; omega, fun w hh => ?_, rfl⟩
    rcases List.mem_append.mp hh with z | z
    · exact hw w z
    · rw [List.mem_singleton.mp z]; omega
  · rintro acc ρ ⟨p, ws, hp, rfl, hl, hw, rfl⟩
    rw [unw]
    try simp only [↓hos]
    refine ho_cX (p0 := .pen p) rfl ?_
    try simp only [↓hos]
    refine ⟨_, p, rfl, rfl, hp, by omega, by omega, fun a p1 ha hp1 => ?_⟩
    try simp only [↓hos]
    exact ⟨(by first | rfl | trivial), (by first | rfl | trivial), p1, ws, a, hp1, by simpa using hl, hw, ha, rfl⟩
theorem q2_ok (hp : PnOk p) : HoS q2 (Z p l (.va (.tup (ps.map pt))) (.va (.tup (iss ws))) po gi ro to wt ez so no be x y ow od ba nn ca) fun fl ρ => fl = .nx ∧ ∃ (p : Pn) (d e : D), PnOk p ∧ SqP d ps ∧ SqI e ws ∧ ρ = Z p l (.va (.tup (ps.map pt))) (.va (.tup (iss ws))) po (.va d) (.va e) to wt ez so no be x y ow od ba nn ca := by
  constructor
  unfold q2
  simp only [cP_is]
  simp only [↓hos]
  refine ho_cP (p0 := .pen p) rfl ?_
  simp only [↓hos, ↓gz, ↓List.getElem?_cons_succ, list_T]
  refine ⟨(by first | rfl | trivial), _, p, rfl, rfl, hp, by simp, by simp, fun d hd p1 hp1 => ?_⟩
  refine ho_cP (p0 := .pen p1) rfl ?_
  simp only [↓hos, ↓gz, ↓List.getElem?_cons_succ, List.set_cons_zero, List.set_cons_succ, list_T]
  refine ⟨(by first | rfl | trivial), _, p1, rfl, rfl, hp1, by simp, by simp, fun e he p2 hp2 => ?_⟩
  simp only [List.mem_cons, List.not_mem_nil, or_false] at hd he
  exact ⟨(by first | rfl | trivial), (by first | rfl | trivial), p2, d, e, hp2, hd, he, rfl⟩
theorem q3_ok {d e : D} (hp : PnOk p) (k : Ok ps ws) (hd : SqP d ps) (he : SqI e ws) : HoS q3 (Z p l (.va (.tup (ps.map pt))) (.va (.tup (iss ws))) (.va (pt q)) (.va d) (.va e) to wt ez so no be x y ow od ba nn ca) fun fl ρ => fl = .nx ∧ ∃ (p : Pn), PnOk p ∧ ρ = Z p l (.va (.tup (ps.map pt))) (.va (.tup (iss ws))) (.va (pt q)) (.va d) (.va e) to wt ez so no be x y ow od ba nn ca := by
  constructor
  unfold q3
  simp only [cP_is]
  have hr : ∀ r ∈ ps.zip ws, 1 ≤ r.2 ∧ r.2 ≤ 1000 := fun r hr => by have := k.wb _ (List.of_mem_zip hr).2; omega
  have hz : (ps.zip ws).length ≤ 1000 := by rw [List.length_zip]; have := k.l1; omega
  have s1 : ∀ f, (f = pt q ∨ f = ptL q) → F15 [d, e, f] = some (.va (.int (sumW (ps.zip ws) q))) := fun f hf => sum_ok hd he hf k.l0 (by have := k.l1; omega) k.nd k.wl (fun w hw => by have := k.wb w hw; omega)
  have s2 := sumat_ok (q := q) hr hz
  have s3 : F21 6 [.int (sumW (ps.zip ws) q), .int (sumW (ps.zip ws) q)] = some (.va (.bl true)) := lis_int
  generalize F21 6 = G at s3
  rw [ho_evIf]
  simp only [↓hos, ↓gz, ↓List.getElem?_cons_succ]
  refine ho_cP (p0 := .pen p) rfl ?_
  simp only [↓hos, ↓gz, ↓List.getElem?_cons_succ, list_pt]
  refine ⟨(by first | rfl | trivial), _, p, rfl, rfl, hp, by simp, by simp, fun f hf p1 hp1 => ?_⟩
  have hf' : f = pt q ∨ f = ptL q := by
    simp only [List.mem_cons, List.not_mem_nil, or_false] at hf
    exact hf
  simp only [↓hos, ↓gz, ↓List.getElem?_cons_succ, List.set_cons_zero, List.set_cons_succ, s1 f hf', s2, s3, ↓resH_same, truD]
  exact ⟨(by first | rfl | trivial), (by first | rfl | trivial), (by first | rfl | trivial), (by first | rfl | trivial), p1, hp1, rfl⟩
structure Told (ps : List Pt) (ws : List Int) (a b c g : Int) : Prop where
  e : Mid ((ps.zip ws).map ea) a b
  n : Mid ((ps.zip ws).map no_) c g
theorem q4_ok {d e : D} (k : Ok ps ws) (hd : SqP d ps) (he : SqI e ws) : HoS q4 (Z p l st we po (.va d) (.va e) to wt ez so no be x y ow od ba nn ca) fun fl ρ => fl = .nx ∧ ∃ a b c g : Int, Told ps ws a b c g ∧ ρ = Z p l st we po (.va d) (.va e) (.va (.tup [pt (a, b), pt (c, g)])) wt ez so no be x y ow od ba nn ca := by
  obtain ⟨a, b, c, g, h1, h2, h3⟩ := box_ok hd he k.l0 (by have := k.l1; omega) k.nd k.wl (fun w hw => (k.wb w hw).1) (fun p hp => by have := k.wd p hp; unfold Wd at this; omega)
  constructor
  unfold q4
  simp only [↓hos, ↓gz, ↓List.getElem?_cons_succ, h1, ↓resH_same]
  exact ⟨(by first | rfl | trivial), lt_ok rfl, (by first | rfl | trivial), a, b, c, g, ⟨h2, h3⟩, rfl⟩
end
end Lw
end Mc
end
section
set_option Elab.async false
set_option linter.all false
set_option maxRecDepth 100000
set_option maxHeartbeats 4000000
set_option autoImplicit false
namespace Mc
namespace Lw
open PySem PySem.Spec L2
theorem pair_ok {a : Pt} : F29 [pt a] = some (.va (.bl true)) := by with_unfolding_all rfl
section
variable {p : Pn} {l st we po gi ro to wt ez so no be x y ow od ba nn ca : Sl} {ps : List Pt} {ws : List Int} {q : Pt}
theorem q5_ok {u v : Pt} : HoS q5 (Z p l st we po gi ro (.va (.tup [pt u, pt v])) wt ez so no be x y ow od ba nn ca) fun fl ρ => fl = .nx ∧ ρ = Z p l st we po gi ro (.va (.tup [pt u, pt v])) wt ez so no be x y ow od ba nn ca := by
  constructor
  unfold q5
  have k1 : ∀ xs, isiD csL .tup (.tup xs) = some (.va (.bl true)) := fun _ => rfl
  have k2 : (!decide ((([pt u, pt v].length : Nat) : Int) = 2)) = false := rfl
  refine if_f ?_ ⟨rfl, rfl⟩
  simp only [↓hos, ↓gz, ↓List.getElem?_cons_succ, k1, truD, Bool.not_true, Bool.false_eq_true, if_false, k2]
  refine ho_evOwn_d ?_
  simp only [↓hos, ↓gz, ↓List.getElem?_cons_succ]
  refine ho_compE (fun d => none) (fun d hd => ?_) (by simp) ?_
  · obtain ⟨a, rfl⟩ : ∃ a, d = pt a := by
      simp only [List.mem_cons, List.not_mem_nil, or_false] at hd
      rcases hd with rfl | rfl <;> exact ⟨_, rfl⟩
    rw [show tgN 22 (pt a) (wipeE (Z p l st we po gi ro (.va (.tup [pt u, pt v])) wt ez so no be x y ow od ba nn ca) [22]) = some ([.no, .pn (.pen p), l, st, we, po, gi, ro, (.va (.tup [pt u, pt v])), wt, ez, so, no, be, x, y, ow, od, ba, nn, ca, .no, .va (pt a)]) from rfl, optH_some]
    simp only [↓hos, ↓gz, ↓List.getElem?_cons_succ, pair_ok, ↓resH_same, truD, Bool.not_true, Bool.false_eq_true, if_false]
    exact ⟨(by first | rfl | trivial), (by first | rfl | trivial), (by first | rfl | trivial)⟩
  · rw [show ([pt u, pt v] : List D).filterMap (fun _ => (none : Option D)) = [] from rfl]
    simp only [↓hos]
    refine ⟨(by first | rfl | trivial), _, _, rfl, rfl, (fun c fs z => by cases z), ?_⟩
    rw [show neD (.lst []) (.lst []) = some (.va (.bl false)) from by with_unfolding_all rfl]
    exact ⟨rfl, rfl⟩
theorem q6_ok {a b c g : Int} : HoS q6 (Z p l st we po gi ro (.va (.tup [pt (a, b), pt (c, g)])) wt ez so no be x y ow od ba nn ca) fun fl ρ => fl = .nx ∧ ρ = Z p l st we po gi ro (.va (.tup [pt (a, b), pt (c, g)])) (.va (.int a)) (.va (.int b)) (.va (.int c)) (.va (.int g)) be x y ow od ba nn ca := by
  constructor
  unfold q6
  simp only [↓hos, ↓gz, ↓List.getElem?_cons_succ]
  exact ⟨(by first | rfl | trivial), rfl⟩
theorem zw (k : Ok ps ws) : (∀ r ∈ ps.zip ws, 1 ≤ r.2 ∧ r.2 ≤ 1000) ∧ (ps.zip ws).length ≤ 1000 ∧ ps.zip ws ≠ [] := by
  have hz : (ps.zip ws).length = ps.length := by rw [List.length_zip]; have := k.wl; omega
  refine ⟨fun r hr => by have := k.wb _ (List.of_mem_zip hr).2; omega, by have := k.l1; omega, fun z => ?_⟩
  rw [z] at hz
  have := k.l0
  simp at hz
  omega
theorem q7_ok {a c : Int} (k : Ok ps ws) : HoS q7 (Z p l (.va (.tup (ps.map pt))) (.va (.tup (iss ws))) po gi ro to (.va (.int a)) ez (.va (.int c)) no be x y ow od ba nn ca) fun fl ρ => fl = .nx ∧ ρ = Z p l (.va (.tup (ps.map pt))) (.va (.tup (iss ws))) po gi ro to (.va (.int a)) ez (.va (.int c)) no (.va (.int (sumW (ps.zip ws) (a, c)))) x y ow od ba nn ca := by
  constructor
  unfold q7
  have s2 : F30 [.tup (ps.map pt), .tup (iss ws), .tup [.int a, .int c]] = some (.va (.int (sumW (ps.zip ws) (a, c)))) := sumat_ok (q := (a, c)) (zw k).1 (zw k).2.1
  simp only [↓hos, ↓gz, ↓List.getElem?_cons_succ, s2, ↓resH_same]
  exact ⟨(by first | rfl | trivial), (by first | rfl | trivial), lt_ok rfl, (by first | rfl | trivial), (by first | rfl | trivial)⟩
/-! ### all points about the stones -/
theorem crd {i : Int} {cf : Pt → Int} (hi : ∀ r : Pt, ixD (pt r) (.int i) = some (.va (.int (cf r)))) {Q : R → ES → Prop} (hq : Q (.ow (iss (ps.map cf))) (Z p l (.va (.tup (ps.map pt))) we po gi ro to wt ez so no be x y ow od ba nn ca)) (h1 : ps.length ≤ 100) :
    Ho (evComp [21] (evSq (evVar 3)) (tgN 21) (M.ret true) (evBin ixD (evVar 21) (evC (.int i))) (Z p l (.va (.tup (ps.map pt))) we po gi ro to wt ez so no be x y ow od ba nn ca)) Q := by
  simp only [↓hos, ↓gz, ↓List.getElem?_cons_succ]
  refine ho_compE (fun d => some (.int (cf (unp d)))) (fun d hd => ?_) (by rw [List.length_map]; omega) ?_
  · obtain ⟨r, _, rfl⟩ := List.mem_map.mp hd
    rw [show tgN 21 (pt r) (wipeE (Z p l (.va (.tup (ps.map pt))) we po gi ro to wt ez so no be x y ow od ba nn ca) [21]) = some (Zi p l (.va (.tup (ps.map pt))) we po gi ro to wt ez so no be x y ow od ba nn ca (.va (pt r))) from rfl, optH_some]
    simp only [↓hos, ↓gz, ↓List.getElem?_cons_succ, if_true, hi]
    exact ⟨rfl, rfl⟩
  · rw [fm_map (g := fun d => D.int (cf (unp d)))]
    rw [show unwipe (Z p l (.va (.tup (ps.map pt))) we po gi ro to wt ez so no be x y ow od ba nn ca) (wipeE (Z p l (.va (.tup (ps.map pt))) we po gi ro to wt ez so no be x y ow od ba nn ca) [21]) [21] = Z p l (.va (.tup (ps.map pt))) we po gi ro to wt ez so no be x y ow od ba nn ca from rfl]
    rw [show (ps.map fun a => D.int (cf (unp (pt a)))) = iss (ps.map cf) from by unfold iss; rw [List.map_map]; rfl]
    exact hq
theorem rng_at {i : Int} {cf : Pt → Int} (hi : ∀ r : Pt, ixD (pt r) (.int i) = some (.va (.int (cf r)))) (h0 : 1 ≤ ps.length) (h1 : ps.length ≤ 100) (hb : ∀ r ∈ ps, -8 ≤ cf r ∧ cf r ≤ 8) {Q : List D → ES → Prop} (hq : ∀ ds : List D, (∀ d ∈ ds, ∃ j, d = .int j) → Q ds (Z p l (.va (.tup (ps.map pt))) we po gi ro to wt ez so no be x y ow od ba nn ca)) :
    Ho (evRng rngR2 (evCons (evBin (intD gSub) (evB (best1D false) (evCons (evComp [21] (evSq (evVar 3)) (tgN 21) (M.ret true) (evBin ixD (evVar 21) (evC (.int i)))) evNil)) (evC (.int 1))) (evCons (evBin addD (evB (best1D true) (evCons (evComp [21] (evSq (evVar 3)) (tgN 21) (M.ret true) (evBin ixD (evVar 21) (evC (.int i)))) evNil)) (evC (.int 2))) evNil)) (Z p l (.va (.tup (ps.map pt))) we po gi ro to wt ez so no be x y ow od ba nn ca)) Q := by
  obtain ⟨m, hm, _, em⟩ := mn_ints (ws := ps.map cf) (by rw [List.length_map]; omega)
  obtain ⟨M, hM, _, eM⟩ := mx_ints (ws := ps.map cf) (by rw [List.length_map]; omega)
  have bm : -8 ≤ m ∧ m ≤ 8 := by obtain ⟨r, hr, rfl⟩ := List.mem_map.mp hm; exact hb r hr
  have bM : -8 ≤ M ∧ M ≤ 8 := by obtain ⟨r, hr, rfl⟩ := List.mem_map.mp hM; exact hb r hr
  rw [ho_evRng, ho_evCons, ho_evBin, ho_evB, ho_evCons]
  refine crd hi ?_ h1
  simp only [ho_evNil, z_ow, rs_cons, rs_nil, r_va, optH_some, em, ho_evC, z_va, v_sub]
  rw [ho_evCons, ho_evBin, ho_evB, ho_evCons]
  refine crd hi ?_ h1
  simp only [ho_evNil, z_ow, rs_cons, rs_nil, r_va, optH_some, eM, ho_evC, z_va, v_add]
  rw [rng2_i (by omega) (by omega), optH_some]
  refine hq _ fun d hd => ?_
  obtain ⟨k, _, rfl⟩ := List.mem_map.mp hd
  exact ⟨_, rfl⟩
theorem ne_bl {c : Bool} : neD (.bl c) (.bl c) = some (.va (.bl false)) := by cases c <;> with_unfolding_all rfl
theorem in_box {a b c g i j : Int} {Q : R → ES → Prop} (hq : Q (.va (.bl (decide ((a ≤ i ∧ i ≤ b) ∧ c ≤ j ∧ j ≤ g)))) (Z p l st we po gi ro to (.va (.int a)) (.va (.int b)) (.va (.int c)) (.va (.int g)) be (.va (.int i)) (.va (.int j)) ow od ba nn ca)) :
    Ho (evAnd (evChain leD leD (evVar 9) (evVar 14) (evVar 10)) (evChain leD leD (evVar 11) (evVar 15) (evVar 12)) (Z p l st we po gi ro to (.va (.int a)) (.va (.int b)) (.va (.int c)) (.va (.int g)) be (.va (.int i)) (.va (.int j)) ow od ba nn ca)) Q := by
  have e : ∀ {u v : Bool}, (decide ((a ≤ i ∧ i ≤ b) ∧ c ≤ j ∧ j ≤ g)) = u → u = v → Q (.va (.bl v)) (Z p l st we po gi ro to (.va (.int a)) (.va (.int b)) (.va (.int c)) (.va (.int g)) be (.va (.int i)) (.va (.int j)) ow od ba nn ca) := fun h1 h2 => by rw [← h2, ← h1]; exact hq
  by_cases h1 : i < a
  · simp only [↓hos, ↓gz, ↓List.getElem?_cons_succ, h1, decide_true, Bool.not_true, Bool.false_eq_true, if_false, truD]
    exact e (decide_eq_false (by omega)) rfl
  · by_cases h2 : b < i
    · simp only [↓hos, ↓gz, ↓List.getElem?_cons_succ, h1, h2, decide_true, decide_false, Bool.not_true, Bool.not_false, if_true, Bool.false_eq_true, if_false, truD]
      exact e (decide_eq_false (by omega)) rfl
    · by_cases h3 : j < c
      · simp only [↓hos, ↓gz, ↓List.getElem?_cons_succ, h1, h2, h3, decide_true, decide_false, Bool.not_true, Bool.not_false, if_true, Bool.false_eq_true, if_false, truD]
        exact e (decide_eq_false (by omega)) rfl
      · by_cases h4 : g < j
        · simp only [↓hos, ↓gz, ↓List.getElem?_cons_succ, h1, h2, h3, h4, decide_true, decide_false, Bool.not_true, Bool.not_false, if_true, Bool.false_eq_true, if_false, truD]
          exact e (decide_eq_false (by omega)) rfl
        · simp only [↓hos, ↓gz, ↓List.getElem?_cons_succ, h1, h2, h3, h4, decide_true, decide_false, Bool.not_true, Bool.not_false, if_true, Bool.false_eq_true, if_false, truD]
          exact e (decide_eq_true (by omega)) rfl
theorem q8_ok {a b c g : Int} (k : Ok ps ws) (t : Told ps ws a b c g) : HoS q8 (Z p l (.va (.tup (ps.map pt))) (.va (.tup (iss ws))) po gi ro to (.va (.int a)) (.va (.int b)) (.va (.int c)) (.va (.int g)) (.va (.int (sumW (ps.zip ws) (a, c)))) x y ow od ba nn ca) fun fl ρ => fl = .nx ∧ ∃ x y ow, ρ = Z p l (.va (.tup (ps.map pt))) (.va (.tup (iss ws))) po gi ro to (.va (.int a)) (.va (.int b)) (.va (.int c)) (.va (.int g)) (.va (.int (sumW (ps.zip ws) (a, c)))) x y ow od ba nn ca := by
  constructor
  unfold q8
  have l1 := k.l1
  have b0 : ∀ r ∈ ps, -8 ≤ r.1 ∧ r.1 ≤ 8 := fun r hr => by have := k.wd r hr; unfold Wd at this; omega
  have b1 : ∀ r ∈ ps, -8 ≤ r.2 ∧ r.2 ≤ 8 := fun r hr => by have := k.wd r hr; unfold Wd at this; omega
  have x0 : ∀ r : Pt, ixD (pt r) (.int 0) = some (.va (.int r.1)) := fun _ => rfl
  have x1 : ∀ r : Pt, ixD (pt r) (.int 1) = some (.va (.int r.2)) := fun _ => rfl
  rw [ho_evFor]
  refine rng_at (cf := (·.1)) x0 k.l0 (by omega) b0 fun ds hds => ?_
  refine forM_inv (fun ds ρ => (∀ d ∈ ds, ∃ j, d = D.int j) ∧ ∃ x y ow, ρ = Z p l (.va (.tup (ps.map pt))) (.va (.tup (iss ws))) po gi ro to (.va (.int a)) (.va (.int b)) (.va (.int c)) (.va (.int g)) (.va (.int (sumW (ps.zip ws) (a, c)))) x y ow od ba nn ca) ?_ (fun ρ q => ⟨rfl, q.2⟩) _ _ ⟨hds, _, _, _, rfl⟩
  rintro d ds ρ ⟨hds, x, y, ow, rfl⟩
  obtain ⟨i, rfl⟩ := hds d List.mem_cons_self
  have hds' := fun d hd => hds d (List.mem_cons_of_mem _ hd)
  rw [show tgN 14 (.int i) (Z p l (.va (.tup (ps.map pt))) (.va (.tup (iss ws))) po gi ro to (.va (.int a)) (.va (.int b)) (.va (.int c)) (.va (.int g)) (.va (.int (sumW (ps.zip ws) (a, c)))) x y ow od ba nn ca) = some (Z p l (.va (.tup (ps.map pt))) (.va (.tup (iss ws))) po gi ro to (.va (.int a)) (.va (.int b)) (.va (.int c)) (.va (.int g)) (.va (.int (sumW (ps.zip ws) (a, c)))) (.va (.int i)) y ow od ba nn ca) from rfl, optH_some]
  rw [ho_evFor]
  refine rng_at (cf := (·.2)) x1 k.l0 (by omega) b1 fun es hes => ?_
  refine forM_inv (fun es ρ => (∀ d ∈ es, ∃ j, d = D.int j) ∧ ∃ y ow, ρ = Z p l (.va (.tup (ps.map pt))) (.va (.tup (iss ws))) po gi ro to (.va (.int a)) (.va (.int b)) (.va (.int c)) (.va (.int g)) (.va (.int (sumW (ps.zip ws) (a, c)))) (.va (.int i)) y ow od ba nn ca) ?_ (fun ρ q => ⟨hds', _, q.2⟩) _ _ ⟨hes, _, _, rfl⟩
  rintro d es ρ ⟨hes, y, ow, rfl⟩
  obtain ⟨j, rfl⟩ := hes d List.mem_cons_self
  have hes' := fun d hd => hes d (List.mem_cons_of_mem _ hd)
  rw [show tgN 15 (.int j) (Z p l (.va (.tup (ps.map pt))) (.va (.tup (iss ws))) po gi ro to (.va (.int a)) (.va (.int b)) (.va (.int c)) (.va (.int g)) (.va (.int (sumW (ps.zip ws) (a, c)))) (.va (.int i)) y ow od ba nn ca) = some (Z p l (.va (.tup (ps.map pt))) (.va (.tup (iss ws))) po gi ro to (.va (.int a)) (.va (.int b)) (.va (.int c)) (.va (.int g)) (.va (.int (sumW (ps.zip ws) (a, c)))) (.va (.int i)) (.va (.int j)) ow od ba nn ca) from rfl, optH_some]
  obtain ⟨z1, z2, z3⟩ := zw k
  have s2 : F30 [.tup (ps.map pt), .tup (iss ws), .tup [.int i, .int j]] = some (.va (.int (sumW (ps.zip ws) (i, j)))) := sumat_ok (q := (i, j)) z1 z2
  obtain ⟨m1, m2⟩ := meet_law (l := ps.zip ws) (fun r hr => (z1 r hr).1) z3 t.e t.n i j
  generalize sumW (ps.zip ws) (a, c) = best at *
  generalize sumW (ps.zip ws) (i, j) = own at *
  refine seq_i (fun ρ => ρ = Z p l (.va (.tup (ps.map pt))) (.va (.tup (iss ws))) po gi ro to (.va (.int a)) (.va (.int b)) (.va (.int c)) (.va (.int g)) (.va (.int best)) (.va (.int i)) (.va (.int j)) (.va (.int own)) od ba nn ca) ?_ fun ρ e => ?_
  · simp only [↓hos, ↓gz, ↓List.getElem?_cons_succ, s2, ↓resH_same]
    exact ⟨(by first | rfl | trivial), (by first | rfl | trivial), lt_ok rfl, (by first | rfl | trivial)⟩
  subst e
  refine if_f ?_ ⟨hes', _, _, rfl⟩
  have n1 : ¬ own < best := by omega
  rw [ho_evOrT]
  simp only [↓hos, ↓gz, ↓List.getElem?_cons_succ, n1, decide_false, Bool.false_eq_true, if_false]
  refine ho_evOwn_d ?_
  refine ho_evOwn_d ?_
  simp only [ho_evVar, ↓gz, ↓List.getElem?_cons_succ]
  refine ⟨_, _, rfl, rfl, (fun c fs z => by cases z), ?_⟩
  rw [v_eqI, optH_some]
  refine in_box ?_
  refine ⟨_, _, rfl, rfl, (fun c fs z => by cases z), ?_⟩
  rw [show decide (own = best) = decide ((a ≤ i ∧ i ≤ b) ∧ c ≤ j ∧ j ≤ g) from decide_eq_decide.mpr m2, ne_bl]
  exact ⟨rfl, rfl⟩
end
end Lw
end Mc
end
section
set_option Elab.async false
set_option linter.all false
set_option maxRecDepth 100000
set_option maxHeartbeats 4000000
set_option autoImplicit false
namespace Mc
namespace Lw
open PySem PySem.Spec L2
theorem oddp_ok {p : Pn} (hp : PnOk p) : ∃ d p', F24 (.pen p) [] = some (.va d, .pen p') ∧ PnOk p' ∧ OddP d := by
  have key : ∃ r q, F24 (.pen p) [] = some (r, q) ∧ ∃ d p', r = .va d ∧ q = .pen p' ∧ PnOk p' ∧ OddP d := by
    refine runN_ex ?_
    show Ho (m24 [.pn (.pen p)]) _
    unfold m24
    simp only [cP_is]
    simp only [↓hos]
    refine ho_cP (p0 := .pen p) rfl ?_
    simp only [↓hos]
    refine ⟨(by first | rfl | trivial), (by first | rfl | trivial), (by first | rfl | trivial), (by first | rfl | trivial), (by first | rfl | trivial), (by first | rfl | trivial), (by first | rfl | trivial), (by first | rfl | trivial), (by first | rfl | trivial), _, p, rfl, rfl, hp, by simp, by simp, fun d hd p1 hp1 => ?_⟩
    exact ⟨_, rfl, d, p1, rfl, rfl, hp1, odd_p hd⟩
  obtain ⟨r, q, e, d, p', rfl, rfl, h1, h2⟩ := key
  exact ⟨d, p', e, h1, h2⟩
section
variable {p : Pn} {l st we po gi ro to wt ez so no be x y ow od ba nn ca : Sl} {ps : List Pt} {ws : List Int} {q : Pt}
theorem q9_ok (hp : PnOk p) (k : Ok ps ws) : HoS q9 (Z p l (.va (.tup (ps.map pt))) (.va (.tup (iss ws))) po gi ro to wt ez so no be x y ow od ba nn ca) fun fl ρ => fl = .nx ∧ ∃ (p : Pn) (d e : D), PnOk p ∧ OddS d ∧ OddW ps e ∧ ρ = Z p l (.va (.tup (ps.map pt))) (.va (.tup (iss ws))) po gi ro to wt ez so no be x y ow (.va d) (.va e) nn ca := by
  have l0 := k.l0
  have l1 := k.l1
  have wl := k.wl
  constructor
  unfold q9
  simp only [cP_is]
  have c1 : cutD (.tup (ps.map pt)) none (some 1) = some (.va (.tup ((ps.map pt).take 1))) := cut_take (i := 1) (by rw [List.length_map]; omega)
  have c2 : cutD (.tup (iss ws)) (some 1) none = some (.va (.tup ((iss ws).drop 1))) := cut_drop (i := 1) (by rw [iss_len]; omega)
  have a1 : addD (.tup (ps.map pt)) (.tup ((ps.map pt).take 1)) = some (.va (.tup (ps.map pt ++ (ps.map pt).take 1))) := add_tup (by simp; omega)
  have a2 : addD (.tup (iss ws)) (.tup [.int 1]) = some (.va (.tup (iss ws ++ [.int 1]))) := add_tup (by rw [iss_len]; simp; omega)
  have m1 : mulD (.tup [.int 0]) (.int (((iss ws).length : Nat) : Int)) = some (.va (.tup (List.replicate ws.length (.int 0)))) := by rw [iss_len]; exact rep_tupE (by omega) (by omega)
  have m2 : mulD (.tup [.bl true]) (.int (((iss ws).length : Nat) : Int)) = some (.va (.tup (List.replicate ws.length (.bl true)))) := by rw [iss_len]; exact rep_tupE (by omega) (by omega)
  simp only [↓hos]
  refine ho_cP (p0 := .pen p) rfl ?_
  simp only [↓hos, ↓gz, ↓List.getElem?_cons_succ, c1, a1]
  refine ⟨(by first | rfl | trivial), (by first | rfl | trivial), (by first | rfl | trivial), (by first | rfl | trivial), _, p, rfl, rfl, hp, by simp, by simp, fun d hd p1 hp1 => ?_⟩
  refine ho_cP (p0 := .pen p1) rfl ?_
  simp only [↓hos, ↓gz, ↓List.getElem?_cons_succ, List.set_cons_zero, List.set_cons_succ, c2, a2, m1, m2]
  refine ⟨(by first | rfl | trivial), (by first | rfl | trivial), (by first | rfl | trivial), (by first | rfl | trivial), _, p1, rfl, rfl, hp1, by simp, by simp, fun e he p2 hp2 => ?_⟩
  try simp only [↓hos]
  exact ⟨(by first | rfl | trivial), (by first | rfl | trivial), p2, d, e, hp2, odd_s l0 (by omega) (fun r hr => (k.wd r hr).sm (by omega)) hd, odd_w l0 (by omega) wl (fun w hw => by have := k.wb w hw; omega) he, rfl⟩
theorem q10_ok (hp : PnOk p) : HoS q10 (Z p l st we po gi ro to wt ez so no be x y ow od ba nn ca) fun fl ρ => fl = .nx ∧ ∃ (p : Pn) (d : D), PnOk p ∧ OddP d ∧ ρ = Z p l st we po gi ro to wt ez so no be x y ow od ba (.va d) (.ow []) := by
  constructor
  unfold q10
  rw [ho_evPar2]
  obtain ⟨d, p1, e, hp1, ho⟩ := oddp_ok hp
  refine call_pen (n := 0) (p0 := .pen p) rfl ?_
  simp only [↓hos]
  exact ⟨(by first | rfl | trivial), (by first | rfl | trivial), p, d, p1, rfl, e, (by first | rfl | trivial), (by first | rfl | trivial), (by first | rfl | trivial), p1, d, hp1, ho, rfl⟩
theorem app_ok {cl : List (Str × Addr)} {t : LT} {w : Str} {i : Nat} {v : D} {L : List D} (hi : (Z p l st we po gi ro to wt ez so no be x y ow od ba nn (.ow L))[i]? = some (.va v)) (hL : L.length ≤ 10) : HoS (evDrop (evLM 20 apM (evCons (evTup (evCons (evLam t cl) (evCons (evTup (evCons (evC (.str "row")) (evCons (evC (.str w)) (evCons (evVar i) evNil)))) evNil))) evNil))) (Z p l st we po gi ro to wt ez so no be x y ow od ba nn (.ow L)) fun fl ρ => fl = .nx ∧ ρ = Z p l st we po gi ro to wt ez so no be x y ow od ba nn (.ow (L ++ [.tup [.lam t cl, .tup [.str "row", .str w, v]]])) := by
  constructor
  rw [ho_evDrop, ho_evLM (xs0 := L) rfl]
  have f1 : few [D.str "row", .str w, v] = true := rfl
  have f2 : few [D.lam t cl, .tup [D.str "row", .str w, v]] = true := rfl
  have f3 : few L = true := decide_eq_true (by omega)
  unfold evLam
  simp only [↓hos, hi, f1, f2, true_and, ↓List.getElem?_cons_succ, ↓gz, apM, f3, if_true]
  first | rfl | exact ⟨(by first | rfl | trivial), rfl⟩
theorem sum_e {a b c : D} {x : Ex} (h : F15 [a, b, c] = some (.er x)) (p : D.purs [a, b, c] = true) : runA 3 (evCall F15 (evN 3 (evCons (evVar 0) (evCons (evVar 1) (evCons (evVar 2) evNil))))) [a, b, c] = some (.er x) := by
  refine runA_er p (er_call ?_)
  show Ho (evN 3 (evCons (evVar 0) (evCons (evVar 1) (evCons (evVar 2) evNil))) [Sl.va a, .va b, .va c]) _
  simp only [↓hos, ↓gz, ↓List.getElem?_cons_succ, h]
  first | exact ⟨rfl, rfl⟩ | exact ⟨trivial, rfl⟩ | exact ⟨rfl, trivial⟩ | exact ⟨trivial, trivial⟩ | exact ⟨rfl, rfl, rfl⟩ | exact ⟨rfl, trivial, rfl⟩ | exact ⟨rfl, rfl, trivial⟩ | exact ⟨rfl, trivial, trivial⟩
theorem box_e {a b : D} {x : Ex} (h : F17 [a, b] = some (.er x)) (p : D.purs [a, b] = true) : runA 2 (evCall F17 (evN 2 (evCons (evVar 0) (evCons (evVar 1) evNil)))) [a, b] = some (.er x) := by
  refine runA_er p (er_call ?_)
  show Ho (evN 2 (evCons (evVar 0) (evCons (evVar 1) evNil)) [Sl.va a, .va b]) _
  simp only [↓hos, ↓gz, ↓List.getElem?_cons_succ, h]
  first | exact ⟨rfl, rfl⟩ | exact ⟨trivial, rfl⟩ | exact ⟨rfl, trivial⟩ | exact ⟨trivial, trivial⟩ | exact ⟨rfl, rfl, rfl⟩ | exact ⟨rfl, trivial, rfl⟩ | exact ⟨rfl, rfl, trivial⟩ | exact ⟨rfl, trivial, trivial⟩
theorem lk0 : lookA TA lt0 = some A0 := lookA_hit
theorem lk1 : lookA TA lt1 = some A1 := (lookA_go (by decide)).trans lookA_hit
theorem lk2 : lookA TA lt2 = some A2 := (lookA_go (by decide)).trans ((lookA_go (by decide)).trans lookA_hit)
theorem lk3 : lookA TA lt3 = some A3 := (lookA_go (by decide)).trans ((lookA_go (by decide)).trans ((lookA_go (by decide)).trans lookA_hit))
theorem lk4 : lookA TA lt4 = some A4 := (lookA_go (by decide)).trans ((lookA_go (by decide)).trans ((lookA_go (by decide)).trans ((lookA_go (by decide)).trans lookA_hit)))
theorem st_s : PyData.strOk "stones" = true := by decide +kernel
theorem st_w : PyData.strOk "weights" = true := by decide +kernel
theorem st_p : PyData.strOk "point" = true := by decide +kernel
theorem purs2 {a b : D} (h1 : a.pur = true) (h2 : b.pur = true) : D.purs [a, b] = true := by simp only [D.purs, h1, h2, Bool.and_self]
theorem purs3 {a b c : D} (h1 : a.pur = true) (h2 : b.pur = true) (h3 : c.pur = true) : D.purs [a, b, c] = true := by simp only [D.purs, h1, h2, h3, Bool.and_self]
theorem due_p {w : Str} {v : D} (h : v.pur = true) : D.purs [.str "row", .str w, v] = true := purs3 rfl rfl h
theorem q16_ok {cl : List (Str × Addr)} {od ba nn : D} (k : Ok ps ws) (ho : OddS od) (hw : OddW ps ba) (hq : OddP nn) :
    HoS (q16 cl) (Z p l (.va (.tup (ps.map pt))) (.va (.tup (iss ws))) po gi ro to wt ez so no be x y ow (.va od) (.va ba) (.va nn) (.ow [.tup [.lam lt4 cl, .tup [.str "row", .str "stones", od]], .tup [.lam lt3 cl, .tup [.str "row", .str "weights", ba]], .tup [.lam lt2 cl, .tup [.str "row", .str "point", nn]], .tup [.lam lt1 cl, .tup [.str "row", .str "stones", od]], .tup [.lam lt0 cl, .tup [.str "row", .str "weights", ba]]])) fun fl ρ => fl = .nx ∧ ∃ ca, ρ = Z p l (.va (.tup (ps.map pt))) (.va (.tup (iss ws))) po gi ro to wt ez so no be x y ow (.va od) (.va ba) (.va nn) ca := by
  constructor
  unfold q16
  have l1 := k.l1
  have e1 := posts_ok (d := .tup (ps.map pt)) (.inl rfl) k.l0 (by omega) k.nd
  have e2 := weights_ok (ps := ps) (d := .tup (iss ws)) (.inl rfl) k.wl (by omega) (fun w h => (k.wb w h).1)
  have pp := pur_pts (ps := ps)
  have pw := pur_ints (ws := ws)
  have r4 := rzs_row st_s lk4 (sum_e (sum_bad1 (e := ba) (f := nn) ho.b) (purs3 ho.p hw.p hq.p)) ho.s
  have r3 := rzs_row st_w lk3 (sum_e (sum_bad2 (f := nn) e1 hw.b) (purs3 pp hw.p hq.p)) hw.s
  have r2 := rzs_row st_p lk2 (sum_e (sum_bad3 e1 e2 hq.b) (purs3 pp pw hq.p)) hq.s
  have r1 := rzs_row st_s lk1 (box_e (box_bad1 (e := ba) ho.b) (purs2 ho.p hw.p)) ho.s
  have r0 := rzs_row st_w lk0 (box_e (box_bad2 e1 hw.b) (purs2 pp hw.p)) hw.s
  have rs := raise_so (l := [_, _, _, _, _]) (fun c hc => by
    simp only [List.mem_cons, List.not_mem_nil, or_false] at hc
    rcases hc with rfl | rfl | rfl | rfl | rfl
    · exact r4
    · exact r3
    · exact r2
    · exact r1
    · exact r0)
  rw [ho_evIf, ho_evNotT, ho_evTru]
  refine ho_evCallA rfl ?_ rs rfl ?_
  · simp only [D.closes]
    rw [close_row lk4 (ds := [od, ba, nn]) rfl (due_p ho.p), close_row lk3 (ds := [.tup (ps.map pt), ba, nn]) rfl (due_p hw.p), close_row lk2 (ds := [.tup (ps.map pt), .tup (iss ws), nn]) rfl (due_p hq.p), close_row lk1 (ds := [od, ba]) rfl (due_p ho.p), close_row lk0 (ds := [.tup (ps.map pt), ba]) rfl (due_p hw.p)]
  · simp only [↓hos, truD, Bool.not_true, Bool.false_eq_true, if_false]
    exact ⟨(by first | rfl | trivial), _, rfl⟩
theorem lap_ok {cl : List (Str × Addr)} (hp : PnOk p) : HoS (lapM cl) (Z p l st we po gi ro to wt ez so no be x y ow od ba nn ca) fun fl ρ => fl = .nx ∧ ∃ p st we po gi ro to wt ez so no be x y ow od ba nn ca, PnOk p ∧ ρ = Z p l st we po gi ro to wt ez so no be x y ow od ba nn ca := by
  unfold lapM
  refine HoS.seq _ (q0_ok hp) fun ρ ⟨p, ps, hp, h0, h1, nd, wd, e⟩ => ?_
  subst e
  refine HoS.seq _ (q1_ok hp h0 h1) fun ρ ⟨p, ws, q, hp, wl, wb, hq, e⟩ => ?_
  subst e
  have k : Ok ps ws := ⟨h0, h1, nd, wd, wl, wb⟩
  refine HoS.seq _ (q2_ok hp) fun ρ ⟨p, d, e, hp, hd, he, z⟩ => ?_
  subst z
  refine HoS.seq _ (q3_ok hp k hd he) fun ρ ⟨p, hp, z⟩ => ?_
  subst z
  refine HoS.seq _ (q4_ok k hd he) fun ρ ⟨a, b, c, g, t, z⟩ => ?_
  subst z
  refine HoS.seq _ q5_ok fun ρ z => ?_
  subst z
  refine HoS.seq _ q6_ok fun ρ z => ?_
  subst z
  refine HoS.seq _ (q7_ok k) fun ρ z => ?_
  subst z
  refine HoS.seq _ (q8_ok k t) fun ρ ⟨x, y, ow, z⟩ => ?_
  subst z
  refine HoS.seq _ (q9_ok hp k) fun ρ ⟨p, d2, e2, hp, ho, hw, z⟩ => ?_
  subst z
  refine HoS.seq _ (q10_ok hp) fun ρ ⟨p, d3, hp, hq3, z⟩ => ?_
  subst z
  refine HoS.seq _ (app_ok (v := d2) rfl (by simp)) fun ρ z => ?_
  subst z
  refine HoS.seq _ (app_ok (v := e2) rfl (by simp)) fun ρ z => ?_
  subst z
  refine HoS.seq _ (app_ok (v := d3) rfl (by simp)) fun ρ z => ?_
  subst z
  refine HoS.seq _ (app_ok (v := d2) rfl (by simp)) fun ρ z => ?_
  subst z
  refine HoS.seq _ (app_ok (v := e2) rfl (by simp)) fun ρ z => ?_
  subst z
  refine ⟨(q16_ok k ho hw hq3).h.imp fun fl ρ ⟨e, ca, z⟩ => ?_⟩
  subst z
  exact ⟨e, p, _, _, _, _, _, _, _, _, _, _, _, _, _, _, _, _, _, ca, hp, rfl⟩
end
theorem plain91 : ∀ cl, Plain 23 63 (m31 cl) := by
  intro cl cells hl fold
  have hp : PnOk ⟨cells, 0, 0, 0, fold⟩ := ⟨Int.le_refl 0, Int.le_refl 0⟩
  have rr := rng1_eq (n := 3) (by omega)
  have key : HoS (m31 cl) (iniL 23 ⟨cells, 0, 0, 0, fold⟩) fun fl _ => fl = .rt (.va (.bl true)) := by
    rw [law_is]
    refine HoS.seq (fun _ => True) ⟨?_⟩ fun ρ _ => ⟨?_⟩
    · rw [ho_evFor, ho_evRng, ho_evCons, ho_evC, ho_evNil]
      show optH (rngR1 [.va (.int ((3 : Nat) : Int))]) _
      rw [rr]
      refine forM_inv (fun ds ρ => ∃ (p : Pn) (l st we po gi ro to wt ez so no be x y ow od ba nn ca : Sl), PnOk p ∧ ρ = Z p l st we po gi ro to wt ez so no be x y ow od ba nn ca) ?_ ?_ _ _ ⟨_, .no, .no, .no, .no, .no, .no, .no, .no, .no, .no, .no, .no, .no, .no, .no, .no, .no, .no, .no, hp, rfl⟩
      · rintro d ds ρ ⟨p, l, st, we, po, gi, ro, to, wt, ez, so, no, be, x, y, ow, od, ba, nn, ca, hp, rfl⟩
        rw [show tgN 2 d (Z p l st we po gi ro to wt ez so no be x y ow od ba nn ca) = some (Z p (.va d) st we po gi ro to wt ez so no be x y ow od ba nn ca) from rfl, optH_some]
        refine (lap_ok hp).h.imp fun fl ρ ⟨e, q⟩ => ?_
        subst e
        obtain ⟨p, st, we, po, gi, ro, to, wt, ez, so, no, be, x, y, ow, od, ba, nn, ca, hp, rfl⟩ := q
        exact ⟨p, _, st, we, po, gi, ro, to, wt, ez, so, no, be, x, y, ow, od, ba, nn, ca, hp, rfl⟩
      · exact fun _ _ => ⟨rfl, trivial⟩
    · simp only [↓hos]
  obtain ⟨fl, ρ, e, rfl⟩ := key.h.get
  exact ⟨ρ, e⟩
end Lw
end Mc
end
section
set_option Elab.async false
set_option linter.all false
set_option maxRecDepth 100000
set_option maxHeartbeats 0
namespace Mc
namespace Lw
open PySem PySem.Spec L2
theorem ss_no {X : Cx} {W : WX} {b : Bs} {e : List Stmt} : PSs X e (rS b W evNo) := ⟨fun pins s σ H D I ⟨b', S, ρ, eb, G, w⟩ => w.elim⟩
theorem n8 {P : Program} {w : World} {K : PySem.W.Frag} {mg : Str → Option Value} {base : Heap} {f : Addr} {fd : FuncData} (E : Ev K mg) (g : mg "is_whole" = some (.ref f)) (Fd : FunD K "is_whole" "is_whole" (defArgs s8) (defBody s8) (defScope s8) [] [] f fd)  : Dn P w K mg base "is_whole" 1 1 F8 := ⟨f, fd, ["value"], g, Fd.kp, (Fd.bindsN fun _ _ _ _ _ _ us hl => match us, hl with | [_], _ => rfl), fn_def Fd sc8 (by decide) (b8 E )⟩
theorem n13 {P : Program} {w : World} {K : PySem.W.Frag} {mg : Str → Option Value} {base : Heap} {f : Addr} {fd : FuncData} (E : Ev K mg) (g : mg "steps_by" = some (.ref f)) (Fd : FunD K "steps_by" "steps_by" (defArgs s13) (defBody s13) (defScope s13) [] [] f fd)  : Dn P w K mg base "steps_by" 1 2 F13 := ⟨f, fd, ["one", "other"], g, Fd.kp, (Fd.bindsN fun _ _ _ _ _ _ us hl => match us, hl with | [_, _], _ => rfl), fn_def Fd sc13 (by decide) (b13 E )⟩
theorem n16 {P : Program} {w : World} {K : PySem.W.Frag} {mg : Str → Option Value} {base : Heap} {f : Addr} {fd : FuncData} (E : Ev K mg) (g : mg "middle_of" = some (.ref f)) (Fd : FunD K "middle_of" "middle_of" (defArgs s16) (defBody s16) (defScope s16) [] [] f fd)  : Dn P w K mg base "middle_of" 1 1 F16 := ⟨f, fd, ["pairs"], g, Fd.kp, (Fd.bindsN fun _ _ _ _ _ _ us hl => match us, hl with | [_], _ => rfl), fn_def Fd sc16 (by decide) (b16 E )⟩
theorem n19 {P : Program} {w : World} {K : PySem.W.Frag} {mg : Str → Option Value} {base : Heap} {f : Addr} {fd : FuncData} (E : Ev K mg) (g : mg "_law_draw" = some (.ref f)) (Fd : FunD K "_law_draw" "_law_draw" (defArgs s19) (defBody s19) (defScope s19) [] [] f fd)  : DnN P w K mg base "_law_draw" 1 1 F19 := ⟨f, fd, ["pen", "many"], g, Fd.kp, (Fd.bindsN fun _ _ _ _ _ _ us hl => match us, hl with | [_, _], _ => rfl), fn_defN (n := 1) Fd sc19 rfl (by decide) (b19 E )⟩
theorem n22 {P : Program} {w : World} {K : PySem.W.Frag} {mg : Str → Option Value} {base : Heap} {f : Addr} {fd : FuncData} (E : Ev K mg) (g : mg "_law_whole" = some (.ref f)) (Fd : FunD K "_law_whole" "_law_whole" (defArgs s22) (defBody s22) (defScope s22) [] [] f fd)  : Dn P w K mg base "_law_whole" 1 1 F22 := ⟨f, fd, ["value"], g, Fd.kp, (Fd.bindsN fun _ _ _ _ _ _ us hl => match us, hl with | [_], _ => rfl), fn_def Fd sc22 (by decide) (b22 E )⟩
theorem n28 {P : Program} {w : World} {K : PySem.W.Frag} {mg : Str → Option Value} {base : Heap} {f : Addr} {fd : FuncData} (E : Ev K mg) (g : mg "_law_walk" = some (.ref f)) (Fd : FunD K "_law_walk" "_law_walk" (defArgs s28) (defBody s28) (defScope s28) [] [] f fd)  : Dn P w K mg base "_law_walk" 1 2 F28 := ⟨f, fd, ["one", "other"], g, Fd.kp, (Fd.bindsN fun _ _ _ _ _ _ us hl => match us, hl with | [_, _], _ => rfl), fn_def Fd sc28 (by decide) (b28 E )⟩
theorem n9 {P : Program} {w : World} {K : PySem.W.Frag} {mg : Str → Option Value} {base : Heap} {f : Addr} {fd : FuncData} (E : Ev K mg) (g : mg "is_point" = some (.ref f)) (Fd : FunD K "is_point" "is_point" (defArgs s9) (defBody s9) (defScope s9) [] [] f fd) (h_is_whole : Dn P w K mg base "is_whole" 1 1 F8) : Dn P w K mg base "is_point" 2 1 F9 := ⟨f, fd, ["value"], g, Fd.kp, (Fd.bindsN fun _ _ _ _ _ _ us hl => match us, hl with | [_], _ => rfl), fn_def Fd sc9 (by decide) (b9 E h_is_whole)⟩
theorem n20 {P : Program} {w : World} {K : PySem.W.Frag} {mg : Str → Option Value} {base : Heap} {f : Addr} {fd : FuncData} (E : Ev K mg) (g : mg "_law_pick" = some (.ref f)) (Fd : FunD K "_law_pick" "_law_pick" (defArgs s20) (defBody s20) (defScope s20) [] [] f fd) (h__law_draw : DnN P w K mg base "_law_draw" 1 1 F19) : DnN P w K mg base "_law_pick" 2 1 F20 := ⟨f, fd, ["pen", "some"], g, Fd.kp, (Fd.bindsN fun _ _ _ _ _ _ us hl => match us, hl with | [_, _], _ => rfl), fn_defN (n := 1) Fd sc20 rfl (by decide) (b20 E h__law_draw)⟩
theorem n23 {P : Program} {w : World} {K : PySem.W.Frag} {mg : Str → Option Value} {base : Heap} {f : Addr} {fd : FuncData} (E : Ev K mg) (g : mg "_law_drawn_point" = some (.ref f)) (Fd : FunD K "_law_drawn_point" "_law_drawn_point" (defArgs s23) (defBody s23) (defScope s23) [] [] f fd) (h__law_draw : DnN P w K mg base "_law_draw" 1 1 F19) : DnN P w K mg base "_law_drawn_point" 2 1 F23 := ⟨f, fd, ["pen", "wide"], g, Fd.kp, (Fd.bindsN fun _ _ _ _ _ _ us hl => match us, hl with | [_, _], _ => rfl), fn_defN (n := 1) Fd sc23 rfl (by decide) (b23 E h__law_draw)⟩
theorem n29 {P : Program} {w : World} {K : PySem.W.Frag} {mg : Str → Option Value} {base : Heap} {f : Addr} {fd : FuncData} (E : Ev K mg) (g : mg "_law_is_pair" = some (.ref f)) (Fd : FunD K "_law_is_pair" "_law_is_pair" (defArgs s29) (defBody s29) (defScope s29) [] [] f fd) (h__law_whole : Dn P w K mg base "_law_whole" 1 1 F22) : Dn P w K mg base "_law_is_pair" 2 1 F29 := ⟨f, fd, ["value"], g, Fd.kp, (Fd.bindsN fun _ _ _ _ _ _ us hl => match us, hl with | [_], _ => rfl), fn_def Fd sc29 (by decide) (b29 E h__law_whole)⟩
theorem n30 {P : Program} {w : World} {K : PySem.W.Frag} {mg : Str → Option Value} {base : Heap} {f : Addr} {fd : FuncData} (E : Ev K mg) (g : mg "_law_sum_at" = some (.ref f)) (Fd : FunD K "_law_sum_at" "_law_sum_at" (defArgs s30) (defBody s30) (defScope s30) [] [] f fd) (h__law_walk : Dn P w K mg base "_law_walk" 1 2 F28) : Dn P w K mg base "_law_sum_at" 2 3 F30 := ⟨f, fd, ["stones", "weights", "point"], g, Fd.kp, (Fd.bindsN fun _ _ _ _ _ _ us hl => match us, hl with | [_, _, _], _ => rfl), fn_def Fd sc30 (by decide) (b30 E h__law_walk)⟩
theorem n10 {P : Program} {w : World} {K : PySem.W.Frag} {mg : Str → Option Value} {base : Heap} {f : Addr} {fd : FuncData} (E : Ev K mg) (g : mg "need_as" = some (.ref f)) (Fd : FunD K "need_as" "need_as" (defArgs s10) (defBody s10) (defScope s10) [] [] f fd) (ft : FTok P w K mg base 2 TF) (xk_BadRow : ExcK P w K mg base "BadRow" 1 ["what", "row"]) : Dn P w K mg base "need_as" 3 3 F10 := ⟨f, fd, ["what", "value", "is_right"], g, Fd.kp, (Fd.bindsN fun _ _ _ _ _ _ us hl => match us, hl with | [_, _, _], _ => rfl), fn_def Fd sc10 (by decide) (b10 E ft xk_BadRow)⟩
theorem n12 {P : Program} {w : World} {K : PySem.W.Frag} {mg : Str → Option Value} {base : Heap} {f : Addr} {fd : FuncData} (E : Ev K mg) (g : mg "need_posts" = some (.ref f)) (Fd : FunD K "need_posts" "need_posts" (defArgs s12) (defBody s12) (defScope s12) [] [] f fd) (h_is_point : Dn P w K mg base "is_point" 2 1 F9) (xk_BadRow : ExcK P w K mg base "BadRow" 1 ["what", "row"]) : Dn P w K mg base "need_posts" 3 1 F12 := ⟨f, fd, ["stones"], g, Fd.kp, (Fd.bindsN fun _ _ _ _ _ _ us hl => match us, hl with | [_], _ => rfl), fn_def Fd sc12 (by decide) (b12 E h_is_point xk_BadRow)⟩
theorem n14 {P : Program} {w : World} {K : PySem.W.Frag} {mg : Str → Option Value} {base : Heap} {f : Addr} {fd : FuncData} (E : Ev K mg) (g : mg "need_weights" = some (.ref f)) (Fd : FunD K "need_weights" "need_weights" (defArgs s14) (defBody s14) (defScope s14) [] [] f fd) (h_is_whole : Dn P w K mg base "is_whole" 1 1 F8) (xk_BadRow : ExcK P w K mg base "BadRow" 1 ["what", "row"]) : Dn P w K mg base "need_weights" 3 2 F14 := ⟨f, fd, ["stones", "weights"], g, Fd.kp, (Fd.bindsN fun _ _ _ _ _ _ us hl => match us, hl with | [_, _], _ => rfl), fn_def Fd sc14 (by decide) (b14 E h_is_whole xk_BadRow)⟩
theorem n24 {P : Program} {w : World} {K : PySem.W.Frag} {mg : Str → Option Value} {base : Heap} {f : Addr} {fd : FuncData} (E : Ev K mg) (g : mg "_law_odd_point" = some (.ref f)) (Fd : FunD K "_law_odd_point" "_law_odd_point" (defArgs s24) (defBody s24) (defScope s24) [] [] f fd) (h__law_pick : DnN P w K mg base "_law_pick" 2 1 F20) : DnN P w K mg base "_law_odd_point" 3 0 F24 := ⟨f, fd, ["pen"], g, Fd.kp, (Fd.bindsN fun _ _ _ _ _ _ us hl => match us, hl with | [_], _ => rfl), fn_defN (n := 0) Fd sc24 rfl (by decide) (b24 E h__law_pick)⟩
theorem n27 {P : Program} {w : World} {K : PySem.W.Frag} {mg : Str → Option Value} {base : Heap} {f : Addr} {fd : FuncData} (E : Ev K mg) (g : mg "_law_stones" = some (.ref f)) (Fd : FunD K "_law_stones" "_law_stones" (defArgs s27) (defBody s27) (defScope s27) [] [] f fd) (h__law_drawn_point : DnN P w K mg base "_law_drawn_point" 2 1 F23) (h__law_draw : DnN P w K mg base "_law_draw" 1 1 F19) : DnN P w K mg base "_law_stones" 3 2 F27 := ⟨f, fd, ["pen", "most", "wide"], g, Fd.kp, (Fd.bindsN fun _ _ _ _ _ _ us hl => match us, hl with | [_, _, _], _ => rfl), fn_defN (n := 2) Fd sc27 rfl (by decide) (b27 E h__law_drawn_point h__law_draw)⟩
theorem n11 {P : Program} {w : World} {K : PySem.W.Frag} {mg : Str → Option Value} {base : Heap} {f : Addr} {fd : FuncData} (E : Ev K mg) (g : mg "need_point" = some (.ref f)) (Fd : FunD K "need_point" "need_point" (defArgs s11) (defBody s11) (defScope s11) [] [] f fd) (h_need_as : Dn P w K mg base "need_as" 3 3 F10) : Dn P w K mg base "need_point" 4 2 F11 := ⟨f, fd, ["what", "value"], g, Fd.kp, (Fd.bindsN fun _ _ _ _ _ _ us hl => match us, hl with | [_, _], _ => rfl), fn_def Fd sc11 (by decide) (b11 E h_need_as)⟩
theorem n17 {P : Program} {w : World} {K : PySem.W.Frag} {mg : Str → Option Value} {base : Heap} {f : Addr} {fd : FuncData} (E : Ev K mg) (g : mg "meeting_box" = some (.ref f)) (Fd : FunD K "meeting_box" "meeting_box" (defArgs s17) (defBody s17) (defScope s17) [] [] f fd) (h_middle_of : Dn P w K mg base "middle_of" 1 1 F16) (h_need_weights : Dn P w K mg base "need_weights" 3 2 F14) (h_need_posts : Dn P w K mg base "need_posts" 3 1 F12) : Dn P w K mg base "meeting_box" 4 2 F17 := ⟨f, fd, ["stones", "weights"], g, Fd.kp, (Fd.bindsN fun _ _ _ _ _ _ us hl => match us, hl with | [_, _], _ => rfl), fn_def Fd sc17 (by decide) (b17 E h_middle_of h_need_weights h_need_posts)⟩
theorem n15 {P : Program} {w : World} {K : PySem.W.Frag} {mg : Str → Option Value} {base : Heap} {f : Addr} {fd : FuncData} (E : Ev K mg) (g : mg "meeting_sum" = some (.ref f)) (Fd : FunD K "meeting_sum" "meeting_sum" (defArgs s15) (defBody s15) (defScope s15) [] [] f fd) (h_steps_by : Dn P w K mg base "steps_by" 1 2 F13) (h_need_point : Dn P w K mg base "need_point" 4 2 F11) (h_need_weights : Dn P w K mg base "need_weights" 3 2 F14) (h_need_posts : Dn P w K mg base "need_posts" 3 1 F12) : Dn P w K mg base "meeting_sum" 5 3 F15 := ⟨f, fd, ["stones", "weights", "point"], g, Fd.kp, (Fd.bindsN fun _ _ _ _ _ _ us hl => match us, hl with | [_, _, _], _ => rfl), fn_def Fd sc15 (by decide) (b15 E h_steps_by h_need_point h_need_weights h_need_posts)⟩
theorem n21 {P : Program} {w : World} {K : PySem.W.Frag} {mg : Str → Option Value} {base : Heap} {f : Addr} {fd : FuncData} (E : Ev K mg) (g : mg "_law_is" = some (.ref f)) (Fd : FunD K "_law_is" "_law_is" (defArgs s21) (defBody s21) (defScope s21) [] [] f fd)  : ∀ i : Nat, Dn P w K mg base "_law_is" (i + 1) 2 (F21 i)
  | 0 => ⟨f, fd, ["told", "due"], g, Fd.kp, (Fd.bindsN fun _ _ _ _ _ _ us hl => match us, hl with | [_, _], _ => rfl), (fn_def (k := 0) (m := evNo) Fd sc21 (by decide) fun X W b _ _ _ o tk hp => ss_no).mono (by omega)⟩
  | j + 1 => ⟨f, fd, ["told", "due"], g, Fd.kp, (Fd.bindsN fun _ _ _ _ _ _ us hl => match us, hl with | [_, _], _ => rfl), fn_def (k := j + 1) Fd sc21 (by decide) (b21 (E := E)  (h__law_is := n21 E g Fd  j))⟩
theorem n25 {P : Program} {w : World} {K : PySem.W.Frag} {mg : Str → Option Value} {base : Heap} {f : Addr} {fd : FuncData} (E : Ev K mg) (g : mg "_law_error" = some (.ref f)) (Fd : FunD K "_law_error" "_law_error" (defArgs s25) (defBody s25) (defScope s25) [] [] f fd) (at_ : ATok P w K mg base 6 TA) : DnG P w K mg base "_law_error" 7 1 F25 := ⟨f, fd, ["call"], g, Fd.kp, (Fd.bindsN fun _ _ _ _ _ _ us hl => match us, hl with | [_], _ => rfl), fn_defG Fd sc25 (by decide) (b25 E at_)⟩
theorem n26 {P : Program} {w : World} {K : PySem.W.Frag} {mg : Str → Option Value} {base : Heap} {f : Addr} {fd : FuncData} (E : Ev K mg) (g : mg "_law_raise_so" = some (.ref f)) (Fd : FunD K "_law_raise_so" "_law_raise_so" (defArgs s26) (defBody s26) (defScope s26) [] [] f fd) (h__law_error : DnG P w K mg base "_law_error" 7 1 F25) : DnG P w K mg base "_law_raise_so" 8 1 F26 := ⟨f, fd, ["calls"], g, Fd.kp, (Fd.bindsN fun _ _ _ _ _ _ us hl => match us, hl with | [_], _ => rfl), fn_defG Fd sc26 (by decide) (b26 E h__law_error)⟩
theorem nl0 {P : Program} {w : World} {K : PySem.W.Frag} {mg : Str → Option Value} {base : Heap} (E : Ev K mg) (h_meeting_box : Dn P w K mg base "meeting_box" 4 2 F17) : ActOk P w K mg base 5 lt0 A0 := act_of (N := Nl0) (NdefX.nscope_by (by decide +kernel)) (fun _ _ _ _ => rfl) (bl0 E h_meeting_box)
theorem nl1 {P : Program} {w : World} {K : PySem.W.Frag} {mg : Str → Option Value} {base : Heap} (E : Ev K mg) (h_meeting_box : Dn P w K mg base "meeting_box" 4 2 F17) : ActOk P w K mg base 5 lt1 A1 := act_of (N := Nl1) (NdefX.nscope_by (by decide +kernel)) (fun _ _ _ _ => rfl) (bl1 E h_meeting_box)
theorem nl2 {P : Program} {w : World} {K : PySem.W.Frag} {mg : Str → Option Value} {base : Heap} (E : Ev K mg) (h_meeting_sum : Dn P w K mg base "meeting_sum" 5 3 F15) : ActOk P w K mg base 6 lt2 A2 := act_of (N := Nl2) (NdefX.nscope_by (by decide +kernel)) (fun _ _ _ _ => rfl) (bl2 E h_meeting_sum)
theorem nl3 {P : Program} {w : World} {K : PySem.W.Frag} {mg : Str → Option Value} {base : Heap} (E : Ev K mg) (h_meeting_sum : Dn P w K mg base "meeting_sum" 5 3 F15) : ActOk P w K mg base 6 lt3 A3 := act_of (N := Nl3) (NdefX.nscope_by (by decide +kernel)) (fun _ _ _ _ => rfl) (bl3 E h_meeting_sum)
theorem nl4 {P : Program} {w : World} {K : PySem.W.Frag} {mg : Str → Option Value} {base : Heap} (E : Ev K mg) (h_meeting_sum : Dn P w K mg base "meeting_sum" 5 3 F15) : ActOk P w K mg base 6 lt4 A4 := act_of (N := Nl4) (NdefX.nscope_by (by decide +kernel)) (fun _ _ _ _ => rfl) (bl4 E h_meeting_sum)
theorem n2 {P : Program} {w : World} {K : PySem.W.Frag} {mg : Str → Option Value} {base : Heap} {f : Addr} {fd : FuncData} {C CL : Addr} (k : ExkOk K mg "BadRow" ["what", "row"] C f) (hL : mg "LandError" = some (.ref CL)) (T : BaseI K CL) (Fd : FunD K "__init__" "BadRow.__init__" (defArgs s2) (defBody s2) (defScope s2) [] [] f fd) : ExcK P w K mg base "BadRow" 1 ["what", "row"] := by
  refine excK_mk (m := "no such row") (l := [("what", 1), ("row", 2)]) k Fd (Fd.bindsN fun _ _ _ _ _ _ us hl => match us, hl with | [_, _, _], _ => rfl) sc2 rfl (by simp) rfl (by decide) fun X hX => ?_
  obtain ⟨cdv, A, outer, s, H, E', rfl⟩ := hX
  exact pss_cons (ps_expr (pe_leinit T hL (pa_cons (L2.pe_var rfl (Or.inl rfl)) (pa_cons L2.pe_str pa_nil)))) (pss_cons (ps_ost (L2.pe_var rfl (Or.inl rfl)) (L2.pe_var rfl (Or.inl rfl))) (pss_cons (ps_ost (L2.pe_var rfl (Or.inl rfl)) (L2.pe_var rfl (Or.inl rfl))) pss_nil))
theorem n18 {P : Program} {w : World} {K : PySem.W.Frag} {mg : Str → Option Value} {base : Heap} {f : Addr} {fd : FuncData} (E : Ev K mg) (Fd : FunD K "_law_pen" "_law_pen" (defArgs s18) (defBody s18) (defScope s18) [] [] f fd) : FnOk P w K mg base (L2.CX P w) 1 f fd ["script"] (spPen K) := by
  refine fn_pen Fd sc18 fun X W b hX eK em o hp => ?_
  obtain ⟨cdv, A, outer, s, H, E', rfl⟩ := hX
  exact pss_cons (ps_set (i := 1) o.nd rfl (Or.inl rfl) L2.pe_int) (pss_cons (ps_for hp o.calm (pi_sq (pe_var rfl (Or.inl rfl))) (pg_name (i := 2) o.nd rfl (Or.inl rfl)) (pss_one (ps_set (i := 1) o.nd rfl (Or.inl rfl) (pe_mod' (pe_int o E.bi (pa_c (pe_add' o (pe_mul' o (pe_v 1) pe_ci) (pe_v 2)) pa_n)) pe_ci)))) (pss_one (ps_ret (pe_disp
    (pps_cons L2.pe_str (pe_callTy call_list_of rfl E.bi.list (by decide +kernel) (pa_cons (pe_var rfl (Or.inl rfl)) pa_nil)) (pps_cons L2.pe_str L2.pe_int (pps_cons L2.pe_str L2.pe_int (pps_cons L2.pe_str L2.pe_int (pps_cons L2.pe_str (pe_var rfl (Or.inl rfl)) pps_nil))))) rfl rfl (fun z => by cases z) (Nat.le_of_ble_eq_true rfl)))))
theorem n31 {P : Program} {w : World} {K : PySem.W.Frag} {mg : Str → Option Value} {base : Heap} {f : Addr} {fd : FuncData} {fp : Addr} {fdp : FuncData} {c Pt : Addr} (TB : LamX.TabB base mg c Pt) (hcd : fd.code = .ref c) (E : Ev K mg) (pl : ∀ cl, Plain 23 63 (m31 cl)) (gp : mg "_law_pen" = some (.ref fp)) (kp : PySem.W.keepIn K (.ref fp) = true) (bp : Binds K fdp ["script"] []) (np : FnOk P w K mg base (L2.CX P w) 1 fp fdp ["script"] (spPen K)) (Fd : FunD K "law" "law" (defArgs s31) (defBody s31) (defScope s31) [] [] f fd) (h__law_raise_so : DnG P w K mg base "_law_raise_so" 8 1 F26) (h__law_odd_point : DnN P w K mg base "_law_odd_point" 3 0 F24) (h__law_pick : DnN P w K mg base "_law_pick" 2 1 F20) (h__law_sum_at : Dn P w K mg base "_law_sum_at" 2 3 F30) (h__law_is_pair : Dn P w K mg base "_law_is_pair" 2 1 F29) (h_meeting_box : Dn P w K mg base "meeting_box" 4 2 F17) (h_meeting_sum : Dn P w K mg base "meeting_sum" 5 3 F15) (h__law_is : Dn P w K mg base "_law_is" 7 2 (F21 6)) (h__law_draw : DnN P w K mg base "_law_draw" 1 1 F19) (h__law_drawn_point : DnN P w K mg base "_law_drawn_point" 2 1 F23) (h__law_stones : DnN P w K mg base "_law_stones" 3 2 F27) (oeq : OpT P w K mg base "__eq__" 0 Teq) (one : OpT P w K mg base "__ne__" 0 Tne) : FnG P w K mg base 9 f fd ["script"] (spLawT K 63 (some (Pt, lq))) := by
  refine fn_lawG (N := N31) (k := 8) (rest := (defBody s31).tail) Fd hcd sc31 (by decide) rfl (fun X W hX hr nd tk => ?_) (b31 TB E h__law_raise_so h__law_odd_point h__law_pick h__law_sum_at h__law_is_pair h_meeting_box h_meeting_sum h__law_is h__law_draw h__law_drawn_point h__law_stones oeq one) pl
  obtain ⟨cdv, A, outer, s, H, E', rfl⟩ := hX
  exact ps_set (i := 1) nd rfl (by first | exact Or.inl rfl | exact Or.inr rfl) (pe_callSD (E := WE W) np (hr.mono (by decide)) rfl gp kp bp .nil (fun σ => passAt tk σ) (pa_cons (pe_var rfl (by first | exact Or.inl rfl | exact Or.inr (Or.inl rfl))) pa_nil))
theorem facts {P : Program} {w : World} {K : PySem.W.Frag} {h : Heap} {mg : Str → Option Value} {f : Addr} (X : K.In h) (G : h.Ns mainGlobals mg) (hfa : mg ("law" : Str) = some (.ref f)) (c : He.SaysD fa fn K) (mo : exB K = true) (pl : ∀ cl, Plain 23 63 (m31 cl)) :
    ∃ fd : FuncData, (∀ (s : Shared) (v : Value), BindsTo s fd ⟨[v], []⟩ [("script", v)]) ∧ ∀ base : Heap, K.In base → base.Ns mainGlobals mg → LamX.TabB base mg (He.cT K ("law", none)).1 (He.cT K ("law", none)).2 → FnG P w K mg base 9 f fd ["script"] (spLawT K 63 (some ((He.cT K ("law", none)).2, lq))) := by
  obtain ⟨fd2, A2⟩ := c.def_ 0 (d := d2) rfl
  obtain ⟨fd8, A8⟩ := c.def_ 1 (d := d8) rfl
  obtain ⟨fd9, A9⟩ := c.def_ 2 (d := d9) rfl
  obtain ⟨fd10, A10⟩ := c.def_ 3 (d := d10) rfl
  obtain ⟨fd11, A11⟩ := c.def_ 4 (d := d11) rfl
  obtain ⟨fd12, A12⟩ := c.def_ 5 (d := d12) rfl
  obtain ⟨fd13, A13⟩ := c.def_ 6 (d := d13) rfl
  obtain ⟨fd14, A14⟩ := c.def_ 7 (d := d14) rfl
  obtain ⟨fd15, A15⟩ := c.def_ 8 (d := d15) rfl
  obtain ⟨fd16, A16⟩ := c.def_ 9 (d := d16) rfl
  obtain ⟨fd17, A17⟩ := c.def_ 10 (d := d17) rfl
  obtain ⟨fd18, A18⟩ := c.def_ 11 (d := d18) rfl
  obtain ⟨fd19, A19⟩ := c.def_ 12 (d := d19) rfl
  obtain ⟨fd20, A20⟩ := c.def_ 13 (d := d20) rfl
  obtain ⟨fd21, A21⟩ := c.def_ 14 (d := d21) rfl
  obtain ⟨fd22, A22⟩ := c.def_ 15 (d := d22) rfl
  obtain ⟨fd23, A23⟩ := c.def_ 16 (d := d23) rfl
  obtain ⟨fd24, A24⟩ := c.def_ 17 (d := d24) rfl
  obtain ⟨fd25, A25⟩ := c.def_ 18 (d := d25) rfl
  obtain ⟨fd26, A26⟩ := c.def_ 19 (d := d26) rfl
  obtain ⟨fd27, A27⟩ := c.def_ 20 (d := d27) rfl
  obtain ⟨fd28, A28⟩ := c.def_ 21 (d := d28) rfl
  obtain ⟨fd29, A29⟩ := c.def_ 22 (d := d29) rfl
  obtain ⟨fd30, A30⟩ := c.def_ 23 (d := d30) rfl
  obtain ⟨fd31, A31⟩ := c.def_ 24 (d := d31) rfl
  have eL := hfa.symm.trans (He.glo_ok X G (c.fact 40 (f := .glo "law") rfl))
  cases eL
  obtain ⟨mo1, mo2⟩ := Bool.and_eq_true_iff.mp mo
  obtain ⟨mo_xf, mo2⟩ := Bool.and_eq_true_iff.mp mo2
  obtain ⟨mo_xk_BadRow, mo2⟩ := Bool.and_eq_true_iff.mp mo2
  obtain ⟨mo_base, mo2⟩ := Bool.and_eq_true_iff.mp mo2
  have E : Ev K mg := ⟨bi_of X G (List.all_eq_true.mpr fun f hf => c.facts (List.mem_append_left _ hf)), kitsB_ok X G mo1, ctB_ok X G mo2, He.int_ok X G (c.fact 42 (f := .int "MOST_STONES" 12) rfl), He.free_ok X G (c.fact 41 (f := .free "repr") rfl), exfB_ok X G mo_xf, ⟨_, He.glo_ok X G (c.fact 18 (f := .glo "is_point") rfl)⟩⟩
  refine ⟨fd31, fun s v => (FunD.bindsA (ps := ["script"]) A31 fun _ _ _ _ _ _ us hl => match us, hl with | [_], _ => rfl) s [v] rfl, fun base _ _ TB => ?_⟩
  obtain ⟨CL, hL, TL⟩ := baseB_ok X G mo_base
  have xk_BadRow := n2 (P := P) (w := w) (base := base) (exkB_ok X G mo_xk_BadRow) hL TL A2
  have a8 := n8 (P := P) (w := w) (base := base) E (He.glo_ok X G (c.fact 17 (f := .glo "is_whole") rfl)) A8 
  have a13 := n13 (P := P) (w := w) (base := base) E (He.glo_ok X G (c.fact 22 (f := .glo "steps_by") rfl)) A13 
  have a16 := n16 (P := P) (w := w) (base := base) E (He.glo_ok X G (c.fact 25 (f := .glo "middle_of") rfl)) A16 
  have a19 := n19 (P := P) (w := w) (base := base) E (He.glo_ok X G (c.fact 28 (f := .glo "_law_draw") rfl)) A19 
  have a22 := n22 (P := P) (w := w) (base := base) E (He.glo_ok X G (c.fact 31 (f := .glo "_law_whole") rfl)) A22 
  have a28 := n28 (P := P) (w := w) (base := base) E (He.glo_ok X G (c.fact 37 (f := .glo "_law_walk") rfl)) A28 
  have a9 := n9 (P := P) (w := w) (base := base) E (He.glo_ok X G (c.fact 18 (f := .glo "is_point") rfl)) A9 a8
  have a20 := n20 (P := P) (w := w) (base := base) E (He.glo_ok X G (c.fact 29 (f := .glo "_law_pick") rfl)) A20 a19
  have a23 := n23 (P := P) (w := w) (base := base) E (He.glo_ok X G (c.fact 32 (f := .glo "_law_drawn_point") rfl)) A23 a19
  have a29 := n29 (P := P) (w := w) (base := base) E (He.glo_ok X G (c.fact 38 (f := .glo "_law_is_pair") rfl)) A29 a22
  have a30 := n30 (P := P) (w := w) (base := base) E (He.glo_ok X G (c.fact 39 (f := .glo "_law_sum_at") rfl)) A30 a28
  have ft : FTok P w K mg base 2 TF := FTok.cons a9 (by decide) (FTok.nil)
  have a10 := n10 (P := P) (w := w) (base := base) E (He.glo_ok X G (c.fact 19 (f := .glo "need_as") rfl)) A10 ft xk_BadRow
  have a12 := n12 (P := P) (w := w) (base := base) E (He.glo_ok X G (c.fact 21 (f := .glo "need_posts") rfl)) A12 a9 xk_BadRow
  have a14 := n14 (P := P) (w := w) (base := base) E (He.glo_ok X G (c.fact 23 (f := .glo "need_weights") rfl)) A14 a8 xk_BadRow
  have a24 := n24 (P := P) (w := w) (base := base) E (He.glo_ok X G (c.fact 33 (f := .glo "_law_odd_point") rfl)) A24 a20
  have a27 := n27 (P := P) (w := w) (base := base) E (He.glo_ok X G (c.fact 36 (f := .glo "_law_stones") rfl)) A27 a23 a19
  have a11 := n11 (P := P) (w := w) (base := base) E (He.glo_ok X G (c.fact 20 (f := .glo "need_point") rfl)) A11 a10
  have a17 := n17 (P := P) (w := w) (base := base) E (He.glo_ok X G (c.fact 26 (f := .glo "meeting_box") rfl)) A17 a16 a14 a12
  have a15 := n15 (P := P) (w := w) (base := base) E (He.glo_ok X G (c.fact 24 (f := .glo "meeting_sum") rfl)) A15 a13 a11 a14 a12
  have a21 := n21 (P := P) (w := w) (base := base) E (He.glo_ok X G (c.fact 30 (f := .glo "_law_is") rfl)) A21 
  have al0 := nl0 (P := P) (w := w) (base := base) E a17
  have al1 := nl1 (P := P) (w := w) (base := base) E a17
  have al2 := nl2 (P := P) (w := w) (base := base) E a15
  have al3 := nl3 (P := P) (w := w) (base := base) E a15
  have al4 := nl4 (P := P) (w := w) (base := base) E a15
  have at_ : ATok P w K mg base 6 TA := ATok.cons al0 (by decide) (ATok.cons al1 (by decide) (ATok.cons al2 (by decide) (ATok.cons al3 (by decide) (ATok.cons al4 (by decide) (ATok.nil)))))
  have a25 := n25 (P := P) (w := w) (base := base) E (He.glo_ok X G (c.fact 34 (f := .glo "_law_error") rfl)) A25 at_
  have a26 := n26 (P := P) (w := w) (base := base) E (He.glo_ok X G (c.fact 35 (f := .glo "_law_raise_so") rfl)) A26 a25
  have oeq : OpT P w K mg base "__eq__" 0 Teq := OpT.nil
  have one : OpT P w K mg base "__ne__" 0 Tne := OpT.nil
  have hcode : fd31.code = .ref (He.cT K ("law", none)).1 := by
    obtain ⟨oc, od, dV, kV, doc, pm, an, cdv, ct, osl, e1, lk, hc, _, _⟩ := A31.ex
    obtain ⟨c0, e2⟩ := He.codeIn_ref hc
    have e3 : fd31.code = .ref c0 := by rw [e1]; exact e2
    rw [e3]; exact congrArg Value.ref (He.codeOf_eq (p := ("law", none)) lk e3).symm
  exact n31 TB hcode E pl (He.glo_ok X G (c.fact 27 (f := .glo "_law_pen") rfl)) A18.kp (FunD.bindsN A18 fun _ _ _ _ _ _ us hl => match us, hl with | [_], _ => rfl) (n18 E A18) A31 a26 a24 a20 a30 a29 a17 a15 (a21 6) a19 a23 a27 oeq one
open PySem.W PySem.Calls PyProof.Rows in
theorem holds (pl : ∀ cl, Plain 23 63 (m31 cl)) : PySem.Challenge.rw_landparcels_k91_whole_where_to_meet.Holds := by
  w_on; o_law
  refine HandSHeadRun.head_any (r := RW0) (q := PySem.W.view RW0.prog [38]) (H := hk) (ob := ob) (M := 4000) (loose := names) (d := HandSHeadRun.topDef RW0.prog 38) (kwd := []) ob_eq
    (by kernel_rfl) (fun s => by kernel_rfl) run (by kernel_rfl) (by kernel_rfl) (by kernel_rfl) (by rfl) (by first | assumption | decide +kernel) (by decide +kernel) ⟨rfl, rfl, rfl, rfl, rfl, by decide +kernel⟩ ?hw ?hc
  case hw => w_witness2
  case hc =>
    refine walk_ofG (l := PySem.Challenge.rw_landparcels_k91_whole_where_to_meet) (n := 63) (k := 9) (x := "script") rfl (by decide) (by kernel_rfl) ⟨rfl, by decide, by decide⟩ ?F
    intro w mg fa' h Y G hmg0
    obtain ⟨K, KX, c⟩ := Y
    have hmg : mg ("law" : PySem.Str) = some (.ref fa') := by
      have e : (HandSHeadRun.topDef RW0.prog 38).name = ("law" : PySem.Str) := by kernel_rfl
      rw [← e]
      exact hmg0
    obtain ⟨fd, hb, hF⟩ := facts (P := (PySem.Challenge.rw_landparcels_k91_whole_where_to_meet).prog) (w := w) KX G hmg c.t.d c.more pl
    have mem : (("law", none) : He.Defn) ∈ TF0 := List.mem_singleton.mpr rfl
    exact ⟨K, fd, spLawT K 63 (some ((He.cT K ("law", none)).2, lq)), _, _, KX, c.empty _ mem, c.out _ mem, PySem.W.codeHd_of_K KX (c.hd _ mem), hb, fun H a ns hl hH hS => ⟨⟨a, ns, rfl, hl, hS, fun v H' e => e⟩, fun P q e => by cases e; exact hH⟩, hF⟩
end Lw
end Mc
end
theorem PySem.Challenge.cw_landparcels_k91_whole_where_to_meet_holds : PySem.Challenge.rw_landparcels_k91_whole_where_to_meet.Holds :=
  Mc.Lw.holds (by exact Mc.Lw.plain91)
