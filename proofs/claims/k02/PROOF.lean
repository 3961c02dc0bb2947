import PyProof.Rows.All
import Wide.All
import OpenK.AllK
import Wide.FinOn
import HandS.ForMost
import HandS.ForExc
import HandS.Walk
import HandS.Flow
import HandS.Defaults
import HandS.HeadHook2
import KE.DataEq
import KE.DataAny
import HandS.Star
import HandS.Style
import HandS.TupAny
import HandS.IsInst
import HandS.RaiseMore
import PyProof.ReprReads
import HandS.MakeKw
import PyProof.ReprRoads
import HandS.Small
import HandS.Zip
import KE.KDictZip
import KE.GoesMore
import KE.KCallOwn
import HandS.Ends
import HandS.HeadEnd
import HandS.EndBits
import HandS.Text
import PyProof.Rows.RegFStrParts
import KE.KStateDown
import HandS.Head0
import HandS.Head1
import HandS.Head2
import HandS.HeadHook1
import PySem.Challenge.RW_oddrings_k02_tables_made
set_option Elab.async false
set_option linter.all false
set_option maxRecDepth 100000
set_option maxHeartbeats 0
/-! # A pure evaluator: data, store, results; what they say of the abstract heap -/
namespace Ev
open PySem L2

/-- data as trees; ref: a mutable cell of the store -/
inductive D where
  | non | bl (b : Bool) | int (i : Int) | str (s : Str)
  | tup (xs : List D) | lst (xs : List D)
  | ins (c : Str) (fs : List (Str × D))
  | ref (i : Nat)
  | fn (x : Str)
  | scr (ns : List Int)
  | slf
  deriving Inhabited

inductive Cell where
  | lst (xs : List D)
  | ins (c : Str) (fs : List (Str × D))
  deriving Inhabited

abbrev Store := List (Option Cell)
abbrev En := List (Option D)
/-- an exception: its class, its attributes -/
structure Xc where
  cls : Str
  fs : List (Str × D)

inductive Res (α : Type) where
  | ok (a : α) (S : Store)
  | exc (x : Xc) (S : Store)
  | bad

abbrev M (α : Type) := Store → Res α
@[reducible] def M.pure {α : Type} (a : α) : M α := fun S => .ok a S
def M.bind {α β : Type} (m : M α) (f : α → M β) : M β := fun S => match m S with
  | .ok a S' => f a S'
  | .exc x S' => .exc x S'
  | .bad => .bad
def M.bad {α : Type} : M α := fun _ => .bad
instance : Monad M where
  pure := M.pure
  bind := M.bind

abbrev ME := En → M D
abbrev MT := En → M Bool
abbrev MA := En → M (List D)

inductive Fl where
  | nx (δ : En) (S : Store)
  | rt (d : D) (S : Store)
  | bk (δ : En) (S : Store)
  | ct (δ : En) (S : Store)
  | exc (x : Xc) (δ : En) (S : Store)
  | bad
abbrev MS := En → Store → Fl
abbrev MG := D → En → M En

/-! ### worlds -/
/-- F: what is frozen; m: where the cells stand; P: what is private, kept as it is by all else; sf: the instance that an __init__ is filling -/
structure Wd where
  F : Hp
  m : List Addr
  P : Hp
  sf : Option Addr
structure Wd.lf (W W' : Wd) : Prop where
  f : ∀ a o, W.F a = some o → W'.F a = some o
  sq : W'.sf = W.sf
  mm : ∃ t, W'.m = W.m ++ t
structure Wd.le (W W' : Wd) : Prop extends toLf : Wd.lf W W' where
  pp : W'.P = W.P
instance {W W' : Wd} : CoeOut (W.le W') (W.lf W') := ⟨fun h => h.toLf⟩
theorem Wd.le_refl (W : Wd) : W.le W := ⟨⟨fun _ _ h => h, rfl, [], by simp⟩, rfl⟩
theorem Wd.lf.trans {A B C : Wd} (h : A.lf B) (g : B.lf C) : A.lf C := by
  obtain ⟨h1, h0, t, h2⟩ := h
  obtain ⟨g1, g0, u, g2⟩ := g
  exact ⟨fun a o e => g1 a o (h1 a o e), g0.trans h0, t ++ u, by rw [g2, h2, List.append_assoc]⟩
theorem Wd.le.trans {A B C : Wd} (h : A.le B) (g : B.le C) : A.le C := ⟨h.toLf.trans g.toLf, g.pp.trans h.pp⟩
theorem Wd.lf.get {A B : Wd} (h : A.lf B) {i : Nat} {a : Addr} (e : A.m[i]? = some a) : B.m[i]? = some a := by
  obtain ⟨_, _, t, h2⟩ := h
  rw [h2, List.getElem?_append_left (List.getElem?_eq_some_iff.mp e).1]
  exact e

mutual
inductive Rep (K : PySem.W.Frag) (W : Wd) : D → V → Prop where
  | non : Rep K W .non .non
  | bl (b : Bool) : Rep K W (.bl b) (.bl b)
  | int (i : Int) : Rep K W (.int i) (.int i)
  | str (x : Str) : Rep K W (.str x) (.str x)
  | tup {a : Addr} {vs : List V} {ds : List D} : SqT K W.F a vs → Reps K W ds vs → Rep K W (.tup ds) (.ref a)
  | lst {a : Addr} {vs : List V} {ds : List D} : W.F a = some (.lst vs) → Reps K W ds vs → Rep K W (.lst ds) (.ref a)
  | ins {a dx : Addr} {c : Str} {vfs : List (Str × V)} {fs : List (Str × D)} : W.F a = some (.ins (He.ga K c) dx vfs) → vfs.map (·.1) = fs.map (·.1) → Reps K W (fs.map (·.2)) (vfs.map (·.2)) → Rep K W (.ins c fs) (.ref a)
  | ref {i : Nat} {a : Addr} : W.m[i]? = some a → Rep K W (.ref i) (.ref a)
  | fn (x : Str) : Rep K W (.fn x) (.ref (He.ga K x))
  | scr {a : Addr} {ns : List Int} : SqL K W.F a (ns.map V.int) → Rep K W (.scr ns) (.ref a)
inductive Reps (K : PySem.W.Frag) (W : Wd) : List D → List V → Prop where
  | nil : Reps K W [] []
  | cons {d : D} {v : V} {ds : List D} {vs : List V} : Rep K W d v → Reps K W ds vs → Reps K W (d :: ds) (v :: vs)
end

section
variable {K : PySem.W.Frag} {W W' : Wd}
theorem rd_mono (h : W.lf W') {a : Addr} {u : HO} (r : Rd W.F a u) : Rd W'.F a u := by
  rcases r with r | ⟨o, r⟩
  · exact .inl (h.f _ _ r)
  · exact .inr ⟨o, h.f _ _ r⟩
theorem sqL_mono (h : W.lf W') {a : Addr} {xs : List V} (r : SqL K W.F a xs) : SqL K W'.F a xs := by
  rcases r with r | r
  · exact .inl (rd_mono h r)
  · exact .inr r
theorem sqT_mono (h : W.lf W') {a : Addr} {xs : List V} (r : SqT K W.F a xs) : SqT K W'.F a xs := by
  rcases r with r | r
  · exact .inl (rd_mono h r)
  · exact .inr r
mutual
theorem Rep.mono (h : W.lf W') : ∀ {d : D} {v : V}, Rep K W d v → Rep K W' d v
  | _, _, .non => .non
  | _, _, .bl b => .bl b
  | _, _, .int i => .int i
  | _, _, .str x => .str x
  | _, _, .tup q r => .tup (sqT_mono h q) (Reps.mono h r)
  | _, _, .lst q r => .lst (h.f _ _ q) (Reps.mono h r)
  | _, _, .scr q => .scr (sqL_mono h q)
  | _, _, .ins e k r => .ins (h.f _ _ e) k (Reps.mono h r)
  | _, _, .ref e => .ref (h.get e)
  | _, _, .fn x => .fn x
theorem Reps.mono (h : W.lf W') : ∀ {ds : List D} {vs : List V}, Reps K W ds vs → Reps K W' ds vs
  | _, _, .nil => .nil
  | _, _, .cons r t => .cons (Rep.mono h r) (Reps.mono h t)
end
theorem Reps.length : ∀ {ds : List D} {vs : List V}, Reps K W ds vs → ds.length = vs.length
  | _, _, .nil => rfl
  | _, _, .cons _ t => congrArg Nat.succ (Reps.length t)
theorem Reps.get : ∀ {ds : List D} {vs : List V} {i : Nat} {d : D}, Reps K W ds vs → ds[i]? = some d → ∃ v, vs[i]? = some v ∧ Rep K W d v
  | _, _, _, _, .nil, e => by simp at e
  | _, _, 0, _, .cons r _, e => by simp at e; subst e; exact ⟨_, rfl, r⟩
  | _, _, i + 1, _, .cons _ t, e => by
    obtain ⟨v, e1, r⟩ := Reps.get (i := i) t (by simpa using e)
    exact ⟨v, by simpa using e1, r⟩
theorem Reps.get' : ∀ {ds : List D} {vs : List V} {i : Nat} {v : V}, Reps K W ds vs → vs[i]? = some v → ∃ d, ds[i]? = some d ∧ Rep K W d v
  | _, _, _, _, .nil, e => by simp at e
  | _, _, 0, _, .cons r _, e => by simp at e; subst e; exact ⟨_, rfl, r⟩
  | _, _, i + 1, _, .cons _ t, e => by
    obtain ⟨v, e1, r⟩ := Reps.get' (i := i) t (by simpa using e)
    exact ⟨v, by simpa using e1, r⟩
theorem Reps.append : ∀ {ds es : List D} {vs us : List V}, Reps K W ds vs → Reps K W es us → Reps K W (ds ++ es) (vs ++ us)
  | _, _, _, _, .nil, s => s
  | _, _, _, _, .cons r t, s => .cons r (Reps.append t s)
theorem Reps.set {d : D} {v : V} (r : Rep K W d v) : ∀ {ds : List D} {vs : List V} (i : Nat), Reps K W ds vs → Reps K W (ds.set i d) (vs.set i v)
  | _, _, _, .nil => .nil
  | _, _, 0, .cons _ t => .cons r t
  | _, _, i + 1, .cons q t => .cons q (Reps.set r i t)
theorem Reps.take : ∀ {ds : List D} {vs : List V} (n : Nat), Reps K W ds vs → Reps K W (ds.take n) (vs.take n)
  | _, _, 0, _ => .nil
  | _, _, _ + 1, .nil => .nil
  | _, _, n + 1, .cons r t => .cons r (Reps.take n t)
theorem Reps.drop : ∀ {ds : List D} {vs : List V} (n : Nat), Reps K W ds vs → Reps K W (ds.drop n) (vs.drop n)
  | _, _, 0, r => r
  | _, _, _ + 1, .nil => .nil
  | _, _, n + 1, .cons _ t => Reps.drop n t
theorem Reps.reverse {ds : List D} {vs : List V} (r : Reps K W ds vs) : Reps K W ds.reverse vs.reverse := by
  induction ds generalizing vs with
  | nil => cases r; exact .nil
  | cons d ds ih =>
    cases r with
    | cons a b =>
      rw [List.reverse_cons, List.reverse_cons]
      exact (ih b).append (.cons a .nil)
end

/-- what stands at a cell's address -/
def CellAt (K : PySem.W.Frag) (W : Wd) (H : Hp) (a : Addr) : Cell → Prop
  | .lst ds => ∃ vs, H a = some (.lst vs) ∧ Reps K W ds vs
  | .ins c fs => ∃ dx vfs, H a = some (.ins (He.ga K c) dx vfs) ∧ vfs.map (·.1) = fs.map (·.1) ∧ Reps K W (fs.map (·.2)) (vfs.map (·.2))
theorem CellAt.mono {K : PySem.W.Frag} {W W' : Wd} {H : Hp} {a : Addr} (h : W.lf W') : ∀ {c : Cell}, CellAt K W H a c → CellAt K W' H a c
  | .lst _, ⟨vs, e, r⟩ => ⟨vs, e, r.mono h⟩
  | .ins _ _, ⟨dx, vfs, e, k, r⟩ => ⟨dx, vfs, e, k, r.mono h⟩
theorem CellAt.there {K : PySem.W.Frag} {W : Wd} {H : Hp} {a : Addr} : ∀ {c : Cell}, CellAt K W H a c → ∃ o, H a = some o
  | .lst _, ⟨vs, e, r⟩ => ⟨_, e⟩
  | .ins _ _, ⟨dx, vfs, e, k, r⟩ => ⟨_, e⟩
theorem CellAt.eqH {K : PySem.W.Frag} {W : Wd} {H H' : Hp} {a : Addr} (h : H' a = H a) : ∀ {c : Cell}, CellAt K W H a c → CellAt K W H' a c
  | .lst _, ⟨vs, e, r⟩ => ⟨vs, h.trans e, r⟩
  | .ins _ _, ⟨dx, vfs, e, k, r⟩ => ⟨dx, vfs, h.trans e, k, r⟩

structure Good (K : PySem.W.Frag) (W : Wd) (S : Store) (H : Hp) : Prop where
  sub : ∀ a o, W.F a = some o → H a = some o
  len : W.m.length = S.length
  cell : ∀ (i : Nat) (c : Cell), S[i]? = some (some c) → ∃ a, W.m[i]? = some a ∧ W.F a = none ∧ W.P a = none ∧ CellAt K W H a c
  inj : ∀ (i j : Nat) (a : Addr) (c c' : Cell), S[i]? = some (some c) → S[j]? = some (some c') → W.m[i]? = some a → W.m[j]? = some a → i = j
  prv : ∀ a o, W.P a = some o → H a = some o ∧ W.F a = none

section
variable {K : PySem.W.Frag} {W : Wd} {S : Store} {H : Hp}
theorem rd_sub {F H : Hp} (s : ∀ a o, F a = some o → H a = some o) {a : Addr} {u : HO} (r : Rd F a u) : Rd H a u := by
  rcases r with r | ⟨o, r⟩
  · exact .inl (s _ _ r)
  · exact .inr ⟨o, s _ _ r⟩
theorem Good.sqL (g : Good K W S H) {a : Addr} {xs : List V} (r : SqL K W.F a xs) : SqL K H a xs := by
  rcases r with r | r
  · exact .inl (rd_sub g.sub r)
  · exact .inr r
theorem Good.sqT (g : Good K W S H) {a : Addr} {xs : List V} (r : SqT K W.F a xs) : SqT K H a xs := by
  rcases r with r | r
  · exact .inl (rd_sub g.sub r)
  · exact .inr r
/-- a new frozen object -/
def Wd.add (W : Wd) (p : Addr) (o : HO) : Wd := ⟨upd W.F p o, W.m, W.P, W.sf⟩
theorem Good.free (g : Good K W S H) {p : Addr} (n : H p = none) : W.F p = none := by
  cases e : W.F p with
  | none => rfl
  | some o => rw [g.sub p o e] at n; cases n
theorem Good.freeP (g : Good K W S H) {p : Addr} (n : H p = none) : W.P p = none := by
  cases e : W.P p with
  | none => rfl
  | some o => rw [(g.prv p o e).1] at n; cases n
theorem Good.add_le (g : Good K W S H) {p : Addr} {o : HO} (n : H p = none) : W.le (W.add p o) :=
  ⟨⟨fun a u e => by show upd W.F p o a = _; rw [upd_ne (ne_of_none e (g.free n))]; exact e, rfl, [], by simp [Wd.add]⟩, rfl⟩
theorem Good.add (g : Good K W S H) {p : Addr} {o : HO} (n : H p = none) : Good K (W.add p o) S (upd H p o) where
  sub := fun a u e => by
    have e1 : upd W.F p o a = some u := e
    by_cases h : a = p
    · subst h; rw [upd_same] at e1 ⊢; exact e1
    · rw [upd_ne h] at e1 ⊢; exact g.sub a u e1
  len := g.len
  cell := fun i c e => by
    obtain ⟨a, e1, e2, e2', e3⟩ := g.cell i c e
    obtain ⟨u, e4⟩ := e3.there
    have ne : a ≠ p := ne_of_none e4 n
    exact ⟨a, e1, by show upd W.F p o a = _; rw [upd_ne ne]; exact e2, e2', (e3.eqH (upd_ne ne)).mono (g.add_le n).toLf⟩
  inj := g.inj
  prv := fun a u e => by
    obtain ⟨h1, h2⟩ := g.prv a u e
    have ne : a ≠ p := ne_of_none h1 n
    exact ⟨by rw [upd_ne ne]; exact h1, by show upd W.F p o a = _; rw [upd_ne ne]; exact h2⟩
/-- a new cell -/
def Wd.addC (W : Wd) (p : Addr) : Wd := ⟨W.F, W.m ++ [p], W.P, W.sf⟩
theorem Wd.addC_le (W : Wd) (p : Addr) : W.le (W.addC p) := ⟨⟨fun _ _ h => h, rfl, [p], rfl⟩, rfl⟩
theorem Good.addC (g : Good K W S H) {p : Addr} {o : HO} {c : Cell} (n : H p = none) (hc : CellAt K (W.addC p) (upd H p o) p c) : Good K (W.addC p) (S ++ [some c]) (upd H p o) where
  sub := fun a u e => by
    rw [upd_ne (ne_of_none (g.sub a u e) n)]
    exact g.sub a u e
  len := by simp [Wd.addC, g.len]
  cell := fun i c' e => by
    by_cases h : i < S.length
    · rw [List.getElem?_append_left h] at e
      obtain ⟨a, e1, e2, e2', e3⟩ := g.cell i c' e
      obtain ⟨u, e4⟩ := e3.there
      exact ⟨a, (Wd.addC_le W p).get e1, e2, e2', (e3.eqH (upd_ne (ne_of_none e4 n))).mono (Wd.addC_le W p).toLf⟩
    · have hi : i = S.length := by
        have := (List.getElem?_eq_some_iff.mp e).1
        simp at this; omega
      subst hi
      simp at e
      subst e
      exact ⟨p, by simp [Wd.addC, ← g.len], g.free n, g.freeP n, hc⟩
  inj := fun i j a c1 c2 e1 e2 h1 h2 => by
    have old : ∀ {i : Nat} {a : Addr} {c' : Cell}, i < S.length → (S ++ [some c])[i]? = some (some c') → (W.addC p).m[i]? = some a → W.m[i]? = some a ∧ S[i]? = some (some c') ∧ a ≠ p := fun {i a c'} hi e h => by
      rw [List.getElem?_append_left hi] at e
      obtain ⟨a', q1, q2, _, q3⟩ := g.cell i _ e
      have : (W.addC p).m[i]? = some a' := (Wd.addC_le W p).get q1
      rw [h] at this
      cases this
      obtain ⟨u, q4⟩ := q3.there
      exact ⟨q1, e, ne_of_none q4 n⟩
    have last : ∀ {i : Nat} {a : Addr} {c' : Cell}, ¬ i < S.length → (S ++ [some c])[i]? = some (some c') → (W.addC p).m[i]? = some a → i = S.length ∧ a = p := fun {i a c'} hi e h => by
      have hi' : i = S.length := by
        have := (List.getElem?_eq_some_iff.mp e).1
        simp at this; omega
      subst hi'
      refine ⟨rfl, ?_⟩
      simp [Wd.addC, ← g.len] at h
      exact h.symm
    by_cases hi : i < S.length
    · obtain ⟨a1, a2, a3⟩ := old hi e1 h1
      by_cases hj : j < S.length
      · obtain ⟨b1, b2, b3⟩ := old hj e2 h2
        exact g.inj i j a _ _ a2 b2 a1 b1
      · obtain ⟨b1, b2⟩ := last hj e2 h2
        exact absurd b2 a3
    · obtain ⟨a1, a2⟩ := last hi e1 h1
      by_cases hj : j < S.length
      · obtain ⟨b1, b2, b3⟩ := old hj e2 h2
        exact absurd a2 b3
      · obtain ⟨b1, b2⟩ := last hj e2 h2
        rw [a1, b1]
  prv := fun a u e => by
    obtain ⟨h1, h2⟩ := g.prv a u e
    exact ⟨by rw [upd_ne (ne_of_none h1 n)]; exact h1, h2⟩
/-- a cell is written -/
theorem Good.put (g : Good K W S H) {i : Nat} {a : Addr} {c c' : Cell} {o : HO} (e : S[i]? = some (some c)) (h : W.m[i]? = some a) (hc : CellAt K W (upd H a o) a c') : Good K W (S.set i (some c')) (upd H a o) := by
  obtain ⟨a', z1, z2, z3, z4⟩ := g.cell i c e
  rw [h] at z1; cases z1
  refine ⟨fun b u q => ?_, by rw [List.length_set]; exact g.len, fun j c1 q => ?_, fun j k b c1 c2 q1 q2 h1 h2 => ?_, fun b u q => ?_⟩
  · have ne : b ≠ a := fun z => by subst z; rw [q] at z2; cases z2
    rw [upd_ne ne]
    exact g.sub b u q
  · by_cases hj : i = j
    · subst hj
      rw [List.getElem?_set_self (List.getElem?_eq_some_iff.mp e).1] at q
      cases q
      exact ⟨a, h, z2, z3, hc⟩
    · rw [List.getElem?_set_ne hj] at q
      obtain ⟨b, q1, q2, q2', q3⟩ := g.cell j c1 q
      have ne : b ≠ a := fun z => by subst z; exact hj (g.inj i j b _ _ e q h q1)
      exact ⟨b, q1, q2, q2', q3.eqH (upd_ne ne)⟩
  · have old : ∀ {j : Nat} {c1 : Cell}, (S.set i (some c'))[j]? = some (some c1) → ∃ c2, S[j]? = some (some c2) := fun {j c1} q => by
      by_cases hj : i = j
      · subst hj; exact ⟨c, e⟩
      · rw [List.getElem?_set_ne hj] at q; exact ⟨_, q⟩
    obtain ⟨d1, p1⟩ := old q1
    obtain ⟨d2, p2⟩ := old q2
    exact g.inj j k b d1 d2 p1 p2 h1 h2
  · have ne : b ≠ a := fun z => by subst z; rw [q] at z3; cases z3
    obtain ⟨h1, h2⟩ := g.prv b u q
    exact ⟨by rw [upd_ne ne]; exact h1, h2⟩
/-- a cell is frozen -/
theorem Good.freeze (g : Good K W S H) {i : Nat} {a : Addr} {c : Cell} {o : HO} (e : S[i]? = some (some c)) (h : W.m[i]? = some a) (ho : H a = some o) : Good K (W.add a o) (S.set i none) H ∧ W.le (W.add a o) := by
  obtain ⟨a', q1, fa, pa, q3⟩ := g.cell i c e
  rw [h] at q1; cases q1
  have le : W.le (W.add a o) := ⟨⟨fun b u q => by
    have ne : b ≠ a := fun z => by subst z; rw [q] at fa; cases fa
    show upd W.F a o b = _
    rw [upd_ne ne]; exact q, rfl, [], by simp [Wd.add]⟩, rfl⟩
  have old : ∀ {j : Nat} {c1 : Cell}, (S.set i none)[j]? = some (some c1) → i ≠ j ∧ S[j]? = some (some c1) := fun {j c1} q => by
    by_cases hj : i = j
    · subst hj
      rw [List.getElem?_set_self (List.getElem?_eq_some_iff.mp e).1] at q
      cases q
    · rw [List.getElem?_set_ne hj] at q; exact ⟨hj, q⟩
  refine ⟨⟨fun b u q => ?_, by rw [List.length_set]; exact g.len, fun j c1 q => ?_, fun j k b c1 c2 q1 q2 h1 h2 => ?_, fun b u q => ?_⟩, le⟩
  · have q' : upd W.F a o b = some u := q
    by_cases hb : b = a
    · subst hb; rw [upd_same] at q'; cases q'; exact ho
    · rw [upd_ne hb] at q'; exact g.sub b u q'
  · obtain ⟨hj, q'⟩ := old q
    obtain ⟨b, p1, p2, p2', p3⟩ := g.cell j c1 q'
    have ne : b ≠ a := fun z => by subst z; exact hj (g.inj i j b _ _ e q' h p1)
    exact ⟨b, p1, by show upd W.F a o b = _; rw [upd_ne ne]; exact p2, p2', p3.mono le.toLf⟩
  · exact g.inj j k b c1 c2 (old q1).2 (old q2).2 h1 h2
  · have ne : b ≠ a := fun z => by subst z; have q' : W.P b = some u := q; rw [q'] at pa; cases pa
    obtain ⟨h1, h2⟩ := g.prv b u q
    exact ⟨h1, by show upd W.F a o b = _; rw [upd_ne ne]; exact h2⟩
/-- something private is laid, or changed -/
def Wd.prv (W : Wd) (p : Addr) (o : HO) : Wd := ⟨W.F, W.m, upd W.P p o, W.sf⟩
theorem Wd.prv_lf (W : Wd) (p : Addr) (o : HO) : W.lf (W.prv p o) := ⟨fun _ _ h => h, rfl, [], by simp [Wd.prv]⟩
theorem Wd.lf_prv (W : Wd) (p : Addr) (o : HO) : (W.prv p o).lf W := ⟨fun _ _ h => h, rfl, [], by simp [Wd.prv]⟩
theorem Good.toPrv (g : Good K W S H) {p : Addr} {o : HO} (hf : W.F p = none) (hm : ∀ (i : Nat) c, S[i]? = some (some c) → W.m[i]? ≠ some p) : Good K (W.prv p o) S (upd H p o) where
  sub := fun a u e => by
    have ne : a ≠ p := fun z => by subst z; have e' : W.F a = some u := e; rw [e'] at hf; cases hf
    rw [upd_ne ne]; exact g.sub a u e
  len := g.len
  cell := fun i c e => by
    obtain ⟨a, e1, e2, e3, e4⟩ := g.cell i c e
    have ne : a ≠ p := fun z => by subst z; exact hm i c e e1
    exact ⟨a, e1, e2, by show upd W.P p o a = _; rw [upd_ne ne]; exact e3, (e4.eqH (upd_ne ne)).mono (W.prv_lf p o)⟩
  inj := g.inj
  prv := fun a u e => by
    have e' : upd W.P p o a = some u := e
    by_cases h : a = p
    · subst h; rw [upd_same] at e'; cases e'; exact ⟨upd_same, hf⟩
    · rw [upd_ne h] at e' ⊢; exact g.prv a u e'
theorem Good.newPrv (g : Good K W S H) {p : Addr} {o : HO} (n : H p = none) : Good K (W.prv p o) S (upd H p o) := g.toPrv (g.free n) fun i c e h => by
  obtain ⟨a, e1, _, _, e4⟩ := g.cell i c e
  rw [h] at e1; cases e1
  obtain ⟨u, q⟩ := e4.there
  rw [n] at q; cases q
theorem Good.updPrv (g : Good K W S H) {p : Addr} {o u : HO} (n : W.P p = some u) : Good K (W.prv p o) S (upd H p o) := g.toPrv (g.prv p u n).2 fun i c e h => by
  obtain ⟨a, e1, _, e3, _⟩ := g.cell i c e
  rw [h] at e1; cases e1
  rw [n] at e3; cases e3
theorem Good.unPrv_lf (g : Good K W S H) {p : Addr} {o : HO} {P : Hp} (e : W.P = upd P p o) : W.lf ⟨upd W.F p o, W.m, P, W.sf⟩ := ⟨fun b u q => by
    have nb : b ≠ p := fun z => by subst z; rw [(g.prv b _ (by rw [e, upd_same])).2] at q; cases q
    show upd W.F p o b = _; rw [upd_ne nb]; exact q, rfl, [], by simp⟩
/-- what was private is frozen; P: the privacy around it -/
theorem Good.unPrv (g : Good K W S H) {p : Addr} {o : HO} {P : Hp} (e : W.P = upd P p o) (n : P p = none) : Good K ⟨upd W.F p o, W.m, P, W.sf⟩ S H where
  sub := fun a u q => by
    have q' : upd W.F p o a = some u := q
    by_cases h : a = p
    · subst h; rw [upd_same] at q'; cases q'; exact (g.prv a _ (by rw [e, upd_same])).1
    · rw [upd_ne h] at q'; exact g.sub a u q'
  len := g.len
  cell := fun i c q => by
    obtain ⟨a, e1, e2, e3, e4⟩ := g.cell i c q
    have ne : a ≠ p := fun z => by subst z; rw [e, upd_same] at e3; cases e3
    rw [e, upd_ne ne] at e3
    exact ⟨a, e1, by show upd W.F p o a = _; rw [upd_ne ne]; exact e2, e3, e4.mono (g.unPrv_lf e)⟩
  inj := g.inj
  prv := fun a u q => by
    have ne : a ≠ p := fun z => by subst z; have q' : P a = some u := q; rw [q'] at n; cases n
    obtain ⟨h1, h2⟩ := g.prv a u (by rw [e, upd_ne ne]; exact q)
    exact ⟨h1, by show upd W.F p o a = _; rw [upd_ne ne]; exact h2⟩
end

/-! ### environments -/
/-- what a slot holds -/
def Slt (K : PySem.W.Frag) (W : Wd) (d : D) (v : V) : Prop := Rep K W d v ∨ (d = .slf ∧ ∃ a, W.sf = some a ∧ v = .ref a)
theorem Slt.mono {K : PySem.W.Frag} {W W' : Wd} {d : D} {v : V} (h : W.lf W') (r : Slt K W d v) : Slt K W' d v := by
  rcases r with r | ⟨e, a, h1, h2⟩
  · exact .inl (r.mono h)
  · exact .inr ⟨e, a, h.sq.trans h1, h2⟩
def REnv (K : PySem.W.Frag) (W : Wd) (δ : En) (σ : St) : Prop := δ.length = σ.length ∧ ∀ (i : Nat) (d : D), δ[i]? = some (some d) → ∃ v, σ[i]? = some (some v) ∧ Slt K W d v
theorem REnv.mono {K : PySem.W.Frag} {W W' : Wd} {δ : En} {σ : St} (h : W.lf W') (r : REnv K W δ σ) : REnv K W' δ σ := ⟨r.1, fun i d e => by
  obtain ⟨v, e1, e2⟩ := r.2 i d e
  exact ⟨v, e1, e2.mono h⟩⟩
theorem REnv.set {K : PySem.W.Frag} {W : Wd} {δ : En} {σ : St} {d : D} {v : V} (r : REnv K W δ σ) (i : Nat) (q : Rep K W d v) : REnv K W (δ.set i (some d)) (σ.set i (some v)) := by
  refine ⟨by simp [r.1], fun j d' e => ?_⟩
  by_cases hj : i = j
  · subst hj
    have hi : i < δ.length := by
      have := (List.getElem?_eq_some_iff.mp e).1
      simpa using this
    rw [List.getElem?_set_self hi] at e
    cases e
    exact ⟨v, List.getElem?_set_self (by rw [← r.1]; exact hi), .inl q⟩
  · rw [List.getElem?_set_ne hj] at e
    obtain ⟨v', e1, e2⟩ := r.2 j d' e
    exact ⟨v', by rw [List.getElem?_set_ne hj]; exact e1, e2⟩

/-! ### exceptions -/
/-- how an exception lies: its class, its own dict -/
def XRep (K : PySem.W.Frag) (W : Wd) (x : Xc) (cls : Value) (d : Option Addr) : Prop :=
  cls = .ref (He.ga K x.cls) ∧ ((x.fs = [] ∧ d = none) ∨ ∃ a vfs, d = some a ∧ W.F a = some (.xd vfs) ∧ vfs.map (·.1) = x.fs.map (·.1) ∧ Reps K W (x.fs.map (·.2)) (vfs.map (·.2)))

/-! ### what a result promises -/
def okP {α β : Type} (K : PySem.W.Frag) (R : Wd → α → β → Prop) (W : Wd) (r : Res α) (σ : St) (Wx : WX) (Q : β → Hp → Prop) : Prop := match r with
  | .ok d S' => ∀ W' H' v, W.le W' → Good K W' S' H' → R W' d v → Q v H'
  | .exc x S' => ∀ W' H' cls d, W.le W' → Good K W' S' H' → XRep K W' x cls d → Wx cls d σ H'
  | .bad => False
theorem okP.mono {α β : Type} {K : PySem.W.Frag} {R : Wd → α → β → Prop} {W W1 : Wd} {r : Res α} {σ : St} {Wx : WX} {Q : β → Hp → Prop} (h : W.le W1) (p : okP K R W r σ Wx Q) : okP K R W1 r σ Wx Q := by
  cases r with
  | ok d S' => exact fun W' H' v l => p W' H' v (h.trans l)
  | exc x S' => exact fun W' H' cls d l => p W' H' cls d (h.trans l)
  | bad => exact p
/-- readings of expressions, tests, argument lists -/
def tD (K : PySem.W.Frag) (Wx : WX) (m : ME) : TE := fun σ H Q => ∃ W S δ, Good K W S H ∧ REnv K W δ σ ∧ okP K (Rep K) W (m δ S) σ Wx Q
def tDT (K : PySem.W.Frag) (Wx : WX) (m : MT) : TT := fun σ H Q => ∃ W S δ, Good K W S H ∧ REnv K W δ σ ∧ okP K (fun _ (b c : Bool) => b = c) W (m δ S) σ Wx Q
def tDA (K : PySem.W.Frag) (Wx : WX) (m : MA) : TA := fun σ H Q => ∃ W S δ, Good K W S H ∧ REnv K W δ σ ∧ okP K (Reps K) W (m δ S) σ Wx Q
def flP (K : PySem.W.Frag) (W : Wd) (r : Fl) (Wx : WX) (E : Ends) : Prop := match r with
  | .nx δ S => ∀ W' H' σ, W.le W' → Good K W' S H' → REnv K W' δ σ → E.nx σ H'
  | .rt d S => ∀ W' H' v, W.le W' → Good K W' S H' → Rep K W' d v → E.rt v H'
  | .bk δ S => ∀ W' H' σ, W.le W' → Good K W' S H' → REnv K W' δ σ → E.bk σ H'
  | .ct δ S => ∀ W' H' σ, W.le W' → Good K W' S H' → REnv K W' δ σ → E.ct σ H'
  | .exc x δ S => ∀ W' H' σ cls d, W.le W' → Good K W' S H' → REnv K W' δ σ → XRep K W' x cls d → Wx cls d σ H'
  | .bad => False
theorem flP.mono {K : PySem.W.Frag} {W W1 : Wd} {r : Fl} {Wx : WX} {E : Ends} (h : W.le W1) (p : flP K W r Wx E) : flP K W1 r Wx E := by
  cases r with
  | nx δ S => exact fun W' H' σ l => p W' H' σ (h.trans l)
  | rt d S => exact fun W' H' σ l => p W' H' σ (h.trans l)
  | bk δ S => exact fun W' H' σ l => p W' H' σ (h.trans l)
  | ct δ S => exact fun W' H' σ l => p W' H' σ (h.trans l)
  | exc x δ S => exact fun W' H' σ cls d l => p W' H' σ cls d (h.trans l)
  | bad => exact p
def tDS (K : PySem.W.Frag) (Wx : WX) (m : MS) : TS := fun E σ H => ∃ W S δ, Good K W S H ∧ REnv K W δ σ ∧ flP K W (m δ S) Wx E

theorem PE.imp {X : Cx} {e : Expr} {t t' : TE} (p : PE X e t) (h : ∀ σ H Q, t' σ H Q → t σ H Q) : PE X e t' := ⟨fun pins s σ H Q I q => p.run pins s σ H Q I (h σ H Q q)⟩
theorem PT.imp {X : Cx} {e : Expr} {t t' : TT} (p : PT X e t) (h : ∀ σ H Q, t' σ H Q → t σ H Q) : PT X e t' := ⟨fun pins s σ H Q I q => p.run pins s σ H Q I (h σ H Q q)⟩
theorem PW.imp {X : Cx} {e : Expr} {t t' : TT} (p : PW X e t) (h : ∀ σ H Q, t' σ H Q → t σ H Q) : PW X e t' := ⟨fun w pins s σ H Q I q => p.run w pins s σ H Q I (h σ H Q q)⟩
theorem PA.imp {X : Cx} {e : List Expr} {t t' : TA} (p : PA X e t) (h : ∀ σ H Q, t' σ H Q → t σ H Q) : PA X e t' := ⟨fun pos pins s σ H Q I q => p.run pos pins s σ H Q I (h σ H Q q)⟩
theorem PS.imp {X : Cx} {e : Stmt} {t t' : TS} (p : PS X e t) (h : ∀ D σ H, t' D σ H → t D σ H) : PS X e t' := ⟨fun pins s σ H D I q => p.run pins s σ H D I (h D σ H q)⟩
theorem PSs.imp {X : Cx} {e : List Stmt} {t t' : TS} (p : PSs X e t) (h : ∀ D σ H, t' D σ H → t D σ H) : PSs X e t' := ⟨fun pins s σ H D I q => p.run pins s σ H D I (h D σ H q)⟩
theorem PG.imp {X : Cx} {e : Expr} {t t' : TG} (p : PG X e t) (h : ∀ v σ H Q, t' v σ H Q → t v σ H Q) : PG X e t' := ⟨fun pins s σ H v u Q I r q => p.run pins s σ H v u Q I r (h v σ H Q q)⟩
end Ev
/-! # readings combined; names, operators, displays -/
namespace Ev
open PySem L2

/-! ### composing results -/
theorem okP.imp {α β : Type} {K : PySem.W.Frag} {R : Wd → α → β → Prop} {W : Wd} {r : Res α} {σ : St} {Wx : WX} {Q Q' : β → Hp → Prop} (p : okP K R W r σ Wx Q) (h : ∀ v H, Q v H → Q' v H) : okP K R W r σ Wx Q' := by
  cases r with
  | ok d S' => exact fun W' H' v l g r => h _ _ (p W' H' v l g r)
  | exc x S' => exact p
  | bad => exact p
theorem okP.bind {α β γ ε : Type} {K : PySem.W.Frag} {R : Wd → α → β → Prop} {R' : Wd → γ → ε → Prop} {W : Wd} {m : M α} {f : α → M γ} {S : Store} {σ : St} {Wx : WX} {Q : ε → Hp → Prop}
    (h : okP K R' W (M.bind m f S) σ Wx Q) : okP K R W (m S) σ Wx (fun v H' => ∃ W' S' a, W.le W' ∧ Good K W' S' H' ∧ R W' a v ∧ okP K R' W' (f a S') σ Wx Q) := by
  unfold M.bind at h
  cases e : m S with
  | ok a S' =>
    rw [e] at h
    exact fun W' H' v l g r => ⟨W', S', a, l, g, r, h.mono l⟩
  | exc x S' =>
    rw [e] at h
    exact h
  | bad =>
    rw [e] at h
    exact h
theorem okP.pure {α β : Type} {K : PySem.W.Frag} {R : Wd → α → β → Prop} {W : Wd} {a : α} {S : Store} {σ : St} {Wx : WX} {Q : β → Hp → Prop} {H : Hp} {v : β} (h : okP K R W (M.pure a S) σ Wx Q) (g : Good K W S H) (r : R W a v) : Q v H := h W H v W.le_refl g r

/-- a primitive operation: no exception -/
abbrev PO := Store → Option (D × Store)
def lft (p : PO) : M D := fun S => match p S with
  | some (d, S') => .ok d S'
  | none => .bad
def oV (K : PySem.W.Frag) (W : Wd) (r : Option (D × Store)) (Q : VK) : Prop := match r with
  | some (d, S') => ∀ W' H' v, W.le W' → Good K W' S' H' → Rep K W' d v → Q v H'
  | none => False
theorem okP.lft {K : PySem.W.Frag} {W : Wd} {p : PO} {S : Store} {σ : St} {Wx : WX} {Q : VK} (h : okP K (Rep K) W (lft p S) σ Wx Q) : oV K W (p S) Q := by
  unfold Ev.lft at h
  cases e : p S with
  | none =>
    rw [e] at h
    exact h
  | some r =>
    rw [e] at h
    exact h
theorem oV.val {K : PySem.W.Frag} {W : Wd} {S : Store} {d : D} {Q : VK} {H : Hp} {v : V} (h : oV K W (some (d, S)) Q) (g : Good K W S H) (r : Rep K W d v) : Q v H := h W H v W.le_refl g r
/-- a new frozen object -/
theorem oV.new {K : PySem.W.Frag} {W : Wd} {S : Store} {d : D} {Q : VK} {H : Hp} {p : Addr} {o : HO} (h : oV K W (some (d, S)) Q) (g : Good K W S H) (n : H p = none) (r : Rep K (W.add p o) d (.ref p)) : Q (.ref p) (upd H p o) :=
  h _ _ _ (g.add_le n) (g.add n) r

/-! ### values by operations -/
def rD2 (K : PySem.W.Frag) (f : D → D → PO) : R2 := fun x y H Q => ∃ W S dx dy, Good K W S H ∧ Rep K W dx x ∧ Rep K W dy y ∧ oV K W (f dx dy S) Q
def rD1 (K : PySem.W.Frag) (f : D → PO) : V → Hp → VK → Prop := fun x H Q => ∃ W S dx, Good K W S H ∧ Rep K W dx x ∧ oV K W (f dx S) Q
def rDC (K : PySem.W.Frag) (f : List D → PO) : List V → Hp → VK → Prop := fun xs H Q => ∃ W S ds, Good K W S H ∧ Reps K W ds xs ∧ oV K W (f ds S) Q

section
variable {X : Cx} {Wx : WX} {a b c e : Expr} {ma mb mc m : ME} {pos : Pos}
abbrev SE (X : Cx) (Wx : WX) (e : Expr) (m : ME) : Prop := PE X e (tD X.K Wx m)
abbrev ST (X : Cx) (Wx : WX) (e : Expr) (m : MT) : Prop := PT X e (tDT X.K Wx m)
abbrev SW (X : Cx) (Wx : WX) (e : Expr) (m : MT) : Prop := PW X e (tDT X.K Wx m)
abbrev SA (X : Cx) (Wx : WX) (e : List Expr) (m : MA) : Prop := PA X e (tDA X.K Wx m)
abbrev SS (X : Cx) (Wx : WX) (e : Stmt) (m : MS) : Prop := PS X e (tDS X.K Wx m)
abbrev SB (X : Cx) (Wx : WX) (e : List Stmt) (m : MS) : Prop := PSs X e (tDS X.K Wx m)

/-- never -/
def eBad : ME := fun _ => M.bad
theorem se_bad : SE X Wx e eBad := ⟨fun _ _ _ _ _ _ h => by obtain ⟨_, _, _, _, _, z⟩ := h; exact z.elim⟩
theorem st_bad : ST X Wx e (fun _ => M.bad) := ⟨fun _ _ _ _ _ _ h => by obtain ⟨_, _, _, _, _, z⟩ := h; exact z.elim⟩
theorem sw_bad : SW X Wx e (fun _ => M.bad) := ⟨fun _ _ _ _ _ _ _ h => by obtain ⟨_, _, _, _, _, z⟩ := h; exact z.elim⟩
theorem sa_bad {es : List Expr} : SA X Wx es (fun _ => M.bad) := ⟨fun _ _ _ _ _ _ _ h => by obtain ⟨_, _, _, _, _, z⟩ := h; exact z.elim⟩
theorem ss_bad {st : Stmt} : SS X Wx st (fun _ _ => .bad) := ⟨fun _ _ _ _ _ _ h => by obtain ⟨_, _, _, _, _, z⟩ := h; exact z.elim⟩
theorem sb_bad {st : List Stmt} : SB X Wx st (fun _ _ => .bad) := ⟨fun _ _ _ _ _ _ h => by obtain ⟨_, _, _, _, _, z⟩ := h; exact z.elim⟩

def eVar (i : Nat) : ME := fun δ => match δ[i]? with
  | some (some .slf) => M.bad
  | some (some d) => M.pure d
  | _ => M.bad
theorem se_var {i : Nat} {x : Str} (hN : X.N[i]? = some x) (hv : Vis X.env.scope x) (hd : (x == ("__debug__" : Str)) = false) (hcd : (x == ("__classdict__" : Str)) = false) : SE X Wx (.Name x pos) (eVar i) :=
  PE.imp (pe_var hN hv hd hcd) fun σ H Q ⟨W, S, δ, g, r, p⟩ => by
    unfold eVar at p
    cases q : δ[i]? with
    | none => rw [q] at p; exact p.elim
    | some o =>
      cases o with
      | none => rw [q] at p; exact p.elim
      | some d =>
        rw [q] at p
        obtain ⟨v, e1, e2⟩ := r.2 i d q
        rcases e2 with e2 | ⟨rfl, _⟩
        · exact ⟨v, e1, okP.pure (a := d) (by cases d <;> first | exact p | exact p.elim) g e2⟩
        · exact p.elim
def eC (d : D) : ME := fun _ => M.pure d
theorem se_c {d : D} {v : V} (h : PE X e (tC v)) (r : ∀ W, Rep X.K W d v) : SE X Wx e (eC d) := PE.imp h fun σ H Q ⟨W, S, δ, g, q, p⟩ => okP.pure p g (r W)
theorem se_int {i j} : SE X Wx (.Constant (.int i) j pos) (eC (.int i)) := se_c pe_int fun _ => .int i
theorem se_bl {i j} : SE X Wx (.Constant (.bool i) j pos) (eC (.bl i)) := se_c pe_bl fun _ => .bl i
theorem se_non {j} : SE X Wx (.Constant .none j pos) (eC .non) := se_c pe_non fun _ => .non
theorem se_str {i j} : SE X Wx (.Constant (.str i) j pos) (eC (.str i)) := se_c pe_str fun _ => .str i

def eOp (f : D → D → PO) (ma mb : ME) : ME := fun δ => M.bind (ma δ) fun x => M.bind (mb δ) fun y => lft (f x y)
theorem tOp_of {f : D → D → PO} (σ : St) (H : Hp) (Q : VK) (h : tD X.K Wx (eOp f ma mb) σ H Q) : tOp (rD2 X.K f) (tD X.K Wx ma) (tD X.K Wx mb) σ H Q := by
  obtain ⟨W, S, δ, g, r, p⟩ := h
  refine ⟨W, S, δ, g, r, p.bind.imp fun v H1 ⟨W1, S1, x, l1, g1, r1, p1⟩ => ⟨W1, S1, δ, g1, r.mono l1, p1.bind.imp fun v2 H2 ⟨W2, S2, y, l2, g2, r2, p2⟩ => ⟨W2, S2, x, y, g2, r1.mono l2, r2, p2.lft⟩⟩⟩
theorem se_op {op : Operator} {f : D → D → PO} (ho : OpR X (binaryOp op) (rD2 X.K f)) (ha : SE X Wx a ma) (hb : SE X Wx b mb) : SE X Wx (.BinOp a op b pos) (eOp f ma mb) := PE.imp (pe_op ho ha hb) tOp_of
theorem se_cmp {op : CmpOp} {f : D → D → PO} (ho : OpR X (compareOp op) (rD2 X.K f)) (ha : SE X Wx a ma) (hb : SE X Wx b mb) (hm : behindInMarks op b = false) : SE X Wx (.Compare a [op] [b] pos) (eOp f ma mb) := PE.imp (pe_cmpR ho ha hb hm) tOp_of
/-- a value that is a truth -/
def asB (m : M D) : M Bool := M.bind m fun d => match d with
  | .bl b => M.pure b
  | _ => M.bad
theorem okP.asB {K : PySem.W.Frag} {W : Wd} {S : Store} {m : M D} {σ : St} {Q : Bool → Hp → Prop} (h : okP K (fun _ (b c : Bool) => b = c) W (asB m S) σ Wx Q) : okP K (Rep K) W (m S) σ Wx (fun v H' => ∃ k, v = .bl k ∧ Q k H') :=
  (okP.bind (R := Rep K) h).imp fun v H1 ⟨W1, S1, d, l1, g1, r1, p1⟩ => by
    cases r1 with
    | bl b => exact ⟨b, rfl, okP.pure p1 g1 rfl⟩
    | _ => exact p1.elim
theorem okP.assoc {α β γ δ' : Type} {K : PySem.W.Frag} {R : Wd → γ → δ' → Prop} {W : Wd} {S : Store} {m : M α} {f : α → M β} {g : β → M γ} {σ : St} {Q : δ' → Hp → Prop} (h : okP K R W (M.bind (M.bind m f) g S) σ Wx Q) : okP K R W (M.bind m (fun a => M.bind (f a) g) S) σ Wx Q := by
  unfold M.bind at h ⊢
  cases e : m S with
  | ok a S' => rw [e] at h; exact h
  | exc x S' => rw [e] at h; exact h
  | bad => rw [e] at h; exact h
theorem st_cmp {op : CmpOp} {f : D → D → PO} (ho : OpR X (compareOp op) (rD2 X.K f)) (ha : SE X Wx a ma) (hb : SE X Wx b mb) (hm : behindInMarks op b = false) : ST X Wx (.Compare a [op] [b] pos) (fun δ => asB (eOp f ma mb δ)) :=
  PT.imp (pt_cmpR ho ha hb hm) fun σ H Q ⟨W, S, δ, g, r, p⟩ => tOp_of σ H _ ⟨W, S, δ, g, r, p.asB⟩

/-! chains a op b op' c -/
def eChain (f f' : D → D → PO) (ma mb mc : ME) : ME := fun δ => M.bind (ma δ) fun x => M.bind (mb δ) fun y => M.bind (lft (f x y)) fun z => match z with
  | .bl true => M.bind (mc δ) fun w => lft (f' y w)
  | .bl false => M.pure (.bl false)
  | _ => M.bad
theorem tChain_of {f f' : D → D → PO} (σ : St) (H : Hp) (Q : VK) (h : tD X.K Wx (eChain f f' ma mb mc) σ H Q) : tChain (rD2 X.K f) (rD2 X.K f') (tD X.K Wx ma) (tD X.K Wx mb) (tD X.K Wx mc) σ H Q := by
  obtain ⟨W, S, δ, g, r, p⟩ := h
  refine ⟨W, S, δ, g, r, p.bind.imp fun v H1 ⟨W1, S1, x, l1, g1, r1, p1⟩ => ⟨W1, S1, δ, g1, r.mono l1, p1.bind.imp fun v2 H2 ⟨W2, S2, y, l2, g2, r2, p2⟩ => ⟨W2, S2, x, y, g2, r1.mono l2, r2, ?_⟩⟩⟩
  have p3 := (okP.bind (R := Rep X.K) p2).lft
  cases e : f x y S2 with
  | none => rw [e] at p3; exact p3
  | some q =>
    obtain ⟨d, S3⟩ := q
    rw [e] at p3
    intro W3 H3 v3 l3 g3 r3
    obtain ⟨W4, S4, d4, l4, g4, r4, p4⟩ := p3 W3 H3 v3 l3 g3 r3
    cases r4 with
    | bl k =>
      refine ⟨k, rfl, ?_⟩
      cases k with
      | false =>
        rw [if_neg Bool.false_ne_true]
        exact okP.pure p4 g4 (.bl false)
      | true =>
        rw [if_pos rfl]
        have l04 := (l1.trans l2).trans l4
        refine ⟨W4, S4, δ, g4, r.mono l04, (okP.bind (R := Rep X.K) p4).imp fun v5 H5 ⟨W5, S5, d5, l5, g5, r5, p5⟩ => ⟨W5, S5, y, d5, g5, r2.mono (l4.trans l5), r5, p5.lft⟩⟩
    | _ => exact p4.elim
/-! truth -/
theorem reps_ints {K : PySem.W.Frag} {W : Wd} : ∀ ns : List Int, Reps K W (ns.map D.int) (ns.map V.int)
  | [] => .nil
  | n :: ns => .cons (.int n) (reps_ints ns)
/-- the items of a list that may be changed or added to another -/
def plstOf (S : Store) (d : D) : Option (List D) := match d with
  | .lst ds => some ds
  | .ref i => (match S[i]? with
    | some (some (.lst ds)) => some ds
    | _ => none)
  | _ => none
theorem plstOf_ok {K : PySem.W.Frag} {W : Wd} {S : Store} {H : Hp} {d : D} {v : V} {ds : List D} (e : plstOf S d = some ds) (g : Good K W S H) (r : Rep K W d v) : ∃ a vs, v = .ref a ∧ H a = some (.lst vs) ∧ Reps K W ds vs := by
  cases r with
  | lst q r =>
    cases e
    exact ⟨_, _, rfl, g.sub _ _ q, r⟩
  | @ref i a h =>
    simp only [plstOf] at e
    split at e
    · rename_i c hc
      cases e
      obtain ⟨a', e1, e2, _, vs, e3, e4⟩ := g.cell i _ hc
      rw [h] at e1; cases e1
      exact ⟨a, vs, rfl, e3, e4⟩
    · cases e
  | _ => cases e
def lstOf (S : Store) (d : D) : Option (List D) := match d with
  | .lst ds => some ds
  | .scr ns => some (ns.map D.int)
  | .ref i => (match S[i]? with
    | some (some (.lst ds)) => some ds
    | _ => none)
  | _ => none
theorem lstOf_ok {K : PySem.W.Frag} {W : Wd} {S : Store} {H : Hp} {d : D} {v : V} {ds : List D} (e : lstOf S d = some ds) (g : Good K W S H) (r : Rep K W d v) : ∃ a vs, v = .ref a ∧ SqL K H a vs ∧ Reps K W ds vs := by
  cases r with
  | lst q r =>
    cases e
    exact ⟨_, _, rfl, SqL.of (g.sub _ _ q), r⟩
  | scr q =>
    cases e
    exact ⟨_, _, rfl, g.sqL q, reps_ints _⟩
  | @ref i a h =>
    simp only [lstOf] at e
    split at e
    · rename_i c hc
      cases e
      obtain ⟨a', e1, e2, _, vs, e3, e4⟩ := g.cell i _ hc
      rw [h] at e1; cases e1
      exact ⟨a, vs, rfl, SqL.of e3, e4⟩
    · cases e
  | _ => cases e
/-- the items of a list, a tuple, a list cell -/
def seqOf (S : Store) (d : D) : Option (List D) := match d with
  | .tup ds => some ds
  | d => lstOf S d
theorem seqOf_ok {K : PySem.W.Frag} {W : Wd} {S : Store} {H : Hp} {d : D} {v : V} {ds : List D} (e : seqOf S d = some ds) (g : Good K W S H) (r : Rep K W d v) : ∃ a vs, v = .ref a ∧ (SqL K H a vs ∨ SqT K H a vs) ∧ Reps K W ds vs := by
  cases d with
  | tup xs =>
    cases r with
    | tup q r =>
      cases e
      exact ⟨_, _, rfl, .inr (g.sqT q), r⟩
  | lst xs => obtain ⟨a, vs, h1, h2, h3⟩ := lstOf_ok (show lstOf S (.lst xs) = some ds from e) g r; exact ⟨a, vs, h1, .inl h2, h3⟩
  | ref i => obtain ⟨a, vs, h1, h2, h3⟩ := lstOf_ok (show lstOf S (.ref i) = some ds from e) g r; exact ⟨a, vs, h1, .inl h2, h3⟩
  | scr ns => obtain ⟨a, vs, h1, h2, h3⟩ := lstOf_ok (show lstOf S (.scr ns) = some ds from e) g r; exact ⟨a, vs, h1, .inl h2, h3⟩
  | _ => cases e
def truD (S : Store) : D → Option Bool
  | .non => some false
  | .bl b => some b
  | .int i => some (i != 0)
  | .str x => if x.length ≤ sizeLine then some ((x.length : Int) != 0) else none
  | d => (seqOf S d).map fun ds => !ds.isEmpty
theorem reps_empty {K : PySem.W.Frag} {W : Wd} {ds : List D} {vs : List V} (r : Reps K W ds vs) : ds.isEmpty = vs.isEmpty := by
  cases r <;> rfl
theorem truD_ok {K : PySem.W.Frag} {W : Wd} {S : Store} {H : Hp} {d : D} {v : V} {k : Bool} (e : truD S d = some k) (g : Good K W S H) (r : Rep K W d v) : TruV K v H k := by
  have seq : ∀ {d : D}, (seqOf S d).map (fun ds => !ds.isEmpty) = some k → Rep K W d v → TruV K v H k := fun {d} e r => by
    obtain ⟨ds, e1, e2⟩ := Option.map_eq_some_iff.mp e
    obtain ⟨a, vs, rfl, h2, h3⟩ := seqOf_ok e1 g r
    rcases h2 with h2 | h2
    · exact .inl ⟨vs, h2, by rw [← reps_empty h3]; exact e2.symm⟩
    · exact .inr (.inl ⟨vs, h2, by rw [← reps_empty h3]; exact e2.symm⟩)
  cases r with
  | non => cases e; rfl
  | bl b => cases e; rfl
  | int i => cases e; rfl
  | str x =>
    simp only [truD] at e
    split at e
    · cases e; exact ⟨by assumption, rfl⟩
    · cases e
  | tup q r => exact seq (by rw [← e]; rfl) (.tup q r)
  | lst q r => exact seq (by rw [← e]; rfl) (.lst q r)
  | ref h => exact seq (by rw [← e]; rfl) (.ref h)
  | ins h1 h2 h3 => cases e
  | fn x => cases e
  | scr h => exact seq (by rw [← e]; rfl) (.scr h)
/-- a value's truth -/
def tru (m : M D) : M Bool := M.bind m fun d S => match truD S d with
  | some b => .ok b S
  | none => .bad
theorem okP.tru {K : PySem.W.Frag} {W : Wd} {S : Store} {m : M D} {σ : St} {Q : Bool → Hp → Prop} (h : okP K (fun _ (b c : Bool) => b = c) W (tru m S) σ Wx Q) : okP K (Rep K) W (m S) σ Wx (fun v H' => ∃ k, TruV K v H' k ∧ Q k H') :=
  (okP.bind (R := Rep K) h).imp fun v H1 ⟨W1, S1, d, l1, g1, r1, p1⟩ => by
    cases e : truD S1 d with
    | none => rw [e] at p1; exact p1.elim
    | some k => rw [e] at p1; exact ⟨k, truD_ok e g1 r1, p1 W1 H1 k W1.le_refl g1 rfl⟩
theorem st_truth (ha : SE X Wx a ma) (he : ∀ whole, isTrue a X.env whole = (do let v ← whole; standAt a.pos; holding [v] (truthy v))) : ST X Wx a (fun δ => tru (ma δ)) :=
  PT.imp (pt_truth ha he) fun σ H Q ⟨W, S, δ, g, r, p⟩ => ⟨W, S, δ, g, r, p.tru⟩
theorem st_chain {op op' : CmpOp} {f f' : D → D → PO} (ho : OpR X (compareOp op) (rD2 X.K f)) (ho' : OpR X (compareOp op') (rD2 X.K f')) (ha : SE X Wx a ma) (hb : SE X Wx b mb) (hc : SE X Wx c mc) (hm : lastMarks [op, op'] [b, c] = false) : ST X Wx (.Compare a [op, op'] [b, c] pos) (fun δ => asB (eChain f f' ma mb mc δ)) :=
  PT.imp (pt_chain ho ho' ha hb hc hm) fun σ H Q ⟨W, S, δ, g, r, p⟩ => tChain_of σ H _ ⟨W, S, δ, g, r, p.asB⟩
theorem se_chain {op op' : CmpOp} {f f' : D → D → PO} (ho : OpR X (compareOp op) (rD2 X.K f)) (ho' : OpR X (compareOp op') (rD2 X.K f')) (ha : SE X Wx a ma) (hb : SE X Wx b mb) (hc : SE X Wx c mc) (hm : lastMarks [op, op'] [b, c] = false) : SE X Wx (.Compare a [op, op'] [b, c] pos) (eChain f f' ma mb mc) :=
  PE.imp (pe_chain ho ho' ha hb hc hm) tChain_of
end
end Ev
/-! # and, or, not, if; displays; blocks; targets; loops -/
namespace Ev
open PySem L2
section
variable {X : Cx} {Wx : WX} {a b c e : Expr} {ma mb mc m : ME} {pos : Pos} {rest : List Expr}

/-! ### and, or, not -/
def eAnd (ma mb : ME) : ME := fun δ => M.bind (ma δ) fun x S => match truD S x with
  | some true => mb δ S
  | some false => .ok x S
  | none => .bad
def eOr (ma mb : ME) : ME := fun δ => M.bind (ma δ) fun x S => match truD S x with
  | some true => .ok x S
  | some false => mb δ S
  | none => .bad
theorem se_and (ha : SE X Wx a ma) (hb : SE X Wx (.BoolOp .And (b :: rest) pos) mb) : SE X Wx (.BoolOp .And (a :: b :: rest) pos) (eAnd ma mb) :=
  PE.imp (pe_andT ha hb) fun σ H Q ⟨W, S, δ, g, r, p⟩ => ⟨W, S, δ, g, r, (okP.bind (R := Rep X.K) p).imp fun v H1 ⟨W1, S1, x, l1, g1, r1, p1⟩ => by
    cases e : truD S1 x with
    | none => rw [e] at p1; exact p1.elim
    | some k =>
      rw [e] at p1
      refine ⟨k, truD_ok e g1 r1, ?_⟩
      cases k with
      | true => rw [if_pos rfl]; exact ⟨W1, S1, δ, g1, r.mono l1, p1⟩
      | false => rw [if_neg Bool.false_ne_true]; exact p1 W1 H1 v W1.le_refl g1 r1⟩
theorem se_or (ha : SE X Wx a ma) (hb : SE X Wx (.BoolOp .Or (b :: rest) pos) mb) : SE X Wx (.BoolOp .Or (a :: b :: rest) pos) (eOr ma mb) :=
  PE.imp (pe_orT ha hb) fun σ H Q ⟨W, S, δ, g, r, p⟩ => ⟨W, S, δ, g, r, (okP.bind (R := Rep X.K) p).imp fun v H1 ⟨W1, S1, x, l1, g1, r1, p1⟩ => by
    cases e : truD S1 x with
    | none => rw [e] at p1; exact p1.elim
    | some k =>
      rw [e] at p1
      refine ⟨k, truD_ok e g1 r1, ?_⟩
      cases k with
      | false => rw [if_neg Bool.false_ne_true]; exact ⟨W1, S1, δ, g1, r.mono l1, p1⟩
      | true => rw [if_pos rfl]; exact p1 W1 H1 v W1.le_refl g1 r1⟩
def eNot (ma : ME) : ME := fun δ => M.bind (tru (ma δ)) fun k => M.pure (.bl (!k))
theorem se_not (ha : SE X Wx a ma) : SE X Wx (.UnaryOp .Not a pos) (eNot ma) :=
  PE.imp (pe_notT ha) fun σ H Q ⟨W, S, δ, g, r, p⟩ => ⟨W, S, δ, g, r, (okP.bind (R := fun _ (b c : Bool) => b = c) p).tru.imp fun v H1 ⟨k, tk, W1, S1, k', l1, g1, ek, p1⟩ => by
    subst ek
    exact ⟨k', tk, okP.pure p1 g1 (.bl _)⟩⟩
variable {ta tb tc : MT}
def tAndM (ta tb : MT) : MT := fun δ => M.bind (ta δ) fun c => cond c (tb δ) (M.pure false)
def tOrM (ta tb : MT) : MT := fun δ => M.bind (ta δ) fun c => cond c (M.pure true) (tb δ)
def tNotM (ta : MT) : MT := fun δ => M.bind (ta δ) fun c => M.pure (!c)
theorem sw_and1 (ha : ST X Wx a ta) : SW X Wx (.BoolOp .And [a] pos) ta := pw_and1 ha
theorem sw_or1 (ha : ST X Wx a ta) : SW X Wx (.BoolOp .Or [a] pos) ta := pw_or1 ha
theorem sw_and (ha : ST X Wx a ta) (hb : SW X Wx (.BoolOp .And (b :: rest) pos) tb) : SW X Wx (.BoolOp .And (a :: b :: rest) pos) (tAndM ta tb) :=
  PW.imp (pw_and ha hb) fun σ H Q ⟨W, S, δ, g, r, p⟩ => ⟨W, S, δ, g, r, (okP.bind (R := fun _ (b c : Bool) => b = c) p).imp fun v H1 ⟨W1, S1, k, l1, g1, ek, p1⟩ => by
    subst ek
    cases k with
    | true => rw [if_pos rfl]; exact ⟨W1, S1, δ, g1, r.mono l1, p1⟩
    | false => rw [if_neg Bool.false_ne_true]; exact okP.pure p1 g1 rfl⟩
theorem sw_or (ha : ST X Wx a ta) (hb : SW X Wx (.BoolOp .Or (b :: rest) pos) tb) : SW X Wx (.BoolOp .Or (a :: b :: rest) pos) (tOrM ta tb) :=
  PW.imp (pw_or ha hb) fun σ H Q ⟨W, S, δ, g, r, p⟩ => ⟨W, S, δ, g, r, (okP.bind (R := fun _ (b c : Bool) => b = c) p).imp fun v H1 ⟨W1, S1, k, l1, g1, ek, p1⟩ => by
    subst ek
    cases k with
    | false => rw [if_neg Bool.false_ne_true]; exact ⟨W1, S1, δ, g1, r.mono l1, p1⟩
    | true => rw [if_pos rfl]; exact okP.pure p1 g1 rfl⟩
theorem st_not (ha : ST X Wx a ta) : ST X Wx (.UnaryOp .Not a pos) (tNotM ta) :=
  PT.imp (pt_not ha) fun σ H Q ⟨W, S, δ, g, r, p⟩ => ⟨W, S, δ, g, r, (okP.bind (R := fun _ (b c : Bool) => b = c) p).imp fun v H1 ⟨W1, S1, k, l1, g1, ek, p1⟩ => by
    subst ek
    exact okP.pure p1 g1 rfl⟩
def eIf (tc : MT) (ma mb : ME) : ME := fun δ => M.bind (tc δ) fun k => cond k (ma δ) (mb δ)
theorem se_if (hc : ST X Wx c tc) (ha : SE X Wx a ma) (hb : SE X Wx b mb) : SE X Wx (.IfExp c a b pos) (eIf tc ma mb) :=
  PE.imp (pe_ifExp hc ha hb) fun σ H Q ⟨W, S, δ, g, r, p⟩ => ⟨W, S, δ, g, r, (okP.bind (R := fun _ (b c : Bool) => b = c) p).imp fun v H1 ⟨W1, S1, k, l1, g1, ek, p1⟩ => by
    subst ek
    cases k with
    | true => rw [if_pos rfl]; exact ⟨W1, S1, δ, g1, r.mono l1, p1⟩
    | false => rw [if_neg Bool.false_ne_true]; exact ⟨W1, S1, δ, g1, r.mono l1, p1⟩⟩
def eUn (f : D → PO) (ma : ME) : ME := fun δ => M.bind (ma δ) fun x => lft (f x)
theorem se_un {op : UnaryOp} {f : D → PO} (ho : UnR X (unaryOp op) (rD1 X.K f)) (ha : SE X Wx a ma) : SE X Wx (.UnaryOp op a pos) (eUn f ma) :=
  PE.imp (pe_un ho ha) fun σ H Q ⟨W, S, δ, g, r, p⟩ => ⟨W, S, δ, g, r, (okP.bind (R := Rep X.K) p).imp fun v H1 ⟨W1, S1, x, l1, g1, r1, p1⟩ => ⟨W1, S1, x, g1, r1, p1.lft⟩⟩

/-! ### argument lists, displays -/
variable {es : List Expr} {mas : MA}
def aNil : MA := fun _ => M.pure []
def aCons (ma : ME) (mas : MA) : MA := fun δ => M.bind (ma δ) fun x => M.bind (mas δ) fun xs => M.pure (x :: xs)
def aStar (ma : ME) (mas : MA) : MA := fun δ => M.bind (ma δ) fun x S => match seqOf S x with
  | some xs => M.bind (mas δ) (fun ys => M.pure (xs ++ ys)) S
  | none => .bad
theorem sa_nil : SA X Wx [] aNil := PA.imp pa_nil fun σ H Q ⟨W, S, δ, g, r, p⟩ => okP.pure p g .nil
theorem sa_cons (ha : SE X Wx e ma) (hr : SA X Wx es mas) (hs : starEach (e :: es) X.env = (false, eval e X.env) :: starEach es X.env) : SA X Wx (e :: es) (aCons ma mas) :=
  PA.imp (pa_cons ha hr hs) fun σ H Q ⟨W, S, δ, g, r, p⟩ => ⟨W, S, δ, g, r, (okP.bind (R := Rep X.K) p).imp fun v H1 ⟨W1, S1, x, l1, g1, r1, p1⟩ =>
    ⟨W1, S1, δ, g1, r.mono l1, (okP.bind (R := Reps X.K) p1).imp fun vs H2 ⟨W2, S2, xs, l2, g2, r2, p2⟩ => okP.pure p2 g2 (.cons (r1.mono l2) r2)⟩⟩
theorem sa_star {q : Pos} (ha : SE X Wx e ma) (hr : SA X Wx es mas) : SA X Wx (.Starred e q :: es) (aStar ma mas) :=
  PA.imp (StX.pa_star ha hr) fun σ H Q ⟨W, S, δ, g, r, p⟩ => ⟨W, S, δ, g, r, (okP.bind (R := Rep X.K) p).imp fun v H1 ⟨W1, S1, x, l1, g1, r1, p1⟩ => by
    cases e : seqOf S1 x with
    | none => rw [e] at p1; exact p1.elim
    | some xs =>
      rw [e] at p1
      obtain ⟨a, vs, rfl, h2, h3⟩ := seqOf_ok e g1 r1
      exact ⟨a, vs, rfl, h2.symm, W1, S1, δ, g1, r.mono l1, (okP.bind (R := Reps X.K) p1).imp fun us H2 ⟨W2, S2, ys, l2, g2, r2, p2⟩ => okP.pure p2 g2 ((h3.mono l2).append r2)⟩⟩
/-- a new frozen list, tuple; a new list cell -/
def newT (xs : List D) : PO := fun S => if xs.length ≤ sizeLine then some (.tup xs, S) else none
def newL (xs : List D) : PO := fun S => if xs.length ≤ sizeLine then some (.lst xs, S) else none
def newC (xs : List D) : PO := fun S => if xs.length ≤ sizeLine then some (.ref S.length, S ++ [some (.lst xs)]) else none
theorem newT_ok {K : PySem.W.Frag} {W : Wd} {S : Store} {H : Hp} {xs : List D} {vs : List V} {Q : VK} (p : oV K W (newT xs S) Q) (g : Good K W S H) (r : Reps K W xs vs) : vs.length ≤ sizeLine ∧ ∀ a, H a = none → Q (.ref a) (upd H a (.tup vs)) := by
  unfold newT at p
  split at p
  · rename_i hl
    exact ⟨by rw [← r.length]; exact hl, fun a n => p.new g n (.tup (SqT.of upd_same) (r.mono (g.add_le n).toLf))⟩
  · exact p.elim
theorem newL_ok {K : PySem.W.Frag} {W : Wd} {S : Store} {H : Hp} {xs : List D} {vs : List V} {Q : VK} (p : oV K W (newL xs S) Q) (g : Good K W S H) (r : Reps K W xs vs) : vs.length ≤ sizeLine ∧ ∀ a, H a = none → Q (.ref a) (upd H a (.lst vs)) := by
  unfold newL at p
  split at p
  · rename_i hl
    exact ⟨by rw [← r.length]; exact hl, fun a n => p.new g n (.lst upd_same (r.mono (g.add_le n).toLf))⟩
  · exact p.elim
theorem newC_ok {K : PySem.W.Frag} {W : Wd} {S : Store} {H : Hp} {xs : List D} {vs : List V} {Q : VK} (p : oV K W (newC xs S) Q) (g : Good K W S H) (r : Reps K W xs vs) : vs.length ≤ sizeLine ∧ ∀ a, H a = none → Q (.ref a) (upd H a (.lst vs)) := by
  unfold newC at p
  split at p
  · rename_i hl
    refine ⟨by rw [← r.length]; exact hl, fun a n => p _ _ _ (Wd.addC_le W a) (g.addC n ⟨vs, upd_same, r.mono (Wd.addC_le W a)⟩) (.ref ?_)⟩
    simp [Wd.addC, ← g.len]
  · exact p.elim
def eTup (mas : MA) : ME := fun δ => M.bind (mas δ) fun xs => lft (newT xs)
def eLst (mas : MA) : ME := fun δ => M.bind (mas δ) fun xs => lft (newL xs)
def eLstC (mas : MA) : ME := fun δ => M.bind (mas δ) fun xs => lft (newC xs)
theorem se_tup {k : Nat} (h : SA X Wx es mas) : SE X Wx (.Tuple es k pos) (eTup mas) :=
  PE.imp (pe_tup h) fun σ H Q ⟨W, S, δ, g, r, p⟩ => ⟨W, S, δ, g, r, (okP.bind (R := Reps X.K) p).imp fun vs H1 ⟨W1, S1, xs, l1, g1, r1, p1⟩ => newT_ok p1.lft g1 r1⟩
theorem se_lst (h : SA X Wx es mas) : SE X Wx (.List es pos) (eLst mas) :=
  PE.imp (pe_lst h) fun σ H Q ⟨W, S, δ, g, r, p⟩ => ⟨W, S, δ, g, r, (okP.bind (R := Reps X.K) p).imp fun vs H1 ⟨W1, S1, xs, l1, g1, r1, p1⟩ => newL_ok p1.lft g1 r1⟩
theorem se_lstC (h : SA X Wx es mas) : SE X Wx (.List es pos) (eLstC mas) :=
  PE.imp (pe_lst h) fun σ H Q ⟨W, S, δ, g, r, p⟩ => ⟨W, S, δ, g, r, (okP.bind (R := Reps X.K) p).imp fun vs H1 ⟨W1, S1, xs, l1, g1, r1, p1⟩ => newC_ok p1.lft g1 r1⟩

/-! ### calls of built-ins by values -/
def eCallV (f : List D → PO) (mas : MA) : ME := fun δ => M.bind (mas δ) fun xs => lft (f xs)
theorem tCB_of {f : List D → PO} (σ : St) (H : Hp) (Q : VK) (h : tD X.K Wx (eCallV f mas) σ H Q) : tCB (rDC X.K f) (tDA X.K Wx mas) σ H Q := by
  obtain ⟨W, S, δ, g, r, p⟩ := h
  exact ⟨W, S, δ, g, r, (okP.bind (R := Reps X.K) p).imp fun vs H1 ⟨W1, S1, xs, l1, g1, r1, p1⟩ => ⟨W1, S1, xs, g1, r1, p1.lft⟩⟩

/-! ### blocks -/
variable {st : Stmt} {sts : List Stmt} {ms mt : MS}
def sNext : MS := fun δ S => .nx δ S
def sSeq (ms mt : MS) : MS := fun δ S => match ms δ S with
  | .nx δ' S' => mt δ' S'
  | r => r
theorem sb_nil : SB X Wx [] sNext := PSs.imp pss_nil fun D σ H ⟨W, S, δ, g, r, p⟩ => p W H σ W.le_refl g r
theorem flP_seq {K : PySem.W.Frag} {W : Wd} {δ : En} {S : Store} {D : Ends} (p : flP K W (sSeq ms mt δ S) Wx D) : flP K W (ms δ S) Wx { D with nx := tDS K Wx mt D } := by
  unfold sSeq at p
  cases e : ms δ S with
  | nx δ' S' =>
    rw [e] at p
    exact fun W' H' σ' l g' r' => ⟨W', S', δ', g', r', p.mono l⟩
  | rt d S' => rw [e] at p; exact p
  | bk δ' S' => rw [e] at p; exact p
  | ct δ' S' => rw [e] at p; exact p
  | exc x δ' S' => rw [e] at p; exact p
  | bad => rw [e] at p; exact p
theorem sb_cons (h1 : SS X Wx st ms) (h2 : SB X Wx sts mt) : SB X Wx (st :: sts) (sSeq ms mt) :=
  PSs.imp (pss_cons h1 h2) fun D σ H ⟨W, S, δ, g, r, p⟩ => ⟨W, S, δ, g, r, flP_seq p⟩
theorem sb_one (h1 : SS X Wx st ms) : SB X Wx [st] ms := pss_one h1
def ofE {α : Type} (m : M α) (δ : En) (k : α → Store → Fl) (S : Store) : Fl := match m S with
  | .ok a S' => k a S'
  | .exc x S' => .exc x δ S'
  | .bad => .bad
theorem flP_ofE {α β : Type} {K : PySem.W.Frag} {R : Wd → α → β → Prop} {W : Wd} {m : M α} {δ : En} {S : Store} {k : α → Store → Fl} {D : Ends} {σ : St} (r : REnv K W δ σ) (p : flP K W (ofE m δ k S) Wx D) :
    okP K R W (m S) σ Wx (fun v H' => ∃ W' S' a, W.le W' ∧ Good K W' S' H' ∧ R W' a v ∧ flP K W' (k a S') Wx D) := by
  unfold ofE at p
  cases e : m S with
  | ok a S' =>
    rw [e] at p
    exact fun W' H' v l g' r' => ⟨W', S', a, l, g', r', p.mono l⟩
  | exc x S' =>
    rw [e] at p
    exact fun W' H' cls d l g' x' => p W' H' σ cls d l g' (r.mono l) x'
  | bad => rw [e] at p; exact p
def sExpr (m : ME) : MS := fun δ => ofE (m δ) δ fun _ S => .nx δ S
theorem ss_expr (he : SE X Wx e m) (hs : swapsWith e none pos.line X.env = pure false) : SS X Wx (.Expr e pos) (sExpr m) :=
  PS.imp (ps_expr he hs) fun D σ H ⟨W, S, δ, g, r, p⟩ => ⟨W, S, δ, g, r, (flP_ofE (R := Rep X.K) r p).imp fun v H1 ⟨W1, S1, x, l1, g1, r1, p1⟩ => p1 W1 H1 σ W1.le_refl g1 (r.mono l1)⟩
def sRet (m : ME) : MS := fun δ => ofE (m δ) δ fun d S => .rt d S
theorem ss_ret (he : SE X Wx e m) : SS X Wx (.Return (some e) pos) (sRet m) :=
  PS.imp (ps_ret he) fun D σ H ⟨W, S, δ, g, r, p⟩ => ⟨W, S, δ, g, r, (flP_ofE (R := Rep X.K) r p).imp fun v H1 ⟨W1, S1, x, l1, g1, r1, p1⟩ => p1 W1 H1 v W1.le_refl g1 r1⟩
def sRetN : MS := fun _ S => .rt .non S
theorem ss_retN : SS X Wx (.Return none pos) sRetN := PS.imp ps_retN fun D σ H ⟨W, S, δ, g, r, p⟩ => p W H .non W.le_refl g .non
def sBrk : MS := fun δ S => .bk δ S
def sCnt : MS := fun δ S => .ct δ S
theorem ss_pass : SS X Wx (.Pass pos) sNext := PS.imp ps_pass fun D σ H ⟨W, S, δ, g, r, p⟩ => p W H σ W.le_refl g r
theorem ss_break : SS X Wx (.Break pos) sBrk := PS.imp ps_break fun D σ H ⟨W, S, δ, g, r, p⟩ => p W H σ W.le_refl g r
theorem ss_continue : SS X Wx (.Continue pos) sCnt := PS.imp ps_continue fun D σ H ⟨W, S, δ, g, r, p⟩ => p W H σ W.le_refl g r
def sIf (tc : MT) (ms mt : MS) : MS := fun δ => ofE (tc δ) δ fun k S => cond k (ms δ S) (mt δ S)
theorem ss_if {sts' : List Stmt} (hc : ST X Wx c tc) (h1 : SB X Wx sts ms) (h2 : SB X Wx sts' mt) : SS X Wx (.If c sts sts' pos) (sIf tc ms mt) :=
  PS.imp (ps_if hc h1 h2) fun D σ H ⟨W, S, δ, g, r, p⟩ => ⟨W, S, δ, g, r, (flP_ofE (R := fun _ (b c : Bool) => b = c) r p).imp fun v H1 ⟨W1, S1, k, l1, g1, ek, p1⟩ => by
    subst ek
    cases k with
    | true => rw [if_pos rfl]; exact ⟨W1, S1, δ, g1, r.mono l1, p1⟩
    | false => rw [if_neg Bool.false_ne_true]; exact ⟨W1, S1, δ, g1, r.mono l1, p1⟩⟩

/-! ### targets (no exception leaves them) -/
abbrev TGM := D → En → Store → Option (En × Store)
abbrev TGMs := List D → En → Store → Option (En × Store)
def oG (K : PySem.W.Frag) (W : Wd) (r : Option (En × Store)) (Q : St → Hp → Prop) : Prop := match r with
  | some (δ, S) => ∀ W' H' σ, W.le W' → Good K W' S H' → REnv K W' δ σ → Q σ H'
  | none => False
theorem oG.mono {K : PySem.W.Frag} {W W1 : Wd} {r : Option (En × Store)} {Q : St → Hp → Prop} (h : W.le W1) (p : oG K W r Q) : oG K W1 r Q := by
  cases r with
  | none => exact p
  | some q => exact fun W' H' σ l => p W' H' σ (h.trans l)
def tDG (K : PySem.W.Frag) (mg : TGM) : TG := fun v σ H Q => ∃ W S δ d, Good K W S H ∧ REnv K W δ σ ∧ Rep K W d v ∧ oG K W (mg d δ S) Q
def tDGs (K : PySem.W.Frag) (mg : TGMs) : TGs := fun vs σ H Q => ∃ W S δ ds, Good K W S H ∧ REnv K W δ σ ∧ Reps K W ds vs ∧ oG K W (mg ds δ S) Q
abbrev SG (X : Cx) (e : Expr) (m : TGM) : Prop := PG X e (tDG X.K m)
abbrev SGs (X : Cx) (e : List Expr) (m : TGMs) : Prop := PGs X e (tDGs X.K m)
theorem PGs.imp {X : Cx} {e : List Expr} {t t' : TGs} (p : PGs X e t) (h : ∀ v σ H Q, t' v σ H Q → t v σ H Q) : PGs X e t' := ⟨fun pins s σ H v u Q I r q => p.run pins s σ H v u Q I r (h v σ H Q q)⟩
theorem sg_bad : SG X e (fun _ _ _ => none) := ⟨fun _ _ _ _ _ _ _ _ _ h => by obtain ⟨_, _, _, _, _, _, _, z⟩ := h; exact z.elim⟩
def gNm (i : Nat) : TGM := fun d δ S => some (δ.set i (some d), S)
theorem sg_name {i : Nat} {x : Str} (hN : X.N.Nodup) (hi : X.N[i]? = some x) (hx : Loc X.env.scope x) (hf : X.fn x = true ∨ X.env.scope.names.lookup x = some .local) : SG X (.Name x pos) (gNm i) :=
  PG.imp (pg_name hN hi hx hf) fun v σ H Q ⟨W, S, δ, d, g, r, q, p⟩ => p W H _ W.le_refl g (r.set i q)
def gNl : TGMs := fun ds δ S => match ds with
  | [] => some (δ, S)
  | _ => none
def gCs (m : TGM) (ms : TGMs) : TGMs := fun ds δ S => match ds with
  | d :: ds => (m d δ S).bind fun r => ms ds r.1 r.2
  | [] => none
theorem sgs_nil : SGs X [] gNl := PGs.imp pgs_nil fun v σ H Q ⟨W, S, δ, ds, g, r, q, p⟩ => by
  cases q with
  | nil => exact ⟨rfl, p W H σ W.le_refl g r⟩
  | cons _ _ => exact p.elim
theorem sgs_cons {m : TGM} {ms : TGMs} (h1 : SG X e m) (h2 : SGs X es ms) (hs : (assignEach (e :: es) X.env).map (·.2) = assign e X.env :: (assignEach es X.env).map (·.2)) : SGs X (e :: es) (gCs m ms) :=
  PGs.imp (pgs_cons h1 h2 hs) fun v σ H Q ⟨W, S, δ, ds, g, r, q, p⟩ => by
    cases q with
    | nil => exact p.elim
    | @cons d v ds vs q1 q2 =>
      refine ⟨v, vs, rfl, W, S, δ, d, g, r, q1, ?_⟩
      have p' : oG X.K W ((m d δ S).bind fun r => ms ds r.1 r.2) Q := p
      cases e1 : m d δ S with
      | none => rw [e1] at p'; exact p'.elim
      | some z =>
        rw [e1] at p'
        exact fun W1 H1 σ1 l1 g1 r1 => ⟨W1, z.2, z.1, ds, g1, r1, q2.mono l1, p'.mono l1⟩
/-- (a, b, ..) = a tuple -/
def gTp (n : Nat) (ms : TGMs) : TGM := fun d δ S => match d with
  | .tup ds => if ds.length = n then ms ds δ S else none
  | _ => none
theorem sg_tup {k n : Nat} {ms : TGMs} (hc : X.calm = true) (h : SGs X es ms) (hn : (assignEach es X.env).length = n) (hst : (assignEach es X.env).findIdx? (·.1) = none) : SG X (.Tuple es k pos) (gTp n ms) :=
  PG.imp (pg_tup hc h hn hst) fun v σ H Q ⟨W, S, δ, d, g, r, q, p⟩ => by
    cases q with
    | @tup a vs ds q1 q2 =>
      have p' : oG X.K W (if ds.length = n then ms ds δ S else none) Q := p
      split at p'
      · rename_i hl
        exact ⟨a, vs, rfl, g.sqT q1, by rw [← q2.length]; exact hl, W, S, δ, ds, g, r, q2, p'⟩
      · exact p'.elim
    | _ => exact p.elim
def toO {α : Type} (m : M α) (S : Store) : Option (α × Store) := match m S with
  | .ok a S' => some (a, S')
  | _ => none
/-- o[i] = v by values -/
abbrev PSt := D → D → D → Store → Option Store
def tDSet (K : PySem.W.Frag) (f : PSt) : TSet := fun o i v H Q => ∃ W S do_ di dv, Good K W S H ∧ Rep K W do_ o ∧ Rep K W di i ∧ Rep K W dv v ∧ (match f do_ di dv S with
  | some S' => ∀ W' H', W.le W' → Good K W' S' H' → Q H'
  | none => False)
def gSb (f : PSt) (mo mi : ME) : TGM := fun d δ S => (toO (mo δ) S).bind fun o => (toO (mi δ) o.2).bind fun i => (f o.1 i.1 d i.2).map fun S' => (δ, S')
theorem toO_ok {α β γ : Type} {K : PySem.W.Frag} {R : Wd → α → β → Prop} {W : Wd} {m : M α} {S : Store} {σ : St} {f : α × Store → Option γ} {P : Option γ → Prop} {Q : β → Hp → Prop} (h0 : P none → False) (p : P ((toO m S).bind f))
    (k : ∀ a S', P (f (a, S')) → ∀ W' H' v, W.le W' → Good K W' S' H' → R W' a v → Q v H') : okP K R W (m S) σ Wx Q := by
  unfold toO at p
  cases e : m S with
  | ok a S' =>
    rw [e] at p
    exact fun W' H' v l g r => k a S' p W' H' v l g r
  | exc x S' => rw [e] at p; exact (h0 p).elim
  | bad => rw [e] at p; exact h0 p
theorem sg_sub {o i : Expr} {mo mi : ME} {f : PSt} (ho : SE X Wx o mo) (hi : SE X Wx i mi) (hs : PSet X (tDSet X.K f))
    (ha : ∀ v, assign (.Subscript o i pos) X.env v = (do
      let ov ← holding [v] (eval o X.env)
      let iv ← holding [v, ov] (eval i X.env)
      standAt pos
      holding [v, ov, iv] (setItem ov iv v)
      release [v, ov, iv] [])) : SG X (.Subscript o i pos) (gSb f mo mi) :=
  PG.imp (pg_sub ho hi hs ha) fun v σ H Q ⟨W, S, δ, d, g, r, q, p⟩ => by
    refine ⟨W, S, δ, g, r, toO_ok (P := fun r => oG X.K W r Q) (fun z => z) p fun o1 S1 p1 W1 H1 v1 l1 g1 r1 => ?_⟩
    refine ⟨W1, S1, δ, g1, r.mono l1, toO_ok (P := fun r => oG X.K W r Q) (fun z => z) p1 fun i1 S2 p2 W2 H2 v2 l2 g2 r2 => ?_⟩
    refine ⟨W2, S2, o1, i1, d, g2, r1.mono l2, r2, q.mono (l1.trans l2), ?_⟩
    have p3 : oG X.K W ((f o1 i1 d S2).map fun S' => (δ, S')) Q := p2
    cases e1 : f o1 i1 d S2 with
    | none => rw [e1] at p3; exact p3.elim
    | some S' =>
      rw [e1] at p3
      exact fun W3 H3 l3 g3 => p3 W3 H3 σ ((l1.trans l2).trans l3) g3 (r.mono ((l1.trans l2).trans l3))
/-! ### assignments -/
def sAsg (m : ME) (mg : TGM) : MS := fun δ => ofE (m δ) δ fun d S => match mg d δ S with
  | some (δ', S') => .nx δ' S'
  | none => .bad
theorem flP_oG {K : PySem.W.Frag} {W : Wd} {r : Option (En × Store)} {D : Ends} (p : flP K W (match r with
  | some (δ', S') => .nx δ' S'
  | none => .bad) Wx D) : oG K W r D.nx := by
  cases r with
  | none => exact p
  | some q => exact p
theorem tAsg_of {mg : TGM} (D : Ends) (σ : St) (H : Hp) (h : tDS X.K Wx (sAsg m mg) D σ H) : tAsg (tD X.K Wx m) (tDG X.K mg) D σ H := by
  obtain ⟨W, S, δ, g, r, p⟩ := h
  exact ⟨W, S, δ, g, r, (flP_ofE (R := Rep X.K) r p).imp fun v H1 ⟨W1, S1, d, l1, g1, r1, p1⟩ => ⟨W1, S1, δ, d, g1, r.mono l1, r1, flP_oG p1⟩⟩
theorem ss_asg {tg : Expr} {mg : TGM} (he : SE X Wx e m) (hg : SG X tg mg) (hs : swapsWithSole [tg] e pos.line X.env = pure false) (hw : swappedStores [tg] e X.env = pure none) (h1 : (assignEach [tg] X.env).map (·.2) = [assign tg X.env]) : SS X Wx (.Assign [tg] e pos) (sAsg m mg) :=
  PS.imp (ps_asg he hg hs hw h1) tAsg_of
theorem ss_set {i : Nat} {x : Str} {pos' : Pos} (hN : X.N.Nodup) (hi : X.N[i]? = some x) (hx : Loc X.env.scope x) (he : SE X Wx e m) (hs : swapsWith e (some (.Name x pos')) pos.line X.env = pure false) (hf : X.fn x = true ∨ X.env.scope.names.lookup x = some .local) : SS X Wx (.Assign [.Name x pos'] e pos) (sAsg m (gNm i)) :=
  PS.imp (ps_set hN hi hx he hs hf) fun D σ H ⟨W, S, δ, g, r, p⟩ => ⟨W, S, δ, g, r, (flP_ofE (R := Rep X.K) r p).imp fun v H1 ⟨W1, S1, d, l1, g1, r1, p1⟩ => p1 W1 H1 _ W1.le_refl g1 ((r.mono l1).set i r1)⟩
/-- a, b = x, y of names stored the other way round -/
def sPar2 (i j : Nat) (mas : MA) : MS := fun δ => ofE (mas δ) δ fun ds S => match ds with
  | [x, y] => .nx ((δ.set i (some x)).set j (some y)) S
  | _ => .bad
theorem ss_par2 {i j : Nat} {x y : Str} {px py pt : Pos} {kt k2 : Nat} {pt2 : Pos} (hc : X.calm = true) (hN : X.N.Nodup) (hi : X.N[i]? = some x) (hj : X.N[j]? = some y) (hij : i ≠ j)
    (hx : X.env.scope.names.lookup x = some .local) (hy : X.env.scope.names.lookup y = some .local) (ha : SA X Wx [a, b] mas)
    (hw : swappedStores [.Tuple [.Name x px, .Name y py] kt pt] (.Tuple [a, b] k2 pt2) X.env = pure (some [x, y])) :
    SS X Wx (.Assign [.Tuple [.Name x px, .Name y py] kt pt] (.Tuple [a, b] k2 pt2) pos) (sPar2 i j mas) :=
  PS.imp (ps_par hc hN hi hj hij hx hy ha hw) fun D σ H ⟨W, S, δ, g, r, p⟩ => ⟨W, S, δ, g, r, (flP_ofE (R := Reps X.K) r p).imp fun vs H1 ⟨W1, S1, ds, l1, g1, r1, p1⟩ => by
    cases r1 with
    | nil => exact p1.elim
    | cons q1 r1 =>
      cases r1 with
      | nil => exact p1.elim
      | cons q2 r1 =>
        cases r1 with
        | nil => exact ⟨_, _, rfl, p1 W1 H1 _ W1.le_refl g1 (((r.mono l1).set i q1).set j q2)⟩
        | cons _ _ => exact p1.elim⟩
end
end Ev
/-! # loops and comprehensions -/
namespace Ev
open PySem L2
/-- J walks the items ds, while what W has frozen stands -/
def WalkD (K : PySem.W.Frag) (W : Wd) (ds : List D) (J : It) : Prop :=
  Walk J ds.length (fun H => ∀ a o, W.F a = some o → H a = some o) (fun i H x H' => ∀ d, ds[i]? = some d → ∀ W2 S2, W.lf W2 → Good K W2 S2 H → ∃ W3, W2.le W3 ∧ Good K W3 S2 H' ∧ Rep K W3 d x)
def tDI (K : PySem.W.Frag) (Wx : WX) (mi : MA) : TI := fun σ H R => ∃ W S δ, Good K W S H ∧ REnv K W δ σ ∧ okP K (WalkD K) W (mi δ S) σ Wx R
abbrev SI (X : Cx) (Wx : WX) (tg e : Expr) (m : MA) : Prop := PI X tg e (tDI X.K Wx m)
theorem PI.imp {X : Cx} {tg e : Expr} {t t' : TI} (p : PI X tg e t) (h : ∀ σ H R, t' σ H R → t σ H R) : PI X tg e t' := ⟨fun pins s σ H R I q => p.run pins s σ H R I (h σ H R q)⟩
section
variable {X : Cx} {Wx : WX} {a b c e tg : Expr} {ma mb mc m : ME} {pos : Pos} {K : PySem.W.Frag} {W : Wd}
theorem si_bad : SI X Wx tg e (fun _ => M.bad) := ⟨fun _ _ _ _ _ _ h => by obtain ⟨_, _, _, _, _, z⟩ := h; exact z.elim⟩
/-- one value after another, the heap as it is -/
theorem walkD_at {J : It} {ds : List D} {vs : List V} (r : Reps K W ds vs) (w : Walk J ds.length (fun H => ∀ a o, W.F a = some o → H a = some o) (YAt vs)) : WalkD K W ds J :=
  w.mono (fun _ h => h) fun i H x H' hi hG y d hd W2 S2 l g => by
    obtain ⟨rfl, hx⟩ := y
    obtain ⟨v, e1, e2⟩ := r.get hd
    rw [hx] at e1; cases e1
    exact ⟨W2, W2.le_refl, g, e2.mono l⟩
/-- a list or a tuple, frozen -/
def iSeq (m : ME) : MA := fun δ => M.bind (m δ) fun d => match d with
  | .lst ds => M.pure ds
  | _ => M.bad
theorem si_list (h : SE X Wx e m) : SI X Wx tg e (iSeq m) :=
  PI.imp (pi_list h) fun σ H R ⟨W, S, δ, g, r, p⟩ => ⟨W, S, δ, g, r, (okP.bind (R := Rep X.K) p).imp fun v H1 ⟨W1, S1, d, l1, g1, r1, p1⟩ => by
    cases r1 with
    | @lst a vs ds q r2 =>
      refine ⟨a, rfl, ⟨vs, SqL.of (g1.sub _ _ q)⟩, okP.pure p1 g1 (walkD_at r2 ?_)⟩
      have w := walk_list (K := X.K) (a := a) (xs := vs)
      rw [← r2.length] at w
      exact w.mono (fun H h => SqL.of (h _ _ q)) fun _ _ _ _ _ _ y => y
    | _ => exact p1.elim⟩
def iTpl (m : ME) : MA := fun δ => M.bind (m δ) fun d => match d with
  | .tup ds => M.pure ds
  | _ => M.bad
theorem si_tup (h : SE X Wx e m) : SI X Wx tg e (iTpl m) :=
  PI.imp (pi_tup h) fun σ H R ⟨W, S, δ, g, r, p⟩ => ⟨W, S, δ, g, r, (okP.bind (R := Rep X.K) p).imp fun v H1 ⟨W1, S1, d, l1, g1, r1, p1⟩ => by
    cases r1 with
    | @tup a vs ds q r2 =>
      refine ⟨a, rfl, ⟨vs, g1.sqT q⟩, okP.pure p1 g1 (walkD_at r2 ?_)⟩
      have w := walk_tup (K := X.K) (a := a) (xs := vs)
      rw [← r2.length] at w
      exact w.mono (fun H h => by
        rcases q with q | q
        · exact .inl (rd_sub h q)
        · exact .inr q) fun _ _ _ _ _ _ y => y
    | _ => exact p1.elim⟩
def signs (z : Str) : List D := z.cps.toList.map fun c => .str ⟨#[c]⟩
def iTxt (m : ME) : MA := fun δ => M.bind (m δ) fun d => match d with
  | .str z => if z.length ≤ sizeLine then M.pure (signs z) else M.bad
  | _ => M.bad
/-- a for over one of the three, by what the value is -/
theorem PI.or {t t' : TI} (h1 : PI X tg e t) (h2 : PI X tg e t') : PI X tg e (fun σ H R => t σ H R ∨ t' σ H R) := ⟨fun pins s σ H R I q => by
  rcases q with q | q
  · exact h1.run pins s σ H R I q
  · exact h2.run pins s σ H R I q⟩
def rngD (lo : Int) (n : Nat) : List D := (List.range n).map fun (i : Nat) => .int (lo + i)
theorem walkD_range (lo : Int) (n : Nat) : WalkD K W (rngD lo n) (Itr lo n) := by
  have w := walk_range (lo := lo) (n := n)
  have e : (rngD lo n).length = n := by simp [rngD]
  unfold WalkD
  rw [e]
  refine w.mono (fun _ _ => trivial) fun i H x H' hi hG y d hd W2 S2 l g => ?_
  obtain ⟨rfl, rfl⟩ := y
  refine ⟨W2, W2.le_refl, g, ?_⟩
  simp [rngD, hi] at hd
  subst hd
  exact .int _
def iRng (mas : MA) : MA := fun δ => M.bind (mas δ) fun ds => match ds with
  | [.int j] => if -(2 ^ 62) ≤ j ∧ j < 2 ^ 62 then M.pure (rngD 0 j.toNat) else M.bad
  | [.int i, .int j] => if -(2 ^ 62) ≤ i ∧ i < 2 ^ 62 ∧ -(2 ^ 62) ≤ j ∧ j < 2 ^ 62 then M.pure (rngD i (j - i).toNat) else M.bad
  | _ => M.bad
theorem si_range1 {mas : MA} {p : Pos} (hg : Gl X "range") (hm : X.mg "range" = none) (ha : SA X Wx [a] mas) (hs : starEach [a] X.env = [(false, eval a X.env)]) : SI X Wx tg (.Call (.Name "range" p) [a] [] pos) (fun δ => M.bind (mas δ) fun ds => match ds with
    | [.int j] => if -(2 ^ 62) ≤ j ∧ j < 2 ^ 62 then M.pure (rngD 0 j.toNat) else M.bad
    | _ => M.bad) :=
  PI.imp (pi_range1 hg hm ha hs) fun σ H R ⟨W, S, δ, g, r, p⟩ => ⟨W, S, δ, g, r, (okP.bind (R := Reps X.K) p).imp fun v H1 ⟨W1, S1, ds, l1, g1, r1, p1⟩ => by
    cases r1 with
    | nil => exact p1.elim
    | cons q r1 =>
      cases r1 with
      | cons _ _ => cases q <;> exact p1.elim
      | nil =>
        cases q with
        | int j =>
          dsimp only at p1
          split at p1
          · rename_i h
            exact ⟨j, rfl, h.1, h.2, okP.pure p1 g1 (walkD_range 0 _)⟩
          · exact p1.elim
        | _ => exact p1.elim⟩
theorem si_range2 {mas : MA} {p : Pos} (hg : Gl X "range") (hm : X.mg "range" = none) (ha : SA X Wx [a, b] mas) (hs : starEach [a, b] X.env = [(false, eval a X.env), (false, eval b X.env)]) (hs2 : starEach [b] X.env = [(false, eval b X.env)]) : SI X Wx tg (.Call (.Name "range" p) [a, b] [] pos) (fun δ => M.bind (mas δ) fun ds => match ds with
    | [.int i, .int j] => if -(2 ^ 62) ≤ i ∧ i < 2 ^ 62 ∧ -(2 ^ 62) ≤ j ∧ j < 2 ^ 62 then M.pure (rngD i (j - i).toNat) else M.bad
    | _ => M.bad) :=
  PI.imp (pi_range2 hg hm ha hs hs2) fun σ H R ⟨W, S, δ, g, r, p⟩ => ⟨W, S, δ, g, r, (okP.bind (R := Reps X.K) p).imp fun v H1 ⟨W1, S1, ds, l1, g1, r1, p1⟩ => by
    cases r1 with
    | nil => exact p1.elim
    | cons q r1 =>
      cases r1 with
      | nil => cases q <;> exact p1.elim
      | cons q2 r1 =>
        cases r1 with
        | cons _ _ => cases q <;> cases q2 <;> exact p1.elim
        | nil =>
          cases q with
          | int i =>
            cases q2 with
            | int j =>
              dsimp only at p1
              split at p1
              · rename_i h
                exact ⟨i, j, rfl, h, okP.pure p1 g1 (walkD_range i _)⟩
              · exact p1.elim
            | _ => exact p1.elim
          | _ => cases q2 <;> exact p1.elim⟩

/-! ### for -/
def loopF (mg : TGM) (mb : MS) : List D → MS
  | [] => fun δ S => .nx δ S
  | d :: ds => fun δ S => match mg d δ S with
    | none => .bad
    | some (δ', S') => match mb δ' S' with
      | .nx δ2 S2 => loopF mg mb ds δ2 S2
      | .ct δ2 S2 => loopF mg mb ds δ2 S2
      | .bk δ2 S2 => .nx δ2 S2
      | r => r
def sFor (mi : MA) (mg : TGM) (mb : MS) : MS := fun δ => ofE (mi δ) δ fun ds S => loopF mg mb ds δ S
theorem ss_for {iter : Expr} {body : List Stmt} {mi : MA} {mg : TGM} {mb : MS} (hp : PassesOwn (model X.prog X.w) X.A X.env X.xe) (hc : X.calm = true) (hi : SI X Wx tg iter mi) (hg : SG X tg mg) (hb : SB X Wx body mb)
    (hs : ∀ x, foldedSetIterable iter X.env x = pure x) : SS X Wx (.For tg iter body [] pos) (sFor mi mg mb) :=
  PS.imp (ps_for hp hc hi hg hb hs) fun E σ H ⟨W, S, δ, g, r, p⟩ => ⟨W, S, δ, g, r, (flP_ofE (R := WalkD X.K) r p).imp fun J H1 ⟨W1, S1, ds, l1, g1, w1, p1⟩ => by
    refine for_it (w1 : Walk J ds.length _ _) (fun i σ2 H2 => ∃ W2 S2 δ2, W1.le W2 ∧ Good X.K W2 S2 H2 ∧ REnv X.K W2 δ2 σ2 ∧ flP X.K W2 (loopF mg mb (ds.drop i) δ2 S2) Wx E) ⟨W1, S1, δ, W1.le_refl, g1, r.mono l1, p1⟩ ?_ ?_ ?_
    · rintro i σ2 H2 _ ⟨W2, S2, δ2, l2, g2, _, _⟩ a o ha
      exact g2.sub a o (l2.f a o ha)
    · rintro i x σ2 H2 H3 hi ⟨W2, S2, δ2, l2, g2, r2, p2⟩ y
      have hd : ds[i]? = some ds[i] := by simp [hi]
      obtain ⟨W3, l3, g3, q3⟩ := y ds[i] hd W2 S2 l2 g2
      rw [List.drop_eq_getElem_cons hi] at p2
      refine ⟨W3, S2, δ2, ds[i], g3, r2.mono l3, q3, ?_⟩
      simp only [loopF] at p2
      cases e1 : mg ds[i] δ2 S2 with
      | none => rw [e1] at p2; exact p2.elim
      | some z =>
        obtain ⟨δ4, S4⟩ := z
        rw [e1] at p2
        intro W4 H4 σ4 l4 g4 r4
        refine ⟨W4, S4, δ4, g4, r4, ?_⟩
        have l24 := l3.trans l4
        dsimp only at p2
        cases e2 : mb δ4 S4 with
        | nx δ5 S5 =>
          rw [e2] at p2
          exact fun W5 H5 σ5 l5 g5 r5 => ⟨W5, S5, δ5, (l2.trans l24).trans l5, g5, r5, p2.mono (l24.trans l5)⟩
        | ct δ5 S5 =>
          rw [e2] at p2
          exact fun W5 H5 σ5 l5 g5 r5 => ⟨W5, S5, δ5, (l2.trans l24).trans l5, g5, r5, p2.mono (l24.trans l5)⟩
        | bk δ5 S5 =>
          rw [e2] at p2
          exact fun W5 H5 σ5 l5 g5 r5 => p2 W5 H5 σ5 (l24.trans l5) g5 r5
        | rt d5 S5 =>
          rw [e2] at p2
          exact fun W5 H5 σ5 l5 g5 r5 => p2 W5 H5 σ5 (l24.trans l5) g5 r5
        | exc x5 δ5 S5 =>
          rw [e2] at p2
          exact fun W5 H5 σ5 cls dd l5 g5 r5 x6 => p2 W5 H5 σ5 cls dd (l24.trans l5) g5 r5 x6
        | bad => rw [e2] at p2; exact p2
    · rintro σ2 H2 ⟨W2, S2, δ2, l2, g2, r2, p2⟩
      rw [List.drop_length] at p2
      exact p2 W2 H2 σ2 W2.le_refl g2 r2⟩

/-! ### while -/
def loopW (tc : MT) (mb : MS) : Nat → MS
  | 0 => fun _ _ => .bad
  | n + 1 => fun δ => ofE (tc δ) δ fun k S => match k with
    | false => .nx δ S
    | true => match mb δ S with
      | .nx δ2 S2 => loopW tc mb n δ2 S2
      | .ct δ2 S2 => loopW tc mb n δ2 S2
      | .bk δ2 S2 => .nx δ2 S2
      | r => r
theorem ss_while {body : List Stmt} {tc : MT} {mb : MS} (n : Nat) (hp : PassesOwn (model X.prog X.w) X.A X.env X.xe) (hc : ST X Wx c tc) (hb : SB X Wx body mb) : SS X Wx (.While c body [] pos) (loopW tc mb n) :=
  PS.imp (ps_while hp hc hb) fun E σ H ⟨W, S, δ, g, r, p⟩ => by
    refine ⟨fun m σ2 H2 => ∃ W2 S2 δ2, Good X.K W2 S2 H2 ∧ REnv X.K W2 δ2 σ2 ∧ W.le W2 ∧ flP X.K W2 (loopW tc mb m δ2 S2) Wx E, ⟨n, W, S, δ, g, r, W.le_refl, p⟩, ?_⟩
    rintro m σ2 H2 ⟨W2, S2, δ2, g2, r2, l2, p2⟩
    cases m with
    | zero => exact p2.elim
    | succ m =>
      refine ⟨W2, S2, δ2, g2, r2, (flP_ofE (R := fun _ (b c : Bool) => b = c) r2 p2).imp fun k H3 ⟨W3, S3, k', l3, g3, ek, p3⟩ => ?_⟩
      subst ek
      cases k' with
      | false =>
        rw [if_neg Bool.false_ne_true]
        exact p3 W3 H3 σ2 W3.le_refl g3 (r2.mono l3)
      | true =>
        rw [if_pos rfl]
        refine ⟨fun σ5 H5 => ∃ W5 S5 δ5, Good X.K W5 S5 H5 ∧ REnv X.K W5 δ5 σ5 ∧ W.le W5 ∧ flP X.K W5 (loopW tc mb m δ5 S5) Wx E, fun σ5 H5 q => ⟨m, Nat.lt_succ_self m, q⟩, W3, S3, δ2, g3, r2.mono l3, ?_⟩
        have l23 := l2.trans l3
        dsimp only at p3
        cases e2 : mb δ2 S3 with
        | nx δ5 S5 =>
          rw [e2] at p3
          exact fun W5 H5 σ5 l5 g5 r5 => ⟨W5, S5, δ5, g5, r5, l23.trans l5, p3.mono l5⟩
        | ct δ5 S5 =>
          rw [e2] at p3
          exact fun W5 H5 σ5 l5 g5 r5 => ⟨W5, S5, δ5, g5, r5, l23.trans l5, p3.mono l5⟩
        | bk δ5 S5 => rw [e2] at p3; exact p3
        | rt d5 S5 => rw [e2] at p3; exact p3
        | exc x5 δ5 S5 => rw [e2] at p3; exact p3
        | bad => rw [e2] at p3; exact p3
end
end Ev
/-! # list comprehensions -/
namespace Ev
open PySem L2
def noX {α : Type} (m : M α) : M α := fun S => match m S with
  | .ok a S' => .ok a S'
  | _ => .bad
theorem okP.bindN {α β γ ε : Type} {K : PySem.W.Frag} {R : Wd → α → β → Prop} {R' : Wd → γ → ε → Prop} {W : Wd} {m : M α} {f : α → M γ} {S : Store} {σ : St} {Wx : WX} {Q : ε → Hp → Prop}
    (h : okP K R' W (M.bind (noX m) f S) σ Wx Q) (W0 : Wd) (σ' : St) (Wx' : WX) : okP K R W0 (m S) σ' Wx' (fun v H' => ∃ W' S' a, W0.le W' ∧ Good K W' S' H' ∧ R W' a v ∧ okP K R' W (f a S') σ Wx Q) := by
  unfold M.bind noX at h
  cases e : m S with
  | ok a S' =>
    rw [e] at h
    exact fun W' H' v l g r => ⟨W', S', a, l, g, r, h⟩
  | exc x S' =>
    rw [e] at h
    exact h.elim
  | bad =>
    rw [e] at h
    exact h
/-! ### targets that store names alone -/
abbrev UpD := D → Option (List (Nat × D))
def setsV : St → List (Nat × V) → St
  | σ, [] => σ
  | σ, (i, v) :: r => setsV (σ.set i (some v)) r
def setsD : En → List (Nat × D) → En
  | δ, [] => δ
  | δ, (i, v) :: r => setsD (δ.set i (some v)) r
theorem setsV_append : ∀ (σ : St) (a b : List (Nat × V)), setsV σ (a ++ b) = setsV (setsV σ a) b
  | _, [], _ => rfl
  | σ, (i, v) :: r, b => setsV_append (σ.set i (some v)) r b
theorem REnv.sets {K : PySem.W.Frag} {W : Wd} : ∀ {us : List (Nat × D)} {us' : List (Nat × V)} {δ : En} {σ : St}, REnv K W δ σ → us'.map (·.1) = us.map (·.1) → Reps K W (us.map (·.2)) (us'.map (·.2)) → REnv K W (setsD δ us) (setsV σ us')
  | [], [], _, _, r, _, _ => r
  | [], _ :: _, _, _, _, e, _ => by cases e
  | _ :: _, [], _, _, _, e, _ => by cases e
  | (i, d) :: us, (j, v) :: us', δ, σ, r, e, q => by
    simp only [List.map_cons, List.cons.injEq] at e
    obtain ⟨rfl, e⟩ := e
    cases q with
    | cons q1 q2 => exact REnv.sets (us := us) (us' := us') (δ := δ.set j (some d)) (σ := σ.set j (some v)) (r.set j q1) e q2
theorem wipe_get (σ : St) (j : Nat) : ∀ vs : List Nat, (wipe σ vs)[j]? = if j ∈ vs then (if j < σ.length then some none else none) else σ[j]?
  | [] => by simp [wipe]
  | v :: vs => by
    unfold wipe
    rw [List.getElem?_set, wipe_get σ j vs, wipe_length]
    by_cases h1 : v = j
    · subst h1; simp
    · rw [if_neg h1]
      have : (j ∈ v :: vs) ↔ j ∈ vs := by simp [Ne.symm h1]
      simp only [this]
theorem wipe_set {σ : St} {i : Nat} {x : Option V} {vs : List Nat} (h : i ∈ vs) : wipe (σ.set i x) vs = wipe σ vs := by
  apply List.ext_getElem?
  intro j
  rw [wipe_get, wipe_get]
  by_cases hj : j ∈ vs
  · rw [if_pos hj, if_pos hj, List.length_set]
  · rw [if_neg hj, if_neg hj, List.getElem?_set_ne]
    rintro rfl
    exact hj h
theorem wipe_sets : ∀ {us : List (Nat × V)} {σ : St} {vs : List Nat}, (∀ p ∈ us, p.1 ∈ vs) → wipe (setsV σ us) vs = wipe σ vs
  | [], _, _, _ => rfl
  | (i, v) :: r, σ, vs, h => by
    show wipe (setsV (σ.set i (some v)) r) vs = _
    rw [wipe_sets fun p hp => h p (List.mem_cons_of_mem _ hp)]
    exact wipe_set (h (i, v) List.mem_cons_self)
theorem wipe_wipe (σ : St) (vs : List Nat) : wipe (wipe σ vs) vs = wipe σ vs := by
  apply List.ext_getElem?
  intro j
  rw [wipe_get, wipe_get, wipe_length]
  by_cases hj : j ∈ vs
  · rw [if_pos hj, if_pos hj]
  · rw [if_neg hj, if_neg hj]
def wipeD (δ : En) : List Nat → En
  | [] => δ
  | v :: vs => (wipeD δ vs).set v none
theorem REnv.wipe {K : PySem.W.Frag} {W : Wd} {δ : En} {σ : St} (r : REnv K W δ σ) : ∀ vs : List Nat, REnv K W (wipeD δ vs) (L2.wipe σ vs)
  | [] => r
  | v :: vs => by
    have ih := REnv.wipe r vs
    refine ⟨by simp [wipeD, L2.wipe, ih.1], fun i d e => ?_⟩
    simp only [wipeD, L2.wipe] at e ⊢
    by_cases h : v = i
    · subst h
      by_cases hv : v < (wipeD δ vs).length
      · rw [List.getElem?_set_self hv] at e; cases e
      · rw [List.getElem?_eq_none (by simpa using hv)] at e; cases e
    · rw [List.getElem?_set_ne h] at e ⊢
      exact ih.2 i d e
def tDU (K : PySem.W.Frag) (up : UpD) : TG := fun v σ H Q => ∃ W S d, Good K W S H ∧ Rep K W d v ∧ (match up d with
  | some us => ∀ us' : List (Nat × V), us'.map (·.1) = us.map (·.1) → Reps K W (us.map (·.2)) (us'.map (·.2)) → Q (setsV σ us') H
  | none => False)
def tDUs (K : PySem.W.Frag) (up : List D → Option (List (Nat × D))) : TGs := fun vs σ H Q => ∃ W S ds, Good K W S H ∧ Reps K W ds vs ∧ (match up ds with
  | some us => ∀ us' : List (Nat × V), us'.map (·.1) = us.map (·.1) → Reps K W (us.map (·.2)) (us'.map (·.2)) → Q (setsV σ us') H
  | none => False)
section
variable {X : Cx} {Wx : WX} {a b c e tg : Expr} {es : List Expr} {ma mb mc m : ME} {pos : Pos}
theorem su_bad : PG X e (tDU X.K (fun _ => none)) := ⟨fun _ _ _ _ _ _ _ _ _ h => by obtain ⟨_, _, _, _, _, z⟩ := h; exact z.elim⟩
def uNm (i : Nat) : UpD := fun d => some [(i, d)]
theorem su_name {i : Nat} {x : Str} (hN : X.N.Nodup) (hi : X.N[i]? = some x) (hx : Loc X.env.scope x) (hf : X.fn x = true ∨ X.env.scope.names.lookup x = some .local) : PG X (.Name x pos) (tDU X.K (uNm i)) :=
  PG.imp (pg_name hN hi hx hf) fun v σ H Q ⟨W, S, d, g, r, p⟩ => p [(i, v)] rfl (.cons r .nil)
def uNl : List D → Option (List (Nat × D)) := fun ds => match ds with
  | [] => some []
  | _ => none
def uCs (u : UpD) (us : List D → Option (List (Nat × D))) : List D → Option (List (Nat × D)) := fun ds => match ds with
  | d :: ds => (u d).bind fun a => (us ds).map fun b => a ++ b
  | [] => none
theorem sus_nil : PGs X [] (tDUs X.K uNl) := PGs.imp pgs_nil fun v σ H Q ⟨W, S, ds, g, r, p⟩ => by
  cases r with
  | nil => exact ⟨rfl, p [] rfl .nil⟩
  | cons _ _ => exact p.elim
theorem reps_split {K : PySem.W.Frag} {W : Wd} : ∀ {a b : List D} {vs : List V}, Reps K W (a ++ b) vs → ∃ v1 v2, vs = v1 ++ v2 ∧ Reps K W a v1 ∧ Reps K W b v2
  | [], _, vs, r => ⟨[], vs, rfl, .nil, r⟩
  | d :: a, b, _, .cons q r => by
    obtain ⟨v1, v2, rfl, r1, r2⟩ := reps_split (a := a) r
    exact ⟨_ :: v1, v2, rfl, .cons q r1, r2⟩
theorem sus_cons {u : UpD} {us : List D → Option (List (Nat × D))} (h1 : PG X e (tDU X.K u)) (h2 : PGs X es (tDUs X.K us)) (hs : (assignEach (e :: es) X.env).map (·.2) = assign e X.env :: (assignEach es X.env).map (·.2)) : PGs X (e :: es) (tDUs X.K (uCs u us)) :=
  PGs.imp (pgs_cons h1 h2 hs) fun v σ H Q ⟨W, S, ds, g, r, p⟩ => by
    cases r with
    | nil => exact p.elim
    | @cons d v ds vs q1 q2 =>
      refine ⟨v, vs, rfl, W, S, d, g, q1, ?_⟩
      simp only [uCs] at p
      cases e1 : u d with
      | none => rw [e1] at p; exact p.elim
      | some us1 =>
        rw [e1] at p
        simp only [Option.bind_some] at p
        intro us' k1 r1
        refine ⟨W, S, ds, g, q2, ?_⟩
        cases e2 : us ds with
        | none => rw [e2] at p; exact p.elim
        | some us2 =>
          rw [e2] at p
          intro us2' k2 r2
          have p' := p (us' ++ us2') (by simp [k1, k2]) (by simp only [List.map_append]; exact r1.append r2)
          rw [setsV_append] at p'
          exact p'
def uTp (n : Nat) (us : List D → Option (List (Nat × D))) : UpD := fun d => match d with
  | .tup ds => if ds.length = n then us ds else none
  | _ => none
theorem su_tup {k n : Nat} {us : List D → Option (List (Nat × D))} (hc : X.calm = true) (h : PGs X es (tDUs X.K us)) (hn : (assignEach es X.env).length = n) (hst : (assignEach es X.env).findIdx? (·.1) = none) : PG X (.Tuple es k pos) (tDU X.K (uTp n us)) :=
  PG.imp (pg_tup hc h hn hst) fun v σ H Q ⟨W, S, d, g, r, p⟩ => by
    cases r with
    | @tup a vs ds q1 q2 =>
      simp only [uTp] at p
      by_cases hl : ds.length = n
      · rw [if_pos hl] at p
        exact ⟨a, vs, rfl, g.sqT q1, by rw [← q2.length]; exact hl, W, S, ds, g, q2, p⟩
      · rw [if_neg hl] at p; exact p.elim
    | _ => exact p.elim
/-! ### the loop -/
def loopC (up : UpD) (mt : MT) (me : ME) (δ0 : En) : List D → List D → M (List D)
  | [], acc => M.pure acc
  | d :: ds, acc => match up d with
    | none => M.bad
    | some us => M.bind (noX (mt (setsD δ0 us))) fun k => match k with
      | false => loopC up mt me δ0 ds acc
      | true => M.bind (noX (me (setsD δ0 us))) fun y => if acc.length < sizeLine then loopC up mt me δ0 ds (acc ++ [y]) else M.bad
def eLc (fin : List D → PO) (mi : MA) (up : UpD) (mt : MT) (me : ME) (vs : List Nat) : ME := fun δ => M.bind (mi δ) fun ds => M.bind (loopC up mt me (wipeD δ vs) ds []) fun ys => lft (fin ys)
/-- how the new list at p ends: frozen, or a cell -/
def FinOk (K : PySem.W.Frag) (fin : List D → PO) : Prop := ∀ (W : Wd) (S : Store) (H : Hp) (p : Addr) (P : Hp) (acc : List D) (vacc : List V) (Q : VK), Good K W S H → W.P = upd P p (.lst vacc) → P p = none → Reps K W acc vacc → oV K ⟨W.F, W.m, P, W.sf⟩ (fin acc S) Q → Q (.ref p) H
theorem fin_newL {K : PySem.W.Frag} : FinOk K newL := fun W S H p P acc vacc Q g e n r o => by
  unfold newL at o
  split at o
  · refine o _ _ _ ⟨⟨(g.unPrv_lf e).f, rfl, [], by simp⟩, rfl⟩ (g.unPrv e n) (.lst upd_same (r.mono (g.unPrv_lf e)))
  · exact o.elim
theorem Good.prvToC {K : PySem.W.Frag} {W : Wd} {S : Store} {H : Hp} (g : Good K W S H) {p : Addr} {P : Hp} {acc : List D} {vacc : List V} (e : W.P = upd P p (.lst vacc)) (n : P p = none) (r : Reps K W acc vacc) :
    Good K ⟨W.F, W.m ++ [p], P, W.sf⟩ (S ++ [some (.lst acc)]) H := by
  have hp := g.prv p _ (by rw [e, upd_same])
  have lf : W.lf ⟨W.F, W.m ++ [p], P, W.sf⟩ := ⟨fun _ _ h => h, rfl, [p], rfl⟩
  have ne : ∀ (i : Nat) c a, S[i]? = some (some c) → W.m[i]? = some a → a ≠ p := fun i c a h1 h2 z => by
    subst z
    obtain ⟨a', e1, _, e3, _⟩ := g.cell i c h1
    rw [h2] at e1; cases e1
    rw [e, upd_same] at e3; cases e3
  refine ⟨g.sub, by simp [g.len], fun i c h => ?_, fun i j a c1 c2 h1 h2 h3 h4 => ?_, fun a u h => ?_⟩
  · by_cases hi : i < S.length
    · rw [List.getElem?_append_left hi] at h
      obtain ⟨a, e1, e2, e3, e4⟩ := g.cell i c h
      have na := ne i c a h e1
      rw [e, upd_ne na] at e3
      exact ⟨a, lf.get e1, e2, e3, e4.mono lf⟩
    · have hi' : i = S.length := by
        have := (List.getElem?_eq_some_iff.mp h).1
        simp at this; omega
      subst hi'
      simp at h
      subst h
      exact ⟨p, by simp [← g.len], hp.2, n, vacc, hp.1, r.mono lf⟩
  · have old : ∀ {i : Nat} {a : Addr} {c' : Cell}, i < S.length → (S ++ [some (Cell.lst acc)])[i]? = some (some c') → (W.m ++ [p])[i]? = some a → W.m[i]? = some a ∧ S[i]? = some (some c') ∧ a ≠ p := fun {i a c'} hi e h => by
      rw [List.getElem?_append_left hi] at e
      rw [List.getElem?_append_left (by rw [g.len]; exact hi)] at h
      exact ⟨h, e, ne i _ a e h⟩
    have last : ∀ {i : Nat} {a : Addr} {c' : Cell}, ¬ i < S.length → (S ++ [some (Cell.lst acc)])[i]? = some (some c') → (W.m ++ [p])[i]? = some a → i = S.length ∧ a = p := fun {i a c'} hi e h => by
      have hi' : i = S.length := by
        have := (List.getElem?_eq_some_iff.mp e).1
        simp at this; omega
      subst hi'
      refine ⟨rfl, ?_⟩
      simp [← g.len] at h
      exact h.symm
    by_cases hi : i < S.length
    · obtain ⟨a1, a2, a3⟩ := old hi h1 h3
      by_cases hj : j < S.length
      · obtain ⟨b1, b2, b3⟩ := old hj h2 h4
        exact g.inj i j a _ _ a2 b2 a1 b1
      · exact absurd (last hj h2 h4).2 a3
    · obtain ⟨a1, a2⟩ := last hi h1 h3
      by_cases hj : j < S.length
      · exact absurd a2 (old hj h2 h4).2.2
      · rw [a1, (last hj h2 h4).1]
  · have na : a ≠ p := fun z => by subst z; have h' : P a = some u := h; rw [h'] at n; cases n
    exact g.prv a u (by rw [e, upd_ne na]; exact h)
theorem fin_newC {K : PySem.W.Frag} : FinOk K newC := fun W S H p P acc vacc Q g e n r o => by
  unfold newC at o
  split at o
  · exact o ⟨W.F, W.m ++ [p], P, W.sf⟩ H (.ref p) ⟨⟨fun _ _ h => h, rfl, [p], rfl⟩, rfl⟩ (g.prvToC e n r) (.ref (by simp [← g.len]))
  · exact o.elim
theorem tLc_of {mi : MA} {up : UpD} {mt : MT} {me : ME} {vs : List Nat} {fin : List D → PO} (hf : FinOk X.K fin) (hu : ∀ d us, up d = some us → ∀ p ∈ us, p.1 ∈ vs) (σ : St) (H : Hp) (Q : VK) (h : tD X.K Wx (eLc fin mi up mt me vs) σ H Q) :
    tLc (tDI X.K Wx mi) (tDU X.K up) (tDT X.K (fun _ _ _ _ => False) mt) (tD X.K (fun _ _ _ _ => False) me) vs σ H Q := by
  obtain ⟨W, S, δ, g, r, p⟩ := h
  refine ⟨W, S, δ, g, r, (okP.bind (R := WalkD X.K) p).imp fun J H1 ⟨W1, S1, ds, l1, g1, w1, p1⟩ => fun Dd nD => ?_⟩
  have pD : W1.P Dd = none := g1.freeP nD
  refine lc_it (w1 : Walk J ds.length _ _) (fun i H2 => ∃ W2 S2 acc vacc, W1.lf W2 ∧ W2.P = upd W1.P Dd (.lst vacc) ∧ Good X.K W2 S2 H2 ∧ Reps X.K W2 acc vacc ∧
    okP X.K (Rep X.K) ⟨W2.F, W2.m, W1.P, W2.sf⟩ (M.bind (loopC up mt me (wipeD δ vs) (ds.drop i) acc) (fun ys => lft (fin ys)) S2) σ Wx Q) ?_ ?_ ?_ ?_
  · exact ⟨W1.prv Dd (.lst []), S1, [], [], W1.prv_lf _ _, rfl, g1.newPrv nD, .nil, p1⟩
  · rintro i H2 _ ⟨W2, S2, acc, vacc, l2, _, g2, _⟩ a o ha
    exact g2.sub a o (l2.f a o ha)
  · rintro i x H2 H3 hi ⟨W2, S2, acc, vacc, l2, e2, g2, ra, p2⟩ y
    have hd : ds[i]? = some ds[i] := by simp [hi]
    obtain ⟨W3, l3, g3, q3⟩ := y ds[i] hd W2 S2 l2 g2
    rw [List.drop_eq_getElem_cons hi] at p2
    refine ⟨W3, S2, ds[i], g3, q3, ?_⟩
    simp only [loopC] at p2
    cases e1 : up ds[i] with
    | none => rw [e1] at p2; exact p2.elim
    | some us =>
      rw [e1] at p2
      intro us' k1 r1
      have hus : ∀ p ∈ us', p.1 ∈ vs := fun p hp => by
        have : p.1 ∈ us'.map (·.1) := List.mem_map_of_mem hp
        rw [k1] at this
        obtain ⟨q, hq, eq⟩ := List.mem_map.mp this
        rw [← eq]
        exact hu _ _ e1 q hq
      refine ⟨by rw [wipe_sets hus, wipe_wipe], ?_⟩
      have rE : REnv X.K W3 (setsD (wipeD δ vs) us) (setsV (wipe σ vs) us') := ((r.mono (l1.toLf.trans (l2.trans l3))).wipe vs).sets k1 r1
      have p3 := okP.assoc p2
      refine ⟨W3, S2, setsD (wipeD δ vs) us, g3, rE, (okP.bindN p3 W3 _ _).imp fun k H4 ⟨W4, S4, k', l4, g4, ek, p4⟩ => ?_⟩
      subst ek
      cases k' with
      | false =>
        rw [if_neg Bool.false_ne_true]
        refine ⟨W4, S4, acc, vacc, l2.trans (l3.trans l4), by rw [l4.pp, l3.pp, e2], g4, ra.mono (l3.trans l4), ?_⟩
        exact okP.mono (W := ⟨W2.F, W2.m, W1.P, W2.sf⟩) ⟨⟨(l3.trans l4).f, (l3.trans l4).sq, (l3.trans l4).mm⟩, rfl⟩ p4
      | true =>
        rw [if_pos rfl]
        have p5 := okP.assoc p4
        refine ⟨W4, S4, setsD (wipeD δ vs) us, g4, rE.mono l4, (okP.bindN p5 W4 _ _).imp fun yv H5 ⟨W5, S5, y5, l5, g5, r5, p6⟩ => ?_⟩
        have eP : W5.P = upd W1.P Dd (.lst vacc) := by rw [l5.pp, l4.pp, l3.pp, e2]
        have hD : W5.P Dd = some (.lst vacc) := by rw [eP, upd_same]
        have l35 := (l3.trans l4).trans l5
        by_cases hz : acc.length < sizeLine
        · rw [if_pos hz] at p6
          refine ⟨vacc, (g5.prv Dd _ hD).1, by rw [← ra.length]; exact hz, W5.prv Dd (.lst (vacc ++ [yv])), S5, acc ++ [y5], vacc ++ [yv], l2.trans (l35.toLf.trans (W5.prv_lf _ _)), by show upd W5.P Dd _ = _; rw [eP, upd_upd], g5.updPrv hD, ?_, ?_⟩
          · exact ((ra.mono l35).append (.cons r5 .nil)).mono (W5.prv_lf _ _)
          · exact okP.mono (W := ⟨W2.F, W2.m, W1.P, W2.sf⟩) ⟨⟨l35.f, l35.sq, l35.mm⟩, rfl⟩ p6
        · rw [if_neg hz] at p6; exact p6.elim
  · rintro H2 ⟨W2, S2, acc, vacc, l2, e2, g2, ra, p2⟩
    rw [List.drop_length] at p2
    exact hf W2 S2 H2 Dd W1.P acc vacc Q g2 e2 pD ra (okP.lft p2)
theorem se_lc {elt tg iter : Expr} {ifs : List Expr} {scope : Scope} {own : List (Str × Nat)} {mi : MA} {up : UpD} {mt : MT} {me : ME} {fin : List D → PO} (hf : FinOk X.K fin) (hu : ∀ d us, up d = some us → ∀ p ∈ us, p.1 ∈ own.map (·.2))
    (hc : X.calm = true) (hN : X.N.Nodup) (hi : SI X Wx tg iter mi) (ok : BlkOk X.N X.env.scope scope own)
    (hg : ∀ (s : Shared) (H : Hp) (C : Addr) (cl : List (Str × Addr)) (fp : List Addr), PG (X.blk s H scope (compEnvC scope cl C X.env) fp) tg (tDU X.K up)) (ht : ∀ (s : Shared) (H : Hp) (C : Addr) (cl : List (Str × Addr)) (fp : List Addr), PTs (X.blk s H scope (compEnvC scope cl C X.env) fp) ifs (tDT X.K (fun _ _ _ _ => False) mt))
    (he : ∀ (s : Shared) (H : Hp) (C : Addr) (cl : List (Str × Addr)) (fp : List Addr), SE (X.blk s H scope (compEnvC scope cl C X.env) fp) (fun _ _ _ _ => False) elt me) (hs : ∀ x, foldedSetIterable iter X.env x = pure x) :
    SE X Wx (.ListComp elt [⟨tg, iter, ifs, 0⟩] scope pos) (eLc fin mi up mt me (own.map (·.2))) :=
  PE.imp (pe_lc hc hN hi ok hg ht he hs) (tLc_of hf hu)
theorem ss_setLc {i : Nat} {y : Str} {py spos : Pos} {elt tg iter : Expr} {ifs : List Expr} {scope : Scope} {own : List (Str × Nat)} {mi : MA} {up : UpD} {mt : MT} {me : ME} {fin : List D → PO} (hf : FinOk X.K fin) (hu : ∀ d us, up d = some us → ∀ p ∈ us, p.1 ∈ own.map (·.2))
    (hc : X.calm = true) (hN : X.N.Nodup) (hy : X.N[i]? = some y) (hyl : X.env.scope.names.lookup y = some .local)
    (hsw : swapsWith (.ListComp elt [⟨tg, iter, ifs, 0⟩] scope pos) (some (.Name y py)) spos.line X.env = pure true) (hi : SI X Wx tg iter mi) (ok : BlkOk X.N X.env.scope scope own)
    (hg : ∀ (s : Shared) (H : Hp) (C : Addr) (cl : List (Str × Addr)) (fp : List Addr), PG (X.blk s H scope (compEnvC scope cl C X.env) fp) tg (tDU X.K up)) (ht : ∀ (s : Shared) (H : Hp) (C : Addr) (cl : List (Str × Addr)) (fp : List Addr), PTs (X.blk s H scope (compEnvC scope cl C X.env) fp) ifs (tDT X.K (fun _ _ _ _ => False) mt))
    (he : ∀ (s : Shared) (H : Hp) (C : Addr) (cl : List (Str × Addr)) (fp : List Addr), SE (X.blk s H scope (compEnvC scope cl C X.env) fp) (fun _ _ _ _ => False) elt me) (hs : ∀ x, foldedSetIterable iter X.env x = pure x) :
    SS X Wx (.Assign [.Name y py] (.ListComp elt [⟨tg, iter, ifs, 0⟩] scope pos) spos) (sAsg (eLc fin mi up mt me (own.map (·.2))) (gNm i)) :=
  PS.imp (ps_setLc hc hN hy hyl hsw hi ok hg ht he hs) fun D σ H ⟨W, S, δ, g, r, p⟩ => tLc_of hf hu σ H _ ⟨W, S, δ, g, r, (flP_ofE (R := Rep X.K) r p).imp fun v H1 ⟨W1, S1, d, l1, g1, r1, p1⟩ => p1 W1 H1 _ W1.le_refl g1 ((r.mono l1).set i r1)⟩
end
end Ev
/-! # primitive operations -/
namespace Ev
open PySem PySem.SeqAt L2 PyProof.Rows
/-! ### data -/
mutual
def toP : D → Option PyData
  | .non => some .none
  | .bl b => some (.bool b)
  | .int i => some (.int i)
  | .str s => some (.str s)
  | .tup xs => (toPs xs).map .tuple
  | .lst xs => (toPs xs).map .list
  | .ins _ _ => none
  | .ref _ => none
  | .fn _ => none
  | .scr _ => none
  | .slf => none
def toPs : List D → Option (List PyData)
  | [] => some []
  | x :: xs => (toP x).bind fun a => (toPs xs).map fun b => a :: b
end
mutual
def toPS (S : Store) : D → Option PyData
  | .non => some .none
  | .bl b => some (.bool b)
  | .int i => some (.int i)
  | .str s => some (.str s)
  | .tup xs => (toPSs S xs).map .tuple
  | .lst xs => (toPSs S xs).map .list
  | .ref i => (plstOf S (.ref i)).bind fun ds => (toPs ds).map .list
  | .ins _ _ => none
  | .fn _ => none
  | .scr _ => none
  | .slf => none
def toPSs (S : Store) : List D → Option (List PyData)
  | [] => some []
  | x :: xs => (toPS S x).bind fun a => (toPSs S xs).map fun b => a :: b
end
section
variable {X : Cx} {pins : List (Addr × Obj)} {σ : L2.St} {H : Hp} {s : Shared} {W : Wd} {S : Store}
mutual
theorem reads_of' (I : Inv X pins σ H s) (g : Good X.K W S H) : ∀ (d : D) (v : V) (u : Value) (p : PyData), toP d = some p → Rep X.K W d v → RelV v u → p.plain = true ∧ ∃ as, Reads s.heap u p as
  | .non, v, u, p, e, q, r => by cases e; cases q; cases r; exact ⟨rfl, _, .none⟩
  | .bl b, v, u, p, e, q, r => by cases e; cases q; cases r; exact ⟨rfl, _, .bool b⟩
  | .int i, v, u, p, e, q, r => by cases e; cases q; obtain ⟨t, rfl⟩ := r; exact ⟨rfl, _, .int i t⟩
  | .str i, v, u, p, e, q, r => by cases e; cases q; obtain ⟨t, rfl⟩ := r; exact ⟨rfl, _, .str i t⟩
  | .tup ds, v, u, p, e, q, r => by
    simp only [toP] at e
    obtain ⟨ps, e1, rfl⟩ := Option.map_eq_some_iff.mp e
    cases q with
    | tup q r' =>
      cases r
      obtain ⟨its, rv, ⟨o, ho, hc, n, hd⟩, hz⟩ := I.tuple (g.sqT q)
      obtain ⟨pl, as, ra⟩ := readsAll_of' I g ds _ _ _ e1 r' rv
      exact ⟨pl, as, .tuple ho hc hd (by simpa using ra)⟩
  | .lst ds, v, u, p, e, q, r => by
    simp only [toP] at e
    obtain ⟨ps, e1, rfl⟩ := Option.map_eq_some_iff.mp e
    cases q with
    | lst q r' =>
      cases r
      obtain ⟨its, rv, ⟨o, n, ho, hc, _, hd⟩, hz⟩ := I.list (SqL.of (K := X.K) (g.sub _ _ q))
      obtain ⟨pl, as, ra⟩ := readsAll_of' I g ds _ _ _ e1 r' rv
      exact ⟨pl, _, .list ho hc hd (by simpa using ra)⟩
  | .ins _ _, v, u, p, e, q, r => by cases e
  | .ref _, v, u, p, e, q, r => by cases e
  | .fn _, v, u, p, e, q, r => by cases e
  | .scr _, v, u, p, e, q, r => by cases e
  | .slf, v, u, p, e, q, r => by cases e
theorem readsAll_of' (I : Inv X pins σ H s) (g : Good X.K W S H) : ∀ (ds : List D) (vs : List V) (us : List Value) (ps : List PyData), toPs ds = some ps → Reps X.K W ds vs → Vals vs us → PyData.plainAll ps = true ∧ ∃ as, ReadsAll s.heap us ps as
  | [], vs, us, ps, e, q, r => by cases e; cases q; cases r; exact ⟨rfl, _, .nil⟩
  | d :: ds, vs, us, ps, e, q, r => by
    simp only [toPs] at e
    obtain ⟨p1, e1, e2⟩ := Option.bind_eq_some_iff.mp e
    obtain ⟨p2, e3, rfl⟩ := Option.map_eq_some_iff.mp e2
    cases q with
    | cons q r' =>
      cases r with
      | cons ra rb =>
        obtain ⟨pl, as, h1⟩ := reads_of' I g d _ _ _ e1 q ra
        obtain ⟨pl2, bs, h2⟩ := readsAll_of' I g ds _ _ _ e3 r' rb
        exact ⟨by simp [PyData.plainAll, pl, pl2], _, .cons h1 h2⟩
end
theorem reads_of (I : Inv X pins σ H s) (g : Good X.K W S H) {d : D} {v : V} {u : Value} {p : PyData} (e : toP d = some p) (q : Rep X.K W d v) (r : RelV v u) : p.plain = true ∧ ∃ as, Reads s.heap u p as := reads_of' I g d v u p e q r
theorem readsAll_of (I : Inv X pins σ H s) (g : Good X.K W S H) {ds : List D} {vs : List V} {us : List Value} {ps : List PyData} (e : toPs ds = some ps) (q : Reps X.K W ds vs) (r : Vals vs us) : PyData.plainAll ps = true ∧ ∃ as, ReadsAll s.heap us ps as := readsAll_of' I g ds vs us ps e q r
mutual
theorem reads_ofS' (I : Inv X pins σ H s) (g : Good X.K W S H) : ∀ (d : D) (v : V) (u : Value) (p : PyData), toPS S d = some p → Rep X.K W d v → RelV v u → p.plain = true ∧ ∃ as, Reads s.heap u p as
  | .non, v, u, p, e, q, r => by simp only [toPS] at e; cases e; cases q; cases r; exact ⟨rfl, _, .none⟩
  | .bl b, v, u, p, e, q, r => by simp only [toPS] at e; cases e; cases q; cases r; exact ⟨rfl, _, .bool b⟩
  | .int i, v, u, p, e, q, r => by simp only [toPS] at e; cases e; cases q; obtain ⟨t, rfl⟩ := r; exact ⟨rfl, _, .int i t⟩
  | .str i, v, u, p, e, q, r => by simp only [toPS] at e; cases e; cases q; obtain ⟨t, rfl⟩ := r; exact ⟨rfl, _, .str i t⟩
  | .tup ds, v, u, p, e, q, r => by
    simp only [toPS] at e
    obtain ⟨ps, e1, rfl⟩ := Option.map_eq_some_iff.mp e
    cases q with
    | tup q r' =>
      cases r
      obtain ⟨its, rv, ⟨o, ho, hc, n, hd⟩, hz⟩ := I.tuple (g.sqT q)
      obtain ⟨pl, as, ra⟩ := readsAll_ofS' I g ds _ _ _ e1 r' rv
      exact ⟨pl, as, .tuple ho hc hd (by simpa using ra)⟩
  | .lst ds, v, u, p, e, q, r => by
    simp only [toPS] at e
    obtain ⟨ps, e1, rfl⟩ := Option.map_eq_some_iff.mp e
    cases q with
    | lst q r' =>
      cases r
      obtain ⟨its, rv, ⟨o, n, ho, hc, _, hd⟩, hz⟩ := I.list (SqL.of (K := X.K) (g.sub _ _ q))
      obtain ⟨pl, as, ra⟩ := readsAll_ofS' I g ds _ _ _ e1 r' rv
      exact ⟨pl, _, .list ho hc hd (by simpa using ra)⟩
  | .ref i, v, u, p, e, q, r => by
    simp only [toPS] at e
    obtain ⟨ds, e1, e2⟩ := Option.bind_eq_some_iff.mp e
    obtain ⟨ps, e3, rfl⟩ := Option.map_eq_some_iff.mp e2
    obtain ⟨a, vs, rfl, h1, h2⟩ := plstOf_ok e1 g q
    cases r
    obtain ⟨its, rv, ⟨o, n, ho, hc, _, hd⟩, hz⟩ := I.list (SqL.of (K := X.K) h1)
    obtain ⟨pl, as, ra⟩ := readsAll_of I g e3 h2 rv
    exact ⟨pl, _, .list ho hc hd (by simpa using ra)⟩
  | .ins _ _, v, u, p, e, q, r => by simp only [toPS] at e; cases e
  | .fn _, v, u, p, e, q, r => by simp only [toPS] at e; cases e
  | .scr _, v, u, p, e, q, r => by simp only [toPS] at e; cases e
  | .slf, v, u, p, e, q, r => by simp only [toPS] at e; cases e
theorem readsAll_ofS' (I : Inv X pins σ H s) (g : Good X.K W S H) : ∀ (ds : List D) (vs : List V) (us : List Value) (ps : List PyData), toPSs S ds = some ps → Reps X.K W ds vs → Vals vs us → PyData.plainAll ps = true ∧ ∃ as, ReadsAll s.heap us ps as
  | [], vs, us, ps, e, q, r => by simp only [toPSs] at e; cases e; cases q; cases r; exact ⟨rfl, _, .nil⟩
  | d :: ds, vs, us, ps, e, q, r => by
    simp only [toPSs] at e
    obtain ⟨p1, e1, e2⟩ := Option.bind_eq_some_iff.mp e
    obtain ⟨p2, e3, rfl⟩ := Option.map_eq_some_iff.mp e2
    cases q with
    | cons q r' =>
      cases r with
      | cons ra rb =>
        obtain ⟨pl, as, h1⟩ := reads_ofS' I g d _ _ _ e1 q ra
        obtain ⟨pl2, bs, h2⟩ := readsAll_ofS' I g ds _ _ _ e3 r' rb
        exact ⟨by simp [PyData.plainAll, pl, pl2], _, .cons h1 h2⟩
end
theorem reads_ofS (I : Inv X pins σ H s) (g : Good X.K W S H) {d : D} {v : V} {u : Value} {p : PyData} (e : toPS S d = some p) (q : Rep X.K W d v) (r : RelV v u) : p.plain = true ∧ ∃ as, Reads s.heap u p as := reads_ofS' I g d v u p e q r
end
section
variable {X : Cx}
theorem op_of {f : Value → Value → Sem Value} {r : R2} {g : D → D → PO} (h : OpR X f r) (k : ∀ W S H x y dx dy Q, Good X.K W S H → Rep X.K W dx x → Rep X.K W dy y → oV X.K W (g dx dy S) Q → r x y H Q) : OpR X f (rD2 X.K g) :=
  fun pins s σ H x y v u Q I rx ry ⟨W, S, dx, dy, gd, r1, r2, p⟩ => h pins s σ H x y v u Q I rx ry (k W S H x y dx dy Q gd r1 r2 p)
/-! ### arithmetic -/
def pInt2 (ok : Int → Int → Bool) (f : Int → Int → D) : D → D → PO := fun x y S => match x, y with
  | .int i, .int j => if ok i j = true then some (f i j, S) else none
  | _, _ => none
theorem pInt2_inv {ok : Int → Int → Bool} {f : Int → Int → D} {K : PySem.W.Frag} {W : Wd} {S : Store} {x y : V} {dx dy : D} {Q : VK} (r1 : Rep K W dx x) (r2 : Rep K W dy y) (p : oV K W (pInt2 ok f dx dy S) Q) :
    ∃ i j, x = .int i ∧ y = .int j ∧ ok i j = true ∧ oV K W (some (f i j, S)) Q := by
  cases r1 with
  | int i =>
    cases r2 with
    | int j =>
      simp only [pInt2] at p
      split at p
      · exact ⟨i, j, rfl, rfl, by assumption, p⟩
      · exact p.elim
    | _ => exact p.elim
  | _ => cases r2 <;> exact p.elim
def pSub : D → D → PO := pInt2 (fun _ _ => true) fun i j => .int (i - j)
theorem op_pSub : OpR X (binaryOp .Sub) (rD2 X.K pSub) := op_of op_sub fun W S H x y dx dy Q g r1 r2 p => by
  obtain ⟨i, j, rfl, rfl, _, o⟩ := pInt2_inv r1 r2 p
  exact ⟨i, j, rfl, rfl, o.val g (.int _)⟩
def mulOk (i j : Int) : Bool := decide (-(2 ^ 64) < i ∧ i < 2 ^ 64) || decide (-(2 ^ 64) < j ∧ j < 2 ^ 64)
theorem op_mulI : OpR X (binaryOp .Mult) (rD2 X.K (pInt2 mulOk fun i j => .int (i * j))) := op_of op_mul fun W S H x y dx dy Q g r1 r2 p => by
  obtain ⟨i, j, rfl, rfl, h, o⟩ := pInt2_inv r1 r2 p
  refine ⟨i, j, rfl, rfl, ?_, o.val g (.int _)⟩
  simp only [mulOk, Bool.or_eq_true, decide_eq_true_eq] at h
  exact h
def pFdiv : D → D → PO := pInt2 (fun _ j => decide (0 < j ∧ j < 1073741824)) fun i j => .int (i / j)
theorem op_pFdiv : OpR X (binaryOp .FloorDiv) (rD2 X.K pFdiv) := op_of op_fdiv fun W S H x y dx dy Q g r1 r2 p => by
  obtain ⟨i, j, rfl, rfl, h, o⟩ := pInt2_inv r1 r2 p
  exact ⟨i, j, rfl, rfl, of_decide_eq_true (p := 0 < j ∧ j < 1073741824) h, o.val g (.int _)⟩
def pMod : D → D → PO := pInt2 (fun _ j => decide (0 < j)) fun i j => .int (i % j)
theorem op_pMod : OpR X (binaryOp .Mod) (rD2 X.K pMod) := op_of op_mod fun W S H x y dx dy Q g r1 r2 p => by
  obtain ⟨i, j, rfl, rfl, h, o⟩ := pInt2_inv r1 r2 p
  exact ⟨i, j, rfl, rfl, of_decide_eq_true h, o.val g (.int _)⟩
def pPow : D → D → PO := pInt2 (fun i j => decide (0 ≤ j ∧ j ≤ 1000000 ∧ i.natAbs < 2 ^ 64)) fun i j => .int (i ^ j.toNat)
theorem op_pPow : OpR X (binaryOp .Pow) (rD2 X.K pPow) := op_of op_pow fun W S H x y dx dy Q g r1 r2 p => by
  obtain ⟨i, j, rfl, rfl, h, o⟩ := pInt2_inv r1 r2 p
  exact ⟨i, j, rfl, rfl, of_decide_eq_true (p := 0 ≤ j ∧ j ≤ 1000000 ∧ i.natAbs < 2 ^ 64) h, o.val g (.int _)⟩
def pNeg : D → PO := fun x S => match x with
  | .int i => some (.int (-i), S)
  | _ => none
theorem un_pNeg : UnR X (unaryOp .USub) (rD1 X.K pNeg) := fun pins s σ H x v Q I rx ⟨W, S, dx, g, r1, p⟩ => by
  cases r1 with
  | int i => exact un_neg pins s σ H _ v Q I rx ⟨i, rfl, p.val g (.int _)⟩
  | _ => exact p.elim
/-- a * b: ints; a list so many times -/
def pMul : D → D → PO := fun x y S => match x, y with
  | .int i, .int j => if mulOk i j = true then some (.int (i * j), S) else none
  | x, .int k => (match plstOf S x with
    | some xs => if -(2 ^ 63) ≤ k ∧ k < 2 ^ 63 ∧ xs.length * k.toNat ≤ sizeLine then newL (List.replicate k.toNat xs).flatten S else none
    | none => none)
  | _, _ => none
theorem reps_repl {K : PySem.W.Frag} {W : Wd} {xs : List D} {vs : List V} (r : Reps K W xs vs) : ∀ n : Nat, Reps K W (List.replicate n xs).flatten (List.replicate n vs).flatten
  | 0 => .nil
  | n + 1 => by
    simp only [List.replicate_succ, List.flatten_cons]
    exact r.append (reps_repl r n)
theorem op_pMul : OpR X (binaryOp .Mult) (rD2 X.K pMul) := fun pins s σ H x y v u Q I rx ry ⟨W, S, dx, dy, g, r1, r2, p⟩ => by
  have lst : ∀ {k : Int} {xs : List D}, plstOf S dx = some xs → y = .int k → oV X.K W (if -(2 ^ 63) ≤ k ∧ k < 2 ^ 63 ∧ xs.length * k.toNat ≤ sizeLine then newL (List.replicate k.toNat xs).flatten S else none) Q → wpAny (model X.prog X.w) X.A (binaryOp .Mult v u) (EP X pins σ Q) X.xe s := by
    intro k xs e ey p
    subst ey
    split at p
    · rename_i h
      obtain ⟨a, vs, rfl, h1, h2⟩ := plstOf_ok e g r1
      refine op_rep pins s σ H _ _ v u Q I rx ry ⟨a, k, vs, rfl, rfl, h1, h.1, h.2.1, by rw [← h2.length]; exact h.2.2, (newL_ok p g (reps_repl h2 k.toNat)).2⟩
    · exact p.elim
  cases r2 with
  | int k =>
    cases r1 with
    | int i =>
      refine op_mulI pins s σ H _ _ v u Q I rx ry ⟨W, S, .int i, .int k, g, .int i, .int k, p⟩
    | lst q r => exact lst rfl rfl p
    | ref h =>
      simp only [pMul] at p
      split at p
      · rename_i xs e
        exact lst e rfl p
      · exact p.elim
    | _ => exact p.elim
  | _ => cases r1 <;> exact p.elim
/-- a + b: ints, texts, tuples, lists -/
def pAdd : D → D → PO := fun x y S => match x, y with
  | .int i, .int j => some (.int (i + j), S)
  | .str a, .str b => if a.length + b.length ≤ sizeLine then some (.str (a ++ b), S) else none
  | .tup a, .tup b => newT (a ++ b) S
  | x, y => (match plstOf S x, plstOf S y with
    | some a, some b => newL (a ++ b) S
    | _, _ => none)
theorem op_pAdd : OpR X (binaryOp .Add) (rD2 X.K pAdd) := fun pins s σ H x y v u Q I rx ry ⟨W, S, dx, dy, g, r1, r2, p⟩ => by
  have lst : ∀ {xs ys : List D}, plstOf S dx = some xs → plstOf S dy = some ys → oV X.K W (newL (xs ++ ys) S) Q → wpAny (model X.prog X.w) X.A (binaryOp .Add v u) (EP X pins σ Q) X.xe s := by
    intro xs ys e1 e2 p
    obtain ⟨a, vs, rfl, h1, h2⟩ := plstOf_ok e1 g r1
    obtain ⟨b, us, rfl, h3, h4⟩ := plstOf_ok e2 g r2
    obtain ⟨hl, k⟩ := newL_ok p g (h2.append h4)
    exact op_cat pins s σ H _ _ v u Q I rx ry ⟨a, b, vs, us, rfl, rfl, h1, h3, by rw [← List.length_append]; exact hl, k⟩
  cases r1 with
  | int i =>
    cases r2 with
    | int j => exact op_add pins s σ H _ _ v u Q I rx ry ⟨i, j, rfl, rfl, p.val g (.int _)⟩
    | _ => simp [pAdd, plstOf] at p; exact p.elim
  | str a =>
    cases r2 with
    | str b =>
      simp only [pAdd] at p
      split at p
      · exact op_add_str pins s σ H _ _ v u Q I rx ry ⟨a, b, rfl, rfl, by assumption, p.val g (.str _)⟩
      · exact p.elim
    | _ => simp [pAdd, plstOf] at p; exact p.elim
  | @tup a vs ds q r =>
    cases r2 with
    | @tup b us es q2 r2 =>
      simp only [pAdd] at p
      have hp := p
      unfold newT at hp
      split at hp
      · rename_i hl
        refine op_catA pins s σ H _ _ v u Q I rx ry ⟨a, b, vs, us, rfl, rfl, g.sqT q, g.sqT q2, by rw [← r.length, ← r2.length, ← List.length_append]; exact hl, ?_⟩
        have el : es.length = us.length := r2.length
        have dl : ds.length = vs.length := r.length
        refine ⟨fun z => ?_, fun z z2 => ?_, fun z z2 => (newT_ok p g (r.append r2)).2⟩
        · subst z
          have : ds = [] := List.eq_nil_of_length_eq_zero (by rw [dl]; rfl)
          subst this
          exact hp.val g (.tup q2 r2)
        · subst z2
          have : es = [] := List.eq_nil_of_length_eq_zero (by rw [el]; rfl)
          subst this
          rw [List.append_nil] at hp
          exact hp.val g (.tup q r)
      · exact hp.elim
    | _ => simp [pAdd, plstOf] at p; exact p.elim
  | lst q r =>
    simp only [pAdd] at p
    split at p
    · rename_i e1 e2; exact lst e1 e2 p
    · exact p.elim
  | ref h =>
    simp only [pAdd] at p
    split at p
    · rename_i e1 e2; exact lst e1 e2 p
    · exact p.elim
  | _ => cases r2 <;> (simp [pAdd, plstOf] at p; exact p.elim)

/-! ### comparisons -/
def pLt : D → D → PO := pInt2 (fun _ _ => true) fun i j => .bl (decide (i < j))
def pLe : D → D → PO := pInt2 (fun _ _ => true) fun i j => .bl (decide (i ≤ j))
def pGt : D → D → PO := pInt2 (fun _ _ => true) fun i j => .bl (decide (j < i))
def pGe : D → D → PO := pInt2 (fun _ _ => true) fun i j => .bl (decide (j ≤ i))
theorem op_pLt : OpR X (compareOp .Lt) (rD2 X.K pLt) := op_of op_lt fun W S H x y dx dy Q g r1 r2 p => by
  obtain ⟨i, j, rfl, rfl, _, o⟩ := pInt2_inv r1 r2 p
  exact ⟨i, j, rfl, rfl, o.val g (.bl _)⟩
theorem op_pLe : OpR X (compareOp .LtE) (rD2 X.K pLe) := op_of op_le fun W S H x y dx dy Q g r1 r2 p => by
  obtain ⟨i, j, rfl, rfl, _, o⟩ := pInt2_inv r1 r2 p
  exact ⟨i, j, rfl, rfl, o.val g (.bl _)⟩
theorem op_pGt : OpR X (compareOp .Gt) (rD2 X.K pGt) := op_of op_gt fun W S H x y dx dy Q g r1 r2 p => by
  obtain ⟨i, j, rfl, rfl, _, o⟩ := pInt2_inv r1 r2 p
  exact ⟨i, j, rfl, rfl, o.val g (.bl _)⟩
theorem op_pGe : OpR X (compareOp .GtE) (rD2 X.K pGe) := op_of op_ge fun W S H x y dx dy Q g r1 r2 p => by
  obtain ⟨i, j, rfl, rfl, _, o⟩ := pInt2_inv r1 r2 p
  exact ⟨i, j, rfl, rfl, o.val g (.bl _)⟩
def eqD (S : Store) (x y : D) : Option Bool := match toPS S x, toPS S y with
  | some a, some b => if a.depth ≤ 60 then some (PyData.eqv a b) else none
  | _, _ => none
def pEq : D → D → PO := fun x y S => (eqD S x y).map fun b => (.bl b, S)
def pNe : D → D → PO := fun x y S => (eqD S x y).map fun b => (.bl (!b), S)
theorem eqD_inv {S : Store} {x y : D} {b : Bool} (h : eqD S x y = some b) : ∃ p q, toPS S x = some p ∧ toPS S y = some q ∧ p.depth ≤ 60 ∧ PyData.eqv p q = b := by
  unfold eqD at h
  cases e1 : toPS S x with
  | none => rw [e1] at h; cases h
  | some p =>
    cases e2 : toPS S y with
    | none => rw [e1, e2] at h; cases h
    | some q =>
      rw [e1, e2] at h
      simp only at h
      split at h
      · exact ⟨p, q, rfl, rfl, by assumption, Option.some.inj h⟩
      · cases h
theorem op_pEq (hu : X.A.units + 64 < cLine) : OpR X (compareOp .Eq) (rD2 X.K pEq) := fun pins s σ H x y v u Q I rx ry ⟨W, S, dx, dy, g, r1, r2, p⟩ => by
  unfold pEq at p
  cases e : eqD S dx dy with
  | none => rw [e] at p; exact p.elim
  | some b =>
    rw [e] at p
    obtain ⟨a, c, e1, e2, hd, rfl⟩ := eqD_inv e
    obtain ⟨p1, as, ra⟩ := reads_ofS I g e1 r1 rx
    obtain ⟨p2, bs, rb⟩ := reads_ofS I g e2 r2 ry
    exact eq_plain ra rb p1 p2 (by omega) ⟨.bl _, H, I, rfl, p.val g (.bl _)⟩
theorem op_pNe (hu : X.A.units + 64 < cLine) : OpR X (compareOp .NotEq) (rD2 X.K pNe) := fun pins s σ H x y v u Q I rx ry ⟨W, S, dx, dy, g, r1, r2, p⟩ => by
  unfold pNe at p
  cases e : eqD S dx dy with
  | none => rw [e] at p; exact p.elim
  | some b =>
    rw [e] at p
    obtain ⟨a, c, e1, e2, hd, rfl⟩ := eqD_inv e
    obtain ⟨p1, as, ra⟩ := reads_ofS I g e1 r1 rx
    obtain ⟨p2, bs, rb⟩ := reads_ofS I g e2 r2 ry
    exact ne_plain ra rb p1 p2 (by omega) ⟨.bl _, H, I, rfl, p.val g (.bl _)⟩
/-- x in y -/
def inD (S : Store) (x y : D) : Option Bool := match y with
  | .str z => (match x with
    | .str w => if w.length = 1 then some (decide (w.cps.getD 0 0 ∈ z.cps.toList)) else none
    | _ => none)
  | y => (match toPS S x, toPS S y with
    | some a, some (.list bs) => if a.depth ≤ 60 then some (bs.any fun b => PyData.eqv b a) else none
    | some a, some (.tuple bs) => if a.depth ≤ 60 then some (bs.any fun b => PyData.eqv b a) else none
    | _, _ => none)
def pIn : D → D → PO := fun x y S => (inD S x y).map fun b => (.bl b, S)
def pNotIn : D → D → PO := fun x y S => (inD S x y).map fun b => (.bl (!b), S)
theorem inD_inv {S : Store} {x y : D} {b : Bool} (h : inD S x y = some b) : (∃ (c : Nat) (z : Str), x = .str ⟨#[c]⟩ ∧ y = .str z ∧ b = decide (c ∈ z.cps.toList)) ∨
    ∃ a bs, toPS S x = some a ∧ (toPS S y = some (.list bs) ∨ toPS S y = some (.tuple bs)) ∧ a.depth ≤ 60 ∧ b = bs.any fun b => PyData.eqv b a := by
  have dat : ∀ {y : D}, (match toPS S x, toPS S y with
    | some a, some (.list bs) => if a.depth ≤ 60 then some (bs.any fun b => PyData.eqv b a) else none
    | some a, some (.tuple bs) => if a.depth ≤ 60 then some (bs.any fun b => PyData.eqv b a) else none
    | _, _ => none) = some b → ∃ a bs, toPS S x = some a ∧ (toPS S y = some (.list bs) ∨ toPS S y = some (.tuple bs)) ∧ a.depth ≤ 60 ∧ b = bs.any fun b => PyData.eqv b a := by
    intro y h
    split at h
    · rename_i a bs e1 e2
      split at h
      · exact ⟨a, bs, e1, .inl e2, by assumption, (Option.some.inj h).symm⟩
      · cases h
    · rename_i a bs e1 e2
      split at h
      · exact ⟨a, bs, e1, .inr e2, by assumption, (Option.some.inj h).symm⟩
      · cases h
    · cases h
  cases y with
  | str z =>
    simp only [inD] at h
    split at h
    · rename_i w
      split at h
      · rename_i hw
        left
        obtain ⟨⟨l⟩⟩ := w
        match l, hw with
        | [c], _ => exact ⟨c, z, rfl, rfl, by simpa using (Option.some.inj h).symm⟩
      · cases h
    · cases h
  | _ => exact .inr (dat h)
theorem op_pIn (hu : X.A.units + 64 < cLine) : OpR X (compareOp .In) (rD2 X.K pIn) := fun pins s σ H x y v u Q I rx ry ⟨W, S, dx, dy, g, r1, r2, p⟩ => by
  unfold pIn at p
  cases e : inD S dx dy with
  | none => rw [e] at p; exact p.elim
  | some b =>
    rw [e] at p
    rcases inD_inv e with ⟨c, z, rfl, rfl, rfl⟩ | ⟨a, bs, e1, e2, hd, rfl⟩
    · cases r1; cases r2
      exact op_in_sign pins s σ H _ _ v u Q I rx ry ⟨c, z, rfl, rfl, p.val g (.bl _)⟩
    · obtain ⟨p1, as, ra⟩ := reads_ofS I g e1 r1 rx
      rcases e2 with e2 | e2
      · obtain ⟨p2, bs', rb⟩ := reads_ofS I g e2 r2 ry
        exact in_list_data rb ra (by simpa [PyData.plain] using p2) p1 (by omega) ⟨.bl _, H, I, rfl, p.val g (.bl _)⟩
      · obtain ⟨p2, bs', rb⟩ := reads_ofS I g e2 r2 ry
        exact in_tuple_data rb ra (by simpa [PyData.plain] using p2) p1 (by omega) ⟨.bl _, H, I, rfl, p.val g (.bl _)⟩
theorem op_pNotIn (hu : X.A.units + 64 < cLine) : OpR X (compareOp .NotIn) (rD2 X.K pNotIn) := fun pins s σ H x y v u Q I rx ry ⟨W, S, dx, dy, g, r1, r2, p⟩ => by
  unfold pNotIn at p
  cases e : inD S dx dy with
  | none => rw [e] at p; exact p.elim
  | some b =>
    rw [e] at p
    rcases inD_inv e with ⟨c, z, rfl, rfl, rfl⟩ | ⟨a, bs, e1, e2, hd, rfl⟩
    · cases r1; cases r2
      exact op_notIn_sign pins s σ H _ _ v u Q I rx ry ⟨c, z, rfl, rfl, p.val g (.bl _)⟩
    · obtain ⟨p1, as, ra⟩ := reads_ofS I g e1 r1 rx
      rcases e2 with e2 | e2
      · obtain ⟨p2, bs', rb⟩ := reads_ofS I g e2 r2 ry
        exact notIn_list_data rb ra (by simpa [PyData.plain] using p2) p1 (by omega) ⟨.bl _, H, I, rfl, p.val g (.bl _)⟩
      · obtain ⟨p2, bs', rb⟩ := reads_ofS I g e2 r2 ry
        exact notIn_tuple_data rb ra (by simpa [PyData.plain] using p2) p1 (by omega) ⟨.bl _, H, I, rfl, p.val g (.bl _)⟩
/-- is None -/
def isNon : D → Bool
  | .non => true
  | _ => false
theorem isNon_ok {K : PySem.W.Frag} {W : Wd} {d : D} {v : V} (r : Rep K W d v) : isNon d = decide (v = .non) := by
  cases r <;> simp [isNon]
def pIs : D → D → PO := fun x y S => match y with
  | .non => some (.bl (isNon x), S)
  | _ => none
def pIsNot : D → D → PO := fun x y S => match y with
  | .non => some (.bl (!isNon x), S)
  | _ => none
theorem op_pIs : OpR X (compareOp .Is) (rD2 X.K pIs) := op_of op_isN fun W S H x y dx dy Q g r1 r2 p => by
  cases r2 with
  | non => exact ⟨rfl, by rw [← isNon_ok r1]; exact p.val g (.bl _)⟩
  | _ => exact p.elim
theorem op_pIsNot : OpR X (compareOp .IsNot) (rD2 X.K pIsNot) := op_of op_notN fun W S H x y dx dy Q g r1 r2 p => by
  cases r2 with
  | non => exact ⟨rfl, by rw [← isNon_ok r1]; exact p.val g (.bl _)⟩
  | _ => exact p.elim
/-! ### items -/
def pIx : D → D → PO := fun x y S => match x, y with
  | .str z, .int i => if z.length ≤ sizeLine then (atI z.cps.toList i).map fun c => (.str ⟨#[c]⟩, S) else none
  | x, .int i => (seqOf S x).bind fun xs => (atI xs i).map fun d => (d, S)
  | _, _ => none
theorem atI_reps {K : PySem.W.Frag} {W : Wd} {ds : List D} {vs : List V} {i : Int} {d : D} (r : Reps K W ds vs) (e : atI ds i = some d) : ∃ v, atI vs i = some v ∧ Rep K W d v := by
  unfold atI at e ⊢
  rw [← r.length]
  obtain ⟨j, e1, e2⟩ := Option.bind_eq_some_iff.mp e
  obtain ⟨v, h1, h2⟩ := r.get e2
  exact ⟨v, Option.bind_eq_some_iff.mpr ⟨j, e1, h1⟩, h2⟩
theorem ix_pIx : IxR X (rD2 X.K pIx) := fun value slice pins s σ H x y v u Q I rx ry ⟨W, S, dx, dy, g, r1, r2, p⟩ hs => by
  have sq : ∀ {i : Int}, y = .int i → oV X.K W ((seqOf S dx).bind fun xs => (atI xs i).map fun d => (d, S)) Q → wpAny (model X.prog X.w) X.A (subscriptTail value slice v u) (EP X pins σ Q) X.xe s := by
    intro i ey p
    subst ey
    cases e : seqOf S dx with
    | none => rw [e] at p; exact p.elim
    | some xs =>
      rw [e] at p
      simp only [Option.bind_some] at p
      cases e2 : atI xs i with
      | none => rw [e2] at p; exact p.elim
      | some d =>
        rw [e2] at p
        obtain ⟨a, vs, rfl, h2, h3⟩ := seqOf_ok e g r1
        obtain ⟨w, h4, h5⟩ := atI_reps h3 e2
        refine ix_seq value slice pins s σ H _ _ v u Q I rx ry ?_ hs
        rcases h2 with h2 | h2
        · exact .inl ⟨a, vs, i, w, rfl, rfl, h2, h4, p.val g h5⟩
        · exact .inr (.inl ⟨a, vs, i, w, rfl, rfl, h2, h4, p.val g h5⟩)
  cases r2 with
  | int i =>
    cases r1 with
    | str z =>
      simp only [pIx] at p
      split at p
      · rename_i hl
        cases e : atI z.cps.toList i with
        | none => rw [e] at p; exact p.elim
        | some c =>
          rw [e] at p
          exact ix_seq value slice pins s σ H _ _ v u Q I rx ry (.inr (.inr ⟨z, i, c, rfl, rfl, hl, e, p.val g (.str _)⟩)) hs
      · exact p.elim
    | _ => exact sq rfl p
  | _ => cases r1 <;> exact p.elim
end
end Ev
/-! # own defs: promises where the guards are known; calls by place and by name; methods; instances -/
namespace Ev
open PySem PySem.Spec PySem.SeqAt L2 PyProof.Rows
/-- a def's promise, asked only where no repr is under way -/
structure FnG (P : Program) (w : World) (K : PySem.W.Frag) (mg : Str → Option Value) (base : Heap) (k : Nat) (f : Addr) (fd : FuncData) (ps : List Str) (sp : Sp) : Prop where
  len : ∀ vs H Q E, sp vs H Q E → vs.length = ps.length
  run : ∀ (A : Around), A.guards = some [] → ∀ (outer : List Env) (s : Shared) (H : Hp) (args : Args) (us : List Value) (vs : List V) (Q : VK) (E : XK),
    Room k A → Env0 P w K mg base A outer s H → BindsTo s fd args (ps.zip us) → Vals vs us → sp vs H Q E →
    codeAny (model P w) A (.call (.ref f) args) (CR (L2.CX P w) outer P w H s Q E) s
theorem FnG.mono {P : Program} {w : World} {K : PySem.W.Frag} {mg : Str → Option Value} {base : Heap} {j k : Nat} {f : Addr} {fd : FuncData} {ps : List Str} {sp : Sp} (F : FnG P w K mg base j f fd ps sp) (h : j ≤ k) : FnG P w K mg base k f fd ps sp :=
  ⟨F.len, fun A hg outer s H args us vs Q E r => F.run A hg outer s H args us vs Q E (r.mono h)⟩
theorem FnG.never {P : Program} {w : World} {K : PySem.W.Frag} {mg : Str → Option Value} {base : Heap} {k : Nat} {f : Addr} {fd : FuncData} {ps : List Str} : FnG P w K mg base k f fd ps (fun _ _ _ _ => False) :=
  ⟨fun _ _ _ _ h => h.elim, fun _ _ _ _ _ _ _ _ _ _ _ _ _ _ h => h.elim⟩
/-- from the body's reading -/
theorem fnG_of {P : Program} {w : World} {K : PySem.W.Frag} {mg : Str → Option Value} {base : Heap} {k : Nat} {f : Addr} {name qual : Str} {params : Arguments} {body : List Stmt} {scope : Scope} {dvs : List V} {kws : List (Str × V)} {fd : FuncData} {N ps : List Str} {sp : Sp}
    (F : FunD K name qual params body scope dvs kws f fd) (Sc : FnScope N ps scope) (len : ∀ vs H Q E, sp vs H Q E → vs.length = ps.length)
    (bd : ∀ (cdv : Value) (A : Around) (outer : List Env) (s : Shared) (H : Hp) (vs : List V) (Q : VK) (E : XK), A.guards = some [] → Room k (A.deeper (envOfC qual scope s.heap.objs.size f cdv)) → sp vs H Q E →
      ∃ t, PSs (cxOf (L2.CX P w) P w K mg base N qual scope f cdv A outer s H E) body t ∧ t { nx := fun _ H' => Q .non H', rt := Q } (start N vs) H) : FnG P w K mg base (k + 1) f fd ps sp := by
  obtain ⟨oc, od, dV, kV, doc, pm, an, cdv, ct, osl, rfl, lk, hcd, _, _⟩ := F.ex
  refine ⟨len, fun A hg outer s H args us vs Q E room e0 hb rel want => ?_⟩
  have eqn := len _ _ _ _ want
  have KX : K.In s.heap := e0.mod.kin.keeps (fun b o e => (e0.bs b o e).left)
  have lim : s.heap.NoLimit := e0.mod.nolimit.keeps (fun b o e => (e0.bs b o e).left)
  refine codeAny_call_function room.depth (KX _ _ lk) rfl Sc.co Sc.gen rfl (PySem.W.codeRec_of KX hcd) (hb _ _ _ _ ?_)
  refine wpAny_newFunctionEnv_cells Sc.kind (fun ⟨n, v⟩ hy => ?_) (fun env he s1 x => ?_)
  · rcases Sc.par n (List.of_mem_zip hy).left with q | q
    · exact Or.inl q
    · exact Or.inr ⟨q, PySem.W.cellsFrom_some _ _ _ (Or.inl q)⟩
  · subst he
    refine ⟨lim.keeps x.toInCall.keep, codeAny_func ?_⟩
    obtain ⟨t, ht, hq⟩ := bd cdv A outer s H vs Q E hg (room.deeper _) want
    have J := inv_start (CX := L2.CX P w) (E := E) Sc room.hd e0 eqn rel x
    refine wpAny_mono (ht.run [] s1 (start N vs) H _ J hq) (fun fl s' hs => ?_) (fun _ _ hs => hs)
    cases fl with
    | ret u =>
      obtain ⟨v, _, H', J2, rv, q⟩ := hs
      exact ⟨v, H', J2.os, J2.bare, J2.base, J2.hok, rv, q⟩
    | next =>
      obtain ⟨_, H', J2, q⟩ := hs
      exact ⟨.non, H', J2.os, J2.bare, J2.base, J2.hok, rfl, q⟩
    | brk =>
      obtain ⟨_, _, _, q⟩ := hs
      exact q.elim
    | cont =>
      obtain ⟨_, _, _, q⟩ := hs
      exact q.elim

/-- the promise: what the evaluator's function says -/
def spM (K : PySem.W.Frag) (n : Nat) (m : List D → M D) : Sp := fun vs H Q E => vs.length = n ∧ ∃ W S ds, Good K W S H ∧ Reps K W ds vs ∧ okP K (Rep K) W (m ds S) [] (fun cls d _ H' => E cls d H') Q
/-- a value that may be called: what comes of it, by place and by name -/
def CallF (X : Cx) (Wx : WX) (f : Value) (ks : List Str) (m : List D → List D → M D) : Prop :=
  ∀ (pins : List (Addr × Obj)) (s : Shared) (σ : L2.St) (H : Hp) (vs zs : List V) (us ws : List Value) (Q : VK), Inv X pins σ H s → Vals vs us → Vals zs ws → zs.length = ks.length →
    (∃ W S ds es, Good X.K W S H ∧ Reps X.K W ds vs ∧ Reps X.K W es zs ∧ okP X.K (Rep X.K) W (m ds es S) σ Wx Q) → wpAny (model X.prog X.w) X.A (call f us (ks.zip ws)) (EP X pins σ Q) X.xe s
/-- how arguments come to parameters -/
structure BindG (K : PySem.W.Frag) (fd : FuncData) (ps ks : List Str) (pick : {α : Type} → List α → List α → Option (List α)) : Prop where
  to : ∀ (s : Shared) (us ws as : List Value), K.In s.heap → pick us ws = some as → as.length = ps.length → ws.length = ks.length → BindsTo s fd ⟨us, ks.zip ws⟩ (ps.zip as)
  rel : ∀ {α β : Type} {F : α → β → Prop} {xs ys : List α} {us ws : List β} {as : List α}, Paired F xs us → Paired F ys ws → pick xs ys = some as → ∃ bs, pick us ws = some bs ∧ Paired F as bs
section
variable {X : Cx} {Wx : WX}
theorem reps_paired {K : PySem.W.Frag} {W : Wd} : ∀ {ds : List D} {vs : List V}, Reps K W ds vs → Paired (fun d v => Rep K W d v) ds vs
  | _, _, .nil => .nil
  | _, _, .cons r t => .cons r (reps_paired t)
theorem paired_reps {K : PySem.W.Frag} {W : Wd} : ∀ {ds : List D} {vs : List V}, Paired (fun d v => Rep K W d v) ds vs → Reps K W ds vs
  | _, _, .nil => .nil
  | _, _, .cons r t => .cons r (paired_reps t)
/-- a def called -/
theorem callF_fn {k n : Nat} {f : Addr} {fd : FuncData} {ps ks : List Str} {m : List D → M D} {pick : {α : Type} → List α → List α → Option (List α)} (F : FnG X.prog X.w X.K X.mg X.base k f fd ps (spM X.K n m)) (hr : Room k X.A) (hg : X.A.guards = some [])
    (hb : BindG X.K fd ps ks pick) (hn : n = ps.length) (tk : Takes X Wx) : CallF X Wx (.ref f) ks (fun ds es S => match pick ds es with
      | some as => if as.length = n then m as S else .bad
      | none => .bad) := by
  intro pins s σ H vs zs us ws Q I r1 r2 hl ⟨W, S, ds, es, g, q1, q2, p⟩
  dsimp only at p
  cases e : pick ds es with
  | none => rw [e] at p; exact p.elim
  | some as =>
    rw [e] at p
    dsimp only at p
    split at p
    · rename_i hlen
      obtain ⟨bs, e2, q3⟩ := hb.rel (reps_paired q1) (reps_paired q2) e
      obtain ⟨cs, e3, q4⟩ := hb.rel (F := RelV) r1 r2 e2
      have hbs : bs.length = n := by rw [← hlen]; exact (Paired.length q3).symm
      have hcs : cs.length = ps.length := by rw [← hn, ← hbs]; exact (Paired.length q4).symm
      have want : spM X.K n m bs H Q (fun cls d H' => Wx cls d σ H') := ⟨hbs, W, S, as, g, paired_reps q3, by
        cases e5 : m as S with
        | ok d S' => rw [e5] at p; exact p
        | exc x S' => rw [e5] at p; exact p
        | bad => rw [e5] at p; exact p⟩
      refine wpAny_call (codeAny_mono (F.run X.A hg X.stack s H ⟨us, ks.zip ws⟩ cs bs Q _ hr I.env0 (hb.to s us ws cs I.kIn e3 hcs (by rw [← hl]; exact (Paired.length r2).symm)) q4 want) fun res s' hq => ?_)
      cases res with
      | error ex => exact tk ex s' (XE.of_call (W := Wx) I (fun cls d H' h => h) hq)
      | ok fl =>
        cases fl with
        | ret u => exact I.after hq
        | next => exact hq.elim
        | brk => exact hq.elim
        | cont => exact hq.elim
    · exact p.elim
variable {x nm : Str} {p pos apos : Pos} {e o : Expr} {es : List Expr} {kws : List Keyword} {ks : List Str} {mas mks : MA} {mo : ME} {m : List D → List D → M D} {f : Addr}
def eCallF (m : List D → List D → M D) (mas mks : MA) : ME := fun δ => M.bind (mas δ) fun xs => M.bind (mks δ) fun ys => m xs ys
/-- f(e, ..) -/
theorem se_call (hf : CallF X Wx (.ref f) [] m) (hgl : Gl X x) (hm : X.mg x = some (.ref f)) (hk : PySem.W.keepIn X.K (.ref f) = true) (hdb : (x == ("__debug__" : Str)) = false) (ha : SA X Wx (e :: es) mas)
    (he : starEach (e :: es) X.env = (false, eval e X.env) :: starEach es X.env) (hpl : (backTo pos (starEach es X.env)).any (·.1) = false) : SE X Wx (.Call (.Name x p) (e :: es) [] pos) (eCallF m mas aNil) :=
  ⟨fun pins s σ H Q I ⟨W, S, δ, g, r, pp⟩ => by
    refine wpAny_Call_Name_kw (ld_glob I hgl hm ?_ hdb)
    refine PySem.W.callWith_K (h₀ := X.base) I.ok.mod.kin hk (thn (ha.run pos pins s σ H _ I ⟨W, S, δ, g, r, okP.bind (R := Reps X.K) pp⟩) fun us s1 ⟨vs, H1, I1, rv, W1, S1, ds, l1, g1, r1, p1⟩ => ⟨I1.kIn, ?_⟩) he hpl
    exact hf pins s1 σ H1 vs [] us [] Q I1 rv .nil rfl ⟨W1, S1, ds, [], g1, r1, .nil, p1⟩⟩
/-- f() -/
theorem se_call0 (hf : CallF X Wx (.ref f) [] m) (hgl : Gl X x) (hm : X.mg x = some (.ref f)) (hk : PySem.W.keepIn X.K (.ref f) = true) (hdb : (x == ("__debug__" : Str)) = false) : SE X Wx (.Call (.Name x p) [] [] pos) (eCallF m aNil aNil) :=
  ⟨fun pins s σ H Q I ⟨W, S, δ, g, r, pp⟩ => by
    refine wpAny_Call_Name_kw (ld_glob I hgl hm ?_ hdb)
    exact PySem.W.callWith_K0 I.kIn hk (hf pins s σ H [] [] [] [] Q I .nil .nil rfl ⟨W, S, [], [], g, .nil, .nil, pp⟩)⟩
/-- o.m(e, ..): o an instance of the class at C whose method m is the def at f -/
def eMeth (c nm : Str) (m : List D → List D → M D) (mo : ME) (mas : MA) : ME := fun δ => M.bind (mo δ) fun x => M.bind (mas δ) fun xs => m (x :: xs) []
def clsOf (S : Store) : D → Option (Str × List (Str × D))
  | .ins c fs => some (c, fs)
  | .ref i => (match S[i]? with
    | some (some (.ins c fs)) => some (c, fs)
    | _ => none)
  | _ => none
theorem lookup_keys {α β : Type} {x : Str} : ∀ {fs : List (Str × α)} {gs : List (Str × β)}, gs.map (·.1) = fs.map (·.1) → fs.lookup x = none → gs.lookup x = none
  | [], [], _, _ => rfl
  | [], _ :: _, e, _ => by cases e
  | _ :: _, [], e, _ => by cases e
  | (a, _) :: fs, (b, _) :: gs, e, h => by
    simp only [List.map_cons, List.cons.injEq] at e
    obtain ⟨rfl, e⟩ := e
    simp only [List.lookup_cons] at h ⊢
    cases q : x == b with
    | true => rw [q] at h; cases h
    | false => rw [q] at h; exact lookup_keys e h
theorem lookup_reps {K : PySem.W.Frag} {W : Wd} {x : Str} {d : D} : ∀ {fs : List (Str × D)} {gs : List (Str × V)}, gs.map (·.1) = fs.map (·.1) → Reps K W (fs.map (·.2)) (gs.map (·.2)) → fs.lookup x = some d → ∃ v, gs.lookup x = some v ∧ Rep K W d v
  | [], _, _, _, h => by cases h
  | _ :: _, [], e, _, _ => by cases e
  | (a, d1) :: fs, (b, v1) :: gs, e, r, h => by
    simp only [List.map_cons, List.cons.injEq] at e
    obtain ⟨rfl, e⟩ := e
    cases r with
    | cons r1 r2 =>
      simp only [List.lookup_cons] at h ⊢
      cases q : x == b with
      | true => rw [q] at h; cases h; exact ⟨v1, rfl, r1⟩
      | false => rw [q] at h; exact lookup_reps e r2 h
theorem clsOf_ok {K : PySem.W.Frag} {W : Wd} {S : Store} {H : Hp} {d : D} {v : V} {c : Str} {fs : List (Str × D)} (e : clsOf S d = some (c, fs)) (g : Good K W S H) (r : Rep K W d v) :
    ∃ a dx vfs, v = .ref a ∧ H a = some (.ins (He.ga K c) dx vfs) ∧ vfs.map (·.1) = fs.map (·.1) ∧ Reps K W (fs.map (·.2)) (vfs.map (·.2)) := by
  cases r with
  | @ins a dx c' vfs fs' h1 h2 h3 =>
    cases e
    exact ⟨a, dx, vfs, rfl, g.sub _ _ h1, h2, h3⟩
  | @ref i a h =>
    simp only [clsOf] at e
    split at e
    · rename_i c' fs' hc
      cases e
      obtain ⟨a', e1, e2, _, dx, vfs, e3, e4, e5⟩ := g.cell i _ hc
      rw [h] at e1; cases e1
      exact ⟨a, dx, vfs, rfl, e3, e4, e5⟩
    · cases e
  | _ => cases e
/-- o.f: an attribute that the instance has -/
def eFld (ok : Str → Bool) (f : Str) (mo : ME) : ME := fun δ => M.bind (mo δ) fun x S => match clsOf S x with
  | some (c, fs) => if ok c = true then (match fs.lookup f with
    | some d => .ok d S
    | none => .bad) else .bad
  | none => .bad
theorem se_fld {ok : Str → Bool} {fl : Str} (ho : SE X Wx o mo) (hcls : ∀ c, ok c = true → Cls X.K (He.ga X.K c) ∧ NoAttr X.K (He.ga X.K c) fl) (hb : attributeBase o fl X.env (eval o X.env) = eval o X.env) : SE X Wx (.Attribute o fl pos) (eFld ok fl mo) :=
  PE.imp (pe_fld ho hb) fun σ H Q ⟨W, S, δ, g, r, p⟩ => ⟨W, S, δ, g, r, (okP.bind (R := Rep X.K) p).imp fun v H1 ⟨W1, S1, d, l1, g1, r1, p1⟩ => by
    cases e : clsOf S1 d with
    | none => rw [e] at p1; exact p1.elim
    | some q =>
      obtain ⟨c, fs⟩ := q
      rw [e] at p1
      dsimp only at p1
      split at p1
      · rename_i hok
        cases e2 : fs.lookup fl with
        | none => rw [e2] at p1; exact p1.elim
        | some d2 =>
          rw [e2] at p1
          obtain ⟨a, dx, vfs, rfl, h1, h2, h3⟩ := clsOf_ok e g1 r1
          obtain ⟨v2, h4, h5⟩ := lookup_reps h2 h3 e2
          exact ⟨a, _, dx, vfs, v2, rfl, h1, (hcls c hok).1, (hcls c hok).2, h4, p1 W1 H1 v2 W1.le_refl g1 h5⟩
      · exact p1.elim⟩
end
end Ev
/-! # built-in functions, methods and stores by values -/
namespace Ev
open PySem PySem.Spec PySem.SeqAt L2 PyProof.Rows
section
variable {X : Cx}
theorem call_of {f : Value} {r : List V → Hp → VK → Prop} {g : List D → PO} (h : CallR X f r) (k : ∀ W S H vs ds Q, Good X.K W S H → Reps X.K W ds vs → oV X.K W (g ds S) Q → r vs H Q) : CallR X f (rDC X.K g) :=
  fun pins s σ H vs us Q I rv ⟨W, S, ds, gd, r1, p⟩ => h pins s σ H vs us Q I rv (k W S H vs ds Q gd r1 p)
theorem reps1 {K : PySem.W.Frag} {W : Wd} {d : D} {vs : List V} (r : Reps K W [d] vs) : ∃ v, vs = [v] ∧ Rep K W d v := by
  cases r with
  | cons r t => cases t; exact ⟨_, rfl, r⟩
theorem reps2 {K : PySem.W.Frag} {W : Wd} {d e : D} {vs : List V} (r : Reps K W [d, e] vs) : ∃ v u, vs = [v, u] ∧ Rep K W d v ∧ Rep K W e u := by
  cases r with
  | cons r t =>
    obtain ⟨u, rfl, q⟩ := reps1 t
    exact ⟨_, u, rfl, r, q⟩
def intsOf : List D → Option (List Int)
  | [] => some []
  | .int i :: ds => (intsOf ds).map fun l => i :: l
  | _ :: _ => none
theorem intsOf_ok {K : PySem.W.Frag} {W : Wd} : ∀ {ds : List D} {vs : List V} {ns : List Int}, intsOf ds = some ns → Reps K W ds vs → ds = ns.map D.int ∧ vs = ns.map V.int
  | [], _, _, e, .nil => by cases e; exact ⟨rfl, rfl⟩
  | .int i :: ds, _, _, e, .cons r t => by
    simp only [intsOf] at e
    obtain ⟨l, e1, rfl⟩ := Option.map_eq_some_iff.mp e
    cases r
    obtain ⟨h1, h2⟩ := intsOf_ok e1 t
    exact ⟨by rw [h1]; rfl, by rw [h2]; rfl⟩
  | .non :: _, _, _, e, _ | .bl _ :: _, _, _, e, _ | .str _ :: _, _, _, e, _ | .tup _ :: _, _, _, e, _ | .lst _ :: _, _, _, e, _ | .ins _ _ :: _, _, _, e, _ | .ref _ :: _, _, _, e, _ | .fn _ :: _, _, _, e, _ | .scr _ :: _, _, _, e, _ | .slf :: _, _, _, e, _ => by cases e
def blsOf : List D → Option (List Bool)
  | [] => some []
  | .bl i :: ds => (blsOf ds).map fun l => i :: l
  | _ :: _ => none
theorem blsOf_ok {K : PySem.W.Frag} {W : Wd} : ∀ {ds : List D} {vs : List V} {ns : List Bool}, blsOf ds = some ns → Reps K W ds vs → ds = ns.map D.bl ∧ vs = ns.map V.bl
  | [], _, _, e, .nil => by cases e; exact ⟨rfl, rfl⟩
  | .bl i :: ds, _, _, e, .cons r t => by
    simp only [blsOf] at e
    obtain ⟨l, e1, rfl⟩ := Option.map_eq_some_iff.mp e
    cases r
    obtain ⟨h1, h2⟩ := blsOf_ok e1 t
    exact ⟨by rw [h1]; rfl, by rw [h2]; rfl⟩
  | .non :: _, _, _, e, _ | .int _ :: _, _, _, e, _ | .str _ :: _, _, _, e, _ | .tup _ :: _, _, _, e, _ | .lst _ :: _, _, _, e, _ | .ins _ _ :: _, _, _, e, _ | .ref _ :: _, _, _, e, _ | .fn _ :: _, _, _, e, _ | .scr _ :: _, _, _, e, _ | .slf :: _, _, _, e, _ => by cases e
def strsOf : List D → Option (List Str)
  | [] => some []
  | .str i :: ds => (strsOf ds).map fun l => i :: l
  | _ :: _ => none
theorem strsOf_ok {K : PySem.W.Frag} {W : Wd} : ∀ {ds : List D} {vs : List V} {ns : List Str}, strsOf ds = some ns → Reps K W ds vs → ds = ns.map D.str ∧ vs = ns.map V.str
  | [], _, _, e, .nil => by cases e; exact ⟨rfl, rfl⟩
  | .str i :: ds, _, _, e, .cons r t => by
    simp only [strsOf] at e
    obtain ⟨l, e1, rfl⟩ := Option.map_eq_some_iff.mp e
    cases r
    obtain ⟨h1, h2⟩ := strsOf_ok e1 t
    exact ⟨by rw [h1]; rfl, by rw [h2]; rfl⟩
  | .non :: _, _, _, e, _ | .int _ :: _, _, _, e, _ | .bl _ :: _, _, _, e, _ | .tup _ :: _, _, _, e, _ | .lst _ :: _, _, _, e, _ | .ins _ _ :: _, _, _, e, _ | .ref _ :: _, _, _, e, _ | .fn _ :: _, _, _, e, _ | .scr _ :: _, _, _, e, _ | .slf :: _, _, _, e, _ => by cases e
theorem reps_strs {K : PySem.W.Frag} {W : Wd} : ∀ ns : List Str, Reps K W (ns.map D.str) (ns.map V.str)
  | [] => .nil
  | n :: ns => .cons (.str n) (reps_strs ns)
/-! len, abs, min, max, sum, int, str, all, any, divmod -/
def pLen : List D → PO := fun ds S => match ds with
  | [.str z] => if z.length ≤ sizeLine then some (.int z.length, S) else none
  | [x] => (seqOf S x).map fun xs => (.int xs.length, S)
  | _ => none
theorem cr_pLen : CallR X (.builtin "len") (rDC X.K pLen) := call_of call_len fun W S H vs ds Q g r p => by
  match ds, r, p with
  | [], _, p => exact p.elim
  | [d], r, p =>
    obtain ⟨v, rfl, q⟩ := reps1 r
    have sq : oV X.K W ((seqOf S d).map fun xs => (.int xs.length, S)) Q → ∃ x n, [v] = [x] ∧ LenV X.K x H n ∧ Q (.int n) H := fun p => by
      cases e : seqOf S d with
      | none => rw [e] at p; exact p.elim
      | some xs =>
        rw [e] at p
        obtain ⟨a, us, rfl, h2, h3⟩ := seqOf_ok e g q
        refine ⟨_, xs.length, rfl, ?_, p.val g (.int _)⟩
        rcases h2 with h2 | h2
        · exact .inl ⟨us, h2, h3.length⟩
        · exact .inr ⟨us, h2, h3.length⟩
    cases q with
    | str z =>
      simp only [pLen] at p
      split at p
      · exact ⟨_, z.length, rfl, ⟨by assumption, rfl⟩, p.val g (.int _)⟩
      · exact p.elim
    | _ => exact sq p
  | a :: _ :: _, _, p => cases a <;> exact p.elim
def pAbs : List D → PO := fun ds S => match ds with
  | [.int i] => some (.int (if i < 0 then -i else i), S)
  | _ => none
theorem cr_pAbs : CallR X (.builtin "abs") (rDC X.K pAbs) := call_of call_abs fun W S H vs ds Q g r p => by
  match ds, r, p with
  | [.int i], r, p =>
    obtain ⟨v, rfl, q⟩ := reps1 r
    cases q
    exact ⟨i, rfl, p.val g (.int _)⟩
def minL : List Int → Int
  | [] => 0
  | [x] => x
  | x :: y :: r => if x ≤ minL (y :: r) then x else minL (y :: r)
theorem minL_ok : ∀ l : List Int, l ≠ [] → minL l ∈ l ∧ ∀ y ∈ l, minL l ≤ y
  | [], h => (h rfl).elim
  | [x], _ => ⟨by simp [minL], by simp [minL]⟩
  | x :: y :: r, _ => by
    obtain ⟨h1, h2⟩ := minL_ok (y :: r) (by simp)
    unfold minL
    split
    · rename_i h
      refine ⟨by simp, fun z hz => ?_⟩
      rcases List.mem_cons.mp hz with rfl | hz
      · exact Int.le_refl _
      · exact Int.le_trans h (h2 z hz)
    · rename_i h
      refine ⟨List.mem_cons_of_mem _ h1, fun z hz => ?_⟩
      rcases List.mem_cons.mp hz with rfl | hz
      · omega
      · exact h2 z hz
def maxL : List Int → Int
  | [] => 0
  | [x] => x
  | x :: y :: r => if maxL (y :: r) ≤ x then x else maxL (y :: r)
theorem maxL_ok : ∀ l : List Int, l ≠ [] → maxL l ∈ l ∧ ∀ y ∈ l, y ≤ maxL l
  | [], h => (h rfl).elim
  | [x], _ => ⟨by simp [maxL], by simp [maxL]⟩
  | x :: y :: r, _ => by
    obtain ⟨h1, h2⟩ := maxL_ok (y :: r) (by simp)
    unfold maxL
    split
    · rename_i h
      refine ⟨by simp, fun z hz => ?_⟩
      rcases List.mem_cons.mp hz with rfl | hz
      · exact Int.le_refl _
      · exact Int.le_trans (h2 z hz) h
    · rename_i h
      refine ⟨List.mem_cons_of_mem _ h1, fun z hz => ?_⟩
      rcases List.mem_cons.mp hz with rfl | hz
      · omega
      · exact h2 z hz
def pMin : List D → PO := fun ds S => match ds with
  | [x, y] => (match x, y with
    | .int i, .int j => some (.int (if j < i then j else i), S)
    | _, _ => none)
  | [x] => ((lstOf S x).bind intsOf).bind fun ns => if ns = [] then none else some (.int (minL ns), S)
  | _ => none
def pMax : List D → PO := fun ds S => match ds with
  | [x, y] => (match x, y with
    | .int i, .int j => some (.int (if j > i then j else i), S)
    | _, _ => none)
  | [x] => ((lstOf S x).bind intsOf).bind fun ns => if ns = [] then none else some (.int (maxL ns), S)
  | _ => none
theorem ints_of_lst {W : Wd} {S : Store} {H : Hp} {d : D} {v : V} {ns : List Int} (g : Good X.K W S H) (q : Rep X.K W d v) (e : (lstOf S d).bind intsOf = some ns) : ∃ a, v = .ref a ∧ SqL X.K H a (ns.map V.int) := by
  obtain ⟨xs, e1, e2⟩ := Option.bind_eq_some_iff.mp e
  obtain ⟨a, us, rfl, h2, h3⟩ := lstOf_ok e1 g q
  obtain ⟨rfl, rfl⟩ := intsOf_ok e2 h3
  exact ⟨a, rfl, h2⟩
theorem cr_pMin (hc : X.calm = true) : CallR X (.builtin "min") (rDC X.K pMin) := fun pins s σ H vs us Q I rv ⟨W, S, ds, g, r, p⟩ => by
  have one : ∀ {d : D}, ds = [d] → oV X.K W (((lstOf S d).bind intsOf).bind fun ns => if ns = [] then none else some (.int (minL ns), S)) Q → wpAny (model X.prog X.w) X.A (call (.builtin "min") us) (EP X pins σ Q) X.xe s := by
    intro d ed p'
    clear p
    subst ed
    obtain ⟨v, rfl, q⟩ := reps1 r
    cases e : (lstOf S d).bind intsOf with
    | none => rw [e] at p'; exact p'.elim
    | some ns =>
      rw [e] at p'
      simp only [Option.bind_some] at p'
      split at p'
      · exact p'.elim
      · rename_i hn
        obtain ⟨a, rfl, h⟩ := ints_of_lst g q e
        obtain ⟨m1, m2⟩ := minL_ok ns hn
        refine cr_min hc pins s σ H _ us Q I rv ⟨a, ns, rfl, h, List.length_pos_iff.mpr hn, fun m h1 h2 => ?_⟩
        have : m = minL ns := Int.le_antisymm (h2 _ m1) (m2 _ h1)
        rw [this]
        exact p'.val g (.int _)
  match ds, r, p, @one with
  | [], _, p, _ => exact p.elim
  | [d], _, p, one => exact @one d rfl p
  | [d, e], r, p, _ =>
    obtain ⟨v, u, rfl, q1, q2⟩ := reps2 r
    cases q1 with
    | int i =>
      cases q2 with
      | int j => exact call_min2 hc pins s σ H _ us Q I rv ⟨i, j, rfl, p.val g (.int _)⟩
      | _ => exact p.elim
    | _ => cases q2 <;> exact p.elim
  | _ :: _ :: _ :: _, _, p, _ => exact p.elim
theorem cr_pMax (hc : X.calm = true) : CallR X (.builtin "max") (rDC X.K pMax) := fun pins s σ H vs us Q I rv ⟨W, S, ds, g, r, p⟩ => by
  have one : ∀ {d : D}, ds = [d] → oV X.K W (((lstOf S d).bind intsOf).bind fun ns => if ns = [] then none else some (.int (maxL ns), S)) Q → wpAny (model X.prog X.w) X.A (call (.builtin "max") us) (EP X pins σ Q) X.xe s := by
    intro d ed p'
    clear p
    subst ed
    obtain ⟨v, rfl, q⟩ := reps1 r
    cases e : (lstOf S d).bind intsOf with
    | none => rw [e] at p'; exact p'.elim
    | some ns =>
      rw [e] at p'
      simp only [Option.bind_some] at p'
      split at p'
      · exact p'.elim
      · rename_i hn
        obtain ⟨a, rfl, h⟩ := ints_of_lst g q e
        obtain ⟨m1, m2⟩ := maxL_ok ns hn
        refine cr_max hc pins s σ H _ us Q I rv ⟨a, ns, rfl, h, List.length_pos_iff.mpr hn, fun m h1 h2 => ?_⟩
        have : m = maxL ns := Int.le_antisymm (m2 _ h1) (h2 _ m1)
        rw [this]
        exact p'.val g (.int _)
  match ds, r, p, @one with
  | [], _, p, _ => exact p.elim
  | [d], _, p, one => exact @one d rfl p
  | [d, e], r, p, _ =>
    obtain ⟨v, u, rfl, q1, q2⟩ := reps2 r
    cases q1 with
    | int i =>
      cases q2 with
      | int j => exact call_max2 hc pins s σ H _ us Q I rv ⟨i, j, rfl, p.val g (.int _)⟩
      | _ => exact p.elim
    | _ => cases q2 <;> exact p.elim
  | _ :: _ :: _ :: _, _, p, _ => exact p.elim
def pSum : List D → PO := fun ds S => match ds with
  | [x] => ((lstOf S x).bind intsOf).map fun ns => (.int ns.sum, S)
  | _ => none
theorem cr_pSum (hc : X.calm = true) : CallR X (.builtin "sum") (rDC X.K pSum) := call_of (cr_sum hc) fun W S H vs ds Q g r p => by
  match ds, r, p with
  | [d], r, p =>
    obtain ⟨v, rfl, q⟩ := reps1 r
    simp only [pSum] at p
    cases e : (lstOf S d).bind intsOf with
    | none => rw [e] at p; exact p.elim
    | some ns =>
      rw [e] at p
      obtain ⟨a, rfl, h⟩ := ints_of_lst g q e
      exact ⟨a, ns, rfl, h, p.val g (.int _)⟩
def pAll (b : Bool) : List D → PO := fun ds S => match ds with
  | [x] => ((lstOf S x).bind blsOf).map fun ns => (.bl (if b then ns.all id else ns.any id), S)
  | _ => none
theorem bls_of_lst {W : Wd} {S : Store} {H : Hp} {d : D} {v : V} {ns : List Bool} (g : Good X.K W S H) (q : Rep X.K W d v) (e : (lstOf S d).bind blsOf = some ns) : ∃ a, v = .ref a ∧ SqL X.K H a (ns.map V.bl) := by
  obtain ⟨xs, e1, e2⟩ := Option.bind_eq_some_iff.mp e
  obtain ⟨a, us, rfl, h2, h3⟩ := lstOf_ok e1 g q
  obtain ⟨rfl, rfl⟩ := blsOf_ok e2 h3
  exact ⟨a, rfl, h2⟩
theorem cr_pAll (hc : X.calm = true) : CallR X (.builtin "all") (rDC X.K (pAll true)) := call_of (cr_all hc) fun W S H vs ds Q g r p => by
  match ds, r, p with
  | [d], r, p =>
    obtain ⟨v, rfl, q⟩ := reps1 r
    simp only [pAll] at p
    cases e : (lstOf S d).bind blsOf with
    | none => rw [e] at p; exact p.elim
    | some ns =>
      rw [e] at p
      obtain ⟨a, rfl, h⟩ := bls_of_lst g q e
      exact ⟨a, ns, rfl, h, p.val g (.bl _)⟩
theorem cr_pAny (hc : X.calm = true) : CallR X (.builtin "any") (rDC X.K (pAll false)) := call_of (cr_any hc) fun W S H vs ds Q g r p => by
  match ds, r, p with
  | [d], r, p =>
    obtain ⟨v, rfl, q⟩ := reps1 r
    simp only [pAll] at p
    cases e : (lstOf S d).bind blsOf with
    | none => rw [e] at p; exact p.elim
    | some ns =>
      rw [e] at p
      obtain ⟨a, rfl, h⟩ := bls_of_lst g q e
      exact ⟨a, ns, rfl, h, p.val g (.bl _)⟩
def pDivmod : List D → PO := fun ds S => match ds with
  | [.int i, .int j] => if 0 < j ∧ j < 1073741824 then some (.tup [.int (i / j), .int (i % j)], S) else none
  | _ => none
theorem cr_pDivmod : CallR X (.builtin "divmod") (rDC X.K pDivmod) := call_of call_divmod fun W S H vs ds Q g r p => by
  match ds, r, p with
  | [.int i, .int j], r, p =>
    obtain ⟨v, u, rfl, q1, q2⟩ := reps2 r
    cases q1; cases q2
    simp only [pDivmod] at p
    split at p
    · rename_i h
      exact ⟨i, j, rfl, h, fun a n => p.new g n (.tup (SqT.of upd_same) (.cons (.int _) (.cons (.int _) .nil)))⟩
    · exact p.elim
def pInt : List D → PO := fun ds S => match ds with
  | [.int i] => some (.int i, S)
  | [.bl b] => some (.int (if b then 1 else 0), S)
  | [.str a] => if a.length ≤ 640 then (PySem.intText? a).map fun n => (.int n, S) else none
  | _ => none
theorem cr_pInt : CallR X (.type "int") (rDC X.K pInt) := fun pins s σ H vs us Q I rv ⟨W, S, ds, g, r, p⟩ => by
  match ds, r, p with
  | [.int i], r, p =>
    obtain ⟨v, rfl, q⟩ := reps1 r
    cases q
    exact call_int1 pins s σ H _ us Q I rv (.inl ⟨i, rfl, p.val g (.int _)⟩)
  | [.bl i], r, p =>
    obtain ⟨v, rfl, q⟩ := reps1 r
    cases q
    exact call_int1 pins s σ H _ us Q I rv (.inr ⟨i, rfl, p.val g (.int _)⟩)
  | [.str a], r, p =>
    obtain ⟨v, rfl, q⟩ := reps1 r
    cases q
    simp only [pInt] at p
    split at p
    · rename_i h
      cases e : PySem.intText? a with
      | none => rw [e] at p; exact p.elim
      | some n =>
        rw [e] at p
        exact call_int_str pins s σ H _ us Q I rv ⟨a, n, rfl, e, h, p.val g (.int _)⟩
    · exact p.elim
def pStr : List D → PO := fun ds S => match ds with
  | [.int i] => if i.natAbs.log2 < 1920 then some (.str (toString i), S) else none
  | [.str a] => some (.str a, S)
  | _ => none
theorem cr_pStr : CallR X (.type "str") (rDC X.K pStr) := fun pins s σ H vs us Q I rv ⟨W, S, ds, g, r, p⟩ => by
  match ds, r, p with
  | [.int i], r, p =>
    obtain ⟨v, rfl, q⟩ := reps1 r
    cases q
    simp only [pStr] at p
    split at p
    · exact call_str_int pins s σ H _ us Q I rv ⟨i, rfl, by assumption, p.val g (.str _)⟩
    · exact p.elim
  | [.str a], r, p =>
    obtain ⟨v, rfl, q⟩ := reps1 r
    cases q
    exact SkE.call_str_str pins s σ H _ us Q I rv ⟨a, rfl, p.val g (.str _)⟩
def pList (fin : List D → PO) : List D → PO := fun ds S => match ds with
  | [x] => (seqOf S x).bind fun xs => fin xs S
  | _ => none
theorem cr_pList {fin : List D → PO} (hf : ∀ {W : Wd} {S : Store} {H : Hp} {xs : List D} {vs : List V} {Q : VK}, oV X.K W (fin xs S) Q → Good X.K W S H → Reps X.K W xs vs → vs.length ≤ sizeLine ∧ ∀ a, H a = none → Q (.ref a) (upd H a (.lst vs))) :
    CallR X (.type "list") (rDC X.K (pList fin)) := call_of call_list_of fun W S H vs ds Q g r p => by
  match ds, r, p with
  | [d], r, p =>
    obtain ⟨v, rfl, q⟩ := reps1 r
    simp only [pList] at p
    cases e : seqOf S d with
    | none => rw [e] at p; exact p.elim
    | some xs =>
      rw [e] at p
      obtain ⟨a, us, rfl, h2, h3⟩ := seqOf_ok e g q
      exact ⟨a, us, rfl, h2, (hf p g h3).2⟩
def pTuple : List D → PO := fun ds S => match ds with
  | [.tup xs] => some (.tup xs, S)
  | [x] => (lstOf S x).bind fun xs => newT xs S
  | _ => none
theorem cr_pTuple : CallR X (.type "tuple") (rDC X.K pTuple) := call_of call_tuple_of fun W S H vs ds Q g r p => by
  match ds, r, p with
  | [], _, p => exact p.elim
  | a :: _ :: _, _, p => cases a <;> exact p.elim
  | [d], r, p =>
    obtain ⟨v, rfl, q⟩ := reps1 r
    have ls : oV X.K W ((lstOf S d).bind fun xs => newT xs S) Q → ∃ p ys, [v] = [.ref p] ∧ ((SqL X.K H p ys ∧ ∀ l, H l = none → Q (.ref l) (upd H l (.tup ys))) ∨ (SqT X.K H p ys ∧ Q (.ref p) H)) := fun p => by
      cases e : lstOf S d with
      | none => rw [e] at p; exact p.elim
      | some xs =>
        rw [e] at p
        obtain ⟨a, us, rfl, h2, h3⟩ := lstOf_ok e g q
        exact ⟨a, us, rfl, .inl ⟨h2, (newT_ok p g h3).2⟩⟩
    cases q with
    | @tup a us ds q r' => exact ⟨a, us, rfl, .inr ⟨g.sqT q, p.val g (.tup q r')⟩⟩
    | _ => exact ls p
/-! repr of data -/
def pRepr : List D → PO := fun ds S => match ds with
  | [x] => (match toPS S x with
    | some p => (match p with
      | .list _ => if p.showable = true ∧ p.shown.length ≤ sizeLine ∧ p.depth ≤ 60 then some (.str p.shown, S) else none
      | .tuple _ => if p.showable = true ∧ p.shown.length ≤ sizeLine ∧ p.depth ≤ 60 then some (.str p.shown, S) else none
      | _ => none)
    | none => none)
  | _ => none
mutual
theorem plain_hasDict : ∀ p : PyData, p.plain = true → p.hasDict = false
  | .none, _ => rfl
  | .bool _, _ => rfl
  | .int _, _ => rfl
  | .str _, _ => rfl
  | .list xs, h => by simp only [PyData.hasDict]; exact plain_hasDictAll xs (by simpa [PyData.plain] using h)
  | .tuple xs, h => by simp only [PyData.hasDict]; exact plain_hasDictAll xs (by simpa [PyData.plain] using h)
  | .dict _, h => by cases h
theorem plain_hasDictAll : ∀ ps : List PyData, PyData.plainAll ps = true → PyData.hasDictAll ps = false
  | [], _ => rfl
  | p :: ps, h => by
    simp only [PyData.plainAll, Bool.and_eq_true] at h
    simp only [PyData.hasDictAll, Bool.or_eq_false_iff]
    exact ⟨plain_hasDict p h.1, plain_hasDictAll ps h.2⟩
end
theorem cr_pRepr (hg : X.A.guards = some []) (hu : X.A.units + 64 < cLine) : CallR X (.builtin "repr") (rDC X.K pRepr) := fun pins s σ H vs us Q I rv ⟨W, S, ds, g, r, p⟩ => by
  match ds, r, p with
  | [d], r, p =>
    obtain ⟨v, rfl, q⟩ := reps1 r
    obtain ⟨u, rfl, ru⟩ := vals1 rv
    simp only [pRepr] at p
    cases e : toPS S d with
    | none => rw [e] at p; exact p.elim
    | some pd =>
      rw [e] at p
      obtain ⟨pl, as, ra⟩ := reads_ofS I g e q ru
      have hnd := plain_hasDict pd pl
      have go : ∀ {a : Addr}, u = .ref a → oV X.K W (if pd.showable = true ∧ pd.shown.length ≤ sizeLine ∧ pd.depth ≤ 60 then some (.str pd.shown, S) else none) Q → wpAny (model X.prog X.w) X.A (call (.builtin "repr") [u]) (EP X pins σ Q) X.xe s := by
        intro a eu p
        subst eu
        split at p
        · rename_i h
          exact repr_of_reads' ra h.1 (fun z => by rw [hnd] at z; cases z) hg (by omega) (fun _ _ e => e) (fun h' u' tk hk => ⟨.str _, H, I.kept (t' := tk) hk, ⟨u', rfl⟩, p.val g (.str _)⟩) h.2.1
        · exact p.elim
      cases ra with
      | list h1 h2 h3 h4 => exact go rfl p
      | tuple h1 h2 h3 h4 => exact go rfl p
      | _ => exact p.elim
end
end Ev
/-! # methods of built-in values, stores, slices, isinstance -/
namespace Ev
open PySem PySem.Spec PySem.SeqAt L2 PyProof.Rows
section
variable {X : Cx} {Wx : WX} {o e : Expr} {es : List Expr} {mo : ME} {mas : MA} {nm : Str} {apos cpos pos : Pos} {T id : String}
def rDM (K : PySem.W.Frag) (f : D → List D → PO) : V → List V → Hp → VK → Prop := fun x xs H Q => ∃ W S d ds, Good K W S H ∧ Rep K W d x ∧ Reps K W ds xs ∧ oV K W (f d ds S) Q
def tyD (T : String) (S : Store) : D → Bool
  | .str _ => T == "str"
  | d => T == "list" && (lstOf S d).isSome
theorem tyD_ok {K : PySem.W.Frag} {W : Wd} {S : Store} {H : Hp} {d : D} {v : V} (h : tyD T S d = true) (g : Good K W S H) (r : Rep K W d v) : tyV K T v H := by
  have ls : (T == "list" && (lstOf S d).isSome) = true → tyV K T v H := fun h => by
    simp only [Bool.and_eq_true, beq_iff_eq] at h
    obtain ⟨xs, e⟩ := Option.isSome_iff_exists.mp h.2
    obtain ⟨a, vs, rfl, h1, h2⟩ := lstOf_ok e g r
    exact .inl ⟨h.1, vs, h1⟩
  cases r with
  | str x => exact beq_iff_eq.mp h
  | _ => exact ls h
def eMB (T : String) (f : D → List D → PO) (mo : ME) (mas : MA) : ME := fun δ => M.bind (mo δ) fun x S => if tyD T S x = true then M.bind (mas δ) (fun xs => lft (f x xs)) S else .bad
theorem se_mb {f : D → List D → PO} (pa : PlainAttrs T) (slot : Slot T nm id) (hty : typeOf (.builtin id) = pure (.type "method_descriptor")) (hm : MtR X id (rDM X.K f)) (ho : SE X Wx o mo) (ha : SA X Wx (e :: es) mas)
    (hbase : attributeBase o nm X.env (eval o X.env) = eval o X.env)
    (hfew : ((backTo cpos (starEach (e :: es) X.env)).all (fun x => !x.1) && (backToKw cpos (keywordEach [] X.env)).all (fun x => x.1.isSome)
      && decide ((e :: es).length + ([] : List Keyword).length + (if ([] : List Keyword).isEmpty then 0 else 1) < 30)) = true)
    (hline : (apos.endLine == cpos.line) = true) (hs : starEach (e :: es) X.env = (false, eval e X.env) :: starEach es X.env) (hpl : (backTo cpos (starEach es X.env)).any (·.1) = false) :
    SE X Wx (.Call (.Attribute o nm apos) (e :: es) [] cpos) (eMB T f mo mas) :=
  PE.imp (pe_bm pa slot hty hm ho ha hbase hfew hline hs hpl) fun σ H Q ⟨W, S, δ, g, r, p⟩ => ⟨W, S, δ, g, r, (okP.bind (R := Rep X.K) p).imp fun v H1 ⟨W1, S1, x, l1, g1, r1, p1⟩ => by
    by_cases ht : tyD T S1 x = true
    · rw [if_pos ht] at p1
      exact ⟨tyD_ok ht g1 r1, W1, S1, δ, g1, r.mono l1, (okP.bind (R := Reps X.K) p1).imp fun vs H2 ⟨W2, S2, xs, l2, g2, r2, p2⟩ => ⟨W2, S2, x, xs, g2, r1.mono l2, r2, p2.lft⟩⟩
    · rw [if_neg ht] at p1; exact p1.elim⟩
theorem se_mb0 {f : D → List D → PO} (pa : PlainAttrs T) (slot : Slot T nm id) (hty : typeOf (.builtin id) = pure (.type "method_descriptor")) (hm : MtR X id (rDM X.K f)) (ho : SE X Wx o mo)
    (hbase : attributeBase o nm X.env (eval o X.env) = eval o X.env) (hline : (apos.endLine == cpos.line) = true) :
    SE X Wx (.Call (.Attribute o nm apos) [] [] cpos) (eMB T f mo aNil) :=
  PE.imp (pe_bm0 pa slot hty hm ho hbase hline) fun σ H Q ⟨W, S, δ, g, r, p⟩ => ⟨W, S, δ, g, r, (okP.bind (R := Rep X.K) p).imp fun v H1 ⟨W1, S1, x, l1, g1, r1, p1⟩ => by
    by_cases ht : tyD T S1 x = true
    · rw [if_pos ht] at p1
      exact ⟨tyD_ok ht g1 r1, W1, S1, x, [], g1, r1, .nil, p1.lft⟩
    · rw [if_neg ht] at p1; exact p1.elim⟩
/-! texts -/
def pSplit : D → List D → PO := fun x ds S => match x, ds with
  | .str a, [.str b] => if (b.length == 0) = false ∧ a.length + 2 ≤ sizeLine then newL ((Txt.split a b).map D.str) S else none
  | _, _ => none
theorem mt_pSplit : MtR X "str.split" (rDM X.K pSplit) := fun pins s σ H x xs v us Q I rx rv ⟨W, S, d, ds, g, r1, r2, p⟩ => by
  cases r1 with
  | str a =>
    match ds, r2, p with
    | [.str b], r2, p =>
      obtain ⟨w, rfl, q⟩ := reps1 r2
      cases q
      simp only [pSplit] at p
      split at p
      · rename_i h
        exact mt_split pins s σ H _ _ v us Q I rx rv ⟨a, b, rfl, rfl, h.1, h.2, fun p0 n => (newL_ok p g (reps_strs _)).2 p0 n⟩
      · exact p.elim
  | _ => cases ds with
    | nil => exact p.elim
    | cons d ds => cases d <;> cases ds <;> exact p.elim
def pJoin : D → List D → PO := fun x ds S => match x, ds with
  | .str a, [y] => ((seqOf S y).bind strsOf).bind fun ys => if (ys.map (·.length)).sum + ys.length * a.length ≤ 16777216 then some (.str (Txt.join a ys), S) else none
  | _, _ => none
theorem mt_pJoin : MtR X "str.join" (rDM X.K pJoin) := fun pins s σ H x xs v us Q I rx rv ⟨W, S, d, ds, g, r1, r2, p⟩ => by
  cases r1 with
  | str a =>
    match ds, r2, p with
    | [y], r2, p =>
      obtain ⟨w, rfl, q⟩ := reps1 r2
      simp only [pJoin] at p
      cases e : (seqOf S y).bind strsOf with
      | none => rw [e] at p; exact p.elim
      | some ys =>
        rw [e] at p
        simp only [Option.bind_some] at p
        split at p
        · rename_i h
          obtain ⟨zs, e1, e2⟩ := Option.bind_eq_some_iff.mp e
          obtain ⟨b, vs, rfl, h2, h3⟩ := seqOf_ok e1 g q
          obtain ⟨rfl, rfl⟩ := strsOf_ok e2 h3
          exact mt_join pins s σ H _ _ v us Q I rx rv ⟨a, b, ys, rfl, rfl, h2, h, p.val g (.str _)⟩
        · exact p.elim
  | _ => cases ds with
    | nil => exact p.elim
    | cons d ds => cases ds <;> exact p.elim
/-! lists that change -/
def pAppend : D → List D → PO := fun x ds S => match x, ds with
  | .ref i, [y] => (match S[i]? with
    | some (some (.lst xs)) => if xs.length < sizeLine then some (.non, S.set i (some (.lst (xs ++ [y])))) else none
    | _ => none)
  | _, _ => none
theorem mt_pAppend : MtR X "list.append" (rDM X.K pAppend) := fun pins s σ H x xs v us Q I rx rv ⟨W, S, d, ds, g, r1, r2, p⟩ => by
  cases r1 with
  | @ref i a h =>
    match ds, r2, p with
    | [y], r2, p =>
      obtain ⟨w, rfl, q⟩ := reps1 r2
      simp only [pAppend] at p
      split at p
      · rename_i zs hc
        split at p
        · rename_i hl
          obtain ⟨a', e1, e2, _, vs, e3, e4⟩ := g.cell i _ hc
          rw [h] at e1; cases e1
          exact mt_append pins s σ H _ _ v us Q I rx rv ⟨a, vs, w, rfl, rfl, e3, by rw [← e4.length]; exact hl, p W _ _ W.le_refl (g.put hc h ⟨_, upd_same, e4.append (.cons q .nil)⟩) .non⟩
        · exact p.elim
      · exact p.elim
  | _ => cases ds with
    | nil => exact p.elim
    | cons d ds => cases ds <;> exact p.elim
def pExtend : D → List D → PO := fun x ds S => match x, ds with
  | .ref i, [.lst ys] => (match S[i]? with
    | some (some (.lst xs)) => if xs.length + ys.length ≤ sizeLine then some (.non, S.set i (some (.lst (xs ++ ys)))) else none
    | _ => none)
  | _, _ => none
theorem mt_pExtend : MtR X "list.extend" (rDM X.K pExtend) := fun pins s σ H x xs v us Q I rx rv ⟨W, S, d, ds, g, r1, r2, p⟩ => by
  cases r1 with
  | @ref i a h =>
    match ds, r2, p with
    | [.lst ys], r2, p =>
      obtain ⟨w, rfl, q⟩ := reps1 r2
      simp only [pExtend] at p
      split at p
      · rename_i zs hc
        split at p
        · rename_i hl
          obtain ⟨a', e1, e2, _, vs, e3, e4⟩ := g.cell i _ hc
          rw [h] at e1; cases e1
          cases q with
          | @lst b us' _ q1 q2 =>
            exact mt_extend pins s σ H _ _ v us Q I rx rv ⟨a, b, vs, us', rfl, rfl, e3, g.sub _ _ q1, by rw [← e4.length, ← q2.length]; exact hl, p W _ _ W.le_refl (g.put hc h ⟨_, upd_same, e4.append q2⟩) .non⟩
        · exact p.elim
      · exact p.elim
  | _ => cases ds with
    | nil => exact p.elim
    | cons d ds => cases d <;> cases ds <;> exact p.elim
/-- o[i] = v -/
def pStore : PSt := fun o i v S => match o, i with
  | .ref n, .int k => (match S[n]? with
    | some (some (.lst xs)) => (ixN xs.length k).map fun j => S.set n (some (.lst (xs.set j v)))
    | _ => none)
  | _, _ => none
theorem set_pStore : PSet X (tDSet X.K pStore) := fun pins s σ H o i v ov iv u Q I r1 r2 r3 ⟨W, S, do_, di, dv, g, q1, q2, q3, p⟩ => by
  cases q1 with
  | @ref n a h =>
    cases q2 with
    | int k =>
      simp only [pStore] at p
      cases e : S[n]? with
      | none => rw [e] at p; exact p.elim
      | some c =>
        rw [e] at p
        match c, e, p with
        | some (.lst xs), e, p =>
          dsimp only at p
          cases e2 : ixN xs.length k with
          | none => rw [e2] at p; exact p.elim
          | some j =>
            rw [e2] at p
            obtain ⟨a', e1, _, _, vs, e3, e4⟩ := g.cell n _ e
            rw [h] at e1; cases e1
            exact set_list pins s σ H _ _ _ ov iv u Q I r1 r2 r3 ⟨a, vs, k, j, rfl, rfl, e3, by rw [← e4.length]; exact e2, p W _ W.le_refl (g.put e h ⟨_, upd_same, e4.set q3 j⟩)⟩
    | _ => exact p.elim
  | _ => cases q2 <;> exact p.elim
/-! slices -/
def oPart (m : Option ME) (δ : En) : M (Option Int) := match m with
  | none => M.pure none
  | some m => M.bind (m δ) fun d => match d with
    | .int i => M.pure (some i)
    | _ => M.bad
def tDO (K : PySem.W.Frag) (Wx : WX) (m : En → M (Option Int)) : TO := fun σ H Q => ∃ W S δ, Good K W S H ∧ REnv K W δ σ ∧ okP K (fun _ (a b : Option Int) => a = b) W (m δ S) σ Wx Q
theorem so_none : L2.PO X none (tDO X.K Wx (oPart none)) := ⟨fun pins s σ H Q I ⟨W, S, δ, g, r, p⟩ => (po_none (X := X)).run pins s σ H Q I (okP.pure (R := fun _ (a b : Option Int) => a = b) p g rfl)⟩
theorem so_some {m : ME} (h : SE X Wx e m) : L2.PO X (some e) (tDO X.K Wx (oPart (some m))) := ⟨fun pins s σ H Q I ⟨W, S, δ, g, r, p⟩ => (po_some h).run pins s σ H Q I ⟨W, S, δ, g, r, (okP.bind (R := Rep X.K) p).imp fun v H1 ⟨W1, S1, d, l1, g1, r1, p1⟩ => by
  cases r1 with
  | int i => exact ⟨i, rfl, okP.pure (R := fun _ (a b : Option Int) => a = b) p1 g1 rfl⟩
  | _ => exact p1.elim⟩⟩
def cutD (xs : List D) (lo hi : Option Int) : List D := (xs.drop (HT.sIx xs.length 0 lo)).take (HT.sIx xs.length xs.length hi - HT.sIx xs.length 0 lo)
theorem cutD_reps {K : PySem.W.Frag} {W : Wd} {xs : List D} {vs : List V} (r : Reps K W xs vs) (lo hi : Option Int) : Reps K W (cutD xs lo hi) (cutV vs lo hi) := by
  unfold cutD cutV
  rw [← r.length]
  exact (r.drop _).take _
def pCut : D → Option Int → Option Int → PO := fun x lo hi S => match x with
  | .str z => if z.length ≤ sizeLine then some (.str (cutS z lo hi), S) else none
  | .tup xs => newT (cutD xs lo hi) S
  | x => (lstOf S x).bind fun xs => newL (cutD xs lo hi) S
def rDSl (K : PySem.W.Frag) (f : D → Option Int → Option Int → PO) : V → Option Int → Option Int → Hp → VK → Prop := fun x lo hi H Q => ∃ W S d, Good K W S H ∧ Rep K W d x ∧ oV K W (f d lo hi S) Q
theorem sl_pCut : SlR X (rDSl X.K pCut) := fun pins s σ H x v vl vu lo hi sl Q I rx hs pl pu ⟨W, S, d, g, r1, p⟩ => by
  have ls : oV X.K W ((lstOf S d).bind fun xs => newL (cutD xs lo hi) S) Q → ∃ T id, typeLookup (.type T) "__getitem__" = pure (some (.builtin id)) ∧ s.TypeIs v T ∧ wpAny (model X.prog X.w) X.A (getItem v (.ref sl)) (EP X pins σ Q) X.xe s := fun p => by
    cases e : lstOf S d with
    | none => rw [e] at p; exact p.elim
    | some xs =>
      rw [e] at p
      obtain ⟨a, vs, rfl, h1, h2⟩ := lstOf_ok e g r1
      exact sl_list pins s σ H _ v vl vu lo hi sl Q I rx hs pl pu ⟨a, vs, rfl, h1, (newL_ok p g (cutD_reps h2 lo hi)).2⟩
  cases r1 with
  | str z =>
    simp only [pCut] at p
    split at p
    · exact sl_str pins s σ H _ v vl vu lo hi sl Q I rx hs pl pu ⟨z, rfl, by assumption, p.val g (.str _)⟩
    · exact p.elim
  | @tup a vs ds q r =>
    simp only [pCut] at p
    refine sl_tupA pins s σ H _ v vl vu lo hi sl Q I rx hs pl pu ⟨a, vs, rfl, g.sqT q, fun h => ?_, fun h => (newT_ok p g (cutD_reps r lo hi)).2⟩
    have ec : cutD ds lo hi = ds := by
      unfold cutD
      rw [r.length, h.1, h.2]
      simp [← r.length]
    rw [ec] at p
    unfold newT at p
    split at p
    · exact p.val g (.tup q r)
    · exact p.elim
  | _ => exact ls p
def eCut (mo : ME) (ml mh : Option ME) : ME := fun δ => M.bind (mo δ) fun x => M.bind (oPart ml δ) fun lo => M.bind (oPart mh δ) fun hi => lft (pCut x lo hi)
theorem se_cut {lo hi : Option Expr} {ml mh : Option ME} {p2 : Pos} (ho : SE X Wx o mo) (hl : L2.PO X lo (tDO X.K Wx (oPart ml))) (hh : L2.PO X hi (tDO X.K Wx (oPart mh))) : SE X Wx (.Subscript o (.Slice lo hi none p2) pos) (eCut mo ml mh) :=
  PE.imp (pe_slice sl_pCut ho hl hh) fun σ H Q ⟨W, S, δ, g, r, p⟩ => ⟨W, S, δ, g, r, (okP.bind (R := Rep X.K) p).imp fun v H1 ⟨W1, S1, x, l1, g1, r1, p1⟩ =>
    ⟨W1, S1, δ, g1, r.mono l1, (okP.bind (R := fun _ (a b : Option Int) => a = b) p1).imp fun a H2 ⟨W2, S2, a', l2, g2, ea, p2⟩ => by
      subst ea
      exact ⟨W2, S2, δ, g2, r.mono (l1.trans l2), (okP.bind (R := fun _ (a b : Option Int) => a = b) p2).imp fun b H3 ⟨W3, S3, b', l3, g3, eb, p3⟩ => by
        subst eb
        exact ⟨W3, S3, x, g3, r1.mono (l2.trans l3), p3.lft⟩⟩⟩⟩
theorem se_ix {i : Expr} {mi : ME} (ho : SE X Wx o mo) (hi : SE X Wx i mi) (hs : PlainIx i) : SE X Wx (.Subscript o i pos) (eOp pIx mo mi) := PE.imp (pe_ix ix_pIx ho hi hs) tOp_of
/-! isinstance -/
/-- a type: a built-in one, a class of the text -/
inductive Ty where
  | blt (n : String) | own (c : Str)
  deriving DecidableEq
def Ty.val (K : PySem.W.Frag) : Ty → Value
  | .blt n => .type n
  | .own c => .ref (He.ga K c)
def tyOf (S : Store) : D → Option Ty
  | .non => some (.blt "NoneType")
  | .bl _ => some (.blt "bool")
  | .int _ => some (.blt "int")
  | .str _ => some (.blt "str")
  | .tup _ => some (.blt "tuple")
  | .lst _ => some (.blt "list")
  | .ins c _ => some (.own c)
  | .ref i => (match S[i]? with
    | some (some (.lst _)) => some (.blt "list")
    | some (some (.ins c _)) => some (.own c)
    | _ => none)
  | _ => none
/-- what is known of the types -/
structure IsiOk (K : PySem.W.Frag) (isi : Ty → Ty → Option Bool) : Prop where
  kit : ∀ t c b, isi t c = some b → PySem.W.kitOne K (t.val K) (c.val K) = some b
  own : ∀ c d b, isi (.own c) d = some b → Cls K (He.ga K c) ∧ PySem.W.findIn K (.ref (He.ga K c)) "__class__" = some (some (.builtin "object.__class__")) ∧
    PySem.W.specialIn K (.builtin "object.__class__") "__get__" = some (some (.builtin "getset_descriptor.__get__")) ∧ PySem.W.takesIn K (.builtin "object.__class__") = some true ∧ PySem.W.mroIn K (He.ga K c) (.type "object") = some true
theorem tyOf_ok {K : PySem.W.Frag} {isi : Ty → Ty → Option Bool} {W : Wd} {S : Store} {H : Hp} {d : D} {v : V} {t c : Ty} {b : Bool} (k : IsiOk K isi) (e : tyOf S d = some t) (eb : isi t c = some b) (g : Good K W S H) (r : Rep K W d v) : TyX K H v (t.val K) := by
  have ins : ∀ {a dx : Addr} {c' : Str} {vfs : List (Str × V)}, H a = some (.ins (He.ga K c') dx vfs) → t = .own c' → v = .ref a → TyX K H v (t.val K) := fun {a dx c' vfs} h et ev => by
    subst et ev
    obtain ⟨h1, h2, h3, h4, h5⟩ := k.own c' c b eb
    exact .base (.ins h h1 h2 h3 h4 h5)
  cases r with
  | non => cases e; exact .base .non
  | bl x => cases e; exact .base (.bl x)
  | int x => cases e; exact .base (.int x)
  | str x => cases e; exact .base (.str x)
  | @tup a vs ds q r =>
    cases e
    rcases g.sqT q with q | ⟨o, its, n, hk, hc, _⟩
    · rcases q with q | ⟨ob, q⟩
      · exact .base (.tup q)
      · exact .fTuple q
    · exact .kTuple hk hc
  | lst q r => cases e; exact .base (.lst (g.sub _ _ q))
  | ins h1 h2 h3 => cases e; exact ins (g.sub _ _ h1) rfl rfl
  | @ref i a h =>
    simp only [tyOf] at e
    split at e
    · rename_i xs hc
      cases e
      obtain ⟨a', e1, _, _, vs, e3, e4⟩ := g.cell i _ hc
      rw [h] at e1; cases e1
      exact .base (.lst e3)
    · rename_i c' fs hc
      cases e
      obtain ⟨a', e1, _, _, dx, vfs, e3, e4, e5⟩ := g.cell i _ hc
      rw [h] at e1; cases e1
      exact ins e3 rfl rfl
    · cases e
  | _ => cases e
def eIsi (isi : Ty → Ty → Option Bool) (c : Ty) (mo : ME) : ME := fun δ => M.bind (mo δ) fun x S => match (tyOf S x).bind fun t => isi t c with
  | some b => .ok (.bl b) S
  | none => .bad
theorem se_isi {isi : Ty → Ty → Option Bool} {p p2 : Pos} {c : Ty} {ce : Expr} {cv : V} (k : IsiOk X.K isi) (ho : SE X Wx o mo) (hc : PE X ce (tC cv)) (hcv : ClsV cv (c.val X.K)) (hgl : Gl X "isinstance") (hm : X.mg "isinstance" = none)
    (h1 : starEach [o, ce] X.env = (false, eval o X.env) :: starEach [ce] X.env) (h2 : starEach [ce] X.env = (false, eval ce X.env) :: starEach [] X.env) :
    SE X Wx (.Call (.Name "isinstance" p) [o, ce] [] pos) (eIsi isi c mo) :=
  PE.imp (pe_callB call_isi hgl hm (by decide +kernel) (pa_cons ho (pa_cons hc pa_nil h2) h1) (by decide) (by decide) h1 (by rw [h2]; rfl)) fun σ H Q ⟨W, S, δ, g, r, p⟩ => ⟨W, S, δ, g, r, (okP.bind (R := Rep X.K) p).imp fun v H1 ⟨W1, S1, d, l1, g1, r1, p1⟩ => by
    cases e : tyOf S1 d with
    | none => rw [e] at p1; exact p1.elim
    | some t =>
      rw [e] at p1
      simp only [Option.bind_some] at p1
      cases e2 : isi t c with
      | none => rw [e2] at p1; exact p1.elim
      | some b =>
        rw [e2] at p1
        exact ⟨v, cv, t.val X.K, c.val X.K, b, rfl, hcv, tyOf_ok k e e2 g1 r1, k.kit t c b e2, p1 W1 H1 _ W1.le_refl g1 (.bl b)⟩⟩
end
end Ev
/-! # zip of any number of lists and tuples -/
namespace EvZ
open PySem PySem.Spec PySem.SeqAt L2 PyProof.Rows
section
variable {prog : Program} {w : World} {A : Around} {E : Value → Shared → Prop} {s : Shared}
/-- a source: is it a tuple; its iterator; the sequence; its items -/
structure Sr where
  tp : Bool
  it : Addr
  l : Addr
  xs : List Value
def ItAt (h : Heap) (k : Nat) (r : Sr) : Prop := match r.tp with
  | true => h.IsTupleIter r.it r.l k
  | false => h.IsListIter r.it r.l k
def SqAt (h : Heap) (r : Sr) : Prop := match r.tp with
  | true => h.IsTuple r.l r.xs.toArray
  | false => h.IsList r.l r.xs.toArray
theorem ItAt.at {h h' : Heap} {k : Nat} {r : Sr} (x : ItAt h k r) (e : ∀ o, h.get? r.it = some o → h'.get? r.it = some o) : ItAt h' k r := by
  obtain ⟨tp, it, l, xs⟩ := r
  cases tp with
  | true => obtain ⟨o, h1, h2⟩ := x; exact ⟨o, e o h1, h2⟩
  | false => obtain ⟨o, h1, h2⟩ := x; exact ⟨o, e o h1, h2⟩
theorem SqAt.at {h h' : Heap} {r : Sr} (x : SqAt h r) (e : ∀ o, h.get? r.l = some o → h'.get? r.l = some o) : SqAt h' r := by
  obtain ⟨tp, it, l, xs⟩ := r
  cases tp with
  | true => obtain ⟨o, h1, h2⟩ := x; exact ⟨o, e o h1, h2⟩
  | false => obtain ⟨o, h1, h2⟩ := x; exact ⟨o, e o h1, h2⟩
theorem ItAt.there {h : Heap} {k : Nat} {r : Sr} (x : ItAt h k r) : ∃ o, h.get? r.it = some o ∧ ∀ v, o.data ≠ .cell v := by
  obtain ⟨tp, it, l, xs⟩ := r
  cases tp with
  | true => obtain ⟨o, h1, h2, h3⟩ := x; exact ⟨o, h1, fun v z => by rw [h3] at z; cases z⟩
  | false => obtain ⟨o, h1, h2, h3⟩ := x; exact ⟨o, h1, fun v z => by rw [h3] at z; cases z⟩
theorem next_item {r : Sr} {k : Nat} {x : Value} {Q : Value → Shared → Prop} (hi : ItAt s.heap k r) (hs : SqAt s.heap r) (hx : r.xs[k]? = some x)
    (hQ : ∀ h', ItAt h' (k + 1) r → Heap.SameBut r.it s.heap h' → Q x { s with heap := h' }) : wpAny (model prog w) A (Builtin.SmallTypes.nextOf (.ref r.it)) Q E s := by
  obtain ⟨tp, it, l, xs⟩ := r
  cases tp with
  | true => exact wpAny_nextOf_tuple_item hi hs (by simpa using hx) hQ
  | false => exact wpAny_nextOf_list_item hi hs (by simpa using hx) hQ
theorem next_end {r : Sr} {k : Nat} {Q : Value → Shared → Prop} (hh : A.handled = none) (hi : ItAt s.heap k r) (hs : SqAt s.heap r) (hx : r.xs[k]? = none)
    (hE : ∀ h' e, Heap.ExtBut r.it s.heap h' → (∃ o, h'.get? e = some o ∧ o.cls = .type "StopIteration") → E (.ref e) { s with heap := h' }) : wpAny (model prog w) A (Builtin.SmallTypes.nextOf (.ref r.it)) Q E s := by
  obtain ⟨tp, it, l, xs⟩ := r
  cases tp with
  | true => exact wpAny_nextOf_tuple_end hh hi hs (by simpa using hx) hE
  | false => exact wpAny_nextOf_list_end hh hi hs (by simpa using hx) hE
abbrev Zp (h : Heap) (z TI TO : Addr) (f0 f1 : Value) : Prop := h.get? z = some { cls := .type "zip", dict := none, data := .fields #[f0, f1, .bool false, .ref TI, .ref TO], slots := #[] }
abbrev Tp (h : Heap) (T : Addr) (xs : List Value) : Prop := h.get? T = some { cls := .type "tuple", data := .seq xs.toArray }
/-- nothing stands in the way of another -/
structure Apart (z TI TO : Addr) (rs : List Sr) : Prop where
  TIz : TI ≠ z
  TOz : TO ≠ z
  TT : TI ≠ TO
  iz : ∀ r ∈ rs, r.it ≠ z ∧ r.it ≠ TI ∧ r.it ≠ TO
  lz : ∀ r ∈ rs, r.l ≠ z ∧ r.l ≠ TO ∧ ∀ q ∈ rs, r.l ≠ q.it
  nd : (rs.map (·.it)).Nodup
theorem Apart.inj {z TI TO : Addr} {rs : List Sr} (D : Apart z TI TO rs) {i j : Nat} {r q : Sr} (hi : rs[i]? = some r) (hj : rs[j]? = some q) (e : r.it = q.it) : i = j := by
  have h1 : (rs.map (·.it))[i]? = some r.it := by simp [hi]
  have h2 : (rs.map (·.it))[j]? = some q.it := by simp [hj]
  obtain ⟨a1, b1⟩ := List.getElem?_eq_some_iff.mp h1
  obtain ⟨a2, b2⟩ := List.getElem?_eq_some_iff.mp h2
  exact (List.getElem_inj D.nd).mp (b1.trans (e.trans b2.symm))
/-- the items of turn k -/
def row (rs : List Sr) (k : Nat) : List Value := rs.map fun r => r.xs.getD k .none
theorem free_none {z TI TO : Addr} {f0 f1 : Value} {Q : Bool → Shared → Prop} (hz : Zp s.heap z TI TO f0 f1) (h0 : f0 = .none ∨ ∃ T : Addr, f0 = rawInt T) (hf : f1 = .bool true ∨ f1 = .bool false)
    (hq : Q true s) (hq2 : ∀ h', Zp h' z TI TO f0 (.bool true) → Heap.SameBut z s.heap h' → Q false { s with heap := h' }) : wpAny (model prog w) A (Builtin.SmallTypes.ownedTupleIsFree (.ref z)) Q E s := by
  unfold Builtin.SmallTypes.ownedTupleIsFree
  refine wpAny_bind (wpAny_field hz rfl (x := f0) rfl ?_)
  rcases h0 with rfl | ⟨T, rfl⟩
  · exact wpAny_pure hq
  · show wpAny _ _ (loadIfAlive ((T : Int).toNat) >>= _) _ _ _
    rw [Int.toNat_natCast]
    refine wpAny_bind (show wpAny _ _ (loadIfAlive T) _ _ _ from fun _ _ _ => ?_)
    show wpAny _ _ (if (s.heap.get? T).isNone = true then _ else _) _ _ _
    cases e : s.heap.get? T with
    | none =>
      simp only [Option.isNone_none, if_true]
      exact wpAny_pure hq
    | some o =>
      simp only [Option.isNone_some, Bool.false_eq_true, if_false]
      refine wpAny_bind (wpAny_field hz rfl (x := f1) rfl ?_)
      rcases hf with rfl | rfl
      · rw [if_neg (show ¬ ((Value.bool true != Value.bool true) = true) from Bool.false_ne_true)]
        exact wpAny_pure (hq2 s.heap hz (Heap.SameBut.refl _ _))
      · rw [if_pos (show (Value.bool false != Value.bool true) = true from rfl)]
        exact wpAny_bind (wpAny_setField_rec hz (by simp) fun h₁ hz₁ hs₁ => wpAny_pure (hq2 h₁ hz₁ hs₁))
/-- what stands between two draws of one turn -/
structure Mid (h0 h : Heap) (z TI TO : Addr) (rs pre post : List Sr) (k : Nat) (f0 f1 : Value) : Prop where
  zp : Zp h z TI TO f0 f1
  pr : ∀ r ∈ pre, ItAt h (k + 1) r
  po : ∀ r ∈ post, ItAt h k r
  sz : h.objs.size = h0.objs.size
  fr : ∀ c o, c ≠ z → c ≠ TO → (∀ r ∈ rs, c ≠ r.it) → h0.get? c = some o → h.get? c = some o
theorem Mid.sq {h0 h : Heap} {z TI TO : Addr} {rs pre post : List Sr} {k : Nat} {f0 f1 : Value} (M : Mid h0 h z TI TO rs pre post k f0 f1) (D : Apart z TI TO rs) {r : Sr} (hr : r ∈ rs) (hs : SqAt h0 r) : SqAt h r :=
  hs.at fun o e => M.fr _ _ (D.lz r hr).1 (D.lz r hr).2.1 (D.lz r hr).2.2 e
theorem Mid.step {h0 h h' : Heap} {z TI TO : Addr} {rs pre post : List Sr} {r : Sr} {k : Nat} {f0 f1 : Value} (M : Mid h0 h z TI TO rs pre (r :: post) k f0 f1) (D : Apart z TI TO rs) (er : rs = pre ++ r :: post)
    (hi : ItAt h' (k + 1) r) (sb : Heap.SameBut r.it h h') : Mid h0 h' z TI TO rs (pre ++ [r]) post k f0 f1 := by
  have hr : r ∈ rs := by rw [er]; simp
  have nd := D.nd
  rw [er] at nd
  simp only [List.map_append, List.map_cons, List.nodup_append, List.nodup_cons, List.mem_map, List.mem_cons] at nd
  refine ⟨sb.extBut _ _ (D.iz r hr).1.symm M.zp, fun q hq => ?_, fun q hq => ?_, sb.1.trans M.sz, fun c o c1 c2 c3 e => sb.extBut _ _ (c3 r hr) (M.fr c o c1 c2 c3 e)⟩
  · rcases List.mem_append.mp hq with hq | hq
    · exact (M.pr q hq).at fun o e => sb.extBut _ _ (fun z => nd.2.2 q.it ⟨q, hq, rfl⟩ r.it (.inl rfl) z) e
    · obtain rfl := List.mem_singleton.mp hq
      exact hi
  · exact (M.po q (List.mem_cons_of_mem _ hq)).at fun o e => sb.extBut _ _ (fun z => nd.2.1.1 ⟨q, hq, z⟩) e
theorem Mid.put {h0 h h' : Heap} {z TI TO : Addr} {rs pre post : List Sr} {k : Nat} {f0 f1 : Value} (M : Mid h0 h z TI TO rs pre post k f0 f1) (D : Apart z TI TO rs) (er : rs = pre ++ post) (sb : Heap.SameBut TO h h') : Mid h0 h' z TI TO rs pre post k f0 f1 := by
  refine ⟨sb.extBut _ _ D.TOz.symm M.zp, fun q hq => (M.pr q hq).at fun o e => sb.extBut _ _ (D.iz q (by rw [er]; simp [hq])).2.2 e, fun q hq => (M.po q hq).at fun o e => sb.extBut _ _ (D.iz q (by rw [er]; simp [hq])).2.2 e, sb.1.trans M.sz,
    fun c o c1 c2 c3 e => sb.extBut _ _ c2 (M.fr c o c1 c2 c3 e)⟩
theorem Mid.ref {h0 : Heap} {z TI TO : Addr} {rs : List Sr} {k : Nat} {f0 f1 g0 g1 : Value} {h : Heap} (D : Apart z TI TO rs) (hz : Zp h z TI TO g0 g1) (sb : Heap.SameBut z h0 h) (hi : ∀ r ∈ rs, ItAt h0 k r) : Mid h0 h z TI TO rs [] rs k g0 g1 :=
  ⟨hz, (fun _ q => nomatch q), fun r hr => (hi r hr).at fun o e => sb.extBut _ _ (D.iz r hr).1 e, sb.1, fun c o c1 _ _ e => sb.extBut _ _ c1 e⟩
theorem upd_tup {T : Addr} {arr : List Value} {x : Value} {k : Nat} {Q : Unit → Shared → Prop} (hn : arr.length ≤ sizeLine) (hT : Tp s.heap T arr)
    (h : ∀ h', Tp h' T (arr.set k x) → Heap.SameBut T s.heap h' → Q () { s with heap := h' }) :
    wpAny (model prog w) A (updateSeq T (·.setIfInBounds k x)) Q E s := by
  refine wpAny_updateSeq (hz := by simpa using hn) (_hz' := by simpa using Nat.le_succ_of_le hn) hT rfl (h _ ?_ (Heap.SameBut.update ..))
  show Heap.get? _ _ = _
  rw [Heap.get?_update_self _ hT rfl]
  simp [Obj.mapSeq]
theorem zip_item {z TI TO : Addr} {rs : List Sr} {f0 f1 : Value} {arr : List Value} {k : Nat} {Q : Value → Shared → Prop} (D : Apart z TI TO rs) (hn : rs.length ≤ sizeLine) (hne : rs ≠ []) (hz : Zp s.heap z TI TO f0 f1) (h0 : f0 = .none ∨ ∃ T : Addr, f0 = rawInt T) (hf : f1 = .bool true ∨ f1 = .bool false)
    (hTI : Tp s.heap TI (rs.map fun r => .ref r.it)) (hTO : Tp s.heap TO arr) (ha : arr.length = rs.length) (hi : ∀ r ∈ rs, ItAt s.heap k r) (hs : ∀ r ∈ rs, SqAt s.heap r) (hk : ∀ r ∈ rs, k < r.xs.length)
    (hQ : ∀ h' g0 g1 arr', Zp h' z TI TO g0 g1 → (g0 = .none ∨ ∃ T : Addr, g0 = rawInt T) → (g1 = .bool true ∨ g1 = .bool false) → Tp h' TO arr' → arr'.length = rs.length → (∀ r ∈ rs, ItAt h' (k + 1) r) → Tp h' s.heap.objs.size (row rs k) → h'.objs.size = s.heap.objs.size + 1 →
      (∀ c o, c ≠ z → c ≠ TO → (∀ r ∈ rs, c ≠ r.it) → s.heap.get? c = some o → h'.get? c = some o) → Q (.ref s.heap.objs.size) { s with heap := h' }) :
    wpAny (model prog w) A (Builtin.«zip.__next__» ⟨[.ref z], []⟩) (fun fin s' => ∃ v, fin = .done (.ret v) ∧ Q v s') E s := by
  show wpAny _ _ (field (.ref z) 2 >>= _) _ _ _
  refine wpAny_bind (wpAny_field hz rfl (x := .bool false) rfl ?_)
  show wpAny _ _ (field (.ref z) 3 >>= _) _ _ _
  refine wpAny_bind (wpAny_field hz rfl (x := .ref TI) rfl ?_)
  refine wpAny_bind (wpAny_seqItems hTI rfl ?_)
  have hemp : (rs.map fun r => Value.ref r.it).toArray.isEmpty = false := by
    cases rs with
    | nil => exact absurd rfl hne
    | cons _ _ => simp
  have gk : ∀ r ∈ rs, r.xs[k]? = some (r.xs.getD k .none) := fun r hr => by
    rw [List.getD_eq_getElem?_getD, List.getElem?_eq_getElem (hk r hr)]; rfl
  simp only [hemp, Bool.false_eq_true, if_false, pure_bind]
  refine wpAny_bind (free_none hz h0 hf ?_ fun h₁ hz₁ hs₁ => ?_)
  · simp only [if_true]
    refine wpAny_bind (wpAny_rule ?_)
    refine wpAny_bind (wpAny_field hz rfl (x := .ref TO) rfl ?_)
    refine wpAny_bind (wpAny_setField_rec hz (by simp) fun h₁ hz₁ hs₁ => ?_)
    replace hz₁ : Zp h₁ z TI TO .ellipsis f1 := hz₁
    refine wpAny_bind ?_
    refine wpAny_forIn_list _ (fun rest b s' => ∃ pre post h arr', rs = pre ++ post ∧ rest = (post.map fun r => Value.ref r.it).zipIdx pre.length ∧ b = (none, ()) ∧ s' = { s with heap := h } ∧ Mid s.heap h z TI TO rs pre post k .ellipsis f1 ∧ Tp h TO (row pre k ++ arr') ∧ arr'.length = post.length) _ ?_ ?_ _ _
      ⟨[], rs, h₁, arr, rfl, rfl, rfl, rfl, .ref (h0 := s.heap) (f0 := f0) (f1 := f1) D hz₁ hs₁ hi, hs₁.extBut _ _ D.TOz hTO, ha⟩
    · rintro ⟨x, j⟩ rest b s' ⟨pre, post, h, arr', er, hrest, rfl, rfl, M, hT, hl⟩
      cases post with
      | nil => simp at hrest
      | cons r post =>
        have hr : r ∈ rs := by rw [er]; simp
        simp only [List.map_cons, List.zipIdx_cons, List.cons.injEq, Prod.mk.injEq] at hrest
        obtain ⟨⟨rfl, rfl⟩, rfl⟩ := hrest
        cases arr' with
        | nil => simp at hl
        | cons a0 arr' =>
          refine wpAny_bind (wpAny_onRaise ?_)
          show wpAny _ _ (Builtin.SmallTypes.nextOf (.ref r.it) >>= _) _ _ _
          refine wpAny_bind (next_item (s := { s with heap := h }) (M.po r (List.mem_cons_self ..)) (M.sq D hr (hs r hr)) (gk r hr) fun h₂ hi₂ sb₂ => wpAny_pure ?_)
          have M2 := M.step D er hi₂ sb₂
          have hT2 : Tp h₂ TO (row pre k ++ a0 :: arr') := sb₂.extBut _ _ (D.iz r hr).2.2.symm hT
          refine wpAny_bind (wpAny_seqItems (s := { s with heap := h₂ }) hT2 rfl ?_)
          refine wpAny_bind (upd_tup (s := { s with heap := h₂ }) (by rw [er] at hn; simp [row] at hn hl ⊢; omega) hT2 fun h₃ hT₃ sb₃ => ?_)
          refine wpAny_bind (wpAny_letGo (wpAny_pure ?_))
          have er' : rs = (pre ++ [r]) ++ post := by rw [er]; simp
          refine ⟨pre ++ [r], post, h₃, arr', er', by simp, rfl, rfl, M2.put D er' sb₃, ?_, by simpa using hl⟩
          have e : (row pre k ++ a0 :: arr').set pre.length (r.xs.getD k .none) = row (pre ++ [r]) k ++ arr' := by
            rw [List.set_append_right _ _ (by simp [row])]
            simp [row]
          rw [e] at hT₃
          exact hT₃
    · rintro b s' ⟨pre, post, h, arr', er, hrest, rfl, rfl, M, hT, hl⟩
      cases post with
      | cons r post => simp at hrest
      | nil =>
        cases arr' with
        | cons _ _ => simp at hl
        | nil =>
          have er' : pre = rs := by rw [er]; simp
          subst er'
          simp only [List.append_nil] at hT
          refine wpAny_bind (wpAny_seqItems (s := { s with heap := h }) hT rfl ?_)
          refine wpAny_bind (wpAny_newTuple (hsz := by simpa [row] using hn) ?_)
          refine wpAny_bind ?_
          show wpAny _ _ (Builtin.SmallTypes.ownedTupleHandOut (.ref z) (.ref h.objs.size)) _ _ _
          unfold Builtin.SmallTypes.ownedTupleHandOut
          have hzlt : z < h.objs.size := Heap.lt_size M.zp
          have up0 : ∀ c o, h.get? c = some o → (h.push { cls := .type "tuple", data := .seq (row pre k).toArray }).get? c = some o := fun c o e => Heap.get?_push_of_some _ e
          refine wpAny_bind (wpAny_setField_rec (up0 _ _ M.zp) (by simp) fun h₇ hz₇ hs₇ => ?_)
          replace hz₇ : Zp h₇ z TI TO (rawInt h.objs.size) f1 := hz₇
          refine wpAny_setField_rec hz₇ (by simp) fun h₈ hz₈ hs₈ => ?_
          replace hz₈ : Zp h₈ z TI TO (rawInt h.objs.size) (.bool false) := hz₈
          replace hs₇ : Heap.SameBut z (h.push { cls := .type "tuple", data := .seq (row pre k).toArray }) h₇ := hs₇
          replace hs₈ : Heap.SameBut z h₇ h₈ := hs₈
          have up : ∀ c o, c ≠ z → h.get? c = some o → h₈.get? c = some o := fun c o c1 e => hs₈.extBut _ _ c1 (hs₇.extBut _ _ c1 (up0 _ _ e))
          have hT₈ : Tp h₈ h.objs.size (row pre k) := hs₈.extBut _ _ (Nat.ne_of_gt hzlt) (hs₇.extBut _ _ (Nat.ne_of_gt hzlt) (Heap.get?_push_size _ rfl))
          have hz8 : h₈.objs.size = h.objs.size + 1 := by rw [hs₈.1, hs₇.1, Heap.size_push]
          refine wpAny_pure ⟨_, rfl, ?_⟩
          show Q (.ref h.objs.size) { s with heap := h₈ }
          rw [M.sz] at hT₈ hz8 ⊢
          exact hQ h₈ _ _ _ hz₈ (.inr ⟨_, rfl⟩) (.inr rfl) (up _ _ D.TOz hT) (by simp [row]) (fun r hr => (M.pr r hr).at fun o e => up _ _ (D.iz r hr).1 e) hT₈ hz8 fun c o c1 c2 c3 e => up _ _ c1 (M.fr c o c1 c2 c3 e)
  · simp only [Bool.false_eq_true, if_false]
    refine wpAny_bind ?_
    rw [← Array.forIn_toList]
    refine wpAny_forIn_list _ (fun rest b s' => ∃ pre post h, rs = pre ++ post ∧ rest = (post.map fun r => Value.ref r.it) ∧ b = (none, (row pre k).toArray) ∧ s' = { s with heap := h } ∧ Mid s.heap h z TI TO rs pre post k f0 (.bool true) ∧ Tp h TO arr) _ ?_ ?_ _ _
      ⟨[], rs, h₁, rfl, by simp, rfl, rfl, .ref (h0 := s.heap) (f0 := f0) (f1 := f1) D hz₁ hs₁ hi, hs₁.extBut _ _ D.TOz hTO⟩
    · rintro x rest b s' ⟨pre, post, h, er, hrest, rfl, rfl, M, hT⟩
      cases post with
      | nil => simp at hrest
      | cons r post =>
        have hr : r ∈ rs := by rw [er]; simp
        simp only [List.map_cons, List.cons.injEq] at hrest
        obtain ⟨rfl, rfl⟩ := hrest
        refine wpAny_bind (wpAny_holding ?_)
        show wpAny _ _ (Builtin.SmallTypes.nextOf (.ref r.it) >>= _) _ _ _
        refine wpAny_bind (next_item (s := { s with heap := h }) (M.po r (List.mem_cons_self ..)) (M.sq D hr (hs r hr)) (gk r hr) fun h₂ hi₂ sb₂ => wpAny_pure (wpAny_pure ?_))
        have er' : rs = (pre ++ [r]) ++ post := by rw [er]; simp
        exact ⟨pre ++ [r], post, h₂, er', rfl, by simp [row], rfl, M.step D er hi₂ sb₂, sb₂.extBut _ _ (D.iz r hr).2.2.symm hT⟩
    · rintro b s' ⟨pre, post, h, er, hrest, rfl, rfl, M, hT⟩
      cases post with
      | cons r post => simp at hrest
      | nil =>
        have er' : pre = rs := by rw [er]; simp
        subst er'
        show wpAny _ _ (newTuple (row pre k) >>= _) _ _ _
        refine wpAny_bind (wpAny_newTuple (hsz := by simpa [row] using hn) (wpAny_pure ⟨_, rfl, ?_⟩))
        have up : ∀ c o, h.get? c = some o → (h.push { cls := .type "tuple", data := .seq (row pre k).toArray }).get? c = some o := fun c o e => Heap.get?_push_of_some _ e
        have hT₈ : Tp (h.push { cls := .type "tuple", data := .seq (row pre k).toArray }) h.objs.size (row pre k) := Heap.get?_push_size _ rfl
        have hz8 : (h.push { cls := .type "tuple", data := .seq (row pre k).toArray }).objs.size = h.objs.size + 1 := Heap.size_push ..
        show Q (.ref h.objs.size) { s with heap := h.push { cls := .type "tuple", data := .seq (row pre k).toArray } }
        rw [M.sz] at hT₈ hz8 ⊢
        exact hQ _ _ _ _ (up _ _ M.zp) h0 (.inl rfl) (up _ _ hT) ha (fun r hr => (M.pr r hr).at fun o e => up _ _ e) hT₈ hz8 fun c o c1 c2 c3 e => up _ _ (M.fr c o c1 c2 c3 e)
end
end EvZ
/-! # zip: the call, the turns -/
namespace EvZ
open PySem PySem.Spec PySem.SeqAt L2 PyProof.Rows
theorem typeCall_zip (args : List Value) : checkTypeCall "zip" ⟨args, []⟩ = pure () := by kernel_rfl
theorem newCall_zip : ∀ (args : List Value), args.length ≤ 9 → checkBuiltinCall "zip.__new__" ⟨.type "zip" :: args, []⟩ = pure ()
  | [], _ => by kernel_rfl
  | [_], _ => by kernel_rfl
  | [_, _], _ => by kernel_rfl
  | [_, _, _], _ => by kernel_rfl
  | [_, _, _, _], _ => by kernel_rfl
  | [_, _, _, _, _], _ => by kernel_rfl
  | [_, _, _, _, _, _], _ => by kernel_rfl
  | [_, _, _, _, _, _, _], _ => by kernel_rfl
  | [_, _, _, _, _, _, _, _], _ => by kernel_rfl
  | [_, _, _, _, _, _, _, _, _], _ => by kernel_rfl
  | _ :: _ :: _ :: _ :: _ :: _ :: _ :: _ :: _ :: _ :: _, h => by simp at h
theorem init_zip (obj : Value) (args : List Value) : argsOk "object.__init__" ⟨obj :: args, []⟩ := by
  unfold argsOk; kernel_rfl
section
variable {prog : Program} {w : World} {A : Around} {E : Value → Shared → Prop} {s : Shared}
/-- new iterators over the sources -/
theorem iterAll_zip {rs0 : List Sr} {Q : List Value → Shared → Prop} (hs : ∀ r ∈ rs0, SqAt s.heap r)
    (hQ : ∀ (h' : Heap) (rs : List Sr), rs.map (fun r => (r.tp, r.l, r.xs)) = rs0.map (fun r => (r.tp, r.l, r.xs)) → (∀ r ∈ rs, ItAt h' 0 r) → rs.map (·.it) = List.range' s.heap.objs.size rs0.length → h'.objs.size = s.heap.objs.size + rs0.length → (∀ c o, s.heap.get? c = some o → h'.get? c = some o) →
      Q (rs.map fun r => .ref r.it) { s with heap := h' }) :
    wpAny (model prog w) A (Builtin.SmallTypes.iterAll (rs0.map fun r => .ref r.l)) Q E s := by
  unfold Builtin.SmallTypes.iterAll
  refine wpAny_bind ?_
  refine wpAny_forIn_list _ (fun rest b s' => ∃ (pre : List Sr) (pre0 post : List Sr) (h : Heap), rs0 = pre0 ++ post ∧ pre.map (fun r => (r.tp, r.l, r.xs)) = pre0.map (fun r => (r.tp, r.l, r.xs)) ∧ rest = (post.map fun r => Value.ref r.l) ∧ b = (pre.map fun r => Value.ref r.it).toArray ∧ s' = { s with heap := h } ∧ (∀ r ∈ pre, ItAt h 0 r) ∧
    pre.map (·.it) = List.range' s.heap.objs.size pre0.length ∧ h.objs.size = s.heap.objs.size + pre0.length ∧ ∀ c o, s.heap.get? c = some o → h.get? c = some o) _ ?_ ?_ _ _
    ⟨[], [], rs0, s.heap, rfl, rfl, rfl, rfl, rfl, (fun _ q => nomatch q), rfl, rfl, fun _ _ e => e⟩
  · rintro x rest b s' ⟨pre, pre0, post, h, er, em, hrest, rfl, rfl, hi, hr, hz, hk⟩
    cases post with
    | nil => simp at hrest
    | cons r post =>
      simp only [List.map_cons, List.cons.injEq] at hrest
      obtain ⟨rfl, rfl⟩ := hrest
      have hsq : SqAt h r := (hs r (by rw [er]; simp)).at fun o e => hk _ _ e
      refine wpAny_bind (wpAny_holding ?_)
      have key : ∀ o, (∀ hn : Heap, hn.get? h.objs.size = some o → ItAt hn 0 { r with it := h.objs.size }) → o.isFreed = false → wpAny (model prog w) A (pure (ForInStep.yield ((pre.map fun r => Value.ref r.it).toArray.push (Value.ref h.objs.size)))) (fun r s' => match r with
          | .yield b' => ∃ (pre : List Sr) (pre0 post_1 : List Sr) (h : Heap), rs0 = pre0 ++ post_1 ∧ pre.map (fun r => (r.tp, r.l, r.xs)) = pre0.map (fun r => (r.tp, r.l, r.xs)) ∧ (post.map fun r => Value.ref r.l) = (post_1.map fun r => Value.ref r.l) ∧ b' = (pre.map fun r => Value.ref r.it).toArray ∧ s' = { s with heap := h } ∧ (∀ r ∈ pre, ItAt h 0 r) ∧
            pre.map (·.it) = List.range' s.heap.objs.size pre0.length ∧ h.objs.size = s.heap.objs.size + pre0.length ∧ ∀ c o, s.heap.get? c = some o → h.get? c = some o
          | .done b' => wpAny (model prog w) A (pure b'.toList) Q E s') E { s with heap := h.push o } := fun o h1 h2 => by
        refine wpAny_pure ⟨pre ++ [{ r with it := h.objs.size }], pre0 ++ [r], post, h.push o, by rw [er]; simp, by simp [em], rfl, by simp, rfl, fun q hq => ?_, ?_, by rw [Heap.size_push, hz]; simp; omega, fun c o e => Heap.get?_push_of_some _ (hk c o e)⟩
        · rcases List.mem_append.mp hq with hq | hq
          · exact (hi q hq).at fun o e => Heap.get?_push_of_some _ e
          · obtain rfl := List.mem_singleton.mp hq
            exact h1 _ (Heap.get?_push_size _ h2)
        · simp [hr, List.range'_concat, hz]
      obtain ⟨tp, it, l, xs⟩ := r
      cases tp with
      | true => exact wpAny_pyIter_tuple (s := { s with heap := h }) hsq (key _ (fun hn e => ⟨_, e, rfl, rfl⟩) rfl)
      | false => exact wpAny_pyIter_list (s := { s with heap := h }) hsq (key _ (fun hn e => ⟨_, e, rfl, rfl⟩) rfl)
  · rintro b s' ⟨pre, pre0, post, h, er, em, hrest, rfl, rfl, hi, hr, hz, hk⟩
    cases post with
    | cons r post => simp at hrest
    | nil =>
      have er' : pre0 = rs0 := by rw [er]; simp
      subst er'
      exact wpAny_pure (hQ h pre em hi hr hz hk)
def ZipMade (rs0 : List Sr) (s : Shared) (Q : Value → Shared → Prop) : Prop :=
  ∀ (h' : Heap) (rs : List Sr), rs.map (fun r => (r.tp, r.l, r.xs)) = rs0.map (fun r => (r.tp, r.l, r.xs)) → (∀ r ∈ rs, ItAt h' 0 r) → rs.map (·.it) = List.range' s.heap.objs.size rs0.length → h'.objs.size = s.heap.objs.size + rs0.length + 3 → (∀ c o, s.heap.get? c = some o → h'.get? c = some o) →
      Zp h' (s.heap.objs.size + rs0.length + 2) (s.heap.objs.size + rs0.length) (s.heap.objs.size + rs0.length + 1) .none (.bool false) → Tp h' (s.heap.objs.size + rs0.length) (rs.map fun r => .ref r.it) → Tp h' (s.heap.objs.size + rs0.length + 1) (rs.map fun _ => .none) →
      Q (.ref (s.heap.objs.size + rs0.length + 2)) { s with heap := h' }
theorem meets_zip (rs0 : List Sr) (hn : rs0.length ≤ 9) : Meets (Builtin.«zip.__new__» ⟨.type "zip" :: (rs0.map fun r => .ref r.l), []⟩) (fun _ R s => (∀ r ∈ rs0, SqAt s.heap r) ∧ ZipMade rs0 s fun v s' => R (.ok (.ret v)) s') :=
  .of_wp fun prog w A R s ⟨hs, h⟩ => by
    unfold Builtin.«zip.__new__»
    refine wpAny_bind (m := Builtin.SmallTypes.newClass "zip" _) ?_
    unfold Builtin.SmallTypes.newClass
    show wpAny _ _ (isType (.type "zip") >>= _) _ _ _
    refine wpAny_bind (wpAny_pure ?_)
    simp only [Bool.not_true, Bool.false_eq_true, if_false, pure_bind]
    rw [sub_zip]
    simp only [pure_bind, Bool.not_true, Bool.false_eq_true, if_false]
    refine wpAny_pure ?_
    simp only [List.length_nil, gt_iff_lt, Nat.not_lt_zero, if_false, pure_bind]
    refine wpAny_bind (iterAll_zip hs fun h1 rs e1 e2 e3 e4 e5 => ?_)
    have el : rs.length = rs0.length := by simpa using congrArg List.length e1
    have en : rs.length ≤ sizeLine := by rw [el]; exact Nat.le_trans hn (by decide)
    refine wpAny_bind (wpAny_newTuple (hsz := by simpa using en) ?_)
    refine wpAny_bind (wpAny_newTuple (hsz := by simpa using en) ?_)
    generalize eh2 : h1.push { cls := Value.type "tuple", data := Data.seq (List.map (fun r => Value.ref r.it) rs).toArray } = h2
    generalize eh3 : h2.push { cls := Value.type "tuple", data := Data.seq (List.map (fun x => Value.none) (List.map (fun r => Value.ref r.it) rs)).toArray } = h3
    refine wpAny_bind ?_
    show wpAny _ _ (newObj (.type "zip") (.fields #[.none, .bool false, .bool false, .ref h1.objs.size, .ref h2.objs.size])) _ _ { s with heap := h3 }
    refine wpAny_newObj_type (wpAny_pure ⟨_, rfl, ?_⟩) (by size_fits)
    have z2 : h2.objs.size = h1.objs.size + 1 := by rw [← eh2]; exact Heap.size_push ..
    have z3 : h3.objs.size = h2.objs.size + 1 := by rw [← eh3]; exact Heap.size_push ..
    show R (.ok (.ret (.ref h3.objs.size))) { s with heap := h3.push { cls := .type "zip", dict := none, data := .fields #[.none, .bool false, .bool false, .ref h1.objs.size, .ref h2.objs.size], slots := #[] } }
    have g3 : ∀ c o, h1.get? c = some o → (h3.push { cls := .type "zip", dict := none, data := .fields #[.none, .bool false, .bool false, .ref h1.objs.size, .ref h2.objs.size], slots := #[] }).get? c = some o := fun c o e => by
      refine Heap.get?_push_of_some _ ?_
      rw [← eh3]; refine Heap.get?_push_of_some _ ?_
      rw [← eh2]; exact Heap.get?_push_of_some _ e
    have a1 : Tp (h3.push { cls := .type "zip", dict := none, data := .fields #[.none, .bool false, .bool false, .ref h1.objs.size, .ref h2.objs.size], slots := #[] }) h1.objs.size (rs.map fun r => .ref r.it) := by
      refine Heap.get?_push_of_some _ ?_
      rw [← eh3]; refine Heap.get?_push_of_some _ ?_
      rw [← eh2]; exact Heap.get?_push_size _ rfl
    have a2 : Tp (h3.push { cls := .type "zip", dict := none, data := .fields #[.none, .bool false, .bool false, .ref h1.objs.size, .ref h2.objs.size], slots := #[] }) h2.objs.size (rs.map fun _ => .none) := by
      refine Heap.get?_push_of_some _ ?_
      rw [← eh3]
      have := Heap.get?_push_size h2 (o := { cls := Value.type "tuple", data := Data.seq (List.map (fun x => Value.none) (List.map (fun r => Value.ref r.it) rs)).toArray }) rfl
      rw [List.map_map] at this ⊢
      exact this
    have a3 : Zp (h3.push { cls := .type "zip", dict := none, data := .fields #[.none, .bool false, .bool false, .ref h1.objs.size, .ref h2.objs.size], slots := #[] }) h3.objs.size h1.objs.size h2.objs.size .none (.bool false) := Heap.get?_push_size _ rfl
    have zz : (h3.push { cls := .type "zip", dict := none, data := .fields #[.none, .bool false, .bool false, .ref h1.objs.size, .ref h2.objs.size], slots := #[] }).objs.size = h3.objs.size + 1 := Heap.size_push ..
    generalize (h3.push { cls := .type "zip", dict := none, data := .fields #[.none, .bool false, .bool false, .ref h1.objs.size, .ref h2.objs.size], slots := #[] }) = h4 at *
    rw [z3, z2, e4] at a3 zz ⊢
    rw [z2, e4] at a2
    rw [e4] at a1
    exact h h4 rs e1 (fun r hr => (e2 r hr).at fun o e => g3 _ _ e) e3 zz (fun c o e => g3 _ _ (e5 c o e)) a3 a1 a2
theorem call_zip {rs0 : List Sr} {Q : Value → Shared → Prop} (hn : rs0.length ≤ 9) (hs : ∀ r ∈ rs0, SqAt s.heap r) (hQ : ZipMade rs0 s Q) :
    wpAny (model prog w) A (call (.type "zip") (rs0.map fun r => .ref r.l)) Q E s :=
  callType_new F.called_zip (by decide) (typeCall_zip _) (newCall_zip _ (by simpa using hn)) (fun obj => init_zip obj _) F.entry_zip_new (meets_zip rs0 hn)
    ⟨hs, fun h' rs e1 e2 e3 e4 e5 e6 e7 e8 => ⟨⟨_, e6, rfl⟩, hQ h' rs e1 e2 e3 e4 e5 e6 e7 e8⟩⟩
theorem zip_end {z TI TO : Addr} {r : Sr} {rs : List Sr} {f0 f1 : Value} {k : Nat} {Q : Fin → Shared → Prop} (hh : A.handled = none) (D : Apart z TI TO (r :: rs)) (hz : Zp s.heap z TI TO f0 f1) (h0 : f0 = .none ∨ ∃ T : Addr, f0 = rawInt T) (hf : f1 = .bool true ∨ f1 = .bool false)
    (hTI : Tp s.heap TI ((r :: rs).map fun r => .ref r.it)) (hi : ItAt s.heap k r) (hs : SqAt s.heap r) (hk : r.xs.length ≤ k)
    (hE : ∀ h' e, (∀ c o, c ≠ z → c ≠ r.it → s.heap.get? c = some o → h'.get? c = some o) → (∃ o, h'.get? e = some o ∧ o.cls = .type "StopIteration") → E (.ref e) { s with heap := h' }) :
    wpAny (model prog w) A (Builtin.«zip.__next__» ⟨[.ref z], []⟩) Q E s := by
  have hr := D.iz r (List.mem_cons_self ..)
  have hl := D.lz r (List.mem_cons_self ..)
  have gk : r.xs[k]? = none := List.getElem?_eq_none hk
  show wpAny _ _ (field (.ref z) 2 >>= _) _ _ _
  refine wpAny_bind (wpAny_field hz rfl (x := .bool false) rfl ?_)
  show wpAny _ _ (field (.ref z) 3 >>= _) _ _ _
  refine wpAny_bind (wpAny_field hz rfl (x := .ref TI) rfl ?_)
  refine wpAny_bind (wpAny_seqItems hTI rfl ?_)
  have hemp : ((r :: rs).map fun r => Value.ref r.it).toArray.isEmpty = false := by simp
  simp only [hemp, Bool.false_eq_true, if_false, pure_bind]
  refine wpAny_bind (free_none hz h0 hf ?_ fun h₁ hz₁ hs₁ => ?_)
  · simp only [if_true]
    refine wpAny_bind (wpAny_rule ?_)
    refine wpAny_bind (wpAny_field hz rfl (x := .ref TO) rfl ?_)
    refine wpAny_bind (wpAny_setField_rec hz (by simp) fun h₁ hz₁ hs₁ => ?_)
    replace hz₁ : Zp h₁ z TI TO .ellipsis f1 := hz₁
    refine wpAny_bind ?_
    simp only [List.map_cons, List.zipIdx_cons, List.forIn_cons]
    refine wpAny_bind (wpAny_bind (wpAny_onRaise ?_))
    show wpAny _ _ (Builtin.SmallTypes.nextOf (.ref r.it) >>= _) _ _ _
    refine wpAny_bind (next_end (s := { s with heap := h₁ }) hh (hi.at fun o e => hs₁.extBut _ _ hr.1 e) (hs.at fun o e => hs₁.extBut _ _ hl.1 e) gk fun h₂ e hx he => ?_)
    obtain ⟨oe, hoe, hce⟩ := he
    have hzq : Zp h₂ z TI TO .ellipsis f1 := hx _ _ hr.1.symm hz₁
    have hez : e ≠ z := fun x => by subst x; rw [hzq] at hoe; cases hoe; simp at hce
    refine wpAny_setField_rec (s := { s with heap := h₂ }) hzq (by simp) fun q' _ hq' => ?_
    replace hq' : Heap.SameBut z h₂ q' := hq'
    exact hE q' e (fun c o cz c1 x => hq'.extBut _ _ cz (hx _ _ c1 (hs₁.extBut _ _ cz x))) ⟨oe, hq'.extBut _ _ hez hoe, hce⟩
  · simp only [Bool.false_eq_true, if_false]
    refine wpAny_bind ?_
    rw [← Array.forIn_toList]
    simp only [List.map_cons, List.forIn_cons]
    refine wpAny_bind (wpAny_bind (wpAny_holding ?_))
    show wpAny _ _ (Builtin.SmallTypes.nextOf (.ref r.it) >>= _) _ _ _
    refine wpAny_bind (next_end (s := { s with heap := h₁ }) hh (hi.at fun o e => hs₁.extBut _ _ hr.1 e) (hs.at fun o e => hs₁.extBut _ _ hl.1 e) gk fun h₂ e hx he => ?_)
    exact hE h₂ e (fun c o cz c1 x => hx _ _ c1 (hs₁.extBut _ _ cz x)) he
theorem pyNext_item {z TI TO : Addr} {rs : List Sr} {f0 f1 : Value} {arr : List Value} {k : Nat} {Q : Option Value → Shared → Prop} (D : Apart z TI TO rs) (hn : rs.length ≤ sizeLine) (hne : rs ≠ []) (hz : Zp s.heap z TI TO f0 f1) (h0 : f0 = .none ∨ ∃ T : Addr, f0 = rawInt T) (hf : f1 = .bool true ∨ f1 = .bool false)
    (hTI : Tp s.heap TI (rs.map fun r => .ref r.it)) (hTO : Tp s.heap TO arr) (ha : arr.length = rs.length) (hi : ∀ r ∈ rs, ItAt s.heap k r) (hs : ∀ r ∈ rs, SqAt s.heap r) (hk : ∀ r ∈ rs, k < r.xs.length)
    (hQ : ∀ h' g0 g1 arr', Zp h' z TI TO g0 g1 → (g0 = .none ∨ ∃ T : Addr, g0 = rawInt T) → (g1 = .bool true ∨ g1 = .bool false) → Tp h' TO arr' → arr'.length = rs.length → (∀ r ∈ rs, ItAt h' (k + 1) r) → Tp h' s.heap.objs.size (row rs k) → h'.objs.size = s.heap.objs.size + 1 →
      (∀ c o, c ≠ z → c ≠ TO → (∀ r ∈ rs, c ≠ r.it) → s.heap.get? c = some o → h'.get? c = some o) → Q (some (.ref s.heap.objs.size)) { s with heap := h' }) :
    wpAny (model prog w) A (pyNext (.ref z)) Q E s := by
  have hT : s.TypeIs (.ref z) "zip" := ⟨_, hz, rfl⟩
  unfold pyNext
  exact wpAny_bind (wpAny_attempt (wpAny_callSpecial?_slot (name := Str.ofString "__next__") hT F.slot_zip_next
    (wpAny_call_entry F.slot_zip_next hT F.entry_zip_next
      (zip_item D hn hne hz h0 hf hTI hTO ha hi hs hk fun h' g0 g1 arr' b1 b2 b3 b4 b5 b6 b7 b8 b9 => wpAny_pure (hQ h' g0 g1 arr' b1 b2 b3 b4 b5 b6 b7 b8 b9)) (F.args_zip_next_1 _))))
theorem pyNext_end {z TI TO : Addr} {r : Sr} {rs : List Sr} {f0 f1 : Value} {k : Nat} {Q : Option Value → Shared → Prop} (hh : A.handled = none) (D : Apart z TI TO (r :: rs)) (hz : Zp s.heap z TI TO f0 f1) (h0 : f0 = .none ∨ ∃ T : Addr, f0 = rawInt T) (hf : f1 = .bool true ∨ f1 = .bool false)
    (hTI : Tp s.heap TI ((r :: rs).map fun r => .ref r.it)) (hi : ItAt s.heap k r) (hs : SqAt s.heap r) (hk : r.xs.length ≤ k)
    (hQ : ∀ h', (∀ c o, c ≠ z → c ≠ r.it → s.heap.get? c = some o → h'.get? c = some o) → Q none { s with heap := h' }) : wpAny (model prog w) A (pyNext (.ref z)) Q E s := by
  have hT : s.TypeIs (.ref z) "zip" := ⟨_, hz, rfl⟩
  unfold pyNext
  refine wpAny_bind (wpAny_attempt (wpAny_callSpecial?_slot (name := Str.ofString "__next__") hT F.slot_zip_next
    (wpAny_call_entry F.slot_zip_next hT F.entry_zip_next (zip_end (A := A.in1) hh D hz h0 hf hTI hi hs hk fun h' e hk he => ?_) (F.args_zip_next_1 _))))
  obtain ⟨o, ho, hc⟩ := he
  refine wpAny_bind (wpAny_isInstance (T := "StopIteration") (b := true) ⟨o, ho, hc⟩ isSubtype_stop ?_)
  exact wpAny_pure (hQ _ hk)
theorem pyIter_zp {z TI TO : Addr} {f0 f1 : Value} {Q : Value → Shared → Prop} (hz : Zp s.heap z TI TO f0 f1) (h : Q (.ref z) s) : wpAny (model prog w) A (pyIter (.ref z)) Q E s := by
  have hT : s.TypeIs (.ref z) "zip" := ⟨_, hz, rfl⟩
  refine wpAny_pyIter_slot hT F.slot_zip_iter (wpAny_call_entry F.slot_zip_iter hT F.entry_zip_iter ?_ (F.args_zip_iter_1 _))
  show wpAny _ _ (ret (.ref z)) _ _ s
  exact wpAny_pure ⟨_, rfl, "zip", _, hT, F.slot_zip_next.lookup, h⟩
/-- what the step ahead of the store does -/
theorem letGo_zp {tg : Expr} {z TI TO T : Addr} {f0 f1 : Value} {Q : Unit → Shared → Prop} (hz : Zp s.heap z TI TO f0 f1) (h0 : f0 = .none ∨ ∃ T : Addr, f0 = rawInt T)
    (hQ : ∀ h' g0, Zp h' z TI TO g0 f1 → (g0 = .none ∨ ∃ T : Addr, g0 = rawInt T) → Heap.SameBut z s.heap h' → Q () { s with heap := h' }) : wpAny (model prog w) A (letOwnedTupleGo tg (.ref z) (.ref T)) Q E s := by
  have stay : Q () s := hQ s.heap f0 hz h0 (Heap.SameBut.refl _ _)
  have main : wpAny (model prog w) A (do
      let o ← load z
      match o.cls, o.data with
      | .type n, .fields vs =>
        if ["enumerate", "zip", "dict_itemiterator", "dict_reverseitemiterator", "odict_iterator", "itertools.zip_longest", "itertools.pairwise"].contains n && vs[0]? == some (rawInt T) then
          rule "for.unpacks-the-owned-tuple"
          updateField z 0 .none
      | _, _ => pure ()) Q E s := by
    refine wpAny_bind (wpAny_load hz ?_)
    show wpAny _ _ (if (["enumerate", "zip", "dict_itemiterator", "dict_reverseitemiterator", "odict_iterator", "itertools.zip_longest", "itertools.pairwise"].contains "zip" && (#[f0, f1, .bool false, .ref TI, .ref TO] : Array Value)[0]? == some (rawInt T)) = true then _ else _) Q E s
    split
    · refine wpAny_bind (wpAny_rule ?_)
      show wpAny _ _ (setField (.ref z) 0 .none) Q E s
      exact wpAny_setField_rec hz (by simp) fun h' hz' hs' => hQ h' _ hz' (.inl rfl) hs'
    · exact wpAny_pure stay
  unfold letOwnedTupleGo
  cases tg <;> first
    | exact wpAny_pure stay
    | exact main
end
end EvZ
/-! # zip as an iterator of the layer -/
namespace EvZ
open PySem PySem.Spec PySem.SeqAt L2 PyProof.Rows
abbrev Src := Bool × Addr × List V
def Sq (K : PySem.W.Frag) (H : Hp) (s : Src) : Prop := match s.1 with
  | true => SqT K H s.2.1 s.2.2
  | false => SqL K H s.2.1 s.2.2
def ItN (K : PySem.W.Frag) (ss : List Src) : It :=
  ⟨fun i H => ∀ s ∈ ss, Sq K H s ∧ i < s.2.2.length, fun i H v H' => ∃ T, v = .ref T ∧ H T = none ∧ H' = upd H T (.tup (ss.map fun s => s.2.2.getD i .non)), fun i H => ∃ s t, ss = s :: t ∧ Sq K H s ∧ s.2.2.length ≤ i⟩
def Sr.b (r : Sr) : Bool × Addr × Addr := (r.tp, r.it, r.l)
theorem mem_b {rs rs0 : List Sr} (e : rs.map Sr.b = rs0.map Sr.b) {r : Sr} (h : r ∈ rs) : ∃ r0 ∈ rs0, r0.b = r.b := by
  have : r.b ∈ rs0.map Sr.b := by rw [← e]; exact List.mem_map_of_mem h
  obtain ⟨r0, h1, h2⟩ := List.mem_map.mp this
  exact ⟨r0, h1, h2⟩
theorem its_b {rs rs0 : List Sr} (e : rs.map Sr.b = rs0.map Sr.b) : rs.map (·.it) = rs0.map (·.it) := by
  have := congrArg (List.map fun (x : Bool × Addr × Addr) => x.2.1) e
  simpa [Sr.b, Function.comp_def] using this
theorem Apart.congr {z TI TO : Addr} {rs rs0 : List Sr} (D : Apart z TI TO rs0) (e : rs.map Sr.b = rs0.map Sr.b) : Apart z TI TO rs := by
  refine ⟨D.TIz, D.TOz, D.TT, fun r hr => ?_, fun r hr => ?_, by rw [its_b e]; exact D.nd⟩
  · obtain ⟨r0, h0, e0⟩ := mem_b e hr
    simp only [Sr.b, Prod.mk.injEq] at e0
    have := D.iz r0 h0
    rw [e0.2.1] at this
    exact this
  · obtain ⟨r0, h0, e0⟩ := mem_b e hr
    simp only [Sr.b, Prod.mk.injEq] at e0
    have := D.lz r0 h0
    rw [e0.2.2] at this
    refine ⟨this.1, this.2.1, fun q hq => ?_⟩
    obtain ⟨q0, k0, f0⟩ := mem_b e hq
    simp only [Sr.b, Prod.mk.injEq] at f0
    have := this.2.2 q0 k0
    rw [f0.2.1] at this
    exact this
theorem ItAt.congr {h : Heap} {k : Nat} {r r0 : Sr} (e : r0.b = r.b) (x : ItAt h k r0) : ItAt h k r := by
  obtain ⟨tp, it, l, xs⟩ := r
  obtain ⟨tp0, it0, l0, xs0⟩ := r0
  simp only [Sr.b, Prod.mk.injEq] at e
  obtain ⟨rfl, rfl, rfl⟩ := e
  exact x
theorem its_all {h : Heap} {k : Nat} {rs rs0 : List Sr} (e : rs.map Sr.b = rs0.map Sr.b) (x : ∀ r ∈ rs0, ItAt h k r) : ∀ r ∈ rs, ItAt h k r := fun r hr => by
  obtain ⟨r0, h0, e0⟩ := mem_b e hr
  exact (x r0 h0).congr e0
section
variable {X : Cx} {pins : List (Addr × Obj)} {σ : L2.St} {H : Hp} {s : Shared}
theorem vals_getD {xs : List V} {us : List Value} (r : Vals xs us) {i : Nat} (h : i < xs.length) : RelV (xs.getD i .non) (us.getD i .none) := by
  obtain ⟨u, h1, h2⟩ := r.get (List.getElem?_eq_getElem h)
  rw [List.getD_eq_getElem?_getD, List.getD_eq_getElem?_getD, List.getElem?_eq_getElem h, h1]
  exact h2
theorem fill (I : Inv X pins σ H s) : ∀ (rs0 : List Sr) (ss : List Src), rs0.map (fun r => (r.tp, r.l)) = ss.map (fun s => (s.1, s.2.1)) → (∀ q ∈ ss, Sq X.K H q) →
    ∃ rs : List Sr, rs.map Sr.b = rs0.map Sr.b ∧ (∀ r ∈ rs, SqAt s.heap r) ∧ rs.map (fun r => r.xs.length) = ss.map (fun s => s.2.2.length) ∧ ∀ i, (∀ q ∈ ss, i < q.2.2.length) → Vals (ss.map fun q => q.2.2.getD i .non) (row rs i)
  | [], [], _, _ => ⟨[], rfl, (fun _ q => nomatch q), rfl, fun _ _ => .nil⟩
  | r0 :: rs0, q :: ss, e, h => by
    simp only [List.map_cons, List.cons.injEq, Prod.mk.injEq] at e
    obtain ⟨rs, a1, a2, a3, a4⟩ := fill I rs0 ss e.2 fun q hq => h q (List.mem_cons_of_mem _ hq)
    have hq := h q (List.mem_cons_self ..)
    obtain ⟨tp, a, xs⟩ := q
    obtain ⟨tp0, it0, l0, xs0⟩ := r0
    obtain ⟨⟨rfl, rfl⟩, _⟩ := e
    have key : ∃ its : List Value, Vals xs its ∧ SqAt s.heap ⟨tp0, it0, l0, its⟩ := by
      cases tp0 with
      | true =>
        obtain ⟨its, rv, p, _⟩ := I.tuple hq
        exact ⟨its, rv, p⟩
      | false =>
        obtain ⟨its, rv, p, _⟩ := I.list hq
        exact ⟨its, rv, p.isList⟩
    obtain ⟨its, rv, p⟩ := key
    refine ⟨⟨tp0, it0, l0, its⟩ :: rs, by simp [a1, Sr.b], fun r hr => ?_, ?_, fun i hi => ?_⟩
    · rcases List.mem_cons.mp hr with rfl | hr
      · exact p
      · exact a2 r hr
    · simp only [List.map_cons, a3]
      rw [rv.length]
    · simp only [row, List.map_cons]
      exact .cons (vals_getD rv (hi _ (List.mem_cons_self ..))) (a4 i fun q hq => hi q (List.mem_cons_of_mem _ hq))
  | [], _ :: _, e, _ => by simp at e
  | _ :: _, [], e, _ => by simp at e
end
theorem turn_zip {P : Program} {w : World} {K : PySem.W.Frag} {tg : Expr} {z TI TO : Addr} {rs0 : List Sr} {ss : List Src} (D : Apart z TI TO rs0) (hne : rs0 ≠ []) (hn : rs0.length ≤ 9) (hs : rs0.map (fun r => (r.tp, r.l)) = ss.map (fun s => (s.1, s.2.1))) :
    Turn P w K tg (ItN K ss) (z :: TI :: TO :: rs0.map (·.it)) z (fun i h => ∃ f0 f1 arr, Zp h z TI TO f0 f1 ∧ (f0 = .none ∨ ∃ T : Addr, f0 = rawInt T) ∧ (f1 = .bool true ∨ f1 = .bool false) ∧ Tp h TI (rs0.map fun r => .ref r.it) ∧ Tp h TO arr ∧ arr.length = rs0.length ∧ ∀ r ∈ rs0, ItAt h i r) where
  mem := by simp
  obj := fun i h st c hc => by
    obtain ⟨f0, f1, arr, hz, _, _, hTI, hTO, _, hi⟩ := st
    have e' : c = z ∨ c = TI ∨ c = TO ∨ ∃ r ∈ rs0, r.it = c := by simpa using hc
    rcases e' with q | q | q | ⟨r, hr, q⟩
    · rw [q]; exact ⟨_, hz, fun v q => nomatch q⟩
    · rw [q]; exact ⟨_, hTI, fun v q => nomatch q⟩
    · rw [q]; exact ⟨_, hTO, fun v q => nomatch q⟩
    · rw [← q]; exact (hi r hr).there
  keep := fun i h h' st k => by
    obtain ⟨f0, f1, arr, hz, h0, hf, hTI, hTO, ha, hi⟩ := st
    exact ⟨f0, f1, arr, k z (by simp) _ hz, h0, hf, k TI (by simp) _ hTI, k TO (by simp) _ hTO, ha, fun r hr => (hi r hr).at fun o q => k r.it (by simp; exact .inr (.inr (.inr ⟨r, hr, rfl⟩))) o q⟩
  item := by
    intro X hP hw hK hc i pins s σ H E I hf st hg
    subst hP hw hK
    obtain ⟨f0, f1, arr, hz, h0, hf1, hTI, hTO, ha, hi⟩ := st
    obtain ⟨rs, b1, b2, b3, b4⟩ := fill I rs0 ss hs fun q hq => (hg q hq).1
    have D' := D.congr b1
    have el : rs.length = rs0.length := by simpa using congrArg List.length b1
    have es : ss.length = rs0.length := by simpa using (congrArg List.length hs).symm
    have eit : (rs.map fun r => Value.ref r.it) = rs0.map fun r => Value.ref r.it := by
      have := congrArg (List.map Value.ref) (its_b b1)
      rw [List.map_map, List.map_map] at this
      exact this
    have hne' : rs ≠ [] := fun q => hne (List.length_eq_zero_iff.mp (by rw [← el, q]; rfl))
    have hlen : ∀ r ∈ rs, i < r.xs.length := fun r hr => by
      have : r.xs.length ∈ ss.map (fun s => s.2.2.length) := by rw [← b3]; exact List.mem_map_of_mem (f := fun r : Sr => r.xs.length) hr
      obtain ⟨q, hq, e⟩ := List.mem_map.mp this
      rw [← e]; exact (hg q hq).2
    have hnn : rs.length ≤ sizeLine := by rw [el]; exact Nat.le_trans hn (by decide)
    have hzl : z < s.heap.objs.size := Heap.lt_size hz
    refine pyNext_item D' hnn hne' hz h0 hf1 (by rw [eit]; exact hTI) hTO (by rw [el]; exact ha) (its_all b1 hi) b2 hlen fun h' g0 g1 arr' z' k0 k1 TO' la it' hT hsz hk => ?_
    refine ⟨_, rfl, letGo_zp (s := { s with heap := h' }) z' k0 fun h'' g0' z'' k0' sb => ?_⟩
    have hT2 : Tp h'' s.heap.objs.size (row rs i) := (sb.2 _ (Nat.ne_of_gt hzl)).trans hT
    have new : ObjOk X.prog X.w (upd H s.heap.objs.size (.tup (ss.map fun q => q.2.2.getD i .non))) h'' s.heap.objs.size (.tup (ss.map fun q => q.2.2.getD i .non)) :=
      ⟨by simp only [List.length_map]; rw [es]; exact Nat.le_trans hn (by decide), row rs i, b4 i fun q hq => (hg q hq).2, ⟨_, hT2, rfl, _, rfl⟩⟩
    have hk' : ∀ c o, c ∉ (z :: TI :: TO :: rs0.map (·.it)) → s.heap.get? c = some o → h''.get? c = some o := fun c o hb q => by
      simp only [List.mem_cons, List.mem_map, not_or, not_exists, not_and] at hb
      refine (sb.2 c hb.1).trans (hk c o hb.1 hb.2.2.1 (fun r hr => ?_) q)
      obtain ⟨r0, h0, e0⟩ := mem_b b1 hr
      simp only [Sr.b, Prod.mk.injEq] at e0
      rw [← e0.2.1]
      exact fun e => hb.2.2.2 r0 h0 e.symm
    have I1 : Inv X pins σ (upd H s.heap.objs.size (.tup (ss.map fun q => q.2.2.getD i .non))) { s with heap := h'' } :=
      I.turnedNew (t' := s.toks) (ch := z :: TI :: TO :: rs0.map (·.it)) hk' hf (Nat.le_refl _) new
    have hTI' : Tp h'' TI (rs0.map fun r => .ref r.it) := (sb.2 _ D.TIz).trans (hk _ _ D.TIz D.TT (fun r hr => (D'.iz r hr).2.1.symm) hTI)
    refine ⟨.ref s.heap.objs.size, _, I1, rfl, ⟨_, rfl, I.hok.fresh (Nat.le_refl _), rfl⟩, ⟨g0', g1, arr', z'', k0', k1, hTI', (sb.2 _ D.TOz).trans TO', by rw [la, el], fun r hr => ?_⟩, fun c hcm => ?_⟩
    · exact (its_all b1.symm it' r hr).at fun o q => (sb.2 _ (D.iz r hr).1).trans q
    · have hlt : c < s.heap.objs.size := by
        have e' : c = z ∨ c = TI ∨ c = TO ∨ ∃ r ∈ rs0, r.it = c := by simpa using hcm
        rcases e' with q | q | q | ⟨r, hr, q⟩
        · rw [q]; exact hzl
        · rw [q]; exact Heap.lt_size hTI
        · rw [q]; exact Heap.lt_size hTO
        · rw [← q]; obtain ⟨_, e1, _⟩ := (hi r hr).there; exact Heap.lt_size e1
      rw [upd_ne (Nat.ne_of_lt hlt)]
      exact (hf c hcm).1
  done := by
    intro X hP hw hK hc i pins s σ H E I hf st hg
    subst hP hw hK
    obtain ⟨f0, f1, arr, hz, h0, hf1, hTI, hTO, ha, hi⟩ := st
    obtain ⟨q, t, rfl, hq, hl⟩ := hg
    cases rs0 with
    | nil => exact absurd rfl hne
    | cons r0 rs0 =>
      simp only [List.map_cons, List.cons.injEq] at hs
      obtain ⟨rs, b1, b2, b3, _⟩ := fill I [r0] [q] (by simp [hs.1]) fun q' hq' => by rw [List.mem_singleton.mp hq']; exact hq
      obtain ⟨r, rfl⟩ : ∃ r, rs = [r] := by
        match rs, congrArg List.length b1 with
        | [r], _ => exact ⟨r, rfl⟩
      have er : r.b = r0.b := by simpa using b1
      have eall : (r :: rs0).map Sr.b = (r0 :: rs0).map Sr.b := by simp [er]
      have D' := D.congr eall
      have ei : r.it = r0.it := by simp only [Sr.b, Prod.mk.injEq] at er; exact er.2.1
      refine pyNext_end (I.ok.hd hc) D' hz h0 hf1 (by simp only [List.map_cons, ei]; exact hTI) ((hi r0 (List.mem_cons_self ..)).congr er.symm) (b2 r (List.mem_cons_self ..)) (by simp at b3; omega) fun h' hk => ⟨rfl, I.turnedL (t' := s.toks) (ch := z :: TI :: TO :: (r0 :: rs0).map (·.it)) (fun c o hb q => ?_) hf⟩
      simp only [List.map_cons, List.mem_cons, not_or] at hb
      exact hk c o hb.1 (by rw [ei]; exact hb.2.2.2.1) q
  self := fun A i s Q E st h => by
    obtain ⟨f0, f1, arr, hz, _⟩ := st
    exact pyIter_zp hz h
end EvZ
/-! # zip in the evaluator -/
namespace Ev
open PySem PySem.Spec PySem.SeqAt L2 PyProof.Rows EvZ
def frz : D → Option (List D)
  | .tup ds => some ds
  | .lst ds => some ds
  | _ => none
def frzs : List D → Option (List (List D))
  | [] => some []
  | d :: ds => match frz d, frzs ds with
    | some x, some xs => some (x :: xs)
    | _, _ => none
section
variable {K : PySem.W.Frag} {W : Wd}
theorem reps_getD {ds : List D} {vs : List V} (r : Reps K W ds vs) {i : Nat} (h : i < ds.length) : Rep K W (ds.getD i .non) (vs.getD i .non) := by
  obtain ⟨v, h1, h2⟩ := r.get (List.getElem?_eq_getElem h)
  rw [List.getD_eq_getElem?_getD, List.getD_eq_getElem?_getD, List.getElem?_eq_getElem h, h1]
  exact h2
theorem srcs : ∀ {ds : List D} {vs : List V} {xss : List (List D)}, Reps K W ds vs → frzs ds = some xss → ∃ ss : List Src, vs = ss.map (fun q => V.ref q.2.1) ∧ (∀ q ∈ ss, ∀ H : Hp, (∀ a o, W.F a = some o → H a = some o) → Sq K H q) ∧ ss.map (fun q => q.2.2.length) = xss.map List.length ∧
    ∀ i, (∀ x ∈ xss, i < x.length) → Reps K W (xss.map (·.getD i .non)) (ss.map (·.2.2.getD i .non))
  | [], _, xss, r, e => by
    cases r; cases e
    exact ⟨[], rfl, (fun _ q => nomatch q), rfl, fun _ _ => .nil⟩
  | d :: ds, _, xss, .cons r1 r2, e => by
    unfold frzs at e
    cases e1 : frz d with
    | none => rw [e1] at e; cases e
    | some x =>
      cases e2 : frzs ds with
      | none => rw [e1, e2] at e; cases e
      | some xs =>
        rw [e1, e2] at e
        cases e
        obtain ⟨ss, a1, a2, a3, a4⟩ := srcs r2 e2
        have key : ∃ q : Src, ‹V› = V.ref q.2.1 ∧ (∀ H : Hp, (∀ a o, W.F a = some o → H a = some o) → Sq K H q) ∧ Reps K W x q.2.2 := by
          cases r1 with
          | @tup a vs ds q r =>
            cases e1
            exact ⟨(true, a, vs), rfl, fun H h => by
              rcases q with q | q
              · exact .inl (rd_sub h q)
              · exact .inr q, r⟩
          | @lst a vs ds q r =>
            cases e1
            exact ⟨(false, a, vs), rfl, fun H h => SqL.of (h _ _ q), r⟩
          | _ => cases e1
        obtain ⟨q, k1, k2, k3⟩ := key
        refine ⟨q :: ss, by simp [k1, a1], fun p hp => ?_, by simp [a3, k3.length], fun i hi => ?_⟩
        · rcases List.mem_cons.mp hp with rfl | hp
          · exact k2
          · exact a2 p hp
        · exact .cons (reps_getD k3 (hi x (List.mem_cons_self ..))) (a4 i fun y hy => hi y (List.mem_cons_of_mem _ hy))
def zipD (xss : List (List D)) (n : Nat) : List D := (List.range n).map fun i => .tup (xss.map (·.getD i .non))
def pZip (ds : List D) : Option (List D) := match frzs ds with
  | some (x :: xss) => if xss.length < 9 ∧ ∀ y ∈ xss, y.length = x.length then some (zipD (x :: xss) x.length) else none
  | _ => none
theorem pZip_ok {ds zs : List D} {vs : List V} (e : pZip ds = some zs) (r : Reps K W ds vs) : ∃ ss : List Src, vs = ss.map (fun q => V.ref q.2.1) ∧ ss ≠ [] ∧ ss.length ≤ 9 ∧ (∀ q ∈ ss, ∀ H : Hp, (∀ a o, W.F a = some o → H a = some o) → Sq K H q) ∧ WalkD K W zs (ItN K ss) := by
  unfold pZip at e
  split at e
  · rename_i x xss ef
    split at e
    · rename_i hc
      cases e
      obtain ⟨ss, a1, a2, a3, a4⟩ := srcs r ef
      have hn : ss.length = xss.length + 1 := by simpa using congrArg List.length a3
      have hall : ∀ y ∈ x :: xss, y.length = x.length := fun y hy => by
        rcases List.mem_cons.mp hy with rfl | hy
        · rfl
        · exact hc.2 y hy
      have hss : ∀ q ∈ ss, q.2.2.length = x.length := fun q hq => by
        have : q.2.2.length ∈ (x :: xss).map List.length := by rw [← a3]; exact List.mem_map_of_mem (f := fun q : Src => q.2.2.length) hq
        obtain ⟨y, hy, ey⟩ := List.mem_map.mp this
        rw [← ey]; exact hall y hy
      refine ⟨ss, a1, fun q => by rw [q] at hn; simp at hn, by omega, a2, ?_⟩
      have el : (zipD (x :: xss) x.length).length = x.length := by simp [zipD]
      unfold WalkD
      rw [el]
      refine ⟨fun i H hi hG q hq => ⟨a2 q hq H hG, by rw [hss q hq]; exact hi⟩, fun H hG => ?_, fun i H v H' hi hG y d hd W2 S2 l g => ?_⟩
      · cases ss with
        | nil => simp at hn
        | cons q ss => exact ⟨q, ss, rfl, a2 q (List.mem_cons_self ..) H hG, by rw [hss q (List.mem_cons_self ..)]; exact Nat.le_refl _⟩
      · obtain ⟨T, rfl, hT, rfl⟩ := y
        have ed : d = .tup ((x :: xss).map (·.getD i .non)) := by rw [← Option.some_inj, ← hd]; simp [zipD, hi]
        subst ed
        have rr := a4 i fun y hy => by rw [hall y hy]; exact hi
        have l3 : W2.le (W2.add T (.tup (ss.map (·.2.2.getD i .non)))) := g.add_le hT
        exact ⟨W2.add T (.tup (ss.map (·.2.2.getD i .non))), l3, g.add hT, .tup (.inl (.inl (by show upd _ _ _ _ = _; rw [upd_same]))) ((rr.mono l).mono l3)⟩
    · cases e
  · cases e
end
section
variable {X : Cx} {Wx : WX} {a b c e tg : Expr} {ma mb mc m : ME} {pos : Pos}
/-- the call of zip has come to its iterator -/
theorem zip_pie {pins : List (Addr × Obj)} {s : Shared} {σ : L2.St} {H : Hp} {R : It → Hp → Prop} {us : List Value} {ss : List Src} (I : Inv X pins σ H s) (r : Vals (ss.map fun q => V.ref q.2.1) us) (hne : ss ≠ []) (hn : ss.length ≤ 9) (hs : ∀ q ∈ ss, Sq X.K H q) (hR : R (ItN X.K ss) H) :
    wpAny (model X.prog X.w) X.A (call (.type "zip") us) (fun v s1 => wpAny (model X.prog X.w) X.A (pyIter v) (PIE X pins σ tg R) X.xe s1) X.xe s := by
  obtain ⟨rs0, b1, b2, b3, b4⟩ := fill I (ss.map fun q => ⟨q.1, 0, q.2.1, []⟩) ss (by simp) hs
  have eu : us = rs0.map fun r => .ref r.l := by
    have e1 : rs0.map (fun r => r.l) = ss.map fun q => q.2.1 := by
      have := congrArg (List.map fun (x : Bool × Addr × Addr) => x.2.2) b1
      simpa [Sr.b, Function.comp_def] using this
    have e2 : ∀ (xs : List Addr) (us : List Value), Vals (xs.map V.ref) us → us = xs.map Value.ref := by
      intro xs
      induction xs with
      | nil => intro us h; cases h; rfl
      | cons x xs ih =>
        intro us h
        cases h with
        | cons h1 h2 =>
          obtain rfl := h1
          rw [ih _ h2]; rfl
    have e3 := e2 (ss.map fun q => q.2.1) us (by rw [List.map_map]; exact r)
    rw [e3, ← e1, List.map_map]
    rfl
  have el : rs0.length = ss.length := by simpa using congrArg List.length b1
  subst eu
  refine call_zip (by rw [el]; exact hn) b2 fun h' rs e1 e2 e3 e4 e5 e6 e7 e8 => pyIter_zp e6 ?_
  have el2 : rs.length = rs0.length := by simpa using congrArg List.length e1
  have hI : Inv X pins σ H { s with heap := h' } := I.kept (t' := s.toks) e5
  have hit : ∀ r ∈ rs, s.heap.objs.size ≤ r.it ∧ r.it < s.heap.objs.size + rs0.length := fun r hr => by
    have : r.it ∈ rs.map (·.it) := List.mem_map_of_mem hr
    rw [e3] at this
    obtain ⟨i, hi, e⟩ := List.mem_range'.mp this
    have e' : (r.it : Nat) = s.heap.objs.size + 1 * i := e
    constructor
    · rw [e']; exact Nat.le_add_right _ _
    · rw [e', Nat.one_mul]; exact Nat.add_lt_add_left hi _
  have hl : ∀ r ∈ rs, r.l < s.heap.objs.size := fun r hr => by
    have : (r.tp, r.l, r.xs) ∈ rs0.map (fun r => (r.tp, r.l, r.xs)) := by rw [← e1]; exact List.mem_map_of_mem (f := fun r : Sr => (r.tp, r.l, r.xs)) hr
    obtain ⟨r0, h0, eq⟩ := List.mem_map.mp this
    have sq := b2 r0 h0
    simp only [Prod.mk.injEq] at eq
    rw [← eq.2.1]
    obtain ⟨tp, it, l, xs⟩ := r0
    cases tp with
    | true => obtain ⟨o, h1, _⟩ := sq; exact Heap.lt_size h1
    | false => obtain ⟨o, h1, _⟩ := sq; exact Heap.lt_size h1
  have D : Apart (s.heap.objs.size + rs0.length + 2) (s.heap.objs.size + rs0.length) (s.heap.objs.size + rs0.length + 1) rs := by
    refine ⟨Nat.ne_of_lt (by omega), Nat.ne_of_lt (by omega), Nat.ne_of_lt (by omega), fun r hr => ?_, fun r hr => ?_, by rw [e3]; exact List.nodup_range'⟩
    · have h2 := (hit r hr).2
      exact ⟨Nat.ne_of_lt (Nat.lt_of_lt_of_le h2 (by omega)), Nat.ne_of_lt h2, Nat.ne_of_lt (Nat.lt_of_lt_of_le h2 (by omega))⟩
    · have h1 := hl r hr
      exact ⟨Nat.ne_of_lt (Nat.lt_of_lt_of_le h1 (by omega)), Nat.ne_of_lt (Nat.lt_of_lt_of_le h1 (by omega)), fun q hq => Nat.ne_of_lt (Nat.lt_of_lt_of_le h1 (hit q hq).1)⟩
  have hss : rs.map (fun r => (r.tp, r.l)) = ss.map (fun q => (q.1, q.2.1)) := by
    have := congrArg (List.map fun (x : Bool × Addr × List Value) => (x.1, x.2.1)) e1
    have t2 := congrArg (List.map fun (x : Bool × Addr × Addr) => (x.1, x.2.2)) b1
    simp [Sr.b, Function.comp_def] at this t2 ⊢
    rw [this, t2]
  refine ⟨_, _, _, _, H, rfl, hI, turn_zip D (fun q => hne (List.length_eq_zero_iff.mp (by rw [← el, ← el2, q]; rfl))) (by rw [el2, el]; exact hn) hss, ⟨_, _, _, e6, .inl rfl, .inr rfl, e7, e8, by simp, e2⟩, fun c hc => ?_, hR⟩
  have hle : s.heap.objs.size ≤ c := by
    have e' : c = s.heap.objs.size + rs0.length + 2 ∨ c = s.heap.objs.size + rs0.length ∨ c = s.heap.objs.size + rs0.length + 1 ∨ ∃ r ∈ rs, r.it = c := by simpa using hc
    rcases e' with q | q | q | ⟨r, hr, q⟩
    · rw [q]; exact Nat.le_trans (Nat.le_add_right _ _) (Nat.le_add_right _ _)
    · rw [q]; exact Nat.le_add_right _ _
    · rw [q]; exact Nat.le_trans (Nat.le_add_right _ _) (Nat.le_add_right _ _)
    · rw [← q]; exact (hit r hr).1
  exact I.fpOk hle (I.hok.fresh hle)
def iZip (mas : MA) : MA := fun δ => M.bind (mas δ) fun ds S => match pZip ds with
  | some zs => .ok zs S
  | none => .bad
theorem si_zip {es : List Expr} {mas : MA} {p : Pos} (hg : Gl X "zip") (hm : X.mg "zip" = none) (ha : SA X Wx (e :: es) mas)
    (hs : starEach (e :: es) X.env = (false, eval e X.env) :: starEach es X.env) (hpl : (backTo pos (starEach es X.env)).any (·.1) = false) : SI X Wx tg (.Call (.Name "zip" p) (e :: es) [] pos) (iZip mas) := by
  refine ⟨fun pins s σ H R I ⟨W, S, δ, g, r, h⟩ => ?_⟩
  refine Call_ (ld_blt I hg hm PyProof.Rows.boot_zip (PyProof.Rows.callWith_type1 (thn (ha.run pos pins s σ H _ I ⟨W, S, δ, g, r, okP.bind (R := Reps X.K) h⟩) fun us s1 ⟨vs, H1, I1, r1, W1, S1, ds, l1, g1, q1, p1⟩ => ?_) hs hpl))
  split at p1
  · rename_i zs ez
    obtain ⟨ss, c1, c2, c3, c4, c5⟩ := pZip_ok ez q1
    subst c1
    exact zip_pie I1 r1 c2 c3 (fun q hq => c4 q hq H1 g1.sub) (okP.pure p1 g1 c5)
  · exact p1.elim
/-- the star takes the items of a frozen sequence -/
theorem callWith_typeS {M : Model} {A : Around} {E : Value → Shared → Prop} {s : Shared} {T : String} {env : Env} {q : Pos} {Q : Value → Shared → Prop}
    (h : wpAny M A (eval e env) (fun v s₁ => PySem.W.StarOf M A E v (fun vs s₂ => wpAny M A (call (.type T) vs) Q E s₂) s₁) E s) :
    wpAny M A (callWith pos (.type T) [] (backTo pos (starEach [.Starred e q] env)) []) Q E s := by
  have h0 : starEach [.Starred e q] env = [(true, eval e env)] := rfl
  rw [h0]
  have h1 : wpAny M A (eval e env) (fun v s₁ => PySem.W.StarOf M A E v (fun vs s₂ => True ∧ wpAny M A (call (.type T) ([] ++ vs)) Q E s₂) s₁) E s := by
    refine wpAny_mono h (fun v s1 h1 => ?_) fun _ _ x => x
    exact wpAny_mono h1 (fun b s2 h2 => ⟨h2.1, wpAny_mono h2.2 (fun vs s3 h3 => ⟨trivial, h3⟩) fun _ _ x => x⟩) fun _ _ x => x
  exact PySem.W.ks_call (P := fun _ => True) rfl (fun _ _ => ⟨.machine, .inr (.inl rfl), PySem.W.Looks.of_pure rfl⟩) (PySem.W.ks_lone h1)
theorem si_zipS {p q : Pos} (hg : Gl X "zip") (hm : X.mg "zip" = none) (ha : SE X Wx e ma) : SI X Wx tg (.Call (.Name "zip" p) [.Starred e q] [] pos) (iZip (aStar ma aNil)) := by
  refine ⟨fun pins s σ H R I ⟨W, S, δ, g, r, h⟩ => ?_⟩
  unfold iZip aStar at h
  refine Call_ (ld_blt I hg hm PyProof.Rows.boot_zip (callWith_typeS (thn (ha.run pins s σ H _ I ⟨W, S, δ, g, r, okP.bind (R := Rep X.K) (okP.assoc h)⟩) fun u s1 ⟨v, H1, I1, r1, W1, S1, d, l1, g1, q1, p1⟩ => ?_)))
  cases ez : seqOf S1 d with
  | none => simp only [M.bind, ez] at p1; exact p1.elim
  | some xs =>
    obtain ⟨a, vs, rfl, h2, h3⟩ := seqOf_ok ez g1 q1
    obtain rfl : u = Value.ref a := r1
    simp only [M.bind, ez, aNil, M.pure, List.append_nil] at p1
    split at p1
    · rename_i zs ez
      obtain ⟨ss, c1, c2, c3, c4, c5⟩ := pZip_ok ez h3
      subst c1
      exact StX.star_any I1 h2.symm fun us s2 I2 rv => zip_pie I2 rv c2 c3 (fun q hq => c4 q hq H1 g1.sub) (okP.pure p1 g1 c5)
    · exact p1.elim
end
end Ev
/-! # making instances: an __init__ that reads no attribute of self, and sets them -/
namespace Ev
open PySem PySem.Spec PySem.SeqAt L2 PyProof.Rows
section
variable {K : PySem.W.Frag} {W W' : Wd}
mutual
theorem Rep.mono0 (hf : ∀ a o, W.F a = some o → W'.F a = some o) (hm : ∀ (i : Nat) a, W.m[i]? = some a → W'.m[i]? = some a) : ∀ {d : D} {v : V}, Rep K W d v → Rep K W' d v
  | _, _, .non => .non
  | _, _, .bl b => .bl b
  | _, _, .int i => .int i
  | _, _, .str x => .str x
  | _, _, .tup q r => .tup (by
      rcases q with q | q
      · exact .inl (rd_sub hf q)
      · exact .inr q) (Reps.mono0 hf hm r)
  | _, _, .lst q r => .lst (hf _ _ q) (Reps.mono0 hf hm r)
  | _, _, .scr q => .scr (by
      rcases q with q | q
      · exact .inl (rd_sub hf q)
      · exact .inr q)
  | _, _, .ins e k r => .ins (hf _ _ e) k (Reps.mono0 hf hm r)
  | _, _, .ref e => .ref (hm _ _ e)
  | _, _, .fn x => .fn x
theorem Reps.mono0 (hf : ∀ a o, W.F a = some o → W'.F a = some o) (hm : ∀ (i : Nat) a, W.m[i]? = some a → W'.m[i]? = some a) : ∀ {ds : List D} {vs : List V}, Reps K W ds vs → Reps K W' ds vs
  | _, _, .nil => .nil
  | _, _, .cons r t => .cons (Rep.mono0 hf hm r) (Reps.mono0 hf hm t)
end
theorem CellAt.mono0 {H : Hp} {a : Addr} (hf : ∀ a o, W.F a = some o → W'.F a = some o) (hm : ∀ (i : Nat) a, W.m[i]? = some a → W'.m[i]? = some a) : ∀ {c : Cell}, CellAt K W H a c → CellAt K W' H a c
  | .lst _, ⟨vs, e, r⟩ => ⟨vs, e, r.mono0 hf hm⟩
  | .ins _ _, ⟨dx, vfs, e, k, r⟩ => ⟨dx, vfs, e, k, r.mono0 hf hm⟩
variable {S : Store} {H : Hp}
/-- another self; less privacy -/
theorem Good.other (g : Good K W S H) {P : Hp} {sf : Option Addr} (h : ∀ a o, P a = some o → W.P a = some o) : Good K ⟨W.F, W.m, P, sf⟩ S H where
  sub := g.sub
  len := g.len
  cell := fun i c e => by
    obtain ⟨a, e1, e2, e3, e4⟩ := g.cell i c e
    refine ⟨a, e1, e2, ?_, CellAt.mono0 (W := W) (W' := ⟨W.F, W.m, P, sf⟩) (fun _ _ h => h) (fun _ _ h => h) e4⟩
    show P a = none
    cases q : P a with
    | none => rfl
    | some o => rw [h a o q] at e3; cases e3
  inj := g.inj
  prv := fun a o e => g.prv a o (h a o e)
/-- a new object that nothing speaks of -/
theorem Good.skip (g : Good K W S H) {p : Addr} {o : HO} (n : H p = none) : Good K W S (upd H p o) where
  sub := fun a u e => by rw [upd_ne (ne_of_none (g.sub a u e) n)]; exact g.sub a u e
  len := g.len
  cell := fun i c e => by
    obtain ⟨a, e1, e2, e3, e4⟩ := g.cell i c e
    obtain ⟨u, q⟩ := e4.there
    exact ⟨a, e1, e2, e3, e4.eqH (upd_ne (ne_of_none q n))⟩
  inj := g.inj
  prv := fun a u e => by
    obtain ⟨h1, h2⟩ := g.prv a u e
    exact ⟨by rw [upd_ne (ne_of_none h1 n)]; exact h1, h2⟩
end
/-- the instance that is being filled -/
structure Ini (K : PySem.W.Frag) (c : Str) (W : Wd) (fs : List (Str × D)) (P0 : Hp) (a dx : Addr) : Prop where
  sf : W.sf = some a
  n : P0 a = none
  p : ∃ vfs, W.P = upd P0 a (.ins (He.ga K c) dx vfs) ∧ vfs.map (·.1) = fs.map (·.1) ∧ Reps K W (fs.map (·.2)) (vfs.map (·.2))
theorem Ini.mono {K : PySem.W.Frag} {c : Str} {W W' : Wd} {fs : List (Str × D)} {P0 : Hp} {a dx : Addr} (i : Ini K c W fs P0 a dx) (l : W.le W') : Ini K c W' fs P0 a dx := by
  obtain ⟨vfs, h1, h2, h3⟩ := i.p
  exact ⟨l.sq.trans i.sf, i.n, vfs, l.pp.trans h1, h2, h3.mono l⟩
inductive FlI where
  | nx (δ : En) (fs : List (Str × D)) (S : Store)
  | exc (x : Xc) (S : Store)
  | bad
abbrev MI := En → List (Str × D) → Store → FlI
def iP (K : PySem.W.Frag) (c : Str) (P0 : Hp) (a dx : Addr) (W : Wd) (r : FlI) (Wx : WX) (E : Ends) : Prop := match r with
  | .nx δ fs S => ∀ W' H' σ, W.lf W' → Good K W' S H' → REnv K W' δ σ → Ini K c W' fs P0 a dx → E.nx σ H'
  | .exc x S => ∀ W' H' σ cls d, W.lf W' → Good K W' S H' → (∃ o, W'.P = upd P0 a o) → XRep K W' x cls d → Wx cls d σ H'
  | .bad => False
theorem iP.mono {K : PySem.W.Frag} {c : Str} {P0 : Hp} {a dx : Addr} {W W1 : Wd} {r : FlI} {Wx : WX} {E : Ends} (h : W.lf W1) (p : iP K c P0 a dx W r Wx E) : iP K c P0 a dx W1 r Wx E := by
  cases r with
  | nx δ fs S => exact fun W' H' σ l => p W' H' σ (h.trans l)
  | exc x S => exact fun W' H' σ cls d l => p W' H' σ cls d (h.trans l)
  | bad => exact p
def tI (K : PySem.W.Frag) (Wx : WX) (c : Str) (m : MI) : TS := fun E σ H => ∃ W S δ a dx fs P0, Good K W S H ∧ REnv K W δ σ ∧ Ini K c W fs P0 a dx ∧ iP K c P0 a dx W (m δ fs S) Wx E
abbrev SBI (X : Cx) (Wx : WX) (c : Str) (body : List Stmt) (m : MI) : Prop := PSs X body (tI X.K Wx c m)
section
variable {X : Cx} {Wx : WX} {c : Str} {st : Stmt} {sts : List Stmt} {ms : MS} {mi : MI} {e o : Expr} {m : ME} {pos : Pos}
def iEnd : MI := fun δ fs S => .nx δ fs S
def iOrd (ms : MS) (mi : MI) : MI := fun δ fs S => match ms δ S with
  | .nx δ' S' => mi δ' fs S'
  | .exc x _ S' => .exc x S'
  | _ => .bad
theorem sbi_nil : SBI X Wx c [] iEnd := PSs.imp pss_nil fun E σ H ⟨W, S, δ, a, dx, fs, P0, g, r, i, p⟩ => p W H σ W.le_refl.toLf g r i
theorem sbi_ord (h1 : SS X Wx st ms) (h2 : SBI X Wx c sts mi) : SBI X Wx c (st :: sts) (iOrd ms mi) :=
  PSs.imp (pss_cons h1 h2) fun E σ H ⟨W, S, δ, a, dx, fs, P0, g, r, i, p⟩ => ⟨W, S, δ, g, r, by
    unfold iOrd at p
    cases e : ms δ S with
    | nx δ' S' =>
      rw [e] at p
      exact fun W' H' σ' l g' r' => ⟨W', S', δ', a, dx, fs, P0, g', r', i.mono l, p.mono l⟩
    | exc x δ' S' =>
      rw [e] at p
      intro W' H' σ' cls d l g' r' x'
      obtain ⟨vfs, h1, _⟩ := i.p
      exact p W' H' σ' cls d l g' ⟨_, l.pp.trans h1⟩ x'
    | rt d S' => rw [e] at p; exact p.elim
    | bk δ' S' => rw [e] at p; exact p.elim
    | ct δ' S' => rw [e] at p; exact p.elim
    | bad => rw [e] at p; exact p.elim⟩
/-- o.f as a target -/
theorem pg_fld {f : Str} {ta : TE} (ha : PE X o ta) : PG X (.Attribute o f pos) (fun v σ H Q => ta σ H fun x H1 => ∃ a C dx fs, x = .ref a ∧ H1 a = some (.ins C dx fs) ∧ Cls X.K C ∧ NoAttr X.K C f ∧ fs.length < 1000 ∧ Q σ (upd H1 a (.ins C dx (putF f v fs)))) := by
  refine ⟨fun pins s σ H v u Q I r h => ?_⟩
  rw [assign_Attribute]
  refine wpAny_bind (wpAny_holding (thn (ha.run pins s σ H _ I h) fun ov s1 ⟨x, H1, I1, rx, a, C, dx, fs, ex, ea, c, n, l, q⟩ => ?_))
  subst ex
  obtain rfl : ov = Value.ref a := rx
  refine wpAny_bind (wpAny_standAt (wpAny_bind (wpAny_holding (setattr_ok I1 ea c n l r fun s3 I3 => wpAny_release ⟨σ, _, I3, q⟩))))
def putD (f : Str) (v : D) : List (Str × D) → List (Str × D)
  | [] => [(f, v)]
  | (g, x) :: r => if g = f then (g, v) :: r else (g, x) :: putD f v r
theorem put_reps {K : PySem.W.Frag} {W : Wd} {f : Str} {d : D} {v : V} (q : Rep K W d v) : ∀ {fs : List (Str × D)} {vfs : List (Str × V)}, vfs.map (·.1) = fs.map (·.1) → Reps K W (fs.map (·.2)) (vfs.map (·.2)) → (putF f v vfs).map (·.1) = (putD f d fs).map (·.1) ∧ Reps K W ((putD f d fs).map (·.2)) ((putF f v vfs).map (·.2))
  | [], [], _, _ => ⟨rfl, .cons q .nil⟩
  | [], _ :: _, e, _ => by cases e
  | _ :: _, [], e, _ => by cases e
  | (x, dx) :: fs, (y, vy) :: vfs, e, r => by
    simp only [List.map_cons, List.cons.injEq] at e
    obtain ⟨rfl, e⟩ := e
    cases r with
    | cons r1 r2 =>
      simp only [putD, putF]
      split
      · exact ⟨by simp [e], .cons q r2⟩
      · obtain ⟨h1, h2⟩ := put_reps q e r2
        exact ⟨by simp [h1], .cons r1 h2⟩
/-- the attributes ps set to ds -/
def putAll : List Str → List D → List (Str × D) → Option (List (Str × D))
  | [], [], fs => some fs
  | p :: ps, d :: ds, fs => if fs.length < 1000 then putAll ps ds (putD p d fs) else none
  | _, _, _ => none
def oI (K : PySem.W.Frag) (c : Str) (P0 : Hp) (a dx : Addr) (W : Wd) (δ : En) (S : Store) (r : Option (List (Str × D))) (Q : L2.St → Hp → Prop) : Prop := match r with
  | some fs => ∀ W' H' σ, W.lf W' → Good K W' S H' → REnv K W' δ σ → Ini K c W' fs P0 a dx → Q σ H'
  | none => False
theorem oI.mono {K : PySem.W.Frag} {P0 : Hp} {a dx : Addr} {W W1 : Wd} {δ : En} {S : Store} {r : Option (List (Str × D))} {Q : L2.St → Hp → Prop} (h : W.lf W1) (p : oI K c P0 a dx W δ S r Q) : oI K c P0 a dx W1 δ S r Q := by
  cases r with
  | none => exact p
  | some fs => exact fun W' H' σ l => p W' H' σ (h.trans l)
def tGI (K : PySem.W.Frag) (c f : Str) : TG := fun v σ H Q => ∃ W S δ a dx fs P0 d, Good K W S H ∧ REnv K W δ σ ∧ δ[0]? = some (some .slf) ∧ Ini K c W fs P0 a dx ∧ Rep K W d v ∧ fs.length < 1000 ∧ oI K c P0 a dx W δ S (some (putD f d fs)) Q
def tGIs (K : PySem.W.Frag) (c : Str) (ps : List Str) : TGs := fun vs σ H Q => ∃ W S δ a dx fs P0 ds, Good K W S H ∧ REnv K W δ σ ∧ δ[0]? = some (some .slf) ∧ Ini K c W fs P0 a dx ∧ Reps K W ds vs ∧ oI K c P0 a dx W δ S (putAll ps ds fs) Q
/-- self.f -/
theorem sgi {x f : Str} {px : Pos} (hN : X.N[0]? = some x) (hv : Vis X.env.scope x) (hd : (x == ("__debug__" : Str)) = false) (hcd : (x == ("__classdict__" : Str)) = false) (hc : Cls X.K (He.ga X.K c) ∧ NoAttr X.K (He.ga X.K c) f) : PG X (.Attribute (.Name x px) f pos) (tGI X.K c f) :=
  PG.imp (pg_fld (pe_var hN hv hd hcd)) fun v σ H Q ⟨W, S, δ, a, dx, fs, P0, d, g, r, e0, i, q, hl, p⟩ => by
    obtain ⟨v0, h0, s0⟩ := r.2 0 _ e0
    rcases s0 with s0 | ⟨_, a', ha, rfl⟩
    · cases s0
    · rw [i.sf] at ha; cases ha
      obtain ⟨vfs, h1, h2, h3⟩ := i.p
      have hP : W.P a = some (.ins (He.ga X.K c) dx vfs) := by rw [h1, upd_same]
      have hH := (g.prv a _ hP).1
      obtain ⟨k1, k2⟩ := put_reps (f := f) q h2 h3
      refine ⟨.ref a, h0, a, _, dx, vfs, rfl, hH, hc.1, hc.2, by have := congrArg List.length h2; simp at this; omega, ?_⟩
      have l : W.lf (W.prv a (.ins (He.ga X.K c) dx (putF f v vfs))) := W.prv_lf _ _
      refine p _ _ σ l (g.updPrv hP) (r.mono l) ⟨i.sf, i.n, _, ?_, k1, k2.mono l⟩
      show upd W.P a _ = upd P0 a _
      rw [h1]
      funext b
      by_cases hb : b = a
      · subst hb; rw [upd_same, upd_same]
      · rw [upd_ne hb, upd_ne hb, upd_ne hb]
theorem sgis_nil : PGs X [] (tGIs X.K c []) := PGs.imp pgs_nil fun v σ H Q ⟨W, S, δ, a, dx, fs, P0, ds, g, r, e0, i, q, p⟩ => by
  cases q with
  | nil => exact ⟨rfl, p W H σ W.le_refl.toLf g r i⟩
  | cons _ _ => exact p.elim
theorem sgis_cons {es : List Expr} {f : Str} {ps : List Str} (h1 : PG X e (tGI X.K c f)) (h2 : PGs X es (tGIs X.K c ps)) (hs : (assignEach (e :: es) X.env).map (·.2) = assign e X.env :: (assignEach es X.env).map (·.2)) : PGs X (e :: es) (tGIs X.K c (f :: ps)) :=
  PGs.imp (pgs_cons h1 h2 hs) fun v σ H Q ⟨W, S, δ, a, dx, fs, P0, ds, g, r, e0, i, q, p⟩ => by
    cases q with
    | nil => exact p.elim
    | @cons d v ds vs q1 q2 =>
      simp only [putAll] at p
      split at p
      · rename_i hl
        exact ⟨v, vs, rfl, W, S, δ, a, dx, fs, P0, d, g, r, e0, i, q1, hl, fun W' H' σ' l g' r' i' => ⟨W', S, δ, a, dx, _, P0, ds, g', r', e0, i', q2.mono l, p.mono l⟩⟩
      · exact p.elim
/-- self.f = e -/
def isSlf : En → Bool
  | some D.slf :: _ => true
  | _ => false
theorem isSlf_of {δ : En} (h : isSlf δ = true) : δ[0]? = some (some D.slf) := by
  unfold isSlf at h
  split at h
  · rfl
  · cases h
def iSet (m : ME) (f : Str) (mi : MI) : MI := fun δ fs S => match m δ S with
  | .ok d S' => if isSlf δ then (match putAll [f] [d] fs with
    | some fs' => mi δ fs' S'
    | none => .bad) else .bad
  | .exc x S' => .exc x S'
  | .bad => .bad
def iSets (m : ME) (ps : List Str) (mi : MI) : MI := fun δ fs S => match m δ S with
  | .ok (D.tup ds) S' => if isSlf δ then (match putAll ps ds fs with
    | some fs' => mi δ fs' S'
    | none => .bad) else .bad
  | .exc x S' => .exc x S'
  | _ => .bad
theorem putAll_len : ∀ {ps : List Str} {ds : List D} {fs fs' : List (Str × D)}, putAll ps ds fs = some fs' → ds.length = ps.length
  | [], [], _, _, _ => rfl
  | _ :: _, _ :: _, fs, _, e => by
    simp only [putAll] at e
    split at e
    · simp [putAll_len e]
    · cases e
  | [], _ :: _, _, _, e => by simp [putAll] at e
  | _ :: _, [], _, _, e => by simp [putAll] at e
theorem sbi_set {f : Str} {tg : Expr} (he : SE X Wx e m) (hg : PG X tg (tGI X.K c f)) (h2 : SBI X Wx c sts mi) (hs : swapsWithSole [tg] e pos.line X.env = pure false) (hw : swappedStores [tg] e X.env = pure none) (h1 : (assignEach [tg] X.env).map (·.2) = [assign tg X.env]) :
    SBI X Wx c (.Assign [tg] e pos :: sts) (iSet m f mi) :=
  PSs.imp (pss_cons (ps_asg he hg hs hw h1) h2) fun E σ H ⟨W, S, δ, a, dx, fs, P0, g, r, i, p⟩ => ⟨W, S, δ, g, r, by
    unfold iSet at p
    cases e1 : m δ S with
    | bad => rw [e1] at p; exact p.elim
    | exc x S' =>
      rw [e1] at p
      intro W' H' cls d l g' x'
      obtain ⟨vfs, h1, _⟩ := i.p
      exact p W' H' σ cls d l g' ⟨_, l.pp.trans h1⟩ x'
    | ok d S' =>
      rw [e1] at p
      dsimp only at p
      split at p
      · rename_i hs
        have hs := isSlf_of hs
        cases e2 : putAll [f] [d] fs with
        | none => rw [e2] at p; exact p.elim
        | some fs' =>
          rw [e2] at p
          simp only [putAll] at e2
          split at e2
          · rename_i hl
            cases e2
            intro W' H' v l g' q
            exact ⟨W', S', δ, a, dx, fs, P0, d, g', r.mono l, hs, i.mono l, q, hl, fun W2 H2 σ2 l2 g2 r2 i2 => ⟨W2, S', δ, a, dx, _, P0, g2, r2, i2, p.mono (l.toLf.trans l2)⟩⟩
          · cases e2
      · exact p.elim⟩
theorem sbi_sets {ps : List Str} {es : List Expr} {k n : Nat} {pt : Pos} (hc : X.calm = true) (he : SE X Wx e m) (hg : PGs X es (tGIs X.K c ps)) (h2 : SBI X Wx c sts mi) (hn : (assignEach es X.env).length = ps.length) (hst : (assignEach es X.env).findIdx? (·.1) = none)
    (hs : swapsWithSole [.Tuple es k pt] e pos.line X.env = pure false) (hw : swappedStores [.Tuple es k pt] e X.env = pure none) (h1 : (assignEach [.Tuple es k pt] X.env).map (·.2) = [assign (.Tuple es k pt) X.env]) :
    SBI X Wx c (.Assign [.Tuple es k pt] e pos :: sts) (iSets m ps mi) :=
  PSs.imp (pss_cons (ps_asg he (pg_tup hc hg hn hst) hs hw h1) h2) fun E σ H ⟨W, S, δ, a, dx, fs, P0, g, r, i, p⟩ => ⟨W, S, δ, g, r, by
    unfold iSets at p
    cases e1 : m δ S with
    | bad => rw [e1] at p; exact p.elim
    | exc x S' =>
      rw [e1] at p
      intro W' H' cls d l g' x'
      obtain ⟨vfs, h1, _⟩ := i.p
      exact p W' H' σ cls d l g' ⟨_, l.pp.trans h1⟩ x'
    | ok d S' =>
      rw [e1] at p
      cases d with
      | tup ds =>
        dsimp only at p
        split at p
        · rename_i hs
          have hs := isSlf_of hs
          cases e2 : putAll ps ds fs with
          | none => rw [e2] at p; exact p.elim
          | some fs' =>
            rw [e2] at p
            intro W' H' v l g' q
            cases q with
            | @tup a2 vs ds q1 q2 =>
              exact ⟨a2, vs, rfl, g'.sqT q1, by rw [← q2.length]; exact putAll_len e2, W', S', δ, a, dx, fs, P0, ds, g', r.mono l, hs, i.mono l, q2, by
                rw [e2]
                exact fun W2 H2 σ2 l2 g2 r2 i2 => ⟨W2, S', δ, a, dx, _, P0, g2, r2, i2, p.mono (l.toLf.trans l2)⟩⟩
        · exact p.elim
      | _ => exact p.elim⟩
end
end Ev
/-! # what may be called, free of the caller; the bodies of defs -/
namespace Ev
open PySem PySem.Spec PySem.SeqAt L2 PyProof.Rows
/-- the value at v may be called with keywords ks (after the values by place): what comes is m -/
def CalG (P : Program) (w : World) (K : PySem.W.Frag) (mg : Str → Option Value) (base : Heap) (k : Nat) (v : Addr) (ks : List Str) (m : List D → M D) : Prop :=
  ∀ (X : Cx) (Wx : WX), X.prog = P → X.w = w → X.K = K → X.mg = mg → X.base = base → Room k X.A → X.A.guards = some [] → Takes X Wx → CallF X Wx (.ref v) ks (fun ds es => m (ds ++ es))
def BindK (K : PySem.W.Frag) (fd : FuncData) (ps ks : List Str) : Prop :=
  ∀ (s : Shared) (us ws : List Value), us.length + ks.length = ps.length → ws.length = ks.length → BindsTo s fd ⟨us, ks.zip ws⟩ (ps.zip (us ++ ws))
theorem bindK_of {K : PySem.W.Frag} {x qual : Str} {params : Arguments} {body : List Stmt} {scope : Scope} {f : Addr} {fd : FuncData} {ps ks : List Str} (F : FunD K x qual params body scope [] [] f fd)
    (h : ∀ (kV doc pm : Value) (an : Option Addr) (cdv ct : Value) (us ws : List Value), us.length + ks.length = ps.length → ws.length = ks.length → bindArgs (PySem.W.fnOf x qual params body scope .none kV doc pm an cdv ct) ⟨us, ks.zip ws⟩ = pure (ps.zip (us ++ ws))) : BindK K fd ps ks := by
  obtain ⟨oc, od, dV, kV, doc, pm, an, cdv, ct, osl, rfl, lk, hcd, hD, hK⟩ := F.ex
  rcases hD with ⟨_, rfl⟩ | ⟨e, _⟩
  · exact fun s us ws h1 h2 => .of_eq (h kV doc pm an cdv ct us ws h1 h2)
  · exact absurd rfl e
theorem paired_append {α β : Type} {F : α → β → Prop} : ∀ {xs : List α} {us : List β} {ys : List α} {ws : List β}, Paired F xs us → Paired F ys ws → Paired F (xs ++ ys) (us ++ ws)
  | _, _, _, _, .nil, h => h
  | _, _, _, _, .cons a t, h => .cons a (paired_append t h)
section
variable {P : Program} {w : World} {K : PySem.W.Frag} {mg : Str → Option Value} {base : Heap}
theorem calG_fn {k n : Nat} {f : Addr} {fd : FuncData} {ps ks : List Str} {m : List D → M D} (F : FnG P w K mg base k f fd ps (spM K n m)) (hb : BindK K fd ps ks) (hn : n = ps.length) (hm : ∀ ds S, ds.length ≠ n → m ds S = .bad) : CalG P w K mg base k f ks m := by
  intro X Wx e1 e2 e3 e4 e5 hr hg tk
  subst e1 e2 e3 e4 e5
  intro pins s σ H vs zs us ws Q I r1 r2 hl ⟨W, S, ds, es, g, q1, q2, p⟩
  dsimp only at p
  by_cases hlen : (ds ++ es).length = n
  · have l1 : ds.length = us.length := q1.length.trans (Paired.length r1)
    have l2 : ws.length = ks.length := (Paired.length r2).symm.trans hl
    have l3 : es.length = ks.length := q2.length.trans hl
    have hv : (vs ++ zs).length = n := by rw [← hlen]; simp [q1.length, q2.length]
    have want : spM X.K n m (vs ++ zs) H Q (fun cls d H' => Wx cls d σ H') := ⟨hv, W, S, ds ++ es, g, q1.append q2, by
      cases e5 : m (ds ++ es) S with
      | ok d S' => rw [e5] at p; exact p
      | exc x S' => rw [e5] at p; exact p
      | bad => rw [e5] at p; exact p⟩
    refine wpAny_call (codeAny_mono (F.run X.A hg X.stack s H ⟨us, ks.zip ws⟩ (us ++ ws) (vs ++ zs) Q _ hr I.env0 (hb s us ws (by rw [← hn, ← hlen]; simp [l1, l3]) l2) (paired_append r1 r2) want) fun res s' hq => ?_)
    cases res with
    | error ex => exact tk ex s' (XE.of_call (W := Wx) I (fun cls d H' h => h) hq)
    | ok fl =>
      cases fl with
      | ret u => exact I.after hq
      | next => exact hq.elim
      | brk => exact hq.elim
      | cont => exact hq.elim
  · rw [hm _ S hlen] at p
    exact p.elim
/-! ### bodies -/
def startD (nN : Nat) (ds : List D) : En := ds.map some ++ List.replicate (nN - ds.length) none
theorem renv_start {W : Wd} {N : List Str} {ds : List D} {vs : List V} (r : Reps K W ds vs) : REnv K W (startD N.length ds) (L2.start N vs) := by
  refine ⟨by simp [startD, L2.start, r.length], fun i d e => ?_⟩
  unfold startD at e
  unfold L2.start
  by_cases h : i < ds.length
  · rw [List.getElem?_append_left (by simpa using h)] at e
    simp only [List.getElem?_map, Option.map_eq_some_iff] at e
    obtain ⟨d', e1, e2⟩ := e
    cases e2
    obtain ⟨v, h1, h2⟩ := r.get e1
    refine ⟨v, ?_, .inl h2⟩
    rw [List.getElem?_append_left (by simpa [← r.length] using h)]
    simp [h1]
  · rw [List.getElem?_append_right (by simpa using h)] at e
    rw [List.getElem?_replicate] at e
    split at e <;> cases e
/-- the body's reading as a function -/
def funM (nN n : Nat) (m : MS) : List D → M D := fun ds S => if ds.length = n then (match m (startD nN ds) S with
  | .rt d S' => .ok d S'
  | .nx _ S' => .ok .non S'
  | .exc x _ S' => .exc x S'
  | _ => .bad) else .bad
theorem funM_len {nN n : Nat} {m : MS} (ds : List D) (S : Store) (h : ds.length ≠ n) : funM nN n m ds S = .bad := by unfold funM; rw [if_neg h]
/-- a body does what m says, wherever it is called from -/
def FB (P : Program) (w : World) (K : PySem.W.Frag) (mg : Str → Option Value) (base : Heap) (k : Nat) (N : List Str) (qual : Str) (scope : Scope) (body : List Stmt) (m : MS) : Prop :=
  ∀ (f : Addr) (cdv : Value) (A : Around) (outer : List Env) (s : Shared) (H : Hp) (E : XK), A.guards = some [] → Room k (A.deeper (envOfC qual scope s.heap.objs.size f cdv)) →
    SB (cxOf (L2.CX P w) P w K mg base N qual scope f cdv A outer s H E) (fun cls d _ H' => E cls d H') body m
theorem fnG_body {k : Nat} {f : Addr} {name qual : Str} {params : Arguments} {body : List Stmt} {scope : Scope} {fd : FuncData} {N ps : List Str} {m : MS}
    (F : FunD K name qual params body scope [] [] f fd) (Sc : FnScope N ps scope) (B : FB P w K mg base k N qual scope body m) : FnG P w K mg base (k + 1) f fd ps (spM K ps.length (funM N.length ps.length m)) := by
  refine fnG_of F Sc (fun vs H Q E h => h.1) fun cdv A outer s H vs Q E hg hr ⟨hl, W, S, ds, g, r, p⟩ => ⟨_, B f cdv A outer s H E hg hr, W, S, startD N.length ds, g, renv_start r, ?_⟩
  have hd : ds.length = ps.length := r.length.trans hl
  unfold funM at p
  rw [if_pos hd] at p
  cases e : m (startD N.length ds) S with
  | rt d S' => rw [e] at p; exact p
  | nx δ S' => rw [e] at p; exact fun W' H' σ l g' _ => p W' H' .non l g' .non
  | exc x δ S' => rw [e] at p; exact fun W' H' σ cls d l g' _ x' => p W' H' cls d l g' x'
  | bk δ S' => rw [e] at p; exact p.elim
  | ct δ S' => rw [e] at p; exact p.elim
  | bad => rw [e] at p; exact p.elim
/-! ### __init__ -/
def spI (K : PySem.W.Frag) (c : Str) (n : Nat) (m : List D → M (List (Str × D))) : Sp := fun vs H Q E => ∃ W S a dx ds P0 vs', vs = .ref a :: vs' ∧ vs'.length = n ∧ Good K W S H ∧ Ini K c W [] P0 a dx ∧ Reps K W ds vs' ∧ (match m ds S with
  | .ok fs S' => ∀ W' H', W.lf W' → Good K W' S' H' → Ini K c W' fs P0 a dx → Q .non H'
  | .exc x S' => ∀ W' H' cls d, W.lf W' → Good K W' S' H' → (∃ o, W'.P = upd P0 a o) → XRep K W' x cls d → E cls d H'
  | .bad => False)
def initM (nN n : Nat) (m : MI) : List D → M (List (Str × D)) := fun ds S => if ds.length = n then (match m (some .slf :: startD (nN - 1) ds) [] S with
  | .nx _ fs S' => .ok fs S'
  | .exc x S' => .exc x S'
  | .bad => .bad) else .bad
def FBI (P : Program) (w : World) (K : PySem.W.Frag) (mg : Str → Option Value) (base : Heap) (k : Nat) (N : List Str) (qual : Str) (scope : Scope) (c : Str) (body : List Stmt) (m : MI) : Prop :=
  ∀ (f : Addr) (cdv : Value) (A : Around) (outer : List Env) (s : Shared) (H : Hp) (E : XK), A.guards = some [] → Room k (A.deeper (envOfC qual scope s.heap.objs.size f cdv)) →
    SBI (cxOf (L2.CX P w) P w K mg base N qual scope f cdv A outer s H E) (fun cls d _ H' => E cls d H') c body m
theorem fnG_init {k n : Nat} {c : Str} {f : Addr} {name qual : Str} {params : Arguments} {body : List Stmt} {scope : Scope} {fd : FuncData} {N ps : List Str} {m : MI} (hn : ps.length = n + 1)
    (F : FunD K name qual params body scope [] [] f fd) (Sc : FnScope N ps scope) (B : FBI P w K mg base k N qual scope c body m) : FnG P w K mg base (k + 1) f fd ps (spI K c n (initM N.length n m)) := by
  have hN : n + 1 ≤ N.length := by have := congrArg List.length Sc.pre; simp at this; omega
  refine fnG_of F Sc (fun vs H Q E h => ?_) fun cdv A outer s H vs Q E hg hr ⟨W, S, a, dx, ds, P0, vs', ev, hl, g, i, r, p⟩ => ⟨_, B f cdv A outer s H E hg hr, W, S, some .slf :: startD (N.length - 1) ds, a, dx, [], P0, g, ?_, i, ?_⟩
  · obtain ⟨W, S, a, dx, ds, P0, vs', ev, hl, _⟩ := h
    rw [ev, hn]; simp [hl]
  · subst ev
    have r0 := renv_start (N := N.drop 1) r
    have e1 : L2.start N (.ref a :: vs') = some (.ref a) :: L2.start (N.drop 1) vs' := by
      unfold L2.start
      simp only [List.map_cons, List.cons_append, List.length_cons, List.length_drop]
      congr 2
      rw [show N.length - (vs'.length + 1) = N.length - 1 - vs'.length by omega]
    rw [e1]
    have e2 : (N.drop 1).length = N.length - 1 := by simp
    rw [e2] at r0
    refine ⟨by simp [r0.1], fun j d e => ?_⟩
    cases j with
    | zero =>
      simp at e
      subst e
      exact ⟨.ref a, rfl, .inr ⟨rfl, a, i.sf, rfl⟩⟩
    | succ j =>
      obtain ⟨v, h1, h2⟩ := r0.2 j d (by simpa using e)
      exact ⟨v, by simpa using h1, h2⟩
  · have hd : ds.length = n := r.length.trans hl
    unfold initM at p
    rw [if_pos hd] at p
    cases e : m (some .slf :: startD (N.length - 1) ds) [] S with
    | nx δ fs S' => rw [e] at p; exact fun W' H' σ l g' _ i' => p W' H' l g' i'
    | exc x S' => rw [e] at p; exact fun W' H' σ cls d l g' i' x' => p W' H' cls d l g' i' x'
    | bad => rw [e] at p; exact p.elim
theorem rep_other {W : Wd} {P0 : Hp} {sf : Option Addr} {ds : List D} {vs : List V} (r : Reps K W ds vs) : Reps K ⟨W.F, W.m, P0, sf⟩ ds vs := Reps.mono0 (W := W) (W' := ⟨W.F, W.m, P0, sf⟩) (fun _ _ h => h) (fun _ _ h => h) r
/-- C(..) -/
theorem calG_cls {k n : Nat} {c : Str} {f : Addr} {fd : FuncData} {ps ks : List Str} {m : List D → M (List (Str × D))} (Mc : Mk K (He.ga K c) f) (F : FnG P w K mg base k f fd ps (spI K c n m)) (hb : BindK K fd ps ks) (hn : ps.length = n + 1) (hm : ∀ ds S, ds.length ≠ n → m ds S = .bad) :
    CalG P w K mg base (k + 1) (He.ga K c) ks (fun ds => M.bind (m ds) fun fs => M.pure (.ins c fs)) := by
  intro X Wx e1 e2 e3 e4 e5 hr hg tk
  subst e1 e2 e3 e4 e5
  intro pins s σ H vs zs us ws Q I r1 r2 hl ⟨W, S, ds, es, g, q1, q2, p⟩
  dsimp only at p
  by_cases hlen : (ds ++ es).length = n
  · have l1 : ds.length = us.length := q1.length.trans (Paired.length r1)
    have l2 : ws.length = ks.length := (Paired.length r2).symm.trans hl
    have l3 : es.length = ks.length := q2.length.trans hl
    have hv : (vs ++ zs).length = n := by rw [← hlen]; simp [q1.length, q2.length]
    have n1 : H (s.heap.objs.size + 1) = none := I.hok.fresh (Nat.le_succ _)
    have n0 : H s.heap.objs.size = none := I.hok.fresh (Nat.le_refl _)
    have ne : s.heap.objs.size + 1 ≠ s.heap.objs.size := Nat.succ_ne_self _
    have I2 := Inv.made (C := He.ga X.K c) I
    have g0 : Good X.K W S (upd H s.heap.objs.size (.own (s.heap.objs.size + 1))) := g.skip n0
    have g1 := g0.newPrv (p := s.heap.objs.size + 1) (o := .ins (He.ga X.K c) s.heap.objs.size []) (by rw [upd_ne ne]; exact n1)
    have g2 := g1.other (P := (W.prv (s.heap.objs.size + 1) (.ins (He.ga X.K c) s.heap.objs.size [])).P) (sf := some (s.heap.objs.size + 1)) fun _ _ h => h
    have pn : W.P (s.heap.objs.size + 1) = none := g.freeP n1
    have want : spI X.K c n m (.ref (s.heap.objs.size + 1) :: (vs ++ zs)) (upd (upd H s.heap.objs.size (.own (s.heap.objs.size + 1))) (s.heap.objs.size + 1) (.ins (He.ga X.K c) s.heap.objs.size [])) (fun v H2 => v = .non ∧ Q (.ref (s.heap.objs.size + 1)) H2) (fun cls d H' => Wx cls d σ H') := by
      refine ⟨_, S, s.heap.objs.size + 1, s.heap.objs.size, ds ++ es, W.P, vs ++ zs, rfl, hv, g2, ⟨rfl, pn, [], rfl, rfl, .nil⟩, Reps.mono0 (W := W) (W' := ⟨W.F, W.m, (W.prv (s.heap.objs.size + 1) (.ins (He.ga X.K c) s.heap.objs.size [])).P, some (s.heap.objs.size + 1)⟩) (fun _ _ h => h) (fun _ _ h => h) (q1.append q2), ?_⟩
      cases e5 : m (ds ++ es) S with
      | ok fs S' =>
        simp only [M.bind, e5, M.pure] at p
        intro W' H' l g' i
        obtain ⟨vfs, h1, h2, h3⟩ := i.p
        have g3 := g'.unPrv h1 pn
        have g4 := g3.other (P := W.P) (sf := W.sf) fun _ _ h => h
        have lf2 := g'.unPrv_lf h1
        refine ⟨rfl, p ⟨upd W'.F (s.heap.objs.size + 1) (.ins (He.ga X.K c) s.heap.objs.size vfs), W'.m, W.P, W.sf⟩ H' _ ⟨⟨fun a o h => lf2.f a o (l.f a o h), rfl, l.mm⟩, rfl⟩ g4 (.ins (dx := s.heap.objs.size) upd_same h2 ?_)⟩
        exact Reps.mono0 (W := W') (W' := ⟨upd W'.F (s.heap.objs.size + 1) (.ins (He.ga X.K c) s.heap.objs.size vfs), W'.m, W.P, W.sf⟩) (fun a o h => lf2.f a o h) (fun _ _ h => h) h3
      | exc x S' =>
        simp only [M.bind, e5] at p
        intro W' H' cls d l g' ⟨o, hP⟩ x'
        have g4 := g'.other (P := W.P) (sf := W.sf) fun a u h => by
          rw [hP]
          have na : a ≠ s.heap.objs.size + 1 := fun z => by subst z; rw [pn] at h; cases h
          rw [upd_ne na]; exact h
        refine p ⟨W'.F, W'.m, W.P, W.sf⟩ H' cls d ⟨⟨fun a o h => l.f a o h, rfl, l.mm⟩, rfl⟩ g4 ?_
        obtain ⟨x1, x2⟩ := x'
        refine ⟨x1, ?_⟩
        rcases x2 with x2 | ⟨a, vfs, y1, y2, y3, y4⟩
        · exact .inl x2
        · exact .inr ⟨a, vfs, y1, y2, y3, rep_other y4⟩
      | bad => simp only [M.bind, e5] at p; exact p
    have r3 : Vals (V.ref (s.heap.objs.size + 1) :: (vs ++ zs)) (Value.ref (s.heap.objs.size + 1) :: (us ++ ws)) := .cons rfl (paired_append r1 r2)
    refine wpAny_call (make_map (f := f) I.kIn Mc.makes Mc.init (beq_iff_eq.mp Mc.fn) (codeAny_mono (F.run _ ?_ X.stack _ _ ⟨Value.ref (s.heap.objs.size + 1) :: us, ks.zip ws⟩ (Value.ref (s.heap.objs.size + 1) :: (us ++ ws)) _ _ _ (hr.make (He.ga X.K c) us (ks.zip ws))
      (I2.env0.make (He.ga X.K c) us (ks.zip ws)) (hb _ (Value.ref (s.heap.objs.size + 1) :: us) ws (by rw [hn, ← hlen]; simp [l1, l3]; omega) l2) r3 want) fun r s' hq' => ?_))
    · exact hg
    cases r with
    | error e => exact tk e s' (XE.of_call (W := Wx) I2 (fun cls d H' h => h) hq')
    | ok fl =>
      cases fl with
      | ret u =>
        obtain ⟨v, H', I3, rv, ev, q3⟩ := I2.after hq'
        subst ev
        exact ⟨rv, ⟨V.ref (s.heap.objs.size + 1), H', I3, rfl, q3⟩⟩
      | next => exact False.elim hq'
      | brk => exact False.elim hq'
      | cont => exact False.elim hq'
  · simp only [M.bind, hm _ S hlen] at p
    exact p.elim
end
end Ev
/-! # more rules: iterating over what comes; names of the module; calls, methods; freezing -/
namespace Ev
open PySem PySem.Spec PySem.SeqAt L2 PyProof.Rows
section
variable {X : Cx} {Wx : WX} {a b c e o tg : Expr} {es : List Expr} {ma mb mc m mo : ME} {mas mks : MA} {pos p : Pos}
/-! ### for x in e: a list, a tuple, a text -/
def anyOf : D → Option (List D)
  | .lst ds => some ds
  | .tup ds => some ds
  | .str z => some (signs z)
  | _ => none
def iAny (m : ME) : MA := fun δ => M.bind (m δ) fun d S => match anyOf d with
  | some ds => .ok ds S
  | none => .bad
theorem si_any (h : SE X Wx e m) : SI X Wx tg e (iAny m) := by
  refine ⟨fun pins s σ H R I ⟨W, S, δ, g, r, hp⟩ => ?_⟩
  refine thn (h.run pins s σ H _ I ⟨W, S, δ, g, r, okP.bind (R := Rep X.K) hp⟩) fun v s1 ⟨x, H1, I1, r1, W1, S1, d, l1, g1, q1, p1⟩ => ?_
  cases e1 : anyOf d with
  | none => rw [e1] at p1; exact p1.elim
  | some ds =>
    rw [e1] at p1
    have fpk : ∀ b ∈ [s1.heap.objs.size], FpOk X pins H1 b := fun b hb => by
      have e : b = s1.heap.objs.size := by simpa using hb
      subst e
      exact I1.fpOk (Nat.le_refl _) (I1.hok.fresh (Nat.le_refl _))
    cases q1 with
    | @lst a vs ds' q r2 =>
      cases e1
      obtain rfl : v = Value.ref a := r1
      obtain ⟨its, rv, p, hz⟩ := I1.list (SqL.of (g1.sub _ _ q))
      refine wpAny_pyIter_list p.isList ⟨s1.heap.objs.size, [s1.heap.objs.size], _, _, H1, rfl, I1.kept (t' := s1.toks) fun b o e => Heap.get?_push_of_some _ e, turn_list a _, ⟨_, Heap.get?_push_size _ rfl, rfl, rfl⟩, fpk, ?_⟩
      have w := walk_list (K := X.K) (a := a) (xs := vs)
      rw [← r2.length] at w
      exact okP.pure p1 g1 (walkD_at r2 (w.mono (fun H h => SqL.of (h _ _ q)) fun _ _ _ _ _ _ y => y))
    | @tup a vs ds' q r2 =>
      cases e1
      obtain rfl : v = Value.ref a := r1
      obtain ⟨its, rv, p, hz⟩ := I1.tuple (g1.sqT q)
      refine wpAny_pyIter_tuple (show s1.heap.IsTuple a its.toArray from p) ⟨s1.heap.objs.size, [s1.heap.objs.size], _, _, H1, rfl, I1.kept (t' := s1.toks) fun b o e => Heap.get?_push_of_some _ e, turn_tuple a _, ⟨_, Heap.get?_push_size _ rfl, rfl, rfl⟩, fpk, ?_⟩
      have w := walk_tup (K := X.K) (a := a) (xs := vs)
      rw [← r2.length] at w
      refine okP.pure p1 g1 (walkD_at r2 (w.mono (fun H h => ?_) fun _ _ _ _ _ _ y => y))
      rcases q with q | q
      · exact .inl (rd_sub h q)
      · exact .inr q
    | str z =>
      cases e1
      obtain ⟨t, rfl⟩ := r1
      have wd : WalkD X.K W1 (signs z) (Its z) := by
        have w := walk_str (z := z)
        have el : (signs z).length = z.cps.size := by simp [signs]
        unfold WalkD
        rw [el]
        refine w.mono (fun _ _ => trivial) fun i H x H' hi hG y d hd W2 S2 l g => ?_
        obtain ⟨rfl, c, hc, rfl⟩ := y
        refine ⟨W2, W2.le_refl, g, ?_⟩
        have : d = .str ⟨#[c]⟩ := by
          simp only [signs, List.getElem?_map, Array.getElem?_toList, hc, Option.map_some, Option.some.injEq] at hd
          exact hd.symm
        subst this
        exact .str _
      cases ha : z.cps.all (· < 128)
      · exact wpAny_pyIter_wide ha (pi_one (tk := s1.toks) I1 _ (turn_str _ z t "str_iterator" (.inr rfl)) ⟨_, Heap.get?_push_size _ rfl, rfl, rfl⟩ (okP.pure p1 g1 wd))
      · exact wpAny_pyIter_ascii ha (pi_one (tk := s1.toks) I1 _ (turn_str _ z t "str_ascii_iterator" (.inl rfl)) ⟨_, Heap.get?_push_size _ rfl, rfl, rfl⟩ (okP.pure p1 g1 wd))
    | _ => cases e1
/-! ### names of the module -/
theorem se_gint {x : Str} {i : Int} (hg : Gl X x) (hm : ∃ t, X.mg x = some (.int i t)) (hd : (x == ("__debug__" : Str)) = false) : SE X Wx (.Name x pos) (eC (.int i)) := by
  obtain ⟨t, hm⟩ := hm
  exact se_c (v := .int i) (pe_glob hg hm ⟨t, rfl⟩ hd) fun _ => .int i
theorem se_gstr {x z : Str} (hg : Gl X x) (hm : ∃ t, X.mg x = some (.str z t)) (hd : (x == ("__debug__" : Str)) = false) : SE X Wx (.Name x pos) (eC (.str z)) := by
  obtain ⟨t, hm⟩ := hm
  exact se_c (v := .str z) (pe_glob hg hm ⟨t, rfl⟩ hd) fun _ => .str z
/-! ### xs[::-1] -/
def pRev : D → PO := fun d S => match lstOf S d with
  | some ds => newL ds.reverse S
  | none => none
def eRev (mo : ME) : ME := fun δ => M.bind (mo δ) fun x => lft (pRev x)
theorem se_rev {k : Nat} {p1 p2 p3 : Pos} (ho : SE X Wx o mo) : SE X Wx (.Subscript o (.Slice none none (some (.UnaryOp .USub (.Constant (.int 1) k p1) p2)) p3) pos) (eRev mo) :=
  PE.imp (pe_revL ho) fun σ H Q ⟨W, S, δ, g, r, h⟩ => ⟨W, S, δ, g, r, (okP.bind (R := Rep X.K) h).imp fun v H1 ⟨W1, S1, d, l1, g1, r1, p1⟩ => by
    have p2 := p1.lft
    unfold pRev at p2
    cases e1 : lstOf S1 d with
    | none => rw [e1] at p2; exact p2.elim
    | some ds =>
      rw [e1] at p2
      obtain ⟨a, vs, rfl, h2, h3⟩ := lstOf_ok e1 g1 r1
      exact ⟨a, vs, rfl, h2, (newL_ok p2 g1 h3.reverse).2⟩⟩
/-! ### calls of what the module holds -/
def eCal (m : List D → M D) (mas : MA) : ME := fun δ => M.bind (mas δ) m
def eCalK (m : List D → M D) (mas mks : MA) : ME := fun δ => M.bind (mas δ) fun ds => M.bind (mks δ) fun es => m (ds ++ es)
section
variable {m : List D → M D} {x : Str} {f : Addr} {ks : List Str} {k : Nat}
theorem se_cal (hf : CalG X.prog X.w X.K X.mg X.base k f [] m) (hr : Room k X.A) (hgd : X.A.guards = some []) (tk : Takes X Wx) (hgl : Gl X x) (hm : X.mg x = some (.ref f)) (hk : PySem.W.keepIn X.K (.ref f) = true) (hdb : (x == ("__debug__" : Str)) = false) (ha : SA X Wx (e :: es) mas)
    (he : starEach (e :: es) X.env = (false, eval e X.env) :: starEach es X.env) (hpl : (backTo pos (starEach es X.env)).any (·.1) = false) : SE X Wx (.Call (.Name x p) (e :: es) [] pos) (eCal m mas) :=
  PE.imp (se_call (hf X Wx rfl rfl rfl rfl rfl hr hgd tk) hgl hm hk hdb ha he hpl) fun σ H Q ⟨W, S, δ, g, r, h⟩ => ⟨W, S, δ, g, r, by
    have : eCallF (fun ds es => m (ds ++ es)) mas aNil δ S = eCal m mas δ S := by
      simp only [eCallF, eCal, aNil, M.bind, M.pure, List.append_nil]
    rw [this]; exact h⟩
theorem se_cal0 (hf : CalG X.prog X.w X.K X.mg X.base k f [] m) (hr : Room k X.A) (hgd : X.A.guards = some []) (tk : Takes X Wx) (hgl : Gl X x) (hm : X.mg x = some (.ref f)) (hk : PySem.W.keepIn X.K (.ref f) = true) (hdb : (x == ("__debug__" : Str)) = false) : SE X Wx (.Call (.Name x p) [] [] pos) (eCal m aNil) :=
  PE.imp (se_call0 (hf X Wx rfl rfl rfl rfl rfl hr hgd tk) hgl hm hk hdb) fun σ H Q ⟨W, S, δ, g, r, h⟩ => ⟨W, S, δ, g, r, h⟩
/-- keyword arguments -/
abbrev SK (X : Cx) (Wx : WX) (kws : List Keyword) (m : MA) : Prop := PK X kws (tDA X.K Wx m)
theorem PK.imp {kws : List Keyword} {t t' : TA} (h : PK X kws t) (i : ∀ σ H Q, t' σ H Q → t σ H Q) : PK X kws t' := ⟨fun pos pins s σ H Q I q => h.run pos pins s σ H Q I (i σ H Q q)⟩
theorem sk_nil : SK X Wx [] aNil := PK.imp pk_nil fun σ H Q ⟨W, S, δ, g, r, p⟩ => okP.pure p g .nil
theorem sk_cons {kws : List Keyword} {nm : Option Str} {kp : Pos} (ha : SE X Wx e ma) (hr : SK X Wx kws mas) : SK X Wx (⟨nm, e, kp⟩ :: kws) (aCons ma mas) :=
  PK.imp (pk_cons ha hr) fun σ H Q ⟨W, S, δ, g, r, p⟩ => ⟨W, S, δ, g, r, (okP.bind (R := Rep X.K) p).imp fun v H1 ⟨W1, S1, x, l1, g1, r1, p1⟩ =>
    ⟨W1, S1, δ, g1, r.mono l1, (okP.bind (R := Reps X.K) p1).imp fun vs H2 ⟨W2, S2, xs, l2, g2, r2, p2⟩ => okP.pure p2 g2 (.cons (r1.mono l2) r2)⟩⟩
theorem sk_len {kws : List Keyword} : ∀ {us : List Value} {s s' : Shared}, True → True := fun _ => trivial
/-- f(k = e, ..) -/
theorem se_calK0 {kws : List Keyword} (hf : CalG X.prog X.w X.K X.mg X.base k f ks m) (hr : Room k X.A) (hgd : X.A.guards = some []) (tk : Takes X Wx) (hgl : Gl X x) (hm : X.mg x = some (.ref f)) (hk : PySem.W.keepIn X.K (.ref f) = true) (hdb : (x == ("__debug__" : Str)) = false) (ha : SK X Wx kws mks)
    (hall : (backToKw pos (keywordEach kws X.env)).all (·.1.isSome) = true) (hks : (backToKw pos (keywordEach kws X.env)).filterMap (·.1) = ks) (hpl : ((backTo pos (starEach [] X.env)).any (·.1) || (backToKw pos (keywordEach kws X.env)).any (·.1.isNone)) = false)
    (hn : ∀ δ S ds S', mks δ S = .ok ds S' → ds.length = ks.length) : SE X Wx (.Call (.Name x p) [] kws pos) (eCal m mks) := by
  refine ⟨fun pins s σ H Q I ⟨W, S, δ, g, r, h⟩ => ?_⟩
  refine wpAny_Call_Name_kw (ld_glob I hgl hm ?_ hdb)
  have h2 : okP X.K (Reps X.K) W (mks δ S) σ Wx (fun v H' => ∃ W' S' a, W.le W' ∧ Good X.K W' S' H' ∧ (Reps X.K W' a v ∧ a.length = ks.length) ∧ okP X.K (Rep X.K) W' (m a S') σ Wx Q) := by
    unfold eCal M.bind at h
    cases e1 : mks δ S with
    | ok ds S' =>
      rw [e1] at h
      exact fun W' H' v l g' r' => ⟨W', S', ds, l, g', ⟨r', hn _ _ _ _ e1⟩, okP.mono l h⟩
    | exc x S' => rw [e1] at h; exact h
    | bad => rw [e1] at h; exact h
  refine PySem.W.callWith_KW0 (h₀ := X.base) I.ok.mod.kin hk hall (thn (ha.run pos pins s σ H _ I ⟨W, S, δ, g, r, h2⟩) fun us s1 ⟨vs, H1, I1, rv, W1, S1, ds, l1, g1, ⟨r1, hl⟩, p1⟩ => ⟨I1.kIn, ?_⟩) hpl
  rw [hks]
  exact hf X Wx rfl rfl rfl rfl rfl hr hgd tk pins s1 σ H1 [] vs [] us Q I1 .nil rv (by rw [← r1.length]; exact hl) ⟨W1, S1, [], ds, g1, .nil, r1, p1⟩
/-- o.m(e, ..): tab: the classes that have the method -/
def eMet (tab : Str → Option (List D → M D)) (nm : Str) (mo : ME) (mas : MA) : ME := fun δ => M.bind (mo δ) fun x S => match clsOf S x with
  | some (c, fs) => (match tab c, fs.lookup nm with
    | some m, none => M.bind (mas δ) (fun xs => m (x :: xs)) S
    | _, _ => .bad)
  | none => .bad
def MetOk (X : Cx) (k : Nat) (nm : Str) (tab : Str → Option (List D → M D)) : Prop := ∀ c m, tab c = some m → Cls X.K (He.ga X.K c) ∧ ∃ f, Meth X.K (He.ga X.K c) nm f ∧ CalG X.prog X.w X.K X.mg X.base k f [] m
theorem met_pre {nm : Str} {tab : Str → Option (List D → M D)} (ht : MetOk X k nm tab) {W : Wd} {S : Store} {H : Hp} {δ : En} {d : D} {v : V} {σ : L2.St} {Q : VK} (g : Good X.K W S H) (q : Rep X.K W d v) (p : okP X.K (Rep X.K) W ((match clsOf S d with
  | some (c, fs) => (match tab c, fs.lookup nm with
    | some m, none => M.bind (mas δ) (fun xs => m (d :: xs)) S
    | _, _ => .bad)
  | none => .bad)) σ Wx Q) : ∃ a C dx vfs f m, v = .ref a ∧ H a = some (.ins C dx vfs) ∧ Cls X.K C ∧ Meth X.K C nm f ∧ vfs.lookup nm = none ∧ CalG X.prog X.w X.K X.mg X.base k f [] m ∧ okP X.K (Rep X.K) W (M.bind (mas δ) (fun xs => m (d :: xs)) S) σ Wx Q := by
  cases e : clsOf S d with
  | none => rw [e] at p; exact p.elim
  | some z =>
    obtain ⟨c, fs⟩ := z
    rw [e] at p
    dsimp only at p
    cases e1 : tab c with
    | none => rw [e1] at p; exact p.elim
    | some m =>
      cases e2 : fs.lookup nm with
      | some _ => rw [e1, e2] at p; exact p.elim
      | none =>
        rw [e1, e2] at p
        obtain ⟨c1, f, c2, c3⟩ := ht c m e1
        obtain ⟨a, dx, vfs, rfl, h1, h2, h3⟩ := clsOf_ok e g q
        exact ⟨a, _, dx, vfs, f, m, rfl, h1, c1, c2, lookup_keys h2 e2, c3, p⟩
theorem se_met {nm : Str} {tab : Str → Option (List D → M D)} {apos : Pos} {pl : Sem Bool} (ht : MetOk X k nm tab) (hr : Room k X.A) (hgd : X.A.guards = some []) (tk : Takes X Wx) (ho : SE X Wx o mo) (ha : SA X Wx (e :: es) mas)
    (he : starEach (e :: es) X.env = (false, eval e X.env) :: starEach es X.env) (hpl : (backTo pos (starEach es X.env)).any (·.1) = false)
    (hv : eval (.Call (.Attribute o nm apos) (e :: es) [] pos) X.env = (do
      let ov ← eval o X.env
      standAt apos.atName
      let (f, first) ← holding [ov] (getMethod ov nm pl)
      callWith pos f first (backTo pos (starEach (e :: es) X.env)) (backToKw pos (keywordEach [] X.env)))) :
    SE X Wx (.Call (.Attribute o nm apos) (e :: es) [] pos) (eMet tab nm mo mas) := by
  refine ⟨fun pins s σ H Q I ⟨W, S, δ, g, r, h⟩ => ?_⟩
  refine PySem.W.methodCall_KW (pl := pl) (thn (ho.run pins s σ H _ I ⟨W, S, δ, g, r, okP.bind (R := Rep X.K) h⟩) fun u s1 ⟨x, H1, I1, rx, W1, S1, d, l1, g1, q1, p1⟩ => ?_) hv
  obtain ⟨a, C, dx, vfs, f, m, rfl, h1, c1, c2, c3, c4, p2⟩ := met_pre ht g1 q1 p1
  obtain rfl : u = Value.ref a := rx
  refine getmeth_ok I1 h1 c1 c2 c3 ?_
  refine PySem.W.callWith_K (first := [.ref a]) (h₀ := X.base) I.ok.mod.kin c2.kp (thn (ha.run pos pins s1 σ H1 _ I1 ⟨W1, S1, δ, g1, r.mono l1, okP.bind (R := Reps X.K) p2⟩) fun us s2 ⟨vs, H2, I2, rv, W2, S2, ds, l2, g2, q2, p3⟩ => ⟨I2.kIn, ?_⟩) he hpl
  exact c4 X Wx rfl rfl rfl rfl rfl hr hgd tk pins s2 σ H2 (.ref a :: vs) [] (.ref a :: us) [] Q I2 (.cons rfl rv) .nil rfl ⟨W2, S2, d :: ds, [], g2, .cons (q1.mono l2) q2, .nil, by show okP _ _ _ (m ((d :: ds) ++ []) S2) _ _ _; rw [List.append_nil]; exact p3⟩
theorem se_met0 {nm : Str} {tab : Str → Option (List D → M D)} {apos : Pos} {pl : Sem Bool} (ht : MetOk X k nm tab) (hr : Room k X.A) (hgd : X.A.guards = some []) (tk : Takes X Wx) (ho : SE X Wx o mo)
    (hv : eval (.Call (.Attribute o nm apos) [] [] pos) X.env = (do
      let ov ← eval o X.env
      standAt apos.atName
      let (f, first) ← holding [ov] (getMethod ov nm pl)
      callWith pos f first (backTo pos (starEach [] X.env)) (backToKw pos (keywordEach [] X.env)))) :
    SE X Wx (.Call (.Attribute o nm apos) [] [] pos) (eMet tab nm mo aNil) := by
  refine ⟨fun pins s σ H Q I ⟨W, S, δ, g, r, h⟩ => ?_⟩
  refine PySem.W.methodCall_KW (pl := pl) (thn (ho.run pins s σ H _ I ⟨W, S, δ, g, r, okP.bind (R := Rep X.K) h⟩) fun u s1 ⟨x, H1, I1, rx, W1, S1, d, l1, g1, q1, p1⟩ => ?_) hv
  obtain ⟨a, C, dx, vfs, f, m, rfl, h1, c1, c2, c3, c4, p2⟩ := met_pre (mas := aNil) ht g1 q1 p1
  obtain rfl : u = Value.ref a := rx
  refine getmeth_ok I1 h1 c1 c2 c3 ?_
  refine PySem.W.callWith_K0 (first := [.ref a]) I1.kIn c2.kp ?_
  exact c4 X Wx rfl rfl rfl rfl rfl hr hgd tk pins s1 σ H1 [.ref a] [] [.ref a] [] Q I1 (.cons rfl .nil) .nil rfl ⟨W1, S1, [d], [], g1, .cons q1 .nil, .nil, p2⟩
end
/-! ### freezing: cells that no one will change again -/
mutual
def frzD : Nat → D → Store → Option (D × Store)
  | n + 1, .ref i, S => (match S[i]? with
    | some (some (.lst ds)) => (frzDs n ds (S.set i none)).map fun r => (.lst r.1, r.2)
    | _ => none)
  | n + 1, .lst ds, S => (frzDs n ds S).map fun r => (.lst r.1, r.2)
  | n + 1, .tup ds, S => (frzDs n ds S).map fun r => (.tup r.1, r.2)
  | 0, .ref _, _ => none
  | _, d, S => some (d, S)
def frzDs : Nat → List D → Store → Option (List D × Store)
  | _, [], S => some ([], S)
  | n, d :: ds, S => (frzD n d S).bind fun r => (frzDs n ds r.2).map fun q => (r.1 :: q.1, q.2)
end
theorem frz_ok {K : PySem.W.Frag} {H : Hp} : ∀ (n : Nat), (∀ {W : Wd} {S : Store} {d d' : D} {S' : Store} {v : V}, Good K W S H → Rep K W d v → frzD n d S = some (d', S') → ∃ W', W.le W' ∧ Good K W' S' H ∧ Rep K W' d' v) ∧
    ∀ {ds ds' : List D} {W : Wd} {S S' : Store} {vs : List V}, Good K W S H → Reps K W ds vs → frzDs n ds S = some (ds', S') → ∃ W', W.le W' ∧ Good K W' S' H ∧ Reps K W' ds' vs := by
  have list : ∀ n, (∀ {W : Wd} {S : Store} {d d' : D} {S' : Store} {v : V}, Good K W S H → Rep K W d v → frzD n d S = some (d', S') → ∃ W', W.le W' ∧ Good K W' S' H ∧ Rep K W' d' v) → ∀ {ds ds' : List D} {W : Wd} {S S' : Store} {vs : List V}, Good K W S H → Reps K W ds vs → frzDs n ds S = some (ds', S') → ∃ W', W.le W' ∧ Good K W' S' H ∧ Reps K W' ds' vs := by
    intro n h ds
    induction ds with
    | nil =>
      intro ds' W S S' vs g r e
      cases r
      simp only [frzDs, Option.some.injEq, Prod.mk.injEq] at e
      obtain ⟨rfl, rfl⟩ := e
      exact ⟨W, W.le_refl, g, .nil⟩
    | cons d ds ih =>
      intro ds' W S S' vs g r e
      cases r with
      | cons r1 r2 =>
        simp only [frzDs] at e
        cases e1 : frzD n d S with
        | none => rw [e1] at e; cases e
        | some z =>
          obtain ⟨d1, S1⟩ := z
          rw [e1] at e
          simp only [Option.bind_some] at e
          cases e2 : frzDs n ds S1 with
          | none => rw [e2] at e; cases e
          | some z2 =>
            obtain ⟨ds2, S2⟩ := z2
            rw [e2] at e
            simp only [Option.map_some, Option.some.injEq, Prod.mk.injEq] at e
            obtain ⟨rfl, rfl⟩ := e
            obtain ⟨W1, l1, g1, q1⟩ := h g r1 e1
            obtain ⟨W2, l2, g2, q2⟩ := ih g1 (r2.mono l1) e2
            exact ⟨W2, l1.trans l2, g2, .cons (q1.mono l2) q2⟩
  intro n
  induction n with
  | zero =>
    have h0 : ∀ {W : Wd} {S : Store} {d d' : D} {S' : Store} {v : V}, Good K W S H → Rep K W d v → frzD 0 d S = some (d', S') → ∃ W', W.le W' ∧ Good K W' S' H ∧ Rep K W' d' v := by
      intro W S d d' S' v g r e
      cases d <;> first
        | (simp only [frzD, Option.some.injEq, Prod.mk.injEq] at e; obtain ⟨rfl, rfl⟩ := e; exact ⟨W, W.le_refl, g, r⟩)
        | (simp only [frzD] at e; cases e)
    exact ⟨h0, list 0 h0⟩
  | succ n ih =>
    have h1 : ∀ {W : Wd} {S : Store} {d d' : D} {S' : Store} {v : V}, Good K W S H → Rep K W d v → frzD (n + 1) d S = some (d', S') → ∃ W', W.le W' ∧ Good K W' S' H ∧ Rep K W' d' v := by
      intro W S d d' S' v g r e
      cases d with
      | lst ds =>
        cases r with
        | @lst a vs _ q r2 =>
          simp only [frzD] at e
          cases e2 : frzDs n ds S with
          | none => rw [e2] at e; cases e
          | some z =>
            obtain ⟨ds2, S2⟩ := z
            rw [e2] at e
            simp only [Option.map_some, Option.some.injEq, Prod.mk.injEq] at e
            obtain ⟨rfl, rfl⟩ := e
            obtain ⟨W1, l1, g1, q1⟩ := ih.2 g r2 e2
            exact ⟨W1, l1, g1, .lst (l1.f _ _ q) q1⟩
      | tup ds =>
        cases r with
        | @tup a vs _ q r2 =>
          simp only [frzD] at e
          cases e2 : frzDs n ds S with
          | none => rw [e2] at e; cases e
          | some z =>
            obtain ⟨ds2, S2⟩ := z
            rw [e2] at e
            simp only [Option.map_some, Option.some.injEq, Prod.mk.injEq] at e
            obtain ⟨rfl, rfl⟩ := e
            obtain ⟨W1, l1, g1, q1⟩ := ih.2 g r2 e2
            exact ⟨W1, l1, g1, .tup (sqT_mono l1 q) q1⟩
      | ref i =>
        cases r with
        | @ref _ a hm =>
          simp only [frzD] at e
          split at e
          · rename_i ds hc
            obtain ⟨a', e1, e2, e3, vs, e4, e5⟩ := g.cell i _ hc
            rw [hm] at e1; cases e1
            obtain ⟨g1, l1⟩ := g.freeze hc hm e4
            cases e6 : frzDs n ds (S.set i none) with
            | none => rw [e6] at e; cases e
            | some z =>
              obtain ⟨ds2, S2⟩ := z
              rw [e6] at e
              simp only [Option.map_some, Option.some.injEq, Prod.mk.injEq] at e
              obtain ⟨rfl, rfl⟩ := e
              obtain ⟨W1, l2, g2, q2⟩ := ih.2 g1 (e5.mono l1) e6
              exact ⟨W1, l1.trans l2, g2, .lst (l2.f _ _ (by show upd _ _ _ _ = _; rw [upd_same])) q2⟩
          · cases e
      | _ =>
        simp only [frzD, Option.some.injEq, Prod.mk.injEq] at e
        obtain ⟨rfl, rfl⟩ := e
        exact ⟨W, W.le_refl, g, r⟩
    exact ⟨h1, list (n + 1) h1⟩
def eFrz (m : ME) : ME := fun δ => M.bind (m δ) fun d => lft (frzD 4 d)
theorem se_frz (h : SE X Wx e m) : SE X Wx e (eFrz m) :=
  PE.imp h fun σ H Q ⟨W, S, δ, g, r, p⟩ => ⟨W, S, δ, g, r, (okP.bind (R := Rep X.K) p).imp fun v H1 ⟨W1, S1, d, l1, g1, r1, p1⟩ => by
    have p2 := p1.lft
    cases e1 : frzD 4 d S1 with
    | none => rw [e1] at p2; exact p2.elim
    | some z =>
      obtain ⟨d', S'⟩ := z
      rw [e1] at p2
      obtain ⟨W2, l2, g2, q2⟩ := (frz_ok 4).1 g1 r1 e1
      exact p2 W2 H1 v l2 g2 q2⟩
/-! ### bool(x), str(x) of instances -/
theorem truthy_inst {M : Model} {A : Around} {E : Value → Shared → Prop} {s : Shared} {K : PySem.W.Frag} {x C : Addr} {ox od : Obj} {Q : Bool → Shared → Prop} (Xk : K.In s.heap) (I : PySem.W.InstAt s.heap x ox C od) (hs : PySem.W.findIn K (.ref C) "__bool__" = some none) (hl : PySem.W.findIn K (.ref C) "__len__" = some none)
    (h : Q true s) : wpAny M A (truthy (.ref x)) Q E s := by
  unfold truthy
  refine wpAny_bind (m := callSpecial? (.ref x) (Str.ofString "__bool__")) (wpAny_bind (wpAny_bind (I.type.here ((PySem.W.looks_findIn Xk hs).here (wpAny_pure ?_)))))
  refine wpAny_bind (wpAny_bind (I.type.here ((PySem.W.looks_findIn Xk hl).here ?_)))
  exact wpAny_pure h
theorem meets_bool_inst {K : PySem.W.Frag} {C : Addr} (l : Addr) (ox od : Obj) (hs : PySem.W.findIn K (.ref C) "__bool__" = some none) (hl : PySem.W.findIn K (.ref C) "__len__" = some none) :
    Meets (Builtin.«bool.__new__» ⟨[.type "bool", .ref l], []⟩) (fun _ R s => (K.In s.heap ∧ PySem.W.InstAt s.heap l ox C od) ∧ R (.ok (.ret (.bool true))) s) :=
  Meets.of_wp fun prog w A R s hs' => by
    obtain ⟨⟨hk, hi⟩, hs'⟩ := hs'
    obtain ⟨hp, g, d, tk, os⟩ := s
    have f1 := F.conv_sub_bool
    repeat (any_goals (first | assumption | (with_reducible refine truthy_inst (s := ⟨hp, g, d, tk, os⟩) hk hi hs hl ?_) | wp_step))
    all_goals first | exact ⟨_, rfl, hs'⟩ | exact hs' | skip
def pBool (ok : Str → Bool) : List D → PO := fun ds S => match ds with
  | [d] => (match clsOf S d with
    | some (c, _) => if ok c = true then some (.bl true, S) else none
    | none => none)
  | _ => none
theorem cr_pBool {ok : Str → Bool} (hok : ∀ c, ok c = true → NoAttr X.K (He.ga X.K c) "__bool__" ∧ NoAttr X.K (He.ga X.K c) "__len__") : CallR X (.type "bool") (rDC X.K (pBool ok)) := fun pins s σ H vs us Q I rv ⟨W, S, ds, g, r, p⟩ => by
  match ds, r, p with
  | [d], r, p =>
    obtain ⟨v, rfl, q⟩ := reps1 r
    simp only [pBool] at p
    cases e : clsOf S d with
    | none => rw [e] at p; exact p.elim
    | some z =>
      obtain ⟨c, fs⟩ := z
      rw [e] at p
      dsimp only at p
      split at p
      · rename_i hc
        obtain ⟨a, dx, vfs, rfl, h1, h2, h3⟩ := clsOf_ok e g q
        obtain rfl := Vals.ref1 rv
        obtain ⟨mA, O, _⟩ := ins_get I.hok h1
        obtain ⟨od, J, _⟩ := O.look
        exact call_bool_1 (meets_bool_inst a _ od (hok c hc).1 (hok c hc).2) ⟨⟨I.kIn, J⟩, rfl, ⟨.bl true, H, I, rfl, p.val g (.bl _)⟩⟩
      · exact p.elim
  | [], r, p => exact p.elim
  | _ :: _ :: _, r, p => exact p.elim
def pStrI (tab : Str → Option (List D → M D)) : List D → PO := fun ds S => match ds with
  | [d] => (match clsOf S d with
    | some (c, _) => (match tab c with
      | some m => (match m [d] S with
        | .ok (.str z) S' => some (.str z, S')
        | _ => none)
      | none => none)
    | none => pStr [d] S)
  | _ => none
def StrOk (X : Cx) (k : Nat) (tab : Str → Option (List D → M D)) : Prop := ∀ c m, tab c = some m → ∃ f fd, PySem.W.findIn X.K (.ref (He.ga X.K c)) "__str__" = some (some (.ref f)) ∧ PySem.W.isFn X.K (.ref f) = true ∧ FnG X.prog X.w X.K X.mg X.base k f fd ["self"] (spM X.K 1 m) ∧ BindK X.K fd ["self"] []
theorem cr_pStrI {k : Nat} {tab : Str → Option (List D → M D)} (ht : StrOk X k tab) (hr : Room (k + 2) X.A) (hg : X.A.guards = some []) : CallR X (.type "str") (rDC X.K (pStrI tab)) := fun pins s σ H vs us Q I rv ⟨W, S, ds, g, r, p⟩ => by
  match ds, r, p with
  | [d], r, p =>
    obtain ⟨v, rfl, q⟩ := reps1 r
    simp only [pStrI] at p
    cases e : clsOf S d with
    | none => rw [e] at p; exact cr_pStr pins s σ H _ us Q I rv ⟨W, S, [d], g, r, p⟩
    | some z =>
      obtain ⟨c, fs⟩ := z
      rw [e] at p
      dsimp only at p
      cases e1 : tab c with
      | none => rw [e1] at p; exact p.elim
      | some m =>
        rw [e1] at p
        dsimp only at p
        obtain ⟨f, fd, k1, k2, F, hb⟩ := ht c m e1
        obtain ⟨a, dx, vfs, rfl, h1, h2, h3⟩ := clsOf_ok e g q
        obtain rfl := Vals.ref1 rv
        obtain ⟨mA, O, _⟩ := ins_get I.hok h1
        obtain ⟨od, J, _⟩ := O.look
        have hr2 : Room k X.A.in1.in1 := Room.in1 (Room.in1 hr)
        refine PySem.W.kso_call (by have := hr2.un; omega) I.kIn J k1 k2 (wpAny_call ?_)
        have want : spM X.K 1 m [.ref a] H (fun v H' => ∃ z, v = .str z ∧ Q (.str z) H') (fun _ _ _ => False) := ⟨rfl, W, S, [d], g, r, by
          cases e2 : m [d] S with
          | ok d2 S2 =>
            rw [e2] at p
            cases d2 with
            | str z =>
              intro W' H' v' l g' q'
              cases q'
              exact ⟨z, rfl, p W' H' _ l g' (.str z)⟩
            | _ => exact p.elim
          | exc x S2 => rw [e2] at p; exact p.elim
          | bad => rw [e2] at p; exact p.elim⟩
        refine codeAny_mono (F.run X.A.in1.in1 hg X.stack s H ⟨[.ref a], []⟩ [.ref a] [.ref a] _ _ hr2 (Env0.in1 (Env0.in1 I.env0)) (hb s [.ref a] [] rfl rfl) (.cons rfl .nil) want) fun res s' hq => ?_
        cases res with
        | error ex =>
          obtain ⟨_, _, _, _, _, _, _, _, _, _, _, _, z⟩ := hq
          exact z.elim
        | ok fl =>
          cases fl with
          | ret u =>
            obtain ⟨v, H', I3, rv, z, rfl, q3⟩ := I.after hq
            obtain ⟨t, rfl⟩ := rv
            exact ⟨.str z, H', I3, ⟨t, rfl⟩, q3⟩
          | next => exact hq.elim
          | brk => exact hq.elim
          | cont => exact hq.elim
  | [], r, p => exact p.elim
  | _ :: _ :: _, r, p => exact p.elim
end
end Ev
/-! # the rules as the printer writes them -/
namespace Ev
open PySem PySem.Spec PySem.SeqAt L2 PyProof.Rows
theorem takes_no {X : Cx} : Takes X (fun _ _ _ _ => False) := fun u s' ⟨_, _, _, _, _, _, _, _, _, _, _, _, _, _, _, _, w⟩ => w.elim
/-- where a piece of text is run -/
structure Ct (X : Cx) (Wx : WX) (k : Nat) : Prop where
  calm : X.calm = true
  gd : X.A.guards = some []
  room : Room k X.A
  tk : Takes X Wx
theorem Ct.blk {X : Cx} {Wx : WX} {k : Nat} (c : Ct X Wx k) {s : Shared} {H : Hp} {scope : Scope} {cenv : Env} {fp : List Addr} : Ct (X.blk s H scope cenv fp) (fun _ _ _ _ => False) k := ⟨c.calm, c.gd, c.room, takes_no⟩
theorem Ct.hu {X : Cx} {Wx : WX} {k : Nat} (c : Ct X Wx k) : X.A.units + 64 < cLine := by have := c.room.un; omega
theorem ct_of {P : Program} {w : World} {K : PySem.W.Frag} {mg : Str → Option Value} {base : Heap} {k : Nat} {N : List Str} {qual : Str} {scope : Scope} {f : Addr} {cdv : Value} {A : Around} {outer : List Env} {s : Shared} {H : Hp} {E : XK}
    (hg : A.guards = some []) (hr : Room k (A.deeper (envOfC qual scope s.heap.objs.size f cdv))) : Ct (cxOf (L2.CX P w) P w K mg base N qual scope f cdv A outer s H E) (fun cls d _ H' => E cls d H') k := ⟨rfl, hg, hr, takes_of rfl rfl rfl rfl⟩
theorem po_of {P : Program} {w : World} {K : PySem.W.Frag} {mg : Str → Option Value} {base : Heap} {N : List Str} {qual : Str} {scope : Scope} {f : Addr} {cdv : Value} {A : Around} {outer : List Env} {s : Shared} {H : Hp} {E : XK} :
    PassesOwn (model P w) (cxOf (L2.CX P w) P w K mg base N qual scope f cdv A outer s H E).A (cxOf (L2.CX P w) P w K mg base N qual scope f cdv A outer s H E).env (cxOf (L2.CX P w) P w K mg base N qual scope f cdv A outer s H E).xe := passes_of rfl
section
variable {X : Cx} {Wx : WX} {a b c e o tg : Expr} {es : List Expr} {ma mb mc m mo mi : ME} {mas mks : MA} {pos p : Pos} {k : Nat} {x : Str}
/-- f(e, ..), f a built-in function; a type -/
theorem nB {id : String} {g : List D → PO} (hc : CallR X (.builtin id) (rDC X.K g)) (hm : X.mg x = none) (hv : bootBuiltins x = some (.builtin id)) (ha : SA X Wx (e :: es) mas) (hg : Gl X x := by rfl) (hn : x ≠ "__name__" := by decide) (hdb : (x == ("__debug__" : Str)) = false := by decide)
    (he : starEach (e :: es) X.env = (false, eval e X.env) :: starEach es X.env := by rfl) (hpl : (backTo pos (starEach es X.env)).any (·.1) = false := by rfl) : SE X Wx (.Call (.Name x p) (e :: es) [] pos) (eCallV g mas) :=
  PE.imp (pe_callB hc hg hm hv ha hn hdb he hpl) tCB_of
theorem nT {T : String} {g : List D → PO} (hc : CallR X (.type T) (rDC X.K g)) (hm : X.mg x = none) (hv : bootBuiltins x = some (.type T)) (ha : SA X Wx (e :: es) mas) (hg : Gl X x := by rfl) (hn : x ≠ "__name__" := by decide) (hdb : (x == ("__debug__" : Str)) = false := by decide)
    (he : starEach (e :: es) X.env = (false, eval e X.env) :: starEach es X.env := by rfl) (hpl : (backTo pos (starEach es X.env)).any (·.1) = false := by rfl) : SE X Wx (.Call (.Name x p) (e :: es) [] pos) (eCallV g mas) :=
  PE.imp (pe_callTy hc hg hm hv ha hn hdb he hpl) tCB_of
theorem nVar (i : Nat) (hN : X.N[i]? = some x := by rfl) (hv : Vis X.env.scope x := by first | exact .inl rfl | exact .inr (.inl rfl) | exact .inr (.inr rfl)) (hd : (x == ("__debug__" : Str)) = false := by rfl) (hcd : (x == ("__classdict__" : Str)) = false := by rfl) : SE X Wx (.Name x pos) (eVar i) := se_var hN hv hd hcd
theorem nCons (ha : SE X Wx e ma) (hr : SA X Wx es mas) (hs : starEach (e :: es) X.env = (false, eval e X.env) :: starEach es X.env := by rfl) : SA X Wx (e :: es) (aCons ma mas) := sa_cons ha hr hs
theorem nInt {x : Str} {i : Int} (hm : ∃ t, X.mg x = some (.int i t)) (hg : Gl X x := by rfl) (hd : (x == ("__debug__" : Str)) = false := by rfl) : SE X Wx (.Name x pos) (eC (.int i)) := se_gint hg hm hd
theorem nStr {x z : Str} (hm : ∃ t, X.mg x = some (.str z t)) (hg : Gl X x := by rfl) (hd : (x == ("__debug__" : Str)) = false := by rfl) : SE X Wx (.Name x pos) (eC (.str z)) := se_gstr hg hm hd
theorem nCmp {op : CmpOp} {f : D → D → PO} (ho : OpR X (compareOp op) (rD2 X.K f)) (ha : SE X Wx a ma) (hb : SE X Wx b mb) (hm : behindInMarks op b = false := by rfl) : SE X Wx (.Compare a [op] [b] pos) (eOp f ma mb) := se_cmp ho ha hb hm
theorem nCmpT {op : CmpOp} {f : D → D → PO} (ho : OpR X (compareOp op) (rD2 X.K f)) (ha : SE X Wx a ma) (hb : SE X Wx b mb) (hm : behindInMarks op b = false := by rfl) : ST X Wx (.Compare a [op] [b] pos) (fun δ => asB (eOp f ma mb δ)) := st_cmp ho ha hb hm
theorem nChT {op op' : CmpOp} {f f' : D → D → PO} (ho : OpR X (compareOp op) (rD2 X.K f)) (ho' : OpR X (compareOp op') (rD2 X.K f')) (ha : SE X Wx a ma) (hb : SE X Wx b mb) (hc : SE X Wx c mc) (hm : lastMarks [op, op'] [b, c] = false := by rfl) : ST X Wx (.Compare a [op, op'] [b, c] pos) (fun δ => asB (eChain f f' ma mb mc δ)) := st_chain ho ho' ha hb hc hm
theorem nCh {op op' : CmpOp} {f f' : D → D → PO} (ho : OpR X (compareOp op) (rD2 X.K f)) (ho' : OpR X (compareOp op') (rD2 X.K f')) (ha : SE X Wx a ma) (hb : SE X Wx b mb) (hc : SE X Wx c mc) (hm : lastMarks [op, op'] [b, c] = false := by rfl) : SE X Wx (.Compare a [op, op'] [b, c] pos) (eChain f f' ma mb mc) := se_chain ho ho' ha hb hc hm
theorem nTru (ha : SE X Wx a ma) (he : ∀ whole, isTrue a X.env whole = (do let v ← whole; standAt a.pos; holding [v] (truthy v)) := by intro _; rfl) : ST X Wx a (fun δ => tru (ma δ)) := st_truth ha he
theorem nIx {i : Expr} (ho : SE X Wx o mo) (hi : SE X Wx i mi) (hs : PlainIx i := by intro _ _; rfl) : SE X Wx (.Subscript o i pos) (eOp pIx mo mi) := se_ix ho hi hs
theorem sw_st {ta : MT} (h : SW X Wx a ta) : ST X Wx a ta := PW.pt h
theorem and1 (ha : SE X Wx a ma) : SE X Wx (.BoolOp .And [a] pos) ma := pe_one ha
theorem or1 (ha : SE X Wx a ma) : SE X Wx (.BoolOp .Or [a] pos) ma := pe_one ha
theorem nFld {ok : Str → Bool} {fl : Str} (hcls : ∀ c, ok c = true → Cls X.K (He.ga X.K c) ∧ NoAttr X.K (He.ga X.K c) fl) (ho : SE X Wx o mo) (hb : attributeBase o fl X.env (eval o X.env) = eval o X.env := by rfl) : SE X Wx (.Attribute o fl pos) (eFld ok fl mo) := se_fld ho hcls hb
theorem nCal {f : Addr} {m : List D → M D} (C : Ct X Wx k) (hf : CalG X.prog X.w X.K X.mg X.base k f [] m) (hm : X.mg x = some (.ref f)) (hk : PySem.W.keepIn X.K (.ref f) = true) (ha : SA X Wx (e :: es) mas) (hgl : Gl X x := by rfl) (hdb : (x == ("__debug__" : Str)) = false := by rfl)
    (he : starEach (e :: es) X.env = (false, eval e X.env) :: starEach es X.env := by rfl) (hpl : (backTo pos (starEach es X.env)).any (·.1) = false := by rfl) : SE X Wx (.Call (.Name x p) (e :: es) [] pos) (eCal m mas) := se_cal hf C.room C.gd C.tk hgl hm hk hdb ha he hpl
theorem nCal0 {f : Addr} {m : List D → M D} (C : Ct X Wx k) (hf : CalG X.prog X.w X.K X.mg X.base k f [] m) (hm : X.mg x = some (.ref f)) (hk : PySem.W.keepIn X.K (.ref f) = true) (hgl : Gl X x := by rfl) (hdb : (x == ("__debug__" : Str)) = false := by rfl) : SE X Wx (.Call (.Name x p) [] [] pos) (eCal m aNil) := se_cal0 hf C.room C.gd C.tk hgl hm hk hdb
theorem aCons_len {ma : ME} {mas : MA} {n : Nat} (h : ∀ δ S ds S', mas δ S = .ok ds S' → ds.length = n) : ∀ δ S ds S', aCons ma mas δ S = .ok ds S' → ds.length = n + 1 := fun δ S ds S' e => by
  unfold aCons M.bind at e
  cases e1 : ma δ S with
  | bad => rw [e1] at e; cases e
  | exc x S1 => rw [e1] at e; cases e
  | ok d S1 =>
    rw [e1] at e
    cases e2 : mas δ S1 with
    | bad => simp only [e2] at e; cases e
    | exc x S2 => simp only [e2] at e; cases e
    | ok ds2 S2 =>
      simp only [e2, M.pure, Res.ok.injEq] at e
      obtain ⟨rfl, rfl⟩ := e
      simp [h _ _ _ _ e2]
theorem aNil_len : ∀ δ S ds S', aNil δ S = .ok ds S' → ds.length = 0 := fun δ S ds S' e => by
  unfold aNil M.pure at e
  cases e
  rfl
theorem nCalK0 {f : Addr} {m : List D → M D} {ks : List Str} {kws : List Keyword} (C : Ct X Wx k) (hf : CalG X.prog X.w X.K X.mg X.base k f ks m) (hm : X.mg x = some (.ref f)) (hk : PySem.W.keepIn X.K (.ref f) = true) (ha : SK X Wx kws mks) (hn : ∀ δ S ds S', mks δ S = .ok ds S' → ds.length = ks.length) (hgl : Gl X x := by rfl) (hdb : (x == ("__debug__" : Str)) = false := by rfl)
    (hall : (backToKw pos (keywordEach kws X.env)).all (·.1.isSome) = true := by rfl) (hks : (backToKw pos (keywordEach kws X.env)).filterMap (·.1) = ks := by rfl) (hpl : ((backTo pos (starEach [] X.env)).any (·.1) || (backToKw pos (keywordEach kws X.env)).any (·.1.isNone)) = false := by rfl) :
    SE X Wx (.Call (.Name x p) [] kws pos) (eCal m mks) := se_calK0 hf C.room C.gd C.tk hgl hm hk hdb ha hall hks hpl hn
theorem nMet {nm : Str} {tab : Str → Option (List D → M D)} {apos : Pos} {pl : Sem Bool} (C : Ct X Wx k) (ht : MetOk X k nm tab) (ho : SE X Wx o mo) (ha : SA X Wx (e :: es) mas)
    (he : starEach (e :: es) X.env = (false, eval e X.env) :: starEach es X.env := by rfl) (hpl : (backTo pos (starEach es X.env)).any (·.1) = false := by rfl)
    (hv : eval (.Call (.Attribute o nm apos) (e :: es) [] pos) X.env = (do
      let ov ← eval o X.env
      standAt apos.atName
      let (f, first) ← holding [ov] (getMethod ov nm pl)
      callWith pos f first (backTo pos (starEach (e :: es) X.env)) (backToKw pos (keywordEach [] X.env))) := by rfl) : SE X Wx (.Call (.Attribute o nm apos) (e :: es) [] pos) (eMet tab nm mo mas) := se_met ht C.room C.gd C.tk ho ha he hpl hv
theorem nMet0 {nm : Str} {tab : Str → Option (List D → M D)} {apos : Pos} {pl : Sem Bool} (C : Ct X Wx k) (ht : MetOk X k nm tab) (ho : SE X Wx o mo)
    (hv : eval (.Call (.Attribute o nm apos) [] [] pos) X.env = (do
      let ov ← eval o X.env
      standAt apos.atName
      let (f, first) ← holding [ov] (getMethod ov nm pl)
      callWith pos f first (backTo pos (starEach [] X.env)) (backToKw pos (keywordEach [] X.env))) := by rfl) : SE X Wx (.Call (.Attribute o nm apos) [] [] pos) (eMet tab nm mo aNil) := se_met0 ht C.room C.gd C.tk ho hv
theorem nMb {T id : String} {nm : Str} {f : D → List D → PO} {apos : Pos} (pa : PlainAttrs T) (slot : Slot T nm id) (hty : typeOf (.builtin id) = pure (.type "method_descriptor")) (hm : MtR X id (rDM X.K f)) (ho : SE X Wx o mo) (ha : SA X Wx (e :: es) mas)
    (hbase : attributeBase o nm X.env (eval o X.env) = eval o X.env := by rfl)
    (hfew : ((backTo pos (starEach (e :: es) X.env)).all (fun x => !x.1) && (backToKw pos (keywordEach [] X.env)).all (fun x => x.1.isSome)
      && decide ((e :: es).length + ([] : List Keyword).length + (if ([] : List Keyword).isEmpty then 0 else 1) < 30)) = true := by rfl)
    (hline : (apos.endLine == pos.line) = true := by rfl) (hs : starEach (e :: es) X.env = (false, eval e X.env) :: starEach es X.env := by rfl) (hpl : (backTo pos (starEach es X.env)).any (·.1) = false := by rfl) :
    SE X Wx (.Call (.Attribute o nm apos) (e :: es) [] pos) (eMB T f mo mas) := se_mb pa slot hty hm ho ha hbase hfew hline hs hpl
theorem nIsi {isi : Ty → Ty → Option Bool} {c : Ty} {p2 : Pos} {ce : Expr} {cv : V} (kk : IsiOk X.K isi) (ho : SE X Wx o mo) (hc : PE X ce (tC cv)) (hcv : ClsV cv (c.val X.K)) (hm : X.mg "isinstance" = none) (hgl : Gl X "isinstance" := by rfl)
    (h1 : starEach [o, ce] X.env = (false, eval o X.env) :: starEach [ce] X.env := by rfl) (h2 : starEach [ce] X.env = (false, eval ce X.env) :: starEach [] X.env := by rfl) : SE X Wx (.Call (.Name "isinstance" p) [o, ce] [] pos) (eIsi isi c mo) := se_isi (p2 := p2) kk ho hc hcv hgl hm h1 h2
/-! statements -/
variable {st : Stmt} {sts : List Stmt} {ms mt : MS}
theorem nSet (i : Nat) {y : Str} {pos' : Pos} (he : SE X Wx e m) (hN : X.N.Nodup) (hi : X.N[i]? = some y := by rfl) (hx : Loc X.env.scope y := by first | exact .inl rfl | exact .inr rfl) (hs : swapsWith e (some (.Name y pos')) pos.line X.env = pure false := by rfl) (hf : X.fn y = true ∨ X.env.scope.names.lookup y = some .local := by first | exact .inl rfl | exact .inr rfl) : SS X Wx (.Assign [.Name y pos'] e pos) (sAsg m (gNm i)) :=
  ss_set hN hi hx he hs hf
theorem nAsg {mg : TGM} (he : SE X Wx e m) (hg : SG X tg mg) (hs : swapsWithSole [tg] e pos.line X.env = pure false := by rfl) (hw : swappedStores [tg] e X.env = pure none := by rfl) (h1 : (assignEach [tg] X.env).map (·.2) = [assign tg X.env] := by rfl) : SS X Wx (.Assign [tg] e pos) (sAsg m mg) := ss_asg he hg hs hw h1
theorem nPar2 (i j : Nat) {x y : Str} {px py pt : Pos} {kt k2 : Nat} {pt2 : Pos} (C : Ct X Wx k) (hN : X.N.Nodup) (ha : SA X Wx [a, b] mas) (hi : X.N[i]? = some x := by rfl) (hj : X.N[j]? = some y := by rfl) (hij : i ≠ j := by decide)
    (hx : X.env.scope.names.lookup x = some .local := by rfl) (hy : X.env.scope.names.lookup y = some .local := by rfl)
    (hw : swappedStores [.Tuple [.Name x px, .Name y py] kt pt] (.Tuple [a, b] k2 pt2) X.env = pure (some [x, y]) := by rfl) :
    SS X Wx (.Assign [.Tuple [.Name x px, .Name y py] kt pt] (.Tuple [a, b] k2 pt2) pos) (sPar2 i j mas) := ss_par2 C.calm hN hi hj hij hx hy ha hw
theorem nExpr (he : SE X Wx e m) (hs : swapsWith e none pos.line X.env = pure false := by rfl) : SS X Wx (.Expr e pos) (sExpr m) := ss_expr he hs
theorem nFor {iter : Expr} {body : List Stmt} {mi : MA} {mg : TGM} {mb : MS} (C : Ct X Wx k) (hp : PassesOwn (model X.prog X.w) X.A X.env X.xe) (hi : SI X Wx tg iter mi) (hg : SG X tg mg) (hb : SB X Wx body mb) (hs : ∀ x, foldedSetIterable iter X.env x = pure x := by intro _; rfl) : SS X Wx (.For tg iter body [] pos) (sFor mi mg mb) :=
  ss_for hp C.calm hi hg hb hs
theorem gName (i : Nat) (hN : X.N.Nodup) (hi : X.N[i]? = some x := by rfl) (hx : Loc X.env.scope x := by first | exact .inl rfl | exact .inr rfl) (hf : X.fn x = true ∨ X.env.scope.names.lookup x = some .local := by first | exact .inl rfl | exact .inr rfl) : SG X (.Name x pos) (gNm i) := sg_name hN hi hx hf
theorem gTup {kk n : Nat} {ms : TGMs} (C : Ct X Wx k) (h : SGs X es ms) (hn : (assignEach es X.env).length = n := by rfl) (hst : (assignEach es X.env).findIdx? (·.1) = none := by rfl) : SG X (.Tuple es kk pos) (gTp n ms) := sg_tup C.calm h hn hst
theorem gCons {m : TGM} {ms : TGMs} (h1 : SG X e m) (h2 : SGs X es ms) (hs : (assignEach (e :: es) X.env).map (·.2) = assign e X.env :: (assignEach es X.env).map (·.2) := by rfl) : SGs X (e :: es) (gCs m ms) := sgs_cons h1 h2 hs
theorem gSub {o i : Expr} {mo mi : ME} {f : PSt} (Wx : WX) (ho : SE X Wx o mo) (hi : SE X Wx i mi) (hs : PSet X (tDSet X.K f)) (ha : ∀ v, assign (.Subscript o i pos) X.env v = (do
      let ov ← holding [v] (eval o X.env)
      let iv ← holding [v, ov] (eval i X.env)
      standAt pos
      holding [v, ov, iv] (setItem ov iv v)
      release [v, ov, iv] []) := by intro _; rfl) : SG X (.Subscript o i pos) (gSb f mo mi) := sg_sub ho hi hs ha
theorem uName (i : Nat) (hN : X.N.Nodup) (hi : X.N[i]? = some x := by rfl) (hx : Loc X.env.scope x := by first | exact .inl rfl | exact .inr rfl) (hf : X.fn x = true ∨ X.env.scope.names.lookup x = some .local := by first | exact .inl rfl | exact .inr rfl) : PG X (.Name x pos) (tDU X.K (uNm i)) := su_name hN hi hx hf
theorem uTup {kk n : Nat} {us : List D → Option (List (Nat × D))} (C : Ct X Wx k) (h : PGs X es (tDUs X.K us)) (hn : (assignEach es X.env).length = n := by rfl) (hst : (assignEach es X.env).findIdx? (·.1) = none := by rfl) : PG X (.Tuple es kk pos) (tDU X.K (uTp n us)) := su_tup C.calm h hn hst
theorem uCons {u : UpD} {us : List D → Option (List (Nat × D))} (h1 : PG X e (tDU X.K u)) (h2 : PGs X es (tDUs X.K us)) (hs : (assignEach (e :: es) X.env).map (·.2) = assign e X.env :: (assignEach es X.env).map (·.2) := by rfl) : PGs X (e :: es) (tDUs X.K (uCs u us)) := sus_cons h1 h2 hs
def tYesM : MT := fun _ => M.pure true
theorem ptsNil : PTs X [] (tDT X.K Wx tYesM) := ⟨fun pins s σ H Q I ⟨W, S, δ, g, r, p⟩ => pts_nil.run pins s σ H Q I (okP.pure p g rfl)⟩
theorem ptsOne {t : MT} (h : ST X Wx c t) : PTs X [c] (tDT X.K Wx t) := pts_one h
theorem nRng1 {p : Pos} (hm : X.mg "range" = none) (ha : SA X Wx [a] mas) (hg : Gl X "range" := by rfl) (hs : starEach [a] X.env = [(false, eval a X.env)] := by rfl) : SI X Wx tg (.Call (.Name "range" p) [a] [] pos) (fun δ => M.bind (mas δ) fun ds => match ds with
    | [.int j] => if -(2 ^ 62) ≤ j ∧ j < 2 ^ 62 then M.pure (rngD 0 j.toNat) else M.bad
    | _ => M.bad) := si_range1 hg hm ha hs
def iR1 (mas : MA) : MA := fun δ => M.bind (mas δ) fun ds => match ds with
    | [.int j] => if -(2 ^ 62) ≤ j ∧ j < 2 ^ 62 then M.pure (rngD 0 j.toNat) else M.bad
    | _ => M.bad
def iR2 (mas : MA) : MA := fun δ => M.bind (mas δ) fun ds => match ds with
    | [.int i, .int j] => if -(2 ^ 62) ≤ i ∧ i < 2 ^ 62 ∧ -(2 ^ 62) ≤ j ∧ j < 2 ^ 62 then M.pure (rngD i (j - i).toNat) else M.bad
    | _ => M.bad
theorem nR1 {p : Pos} (hm : X.mg "range" = none) (ha : SA X Wx [a] mas) (hg : Gl X "range" := by rfl) (hs : starEach [a] X.env = [(false, eval a X.env)] := by rfl) : SI X Wx tg (.Call (.Name "range" p) [a] [] pos) (iR1 mas) := si_range1 hg hm ha hs
theorem nR2 {p : Pos} (hm : X.mg "range" = none) (ha : SA X Wx [a, b] mas) (hg : Gl X "range" := by rfl) (hs : starEach [a, b] X.env = [(false, eval a X.env), (false, eval b X.env)] := by rfl) (hs2 : starEach [b] X.env = [(false, eval b X.env)] := by rfl) : SI X Wx tg (.Call (.Name "range" p) [a, b] [] pos) (iR2 mas) := si_range2 hg hm ha hs hs2
theorem nLc {elt tg iter : Expr} {ifs : List Expr} {scope : Scope} (own : List (Str × Nat)) {mi : MA} {up : UpD} {mt : MT} {me : ME} {fin : List D → PO} (C : Ct X Wx k) (hf : FinOk X.K fin) (hN : X.N.Nodup) (hi : SI X Wx tg iter mi) (ok : BlkOk X.N X.env.scope scope own)
    (hg : ∀ (s : Shared) (H : Hp) (C : Addr) (cl : List (Str × Addr)) (fp : List Addr), PG (X.blk s H scope (compEnvC scope cl C X.env) fp) tg (tDU X.K up)) (ht : ∀ (s : Shared) (H : Hp) (C : Addr) (cl : List (Str × Addr)) (fp : List Addr), PTs (X.blk s H scope (compEnvC scope cl C X.env) fp) ifs (tDT X.K (fun _ _ _ _ => False) mt))
    (he : ∀ (s : Shared) (H : Hp) (C : Addr) (cl : List (Str × Addr)) (fp : List Addr), SE (X.blk s H scope (compEnvC scope cl C X.env) fp) (fun _ _ _ _ => False) elt me) (hu : ∀ d us, up d = some us → ∀ p ∈ us, p.1 ∈ own.map (·.2)) (hs : ∀ x, foldedSetIterable iter X.env x = pure x := by intro _; rfl) :
    SE X Wx (.ListComp elt [⟨tg, iter, ifs, 0⟩] scope pos) (eLc fin mi up mt me (own.map (·.2))) := se_lc hf hu C.calm hN hi ok hg ht he hs
theorem nSetLc (i : Nat) {y : Str} {py spos : Pos} {elt tg iter : Expr} {ifs : List Expr} {scope : Scope} (own : List (Str × Nat)) {mi : MA} {up : UpD} {mt : MT} {me : ME} {fin : List D → PO} (C : Ct X Wx k) (hf : FinOk X.K fin) (hN : X.N.Nodup) (hi : SI X Wx tg iter mi) (ok : BlkOk X.N X.env.scope scope own)
    (hg : ∀ (s : Shared) (H : Hp) (C : Addr) (cl : List (Str × Addr)) (fp : List Addr), PG (X.blk s H scope (compEnvC scope cl C X.env) fp) tg (tDU X.K up)) (ht : ∀ (s : Shared) (H : Hp) (C : Addr) (cl : List (Str × Addr)) (fp : List Addr), PTs (X.blk s H scope (compEnvC scope cl C X.env) fp) ifs (tDT X.K (fun _ _ _ _ => False) mt))
    (he : ∀ (s : Shared) (H : Hp) (C : Addr) (cl : List (Str × Addr)) (fp : List Addr), SE (X.blk s H scope (compEnvC scope cl C X.env) fp) (fun _ _ _ _ => False) elt me) (hu : ∀ d us, up d = some us → ∀ p ∈ us, p.1 ∈ own.map (·.2)) (hy : X.N[i]? = some y := by rfl) (hyl : X.env.scope.names.lookup y = some .local := by rfl)
    (hsw : swapsWith (.ListComp elt [⟨tg, iter, ifs, 0⟩] scope pos) (some (.Name y py)) spos.line X.env = pure true := by exact sw_true rfl rfl rfl (by decide +kernel)) (hs : ∀ x, foldedSetIterable iter X.env x = pure x := by intro _; rfl) :
    SS X Wx (.Assign [.Name y py] (.ListComp elt [⟨tg, iter, ifs, 0⟩] scope pos) spos) (sAsg (eLc fin mi up mt me (own.map (·.2))) (gNm i)) := ss_setLc hf hu C.calm hN hy hyl hsw hi ok hg ht he hs
theorem upNm {i : Nat} {l : List Nat} (h : i ∈ l := by decide) : ∀ d us, uNm i d = some us → ∀ p ∈ us, p.1 ∈ l := fun d us e p hp => by
  unfold uNm at e
  cases e
  rw [List.mem_singleton.mp hp]
  exact h
theorem nZipS {p q : Pos} (hm : X.mg "zip" = none) (ha : SE X Wx e ma) (hg : Gl X "zip" := by rfl) : SI X Wx tg (.Call (.Name "zip" p) [.Starred e q] [] pos) (iZip (aStar ma aNil)) := si_zipS hg hm ha
/-! parts of __init__ -/
variable {cn : Str} {mI : MI}
theorem iSelf {x f : Str} {px : Pos} (hc : Cls X.K (He.ga X.K cn) ∧ NoAttr X.K (He.ga X.K cn) f) (hN : X.N[0]? = some x := by rfl) (hv : Vis X.env.scope x := by first | exact .inl rfl | exact .inr (.inl rfl) | exact .inr (.inr rfl)) (hd : (x == ("__debug__" : Str)) = false := by rfl) (hcd : (x == ("__classdict__" : Str)) = false := by rfl) : PG X (.Attribute (.Name x px) f pos) (tGI X.K cn f) := sgi hN hv hd hcd hc
theorem iCs {f : Str} {ps : List Str} (h1 : PG X e (tGI X.K cn f)) (h2 : PGs X es (tGIs X.K cn ps)) (hs : (assignEach (e :: es) X.env).map (·.2) = assign e X.env :: (assignEach es X.env).map (·.2) := by rfl) : PGs X (e :: es) (tGIs X.K cn (f :: ps)) := sgis_cons h1 h2 hs
theorem iOne {f : Str} (he : SE X Wx e m) (hg : PG X tg (tGI X.K cn f)) (h2 : SBI X Wx cn sts mI) (hs : swapsWithSole [tg] e pos.line X.env = pure false := by rfl) (hw : swappedStores [tg] e X.env = pure none := by rfl) (h1 : (assignEach [tg] X.env).map (·.2) = [assign tg X.env] := by rfl) : SBI X Wx cn (.Assign [tg] e pos :: sts) (iSet m f mI) := sbi_set he hg h2 hs hw h1
theorem iMany {ps : List Str} {kk : Nat} {pt : Pos} (C : Ct X Wx k) (he : SE X Wx e m) (hg : PGs X es (tGIs X.K cn ps)) (h2 : SBI X Wx cn sts mI) (hn : (assignEach es X.env).length = ps.length := by rfl) (hst : (assignEach es X.env).findIdx? (·.1) = none := by rfl)
    (hs : swapsWithSole [.Tuple es kk pt] e pos.line X.env = pure false := by rfl) (hw : swappedStores [.Tuple es kk pt] e X.env = pure none := by rfl) (h1 : (assignEach [.Tuple es kk pt] X.env).map (·.2) = [assign (.Tuple es kk pt) X.env] := by rfl) : SBI X Wx cn (.Assign [.Tuple es kk pt] e pos :: sts) (iSets m ps mI) := sbi_sets (n := 0) C.calm he hg h2 hn hst hs hw h1
end
/-! what hangs on no caller -/
def StrG (P : Program) (w : World) (K : PySem.W.Frag) (mg : Str → Option Value) (base : Heap) (k : Nat) (tab : Str → Option (List D → M D)) : Prop := ∀ c m, tab c = some m → ∃ f fd, PySem.W.findIn K (.ref (He.ga K c)) "__str__" = some (some (.ref f)) ∧ PySem.W.isFn K (.ref f) = true ∧ FnG P w K mg base k f fd ["self"] (spM K 1 m) ∧ BindK K fd ["self"] []
def MetG (P : Program) (w : World) (K : PySem.W.Frag) (mg : Str → Option Value) (base : Heap) (k : Nat) (nm : Str) (tab : Str → Option (List D → M D)) : Prop := ∀ c m, tab c = some m → Cls K (He.ga K c) ∧ ∃ f, Meth K (He.ga K c) nm f ∧ CalG P w K mg base k f [] m
theorem CalG.mono {P : Program} {w : World} {K : PySem.W.Frag} {mg : Str → Option Value} {base : Heap} {j k : Nat} {v : Addr} {ks : List Str} {m : List D → M D} (h : CalG P w K mg base j v ks m) (l : j ≤ k) : CalG P w K mg base k v ks m :=
  fun X Wx e1 e2 e3 e4 e5 hr => h X Wx e1 e2 e3 e4 e5 (hr.mono l)

theorem CalG.bad {P : Program} {w : World} {K : PySem.W.Frag} {mg : Str → Option Value} {base : Heap} {k : Nat} {v : Addr} {ks : List Str} : CalG P w K mg base k v ks (fun _ _ => .bad) :=
  fun X Wx e1 e2 e3 e4 e5 hr hg tk pins s σ H vs zs us ws Q I r1 r2 hl ⟨W, S, ds, es, g, q1, q2, p⟩ => p.elim
theorem FnG.bad {P : Program} {w : World} {K : PySem.W.Frag} {mg : Str → Option Value} {base : Heap} {k : Nat} {f : Addr} {fd : FuncData} {x : Str} : FnG P w K mg base k f fd [x] (spM K 1 (fun _ _ => .bad)) :=
  ⟨fun vs H Q E h => h.1, fun A hg outer s H args us vs Q E hr e0 hb rel ⟨_, W, S, ds, g, r, p⟩ => p.elim⟩
theorem initM_len {nN n : Nat} {m : MI} (ds : List D) (S : Store) (h : ds.length ≠ n) : initM nN n m ds S = .bad := by unfold initM; rw [if_neg h]
/-! the built-ins that the printer knows -/
theorem bt_len : bootBuiltins "len" = some (.builtin "len") := by decide +kernel
theorem bt_abs : bootBuiltins "abs" = some (.builtin "abs") := by decide +kernel
theorem bt_min : bootBuiltins "min" = some (.builtin "min") := by decide +kernel
theorem bt_max : bootBuiltins "max" = some (.builtin "max") := by decide +kernel
theorem bt_sum : bootBuiltins "sum" = some (.builtin "sum") := by decide +kernel
theorem bt_all : bootBuiltins "all" = some (.builtin "all") := by decide +kernel
theorem bt_any : bootBuiltins "any" = some (.builtin "any") := by decide +kernel
theorem bt_divmod : bootBuiltins "divmod" = some (.builtin "divmod") := by decide +kernel
theorem bt_repr : bootBuiltins "repr" = some (.builtin "repr") := by decide +kernel
theorem bt_int : bootBuiltins "int" = some (.type "int") := by decide +kernel
theorem bt_str : bootBuiltins "str" = some (.type "str") := by decide +kernel
theorem bt_bool : bootBuiltins "bool" = some (.type "bool") := by decide +kernel
theorem bt_list : bootBuiltins "list" = some (.type "list") := by decide +kernel
theorem bt_tuple : bootBuiltins "tuple" = some (.type "tuple") := by decide +kernel
end Ev
/-! # the law's call: where no repr is under way -/
namespace Ev
open PySem PySem.Spec PyProof.Rows L2
/-- the world at the law's entry -/
def w0 (H : Hp) : Wd := ⟨H, [], fun _ => none, none⟩
theorem good0 {K : PySem.W.Frag} (H : Hp) : Good K (w0 H) [] H where
  sub := fun _ _ e => e
  len := rfl
  cell := fun i c e => by simp at e
  inj := fun i j a c c' e => by simp at e
  prv := fun a o e => by cases e
section
variable {P : Program} {w : World} {K : PySem.W.Frag} {mg mb : Str → Option Value} {k : Nat} {fa a : Addr} {fd : FuncData} {x : Str} {s1 : Shared} {vs : List Value} {ns : List Int} {m : List D → M D}
/-- the entry, from a heap that tracks the script at most -/
theorem law_at (H : Hp) (only : ∀ b u, H b = some u → b = a ∧ K.lookup b = none ∧ ∃ o xs, u = .frz o (.lst xs)) (hS : SqL K H a (ns.map V.int)) (hok : HOk P w H s1.heap)
    (KX : K.In s1.heap) (hns : s1.heap.Ns mainGlobals mg) (hb : s1.heap.Ns builtinsNs mb) (hbb : ∀ y : Str, y ≠ "__name__" → mb y = bootBuiltins y) (hlim : s1.heap.NoLimit) (hg : s1.gens = #[])
    (ha : s1.heap.get? a = some { cls := .type "list", data := .seq vs.toArray }) (hr : Room k callerA)
    (F : ∀ base : Heap, K.In base → base.Ns mainGlobals mg → FnG P w K mg base k fa fd [x] (spM K 1 m)) (hbind : ∀ (s : Shared) (u : Value), BindsTo s fd ⟨[u], []⟩ [(x, u)])
    (hm : ∃ S, m [.scr ns] [] = .ok (.bl true) S) :
    codeAny (model P w) callerA (.call (.ref fa) ⟨[.ref a], []⟩) (fun r s' => (r = .ok (.ret (.bool true)) ∧ OldK s1.heap s'.heap) ∧ s'.os = s1.os ∧ AllBare s'.gens) s1 := by
  let B : Heap := hidT s1.heap H
  have inB : ∀ {b : Addr} {o : Obj}, s1.heap.get? b = some o → H b = none → B.get? b = some o := fun e n => hidT_get e n
  have untracked : ∀ {b : Addr} {o : Obj}, s1.heap.get? b = some o → (∀ ys n, o.data ≠ .seq ys n) → H b = none := by
    intro b o e hn
    cases q : H b with
    | none => rfl
    | some u =>
      obtain ⟨rfl, _⟩ := only b u q
      rw [ha] at e
      cases e
      exact absurd rfl (hn _ _)
  have spaces : ∀ {b : Addr} {g : Str → Option Value}, s1.heap.Ns b g → B.Ns b g := by
    rintro b g ⟨o, es, ep, e, hd, r⟩
    exact ⟨o, es, ep, inB e (untracked e fun ys n z => by rw [hd] at z; cases z), hd, r⟩
  have KB : K.In B := by
    intro b o e
    refine inB (KX b o e) ?_
    cases q : H b with
    | none => rfl
    | some u =>
      obtain ⟨_, z, _⟩ := only b u q
      rw [z] at e; cases e
  obtain ⟨mc, c1, c2⟩ := hlim
  have env : Env0 P w K mg B callerA [] s1 H := by
    refine ⟨rfl, ⟨KB, spaces hns, ⟨mb, spaces hb, hbb⟩, mc, spaces c1, c2⟩, fun b o e => of_hidT e, Nat.le_of_eq (hidT_size _ _), trivial, fun b z => ?_, hok, .of_eq hg⟩
    exact absurd (show b ∈ ([] : List Addr) from z) (by simp)
  obtain ⟨S, hmS⟩ := hm
  have want : spM K 1 m [.ref a] H (fun v _ => v = .bl true) (fun _ _ _ => False) := by
    refine ⟨rfl, w0 H, [], [.scr ns], good0 H, .cons (.scr hS) .nil, ?_⟩
    rw [hmS]
    intro W' H' v _ _ q
    cases q
    rfl
  refine codeAny_mono ((F B KB (spaces hns)).run callerA rfl [] s1 H ⟨[.ref a], []⟩ [.ref a] [.ref a] _ _ hr env (hbind s1 _) (.cons rfl .nil) want) ?_
  intro r s' res
  match r, res with
  | .error e, res =>
    obtain ⟨_, _, _, _, _, _, _, _, _, _, _, _, z⟩ := res
    exact z.elim
  | .ok .next, res => exact False.elim res
  | .ok .brk, res => exact False.elim res
  | .ok .cont, res => exact False.elim res
  | .ok (.ret u), res =>
    obtain ⟨v, H', hos, hbare, un, hok2, rel, rfl⟩ := res
    obtain rfl : u = Value.bool true := rel
    refine ⟨⟨rfl, OldK.of_keep ?_⟩, hos, hbare⟩
    intro b o e
    cases q : H b with
    | none =>
      refine un.keep b o e q (fun z => ?_) (by simp)
      exact absurd (show b ∈ ([] : List Addr) from z) (by simp)
    | some u =>
      obtain ⟨_, _, ob, xs, rfl⟩ := only b u q
      have t1 := (hok b _ q).1
      have t2 := (hok2 b _ (un.frzs b ob _ q)).1
      rw [e] at t1; cases t1
      exact t2
/-- the law's call, from the head's facts -/
theorem law_go (KX : K.In s1.heap) (hns : s1.heap.Ns mainGlobals mg) (hb : s1.heap.Ns builtinsNs mb) (hbb : ∀ y : Str, y ≠ "__name__" → mb y = bootBuiltins y) (hlim : s1.heap.NoLimit) (hg : s1.gens = #[])
    (ha : s1.heap.get? a = some { cls := .type "list", data := .seq vs.toArray }) (hi : IntsAre vs ns) (hl : ns.length ≤ sizeLine) (hr : Room k callerA)
    (F : ∀ base : Heap, K.In base → base.Ns mainGlobals mg → FnG P w K mg base k fa fd [x] (spM K 1 m)) (hbind : ∀ (s : Shared) (u : Value), BindsTo s fd ⟨[u], []⟩ [(x, u)])
    (hm : ∃ S, m [.scr ns] [] = .ok (.bl true) S) :
    codeAny (model P w) callerA (.call (.ref fa) ⟨[.ref a], []⟩) (fun r s' => (r = .ok (.ret (.bool true)) ∧ OldK s1.heap s'.heap) ∧ s'.os = s1.os ∧ AllBare s'.gens) s1 := by
  have vi := vals_ints hi
  by_cases hk : K.lookup a = none
  · let ob : Obj := { cls := .type "list", data := .seq vs.toArray }
    let H : Hp := fun b => if b = a then some (.frz ob (.lst (ns.map V.int))) else none
    have atA : H a = some (.frz ob (.lst (ns.map V.int))) := if_pos rfl
    have onA : ∀ b u, H b = some u → b = a ∧ u = .frz ob (.lst (ns.map V.int)) := by
      intro b u e
      by_cases hb : b = a
      · have e' : (if b = a then some (HO.frz ob (.lst (ns.map V.int))) else none) = some u := e
        rw [if_pos hb] at e'
        exact ⟨hb, (Option.some.inj e').symm⟩
      · have e' : (if b = a then some (HO.frz ob (.lst (ns.map V.int))) else none) = some u := e
        rw [if_neg hb] at e'; cases e'
    refine law_at H (fun b u e => ?_) (.inl (.inr ⟨ob, atA⟩)) (fun b u e => ?_) KX hns hb hbb hlim hg ha hr F hbind hm
    · obtain ⟨rfl, rfl⟩ := onA b u e
      exact ⟨rfl, hk, _, _, rfl⟩
    · obtain ⟨rfl, rfl⟩ := onA b u e
      exact ⟨ha, by simpa using hl, vs, _, vi, ha⟩
  · obtain ⟨o, ho⟩ := Option.ne_none_iff_exists'.mp hk
    have eo := KX a o ho
    rw [ha] at eo
    cases eo
    have len := hi.length
    refine law_at (fun _ => none) (fun b u e => by cases e) (.inr ⟨_, vs.toArray, _, ho, rfl, rfl, rfl, ?_, by simpa using vi⟩) (fun b u e => ?_) KX hns hb hbb hlim hg ha hr F hbind hm
    · rw [List.size_toArray, len]; exact hl
    · have e' : (none : Option HO) = some u := e
      cases e'
end
/-- the goal that the head leaves -/
theorem walk_ev {l : PySem.W.OpenLaw} {n k : Nat} {q : Program} {loose : List Str} {XP : (Str → Option Value) → Heap → Prop} {YP : World → Heap → Prop} {d : DefRec} {x : Str} {m : List D → M D}
    (hn : l.most = some n) (hn2 : n ≤ sizeLine) (hdf : d.params.defaults = []) (hr : Room k callerA)
    (F : ∀ (w : World) (mg : Str → Option Value) (fa : Addr) (h : Heap), YP w h → h.Ns mainGlobals mg → mg d.name = some (.ref fa) →
      ∃ (K : PySem.W.Frag) (fd : FuncData), K.In h ∧ (∀ (s : Shared) (u : Value), BindsTo s fd ⟨[u], []⟩ [(x, u)]) ∧ ∀ base : Heap, K.In base → base.Ns mainGlobals mg → FnG l.prog w K mg base k fa fd [x] (spM K 1 m))
    (hm : ∀ ns : List Int, ns.length ≤ n → (∀ i ∈ ns, Builtin.Int.intBits i ≤ 1048576) → ∃ S, m [.scr ns] [] = .ok (.bl true) S) :
    PySem.W.WalkO q loose XP YP l.row.toRowW d [] (fun f vs => PySem.call f vs) := by
  refine Att.attach_callB hn hdf ?_
  intro w s0 s1 mg mb fa o pm cd doc a vs ns G Y _ _ _ hmg hobj hints hlen hbits hg
  obtain ⟨K, fd, KX, hb, hF⟩ := F w mg fa _ Y G.T.g hmg
  exact codeAny_mono (law_go KX G.T.g G.T.b G.T.builtins G.T.nolimit hg hobj hints (Nat.le_trans hlen hn2) hr hF hb (hm ns hlen hbits)) fun r s' ⟨⟨h1, h2⟩, h3, h4⟩ => ⟨h1, h2, h3, h4⟩
end Ev
/-! # what the evaluator's terms give: small laws for the mathematics -/
namespace Ev
open PySem L2
section
variable {S S1 S2 : Store} {i j : Int} {xs ys ds : List D} {δ : En} {m ma mb : ME} {d x y : D}
theorem pAdd_ii : pAdd (.int i) (.int j) S = some (.int (i + j), S) := rfl
theorem pSub_ii : pSub (.int i) (.int j) S = some (.int (i - j), S) := rfl
theorem pMul_ii (h : mulOk i j = true) : pMul (.int i) (.int j) S = some (.int (i * j), S) := by
  unfold pMul
  simp only [h, if_true]
theorem mul_l (h1 : -(2 ^ 64) < i) (h2 : i < 2 ^ 64) : mulOk i j = true := by
  unfold mulOk
  simp only [Bool.or_eq_true, decide_eq_true_eq]
  exact .inl ⟨h1, h2⟩
theorem mul_r (h1 : -(2 ^ 64) < j) (h2 : j < 2 ^ 64) : mulOk i j = true := by
  unfold mulOk
  simp only [Bool.or_eq_true, decide_eq_true_eq]
  exact .inr ⟨h1, h2⟩
theorem pMod_ii (h : 0 < j) : pMod (.int i) (.int j) S = some (.int (i % j), S) := by
  simp only [pMod, pInt2, h, decide_true, if_true]
theorem pFdiv_ii (h : 0 < j) (h2 : j < 1073741824) : pFdiv (.int i) (.int j) S = some (.int (i / j), S) := by
  simp only [pFdiv, pInt2, h, h2, and_self, decide_true, if_true]
theorem pLt_ii : pLt (.int i) (.int j) S = some (.bl (decide (i < j)), S) := rfl
theorem pLe_ii : pLe (.int i) (.int j) S = some (.bl (decide (i ≤ j)), S) := rfl
theorem pGt_ii : pGt (.int i) (.int j) S = some (.bl (decide (j < i)), S) := rfl
theorem pGe_ii : pGe (.int i) (.int j) S = some (.bl (decide (j ≤ i)), S) := rfl
theorem pEq_ii : pEq (.int i) (.int j) S = some (.bl (i == j), S) := by
  simp [pEq, eqD, toPS, PyData.depth, PyData.eqv]
theorem pNe_ss {a b : Str} : pNe (.str a) (.str b) S = some (.bl (!(a == b)), S) := by
  simp [pNe, eqD, toPS, PyData.depth, PyData.eqv]
theorem atI_nat {α : Type} {xs : List α} {k : Nat} (h : k < xs.length) : atI xs (k : Int) = some xs[k] := by
  have h0 : (0 : Int) ≤ k := Int.natCast_nonneg k
  have h1 : (k : Int) < (xs.length : Int) := by omega
  simp [atI, ixN, h0, h1, h]
theorem atI_zero {α : Type} {x : α} {xs : List α} : atI (x :: xs) 0 = some x := by simp [atI, ixN]
theorem pIx_lst {k : Nat} (h : k < xs.length) : pIx (.lst xs) (.int k) S = some (xs[k], S) := by
  simp only [pIx, seqOf, lstOf, Option.bind_some, atI_nat h, Option.map_some]
theorem pIx_tup {k : Nat} (h : k < xs.length) : pIx (.tup xs) (.int k) S = some (xs[k], S) := by
  simp only [pIx, seqOf, Option.bind_some, atI_nat h, Option.map_some]
theorem pIx_scr {ns : List Int} {k : Nat} (h : k < ns.length) : pIx (.scr ns) (.int k) S = some (.int ns[k], S) := by
  have h' : k < (ns.map D.int).length := by simpa using h
  simp only [pIx, seqOf, lstOf, Option.bind_some, atI_nat h', Option.map_some, List.getElem_map]
theorem pIx_ref {t k : Nat} (hS : S[t]? = some (some (.lst xs))) (h : k < xs.length) : pIx (.ref t) (.int k) S = some (xs[k], S) := by
  simp only [pIx, seqOf, lstOf, hS, Option.bind_some, atI_nat h, Option.map_some]
theorem pLen_lst : pLen [.lst xs] S = some (.int xs.length, S) := rfl
theorem pLen_tup : pLen [.tup xs] S = some (.int xs.length, S) := rfl
theorem pLen_scr {ns : List Int} : pLen [.scr ns] S = some (.int ns.length, S) := by simp [pLen, seqOf, lstOf]
theorem pLen_ref {t : Nat} (hS : S[t]? = some (some (.lst xs))) : pLen [.ref t] S = some (.int xs.length, S) := by simp [pLen, seqOf, lstOf, hS]
theorem pInt_i : pInt [.int i] S = some (.int i, S) := rfl
theorem pInt_b {b : Bool} : pInt [.bl b] S = some (.int (if b then 1 else 0), S) := rfl
theorem newL_ev (h : xs.length ≤ sizeLine) : newL xs S = some (.lst xs, S) := by simp only [newL, h, if_true]
theorem newT_ev (h : xs.length ≤ sizeLine) : newT xs S = some (.tup xs, S) := by simp only [newT, h, if_true]
theorem newC_ev (h : xs.length ≤ sizeLine) : newC xs S = some (.ref S.length, S ++ [some (.lst xs)]) := by simp only [newC, h, if_true]
/-! loops -/
theorem loop_inv {mg : TGM} {mb : MS} (P : Nat → En → Store → Prop) (h : ∀ k δ S, (hk : k < ds.length) → P k δ S → ∃ δ1 S1, mg ds[k] δ S = some (δ1, S1) ∧ ∃ δ2 S2, mb δ1 S1 = .nx δ2 S2 ∧ P (k + 1) δ2 S2) (h0 : P 0 δ S) :
    ∃ δ2 S2, loopF mg mb ds δ S = .nx δ2 S2 ∧ P ds.length δ2 S2 := by
  have key : ∀ (n k : Nat) (δ : En) (S : Store), k + n = ds.length → P k δ S → ∃ δ2 S2, loopF mg mb (ds.drop k) δ S = .nx δ2 S2 ∧ P ds.length δ2 S2 := by
    intro n
    induction n with
    | zero =>
      intro k δ S e p
      have : k = ds.length := by omega
      subst this
      rw [List.drop_length]
      exact ⟨δ, S, rfl, p⟩
    | succ n ih =>
      intro k δ S e p
      have hk : k < ds.length := by omega
      obtain ⟨δ1, S1, e1, δ2, S2, e2, p2⟩ := h k δ S hk p
      obtain ⟨δ3, S3, e3, p3⟩ := ih (k + 1) δ2 S2 (by omega) p2
      refine ⟨δ3, S3, ?_, p3⟩
      rw [List.drop_eq_getElem_cons hk]
      simp only [loopF, e1, e2]
      exact e3
  exact key ds.length 0 δ S (by omega) h0
theorem rng_len {n : Nat} : (rngD 0 n).length = n := by simp [rngD]
theorem rng_get {n k : Nat} (h : k < (rngD 0 n).length) : (rngD 0 n)[k] = .int k := by simp [rngD]
/-! comprehensions -/
/-- the store may change: the invariant by what has been made -/
theorem lc_inv {up : UpD} {mt : MT} {me : ME} {δ0 : En} (P : Nat → List D → Store → Prop)
    (h : ∀ k acc S, (hk : k < ds.length) → P k acc S → ∃ us, up ds[k] = some us ∧ ((∃ S1, mt (setsD δ0 us) S = .ok false S1 ∧ P (k + 1) acc S1) ∨ ∃ S1, mt (setsD δ0 us) S = .ok true S1 ∧ ∃ y S2, me (setsD δ0 us) S1 = .ok y S2 ∧ acc.length < sizeLine ∧ P (k + 1) (acc ++ [y]) S2)) (h0 : P 0 [] S) :
    ∃ ys S2, loopC up mt me δ0 ds [] S = .ok ys S2 ∧ P ds.length ys S2 := by
  have key : ∀ (n k : Nat) (acc : List D) (S : Store), k + n = ds.length → P k acc S → ∃ ys S2, loopC up mt me δ0 (ds.drop k) acc S = .ok ys S2 ∧ P ds.length ys S2 := by
    intro n
    induction n with
    | zero =>
      intro k acc S e p
      have : k = ds.length := by omega
      subst this
      rw [List.drop_length]
      exact ⟨acc, S, rfl, p⟩
    | succ n ih =>
      intro k acc S e p
      have hk : k < ds.length := by omega
      obtain ⟨us, e1, h1⟩ := h k acc S hk p
      rw [List.drop_eq_getElem_cons hk]
      rcases h1 with ⟨S1, e2, p2⟩ | ⟨S1, e2, y, S2, e3, hl, p2⟩
      · obtain ⟨ys, S3, e4, p3⟩ := ih (k + 1) acc S1 (by omega) p2
        refine ⟨ys, S3, ?_, p3⟩
        simp only [loopC, e1, M.bind, noX, e2]
        exact e4
      · obtain ⟨ys, S3, e4, p3⟩ := ih (k + 1) (acc ++ [y]) S2 (by omega) p2
        refine ⟨ys, S3, ?_, p3⟩
        simp only [loopC, e1, M.bind, noX, e2, e3, hl, if_true]
        exact e4
  exact key ds.length 0 [] S (by omega) h0
/-- nothing changes, all are taken -/
theorem lc_map {me : ME} {δ0 : En} {k : Nat} (f : D → D) (hl : ds.length ≤ sizeLine) (h : ∀ d ∈ ds, me (δ0.set k (some d)) S = .ok (f d) S) : loopC (uNm k) tYesM me δ0 ds [] S = .ok (ds.map f) S := by
  obtain ⟨ys, S2, e, p1, p2⟩ := lc_inv (up := uNm k) (mt := tYesM) (me := me) (δ0 := δ0) (ds := ds) (S := S) (fun n acc S' => acc = (ds.take n).map f ∧ S' = S) (by
    rintro n acc S' hn ⟨rfl, rfl⟩
    refine ⟨_, rfl, .inr ⟨S', rfl, f ds[n], S', h _ (List.getElem_mem hn), by simp; omega, ?_, rfl⟩⟩
    rw [List.take_succ_eq_append_getElem hn, List.map_append]; rfl) ⟨rfl, rfl⟩
  subst p2
  rw [e, p1, List.take_length]
/-- .. a test chooses -/
theorem lc_filter {mt : MT} {me : ME} {δ0 : En} {k : Nat} (p : D → Bool) (f : D → D) (hl : ds.length ≤ sizeLine) (h1 : ∀ d ∈ ds, mt (δ0.set k (some d)) S = .ok (p d) S) (h : ∀ d ∈ ds, p d = true → me (δ0.set k (some d)) S = .ok (f d) S) : loopC (uNm k) mt me δ0 ds [] S = .ok ((ds.filter p).map f) S := by
  obtain ⟨ys, S2, e, p1, p2⟩ := lc_inv (up := uNm k) (mt := mt) (me := me) (δ0 := δ0) (ds := ds) (S := S) (fun n acc S' => acc = ((ds.take n).filter p).map f ∧ S' = S) (by
    rintro n acc S' hn ⟨rfl, rfl⟩
    refine ⟨_, rfl, ?_⟩
    have hm := List.getElem_mem hn
    have e1 := h1 _ hm
    rw [List.take_succ_eq_append_getElem hn, List.filter_append, List.map_append]
    cases hp : p ds[n] with
    | false => exact .inl ⟨S', by rw [hp] at e1; exact e1, by simp [hp], rfl⟩
    | true =>
      refine .inr ⟨S', by rw [hp] at e1; exact e1, f ds[n], S', h _ hm hp, ?_, by simp [hp], rfl⟩
      have := List.length_filter_le p (ds.take n)
      simp at this ⊢; omega) ⟨rfl, rfl⟩
  subst p2
  rw [e, p1, List.take_length]
/-! ### step by step -/
section
variable {S3 : Store} {z : D} {f f' : D → D → PO} {g : List D → PO} {mas : MA} {fm : List D → M D} {tc ta tb : MT} {b : Bool} {md : M D} {rd : Res D} {rb : Res Bool} {fin : List D → PO} {mi : MA} {up : UpD} {me : ME} {vs : List Nat} {mc : ME}
theorem eOp_ok (ha : ma δ S = .ok x S1) (hb : mb δ S1 = .ok y S2) (hf : f x y S2 = some (z, S3)) : eOp f ma mb δ S = .ok z S3 := by simp only [eOp, M.bind, ha, hb, lft, hf]
theorem eUn_ok {f : D → PO} (ha : ma δ S = .ok x S1) (hf : f x S1 = some (z, S2)) : eUn f ma δ S = .ok z S2 := by simp only [eUn, M.bind, ha, lft, hf]
theorem eCallV_ok (ha : mas δ S = .ok xs S1) (hf : g xs S1 = some (z, S2)) : eCallV g mas δ S = .ok z S2 := by simp only [eCallV, M.bind, ha, lft, hf]
theorem eCal_ok (ha : mas δ S = .ok xs S1) (hf : fm xs S1 = rd) : eCal fm mas δ S = rd := by simp only [eCal, M.bind, ha, hf]
theorem aCons_ok (ha : ma δ S = .ok x S1) (hb : mas δ S1 = .ok xs S2) : aCons ma mas δ S = .ok (x :: xs) S2 := by simp only [aCons, M.bind, ha, hb, M.pure]
theorem eTup_ok (ha : mas δ S = .ok xs S1) (hl : xs.length ≤ sizeLine) : eTup mas δ S = .ok (.tup xs) S1 := by simp only [eTup, M.bind, ha, lft, newT_ev hl]
theorem eLst_ok (ha : mas δ S = .ok xs S1) (hl : xs.length ≤ sizeLine) : eLst mas δ S = .ok (.lst xs) S1 := by simp only [eLst, M.bind, ha, lft, newL_ev hl]
theorem eLstC_ok (ha : mas δ S = .ok xs S1) (hl : xs.length ≤ sizeLine) : eLstC mas δ S = .ok (.ref S1.length) (S1 ++ [some (.lst xs)]) := by simp only [eLstC, M.bind, ha, lft, newC_ev hl]
theorem asB_ok (h : md S = .ok (.bl b) S1) : asB md S = .ok b S1 := by simp only [asB, M.bind, h, M.pure]
theorem tru_ok (h : md S = .ok d S1) (ht : truD S1 d = some b) : tru md S = .ok b S1 := by simp only [tru, M.bind, h, ht]
theorem tNot_ok (h : ta δ S = .ok b S1) : tNotM ta δ S = .ok (!b) S1 := by simp only [tNotM, M.bind, h, M.pure]
theorem tOr_t (h : ta δ S = .ok true S1) : tOrM ta tb δ S = .ok true S1 := by simp only [tOrM, M.bind, h, cond_true, M.pure]
theorem tOr_f (h : ta δ S = .ok false S1) (h2 : tb δ S1 = rb) : tOrM ta tb δ S = rb := by simp only [tOrM, M.bind, h, cond_false, h2]
theorem tAnd_t (h : ta δ S = .ok true S1) (h2 : tb δ S1 = rb) : tAndM ta tb δ S = rb := by simp only [tAndM, M.bind, h, cond_true, h2]
theorem tAnd_f (h : ta δ S = .ok false S1) : tAndM ta tb δ S = .ok false S1 := by simp only [tAndM, M.bind, h, cond_false, M.pure]
theorem eIf_t (h : tc δ S = .ok true S1) (h2 : ma δ S1 = rd) : eIf tc ma mb δ S = rd := by simp only [eIf, M.bind, h, cond_true, h2]
theorem eIf_f (h : tc δ S = .ok false S1) (h2 : mb δ S1 = rd) : eIf tc ma mb δ S = rd := by simp only [eIf, M.bind, h, cond_false, h2]
theorem eAnd_t (h : ma δ S = .ok x S1) (ht : truD S1 x = some true) (h2 : mb δ S1 = rd) : eAnd ma mb δ S = rd := by simp only [eAnd, M.bind, h, ht, h2]
theorem eAnd_f (h : ma δ S = .ok x S1) (ht : truD S1 x = some false) : eAnd ma mb δ S = .ok x S1 := by simp only [eAnd, M.bind, h, ht]
theorem eOr_t (h : ma δ S = .ok x S1) (ht : truD S1 x = some true) : eOr ma mb δ S = .ok x S1 := by simp only [eOr, M.bind, h, ht]
theorem eOr_f (h : ma δ S = .ok x S1) (ht : truD S1 x = some false) (h2 : mb δ S1 = rd) : eOr ma mb δ S = rd := by simp only [eOr, M.bind, h, ht, h2]
theorem eNot_ok (h : ma δ S = .ok x S1) (ht : truD S1 x = some b) : eNot ma δ S = .ok (.bl (!b)) S1 := by simp only [eNot, M.bind, tru, h, ht, M.pure]
theorem eChain_t (ha : ma δ S = .ok x S1) (hb : mb δ S1 = .ok y S2) (hf : f x y S2 = some (.bl true, S2)) (hc : mc δ S2 = .ok z S3) {u : D} {S4 : Store} (hf2 : f' y z S3 = some (u, S4)) : eChain f f' ma mb mc δ S = .ok u S4 := by
  simp only [eChain, M.bind, ha, hb, lft, hf, hc, hf2]
theorem eChain_f (ha : ma δ S = .ok x S1) (hb : mb δ S1 = .ok y S2) (hf : f x y S2 = some (.bl false, S2)) : eChain f f' ma mb mc δ S = .ok (.bl false) S2 := by
  simp only [eChain, M.bind, ha, hb, lft, hf, M.pure]
theorem eLc_ok {mt : MT} (hi : mi δ S = .ok ds S1) (hl : loopC up mt me (wipeD δ vs) ds [] S1 = .ok ys S2) (hf : fin ys S2 = some (z, S3)) : eLc fin mi up mt me vs δ S = .ok z S3 := by simp only [eLc, M.bind, hi, hl, lft, hf]
theorem eMB_ok {T : String} {f : D → List D → PO} {mo : ME} (ho : mo δ S = .ok x S1) (ht : tyD T S1 x = true) (ha : mas δ S1 = .ok xs S2) (hf : f x xs S2 = some (z, S3)) : eMB T f mo mas δ S = .ok z S3 := by simp only [eMB, M.bind, ho, ht, if_true, ha, lft, hf]
theorem eFld_ok {okf : Str → Bool} {fl c : Str} {fs : List (Str × D)} {mo : ME} (ho : mo δ S = .ok x S1) (hc : clsOf S1 x = some (c, fs)) (hk : okf c = true) (hl : fs.lookup fl = some d) : eFld okf fl mo δ S = .ok d S1 := by simp only [eFld, M.bind, ho, hc, hk, if_true, hl]
theorem eIsi_ok {isi : Ty → Ty → Option Bool} {c t : Ty} {mo : ME} (ho : mo δ S = .ok x S1) (ht : tyOf S1 x = some t) (hi : isi t c = some b) : eIsi isi c mo δ S = .ok (.bl b) S1 := by simp only [eIsi, M.bind, ho, ht, Option.bind_some, hi]
theorem eFrz_ok (h : ma δ S = .ok x S1) (hf : frzD 4 x S1 = some (z, S2)) : eFrz ma δ S = .ok z S2 := by simp only [eFrz, M.bind, h, lft, hf]
theorem eRev_ok (h : ma δ S = .ok (.lst xs) S1) (hl : xs.length ≤ sizeLine) : eRev ma δ S = .ok (.lst xs.reverse) S1 := by
  have hl' : xs.reverse.length ≤ sizeLine := by simpa using hl
  simp only [eRev, M.bind, h, lft, pRev, lstOf, newL_ev hl']
theorem iAny_ok (h : ma δ S = .ok x S1) (ha : anyOf x = some xs) : iAny ma δ S = .ok xs S1 := by simp only [iAny, M.bind, h, ha]
theorem iR1_ok {k : Nat} (h : mas δ S = .ok [.int k] S1) (hk : k < 4611686018427387904) : iR1 mas δ S = .ok (rngD 0 k) S1 := by
  have hr : -(2 ^ 62) ≤ (k : Int) ∧ (k : Int) < 2 ^ 62 := by omega
  simp only [iR1, M.bind, h]
  rw [if_pos hr, Int.toNat_natCast]
theorem iZip_ok {zs : List D} (h : mas δ S = .ok xs S1) (hz : pZip xs = some zs) : iZip mas δ S = .ok zs S1 := by simp only [iZip, M.bind, h, hz]
theorem aStar_ok (ha : ma δ S = .ok x S1) (hs : seqOf S1 x = some xs) (hb : mas δ S1 = .ok ys S2) : aStar ma mas δ S = .ok (xs ++ ys) S2 := by simp only [aStar, M.bind, ha, hs, hb, M.pure]
variable {ms mt : MS} {mg : TGM} {δ1 δ2 : En} {rf : Fl}
theorem sAsg_ok (h : ma δ S = .ok d S1) (hg : mg d δ S1 = some (δ2, S2)) : sAsg ma mg δ S = .nx δ2 S2 := by simp only [sAsg, ofE, h, hg]
theorem sRet_ok (h : ma δ S = .ok d S1) : sRet ma δ S = .rt d S1 := by simp only [sRet, ofE, h]
theorem sExpr_ok (h : ma δ S = .ok d S1) : sExpr ma δ S = .nx δ S1 := by simp only [sExpr, ofE, h]
theorem sIf_t (h : tc δ S = .ok true S1) (h2 : ms δ S1 = rf) : sIf tc ms mt δ S = rf := by simp only [sIf, ofE, h, cond_true, h2]
theorem sIf_f (h : tc δ S = .ok false S1) (h2 : mt δ S1 = rf) : sIf tc ms mt δ S = rf := by simp only [sIf, ofE, h, cond_false, h2]
theorem sSeq_nx (h : ms δ S = .nx δ1 S1) (h2 : mt δ1 S1 = rf) : sSeq ms mt δ S = rf := by simp only [sSeq, h, h2]
theorem sSeq_rt (h : ms δ S = .rt d S1) : sSeq ms mt δ S = .rt d S1 := by simp only [sSeq, h]
theorem sFor_ok (hi : mi δ S = .ok ds S1) (hl : loopF mg ms ds δ S1 = rf) : sFor mi mg ms δ S = rf := by simp only [sFor, ofE, hi, hl]
theorem sPar2_ok {i j : Nat} (h : mas δ S = .ok [x, y] S1) : sPar2 i j mas δ S = .nx ((δ.set i (some x)).set j (some y)) S1 := by simp only [sPar2, ofE, h]
theorem funM_rt {nN n : Nat} (hl : ds.length = n) (h : ms (startD nN ds) S = .rt d S1) : funM nN n ms ds S = .ok d S1 := by simp only [funM, hl, if_true, h]
theorem iOrd_nx {mI : MI} {fs : List (Str × D)} {rI : FlI} (h : ms δ S = .nx δ1 S1) (h2 : mI δ1 fs S1 = rI) : iOrd ms mI δ fs S = rI := by simp only [iOrd, h, h2]
theorem iSets_ok {mI : MI} {ps : List Str} {fs fs' : List (Str × D)} {rI : FlI} (h : ma δ S = .ok (.tup ds) S1) (hs : isSlf δ = true) (hp : putAll ps ds fs = some fs') (h2 : mI δ fs' S1 = rI) : iSets ma ps mI δ fs S = rI := by simp only [iSets, h, hs, if_true, hp, h2]
theorem initM_ok {nN n : Nat} {mI : MI} {δ' : En} {fs : List (Str × D)} (hl : ds.length = n) (h : mI (some .slf :: startD (nN - 1) ds) [] S = .nx δ' fs S1) : initM nN n mI ds S = .ok fs S1 := by simp only [initM, hl, if_true, h]
theorem gTp2_ok {g1 g2 : TGM} (h1 : g1 x δ S = some (δ1, S1)) (h2 : g2 y δ1 S1 = some (δ2, S2)) : gTp 2 (gCs g1 (gCs g2 gNl)) (.tup [x, y]) δ S = some (δ2, S2) := by
  simp only [gTp, List.length_cons, List.length_nil, gCs, h1, h2, Option.bind_some, gNl]
  rfl
theorem gSb_ok {fp : PSt} {mo mi : ME} {S4 : Store} (ho : mo δ S = .ok x S1) (hi : mi δ S1 = .ok y S2) (hf : fp x y d S2 = some S4) : gSb fp mo mi d δ S = some (δ, S4) := by
  simp only [gSb, toO, ho, hi, Option.bind_some, hf, Option.map_some]
end
end
end Ev
namespace Lw
open PySem PySem.Spec PySem.SeqAt PyProof.Rows L2 Ev
def top (i : Nat) : Stmt := PySem.Challenge.pw_oddrings_k02_tables_made.main.body.getD i (.Pass ⟨0, 0, 0, 0⟩)
def ok_height (c : Str) : Bool := c == "Table"
def ok_rows (c : Str) : Bool := c == "Table"
def ok_text (c : Str) : Bool := c == "Table"
def ok_width (c : Str) : Bool := c == "Table"
def ok_bool (c : Str) : Bool := c == "Table"
def strT (cal : Nat → List D → M D) (c : Str) : Option (List D → M D) := if c = "Table" then some (cal 9) else none
def isi (t c : Ty) : Option Bool := if t = c then (match t with
  | .blt _ => some true
  | .own _ => none) else none
def b_law (cal : Nat → List D → M D) : MS :=
    (sSeq (sAsg (eLst aNil) (gNm 1))
    (sSeq (sFor (iR1 (aCons (eCallV (pMax) (aCons (eC (.int 2)) (aCons (eCallV (pMin) (aCons (eCallV (pLen) (aCons (eVar 0) aNil)) (aCons (eC (.int 6)) aNil))) aNil))) aNil)) (gNm 2) (sSeq (sAsg (eCal (cal 5) (aCons (eVar 0) (aCons (eVar 2) aNil))) (gNm 3))
    (sFor (iR1 (aCons (eC (.int 4)) aNil)) (gNm 4) (sSeq (sAsg (eCal (cal 4) (aCons (eVar 3) (aCons (eOp pAdd (eC (.int 1)) (eCal (cal 3) (aCons (eVar 3) (aCons (eC (.int 8)) aNil)))) (aCons (eOp pAdd (eC (.int 1)) (eCal (cal 3) (aCons (eVar 3) (aCons (eC (.int 8)) aNil)))) aNil)))) (gNm 5))
    (sSeq (sAsg (eCal (cal 2) (aCons (eVar 5) aNil)) (gNm 6))
    (sSeq (sAsg (eLst (aCons (eVar 6) (aCons (eCallV pTuple (aCons (eLc newL (iAny (eVar 5)) (uNm 8) tYesM (eCallV pTuple (aCons (eVar 8) aNil)) [8]) aNil)) (aCons (eCallV (pLen) (aCons (eVar 5) aNil)) (aCons (eCallV (pLen) (aCons (eOp pIx (eVar 5) (eC (.int 0))) aNil)) aNil))))) (gNm 7))
    (sSeq (sAsg (eOp pAdd (eVar 7) (eLst (aCons (eVar 6) (aCons (eC (.bl true)) aNil)))) (gNm 7))
    (sAsg (eOp pAdd (eVar 1) (eLst (aCons (eTup (aCons (eCal (cal 1) (aCons (eVar 6) aNil)) (aCons (eVar 7) aNil))) (aCons (eTup (aCons (eCal (cal 1) (aCons (eVar 6) aNil)) (aCons (eVar 7) aNil))) aNil)))) (gNm 1)))))))))
    (sSeq (sFor (iAny (eOp pAdd (eVar 1) (eRev (eVar 1)))) (gTp 2 (gCs (gNm 9) (gCs (gNm 7) gNl))) (sIf (fun δ => asB (eOp pNe (eCallV (pRepr) (aCons (eCal (cal 0) (aCons (eVar 9) aNil)) aNil)) (eCallV (pRepr) (aCons (eVar 7) aNil)) δ)) (sRet (eC (.bl false))) sNext))
    (sRet (eC (.bl true))))))
def b__law_told (cal : Nat → List D → M D) : MS :=
    (sRet (eLst (aCons (eFld ok_text "text" (eVar 0)) (aCons (eFld ok_rows "rows" (eVar 0)) (aCons (eFld ok_height "height" (eVar 0)) (aCons (eFld ok_width "width" (eVar 0)) (aCons (eCallV (pStrI (strT cal)) (aCons (eVar 0) aNil)) (aCons (eCallV (pBool ok_bool) (aCons (eVar 0) aNil)) aNil))))))))
def b_Table (cal : Nat → List D → M D) : MI :=
    (iOrd (sAsg (eCal (cal 6) (aCons (eVar 1) aNil)) (gNm 2))
    (iOrd (sIf (fun δ => asB (eOp pIs (eVar 2) (eC .non) δ)) (fun _ _ => .bad) sNext)
    (iSets (eTup (aCons (eVar 1) (aCons (eVar 2) aNil))) ["text", "rows"]
    (iSets (eTup (aCons (eCallV (pLen) (aCons (eVar 2) aNil)) (aCons (eCallV (pLen) (aCons (eOp pIx (eVar 2) (eC (.int 0))) aNil)) aNil))) ["height", "width"]
    iEnd))))
def b__law_text (cal : Nat → List D → M D) : MS :=
    (sRet (eMB "str" pJoin (eC (.str "\n")) (aCons (eLc newL (iAny (eVar 0)) (uNm 2) tYesM (eMB "str" pJoin (eC (.str "")) (aCons (eLc newL (iAny (eVar 2)) (uNm 1) tYesM (eCallV (pStrI (strT cal)) (aCons (eVar 1) aNil)) [1]) aNil)) [2]) aNil)))
def b__law_rows (cal : Nat → List D → M D) : MS :=
    (sSeq (sAsg (eOp pAdd (eC (.int 1)) (eCal (cal 3) (aCons (eVar 0) (aCons (eC (.int 3)) aNil)))) (gNm 3))
    (sSeq (sAsg (eLc newL (iR1 (aCons (eVar 1) aNil)) (uNm 6) tYesM (eLc newL (iR1 (aCons (eVar 2) aNil)) (uNm 5) tYesM (eCallV pInt (aCons (eOp pLt (eCal (cal 3) (aCons (eVar 0) (aCons (eC (.int 4)) aNil))) (eVar 3)) aNil)) [5]) [6]) (gNm 4))
    (sRet (eCal (cal 7) (aCons (eVar 0) (aCons (eVar 4) aNil))))))
def b__law_take (cal : Nat → List D → M D) : MS :=
    (sSeq (sIf (fun δ => asB (eOp pGt (eOp pIx (eVar 0) (eC (.int 0))) (eC (.int 0)) δ)) (sSeq (sAsg (eCallV (pDivmod) (aCons (eOp pIx (eVar 0) (eC (.int 0))) (aCons (eVar 1) aNil))) (gTp 2 (gCs (gSb pStore (eVar 0) (eC (.int 0))) (gCs (gNm 2) gNl))))
    (sRet (eVar 2))) sNext)
    (sSeq (sAsg (eOp pAdd (eOp pIx (eVar 0) (eC (.int 2))) (eC (.int 1))) (gSb pStore (eVar 0) (eC (.int 2))))
    (sSeq (sAsg (eOp pMod (eCallV pInt (aCons (eOp pAdd (eOp pAdd (eOp pMul (eOp pIx (eVar 0) (eC (.int 1))) (eOp pAdd (eOp pMod (eCallV pInt (aCons (eOp pFdiv (eOp pIx (eVar 0) (eC (.int 1))) (eC (.int 64))) aNil)) (eC (.int 26003))) (eC (.int 23)))) (eOp pMul (eC (.int 18013)) (eOp pIx (eVar 0) (eC (.int 2))))) (eC (.int 11))) aNil)) (eC (.int 2147483323))) (gSb pStore (eVar 0) (eC (.int 1))))
    (sRet (eOp pMod (eCallV pInt (aCons (eOp pFdiv (eOp pIx (eVar 0) (eC (.int 1))) (eC (.int 1024))) aNil)) (eVar 1))))))
def b__law_tray (cal : Nat → List D → M D) : MS :=
    (sSeq (sPar2 2 3 (aCons (eIf (fun δ => asB (eOp pLt (eVar 1) (eCallV (pLen) (aCons (eVar 0) aNil)) δ)) (eOp pIx (eVar 0) (eVar 1)) (eC (.int 0))) (aCons (eOp pAdd (eC (.int 173205)) (eOp pMul (eC (.int 80021)) (eVar 1))) aNil)))
    (sSeq (sFor (iR1 (aCons (eCallV (pMin) (aCons (eCallV (pLen) (aCons (eVar 0) aNil)) (aCons (eC (.int 9)) aNil))) aNil)) (gNm 4) (sAsg (eOp pMod (eCallV pInt (aCons (eOp pAdd (eOp pAdd (eOp pMul (eVar 3) (eOp pAdd (eC (.int 30011)) (eOp pMul (eC (.int 2)) (eVar 4)))) (eOp pMul (eC (.int 13)) (eOp pIx (eVar 0) (eVar 4)))) (eC (.int 8009))) aNil)) (eC (.int 2147483323))) (gNm 3)))
    (sRet (eLstC (aCons (eIf (tOrM (fun δ => asB (eOp pLt (eVar 2) (eC (.int 0)) δ)) (fun δ => asB (eOp pGe (eVar 2) (eOp pPow (eC (.int 10)) (eC (.int 18))) δ))) (eCallV (pAbs) (aCons (eVar 2) aNil)) (eC (.int 0))) (aCons (eOp pMod (eCallV pInt (aCons (eOp pAdd (eOp pMul (eVar 3) (eC (.int 5))) (eOp pMul (eVar 2) (eC (.int 6007)))) aNil)) (eC (.int 2147483323))) (aCons (eC (.int 3)) aNil)))))))
def b_Table___str__ (cal : Nat → List D → M D) : MS :=
    (sRet (eCallV (pStrI (strT cal)) (aCons (eFld ok_text "text" (eVar 0)) aNil)))
def b_read_rows (cal : Nat → List D → M D) : MS :=
    (sSeq (sIf (tNotM (fun δ => tru ((eIsi isi (.blt "str") (eVar 0)) δ))) (sRet (eC .non)) sNext)
    (sSeq (sAsg (eMB "str" pSplit (eVar 0) (aCons (eC (.str "\n")) aNil)) (gNm 1))
    (sSeq (sIf (tOrM (fun δ => asB (eOp pGt (eCallV (pLen) (aCons (eVar 1) aNil)) (eC (.int 8)) δ)) (tNotM (fun δ => asB ((eChain pLe pLe (eC (.int 1)) (eCallV (pLen) (aCons (eOp pIx (eVar 1) (eC (.int 0))) aNil)) (eC (.int 8))) δ)))) (sRet (eC .non)) sNext)
    (sSeq (sIf (tNotM (fun δ => tru ((eCallV (pAll true) (aCons (eLc newL (iAny (eVar 1)) (uNm 3) tYesM (eAnd (eOp pEq (eCallV (pLen) (aCons (eVar 3) aNil)) (eCallV (pLen) (aCons (eOp pIx (eVar 1) (eC (.int 0))) aNil))) (eCallV (pAll true) (aCons (eLc newL (iAny (eVar 3)) (uNm 2) tYesM (eOp pIn (eVar 2) (eC (.str "01"))) [2]) aNil))) [3]) aNil)) δ))) (sRet (eC .non)) sNext)
    (sSeq (sAsg (eCallV pTuple (aCons (eLc newL (iAny (eVar 1)) (uNm 3) tYesM (eCallV pTuple (aCons (eLc newL (iAny (eVar 3)) (uNm 2) tYesM (eCallV pInt (aCons (eVar 2) aNil)) [2]) aNil)) [3]) aNil)) (gNm 4))
    (sRet (eIf (fun δ => tru ((eCal (cal 8) (aCons (eVar 4) aNil)) δ)) (eVar 4) (eC .non))))))))
def b__law_filled (cal : Nat → List D → M D) : MS :=
    (sSeq (sAsg (eLc newL (iAny (eVar 1)) (uNm 3) tYesM (eCallV (pList newC) (aCons (eVar 3) aNil)) [3]) (gNm 2))
    (sSeq (sFor (iAny (eVar 2)) (gNm 3) (sIf (fun δ => asB (eOp pNotIn (eC (.int 1)) (eVar 3) δ)) (sAsg (eC (.int 1)) (gSb pStore (eVar 3) (eCal (cal 3) (aCons (eVar 0) (aCons (eCallV (pLen) (aCons (eVar 3) aNil)) aNil))))) sNext))
    (sSeq (sFor (iR1 (aCons (eCallV (pLen) (aCons (eOp pIx (eVar 2) (eC (.int 0))) aNil)) aNil)) (gNm 4) (sIf (fun δ => asB (eOp pEq (eLc newL (iAny (eVar 2)) (uNm 3) (fun δ => asB (eOp pEq (eOp pIx (eVar 3) (eVar 4)) (eC (.int 1)) δ)) (eVar 3) [3]) (eLst aNil) δ)) (sAsg (eC (.int 1)) (gSb pStore (eOp pIx (eVar 2) (eCal (cal 3) (aCons (eVar 0) (aCons (eCallV (pLen) (aCons (eVar 2) aNil)) aNil)))) (eVar 4))) sNext))
    (sRet (eFrz (eVar 2))))))
def b_is_full (cal : Nat → List D → M D) : MS :=
    (sRet (eAnd (eOp pGt (eCallV (pLen) (aCons (eVar 0) aNil)) (eC (.int 0))) (eAnd (eCallV (pAll true) (aCons (eLc newL (iAny (eVar 0)) (uNm 1) tYesM (eOp pIn (eC (.int 1)) (eVar 1)) [1]) aNil)) (eCallV (pAll true) (aCons (eLc newL (iZip (aStar (eVar 0) aNil)) (uNm 2) tYesM (eOp pIn (eC (.int 1)) (eVar 2)) [2]) aNil)))))
def calF (cal : Nat → List D → M D) (i : Nat) : List D → M D :=
  if i = 10 then funM 10 1 (b_law cal) else
  if i = 0 then funM 1 1 (b__law_told cal) else
  if i = 1 then (fun ds => M.bind (initM 3 1 (b_Table cal) ds) fun fs => M.pure (.ins "Table" fs)) else
  if i = 2 then funM 3 1 (b__law_text cal) else
  if i = 4 then funM 7 3 (b__law_rows cal) else
  if i = 3 then funM 3 2 (b__law_take cal) else
  if i = 5 then funM 5 2 (b__law_tray cal) else
  if i = 9 then funM 1 1 (b_Table___str__ cal) else
  if i = 6 then funM 5 1 (b_read_rows cal) else
  if i = 7 then funM 5 2 (b__law_filled cal) else
  if i = 8 then funM 3 1 (b_is_full cal) else
  fun _ _ => .bad
def callN : Nat → Nat → List D → M D
  | 0 => fun _ _ _ => .bad
  | n + 1 => calF (callN n)
/-- what the module holds -/
structure Fc (K : PySem.W.Frag) (mg : Str → Option Value) : Prop where
  b_abs : mg "abs" = none
  b_all : mg "all" = none
  b_bool : mg "bool" = none
  b_divmod : mg "divmod" = none
  b_int : mg "int" = none
  b_isinstance : mg "isinstance" = none
  b_len : mg "len" = none
  b_list : mg "list" = none
  b_max : mg "max" = none
  b_min : mg "min" = none
  b_range : mg "range" = none
  b_repr : mg "repr" = none
  b_str : mg "str" = none
  b_tuple : mg "tuple" = none
  b_zip : mg "zip" = none
  c_MOST_COLUMNS : ∃ t, mg "MOST_COLUMNS" = some (.int 8 t)
  c_MOST_ROWS : ∃ t, mg "MOST_ROWS" = some (.int 8 t)
  g_law : mg "law" = some (.ref (He.ga K "law"))
  k_law : PySem.W.keepIn K (.ref (He.ga K "law")) = true
  g__law_told : mg "_law_told" = some (.ref (He.ga K "_law_told"))
  k__law_told : PySem.W.keepIn K (.ref (He.ga K "_law_told")) = true
  g_Table : mg "Table" = some (.ref (He.ga K "Table"))
  k_Table : PySem.W.keepIn K (.ref (He.ga K "Table")) = true
  mk_Table : Mk K (He.ga K "Table") (He.ma K (He.ga K "Table") "__init__")
  g__law_text : mg "_law_text" = some (.ref (He.ga K "_law_text"))
  k__law_text : PySem.W.keepIn K (.ref (He.ga K "_law_text")) = true
  g__law_rows : mg "_law_rows" = some (.ref (He.ga K "_law_rows"))
  k__law_rows : PySem.W.keepIn K (.ref (He.ga K "_law_rows")) = true
  g__law_take : mg "_law_take" = some (.ref (He.ga K "_law_take"))
  k__law_take : PySem.W.keepIn K (.ref (He.ga K "_law_take")) = true
  g__law_tray : mg "_law_tray" = some (.ref (He.ga K "_law_tray"))
  k__law_tray : PySem.W.keepIn K (.ref (He.ga K "_law_tray")) = true
  g_read_rows : mg "read_rows" = some (.ref (He.ga K "read_rows"))
  k_read_rows : PySem.W.keepIn K (.ref (He.ga K "read_rows")) = true
  g__law_filled : mg "_law_filled" = some (.ref (He.ga K "_law_filled"))
  k__law_filled : PySem.W.keepIn K (.ref (He.ga K "_law_filled")) = true
  g_is_full : mg "is_full" = some (.ref (He.ga K "is_full"))
  k_is_full : PySem.W.keepIn K (.ref (He.ga K "is_full")) = true
  ok_height : ∀ c, Lw.ok_height c = true → Cls K (He.ga K c) ∧ NoAttr K (He.ga K c) "height"
  ok_rows : ∀ c, Lw.ok_rows c = true → Cls K (He.ga K c) ∧ NoAttr K (He.ga K c) "rows"
  ok_text : ∀ c, Lw.ok_text c = true → Cls K (He.ga K c) ∧ NoAttr K (He.ga K c) "text"
  ok_width : ∀ c, Lw.ok_width c = true → Cls K (He.ga K c) ∧ NoAttr K (He.ga K c) "width"
  ok_bool : ∀ c, Lw.ok_bool c = true → NoAttr K (He.ga K c) "__bool__" ∧ NoAttr K (He.ga K c) "__len__"
  isi : IsiOk K Lw.isi
  me_Table___str__ : Meth K (He.ga K "Table") "__str__" (He.ma K (He.ga K "Table") "__str__")
  d_law : ∃ fd, FunD K "law" "law" (defArgs (top 18)) (defBody (top 18)) (defScope (top 18)) [] [] (He.ga K "law") fd
  d__law_told : ∃ fd, FunD K "_law_told" "_law_told" (defArgs (top 17)) (defBody (top 17)) (defScope (top 17)) [] [] (He.ga K "_law_told") fd
  d_Table : ∃ fd, FunD K "__init__" "Table.__init__" (defArgs (inClass (top 9) 0)) (defBody (inClass (top 9) 0)) (defScope (inClass (top 9) 0)) [] [] (He.ma K (He.ga K "Table") "__init__") fd
  d__law_text : ∃ fd, FunD K "_law_text" "_law_text" (defArgs (top 15)) (defBody (top 15)) (defScope (top 15)) [] [] (He.ga K "_law_text") fd
  d__law_rows : ∃ fd, FunD K "_law_rows" "_law_rows" (defArgs (top 14)) (defBody (top 14)) (defScope (top 14)) [] [] (He.ga K "_law_rows") fd
  d__law_take : ∃ fd, FunD K "_law_take" "_law_take" (defArgs (top 12)) (defBody (top 12)) (defScope (top 12)) [] [] (He.ga K "_law_take") fd
  d__law_tray : ∃ fd, FunD K "_law_tray" "_law_tray" (defArgs (top 11)) (defBody (top 11)) (defScope (top 11)) [] [] (He.ga K "_law_tray") fd
  d_Table___str__ : ∃ fd, FunD K "__str__" "Table.__str__" (defArgs (inClass (top 9) 2)) (defBody (inClass (top 9) 2)) (defScope (inClass (top 9) 2)) [] [] (He.ma K (He.ga K "Table") "__str__") fd
  d_read_rows : ∃ fd, FunD K "read_rows" "read_rows" (defArgs (top 8)) (defBody (top 8)) (defScope (top 8)) [] [] (He.ga K "read_rows") fd
  d__law_filled : ∃ fd, FunD K "_law_filled" "_law_filled" (defArgs (top 13)) (defBody (top 13)) (defScope (top 13)) [] [] (He.ga K "_law_filled") fd
  d_is_full : ∃ fd, FunD K "is_full" "is_full" (defArgs (top 7)) (defBody (top 7)) (defScope (top 7)) [] [] (He.ga K "is_full") fd
/-- what may be called -/
structure Tab (P : Program) (w : World) (K : PySem.W.Frag) (mg : Str → Option Value) (base : Heap) (k : Nat) (cal : Nat → List D → M D) : Prop where
  t__law_told : CalG P w K mg base (k + 2) (He.ga K "_law_told") [] (cal 0)
  t_Table : CalG P w K mg base (k + 2) (He.ga K "Table") [] (cal 1)
  t_Table_text : CalG P w K mg base (k + 2) (He.ga K "Table") ["text"] (cal 1)
  t__law_text : CalG P w K mg base (k + 2) (He.ga K "_law_text") [] (cal 2)
  t__law_rows : CalG P w K mg base (k + 2) (He.ga K "_law_rows") [] (cal 4)
  t__law_take : CalG P w K mg base (k + 2) (He.ga K "_law_take") [] (cal 3)
  t__law_tray : CalG P w K mg base (k + 2) (He.ga K "_law_tray") [] (cal 5)
  t_read_rows : CalG P w K mg base (k + 2) (He.ga K "read_rows") [] (cal 6)
  t__law_filled : CalG P w K mg base (k + 2) (He.ga K "_law_filled") [] (cal 7)
  t_is_full : CalG P w K mg base (k + 2) (He.ga K "is_full") [] (cal 8)
  str : StrG P w K mg base k (strT cal)
section
variable {P : Program} {w : World} {K : PySem.W.Frag} {mg : Str → Option Value} {base : Heap} {k : Nat} {cal : Nat → List D → M D}
theorem sc_law : FnScope ["_law_cells", "_law_held", "_law_at", "_law_tray_here", "_law_turn", "_law_rows_here", "_law_string", "_law_due", "_law_row", "_law_mine"] ["_law_cells"] (defScope (top 18)) := ⟨rfl, rfl, rfl, by decide +kernel, rfl, by decide +kernel, by decide +kernel⟩
theorem fb_law (F : Fc K mg) (T : Tab P w K mg base k cal) : FB P w K mg base (k + 2) ["_law_cells", "_law_held", "_law_at", "_law_tray_here", "_law_turn", "_law_rows_here", "_law_string", "_law_due", "_law_row", "_law_mine"] "law" (defScope (top 18)) (defBody (top 18)) (b_law cal) := by
  intro f cdv A outer s H E hg hr
  have C := ct_of (P := P) (w := w) (K := K) (mg := mg) (base := base) (k := k + 2) (N := ["_law_cells", "_law_held", "_law_at", "_law_tray_here", "_law_turn", "_law_rows_here", "_law_string", "_law_due", "_law_row", "_law_mine"]) (qual := "law") (scope := defScope (top 18)) (f := f) (cdv := cdv) (A := A) (outer := outer) (s := s) (H := H) (E := E) hg hr
  have nd := sc_law.nd
  exact (sb_cons (nSet 1 (se_lst sa_nil) nd)
    (sb_cons (nFor C po_of (nR1 F.b_range (nCons (nB (cr_pMax C.calm) F.b_max bt_max (nCons se_int (nCons (nB (cr_pMin C.calm) F.b_min bt_min (nCons (nB cr_pLen F.b_len bt_len (nCons (nVar 0) sa_nil)) (nCons se_int sa_nil))) sa_nil))) sa_nil)) (gName 2 nd) (sb_cons (nSet 3 (nCal C T.t__law_tray F.g__law_tray F.k__law_tray (nCons (nVar 0) (nCons (nVar 2) sa_nil))) nd)
    (sb_one (nFor C po_of (nR1 F.b_range (nCons se_int sa_nil)) (gName 4 nd) (sb_cons (nSet 5 (nCal C T.t__law_rows F.g__law_rows F.k__law_rows (nCons (nVar 3) (nCons (se_op op_pAdd se_int (nCal C T.t__law_take F.g__law_take F.k__law_take (nCons (nVar 3) (nCons se_int sa_nil)))) (nCons (se_op op_pAdd se_int (nCal C T.t__law_take F.g__law_take F.k__law_take (nCons (nVar 3) (nCons se_int sa_nil)))) sa_nil)))) nd)
    (sb_cons (nSet 6 (nCal C T.t__law_text F.g__law_text F.k__law_text (nCons (nVar 5) sa_nil)) nd)
    (sb_cons (nSet 7 (se_lst (nCons (nVar 6) (nCons (nT cr_pTuple F.b_tuple bt_tuple (nCons (nLc [("_law_row", 8)] C fin_newL nd (si_any (nVar 5)) (blkOk_by (by kernel_rfl)) (fun _ _ _ _ _ => (uName 8 nd)) (fun _ _ _ _ _ => ptsNil) (fun _ _ _ _ _ => (nT cr_pTuple F.b_tuple bt_tuple (nCons (nVar 8) sa_nil))) upNm) sa_nil)) (nCons (nB cr_pLen F.b_len bt_len (nCons (nVar 5) sa_nil)) (nCons (nB cr_pLen F.b_len bt_len (nCons (nIx (nVar 5) se_int) sa_nil)) sa_nil))))) nd)
    (sb_cons (nSet 7 (se_op op_pAdd (nVar 7) (se_lst (nCons (nVar 6) (nCons se_bl sa_nil)))) nd)
    (sb_one (nSet 1 (se_op op_pAdd (nVar 1) (se_lst (nCons (se_tup (nCons (nCal C T.t_Table F.g_Table F.k_Table (nCons (nVar 6) sa_nil)) (nCons (nVar 7) sa_nil))) (nCons (se_tup (nCons (nCalK0 C T.t_Table_text F.g_Table F.k_Table (sk_cons (nVar 6) sk_nil) (aCons_len aNil_len)) (nCons (nVar 7) sa_nil))) sa_nil)))) nd))))))))))
    (sb_cons (nFor C po_of (si_any (se_op op_pAdd (nVar 1) (se_rev (nVar 1)))) (gTup C (gCons (gName 9 nd) (gCons (gName 7 nd) sgs_nil))) (sb_one (ss_if (nCmpT (op_pNe C.hu) (nB (cr_pRepr C.gd C.hu) F.b_repr bt_repr (nCons (nCal C T.t__law_told F.g__law_told F.k__law_told (nCons (nVar 9) sa_nil)) sa_nil)) (nB (cr_pRepr C.gd C.hu) F.b_repr bt_repr (nCons (nVar 7) sa_nil))) (sb_one (ss_ret se_bl)) sb_nil)))
    (sb_one (ss_ret se_bl)))))
theorem sc__law_told : FnScope ["_law_mine"] ["_law_mine"] (defScope (top 17)) := ⟨rfl, rfl, rfl, by decide +kernel, rfl, by decide +kernel, by decide +kernel⟩
theorem fb__law_told (F : Fc K mg) (T : Tab P w K mg base k cal) : FB P w K mg base (k + 2) ["_law_mine"] "_law_told" (defScope (top 17)) (defBody (top 17)) (b__law_told cal) := by
  intro f cdv A outer s H E hg hr
  have C := ct_of (P := P) (w := w) (K := K) (mg := mg) (base := base) (k := k + 2) (N := ["_law_mine"]) (qual := "_law_told") (scope := defScope (top 17)) (f := f) (cdv := cdv) (A := A) (outer := outer) (s := s) (H := H) (E := E) hg hr
  have nd := sc__law_told.nd
  exact (sb_one (ss_ret (se_lst (nCons (nFld F.ok_text (nVar 0)) (nCons (nFld F.ok_rows (nVar 0)) (nCons (nFld F.ok_height (nVar 0)) (nCons (nFld F.ok_width (nVar 0)) (nCons (nT (cr_pStrI (k := k) T.str (C.room.mono (by omega)) C.gd) F.b_str bt_str (nCons (nVar 0) sa_nil)) (nCons (nT (cr_pBool F.ok_bool) F.b_bool bt_bool (nCons (nVar 0) sa_nil)) sa_nil)))))))))
theorem sc_Table : FnScope ["self", "text", "rows"] ["self", "text"] (defScope (inClass (top 9) 0)) := ⟨rfl, rfl, rfl, by decide +kernel, rfl, by decide +kernel, by decide +kernel⟩
theorem fb_Table (F : Fc K mg) (T : Tab P w K mg base k cal) : FBI P w K mg base (k + 2) ["self", "text", "rows"] "Table.__init__" (defScope (inClass (top 9) 0)) "Table" (defBody (inClass (top 9) 0)) (b_Table cal) := by
  intro f cdv A outer s H E hg hr
  have C := ct_of (P := P) (w := w) (K := K) (mg := mg) (base := base) (k := k + 2) (N := ["self", "text", "rows"]) (qual := "Table.__init__") (scope := defScope (inClass (top 9) 0)) (f := f) (cdv := cdv) (A := A) (outer := outer) (s := s) (H := H) (E := E) hg hr
  have nd := sc_Table.nd
  exact (sbi_ord (nSet 2 (nCal C T.t_read_rows F.g_read_rows F.k_read_rows (nCons (nVar 1) sa_nil)) nd)
    (sbi_ord (ss_if (nCmpT op_pIs (nVar 2) se_non) (sb_one ss_bad) sb_nil)
    (iMany C (se_tup (nCons (nVar 1) (nCons (nVar 2) sa_nil))) (iCs (iSelf (F.ok_text "Table" rfl)) (iCs (iSelf (F.ok_rows "Table" rfl)) sgis_nil)) (iMany C (se_tup (nCons (nB cr_pLen F.b_len bt_len (nCons (nVar 2) sa_nil)) (nCons (nB cr_pLen F.b_len bt_len (nCons (nIx (nVar 2) se_int) sa_nil)) sa_nil))) (iCs (iSelf (F.ok_height "Table" rfl)) (iCs (iSelf (F.ok_width "Table" rfl)) sgis_nil)) sbi_nil))))
theorem sc__law_text : FnScope ["_law_rows_here", "_law_digit", "_law_row"] ["_law_rows_here"] (defScope (top 15)) := ⟨rfl, rfl, rfl, by decide +kernel, rfl, by decide +kernel, by decide +kernel⟩
theorem fb__law_text (F : Fc K mg) (T : Tab P w K mg base k cal) : FB P w K mg base (k + 2) ["_law_rows_here", "_law_digit", "_law_row"] "_law_text" (defScope (top 15)) (defBody (top 15)) (b__law_text cal) := by
  intro f cdv A outer s H E hg hr
  have C := ct_of (P := P) (w := w) (K := K) (mg := mg) (base := base) (k := k + 2) (N := ["_law_rows_here", "_law_digit", "_law_row"]) (qual := "_law_text") (scope := defScope (top 15)) (f := f) (cdv := cdv) (A := A) (outer := outer) (s := s) (H := H) (E := E) hg hr
  have nd := sc__law_text.nd
  exact (sb_one (ss_ret (nMb PySem.F.plainAttrs_str PySem.F.slot_str_join PySem.F.type_str_join mt_pJoin se_str (nCons (nLc [("_law_row", 2)] C fin_newL nd (si_any (nVar 0)) (blkOk_by (by kernel_rfl)) (fun _ _ _ _ _ => (uName 2 nd)) (fun _ _ _ _ _ => ptsNil) (fun _ _ _ _ _ => (nMb PySem.F.plainAttrs_str PySem.F.slot_str_join PySem.F.type_str_join mt_pJoin se_str (nCons (nLc [("_law_digit", 1)] C.blk fin_newL nd (si_any (nVar 2)) (blkOk_by (by kernel_rfl)) (fun _ _ _ _ _ => (uName 1 nd)) (fun _ _ _ _ _ => ptsNil) (fun _ _ _ _ _ => (nT (cr_pStrI (k := k) T.str (C.blk.blk.room.mono (by omega)) C.blk.blk.gd) F.b_str bt_str (nCons (nVar 1) sa_nil))) upNm) sa_nil))) upNm) sa_nil))))
theorem sc__law_rows : FnScope ["_law_tray_here", "_law_height", "_law_width", "_law_thick", "_law_found", "_law_k", "_law_j"] ["_law_tray_here", "_law_height", "_law_width"] (defScope (top 14)) := ⟨rfl, rfl, rfl, by decide +kernel, rfl, by decide +kernel, by decide +kernel⟩
theorem fb__law_rows (F : Fc K mg) (T : Tab P w K mg base k cal) : FB P w K mg base (k + 2) ["_law_tray_here", "_law_height", "_law_width", "_law_thick", "_law_found", "_law_k", "_law_j"] "_law_rows" (defScope (top 14)) (defBody (top 14)) (b__law_rows cal) := by
  intro f cdv A outer s H E hg hr
  have C := ct_of (P := P) (w := w) (K := K) (mg := mg) (base := base) (k := k + 2) (N := ["_law_tray_here", "_law_height", "_law_width", "_law_thick", "_law_found", "_law_k", "_law_j"]) (qual := "_law_rows") (scope := defScope (top 14)) (f := f) (cdv := cdv) (A := A) (outer := outer) (s := s) (H := H) (E := E) hg hr
  have nd := sc__law_rows.nd
  exact (sb_cons (nSet 3 (se_op op_pAdd se_int (nCal C T.t__law_take F.g__law_take F.k__law_take (nCons (nVar 0) (nCons se_int sa_nil)))) nd)
    (sb_cons (nSetLc 4 [("_law_j", 6)] C fin_newL nd (nR1 F.b_range (nCons (nVar 1) sa_nil)) (blkOk_by (by kernel_rfl)) (fun _ _ _ _ _ => (uName 6 nd)) (fun _ _ _ _ _ => ptsNil) (fun _ _ _ _ _ => (nLc [("_law_k", 5)] C.blk fin_newL nd (nR1 F.b_range (nCons (nVar 2) sa_nil)) (blkOk_by (by kernel_rfl)) (fun _ _ _ _ _ => (uName 5 nd)) (fun _ _ _ _ _ => ptsNil) (fun _ _ _ _ _ => (nT cr_pInt F.b_int bt_int (nCons (nCmp op_pLt (nCal C.blk.blk T.t__law_take F.g__law_take F.k__law_take (nCons (nVar 0) (nCons se_int sa_nil))) (nVar 3)) sa_nil))) upNm)) upNm)
    (sb_one (ss_ret (nCal C T.t__law_filled F.g__law_filled F.k__law_filled (nCons (nVar 0) (nCons (nVar 4) sa_nil)))))))
theorem sc__law_take : FnScope ["_law_tray_here", "_law_many", "_law_figure"] ["_law_tray_here", "_law_many"] (defScope (top 12)) := ⟨rfl, rfl, rfl, by decide +kernel, rfl, by decide +kernel, by decide +kernel⟩
theorem fb__law_take (F : Fc K mg) (T : Tab P w K mg base k cal) : FB P w K mg base (k + 2) ["_law_tray_here", "_law_many", "_law_figure"] "_law_take" (defScope (top 12)) (defBody (top 12)) (b__law_take cal) := by
  intro f cdv A outer s H E hg hr
  have C := ct_of (P := P) (w := w) (K := K) (mg := mg) (base := base) (k := k + 2) (N := ["_law_tray_here", "_law_many", "_law_figure"]) (qual := "_law_take") (scope := defScope (top 12)) (f := f) (cdv := cdv) (A := A) (outer := outer) (s := s) (H := H) (E := E) hg hr
  have nd := sc__law_take.nd
  exact (sb_cons (ss_if (nCmpT op_pGt (nIx (nVar 0) se_int) se_int) (sb_cons (nAsg (nB cr_pDivmod F.b_divmod bt_divmod (nCons (nIx (nVar 0) se_int) (nCons (nVar 1) sa_nil))) (gTup C (gCons (gSub (fun cls d _ H' => E cls d H') (nVar 0) se_int set_pStore) (gCons (gName 2 nd) sgs_nil))))
    (sb_one (ss_ret (nVar 2)))) sb_nil)
    (sb_cons (nAsg (se_op op_pAdd (nIx (nVar 0) se_int) se_int) (gSub (fun cls d _ H' => E cls d H') (nVar 0) se_int set_pStore))
    (sb_cons (nAsg (se_op op_pMod (nT cr_pInt F.b_int bt_int (nCons (se_op op_pAdd (se_op op_pAdd (se_op op_pMul (nIx (nVar 0) se_int) (se_op op_pAdd (se_op op_pMod (nT cr_pInt F.b_int bt_int (nCons (se_op op_pFdiv (nIx (nVar 0) se_int) se_int) sa_nil)) se_int) se_int)) (se_op op_pMul se_int (nIx (nVar 0) se_int))) se_int) sa_nil)) se_int) (gSub (fun cls d _ H' => E cls d H') (nVar 0) se_int set_pStore))
    (sb_one (ss_ret (se_op op_pMod (nT cr_pInt F.b_int bt_int (nCons (se_op op_pFdiv (nIx (nVar 0) se_int) se_int) sa_nil)) (nVar 1)))))))
theorem sc__law_tray : FnScope ["_law_cells", "_law_at", "_law_own", "_law_mixed", "_law_k"] ["_law_cells", "_law_at"] (defScope (top 11)) := ⟨rfl, rfl, rfl, by decide +kernel, rfl, by decide +kernel, by decide +kernel⟩
theorem fb__law_tray (F : Fc K mg) (T : Tab P w K mg base k cal) : FB P w K mg base (k + 2) ["_law_cells", "_law_at", "_law_own", "_law_mixed", "_law_k"] "_law_tray" (defScope (top 11)) (defBody (top 11)) (b__law_tray cal) := by
  intro f cdv A outer s H E hg hr
  have C := ct_of (P := P) (w := w) (K := K) (mg := mg) (base := base) (k := k + 2) (N := ["_law_cells", "_law_at", "_law_own", "_law_mixed", "_law_k"]) (qual := "_law_tray") (scope := defScope (top 11)) (f := f) (cdv := cdv) (A := A) (outer := outer) (s := s) (H := H) (E := E) hg hr
  have nd := sc__law_tray.nd
  exact (sb_cons (nPar2 2 3 C nd (nCons (se_if (nCmpT op_pLt (nVar 1) (nB cr_pLen F.b_len bt_len (nCons (nVar 0) sa_nil))) (nIx (nVar 0) (nVar 1)) se_int) (nCons (se_op op_pAdd se_int (se_op op_pMul se_int (nVar 1))) sa_nil)))
    (sb_cons (nFor C po_of (nR1 F.b_range (nCons (nB (cr_pMin C.calm) F.b_min bt_min (nCons (nB cr_pLen F.b_len bt_len (nCons (nVar 0) sa_nil)) (nCons se_int sa_nil))) sa_nil)) (gName 4 nd) (sb_one (nSet 3 (se_op op_pMod (nT cr_pInt F.b_int bt_int (nCons (se_op op_pAdd (se_op op_pAdd (se_op op_pMul (nVar 3) (se_op op_pAdd se_int (se_op op_pMul se_int (nVar 4)))) (se_op op_pMul se_int (nIx (nVar 0) (nVar 4)))) se_int) sa_nil)) se_int) nd)))
    (sb_one (ss_ret (se_lstC (nCons (se_if (sw_st (sw_or (nCmpT op_pLt (nVar 2) se_int) (sw_or1 (nCmpT op_pGe (nVar 2) (se_op op_pPow se_int se_int))))) (nB cr_pAbs F.b_abs bt_abs (nCons (nVar 2) sa_nil)) se_int) (nCons (se_op op_pMod (nT cr_pInt F.b_int bt_int (nCons (se_op op_pAdd (se_op op_pMul (nVar 3) se_int) (se_op op_pMul (nVar 2) se_int)) sa_nil)) se_int) (nCons se_int sa_nil))))))))
theorem sc_Table___str__ : FnScope ["self"] ["self"] (defScope (inClass (top 9) 2)) := ⟨rfl, rfl, rfl, by decide +kernel, rfl, by decide +kernel, by decide +kernel⟩
theorem fb_Table___str__ (F : Fc K mg) (T : Tab P w K mg base k cal) : FB P w K mg base (k + 2) ["self"] "Table.__str__" (defScope (inClass (top 9) 2)) (defBody (inClass (top 9) 2)) (b_Table___str__ cal) := by
  intro f cdv A outer s H E hg hr
  have C := ct_of (P := P) (w := w) (K := K) (mg := mg) (base := base) (k := k + 2) (N := ["self"]) (qual := "Table.__str__") (scope := defScope (inClass (top 9) 2)) (f := f) (cdv := cdv) (A := A) (outer := outer) (s := s) (H := H) (E := E) hg hr
  have nd := sc_Table___str__.nd
  exact (sb_one (ss_ret (nT (cr_pStrI (k := k) T.str (C.room.mono (by omega)) C.gd) F.b_str bt_str (nCons (nFld F.ok_text (nVar 0)) sa_nil))))
theorem sc_read_rows : FnScope ["text", "lines", "sign", "line", "rows"] ["text"] (defScope (top 8)) := ⟨rfl, rfl, rfl, by decide +kernel, rfl, by decide +kernel, by decide +kernel⟩
theorem fb_read_rows (F : Fc K mg) (T : Tab P w K mg base k cal) : FB P w K mg base (k + 2) ["text", "lines", "sign", "line", "rows"] "read_rows" (defScope (top 8)) (defBody (top 8)) (b_read_rows cal) := by
  intro f cdv A outer s H E hg hr
  have C := ct_of (P := P) (w := w) (K := K) (mg := mg) (base := base) (k := k + 2) (N := ["text", "lines", "sign", "line", "rows"]) (qual := "read_rows") (scope := defScope (top 8)) (f := f) (cdv := cdv) (A := A) (outer := outer) (s := s) (H := H) (E := E) hg hr
  have nd := sc_read_rows.nd
  exact (sb_cons (ss_if (st_not (nTru (nIsi (p2 := ⟨0, 0, 0, 0⟩) (c := .blt "str") F.isi (nVar 0) (pe_bltn (v := .ty "str") rfl F.b_str bt_str rfl) (.ty _) F.b_isinstance))) (sb_one (ss_ret se_non)) sb_nil)
    (sb_cons (nSet 1 (nMb PySem.F.plainAttrs_str PySem.F.slot_str_split PySem.F.type_str_split mt_pSplit (nVar 0) (nCons se_str sa_nil)) nd)
    (sb_cons (ss_if (sw_st (sw_or (nCmpT op_pGt (nB cr_pLen F.b_len bt_len (nCons (nVar 1) sa_nil)) (nInt F.c_MOST_ROWS)) (sw_or1 (st_not (nChT op_pLe op_pLe se_int (nB cr_pLen F.b_len bt_len (nCons (nIx (nVar 1) se_int) sa_nil)) (nInt F.c_MOST_COLUMNS)))))) (sb_one (ss_ret se_non)) sb_nil)
    (sb_cons (ss_if (st_not (nTru (nB (cr_pAll C.calm) F.b_all bt_all (nCons (nLc [("line", 3)] C fin_newL nd (si_any (nVar 1)) (blkOk_by (by kernel_rfl)) (fun _ _ _ _ _ => (uName 3 nd)) (fun _ _ _ _ _ => ptsNil) (fun _ _ _ _ _ => (se_and (nCmp (op_pEq C.blk.hu) (nB cr_pLen F.b_len bt_len (nCons (nVar 3) sa_nil)) (nB cr_pLen F.b_len bt_len (nCons (nIx (nVar 1) se_int) sa_nil))) (and1 (nB (cr_pAll C.blk.calm) F.b_all bt_all (nCons (nLc [("sign", 2)] C.blk fin_newL nd (si_any (nVar 3)) (blkOk_by (by kernel_rfl)) (fun _ _ _ _ _ => (uName 2 nd)) (fun _ _ _ _ _ => ptsNil) (fun _ _ _ _ _ => (nCmp (op_pIn C.blk.blk.hu) (nVar 2) se_str)) upNm) sa_nil))))) upNm) sa_nil)))) (sb_one (ss_ret se_non)) sb_nil)
    (sb_cons (nSet 4 (nT cr_pTuple F.b_tuple bt_tuple (nCons (nLc [("line", 3)] C fin_newL nd (si_any (nVar 1)) (blkOk_by (by kernel_rfl)) (fun _ _ _ _ _ => (uName 3 nd)) (fun _ _ _ _ _ => ptsNil) (fun _ _ _ _ _ => (nT cr_pTuple F.b_tuple bt_tuple (nCons (nLc [("sign", 2)] C.blk fin_newL nd (si_any (nVar 3)) (blkOk_by (by kernel_rfl)) (fun _ _ _ _ _ => (uName 2 nd)) (fun _ _ _ _ _ => ptsNil) (fun _ _ _ _ _ => (nT cr_pInt F.b_int bt_int (nCons (nVar 2) sa_nil))) upNm) sa_nil))) upNm) sa_nil)) nd)
    (sb_one (ss_ret (se_if (nTru (nCal C T.t_is_full F.g_is_full F.k_is_full (nCons (nVar 4) sa_nil))) (nVar 4) se_non))))))))
theorem sc__law_filled : FnScope ["_law_tray_here", "_law_rows_here", "_law_found", "_law_row", "_law_k"] ["_law_tray_here", "_law_rows_here"] (defScope (top 13)) := ⟨rfl, rfl, rfl, by decide +kernel, rfl, by decide +kernel, by decide +kernel⟩
theorem fb__law_filled (F : Fc K mg) (T : Tab P w K mg base k cal) : FB P w K mg base (k + 2) ["_law_tray_here", "_law_rows_here", "_law_found", "_law_row", "_law_k"] "_law_filled" (defScope (top 13)) (defBody (top 13)) (b__law_filled cal) := by
  intro f cdv A outer s H E hg hr
  have C := ct_of (P := P) (w := w) (K := K) (mg := mg) (base := base) (k := k + 2) (N := ["_law_tray_here", "_law_rows_here", "_law_found", "_law_row", "_law_k"]) (qual := "_law_filled") (scope := defScope (top 13)) (f := f) (cdv := cdv) (A := A) (outer := outer) (s := s) (H := H) (E := E) hg hr
  have nd := sc__law_filled.nd
  exact (sb_cons (nSetLc 2 [("_law_row", 3)] C fin_newL nd (si_any (nVar 1)) (blkOk_by (by kernel_rfl)) (fun _ _ _ _ _ => (uName 3 nd)) (fun _ _ _ _ _ => ptsNil) (fun _ _ _ _ _ => (nT (cr_pList newC_ok) F.b_list bt_list (nCons (nVar 3) sa_nil))) upNm)
    (sb_cons (nFor C po_of (si_any (nVar 2)) (gName 3 nd) (sb_one (ss_if (nCmpT (op_pNotIn C.hu) se_int (nVar 3)) (sb_one (nAsg se_int (gSub (fun cls d _ H' => E cls d H') (nVar 3) (nCal C T.t__law_take F.g__law_take F.k__law_take (nCons (nVar 0) (nCons (nB cr_pLen F.b_len bt_len (nCons (nVar 3) sa_nil)) sa_nil))) set_pStore))) sb_nil)))
    (sb_cons (nFor C po_of (nR1 F.b_range (nCons (nB cr_pLen F.b_len bt_len (nCons (nIx (nVar 2) se_int) sa_nil)) sa_nil)) (gName 4 nd) (sb_one (ss_if (nCmpT (op_pEq C.hu) (nLc [("_law_row", 3)] C fin_newL nd (si_any (nVar 2)) (blkOk_by (by kernel_rfl)) (fun _ _ _ _ _ => (uName 3 nd)) (fun _ _ _ _ _ => (ptsOne (nCmpT (op_pEq C.blk.hu) (nIx (nVar 3) (nVar 4)) se_int))) (fun _ _ _ _ _ => (nVar 3)) upNm) (se_lst sa_nil)) (sb_one (nAsg se_int (gSub (fun cls d _ H' => E cls d H') (nIx (nVar 2) (nCal C T.t__law_take F.g__law_take F.k__law_take (nCons (nVar 0) (nCons (nB cr_pLen F.b_len bt_len (nCons (nVar 2) sa_nil)) sa_nil)))) (nVar 4) set_pStore))) sb_nil)))
    (sb_one (ss_ret (se_frz (nVar 2)))))))
theorem sc_is_full : FnScope ["rows", "row", "column"] ["rows"] (defScope (top 7)) := ⟨rfl, rfl, rfl, by decide +kernel, rfl, by decide +kernel, by decide +kernel⟩
theorem fb_is_full (F : Fc K mg) (T : Tab P w K mg base k cal) : FB P w K mg base (k + 2) ["rows", "row", "column"] "is_full" (defScope (top 7)) (defBody (top 7)) (b_is_full cal) := by
  intro f cdv A outer s H E hg hr
  have C := ct_of (P := P) (w := w) (K := K) (mg := mg) (base := base) (k := k + 2) (N := ["rows", "row", "column"]) (qual := "is_full") (scope := defScope (top 7)) (f := f) (cdv := cdv) (A := A) (outer := outer) (s := s) (H := H) (E := E) hg hr
  have nd := sc_is_full.nd
  exact (sb_one (ss_ret (se_and (nCmp op_pGt (nB cr_pLen F.b_len bt_len (nCons (nVar 0) sa_nil)) se_int) (se_and (nB (cr_pAll C.calm) F.b_all bt_all (nCons (nLc [("row", 1)] C fin_newL nd (si_any (nVar 0)) (blkOk_by (by kernel_rfl)) (fun _ _ _ _ _ => (uName 1 nd)) (fun _ _ _ _ _ => ptsNil) (fun _ _ _ _ _ => (nCmp (op_pIn C.blk.hu) se_int (nVar 1))) upNm) sa_nil)) (and1 (nB (cr_pAll C.calm) F.b_all bt_all (nCons (nLc [("column", 2)] C fin_newL nd (nZipS F.b_zip (nVar 0)) (blkOk_by (by kernel_rfl)) (fun _ _ _ _ _ => (uName 2 nd)) (fun _ _ _ _ _ => ptsNil) (fun _ _ _ _ _ => (nCmp (op_pIn C.blk.hu) se_int (nVar 2))) upNm) sa_nil)))))))
theorem tab0 (F : Fc K mg) : Tab P w K mg base 0 (callN 0) where
  t__law_told := CalG.bad
  t_Table := CalG.bad
  t_Table_text := CalG.bad
  t__law_text := CalG.bad
  t__law_rows := CalG.bad
  t__law_take := CalG.bad
  t__law_tray := CalG.bad
  t_read_rows := CalG.bad
  t__law_filled := CalG.bad
  t_is_full := CalG.bad
  str := by
    intro c m e
    unfold strT at e
    split at e
    · rename_i h
      subst h
      cases e
      obtain ⟨fd, D⟩ := F.d_Table___str__
      exact ⟨_, fd, F.me_Table___str__.at_, F.me_Table___str__.fn, FnG.bad, bindK_of D (fun _ _ _ _ _ _ us ws h1 h2 => match us, ws, h1, h2 with | [_], [], _, _ => rfl)⟩
    · cases e
theorem tabS {n : Nat} (F : Fc K mg) (T : Tab P w K mg base k (callN n)) : Tab P w K mg base (k + 3) (callN (n + 1)) where
  t__law_told := (by
    obtain ⟨fd, D⟩ := F.d__law_told
    exact CalG.mono (calG_fn (m := funM 1 1 (b__law_told (callN n))) (fnG_body D sc__law_told (fb__law_told F T)) (bindK_of D (fun _ _ _ _ _ _ us ws h1 h2 => match us, ws, h1, h2 with | [_], [], _, _ => rfl)) rfl funM_len) (by omega))
  t_Table := (by
    obtain ⟨fd, D⟩ := F.d_Table
    exact CalG.mono (calG_cls (m := initM 3 1 (b_Table (callN n))) F.mk_Table (fnG_init (n := 1) rfl D sc_Table (fb_Table F T)) (bindK_of D (fun _ _ _ _ _ _ us ws h1 h2 => match us, ws, h1, h2 with | [_, _], [], _, _ => rfl)) rfl initM_len) (by omega))
  t_Table_text := (by
    obtain ⟨fd, D⟩ := F.d_Table
    exact CalG.mono (calG_cls (m := initM 3 1 (b_Table (callN n))) F.mk_Table (fnG_init (n := 1) rfl D sc_Table (fb_Table F T)) (bindK_of D (fun _ _ _ _ _ _ us ws h1 h2 => match us, ws, h1, h2 with | [_], [_], _, _ => rfl)) rfl initM_len) (by omega))
  t__law_text := (by
    obtain ⟨fd, D⟩ := F.d__law_text
    exact CalG.mono (calG_fn (m := funM 3 1 (b__law_text (callN n))) (fnG_body D sc__law_text (fb__law_text F T)) (bindK_of D (fun _ _ _ _ _ _ us ws h1 h2 => match us, ws, h1, h2 with | [_], [], _, _ => rfl)) rfl funM_len) (by omega))
  t__law_rows := (by
    obtain ⟨fd, D⟩ := F.d__law_rows
    exact CalG.mono (calG_fn (m := funM 7 3 (b__law_rows (callN n))) (fnG_body D sc__law_rows (fb__law_rows F T)) (bindK_of D (fun _ _ _ _ _ _ us ws h1 h2 => match us, ws, h1, h2 with | [_, _, _], [], _, _ => rfl)) rfl funM_len) (by omega))
  t__law_take := (by
    obtain ⟨fd, D⟩ := F.d__law_take
    exact CalG.mono (calG_fn (m := funM 3 2 (b__law_take (callN n))) (fnG_body D sc__law_take (fb__law_take F T)) (bindK_of D (fun _ _ _ _ _ _ us ws h1 h2 => match us, ws, h1, h2 with | [_, _], [], _, _ => rfl)) rfl funM_len) (by omega))
  t__law_tray := (by
    obtain ⟨fd, D⟩ := F.d__law_tray
    exact CalG.mono (calG_fn (m := funM 5 2 (b__law_tray (callN n))) (fnG_body D sc__law_tray (fb__law_tray F T)) (bindK_of D (fun _ _ _ _ _ _ us ws h1 h2 => match us, ws, h1, h2 with | [_, _], [], _, _ => rfl)) rfl funM_len) (by omega))
  t_read_rows := (by
    obtain ⟨fd, D⟩ := F.d_read_rows
    exact CalG.mono (calG_fn (m := funM 5 1 (b_read_rows (callN n))) (fnG_body D sc_read_rows (fb_read_rows F T)) (bindK_of D (fun _ _ _ _ _ _ us ws h1 h2 => match us, ws, h1, h2 with | [_], [], _, _ => rfl)) rfl funM_len) (by omega))
  t__law_filled := (by
    obtain ⟨fd, D⟩ := F.d__law_filled
    exact CalG.mono (calG_fn (m := funM 5 2 (b__law_filled (callN n))) (fnG_body D sc__law_filled (fb__law_filled F T)) (bindK_of D (fun _ _ _ _ _ _ us ws h1 h2 => match us, ws, h1, h2 with | [_, _], [], _, _ => rfl)) rfl funM_len) (by omega))
  t_is_full := (by
    obtain ⟨fd, D⟩ := F.d_is_full
    exact CalG.mono (calG_fn (m := funM 3 1 (b_is_full (callN n))) (fnG_body D sc_is_full (fb_is_full F T)) (bindK_of D (fun _ _ _ _ _ _ us ws h1 h2 => match us, ws, h1, h2 with | [_], [], _, _ => rfl)) rfl funM_len) (by omega))
  str := by
    intro c m e
    unfold strT at e
    split at e
    · rename_i h
      subst h
      cases e
      obtain ⟨fd, D⟩ := F.d_Table___str__
      exact ⟨_, fd, F.me_Table___str__.at_, F.me_Table___str__.fn, fnG_body D sc_Table___str__ (fb_Table___str__ F T), bindK_of D (fun _ _ _ _ _ _ us ws h1 h2 => match us, ws, h1, h2 with | [_], [], _, _ => rfl)⟩
    · cases e
theorem tabN (F : Fc K mg) : ∀ n : Nat, Tab P w K mg base (3 * n) (callN n)
  | 0 => tab0 F
  | n + 1 => tabS F (tabN F n)
theorem law_b {fd : FuncData} (D : FunD K "law" "law" (defArgs (top 18)) (defBody (top 18)) (defScope (top 18)) [] [] (He.ga K "law") fd) (s : Shared) (u : Value) : BindsTo s fd ⟨[u], []⟩ [("_law_cells", u)] := bindK_of (ks := []) (ps := ["_law_cells"]) D (fun _ _ _ _ _ _ us ws h1 h2 => match us, ws, h1, h2 with | [_], [], _, _ => rfl) s [u] [] rfl rfl
theorem law_f (F : Fc K mg) (n : Nat) {fd : FuncData} (D : FunD K "law" "law" (defArgs (top 18)) (defBody (top 18)) (defScope (top 18)) [] [] (He.ga K "law") fd) : FnG P w K mg base (3 * n + 3) (He.ga K "law") fd ["_law_cells"] (spM K 1 (funM 10 1 (b_law (callN n)))) := fnG_body D sc_law (fb_law F (tabN F n))
end
theorem isi_blt {K : PySem.W.Frag} : IsiOk K Lw.isi := by
  refine ⟨fun t c b e => ?_, fun c d b e => ?_⟩
  · unfold Lw.isi at e
    split at e
    · rename_i h
      subst h
      cases t with
      | blt n =>
        cases e
        unfold PySem.W.kitOne
        rw [if_pos (by simp)]
      | own c => cases e
    · cases e
  · unfold Lw.isi at e
    split at e
    · rename_i h
      subst h
      cases e
    · cases e
def dd_law : He.DefD := ⟨("law", none), "law", "law", defArgs (top 18), defBody (top 18), defScope (top 18), [], []⟩
def dd__law_told : He.DefD := ⟨("_law_told", none), "_law_told", "_law_told", defArgs (top 17), defBody (top 17), defScope (top 17), [], []⟩
def dd_Table : He.DefD := ⟨("Table", some "__init__"), "__init__", "Table.__init__", defArgs (inClass (top 9) 0), defBody (inClass (top 9) 0), defScope (inClass (top 9) 0), [], []⟩
def dd__law_text : He.DefD := ⟨("_law_text", none), "_law_text", "_law_text", defArgs (top 15), defBody (top 15), defScope (top 15), [], []⟩
def dd__law_rows : He.DefD := ⟨("_law_rows", none), "_law_rows", "_law_rows", defArgs (top 14), defBody (top 14), defScope (top 14), [], []⟩
def dd__law_take : He.DefD := ⟨("_law_take", none), "_law_take", "_law_take", defArgs (top 12), defBody (top 12), defScope (top 12), [], []⟩
def dd__law_tray : He.DefD := ⟨("_law_tray", none), "_law_tray", "_law_tray", defArgs (top 11), defBody (top 11), defScope (top 11), [], []⟩
def dd_Table___str__ : He.DefD := ⟨("Table", some "__str__"), "__str__", "Table.__str__", defArgs (inClass (top 9) 2), defBody (inClass (top 9) 2), defScope (inClass (top 9) 2), [], []⟩
def dd_read_rows : He.DefD := ⟨("read_rows", none), "read_rows", "read_rows", defArgs (top 8), defBody (top 8), defScope (top 8), [], []⟩
def dd__law_filled : He.DefD := ⟨("_law_filled", none), "_law_filled", "_law_filled", defArgs (top 13), defBody (top 13), defScope (top 13), [], []⟩
def dd_is_full : He.DefD := ⟨("is_full", none), "is_full", "is_full", defArgs (top 7), defBody (top 7), defScope (top 7), [], []⟩
def fn : List He.DefD := [dd_law, dd__law_told, dd_Table, dd__law_text, dd__law_rows, dd__law_take, dd__law_tray, dd_Table___str__, dd_read_rows, dd__law_filled, dd_is_full]
def fa : List He.Fa := [.free "abs", .free "all", .free "bool", .free "divmod", .free "int", .free "isinstance", .free "len", .free "list", .free "max", .free "min", .free "range", .free "repr", .free "str", .free "tuple", .free "zip", .int "MOST_COLUMNS" 8, .int "MOST_ROWS" 8, .glo "law", .keep "law", .glo "_law_told", .keep "_law_told", .glo "Table", .keep "Table", .mkr "Table", .glo "_law_text", .keep "_law_text", .glo "_law_rows", .keep "_law_rows", .glo "_law_take", .keep "_law_take", .glo "_law_tray", .keep "_law_tray", .glo "read_rows", .keep "read_rows", .glo "_law_filled", .keep "_law_filled", .glo "is_full", .keep "is_full", .cls "Table", .noat "Table" "height", .noat "Table" "rows", .noat "Table" "text", .noat "Table" "width", .noat "Table" "__bool__", .noat "Table" "__len__", .meth "Table" "__str__"]
theorem facts {K : PySem.W.Frag} {h : Heap} {mg : Str → Option Value} (X : K.In h) (G : h.Ns mainGlobals mg) (c : He.SaysD fa fn K) : Fc K mg := by
  have cc := c
  exact {
    b_abs := He.free_ok X G (c.fact 0 (f := .free "abs") rfl),
    b_all := He.free_ok X G (c.fact 1 (f := .free "all") rfl),
    b_bool := He.free_ok X G (c.fact 2 (f := .free "bool") rfl),
    b_divmod := He.free_ok X G (c.fact 3 (f := .free "divmod") rfl),
    b_int := He.free_ok X G (c.fact 4 (f := .free "int") rfl),
    b_isinstance := He.free_ok X G (c.fact 5 (f := .free "isinstance") rfl),
    b_len := He.free_ok X G (c.fact 6 (f := .free "len") rfl),
    b_list := He.free_ok X G (c.fact 7 (f := .free "list") rfl),
    b_max := He.free_ok X G (c.fact 8 (f := .free "max") rfl),
    b_min := He.free_ok X G (c.fact 9 (f := .free "min") rfl),
    b_range := He.free_ok X G (c.fact 10 (f := .free "range") rfl),
    b_repr := He.free_ok X G (c.fact 11 (f := .free "repr") rfl),
    b_str := He.free_ok X G (c.fact 12 (f := .free "str") rfl),
    b_tuple := He.free_ok X G (c.fact 13 (f := .free "tuple") rfl),
    b_zip := He.free_ok X G (c.fact 14 (f := .free "zip") rfl),
    c_MOST_COLUMNS := He.int_ok X G (c.fact 15 (f := .int "MOST_COLUMNS" 8) rfl),
    c_MOST_ROWS := He.int_ok X G (c.fact 16 (f := .int "MOST_ROWS" 8) rfl),
    g_law := He.glo_ok X G (c.fact 17 (f := .glo "law") rfl),
    k_law := He.keep_ok (c.fact 18 (f := .keep "law") rfl),
    g__law_told := He.glo_ok X G (c.fact 19 (f := .glo "_law_told") rfl),
    k__law_told := He.keep_ok (c.fact 20 (f := .keep "_law_told") rfl),
    g_Table := He.glo_ok X G (c.fact 21 (f := .glo "Table") rfl),
    k_Table := He.keep_ok (c.fact 22 (f := .keep "Table") rfl),
    mk_Table := He.mkr_ok (c.fact 23 (f := .mkr "Table") rfl),
    g__law_text := He.glo_ok X G (c.fact 24 (f := .glo "_law_text") rfl),
    k__law_text := He.keep_ok (c.fact 25 (f := .keep "_law_text") rfl),
    g__law_rows := He.glo_ok X G (c.fact 26 (f := .glo "_law_rows") rfl),
    k__law_rows := He.keep_ok (c.fact 27 (f := .keep "_law_rows") rfl),
    g__law_take := He.glo_ok X G (c.fact 28 (f := .glo "_law_take") rfl),
    k__law_take := He.keep_ok (c.fact 29 (f := .keep "_law_take") rfl),
    g__law_tray := He.glo_ok X G (c.fact 30 (f := .glo "_law_tray") rfl),
    k__law_tray := He.keep_ok (c.fact 31 (f := .keep "_law_tray") rfl),
    g_read_rows := He.glo_ok X G (c.fact 32 (f := .glo "read_rows") rfl),
    k_read_rows := He.keep_ok (c.fact 33 (f := .keep "read_rows") rfl),
    g__law_filled := He.glo_ok X G (c.fact 34 (f := .glo "_law_filled") rfl),
    k__law_filled := He.keep_ok (c.fact 35 (f := .keep "_law_filled") rfl),
    g_is_full := He.glo_ok X G (c.fact 36 (f := .glo "is_full") rfl),
    k_is_full := He.keep_ok (c.fact 37 (f := .keep "is_full") rfl),
    ok_height := (fun c e => by
    have e : c = "Table" := by simpa [Lw.ok_height] using e
    rcases e with rfl
    · exact ⟨He.cls_ok (cc.fact 38 (f := .cls "Table") rfl), He.noat_ok (cc.fact 39 (f := .noat "Table" "height") rfl)⟩),
    ok_rows := (fun c e => by
    have e : c = "Table" := by simpa [Lw.ok_rows] using e
    rcases e with rfl
    · exact ⟨He.cls_ok (cc.fact 38 (f := .cls "Table") rfl), He.noat_ok (cc.fact 40 (f := .noat "Table" "rows") rfl)⟩),
    ok_text := (fun c e => by
    have e : c = "Table" := by simpa [Lw.ok_text] using e
    rcases e with rfl
    · exact ⟨He.cls_ok (cc.fact 38 (f := .cls "Table") rfl), He.noat_ok (cc.fact 41 (f := .noat "Table" "text") rfl)⟩),
    ok_width := (fun c e => by
    have e : c = "Table" := by simpa [Lw.ok_width] using e
    rcases e with rfl
    · exact ⟨He.cls_ok (cc.fact 38 (f := .cls "Table") rfl), He.noat_ok (cc.fact 42 (f := .noat "Table" "width") rfl)⟩),
    ok_bool := (fun c e => by
    have e : c = "Table" := by simpa [Lw.ok_bool] using e
    rcases e with rfl
    · exact ⟨He.noat_ok (cc.fact 43 (f := .noat "Table" "__bool__") rfl), He.noat_ok (cc.fact 44 (f := .noat "Table" "__len__") rfl)⟩),
    isi := isi_blt,
    me_Table___str__ := He.meth_ok (c.fact 45 (f := .meth "Table" "__str__") rfl),
    d_law := c.def_ 0 (d := dd_law) rfl,
    d__law_told := c.def_ 1 (d := dd__law_told) rfl,
    d_Table := c.def_ 2 (d := dd_Table) rfl,
    d__law_text := c.def_ 3 (d := dd__law_text) rfl,
    d__law_rows := c.def_ 4 (d := dd__law_rows) rfl,
    d__law_take := c.def_ 5 (d := dd__law_take) rfl,
    d__law_tray := c.def_ 6 (d := dd__law_tray) rfl,
    d_Table___str__ := c.def_ 7 (d := dd_Table___str__) rfl,
    d_read_rows := c.def_ 8 (d := dd_read_rows) rfl,
    d__law_filled := c.def_ 9 (d := dd__law_filled) rfl,
    d_is_full := c.def_ 10 (d := dd_is_full) rfl }
def names : List PySem.Str := ["_wall", "BadValue", "InvalidText", "MOST_ROWS", "MOST_COLUMNS", "is_full", "read_rows", "Table", "_law_tray", "_law_take", "_law_filled", "_law_rows", "_law_text", "_law_full", "_law_told"]
abbrev R : PySem.W.OpenRow := PySem.W.OpenLaw.row PySem.Challenge.rw_oddrings_k02_tables_made
abbrev hk : PySem.W.Hook := He.hookD 4 fa fn
def ob (s : PySem.W.SharedT) : He.AlD := He.obsDG 4 fa fn (HandSHeadRun.getT s)
theorem ob_eq (s : PySem.W.SharedT) : ob s = hk.obs s.abs := He.obsDG_eq (HandSHeadRun.getT_eq s)
theorem run (w : World) : HandSHeadRun.RunEq R (PySem.W.view R.prog [18]) hk ob 40000 names w := by
  intro os
  kernel_rfl
/-- the law, from the evaluator's answer -/
theorem holds (n : Nat) (hn : n ≤ 60) (h : ∀ ns : List Int, ns.length ≤ 63 → (∀ i ∈ ns, Builtin.Int.intBits i ≤ 1048576) → ∃ S, funM 10 1 (b_law (callN n)) [.scr ns] [] = .ok (.bl true) S) : PySem.Challenge.rw_oddrings_k02_tables_made.Holds := by
  w_on; o_law
  refine HandSHeadRun.head_any (r := PySem.W.OpenLaw.row PySem.Challenge.rw_oddrings_k02_tables_made) (q := PySem.W.view (PySem.W.OpenLaw.row PySem.Challenge.rw_oddrings_k02_tables_made).prog [18]) (H := hk) (ob := ob) (M := 40000) (loose := names) (d := HandSHeadRun.topDef (PySem.W.OpenLaw.row PySem.Challenge.rw_oddrings_k02_tables_made).prog 18) (kwd := []) ob_eq
    (by kernel_rfl) (fun s => by kernel_rfl) run (by kernel_rfl) (by kernel_rfl) (by kernel_rfl) (by rfl) (by first | assumption | decide +kernel) (by decide +kernel) ⟨rfl, rfl, rfl, rfl, rfl, by decide +kernel⟩ ?hw ?hc
  case hw => w_witness2
  case hc =>
    refine walk_ev (l := PySem.Challenge.rw_oddrings_k02_tables_made) (n := 63) (k := 3 * n + 3) (x := "_law_cells") rfl (by decide) (by kernel_rfl) ⟨rfl, ?_, ?_⟩ ?F h
    · show 1 + claimMargin + 3 * (3 * n + 3) + 5 < recursionLimit
      have e : 1 + claimMargin + 3 * (3 * 60 + 3) + 5 < recursionLimit := by decide
      omega
    · show 4 + 16 * (3 * n + 3) + 200 < cLine
      have e : 4 + 16 * (3 * 60 + 3) + 200 < cLine := by decide
      omega
    intro w mg fa h Y G hmg0
    obtain ⟨K, KX, c⟩ := Y
    have hmg : mg ("law" : PySem.Str) = some (.ref fa) := by
      have e : (HandSHeadRun.topDef (PySem.W.OpenLaw.row PySem.Challenge.rw_oddrings_k02_tables_made).prog 18).name = ("law" : PySem.Str) := by kernel_rfl
      rw [← e]
      exact hmg0
    have F := facts KX G c
    have e := hmg.symm.trans F.g_law
    cases e
    obtain ⟨fd, D⟩ := F.d_law
    exact ⟨K, fd, KX, law_b D, fun base _ _ => law_f F n D⟩

end Lw

namespace Lw
open PySem L2 Ev
theorem set_get {S : Store} {t : Nat} {c c' : Cell} (h : S[t]? = some (some c)) : (S.set t (some c'))[t]? = some (some c') := by
  rw [List.getElem?_set_self (List.getElem?_eq_some_iff.mp h).1]
/-- the tray at t -/
def Tr (t : Nat) (S : Store) : Prop := ∃ a b c : Int, S[t]? = some (some (.lst [.int a, .int b, .int c])) ∧ 0 ≤ a
theorem pos_p : (0 : Int) < 2147483323 := by omega
theorem store3 {S : Store} {t : Nat} {x0 x1 x2 v : D} {k : Nat} (hS : S[t]? = some (some (.lst [x0, x1, x2]))) (hk : k < 3) : pStore (.ref t) (.int k) v S = some (S.set t (some (.lst ([x0, x1, x2].set k v)))) := by
  have h0 : (0 : Int) ≤ k := by omega
  have h1 : (k : Int) < 3 := by omega
  simp [pStore, hS, ixN, h0, h1]
theorem ix3_0 {S : Store} {t : Nat} {x0 x1 x2 : D} (hS : S[t]? = some (some (.lst [x0, x1, x2]))) : pIx (.ref t) (.int 0) S = some (x0, S) := pIx_ref (k := 0) hS (by simp)
theorem ix3_1 {S : Store} {t : Nat} {x0 x1 x2 : D} (hS : S[t]? = some (some (.lst [x0, x1, x2]))) : pIx (.ref t) (.int 1) S = some (x1, S) := pIx_ref (k := 1) hS (by simp)
theorem ix3_2 {S : Store} {t : Nat} {x0 x1 x2 : D} (hS : S[t]? = some (some (.lst [x0, x1, x2]))) : pIx (.ref t) (.int 2) S = some (x2, S) := pIx_ref (k := 2) hS (by simp)
theorem take_tr {n t : Nat} {m : Int} {S : Store} (h : Tr t S) (hm : 0 < m) (hm2 : m < 1073741824) : ∃ (f : Nat) (x : Cell), callN (n + 1) 3 [.ref t, .int m] S = .ok (.int f) (S.set t (some x)) ∧ (f : Int) < m ∧ Tr t (S.set t (some x)) := by
  obtain ⟨a, b, c, hS, ha⟩ := h
  have nat : ∀ z : Int, 0 ≤ z % m → ∃ f : Nat, z % m = f ∧ (f : Int) < m := fun z hz => ⟨(z % m).toNat, by omega, by have := Int.emod_lt_of_pos z hm; omega⟩
  by_cases h : 0 < a
  · obtain ⟨f, ef, hf⟩ := nat a (Int.emod_nonneg _ (by omega))
    have g0 := store3 (v := .int (a / m)) (k := 0) hS (by omega)
    refine ⟨f, _, ?_, hf, a / m, b, c, set_get hS, Int.ediv_nonneg ha (by omega)⟩
    rw [show callN (n + 1) 3 = funM 3 2 (b__law_take (callN n)) from rfl]
    unfold b__law_take
    refine funM_rt rfl (sSeq_rt (sIf_t (asB_ok (eOp_ok (eOp_ok rfl rfl (ix3_0 hS)) rfl ?_)) (sSeq_nx (sAsg_ok (eCallV_ok (aCons_ok (eOp_ok rfl rfl (ix3_0 hS)) (aCons_ok rfl rfl)) (z := .tup [.int (a / m), .int f]) (S2 := S) ?_) (δ2 := [some (.ref t), some (.int m), some (.int f)]) (S2 := S.set t (some (.lst [.int (a / m), .int b, .int c]))) ?_) (sRet_ok rfl))))
    · rw [pGt_ii, decide_eq_true h]
    · simp only [pDivmod, hm, hm2, and_self, if_true, ef]
    · exact gTp2_ok (gSb_ok rfl rfl g0) rfl
  · have h0 : a = 0 := by omega
    subst h0
    have m1 : mulOk b ((b / 64) % 26003 + 23) = true := mul_r (by have := Int.emod_nonneg (b / 64) (show (26003 : Int) ≠ 0 by decide); omega) (by have := Int.emod_lt_of_pos (b / 64) (show (0 : Int) < 26003 by decide); omega)
    have m2 : mulOk 18013 (c + 1) = true := mul_l (by omega) (by omega)
    obtain ⟨f, ef, hf⟩ := nat ((b * ((b / 64) % 26003 + 23) + 18013 * (c + 1) + 11) % 2147483323 / 1024) (Int.emod_nonneg _ (by omega))
    have g1 := set_get (c' := .lst [.int 0, .int b, .int (c + 1)]) hS
    have g0 := store3 (v := .int (c + 1)) (k := 2) hS (by omega)
    have g2 := store3 (v := .int ((b * ((b / 64) % 26003 + 23) + 18013 * (c + 1) + 11) % 2147483323)) (k := 1) g1 (by omega)
    rw [List.set_set] at g2
    have g3 := set_get (c' := .lst [.int 0, .int ((b * ((b / 64) % 26003 + 23) + 18013 * (c + 1) + 11) % 2147483323), .int (c + 1)]) hS
    refine ⟨f, _, ?_, hf, 0, _, _, g3, Int.le_refl _⟩
    rw [show callN (n + 1) 3 = funM 3 2 (b__law_take (callN n)) from rfl]
    unfold b__law_take
    refine funM_rt rfl (sSeq_nx (sIf_f (asB_ok (eOp_ok (eOp_ok rfl rfl (ix3_0 hS)) rfl rfl)) rfl)
      (sSeq_nx (sAsg_ok (eOp_ok (eOp_ok rfl rfl (ix3_2 hS)) rfl rfl) (gSb_ok rfl rfl g0))
      (sSeq_nx (sAsg_ok (eOp_ok (eCallV_ok (aCons_ok (eOp_ok (eOp_ok (eOp_ok (eOp_ok rfl rfl (ix3_1 g1)) (eOp_ok (eOp_ok (eCallV_ok (aCons_ok (eOp_ok (eOp_ok rfl rfl (ix3_1 g1)) rfl (pFdiv_ii (by omega) (by omega))) rfl) pInt_i) rfl (pMod_ii (by omega))) rfl pAdd_ii) (pMul_ii m1)) (eOp_ok rfl (eOp_ok rfl rfl (ix3_2 g1)) (pMul_ii m2)) pAdd_ii) rfl pAdd_ii) rfl) pInt_i) rfl (pMod_ii pos_p)) (gSb_ok rfl rfl g2))
      (sRet_ok (eOp_ok (eCallV_ok (aCons_ok (eOp_ok (eOp_ok rfl rfl (ix3_1 g3)) rfl (pFdiv_ii (by omega) (by omega))) rfl) pInt_i) rfl ?_)))))
    rw [pMod_ii hm, ef]
    rfl
theorem tray_ev {n at_ : Nat} {ns : List Int} {S : Store} (hl : ns.length ≤ 63) : ∃ a b : Int, callN (n + 1) 5 [.scr ns, .int at_] S = .ok (.ref S.length) (S ++ [some (.lst [.int a, .int b, .int 3])]) ∧ 0 ≤ a := by
  rw [show callN (n + 1) 5 = funM 5 2 (b__law_tray (callN n)) from rfl]
  unfold b__law_tray
  have k0 : ∃ k : Nat, (if (9 : Int) < (ns.length : Int) then (9 : Int) else (ns.length : Int)) = (k : Int) ∧ k ≤ ns.length ∧ k ≤ 9 := by
    by_cases h : (9 : Int) < ns.length
    · exact ⟨9, by rw [if_pos h]; rfl, by omega, by omega⟩
    · exact ⟨ns.length, by rw [if_neg h], by omega, by omega⟩
  obtain ⟨k, ek, hk1, hk2⟩ := k0
  have own0 : ∃ own : Int, (eIf (fun δ => asB (eOp pLt (eVar 1) (eCallV (pLen) (aCons (eVar 0) aNil)) δ)) (eOp pIx (eVar 0) (eVar 1)) (eC (.int 0))) [some (.scr ns), some (.int at_), none, none, none] S = .ok (.int own) S := by
    by_cases h : at_ < ns.length
    · exact ⟨ns[at_], eIf_t (asB_ok (eOp_ok rfl (eCallV_ok (aCons_ok rfl rfl) pLen_scr) (by rw [pLt_ii, decide_eq_true (by omega)]))) (eOp_ok rfl rfl (pIx_scr h))⟩
    · exact ⟨0, eIf_f (asB_ok (eOp_ok rfl (eCallV_ok (aCons_ok rfl rfl) pLen_scr) (by rw [pLt_ii, decide_eq_false (by omega)]))) rfl⟩
  obtain ⟨own, eown⟩ := own0
  have m0 : mulOk 80021 (at_ : Int) = true := mul_l (by omega) (by omega)
  obtain ⟨δ2, S2, e2, x, o, rfl, rfl⟩ := loop_inv (mg := gNm 4) (mb := (sAsg (eOp pMod (eCallV pInt (aCons (eOp pAdd (eOp pAdd (eOp pMul (eVar 3) (eOp pAdd (eC (.int 30011)) (eOp pMul (eC (.int 2)) (eVar 4)))) (eOp pMul (eC (.int 13)) (eOp pIx (eVar 0) (eVar 4)))) (eC (.int 8009))) aNil)) (eC (.int 2147483323))) (gNm 3)))
    (ds := rngD 0 k) (δ := [some (.scr ns), some (.int at_), some (.int own), some (.int (173205 + 80021 * (at_ : Int))), none]) (S := S)
    (fun i δ S' => ∃ x o, δ = ([some (.scr ns), some (.int at_), some (.int own), some (.int x), o] : En) ∧ S' = S) (by
      rintro i δ S' hi ⟨x, o, rfl, rfl⟩
      rw [rng_get]
      rw [rng_len] at hi
      have m1 : mulOk x (30011 + 2 * (i : Int)) = true := mul_r (by omega) (by omega)
      exact ⟨_, _, rfl, _, _, sAsg_ok (eOp_ok (eCallV_ok (aCons_ok (eOp_ok (eOp_ok (eOp_ok rfl (eOp_ok rfl (eOp_ok rfl rfl (pMul_ii (mul_l (by omega) (by omega)))) pAdd_ii) (pMul_ii m1)) (eOp_ok rfl (eOp_ok rfl rfl (pIx_scr (k := i) (by omega))) (pMul_ii (mul_l (by omega) (by omega)))) pAdd_ii) rfl pAdd_ii) rfl) pInt_i) rfl (pMod_ii pos_p)) rfl, _, _, rfl, rfl⟩) ⟨_, none, rfl, rfl⟩
  have fin : ∃ a : Int, 0 ≤ a ∧ (eIf (tOrM (fun δ => asB (eOp pLt (eVar 2) (eC (.int 0)) δ)) (fun δ => asB (eOp pGe (eVar 2) (eOp pPow (eC (.int 10)) (eC (.int 18))) δ))) (eCallV (pAbs) (aCons (eVar 2) aNil)) (eC (.int 0))) [some (.scr ns), some (.int at_), some (.int own), some (.int x), o] S2 = .ok (.int a) S2 := by
    have hp : ∀ S, pPow (.int 10) (.int 18) S = some (.int (10 ^ 18), S) := fun S => rfl
    by_cases h : own < 0
    · exact ⟨-own, by omega, eIf_t (tOr_t (asB_ok (eOp_ok rfl rfl (by rw [pLt_ii, decide_eq_true h])))) (eCallV_ok (aCons_ok rfl rfl) (by simp only [pAbs, h, if_true]))⟩
    · by_cases h2 : 10 ^ 18 ≤ own
      · exact ⟨own, by omega, eIf_t (tOr_f (asB_ok (eOp_ok rfl rfl (by rw [pLt_ii, decide_eq_false h]))) (asB_ok (eOp_ok rfl (eOp_ok rfl rfl (hp _)) (by rw [pGe_ii, decide_eq_true h2])))) (eCallV_ok (aCons_ok rfl rfl) (by simp only [pAbs, h, if_false]))⟩
      · exact ⟨0, by omega, eIf_f (tOr_f (asB_ok (eOp_ok rfl rfl (by rw [pLt_ii, decide_eq_false h]))) (asB_ok (eOp_ok rfl (eOp_ok rfl rfl (hp _)) (by rw [pGe_ii, decide_eq_false h2])))) rfl⟩
  obtain ⟨a, ha, efin⟩ := fin
  refine ⟨a, (x * 5 + own * 6007) % 2147483323, ?_, ha⟩
  refine funM_rt rfl (sSeq_nx (sPar2_ok (aCons_ok eown (aCons_ok (eOp_ok rfl (eOp_ok rfl rfl (pMul_ii m0)) pAdd_ii) rfl))) (sSeq_nx (sFor_ok (iR1_ok (k := k) (aCons_ok (eCallV_ok (aCons_ok (eCallV_ok (aCons_ok rfl rfl) pLen_scr) (aCons_ok rfl rfl)) ?_) rfl) (by omega)) e2)
    (sRet_ok (eLstC_ok (aCons_ok efin (aCons_ok (eOp_ok (eCallV_ok (aCons_ok (eOp_ok (eOp_ok rfl rfl (pMul_ii (mul_r (by omega) (by omega)))) (eOp_ok rfl rfl (pMul_ii (mul_r (by omega) (by omega)))) pAdd_ii) rfl) pInt_i) rfl (pMod_ii pos_p)) (aCons_ok rfl rfl))) (show (3 : Nat) ≤ sizeLine by decide)))))
  show some (D.int (if (9 : Int) < (ns.length : Int) then (9 : Int) else (ns.length : Int)), S2) = _
  rw [ek]
end Lw
namespace Lw
open PySem L2 Ev
abbrev Rw := List (List Int)
def G01 (w : Nat) (R : Rw) : Prop := ∀ r ∈ R, r.length = w ∧ ∀ i ∈ r, i = 0 ∨ i = 1
def iD (r : List Int) : List D := r.map D.int
def rowsL (R : Rw) : D := .lst (R.map fun r => .lst (iD r))
def rowsT (R : Rw) : D := .tup (R.map fun r => .tup (iD r))
def Cells (s : Nat) (R : Rw) (S : Store) : Prop := ∀ (i : Nat) (r : List Int), R[i]? = some r → S[s + i]? = some (some (.lst (iD r)))
def refs (s n : Nat) : List D := (List.range' s n).map D.ref
theorem refs_len {s n : Nat} : (refs s n).length = n := by simp [refs]
theorem refs_get {s n i : Nat} (h : i < (refs s n).length) : (refs s n)[i] = .ref (s + i) := by simp [refs]
theorem iD_len {r : List Int} : (iD r).length = r.length := by simp [iD]
theorem iD_get {r : List Int} {i : Nat} (h : i < (iD r).length) : (iD r)[i] = .int (r[i]'(by simpa [iD] using h)) := by simp [iD]
theorem toPs_ints : ∀ r : List Int, toPs (iD r) = some (r.map PyData.int)
  | [] => rfl
  | i :: r => by
    show (toP (.int i)).bind (fun a => (toPs (iD r)).map fun b => a :: b) = _
    rw [toPs_ints r]; rfl
theorem toPSs_ints (S : Store) : ∀ r : List Int, toPSs S (iD r) = some (r.map PyData.int)
  | [] => rfl
  | i :: r => by
    show (toPS S (.int i)).bind (fun a => (toPSs S (iD r)).map fun b => a :: b) = _
    rw [toPSs_ints S r]; simp [toPS]
theorem any_one (r : List Int) : ((r.map PyData.int).any fun b => PyData.eqv b (.int 1)) = decide ((1 : Int) ∈ r) := by
  induction r with
  | nil => rfl
  | cons i r ih =>
    simp only [List.map_cons, List.any_cons, ih, PyData.eqv]
    by_cases h : i = 1
    · subst h; simp
    · have : ((1 : Int) ∈ i :: r) ↔ 1 ∈ r := by simp; omega
      simp [h, this]
theorem toPS_ref {S : Store} {j : Nat} {r : List Int} (h : S[j]? = some (some (.lst (iD r)))) : toPS S (.ref j) = some (.list (r.map PyData.int)) := by
  simp [toPS, plstOf, h, toPs_ints]
theorem notin_ref {S : Store} {j : Nat} {r : List Int} (h : S[j]? = some (some (.lst (iD r)))) : pNotIn (.int 1) (.ref j) S = some (.bl (!decide ((1 : Int) ∈ r)), S) := by
  simp only [pNotIn, inD, toPS_ref h]
  simp only [toPS, PyData.depth, Nat.zero_le, if_true, any_one, Option.map_some]
theorem in_tup {S : Store} {r : List Int} : pIn (.int 1) (.tup (iD r)) S = some (.bl (decide ((1 : Int) ∈ r)), S) := by
  simp only [pIn, inD, toPS, toPSs_ints, Option.map_some, PyData.depth, Nat.zero_le, if_true, any_one]
theorem cells_other {s : Nat} {R : Rw} {S : Store} {t : Nat} {x : Option Cell} (h : Cells s R S) (ht : t < s) : Cells s R (S.set t x) := fun i r e => by
  rw [List.getElem?_set_ne (by omega)]; exact h i r e
theorem cells_put {s : Nat} {R : Rw} {S : Store} {i : Nat} {r r' : List Int} (h : Cells s R S) (hi : R[i]? = some r) : Cells s (R.set i r') (S.set (s + i) (some (.lst (iD r')))) := fun j q e => by
  by_cases hj : i = j
  · subst hj
    rw [List.getElem?_set_self (List.getElem?_eq_some_iff.mp hi).1] at e
    cases e
    exact set_get (h i r hi)
  · rw [List.getElem?_set_ne hj] at e
    rw [List.getElem?_set_ne (by omega)]
    exact h j q e
theorem tr_other {t j : Nat} {S : Store} {x : Option Cell} (h : Tr t S) (hj : t ≠ j) : Tr t (S.set j x) := by
  obtain ⟨a, b, c, h1, h2⟩ := h
  exact ⟨a, b, c, by rw [List.getElem?_set_ne (Ne.symm hj)]; exact h1, h2⟩
theorem store_row {S : Store} {j : Nat} {r : List Int} {k : Nat} (h : S[j]? = some (some (.lst (iD r)))) (hk : k < r.length) : pStore (.ref j) (.int k) (.int 1) S = some (S.set j (some (.lst (iD (r.set k 1))))) := by
  have h0 : (0 : Int) ≤ k := by omega
  have h1 : (k : Int) < ((iD r).length : Int) := by rw [iD_len]; omega
  simp only [pStore, h, ixN, h0, h1, if_true, Option.map_some, Int.toNat_natCast]
  simp [iD]
theorem g01_set {w : Nat} {R : Rw} {i k : Nat} {r : List Int} (h : G01 w R) (hi : R[i]? = some r) : G01 w (R.set i (r.set k 1)) := fun q hq => by
  rcases List.mem_or_eq_of_mem_set hq with hq | rfl
  · exact h q hq
  · have hr := h r (List.mem_of_getElem? hi)
    refine ⟨by simp [hr.1], fun z hz => ?_⟩
    rcases List.mem_or_eq_of_mem_set hz with hz | rfl
    · exact hr.2 z hz
    · exact .inr rfl
theorem one_set {r : List Int} {k : Nat} (hk : k < r.length) : (1 : Int) ∈ r.set k 1 := by
  rw [List.mem_iff_getElem?]
  exact ⟨k, List.getElem?_set_self hk⟩
theorem one_keep {r : List Int} {k : Nat} (h : (1 : Int) ∈ r) : (1 : Int) ∈ r.set k 1 := by
  obtain ⟨i, hi⟩ := List.mem_iff_getElem?.mp h
  rw [List.mem_iff_getElem?]
  refine ⟨i, ?_⟩
  by_cases e : k = i
  · subst e; exact List.getElem?_set_self (List.getElem?_eq_some_iff.mp hi).1
  · rw [List.getElem?_set_ne e]; exact hi
/-! freezing the rows -/
theorem frz_ints (S : Store) : ∀ (n : Nat) (r : List Int), frzDs n (iD r) S = some (iD r, S)
  | n, [] => by simp [iD, frzDs]
  | n, i :: r => by
    have e : frzD n (.int i) S = some (.int i, S) := by cases n <;> simp only [frzD]
    rw [show iD (i :: r) = .int i :: iD r from rfl, frzDs, e]
    simp only [Option.bind_some, frz_ints S n r, Option.map_some]
theorem frz_refs : ∀ (R : Rw) (s : Nat) (S : Store), Cells s R S → ∃ S', frzDs 3 (refs s R.length) S = some (R.map (fun r => .lst (iD r)), S') ∧ ∀ j, j < s → S'[j]? = S[j]?
  | [], s, S, _ => ⟨S, by simp [refs, frzDs], fun _ _ => rfl⟩
  | r :: R, s, S, h => by
    have h0 := h 0 r rfl
    have hR : Cells (s + 1) R (S.set s none) := fun i q e => by
      rw [List.getElem?_set_ne (by omega), show s + 1 + i = s + (i + 1) by omega]
      exact h (i + 1) q (by simpa using e)
    obtain ⟨S', e, k⟩ := frz_refs R (s + 1) (S.set s none) hR
    refine ⟨S', ?_, fun j hj => by rw [k j (by omega), List.getElem?_set_ne (by omega)]⟩
    have er : refs s (r :: R).length = .ref s :: refs (s + 1) R.length := by simp [refs, List.range'_succ]
    rw [er, frzDs]
    have e1 : frzD 3 (.ref s) S = some (.lst (iD r), S.set s none) := by
      simp only [frzD, show S[s]? = some (some (.lst (iD r))) from h0, frz_ints, Option.map_some]
    rw [e1]
    simp only [Option.bind_some, e, Option.map_some, List.map_cons]
theorem frz_rows {R : Rw} {s : Nat} {S : Store} (h : Cells s R S) : ∃ S', frzD 4 (.lst (refs s R.length)) S = some (rowsL R, S') ∧ ∀ j, j < s → S'[j]? = S[j]? := by
  obtain ⟨S', e, k⟩ := frz_refs R s S h
  exact ⟨S', by simp only [frzD, e, Option.map_some]; rfl, k⟩
end Lw
namespace Lw
open PySem L2 Ev
theorem small {n : Nat} (h : n ≤ 1000) : n ≤ sizeLine := Nat.le_trans h (by decide)
theorem cells_new {S : Store} {R : Rw} : Cells S.length R (S ++ R.map fun r => some (.lst (iD r))) := fun i r e => by
  rw [List.getElem?_append_right (by omega), Nat.add_sub_cancel_left, List.getElem?_map, e]
  rfl
theorem tr_app {t : Nat} {S X : Store} (h : Tr t S) : Tr t (S ++ X) := by
  obtain ⟨a, b, c, h1, h2⟩ := h
  exact ⟨a, b, c, by rw [List.getElem?_append_left (List.getElem?_eq_some_iff.mp h1).1]; exact h1, h2⟩
theorem tr_lt {t : Nat} {S : Store} (h : Tr t S) : t < S.length := by
  obtain ⟨a, b, c, h1, _⟩ := h
  exact (List.getElem?_eq_some_iff.mp h1).1
/-- the rows that have a 1 in column k -/
def colP (S : Store) (k : Nat) : D → Bool
  | .ref j => (match S[j]? with
    | some (some (.lst xs)) => (match xs[k]? with
      | some (.int i) => i == 1
      | _ => false)
    | _ => false)
  | _ => false
theorem colP_ref {S : Store} {j k : Nat} {r : List Int} (h : S[j]? = some (some (.lst (iD r)))) (hk : k < r.length) : colP S k (.ref j) = (r[k] == 1) := by
  have : (iD r)[k]? = some (.int r[k]) := by simp [iD, hk]
  simp [colP, h, this]
theorem toPSs_refs {S : Store} : ∀ L : List D, (∀ d ∈ L, ∃ j r, d = .ref j ∧ S[j]? = some (some (.lst (iD r)))) → ∃ ps, toPSs S L = some ps ∧ ps.length = L.length ∧ PyData.depthAll ps ≤ 1
  | [], _ => ⟨[], rfl, rfl, Nat.zero_le _⟩
  | d :: L, h => by
    obtain ⟨ps, e1, e2, e3⟩ := toPSs_refs L fun d hd => h d (List.mem_cons_of_mem _ hd)
    obtain ⟨j, r, rfl, hr⟩ := h d (List.mem_cons_self ..)
    have dd : ∀ r : List Int, PyData.depthAll (r.map PyData.int) = 0 := by
      intro r
      induction r with
      | nil => rfl
      | cons i r ih => simp [PyData.depthAll, PyData.depth, ih]
    refine ⟨.list (r.map PyData.int) :: ps, ?_, by simp [e2], ?_⟩
    · simp only [toPSs, toPS_ref hr, Option.bind_some, e1, Option.map_some]
    · simp only [PyData.depthAll, PyData.depth, dd]
      omega
theorem eq_nil {S : Store} {L : List D} (h : ∀ d ∈ L, ∃ j r, d = .ref j ∧ S[j]? = some (some (.lst (iD r)))) : pEq (.lst L) (.lst []) S = some (.bl L.isEmpty, S) := by
  obtain ⟨ps, e1, e2, e3⟩ := toPSs_refs L h
  have hd : (PyData.list ps).depth ≤ 60 := by simp only [PyData.depth]; omega
  simp only [pEq, eqD, toPS, e1, Option.map_some, toPSs, hd, if_true]
  cases L with
  | nil =>
    cases ps with
    | nil => rfl
    | cons _ _ => simp at e2
  | cons d L =>
    cases ps with
    | nil => simp at e2
    | cons p ps => simp [PyData.eqv, PyData.eqvAll]
theorem filled_ev {n t h w : Nat} {R0 : Rw} {S : Store} (ht : Tr t S) (hh : R0.length = h) (h1 : 0 < h) (h2 : h ≤ 8) (w1 : 0 < w) (w2 : w ≤ 8) (hg : G01 w R0) :
    ∃ R S', callN (n + 2) 7 [.ref t, rowsL R0] S = .ok (rowsL R) S' ∧ Tr t S' ∧ R.length = h ∧ G01 w R ∧ (∀ r ∈ R, (1 : Int) ∈ r) ∧ ∀ k, k < w → ∃ r ∈ R, r[k]? = some 1 := by
  rw [show callN (n + 2) 7 = funM 5 2 (b__law_filled (callN (n + 1))) from rfl]
  unfold b__law_filled
  -- the copies
  have hd0 : ∀ r ∈ R0, (iD r).length ≤ sizeLine := fun r hr => by rw [iD_len, (hg r hr).1]; exact small (by omega)
  obtain ⟨ys, S1, e1, p1, p2⟩ := lc_inv (up := uNm 3) (mt := tYesM) (me := eCallV (pList newC) (aCons (eVar 3) aNil)) (δ0 := wipeD [some (.ref t), some (rowsL R0), none, none, none] [3]) (ds := R0.map fun r => .lst (iD r)) (S := S)
    (fun k acc S' => acc = refs S.length k ∧ S' = S ++ (R0.take k).map fun r => some (Cell.lst (iD r))) (by
      rintro k acc S' hk ⟨rfl, rfl⟩
      have hk' : k < R0.length := by simpa using hk
      refine ⟨[(3, (R0.map fun r => D.lst (iD r))[k])], rfl, .inr ⟨_, rfl, .ref (S.length + k), S ++ (R0.take (k + 1)).map fun r => some (Cell.lst (iD r)), ?_, ?_, ?_, rfl⟩⟩
      · rw [List.getElem_map]
        refine eCallV_ok (aCons_ok rfl rfl) ?_
        have hn := newC_ev (S := S ++ (R0.take k).map fun r => some (Cell.lst (iD r))) (hd0 R0[k] (List.getElem_mem hk'))
        simp only [pList, seqOf, lstOf, Option.bind_some, hn]
        have hlen : (S ++ (R0.take k).map fun r => some (Cell.lst (iD r))).length = S.length + k := by simp [Nat.min_eq_left (Nat.le_of_lt hk')]
        rw [hlen, List.take_succ_eq_append_getElem hk', List.map_append, List.append_assoc]
        rfl
      · rw [refs_len]; exact Nat.lt_of_lt_of_le (by omega) (small (n := 1000) (by omega))
      · simp [refs, List.range'_concat]) ⟨by simp [refs], by simp⟩
  rw [List.length_map, hh] at p1
  rw [List.length_map, List.take_length] at p2
  have c1 : Cells S.length R0 S1 := by rw [p2]; exact cells_new
  have t1 : Tr t S1 := by rw [p2]; exact tr_app ht
  have hts : t < S.length := tr_lt ht
  generalize hs : S.length = s at *
  have hrl : (refs s h).length ≤ sizeLine := by rw [refs_len]; exact small (by omega)
  -- the rows
  obtain ⟨δ2, S2, e2, ⟨o2, rfl⟩, R1, q1, q2, q3, q4, q5⟩ := loop_inv (mg := gNm 3) (mb := (sIf (fun δ => asB (eOp pNotIn (eC (.int 1)) (eVar 3) δ)) (sAsg (eC (.int 1)) (gSb pStore (eVar 3) (eCal (callN (n + 1) 3) (aCons (eVar 0) (aCons (eCallV (pLen) (aCons (eVar 3) aNil)) aNil))))) sNext))
    (ds := refs s h) (δ := [some (.ref t), some (rowsL R0), some (.lst (refs s h)), none, none]) (S := S1)
    (fun k δ S' => (∃ o, δ = ([some (.ref t), some (rowsL R0), some (.lst (refs s h)), o, none] : En)) ∧ ∃ R : Rw, R.length = h ∧ G01 w R ∧ Cells s R S' ∧ Tr t S' ∧ ∀ j, j < k → ∀ r, R[j]? = some r → (1 : Int) ∈ r) (by
      rintro k δ S' hk ⟨⟨o, rfl⟩, R, r1, r2, r3, r4, r5⟩
      rw [refs_get]
      rw [refs_len] at hk
      have hkR : k < R.length := by omega
      have hr : R[k]? = some R[k] := List.getElem?_eq_getElem hkR
      have hc := r3 k _ hr
      have hw : R[k].length = w := (r2 _ (List.getElem_mem hkR)).1
      refine ⟨_, _, rfl, ?_⟩
      by_cases h : (1 : Int) ∈ R[k]
      · refine ⟨_, S', sIf_f (asB_ok (eOp_ok rfl rfl (by rw [notin_ref hc, decide_eq_true h]; rfl))) rfl, ⟨_, rfl⟩, R, r1, r2, r3, r4, fun j hj r e => ?_⟩
        by_cases ej : j = k
        · subst ej; rw [hr] at e; cases e; exact h
        · exact r5 j (by omega) r e
      · obtain ⟨f, x, ef, hf, tf⟩ := take_tr (n := n) (m := (R[k].length : Int)) r4 (by omega) (by omega)
        have c2 := cells_other (x := some x) r3 hts
        have hst := store_row (k := f) (c2 k _ hr) (by omega)
        refine ⟨_, _, sIf_t (asB_ok (eOp_ok rfl rfl (by rw [notin_ref hc, decide_eq_false h]; rfl))) (sAsg_ok rfl (gSb_ok rfl (eCal_ok (aCons_ok rfl (aCons_ok (eCallV_ok (aCons_ok rfl rfl) (pLen_ref hc)) rfl)) (by rw [iD_len]; exact ef)) hst)), ⟨_, rfl⟩, R.set k (R[k].set f 1), by simp [r1], g01_set r2 hr, cells_put c2 hr, tr_other tf (by omega), fun j hj r e => ?_⟩
        by_cases ej : k = j
        · subst ej
          rw [List.getElem?_set_self hkR] at e
          cases e
          exact one_set (by omega)
        · rw [List.getElem?_set_ne ej] at e
          exact r5 j (by omega) r e) ⟨⟨none, rfl⟩, R0, hh, hg, c1, t1, fun j hj => by omega⟩
  rw [refs_len] at q5
  have full1 : ∀ r ∈ R1, (1 : Int) ∈ r := fun r hr => by
    obtain ⟨j, hj⟩ := List.mem_iff_getElem?.mp hr
    exact q5 j (by have := (List.getElem?_eq_some_iff.mp hj).1; omega) r hj
  -- the columns
  obtain ⟨δ3, S3, e3, ⟨o3, o4, rfl⟩, R2, u1, u2, u3, u4, u5, u6⟩ := loop_inv (mg := gNm 4) (mb := (sIf (fun δ => asB (eOp pEq (eLc newL (iAny (eVar 2)) (uNm 3) (fun δ => asB (eOp pEq (eOp pIx (eVar 3) (eVar 4)) (eC (.int 1)) δ)) (eVar 3) [3]) (eLst aNil) δ)) (sAsg (eC (.int 1)) (gSb pStore (eOp pIx (eVar 2) (eCal (callN (n + 1) 3) (aCons (eVar 0) (aCons (eCallV (pLen) (aCons (eVar 2) aNil)) aNil)))) (eVar 4))) sNext))
    (ds := rngD 0 w) (δ := [some (.ref t), some (rowsL R0), some (.lst (refs s h)), o2, none]) (S := S2)
    (fun k δ S' => (∃ o o', δ = ([some (.ref t), some (rowsL R0), some (.lst (refs s h)), o, o'] : En)) ∧ ∃ R : Rw, R.length = h ∧ G01 w R ∧ Cells s R S' ∧ Tr t S' ∧ (∀ r ∈ R, (1 : Int) ∈ r) ∧ ∀ j, j < k → ∃ r ∈ R, r[j]? = some 1) (by
      rintro k δ S' hk ⟨⟨o, o', rfl⟩, R, r1, r2, r3, r4, r5, r6⟩
      rw [rng_get]
      rw [rng_len] at hk
      have atR : ∀ j, j < h → ∃ r, R[j]? = some r ∧ S'[s + j]? = some (some (.lst (iD r))) ∧ r.length = w := fun j hj => by
        have hjR : j < R.length := by omega
        exact ⟨R[j], List.getElem?_eq_getElem hjR, r3 j _ (List.getElem?_eq_getElem hjR), (r2 _ (List.getElem_mem hjR)).1⟩
      have inRefs : ∀ d ∈ refs s h, ∃ j, j < h ∧ d = .ref (s + j) := fun d hd => by
        obtain ⟨a, ha, rfl⟩ := List.mem_map.mp hd
        obtain ⟨i, hi, rfl⟩ := List.mem_range'.mp ha
        exact ⟨i, hi, by simp⟩
      have ev := lc_filter (ds := refs s h) (S := S') (mt := fun δ => asB (eOp pEq (eOp pIx (eVar 3) (eVar 4)) (eC (.int 1)) δ)) (me := eVar 3) (δ0 := wipeD [some (.ref t), some (rowsL R0), some (.lst (refs s h)), o, some (.int k)] [3]) (k := 3) (colP S' k) id hrl
        (fun d hd => by
          obtain ⟨j, hj, rfl⟩ := inRefs d hd
          obtain ⟨r, a1, a2, a3⟩ := atR j hj
          rw [colP_ref a2 (by omega)]
          refine asB_ok (eOp_ok (eOp_ok rfl rfl (pIx_ref (k := k) a2 (by rw [iD_len]; omega))) rfl ?_)
          rw [iD_get, pEq_ii])
        (fun d hd _ => by
          obtain ⟨j, hj, rfl⟩ := inRefs d hd
          rfl)
      rw [List.map_id] at ev
      have hfl : ((refs s h).filter (colP S' k)).length ≤ sizeLine := Nat.le_trans (List.length_filter_le _ _) hrl
      have hall : ∀ d ∈ (refs s h).filter (colP S' k), ∃ j r, d = .ref j ∧ S'[j]? = some (some (.lst (iD r))) := fun d hd => by
        obtain ⟨j, hj, rfl⟩ := inRefs d (List.mem_filter.mp hd).1
        obtain ⟨r, a1, a2, a3⟩ := atR j hj
        exact ⟨_, r, rfl, a2⟩
      have test : (fun δ => asB (eOp pEq (eLc newL (iAny (eVar 2)) (uNm 3) (fun δ => asB (eOp pEq (eOp pIx (eVar 3) (eVar 4)) (eC (.int 1)) δ)) (eVar 3) [3]) (eLst aNil) δ)) [some (.ref t), some (rowsL R0), some (.lst (refs s h)), o, some (.int k)] S' = .ok ((refs s h).filter (colP S' k)).isEmpty S' :=
        asB_ok (eOp_ok (eLc_ok (iAny_ok rfl rfl) ev (newL_ev hfl)) (eLst_ok rfl (Nat.zero_le _)) (eq_nil hall))
      refine ⟨_, _, rfl, ?_⟩
      cases hemp : ((refs s h).filter (colP S' k)).isEmpty with
      | false =>
        rw [hemp] at test
        refine ⟨_, S', sIf_f test rfl, ⟨_, _, rfl⟩, R, r1, r2, r3, r4, r5, fun j hj => ?_⟩
        by_cases ej : j = k
        · subst ej
          obtain ⟨d, hd⟩ : ∃ d, d ∈ (refs s h).filter (colP S' j) := by
            cases hL : (refs s h).filter (colP S' j) with
            | nil => rw [hL] at hemp; cases hemp
            | cons d L => exact ⟨d, List.mem_cons_self ..⟩
          obtain ⟨m1, m2⟩ := List.mem_filter.mp hd
          obtain ⟨i, hi, rfl⟩ := inRefs d m1
          obtain ⟨r, a1, a2, a3⟩ := atR i hi
          rw [colP_ref a2 (by omega)] at m2
          refine ⟨r, List.mem_of_getElem? a1, ?_⟩
          rw [List.getElem?_eq_getElem (by omega)]
          exact congrArg some (eq_of_beq m2)
        · exact r6 j (by omega)
      | true =>
        rw [hemp] at test
        obtain ⟨f, x, ef, hf, tf⟩ := take_tr (n := n) (m := (h : Int)) r4 (by omega) (by omega)
        have hfh : f < h := by omega
        obtain ⟨r, a1, a2, a3⟩ := atR f hfh
        have c2 := cells_other (x := some x) r3 hts
        have hst := store_row (k := k) (c2 f _ a1) (by omega)
        refine ⟨_, _, sIf_t test (sAsg_ok rfl (gSb_ok (eOp_ok rfl (eCal_ok (aCons_ok rfl (aCons_ok (eCallV_ok (aCons_ok rfl rfl) pLen_lst) rfl)) (by rw [refs_len]; exact ef)) (by rw [pIx_lst (k := f) (by rw [refs_len]; exact hfh), refs_get])) rfl hst)), ⟨_, _, rfl⟩, R.set f (r.set k 1), by simp [r1], g01_set r2 a1, cells_put c2 a1, tr_other tf (by omega), fun q hq => ?_, fun j hj => ?_⟩
        · rcases List.mem_or_eq_of_mem_set hq with hq | rfl
          · exact r5 q hq
          · exact one_keep (r5 r (List.mem_of_getElem? a1))
        · by_cases ej : j = k
          · subst ej
            refine ⟨r.set j 1, ?_, List.getElem?_set_self (by omega)⟩
            rw [List.mem_iff_getElem?]
            exact ⟨f, List.getElem?_set_self (by omega)⟩
          · obtain ⟨q, hq, e⟩ := r6 j (by omega)
            obtain ⟨i, hi⟩ := List.mem_iff_getElem?.mp hq
            by_cases ei : f = i
            · subst ei
              rw [a1] at hi; cases hi
              refine ⟨r.set k 1, ?_, by rw [List.getElem?_set_ne (by omega)]; exact e⟩
              rw [List.mem_iff_getElem?]
              exact ⟨f, List.getElem?_set_self (by omega)⟩
            · refine ⟨q, ?_, e⟩
              rw [List.mem_iff_getElem?]
              exact ⟨i, by rw [List.getElem?_set_ne ei]; exact hi⟩) ⟨⟨o2, none, rfl⟩, R1, q1, q2, q3, q4, full1, fun j hj => by omega⟩
  rw [rng_len] at u6
  obtain ⟨S4, e4, k4⟩ := frz_rows u3
  rw [u1] at e4
  refine ⟨R2, S4, ?_, ?_, u1, u2, u5, u6⟩
  · have w0 : ∃ r0, R0[0]? = some r0 ∧ True := ⟨R0[0]'(by omega), List.getElem?_eq_getElem (by omega), trivial⟩
    have q10 : 0 < R1.length := by omega
    have hc0 := q3 0 _ (List.getElem?_eq_getElem q10)
    have hw0 : R1[0].length = w := (q2 _ (List.getElem_mem q10)).1
    refine funM_rt rfl (sSeq_nx (sAsg_ok (eLc_ok (iAny_ok rfl rfl) e1 (newL_ev (by rw [p1]; exact hrl))) rfl) (sSeq_nx (sFor_ok (iAny_ok (x := .lst (refs s h)) (by rw [p1]; rfl) rfl) (by rw [p1]; exact e2))
      (sSeq_nx (sFor_ok (iR1_ok (k := w) (aCons_ok (eCallV_ok (aCons_ok (eOp_ok rfl rfl (pIx_lst (k := 0) (by rw [refs_len]; exact h1))) rfl) (by rw [refs_get, pLen_ref hc0, iD_len, hw0])) rfl) (by omega)) e3) (sRet_ok (eFrz_ok rfl e4)))))
  · obtain ⟨a, b, c, v1, v2⟩ := u4
    exact ⟨a, b, c, by rw [k4 t hts]; exact v1, v2⟩
end Lw
namespace Lw
open PySem L2 Ev
/-- a filled table of h rows and w columns -/
structure Full (h w : Nat) (R : Rw) : Prop where
  len : R.length = h
  g : G01 w R
  row : ∀ r ∈ R, (1 : Int) ∈ r
  col : ∀ k, k < w → ∃ r ∈ R, r[k]? = some 1
  h1 : 0 < h
  h2 : h ≤ 8
  w1 : 0 < w
  w2 : w ≤ 8
theorem iD_app {a : List Int} {i : Int} : iD (a ++ [i]) = iD a ++ [.int i] := by simp [iD]
theorem rows_ev {n t h w : Nat} {S : Store} (ht : Tr t S) (h1 : 0 < h) (h2 : h ≤ 8) (w1 : 0 < w) (w2 : w ≤ 8) : ∃ R S', callN (n + 3) 4 [.ref t, .int h, .int w] S = .ok (rowsL R) S' ∧ Tr t S' ∧ Full h w R := by
  rw [show callN (n + 3) 4 = funM 7 3 (b__law_rows (callN (n + 2))) from rfl]
  unfold b__law_rows
  obtain ⟨f, x, ef, hf, tf⟩ := take_tr (n := n + 1) (m := 3) ht (by omega) (by omega)
  have line : ∀ (δ : En) (S : Store), δ[0]? = some (some (.ref t)) → δ[3]? = some (some (.int (1 + f))) → δ.length = 7 → Tr t S → ∃ r S', loopC (uNm 5) tYesM (eCallV pInt (aCons (eOp pLt (eCal (callN (n + 2) 3) (aCons (eVar 0) (aCons (eC (.int 4)) aNil))) (eVar 3)) aNil)) δ (rngD 0 w) [] S = .ok (iD r) S' ∧ Tr t S' ∧ r.length = w ∧ ∀ i ∈ r, i = 0 ∨ i = 1 := by
    intro δ S d0 d3 dl hS
    obtain ⟨ys, S', e, r, rfl, p1, p2, p3⟩ := lc_inv (up := uNm 5) (mt := tYesM) (me := eCallV pInt (aCons (eOp pLt (eCal (callN (n + 2) 3) (aCons (eVar 0) (aCons (eC (.int 4)) aNil))) (eVar 3)) aNil)) (δ0 := δ) (ds := rngD 0 w) (S := S)
      (fun k acc S' => ∃ r, acc = iD r ∧ Tr t S' ∧ r.length = k ∧ ∀ i ∈ r, i = 0 ∨ i = 1) (by
        rintro k acc S' hk ⟨r, rfl, r1, r2, r3⟩
        rw [rng_len] at hk
        obtain ⟨g, y, eg, hg, tg⟩ := take_tr (n := n + 1) (m := 4) r1 (by omega) (by omega)
        have v0 : ∀ S', eVar 0 (δ.set 5 (some (rngD 0 w)[k])) S' = .ok (.ref t) S' := fun S' => by simp only [eVar, List.getElem?_set_ne (show 5 ≠ 0 by decide), d0, M.pure]
        have v3 : ∀ S', eVar 3 (δ.set 5 (some (rngD 0 w)[k])) S' = .ok (.int (1 + f)) S' := fun S' => by simp only [eVar, List.getElem?_set_ne (show 5 ≠ 3 by decide), d3, M.pure]
        refine ⟨[(5, (rngD 0 w)[k])], rfl, .inr ⟨S', rfl, _, _, eCallV_ok (aCons_ok (eOp_ok (eCal_ok (aCons_ok (v0 _) (aCons_ok rfl rfl)) eg) (v3 _) pLt_ii) rfl) pInt_b, ?_, r ++ [if decide ((g : Int) < 1 + f) = true then 1 else 0], iD_app.symm, tg, by simp [r2], fun i hi => ?_⟩⟩
        · rw [iD_len, r2]; exact Nat.lt_of_lt_of_le (by omega) (small (n := 1000) (by omega))
        · rcases List.mem_append.mp hi with hi | hi
          · exact r3 i hi
          · rw [List.mem_singleton.mp hi]
            split <;> simp) ⟨[], rfl, hS, rfl, fun i hi => by simp at hi⟩
    rw [rng_len] at p2
    exact ⟨r, S', e, p1, p2, p3⟩
  obtain ⟨ys, S2, e2, R0, rfl, t2, l2, g2⟩ := lc_inv (up := uNm 6) (mt := tYesM) (me := eLc newL (iR1 (aCons (eVar 2) aNil)) (uNm 5) tYesM (eCallV pInt (aCons (eOp pLt (eCal (callN (n + 2) 3) (aCons (eVar 0) (aCons (eC (.int 4)) aNil))) (eVar 3)) aNil)) [5])
    (δ0 := wipeD [some (.ref t), some (.int h), some (.int w), some (.int (1 + f)), none, none, none] [6]) (ds := rngD 0 h) (S := S.set t (some x))
    (fun k acc S' => ∃ R : Rw, acc = R.map (fun r => .lst (iD r)) ∧ Tr t S' ∧ R.length = k ∧ G01 w R) (by
      rintro k acc S' hk ⟨R, rfl, r1, r2, r3⟩
      rw [rng_len] at hk
      obtain ⟨r, S3, e3, t3, l3, g3⟩ := line (wipeD (([some (.ref t), some (.int h), some (.int w), some (.int (1 + f)), none, none, none] : En).set 6 (some (rngD 0 h)[k])) [5]) S' rfl rfl rfl r1
      refine ⟨[(6, (rngD 0 h)[k])], rfl, .inr ⟨S', rfl, _, _, eLc_ok (iR1_ok (k := w) (aCons_ok rfl rfl) (by omega)) e3 (newL_ev (by rw [iD_len, l3]; exact small (by omega))), ?_, R ++ [r], by simp, t3, by simp [r2], fun q hq => ?_⟩⟩
      · simp only [List.length_map, r2]; exact Nat.lt_of_lt_of_le (by omega) (small (n := 1000) (by omega))
      · rcases List.mem_append.mp hq with hq | hq
        · exact r3 q hq
        · rw [List.mem_singleton.mp hq]; exact ⟨l3, g3⟩) ⟨[], rfl, tf, rfl, fun q hq => by simp at hq⟩
  rw [rng_len] at l2
  obtain ⟨R, S3, e3, t3, a1, a2, a3, a4⟩ := filled_ev (n := n) t2 l2 h1 h2 w1 w2 g2
  refine ⟨R, S3, ?_, t3, ⟨a1, a2, a3, a4, h1, h2, w1, w2⟩⟩
  exact funM_rt rfl (sSeq_nx (sAsg_ok (eOp_ok rfl (eCal_ok (aCons_ok rfl (aCons_ok rfl rfl)) ef) pAdd_ii) rfl) (sSeq_nx (sAsg_ok (eLc_ok (iR1_ok (k := h) (aCons_ok rfl rfl) (by omega)) e2 (newL_ev (by rw [List.length_map, l2]; exact small (by omega)))) rfl) (sRet_ok (eCal_ok (aCons_ok rfl (aCons_ok rfl rfl)) e3))))
/-! the text -/
def dig (i : Int) : Str := toString i
def ln (r : List Int) : Str := Txt.join "" (r.map dig)
def txt (R : Rw) : Str := Txt.join "\n" (R.map ln)
theorem dig_tl {i : Int} (h : i = 0 ∨ i = 1) : TL.tl (dig i) = [48 + i.toNat] := by
  rcases h with rfl | rfl <;> decide +kernel
theorem joinL_nil : ∀ l : List (List Nat), TL.joinL [] l = l.flatten
  | [] => rfl
  | [p] => by simp [TL.joinL]
  | p :: q :: r => by
    show p ++ ([] ++ TL.joinL [] (q :: r)) = _
    rw [joinL_nil (q :: r)]; simp
theorem ln_tl {r : List Int} (h : ∀ i ∈ r, i = 0 ∨ i = 1) : TL.tl (ln r) = r.map fun i => 48 + i.toNat := by
  unfold ln
  rw [TL.join_eq, TL.tl_join, show TL.tl ("" : Str) = [] from by decide +kernel, joinL_nil, List.map_map]
  induction r with
  | nil => rfl
  | cons i r ih =>
    simp only [List.map_cons, List.flatten_cons, Function.comp]
    rw [dig_tl (h i (List.mem_cons_self ..))]
    have := ih fun j hj => h j (List.mem_cons_of_mem _ hj)
    simp only [Function.comp_def] at this ⊢
    rw [this]; rfl
theorem str_len (x : Str) : x.length = (TL.tl x).length := by simp [TL.tl, Str.length]
theorem ln_len {r : List Int} (h : ∀ i ∈ r, i = 0 ∨ i = 1) : (ln r).length = r.length := by rw [str_len, ln_tl h, List.length_map]
end Lw
namespace Lw
open PySem L2 Ev
theorem strs_of : ∀ l : List Str, strsOf (l.map D.str) = some l
  | [] => rfl
  | x :: l => by simp [strsOf, strs_of l]
theorem join_ok {a : Str} {ys : List Str} {S : Store} (h : (ys.map (·.length)).sum + ys.length * a.length ≤ 16777216) : pJoin (.str a) [.lst (ys.map D.str)] S = some (.str (Txt.join a ys), S) := by
  simp only [pJoin, seqOf, lstOf, Option.bind_some, strs_of, h, if_true]
theorem sum_le {l : List Nat} {b : Nat} (h : ∀ x ∈ l, x ≤ b) : l.sum ≤ l.length * b := by
  induction l with
  | nil => simp
  | cons x l ih =>
    have h1 := h x (List.mem_cons_self ..)
    have h2 := ih fun y hy => h y (List.mem_cons_of_mem _ hy)
    simp only [List.sum_cons, List.length_cons, Nat.succ_mul]
    omega
theorem dig_len {i : Int} (h : i = 0 ∨ i = 1) : (dig i).length = 1 := by rw [str_len, dig_tl h]; rfl
theorem text_ev {n h w : Nat} {R : Rw} {S : Store} (F : Full h w R) : callN (n + 1) 2 [rowsL R] S = .ok (.str (txt R)) S := by
  rw [show callN (n + 1) 2 = funM 3 1 (b__law_text (callN n)) from rfl]
  unfold b__law_text
  have hR : (R.map fun r => D.lst (iD r)).length ≤ sizeLine := by rw [List.length_map, F.len]; exact small (by have := F.h2; omega)
  have one : ∀ r ∈ R, ∀ δ : En, δ.length = 3 → (eMB "str" pJoin (eC (.str "")) (aCons (eLc newL (iAny (eVar 2)) (uNm 1) tYesM (eCallV (pStrI (strT (callN n))) (aCons (eVar 1) aNil)) [1]) aNil)) (δ.set 2 (some (.lst (iD r)))) S = .ok (.str (ln r)) S := by
    intro r hr δ hd
    obtain ⟨g1, g2⟩ := F.g r hr
    obtain ⟨a, b, c, rfl⟩ : ∃ a b c, δ = [a, b, c] := by
      match δ, hd with
      | [a, b, c], _ => exact ⟨a, b, c, rfl⟩
    have hl : (iD r).length ≤ sizeLine := by rw [iD_len, g1]; exact small (by have := F.w2; omega)
    have e := lc_map (ds := iD r) (S := S) (me := eCallV (pStrI (strT (callN n))) (aCons (eVar 1) aNil)) (δ0 := wipeD [a, b, some (.lst (iD r))] [1]) (k := 1) (fun d => match d with
      | .int i => .str (dig i)
      | d => d) hl (fun d hd => by
        obtain ⟨i, hi, rfl⟩ := List.mem_map.mp hd
        refine eCallV_ok (aCons_ok rfl rfl) ?_
        rcases g2 i hi with rfl | rfl <;> rfl)
    have e2 : ((iD r).map fun d => match d with
      | .int i => D.str (dig i)
      | d => d) = (r.map dig).map D.str := by simp [iD]
    rw [e2] at e
    have hs : (((r.map dig).map (·.length)).sum + (r.map dig).length * ("" : Str).length ≤ 16777216) := by
      have h1 := sum_le (l := (r.map dig).map (·.length)) (b := 1) fun x hx => by
        obtain ⟨y, hy, rfl⟩ := List.mem_map.mp hx
        obtain ⟨i, hi, rfl⟩ := List.mem_map.mp hy
        rw [dig_len (g2 i hi)]
        exact Nat.le_refl _
      have h0 : ("" : Str).length = 0 := by decide +kernel
      rw [h0]
      simp only [List.length_map] at h1 ⊢
      have := F.w2
      omega
    exact eMB_ok rfl rfl (aCons_ok (eLc_ok (iAny_ok rfl rfl) e (newL_ev (by rw [List.length_map, List.length_map, g1]; exact small (by have := F.w2; omega)))) rfl) (join_ok hs)
  have e := lc_map (ds := R.map fun r => D.lst (iD r)) (S := S) (me := (eMB "str" pJoin (eC (.str "")) (aCons (eLc newL (iAny (eVar 2)) (uNm 1) tYesM (eCallV (pStrI (strT (callN n))) (aCons (eVar 1) aNil)) [1]) aNil))) (δ0 := wipeD [some (rowsL R), none, none] [2]) (k := 2) (fun d => match d with
    | .lst xs => .str (Txt.join "" (xs.map fun d => match d with
      | .int i => dig i
      | _ => Str.empty))
    | d => d) hR (fun d hd => by
      obtain ⟨r, hr, rfl⟩ := List.mem_map.mp hd
      rw [one r hr _ rfl]
      simp only [iD, List.map_map, ln]
      rfl)
  have e2 : ((R.map fun r => D.lst (iD r)).map fun d => match d with
    | .lst xs => D.str (Txt.join "" (xs.map fun d => match d with
      | .int i => dig i
      | _ => Str.empty))
    | d => d) = (R.map ln).map D.str := by
    simp only [List.map_map]
    refine List.map_congr_left fun r _ => ?_
    simp only [Function.comp, iD, List.map_map, ln]
    rfl
  rw [e2] at e
  have hs : (((R.map ln).map (·.length)).sum + (R.map ln).length * ("\n" : Str).length ≤ 16777216) := by
    have h1 := sum_le (l := (R.map ln).map (·.length)) (b := 8) fun x hx => by
      obtain ⟨y, hy, rfl⟩ := List.mem_map.mp hx
      obtain ⟨r, hr, rfl⟩ := List.mem_map.mp hy
      obtain ⟨g1, g2⟩ := F.g r hr
      rw [ln_len g2, g1]
      exact F.w2
    have h0 : ("\n" : Str).length = 1 := by decide +kernel
    rw [h0]
    simp only [List.length_map] at h1 ⊢
    have := F.h2
    have := F.len
    omega
  exact funM_rt rfl (sRet_ok (eMB_ok rfl rfl (aCons_ok (eLc_ok (iAny_ok rfl rfl) e (newL_ev (by rw [List.length_map, List.length_map, F.len]; exact small (by have := F.h2; omega)))) rfl) (join_ok hs)))
/-! is_full -/
theorem bls_of : ∀ l : List Bool, blsOf (l.map D.bl) = some l
  | [] => rfl
  | x :: l => by simp [blsOf, bls_of l]
theorem all_ok {l : List Bool} {S : Store} : pAll true [.lst (l.map D.bl)] S = some (.bl (l.all id), S) := by
  simp [pAll, lstOf, bls_of]
def colOf (R : Rw) (k : Nat) : List Int := R.map fun r => r.getD k 0
theorem zip_rows {h w : Nat} {R : Rw} (F : Full h w R) : pZip (R.map fun r => D.tup (iD r)) = some ((List.range w).map fun k => .tup (iD (colOf R k))) := by
  have fz : ∀ R : Rw, frzs (R.map fun r => D.tup (iD r)) = some (R.map iD) := by
    intro R
    induction R with
    | nil => rfl
    | cons r R ih => simp only [List.map_cons, frzs, frz, ih]
  obtain ⟨r0, R', e⟩ : ∃ r0 R', R = r0 :: R' := by
    cases R with
    | nil => have := F.len; have := F.h1; simp at *; omega
    | cons r R => exact ⟨r, R, rfl⟩
  have g := F.g
  have hl := F.len
  have hh := F.h2
  subst e
  unfold pZip
  rw [fz]
  simp only [List.map_cons]
  have w0 := (g r0 (List.mem_cons_self ..)).1
  have hc : (R'.map iD).length < 9 ∧ ∀ y ∈ R'.map iD, y.length = (iD r0).length := by
    refine ⟨by simp at hl ⊢; omega, fun y hy => ?_⟩
    obtain ⟨r, hr, rfl⟩ := List.mem_map.mp hy
    rw [iD_len, iD_len, w0, (g r (List.mem_cons_of_mem _ hr)).1]
  rw [if_pos hc]
  unfold zipD
  rw [iD_len, w0]
  refine congrArg some (List.map_congr_left fun k hk => ?_)
  have hk' : k < w := List.mem_range.mp hk
  have gd : ∀ r ∈ r0 :: R', (iD r).getD k .non = .int (r.getD k 0) := fun r hr => by
    have := (g r hr).1
    have h2 : k < r.length := by omega
    have h3 : k < (iD r).length := by rw [iD_len]; omega
    rw [List.getD_eq_getElem?_getD, List.getD_eq_getElem?_getD, List.getElem?_eq_getElem h2, List.getElem?_eq_getElem h3, iD_get]
    rfl
  refine congrArg D.tup ?_
  rw [← List.map_cons (f := iD), List.map_map]
  simp only [iD, colOf, List.map_map]
  exact List.map_congr_left fun r hr => gd r hr
theorem full_ev {n h w : Nat} {R : Rw} {S : Store} (F : Full h w R) : callN (n + 1) 8 [rowsT R] S = .ok (.bl true) S := by
  rw [show callN (n + 1) 8 = funM 3 1 (b_is_full (callN n)) from rfl]
  unfold b_is_full
  have hR : (R.map fun r => D.tup (iD r)).length ≤ sizeLine := by rw [List.length_map, F.len]; exact small (by have := F.h2; omega)
  have e1 := lc_map (ds := R.map fun r => D.tup (iD r)) (S := S) (me := eOp pIn (eC (.int 1)) (eVar 1)) (δ0 := wipeD [some (rowsT R), none, none] [1]) (k := 1) (fun _ => .bl true) hR (fun d hd => by
    obtain ⟨r, hr, rfl⟩ := List.mem_map.mp hd
    exact eOp_ok rfl rfl (by rw [in_tup, decide_eq_true (F.row r hr)]))
  have e2 := lc_map (ds := (List.range w).map fun k => D.tup (iD (colOf R k))) (S := S) (me := eOp pIn (eC (.int 1)) (eVar 2)) (δ0 := wipeD [some (rowsT R), none, none] [2]) (k := 2) (fun _ => .bl true) (by rw [List.length_map, List.length_range]; exact small (by have := F.w2; omega)) (fun d hd => by
    obtain ⟨k, hk, rfl⟩ := List.mem_map.mp hd
    refine eOp_ok rfl rfl ?_
    rw [in_tup, decide_eq_true]
    obtain ⟨r, hr, e⟩ := F.col k (List.mem_range.mp hk)
    refine List.mem_map.mpr ⟨r, hr, ?_⟩
    rw [List.getD_eq_getElem?_getD, e]; rfl)
  have tt : ∀ l : List D, (l.map fun _ => D.bl true) = ((l.map fun _ => true).map D.bl) := fun l => by rw [List.map_map]; rfl
  have al : ∀ l : List D, (l.map fun _ => true).all id = true := fun l => by simp
  rw [tt] at e1 e2
  have h0 : pGt (.int ((R.map fun r => D.tup (iD r)).length : Int)) (.int 0) S = some (.bl true, S) := by
    rw [pGt_ii, decide_eq_true]
    rw [List.length_map, F.len]
    have := F.h1
    omega
  refine funM_rt rfl (sRet_ok (eAnd_t (eOp_ok (eCallV_ok (aCons_ok rfl rfl) pLen_tup) rfl h0) rfl (eAnd_t (eCallV_ok (aCons_ok (eLc_ok (iAny_ok rfl rfl) e1 (newL_ev (by simpa using hR))) rfl) all_ok) (by rw [al]; rfl) (eCallV_ok (aCons_ok (eLc_ok (iZip_ok (aStar_ok rfl rfl rfl) (by rw [List.append_nil]; exact zip_rows F)) e2 (newL_ev (by simp only [List.length_map, List.length_range]; exact small (by have := F.w2; omega)))) rfl) (by rw [all_ok, al])))))
end Lw
namespace Lw
open PySem L2 Ev
theorem nl_tl : TL.tl ("\n" : Str) = 10 :: [] := by decide +kernel
theorem split_txt {h w : Nat} {R : Rw} (F : Full h w R) : Txt.split (txt R) "\n" = R.map ln := by
  unfold txt
  refine TL.split_join nl_tl (by decide +kernel) (fun e => ?_) fun p hp => ?_
  · have := F.len; have := F.h1
    have e' := List.map_eq_nil_iff.mp e
    subst e'
    simp at *
    omega
  · obtain ⟨r, hr, rfl⟩ := List.mem_map.mp hp
    rw [ln_tl (F.g r hr).2]
    intro hm
    obtain ⟨i, hi, e⟩ := List.mem_map.mp hm
    omega
theorem txt_len {h w : Nat} {R : Rw} (F : Full h w R) : (txt R).length ≤ 72 := by
  unfold txt
  rw [TL.join_eq]
  refine Nat.le_trans (StrLaws.join_length_le _ _) ?_
  have h1 := sum_le (l := (R.map ln).map (·.length)) (b := 8) fun x hx => by
    obtain ⟨y, hy, rfl⟩ := List.mem_map.mp hx
    obtain ⟨r, hr, rfl⟩ := List.mem_map.mp hy
    obtain ⟨g1, g2⟩ := F.g r hr
    rw [ln_len g2, g1]
    exact F.w2
  have h0 : ("\n" : Str).length = 1 := by decide +kernel
  rw [h0]
  simp only [List.length_map] at h1 ⊢
  have := F.h2
  have := F.len
  omega
theorem signs_ln {r : List Int} (g : ∀ i ∈ r, i = 0 ∨ i = 1) : signs (ln r) = r.map fun i => D.str ⟨#[48 + i.toNat]⟩ := by
  have : signs (ln r) = (TL.tl (ln r)).map fun c => D.str ⟨#[c]⟩ := rfl
  rw [this, ln_tl g, List.map_map]
  rfl
theorem len_str {x : Str} {S : Store} (h : x.length ≤ sizeLine) : pLen [.str x] S = some (.int x.length, S) := by simp only [pLen, h, if_true]
theorem tuple_lst {xs : List D} {S : Store} (h : xs.length ≤ sizeLine) : pTuple [.lst xs] S = some (.tup xs, S) := by simp only [pTuple, lstOf, Option.bind_some, newT_ev h]
theorem read_ev {n h w : Nat} {R : Rw} {S : Store} (F : Full h w R) : callN (n + 2) 6 [.str (txt R)] S = .ok (rowsT R) S := by
  rw [show callN (n + 2) 6 = funM 5 1 (b_read_rows (callN (n + 1))) from rfl]
  unfold b_read_rows
  have hlen : ((R.map ln).map D.str).length = h := by simp [F.len]
  have hL : ((R.map ln).map D.str).length ≤ sizeLine := by rw [hlen]; exact small (by have := F.h2; omega)
  obtain ⟨r0, R', eR⟩ : ∃ r0 R', R = r0 :: R' := by
    cases R with
    | nil => have := F.len; have := F.h1; simp at *; omega
    | cons r R => exact ⟨r, R, rfl⟩
  have hr0 : r0 ∈ R := by rw [eR]; exact List.mem_cons_self ..
  have w0 : ∀ r ∈ R, (ln r).length = w := fun r hr => by rw [ln_len (F.g r hr).2, (F.g r hr).1]
  have wl : ∀ r ∈ R, (ln r).length ≤ sizeLine := fun r hr => by rw [w0 r hr]; exact small (by have := F.w2; omega)
  have ix0 : ∀ S, pIx (.lst ((R.map ln).map D.str)) (.int 0) S = some (.str (ln r0), S) := fun S => by
    refine (pIx_lst (k := 0) (S := S) (xs := (R.map ln).map D.str) (by rw [hlen]; exact F.h1)).trans ?_
    subst eR
    rfl
  have sp : pSplit (.str (txt R)) [.str "\n"] S = some (.lst ((R.map ln).map D.str), S) := by
    have h1 : (("\n" : Str).length == 0) = false := by decide +kernel
    have h2 : (txt R).length + 2 ≤ sizeLine := small (by have := txt_len F; omega)
    simp only [pSplit, h1, h2, and_self, if_true, split_txt F, newL_ev hL]
  -- every line is as it should be
  have good : ∀ r ∈ R, ∀ a b c d : Option D, (eAnd (eOp pEq (eCallV (pLen) (aCons (eVar 3) aNil)) (eCallV (pLen) (aCons (eOp pIx (eVar 1) (eC (.int 0))) aNil))) (eCallV (pAll true) (aCons (eLc newL (iAny (eVar 3)) (uNm 2) tYesM (eOp pIn (eVar 2) (eC (.str "01"))) [2]) aNil))) [a, some (.lst ((R.map ln).map D.str)), b, some (.str (ln r)), d] S = .ok (.bl true) S := by
    intro r hr a b c d
    obtain ⟨g1, g2⟩ := F.g r hr
    have e := lc_map (ds := signs (ln r)) (S := S) (me := eOp pIn (eVar 2) (eC (.str "01"))) (δ0 := wipeD [a, some (.lst ((R.map ln).map D.str)), b, some (.str (ln r)), d] [2]) (k := 2) (fun _ => .bl true) (by rw [signs_ln g2, List.length_map, g1]; exact small (by have := F.w2; omega)) (fun x hx => by
      rw [signs_ln g2] at hx
      obtain ⟨i, hi, rfl⟩ := List.mem_map.mp hx
      refine eOp_ok rfl rfl ?_
      rcases g2 i hi with rfl | rfl <;> rfl)
    have tt : ∀ l : List D, (l.map fun _ => D.bl true) = ((l.map fun _ => true).map D.bl) := fun l => by rw [List.map_map]; rfl
    rw [tt] at e
    refine eAnd_t (eOp_ok (eCallV_ok (aCons_ok rfl rfl) (len_str (wl r hr))) (eCallV_ok (aCons_ok (eOp_ok rfl rfl (ix0 _)) rfl) (len_str (wl r0 hr0))) (by rw [pEq_ii])) ?_ (eCallV_ok (aCons_ok (eLc_ok (iAny_ok rfl rfl) e (newL_ev (by rw [List.length_map, List.length_map, signs_ln g2, List.length_map, g1]; exact small (by have := F.w2; omega)))) rfl) (by rw [all_ok]; simp))
    rw [w0 r hr, w0 r0 hr0]
    simp [truD]
  have e1 := lc_map (ds := (R.map ln).map D.str) (S := S) (me := (eAnd (eOp pEq (eCallV (pLen) (aCons (eVar 3) aNil)) (eCallV (pLen) (aCons (eOp pIx (eVar 1) (eC (.int 0))) aNil))) (eCallV (pAll true) (aCons (eLc newL (iAny (eVar 3)) (uNm 2) tYesM (eOp pIn (eVar 2) (eC (.str "01"))) [2]) aNil)))) (δ0 := wipeD [some (.str (txt R)), some (.lst ((R.map ln).map D.str)), none, none, none] [3]) (k := 3) (fun _ => .bl true) hL (fun x hx => by
    obtain ⟨y, hy, rfl⟩ := List.mem_map.mp hx
    obtain ⟨r, hr, rfl⟩ := List.mem_map.mp hy
    exact good r hr _ _ none _)
  have tt : ∀ l : List D, (l.map fun _ => D.bl true) = ((l.map fun _ => true).map D.bl) := fun l => by rw [List.map_map]; rfl
  rw [tt] at e1
  -- the numbers
  let toT : D → D := fun d => match d with
    | .str x => .tup ((TL.tl x).map fun (c : Nat) => .int ((c : Int) - 48))
    | d => d
  have nums : ∀ r ∈ R, toT (.str (ln r)) = .tup (iD r) := fun r hr => by
    obtain ⟨g1, g2⟩ := F.g r hr
    show D.tup ((TL.tl (ln r)).map fun (c : Nat) => .int ((c : Int) - 48)) = _
    rw [ln_tl g2, List.map_map]
    refine congrArg D.tup (List.map_congr_left fun i hi => ?_)
    rcases g2 i hi with rfl | rfl <;> rfl
  have e2 := lc_map (ds := (R.map ln).map D.str) (S := S) (me := (eCallV pTuple (aCons (eLc newL (iAny (eVar 3)) (uNm 2) tYesM (eCallV pInt (aCons (eVar 2) aNil)) [2]) aNil))) (δ0 := wipeD [some (.str (txt R)), some (.lst ((R.map ln).map D.str)), none, none, none] [3]) (k := 3) toT hL (fun x hx => by
    obtain ⟨y, hy, rfl⟩ := List.mem_map.mp hx
    obtain ⟨r, hr, rfl⟩ := List.mem_map.mp hy
    obtain ⟨g1, g2⟩ := F.g r hr
    rw [nums r hr]
    have e := lc_map (ds := signs (ln r)) (S := S) (me := eCallV pInt (aCons (eVar 2) aNil)) (δ0 := wipeD [some (.str (txt R)), some (.lst ((R.map ln).map D.str)), none, some (.str (ln r)), none] [2]) (k := 2) (fun d => match d with
      | .str x => .int (((TL.tl x).getD 0 0 : Nat) - 48)
      | d => d) (by rw [signs_ln g2, List.length_map, g1]; exact small (by have := F.w2; omega)) (fun x hx => by
        rw [signs_ln g2] at hx
        obtain ⟨i, hi, rfl⟩ := List.mem_map.mp hx
        refine eCallV_ok (aCons_ok rfl rfl) ?_
        rcases g2 i hi with rfl | rfl
        · have i0 : PySem.intText? ⟨#[48 + Int.toNat 0]⟩ = some 0 := by decide +kernel
          have l0 : (⟨#[48 + Int.toNat 0]⟩ : Str).length ≤ 640 := by decide +kernel
          simp only [pInt, l0, if_true, i0, Option.map_some]
          rfl
        · have i0 : PySem.intText? ⟨#[48 + Int.toNat 1]⟩ = some 1 := by decide +kernel
          have l0 : (⟨#[48 + Int.toNat 1]⟩ : Str).length ≤ 640 := by decide +kernel
          simp only [pInt, l0, if_true, i0, Option.map_some]
          rfl)
    have e3 : ((signs (ln r)).map fun d => match d with
      | .str x => D.int (((TL.tl x).getD 0 0 : Nat) - 48)
      | d => d) = iD r := by
      rw [signs_ln g2, List.map_map]
      refine List.map_congr_left fun i hi => ?_
      rcases g2 i hi with rfl | rfl <;> rfl
    rw [e3] at e
    have hw : (iD r).length ≤ sizeLine := by rw [iD_len, g1]; exact small (by have := F.w2; omega)
    exact eCallV_ok (aCons_ok (eLc_ok (iAny_ok rfl rfl) e (newL_ev hw)) rfl) (by simp only [pTuple, lstOf, Option.bind_some, newT_ev hw]))
  have e4 : ((R.map ln).map D.str).map toT = R.map fun r => .tup (iD r) := by
    rw [List.map_map, List.map_map]
    exact List.map_congr_left fun r hr => nums r hr
  rw [e4] at e2
  have hR : (R.map fun r => D.tup (iD r)).length ≤ sizeLine := by rw [List.length_map, F.len]; exact small (by have := F.h2; omega)
  have g8 : pGt (.int (((R.map ln).map D.str).length : Int)) (.int 8) S = some (.bl false, S) := by
    rw [pGt_ii, hlen, decide_eq_false (by have := F.h2; omega)]
  have c1 : pLe (.int 1) (.int ((ln r0).length : Int)) S = some (.bl true, S) := by rw [pLe_ii, w0 r0 hr0, decide_eq_true (by have := F.w1; omega)]
  have c2 : pLe (.int ((ln r0).length : Int)) (.int 8) S = some (.bl true, S) := by rw [pLe_ii, w0 r0 hr0, decide_eq_true (by have := F.w2; omega)]
  refine funM_rt rfl (sSeq_nx (sIf_f (tNot_ok (b := true) (tru_ok (eIsi_ok rfl rfl rfl) rfl)) rfl) (sSeq_nx (sAsg_ok (eMB_ok rfl rfl (aCons_ok rfl rfl) sp) rfl)
    (sSeq_nx (sIf_f (tOr_f (asB_ok (eOp_ok (eCallV_ok (aCons_ok rfl rfl) pLen_lst) rfl g8)) (tNot_ok (b := true) (asB_ok (eChain_t rfl (eCallV_ok (aCons_ok (eOp_ok rfl rfl (ix0 _)) rfl) (len_str (wl r0 hr0))) c1 rfl c2)))) rfl)
    (sSeq_nx (sIf_f (tNot_ok (b := true) (tru_ok (eCallV_ok (aCons_ok (eLc_ok (iAny_ok rfl rfl) e1 (newL_ev (by simpa using hL))) rfl) all_ok) (by rw [show ∀ l : List D, (l.map fun _ => true).all id = true from fun l => by simp]; rfl))) rfl)
    (sSeq_nx (sAsg_ok (eCallV_ok (aCons_ok (eLc_ok (iAny_ok rfl rfl) e2 (newL_ev hR)) rfl) (tuple_lst hR)) rfl)
    (sRet_ok (eIf_t (tru_ok (eCal_ok (aCons_ok rfl rfl) (full_ev (n := n) F)) rfl) rfl)))))))
/-- a table as a value -/
def tabD (h w : Nat) (R : Rw) : D := .ins "Table" [("text", .str (txt R)), ("rows", rowsT R), ("height", .int h), ("width", .int w)]
theorem table_ev {n h w : Nat} {R : Rw} {S : Store} (F : Full h w R) : callN (n + 3) 1 [.str (txt R)] S = .ok (tabD h w R) S := by
  rw [show callN (n + 3) 1 = (fun ds => M.bind (initM 3 1 (b_Table (callN (n + 2))) ds) fun fs => M.pure (.ins "Table" fs)) from rfl]
  have key : initM 3 1 (b_Table (callN (n + 2))) [.str (txt R)] S = .ok [("text", .str (txt R)), ("rows", rowsT R), ("height", .int h), ("width", .int w)] S := by
    unfold b_Table
    obtain ⟨r0, R', eR⟩ : ∃ r0 R', R = r0 :: R' := by
      cases R with
      | nil => have := F.len; have := F.h1; simp at *; omega
      | cons r R => exact ⟨r, R, rfl⟩
    have hr0 : r0 ∈ R := by rw [eR]; exact List.mem_cons_self ..
    have ix0 : pIx (rowsT R) (.int 0) S = some (.tup (iD r0), S) := by
      unfold rowsT
      refine (pIx_tup (k := 0) (S := S) (xs := R.map fun r => D.tup (iD r)) (by rw [List.length_map, F.len]; exact F.h1)).trans ?_
      subst eR
      rfl
    have l1 : pLen [rowsT R] S = some (.int h, S) := by
      unfold rowsT
      rw [pLen_tup, List.length_map, F.len]
    have l2 : pLen [.tup (iD r0)] S = some (.int w, S) := by rw [pLen_tup, iD_len, (F.g r0 hr0).1]
    exact initM_ok rfl (iOrd_nx (sAsg_ok (eCal_ok (aCons_ok rfl rfl) (read_ev (n := n) F)) rfl) (iOrd_nx (sIf_f (asB_ok (eOp_ok (x := rowsT R) rfl rfl rfl)) rfl) (iSets_ok (eTup_ok (aCons_ok rfl (aCons_ok (x := rowsT R) rfl rfl)) (small (by simp))) rfl rfl (iSets_ok (eTup_ok (aCons_ok (eCallV_ok (aCons_ok (x := rowsT R) rfl rfl) l1) (aCons_ok (eCallV_ok (aCons_ok (eOp_ok (x := rowsT R) rfl rfl ix0) rfl) l2) rfl)) (small (by simp))) rfl rfl rfl))))
  show M.bind _ _ S = _
  simp only [M.bind, key, M.pure]
  rfl
end Lw
namespace Lw
open PySem L2 Ev
def dueD (h w : Nat) (R : Rw) : D := .lst [.str (txt R), rowsT R, .int h, .int w, .str (txt R), .bl true]
theorem str_ev {n h w : Nat} {R : Rw} {S : Store} : callN (n + 1) 9 [tabD h w R] S = .ok (.str (txt R)) S := by
  rw [show callN (n + 1) 9 = funM 1 1 (b_Table___str__ (callN n)) from rfl]
  unfold b_Table___str__
  exact funM_rt rfl (sRet_ok (eCallV_ok (aCons_ok (eFld_ok (x := tabD h w R) rfl rfl rfl rfl) rfl) rfl))
theorem told_ev {n h w : Nat} {R : Rw} {S : Store} : callN (n + 2) 0 [tabD h w R] S = .ok (dueD h w R) S := by
  rw [show callN (n + 2) 0 = funM 1 1 (b__law_told (callN (n + 1))) from rfl]
  unfold b__law_told
  have e : pStrI (strT (callN (n + 1))) [tabD h w R] S = some (.str (txt R), S) := by
    have c : clsOf S (tabD h w R) = some (("Table" : Str), ([(("text" : Str), .str (txt R)), ("rows", rowsT R), ("height", .int h), ("width", .int w)] : List (Str × D))) := rfl
    have t : strT (callN (n + 1)) "Table" = some (callN (n + 1) 9) := rfl
    simp only [pStrI, c, t, str_ev]
  exact funM_rt rfl (sRet_ok (eLst_ok (aCons_ok (eFld_ok (x := tabD h w R) rfl rfl rfl rfl) (aCons_ok (eFld_ok (x := tabD h w R) rfl rfl rfl rfl) (aCons_ok (eFld_ok (x := tabD h w R) rfl rfl rfl rfl) (aCons_ok (eFld_ok (x := tabD h w R) rfl rfl rfl rfl) (aCons_ok (eCallV_ok (aCons_ok (x := tabD h w R) rfl rfl) e) (aCons_ok (eCallV_ok (aCons_ok (x := tabD h w R) rfl rfl) rfl) rfl)))))) (small (by simp))))
/-! repr -/
def rowsP (R : Rw) : PyData := .tuple (R.map fun r => .tuple (r.map PyData.int))
def dueP (h w : Nat) (R : Rw) : PyData := .list [.str (txt R), rowsP R, .int h, .int w, .str (txt R), .bool true]
theorem toPSs_rows (S : Store) : ∀ R : Rw, toPSs S (R.map fun r => D.tup (iD r)) = some (R.map fun r => .tuple (r.map PyData.int))
  | [] => rfl
  | r :: R => by simp only [List.map_cons, toPSs, toPS, toPSs_ints, Option.map_some, Option.bind_some, toPSs_rows S R]
theorem due_toP {h w : Nat} {R : Rw} {S : Store} : toPS S (dueD h w R) = some (dueP h w R) := by
  simp only [dueD, rowsT, toPS, toPSs, toPSs_rows, Option.map_some, Option.bind_some]
  rfl
theorem small_int {i : Int} (h : 0 ≤ i) (h2 : i ≤ 8) : PyData.showable (.int i) = true ∧ PyData.intsShort 13 (.int i) = true ∧ PyData.weight (.int i) ≤ 4 ∧ PyData.canLay0 (.int i) = true ∧ PyData.depth (.int i) = 0 := by
  have : i = 0 ∨ i = 1 ∨ i = 2 ∨ i = 3 ∨ i = 4 ∨ i = 5 ∨ i = 6 ∨ i = 7 ∨ i = 8 := by omega
  rcases this with rfl | rfl | rfl | rfl | rfl | rfl | rfl | rfl | rfl <;> decide +kernel
theorem row_fine : ∀ r : List Int, (∀ i ∈ r, i = 0 ∨ i = 1) → PyData.showableAll (r.map PyData.int) = true ∧ PyData.intsShortAll 13 (r.map PyData.int) = true ∧ PyData.weightAll (r.map PyData.int) ≤ 5 * r.length ∧ PyData.canLayAll0 (r.map PyData.int) = true ∧ PyData.depthAll (r.map PyData.int) = 0
  | [], _ => ⟨rfl, rfl, Nat.le_refl _, rfl, rfl⟩
  | i :: r, g => by
    obtain ⟨a, b, c, d, e⟩ := row_fine r fun j hj => g j (List.mem_cons_of_mem _ hj)
    have hi := g i (List.mem_cons_self ..)
    obtain ⟨a', b', c', d', e'⟩ := small_int (i := i) (by omega) (by omega)
    refine ⟨?_, ?_, ?_, ?_, ?_⟩
    · simp only [List.map_cons, PyData.showableAll, a', a, Bool.and_self]
    · simp only [List.map_cons, PyData.intsShortAll, b', b, Bool.and_self]
    · simp only [List.map_cons, PyData.weightAll, List.length_cons]; omega
    · simp only [List.map_cons, PyData.canLayAll0, d', d, Bool.and_self]
    · simp only [List.map_cons, PyData.depthAll, e', e]; rfl
theorem rows_fine {w : Nat} : ∀ R : Rw, G01 w R → PyData.showableAll (R.map fun r => .tuple (r.map PyData.int)) = true ∧ PyData.intsShortAll 13 (R.map fun r => .tuple (r.map PyData.int)) = true ∧ PyData.weightAll (R.map fun r => .tuple (r.map PyData.int)) ≤ (5 * w + 1) * R.length ∧ PyData.canLayAll0 (R.map fun r => .tuple (r.map PyData.int)) = true ∧ PyData.depthAll (R.map fun r => .tuple (r.map PyData.int)) ≤ 1
  | [], _ => ⟨rfl, rfl, Nat.le_refl _, rfl, Nat.zero_le _⟩
  | r :: R, g => by
    obtain ⟨a, b, c, d, e⟩ := rows_fine (w := w) R fun q hq => g q (List.mem_cons_of_mem _ hq)
    obtain ⟨l, hr⟩ := g r (List.mem_cons_self ..)
    obtain ⟨a', b', c', d', e'⟩ := row_fine r hr
    refine ⟨?_, ?_, ?_, ?_, ?_⟩
    · simp only [List.map_cons, PyData.showableAll, PyData.showable, a', a, Bool.and_self]
    · simp only [List.map_cons, PyData.intsShortAll, PyData.intsShort, b', b, Bool.and_self]
    · simp only [List.map_cons, PyData.weightAll, PyData.weight, List.length_cons, Nat.mul_succ]; rw [l] at c'; omega
    · simp only [List.map_cons, PyData.canLayAll0, PyData.canLay0, d', d, Bool.and_self]
    · simp only [List.map_cons, PyData.depthAll, PyData.depth, e']; omega
theorem txt_ok {h w : Nat} {R : Rw} (F : Full h w R) : PyData.canLay0 (.str (txt R)) = true := by
  have mem : ∀ (l : List (List Nat)) (c : Nat), c ∈ TL.joinL [10] l → c = 10 ∨ ∃ p ∈ l, c ∈ p := by
    intro l
    induction l with
    | nil => intro c h; simp [TL.joinL] at h
    | cons p l ih =>
      cases l with
      | nil => intro c h; exact .inr ⟨p, List.mem_cons_self .., h⟩
      | cons q r =>
        intro c h
        have h' : c ∈ p ++ ([10] ++ TL.joinL [10] (q :: r)) := h
        rcases List.mem_append.mp h' with h1 | h1
        · exact .inr ⟨p, List.mem_cons_self .., h1⟩
        · rcases List.mem_append.mp h1 with h2 | h2
          · exact .inl (List.mem_singleton.mp h2)
          · rcases ih c h2 with h3 | ⟨x, hx, h3⟩
            · exact .inl h3
            · exact .inr ⟨x, List.mem_cons_of_mem _ hx, h3⟩
  have all : ∀ c ∈ TL.tl (txt R), c < 0x110000 := by
    intro c hc
    unfold txt at hc
    rw [TL.join_eq, TL.tl_join, nl_tl] at hc
    rcases mem _ c hc with h1 | ⟨p, hp, h1⟩
    · omega
    · obtain ⟨x, hx, rfl⟩ := List.mem_map.mp hp
      obtain ⟨r, hr, rfl⟩ := List.mem_map.mp hx
      rw [ln_tl (F.g r hr).2] at h1
      obtain ⟨i, hi, rfl⟩ := List.mem_map.mp h1
      rcases (F.g r hr).2 i hi with rfl | rfl <;> decide
  simp only [PyData.canLay0, PyData.strOk, Array.all_eq_true']
  intro c hc
  simpa using all c (by simpa [TL.tl] using hc)
theorem repr_ok {h w : Nat} {R : Rw} {S : Store} (F : Full h w R) : ∃ z, pRepr [dueD h w R] S = some (.str z, S) := by
  obtain ⟨a, b, c, d, e⟩ := rows_fine R F.g
  obtain ⟨a1, b1, c1, d1, e1⟩ := small_int (i := (h : Int)) (by omega) (by have := F.h2; omega)
  obtain ⟨a2, b2, c2, d2, e2⟩ := small_int (i := (w : Int)) (by omega) (by have := F.w2; omega)
  have t1 := txt_ok F
  have tl := txt_len F
  have dep : (dueP h w R).depth ≤ 4 := by
    simp only [dueP, rowsP, PyData.depth, PyData.depthAll, e1, e2]
    omega
  have wei : (dueP h w R).weight ≤ 2 ^ 20 := by
    have hw : (5 * w + 1) * R.length ≤ 41 * 8 := Nat.mul_le_mul (by have := F.w2; omega) (by rw [F.len]; exact F.h2)
    have sz : (txt R).cps.size ≤ 72 := tl
    simp only [dueP, rowsP, PyData.weight, PyData.weightAll] at *
    omega
  have cl : (dueP h w R).canLay0 = true := by
    simp only [dueP, rowsP, PyData.canLay0, PyData.canLayAll0, d, d1, d2, Bool.and_true, Bool.and_self]
    simpa [PyData.canLay0] using t1
  have lay : PyData.layable0 (dueP h w R) = true := by
    simp only [PyData.layable0, cl, Bool.true_and, Bool.and_eq_true, decide_eq_true_eq]
    exact ⟨by omega, wei⟩
  have ish : (dueP h w R).intsShort 13 = true := by
    simp only [PyData.intsShort] at b1 b2
    simp only [dueP, rowsP, PyData.intsShort, PyData.intsShortAll, b, b1, b2, Bool.and_self, Bool.and_true, Bool.true_and]
  have shw : (dueP h w R).showable = true := by
    simp only [PyData.showable] at a1 a2
    simp only [dueP, rowsP, PyData.showable, PyData.showableAll, a, a1, a2, Bool.and_self, Bool.and_true, Bool.true_and]
  have len : (dueP h w R).shown.length ≤ sizeLine := Nat.le_trans (PyProof.Rows.shown_le13 lay ish) (by decide)
  refine ⟨(dueP h w R).shown, ?_⟩
  have cond : (dueP h w R).showable = true ∧ (dueP h w R).shown.length ≤ sizeLine ∧ (dueP h w R).depth ≤ 60 := ⟨shw, len, by omega⟩
  simp only [pRepr, due_toP]
  unfold dueP at cond ⊢
  simp only [cond, and_self, if_true]
end Lw
namespace Lw
open PySem L2 Ev
/-- a pair of a table and what is due of it -/
def Pair (d : D) : Prop := ∃ h w R, Full h w R ∧ d = .tup [tabD h w R, dueD h w R]
def body1 (n : Nat) : MS := (sSeq (sAsg (eCal (callN n 4) (aCons (eVar 3) (aCons (eOp pAdd (eC (.int 1)) (eCal (callN n 3) (aCons (eVar 3) (aCons (eC (.int 8)) aNil)))) (aCons (eOp pAdd (eC (.int 1)) (eCal (callN n 3) (aCons (eVar 3) (aCons (eC (.int 8)) aNil)))) aNil)))) (gNm 5))
    (sSeq (sAsg (eCal (callN n 2) (aCons (eVar 5) aNil)) (gNm 6))
    (sSeq (sAsg (eLst (aCons (eVar 6) (aCons (eCallV pTuple (aCons (eLc newL (iAny (eVar 5)) (uNm 8) tYesM (eCallV pTuple (aCons (eVar 8) aNil)) [8]) aNil)) (aCons (eCallV (pLen) (aCons (eVar 5) aNil)) (aCons (eCallV (pLen) (aCons (eOp pIx (eVar 5) (eC (.int 0))) aNil)) aNil))))) (gNm 7))
    (sSeq (sAsg (eOp pAdd (eVar 7) (eLst (aCons (eVar 6) (aCons (eC (.bl true)) aNil)))) (gNm 7))
    (sAsg (eOp pAdd (eVar 1) (eLst (aCons (eTup (aCons (eCal (callN n 1) (aCons (eVar 6) aNil)) (aCons (eVar 7) aNil))) (aCons (eTup (aCons (eCal (callN n 1) (aCons (eVar 6) aNil)) (aCons (eVar 7) aNil))) aNil)))) (gNm 1))))))
theorem add_lst {a b : List D} {S : Store} (h : (a ++ b).length ≤ sizeLine) : pAdd (.lst a) (.lst b) S = some (.lst (a ++ b), S) := by simp only [pAdd, plstOf, newL_ev h]
theorem body1_ev {n t : Nat} {ns : List Int} {L : List D} {a : Int} {x4 x5 x6 x7 x8 x9 : Option D} {S : Store} (ht : Tr t S) (hL : ∀ d ∈ L, Pair d) (hl : L.length ≤ 100) :
    ∃ L' y5 y6 y7 S', body1 (n + 3) [some (.scr ns), some (.lst L), some (.int a), some (.ref t), x4, x5, x6, x7, x8, x9] S = .nx [some (.scr ns), some (.lst L'), some (.int a), some (.ref t), x4, y5, y6, y7, x8, x9] S' ∧ Tr t S' ∧ (∀ d ∈ L', Pair d) ∧ L'.length = L.length + 2 := by
  obtain ⟨f1, c1, e1, b1, t1⟩ := take_tr (n := n + 2) (m := 8) ht (by omega) (by omega)
  obtain ⟨f2, c2, e2, b2, t2⟩ := take_tr (n := n + 2) (m := 8) t1 (by omega) (by omega)
  obtain ⟨R, S', e3, t3, F⟩ := rows_ev (n := n) (h := 1 + f1) (w := 1 + f2) t2 (by omega) (by omega) (by omega) (by omega)
  have hR : (R.map fun r => D.lst (iD r)).length ≤ sizeLine := by rw [List.length_map, F.len]; exact small (by omega)
  have hRT : (R.map fun r => D.tup (iD r)).length ≤ sizeLine := by rw [List.length_map, F.len]; exact small (by omega)
  obtain ⟨r0, R', eR⟩ : ∃ r0 R', R = r0 :: R' := by
    cases R with
    | nil => have := F.len; simp at *; omega
    | cons r R => exact ⟨r, R, rfl⟩
  have hr0 : r0 ∈ R := by rw [eR]; exact List.mem_cons_self ..
  have ix0 : pIx (rowsL R) (.int 0) S' = some (.lst (iD r0), S') := by
    unfold rowsL
    refine (pIx_lst (k := 0) (S := S') (xs := R.map fun r => D.lst (iD r)) (by rw [List.length_map, F.len]; omega)).trans ?_
    subst eR
    rfl
  have l1 : pLen [rowsL R] S' = some (.int ((1 + f1 : Nat) : Int), S') := by
    unfold rowsL
    rw [pLen_lst, List.length_map, F.len]
  have l2 : pLen [.lst (iD r0)] S' = some (.int ((1 + f2 : Nat) : Int), S') := by rw [pLen_lst, iD_len, (F.g r0 hr0).1]
  have ec := lc_map (ds := R.map fun r => D.lst (iD r)) (S := S') (me := eCallV pTuple (aCons (eVar 8) aNil)) (δ0 := wipeD [some (.scr ns), some (.lst L), some (.int a), some (.ref t), x4, some (rowsL R), some (.str (txt R)), x7, x8, x9] [8]) (k := 8) (fun d => match d with
    | .lst xs => .tup xs
    | d => d) hR (fun d hd => by
      obtain ⟨r, hr, rfl⟩ := List.mem_map.mp hd
      exact eCallV_ok (aCons_ok rfl rfl) (tuple_lst (by rw [iD_len, (F.g r hr).1]; exact small (by omega))))
  have em : ((R.map fun r => D.lst (iD r)).map fun d => match d with
    | .lst xs => D.tup xs
    | d => d) = R.map fun r => .tup (iD r) := by rw [List.map_map]; rfl
  rw [em] at ec
  have hw : ([D.tup [tabD (1 + f1) (1 + f2) R, dueD (1 + f1) (1 + f2) R], D.tup [tabD (1 + f1) (1 + f2) R, dueD (1 + f1) (1 + f2) R]] : List D).length ≤ sizeLine := small (by simp)
  have hadd : (L ++ [D.tup [tabD (1 + f1) (1 + f2) R, dueD (1 + f1) (1 + f2) R], D.tup [tabD (1 + f1) (1 + f2) R, dueD (1 + f1) (1 + f2) R]]).length ≤ sizeLine := small (by simp; omega)
  refine ⟨L ++ [D.tup [tabD (1 + f1) (1 + f2) R, dueD (1 + f1) (1 + f2) R], D.tup [tabD (1 + f1) (1 + f2) R, dueD (1 + f1) (1 + f2) R]], some (rowsL R), some (.str (txt R)), some (dueD (1 + f1) (1 + f2) R), S', ?_, t3, fun d hd => ?_, by simp⟩
  · unfold body1
    have e3' : callN (n + 3) 4 [.ref t, .int (1 + (f1 : Int)), .int (1 + (f2 : Int))] ((S.set t (some c1)).set t (some c2)) = .ok (rowsL R) S' := by
      have := e3
      simpa using this
    refine sSeq_nx (sAsg_ok (eCal_ok (aCons_ok rfl (aCons_ok (eOp_ok rfl (eCal_ok (aCons_ok rfl (aCons_ok rfl rfl)) e1) pAdd_ii) (aCons_ok (eOp_ok rfl (eCal_ok (aCons_ok rfl (aCons_ok rfl rfl)) e2) pAdd_ii) rfl))) e3') rfl)
      (sSeq_nx (sAsg_ok (eCal_ok (aCons_ok (x := rowsL R) rfl rfl) (text_ev (n := n + 2) F)) rfl)
      (sSeq_nx (sAsg_ok (eLst_ok (aCons_ok rfl (aCons_ok (eCallV_ok (aCons_ok (eLc_ok (iAny_ok (x := rowsL R) rfl rfl) ec (newL_ev hRT)) rfl) (tuple_lst hRT)) (aCons_ok (eCallV_ok (aCons_ok (x := rowsL R) rfl rfl) l1) (aCons_ok (eCallV_ok (aCons_ok (eOp_ok (x := rowsL R) rfl rfl ix0) rfl) l2) rfl)))) (small (by simp))) rfl)
      (sSeq_nx (sAsg_ok (eOp_ok rfl (eLst_ok (aCons_ok rfl (aCons_ok rfl rfl)) (small (by simp))) (add_lst (small (by simp)))) rfl)
      (sAsg_ok (eOp_ok rfl (eLst_ok (aCons_ok (eTup_ok (aCons_ok (eCal_ok (aCons_ok rfl rfl) (table_ev (n := n) F)) (aCons_ok (x := dueD (1 + f1) (1 + f2) R) rfl rfl)) (small (by simp))) (aCons_ok (eTup_ok (aCons_ok (eCal_ok (aCons_ok rfl rfl) (table_ev (n := n) F)) (aCons_ok (x := dueD (1 + f1) (1 + f2) R) rfl rfl)) (small (by simp))) rfl)) hw) (add_lst hadd)) rfl))))
  · rcases List.mem_append.mp hd with hd | hd
    · exact hL d hd
    · have : d = D.tup [tabD (1 + f1) (1 + f2) R, dueD (1 + f1) (1 + f2) R] := by simpa using hd
      exact ⟨_, _, R, F, this⟩
end Lw
namespace Lw
open PySem L2 Ev
theorem law_ev {n : Nat} {ns : List Int} (hl : ns.length ≤ 63) : ∃ S, funM 10 1 (b_law (callN (n + 3))) [.scr ns] [] = .ok (.bl true) S := by
  have k0 : ∃ k : Nat, (if (if (6 : Int) < (ns.length : Int) then (6 : Int) else (ns.length : Int)) > 2 then (if (6 : Int) < (ns.length : Int) then (6 : Int) else (ns.length : Int)) else 2) = (k : Int) ∧ k ≤ 6 := by
    by_cases h : (6 : Int) < ns.length
    · rw [if_pos h]
      exact ⟨6, rfl, by omega⟩
    · rw [if_neg h]
      by_cases h2 : (ns.length : Int) > 2
      · exact ⟨ns.length, by rw [if_pos h2], by omega⟩
      · exact ⟨2, by rw [if_neg h2]; rfl, by omega⟩
  obtain ⟨k, ek, hk⟩ := k0
  obtain ⟨δ1, S1, e1, L, ⟨x2, x3, x4, x5, x6, x7, x8, x9, rfl⟩, hP, hlen⟩ := loop_inv (mg := gNm 2) (mb := (sSeq (sAsg (eCal (callN (n + 3) 5) (aCons (eVar 0) (aCons (eVar 2) aNil))) (gNm 3)) (sFor (iR1 (aCons (eC (.int 4)) aNil)) (gNm 4) (body1 (n + 3)))))
    (ds := rngD 0 k) (δ := [some (.scr ns), some (.lst []), none, none, none, none, none, none, none, none]) (S := [])
    (fun i δ S' => ∃ L : List D, (∃ x2 x3 x4 x5 x6 x7 x8 x9, δ = ([some (.scr ns), some (.lst L), x2, x3, x4, x5, x6, x7, x8, x9] : En)) ∧ (∀ d ∈ L, Pair d) ∧ L.length = 8 * i) (by
      rintro i δ S' hi ⟨L, ⟨x2, x3, x4, x5, x6, x7, x8, x9, rfl⟩, hP, hL⟩
      rw [rng_get]
      rw [rng_len] at hi
      obtain ⟨a, b, e5, ha⟩ := tray_ev (n := n + 2) (at_ := i) (ns := ns) (S := S') hl
      have ht : Tr S'.length (S' ++ [some (.lst [.int a, .int b, .int 3])]) := ⟨a, b, 3, by simp, ha⟩
      obtain ⟨δ2, S2, e2, L2, ⟨y4, y5, y6, y7, y8, y9, rfl⟩, q1, q2, q3⟩ := loop_inv (mg := gNm 4) (mb := body1 (n + 3)) (ds := rngD 0 4) (δ := [some (.scr ns), some (.lst L), some (.int i), some (.ref S'.length), x4, x5, x6, x7, x8, x9]) (S := S' ++ [some (.lst [.int a, .int b, .int 3])])
        (fun j δ S2 => ∃ L : List D, (∃ x4 x5 x6 x7 x8 x9, δ = ([some (.scr ns), some (.lst L), some (.int i), some (.ref S'.length), x4, x5, x6, x7, x8, x9] : En)) ∧ (∀ d ∈ L, Pair d) ∧ L.length = 8 * i + 2 * j ∧ Tr S'.length S2) (by
          rintro j δ S2 hj ⟨L, ⟨x4, x5, x6, x7, x8, x9, rfl⟩, r1, r2, r3⟩
          rw [rng_get]
          rw [rng_len] at hj
          obtain ⟨L', y5, y6, y7, S3, e3, t3, p3, l3⟩ := body1_ev (n := n) (ns := ns) (a := (i : Int)) (x4 := some (.int j)) (x5 := x5) (x6 := x6) (x7 := x7) (x8 := x8) (x9 := x9) r3 r1 (by omega)
          exact ⟨_, _, rfl, _, _, e3, L', ⟨_, _, _, _, _, _, rfl⟩, p3, by omega, t3⟩) ⟨L, ⟨_, _, _, _, _, _, rfl⟩, hP, by omega, ht⟩
      rw [rng_len] at q2
      exact ⟨_, _, rfl, _, _, sSeq_nx (sAsg_ok (eCal_ok (aCons_ok rfl (aCons_ok rfl rfl)) e5) rfl) (sFor_ok (iR1_ok (k := 4) (aCons_ok rfl rfl) (by omega)) e2), L2, ⟨_, _, _, _, _, _, _, _, rfl⟩, q1, by omega⟩) ⟨[], ⟨_, _, _, _, _, _, _, _, rfl⟩, fun d hd => by simp at hd, rfl⟩
  rw [rng_len] at hlen
  have hLs : L.length ≤ sizeLine := small (by omega)
  have hall : ∀ d ∈ L ++ L.reverse, Pair d := fun d hd => by
    rcases List.mem_append.mp hd with hd | hd
    · exact hP d hd
    · exact hP d (List.mem_reverse.mp hd)
  obtain ⟨δ3, S3, e3, _⟩ := loop_inv (mg := gTp 2 (gCs (gNm 9) (gCs (gNm 7) gNl))) (mb := (sIf (fun δ => asB (eOp pNe (eCallV (pRepr) (aCons (eCal (callN (n + 3) 0) (aCons (eVar 9) aNil)) aNil)) (eCallV (pRepr) (aCons (eVar 7) aNil)) δ)) (sRet (eC (.bl false))) sNext))
    (ds := L ++ L.reverse) (δ := [some (.scr ns), some (.lst L), x2, x3, x4, x5, x6, x7, x8, x9]) (S := S1)
    (fun i δ S' => ∃ x7 x9, δ = ([some (.scr ns), some (.lst L), x2, x3, x4, x5, x6, x7, x8, x9] : En)) (by
      rintro i δ S' hi ⟨x7, x9, rfl⟩
      obtain ⟨h, w, R, F, e⟩ := hall _ (List.getElem_mem hi)
      rw [e]
      obtain ⟨z, ez⟩ := repr_ok (S := S') F
      have hne : pNe (.str z) (.str z) S' = some (.bl false, S') := by rw [pNe_ss]; simp
      exact ⟨_, _, gTp2_ok rfl rfl, _, _, sIf_f (asB_ok (eOp_ok (eCallV_ok (aCons_ok (eCal_ok (aCons_ok (x := tabD h w R) rfl rfl) (told_ev (n := n + 1))) rfl) ez) (eCallV_ok (aCons_ok (x := dueD h w R) rfl rfl) ez) hne)) rfl, _, _, rfl⟩) ⟨x7, x9, rfl⟩
  refine ⟨S3, ?_⟩
  unfold b_law
  have ei : iR1 (aCons (eCallV (pMax) (aCons (eC (.int 2)) (aCons (eCallV (pMin) (aCons (eCallV (pLen) (aCons (eVar 0) aNil)) (aCons (eC (.int 6)) aNil))) aNil))) aNil) [some (.scr ns), some (.lst []), none, none, none, none, none, none, none, none] [] = .ok (rngD 0 k) [] := by
    refine iR1_ok (k := k) (aCons_ok (eCallV_ok (aCons_ok rfl (aCons_ok (eCallV_ok (aCons_ok (eCallV_ok (aCons_ok rfl rfl) pLen_scr) (aCons_ok rfl rfl)) (z := .int (if (6 : Int) < (ns.length : Int) then (6 : Int) else (ns.length : Int))) rfl) rfl)) ?_) rfl) (by omega)
    rw [← ek]
    rfl
  refine funM_rt rfl (sSeq_nx (sAsg_ok (eLst_ok rfl (Nat.zero_le _)) rfl) (sSeq_nx (sFor_ok ei e1) (sSeq_nx (sFor_ok (iAny_ok (eOp_ok rfl (eRev_ok rfl hLs) (add_lst (small (by simp; omega)))) rfl) e3) (sRet_ok rfl))))
end Lw
theorem PySem.Challenge.cw_oddrings_k02_tables_made_holds : PySem.Challenge.rw_oddrings_k02_tables_made.Holds :=
  Lw.holds 3 (by decide) fun ns hl _ => Lw.law_ev (n := 0) hl
