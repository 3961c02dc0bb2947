import PyProof.Rows.All
import Wide.All
import OpenK.AllK
import Wide.FinOn
import HandS.ForMost
import HandS.ForExc
import HandS.Walk
import HandS.Flow
import HandS.Defaults
import HandS.HeadHook2
import KE.DataEq
import KE.DataAny
import HandS.Star
import HandS.Style
import HandS.TupAny
import HandS.IsInst
import HandS.RaiseMore
import PyProof.ReprReads
import HandS.MakeKw
import PyProof.ReprRoads
import HandS.Small
import HandS.Zip
import KE.KDictZip
import KE.GoesMore
import KE.KCallOwn
import HandS.Ends
import HandS.HeadEnd
import HandS.EndBits
import HandS.Text
import PyProof.Rows.RegFStrParts
import HandS.Head0
import HandS.Head1
import HandS.Head2
import HandS.More
import HandS.Conv
import KE.GoesEnum
import HandS.SortKw
import KE.SortKeyHeap
import HandS.ExcValue
import HandS.Dict
import HandS.Iter
import HandS.Sort
import KE.KTupSum
import KE.KStateDown
import HandS.HeadHook1
import PySem.Challenge.RW_oddrings_k55_whole_least_rows
set_option Elab.async false
set_option linter.all false
set_option maxRecDepth 100000
set_option maxHeartbeats 0
/-! # A pure evaluator: data, store, results; what they say of the abstract heap -/
namespace Ev
open PySem L2

/-- data as trees; ref: a mutable cell of the store -/
inductive D where
  | non | bl (b : Bool) | int (i : Int) | str (s : Str)
  | tup (xs : List D) | lst (xs : List D)
  | ins (c : Str) (fs : List (Str × D))
  | ref (i : Nat)
  | fn (x : Str)
  | scr (ns : List Int)
  | slf
  | dic (kvs : List (Key × D))
  deriving Inhabited

inductive Cell where
  | lst (xs : List D)
  | ins (c : Str) (fs : List (Str × D))
  | dT (kvs : List (List Int × D))
  | dK (kvs : List (Key × D))
  deriving Inhabited

abbrev Store := List (Option Cell)
abbrev En := List (Option D)
/-- an exception: its class, its attributes -/
structure Xc where
  cls : Str
  fs : List (Str × D)

inductive Res (α : Type) where
  | ok (a : α) (S : Store)
  | exc (x : Xc) (S : Store)
  | bad

abbrev M (α : Type) := Store → Res α
@[reducible] def M.pure {α : Type} (a : α) : M α := fun S => .ok a S
def M.bind {α β : Type} (m : M α) (f : α → M β) : M β := fun S => match m S with
  | .ok a S' => f a S'
  | .exc x S' => .exc x S'
  | .bad => .bad
def M.bad {α : Type} : M α := fun _ => .bad
instance : Monad M where
  pure := M.pure
  bind := M.bind

abbrev ME := En → M D
abbrev MT := En → M Bool
abbrev MA := En → M (List D)

inductive Fl where
  | nx (δ : En) (S : Store)
  | rt (d : D) (S : Store)
  | bk (δ : En) (S : Store)
  | ct (δ : En) (S : Store)
  | exc (x : Xc) (δ : En) (S : Store)
  | bad
abbrev MS := En → Store → Fl
abbrev MG := D → En → M En

/-! ### worlds -/
/-- F: what is frozen; m: where the cells stand; P: what is private, kept as it is by all else; sf: the instance that an __init__ is filling -/
structure Wd where
  F : Hp
  m : List Addr
  P : Hp
  sf : Option Addr
structure Wd.lf (W W' : Wd) : Prop where
  f : ∀ a o, W.F a = some o → W'.F a = some o
  sq : W'.sf = W.sf
  mm : ∃ t, W'.m = W.m ++ t
structure Wd.le (W W' : Wd) : Prop extends toLf : Wd.lf W W' where
  pp : W'.P = W.P
instance {W W' : Wd} : CoeOut (W.le W') (W.lf W') := ⟨fun h => h.toLf⟩
theorem Wd.le_refl (W : Wd) : W.le W := ⟨⟨fun _ _ h => h, rfl, [], by simp⟩, rfl⟩
theorem Wd.lf.trans {A B C : Wd} (h : A.lf B) (g : B.lf C) : A.lf C := by
  obtain ⟨h1, h0, t, h2⟩ := h
  obtain ⟨g1, g0, u, g2⟩ := g
  exact ⟨fun a o e => g1 a o (h1 a o e), g0.trans h0, t ++ u, by rw [g2, h2, List.append_assoc]⟩
theorem Wd.le.trans {A B C : Wd} (h : A.le B) (g : B.le C) : A.le C := ⟨h.toLf.trans g.toLf, g.pp.trans h.pp⟩
theorem Wd.lf.get {A B : Wd} (h : A.lf B) {i : Nat} {a : Addr} (e : A.m[i]? = some a) : B.m[i]? = some a := by
  obtain ⟨_, _, t, h2⟩ := h
  rw [h2, List.getElem?_append_left (List.getElem?_eq_some_iff.mp e).1]
  exact e

mutual
inductive Rep (K : PySem.W.Frag) (W : Wd) : D → V → Prop where
  | non : Rep K W .non .non
  | bl (b : Bool) : Rep K W (.bl b) (.bl b)
  | int (i : Int) : Rep K W (.int i) (.int i)
  | str (x : Str) : Rep K W (.str x) (.str x)
  | tup {a : Addr} {vs : List V} {ds : List D} : SqT K W.F a vs → Reps K W ds vs → Rep K W (.tup ds) (.ref a)
  | lst {a : Addr} {vs : List V} {ds : List D} : W.F a = some (.lst vs) → Reps K W ds vs → Rep K W (.lst ds) (.ref a)
  | ins {a dx : Addr} {c : Str} {vfs : List (Str × V)} {fs : List (Str × D)} : W.F a = some (.ins (He.ga K c) dx vfs) → vfs.map (·.1) = fs.map (·.1) → Reps K W (fs.map (·.2)) (vfs.map (·.2)) → Rep K W (.ins c fs) (.ref a)
  | ref {i : Nat} {a : Addr} : W.m[i]? = some a → Rep K W (.ref i) (.ref a)
  | fn (x : Str) : Rep K W (.fn x) (.ref (He.ga K x))
  | scr {a : Addr} {ns : List Int} : SqL K W.F a (ns.map V.int) → Rep K W (.scr ns) (.ref a)
  | dic {a : Addr} {vk : List (Key × V)} {kvs : List (Key × D)} : W.F a = some (.dK vk) → vk.map (·.1) = kvs.map (·.1) → Reps K W (kvs.map (·.2)) (vk.map (·.2)) → Rep K W (.dic kvs) (.ref a)
inductive Reps (K : PySem.W.Frag) (W : Wd) : List D → List V → Prop where
  | nil : Reps K W [] []
  | cons {d : D} {v : V} {ds : List D} {vs : List V} : Rep K W d v → Reps K W ds vs → Reps K W (d :: ds) (v :: vs)
end

section
variable {K : PySem.W.Frag} {W W' : Wd}
theorem rd_mono (h : W.lf W') {a : Addr} {u : HO} (r : Rd W.F a u) : Rd W'.F a u := by
  rcases r with r | ⟨o, r⟩
  · exact .inl (h.f _ _ r)
  · exact .inr ⟨o, h.f _ _ r⟩
theorem sqL_mono (h : W.lf W') {a : Addr} {xs : List V} (r : SqL K W.F a xs) : SqL K W'.F a xs := by
  rcases r with r | r
  · exact .inl (rd_mono h r)
  · exact .inr r
theorem sqT_mono (h : W.lf W') {a : Addr} {xs : List V} (r : SqT K W.F a xs) : SqT K W'.F a xs := by
  rcases r with r | r
  · exact .inl (rd_mono h r)
  · exact .inr r
mutual
theorem Rep.mono (h : W.lf W') : ∀ {d : D} {v : V}, Rep K W d v → Rep K W' d v
  | _, _, .non => .non
  | _, _, .bl b => .bl b
  | _, _, .int i => .int i
  | _, _, .str x => .str x
  | _, _, .tup q r => .tup (sqT_mono h q) (Reps.mono h r)
  | _, _, .lst q r => .lst (h.f _ _ q) (Reps.mono h r)
  | _, _, .scr q => .scr (sqL_mono h q)
  | _, _, .ins e k r => .ins (h.f _ _ e) k (Reps.mono h r)
  | _, _, .ref e => .ref (h.get e)
  | _, _, .fn x => .fn x
  | _, _, .dic e k r => .dic (h.f _ _ e) k (Reps.mono h r)
theorem Reps.mono (h : W.lf W') : ∀ {ds : List D} {vs : List V}, Reps K W ds vs → Reps K W' ds vs
  | _, _, .nil => .nil
  | _, _, .cons r t => .cons (Rep.mono h r) (Reps.mono h t)
end
theorem Reps.length : ∀ {ds : List D} {vs : List V}, Reps K W ds vs → ds.length = vs.length
  | _, _, .nil => rfl
  | _, _, .cons _ t => congrArg Nat.succ (Reps.length t)
theorem Reps.get : ∀ {ds : List D} {vs : List V} {i : Nat} {d : D}, Reps K W ds vs → ds[i]? = some d → ∃ v, vs[i]? = some v ∧ Rep K W d v
  | _, _, _, _, .nil, e => by simp at e
  | _, _, 0, _, .cons r _, e => by simp at e; subst e; exact ⟨_, rfl, r⟩
  | _, _, i + 1, _, .cons _ t, e => by
    obtain ⟨v, e1, r⟩ := Reps.get (i := i) t (by simpa using e)
    exact ⟨v, by simpa using e1, r⟩
theorem Reps.get' : ∀ {ds : List D} {vs : List V} {i : Nat} {v : V}, Reps K W ds vs → vs[i]? = some v → ∃ d, ds[i]? = some d ∧ Rep K W d v
  | _, _, _, _, .nil, e => by simp at e
  | _, _, 0, _, .cons r _, e => by simp at e; subst e; exact ⟨_, rfl, r⟩
  | _, _, i + 1, _, .cons _ t, e => by
    obtain ⟨v, e1, r⟩ := Reps.get' (i := i) t (by simpa using e)
    exact ⟨v, by simpa using e1, r⟩
theorem Reps.append : ∀ {ds es : List D} {vs us : List V}, Reps K W ds vs → Reps K W es us → Reps K W (ds ++ es) (vs ++ us)
  | _, _, _, _, .nil, s => s
  | _, _, _, _, .cons r t, s => .cons r (Reps.append t s)
theorem Reps.set {d : D} {v : V} (r : Rep K W d v) : ∀ {ds : List D} {vs : List V} (i : Nat), Reps K W ds vs → Reps K W (ds.set i d) (vs.set i v)
  | _, _, _, .nil => .nil
  | _, _, 0, .cons _ t => .cons r t
  | _, _, i + 1, .cons q t => .cons q (Reps.set r i t)
theorem Reps.take : ∀ {ds : List D} {vs : List V} (n : Nat), Reps K W ds vs → Reps K W (ds.take n) (vs.take n)
  | _, _, 0, _ => .nil
  | _, _, _ + 1, .nil => .nil
  | _, _, n + 1, .cons r t => .cons r (Reps.take n t)
theorem Reps.drop : ∀ {ds : List D} {vs : List V} (n : Nat), Reps K W ds vs → Reps K W (ds.drop n) (vs.drop n)
  | _, _, 0, r => r
  | _, _, _ + 1, .nil => .nil
  | _, _, n + 1, .cons _ t => Reps.drop n t
theorem Reps.reverse {ds : List D} {vs : List V} (r : Reps K W ds vs) : Reps K W ds.reverse vs.reverse := by
  induction ds generalizing vs with
  | nil => cases r; exact .nil
  | cons d ds ih =>
    cases r with
    | cons a b =>
      rw [List.reverse_cons, List.reverse_cons]
      exact (ih b).append (.cons a .nil)
end

/-- what stands at a cell's address -/
def CellAt (K : PySem.W.Frag) (W : Wd) (H : Hp) (a : Addr) : Cell → Prop
  | .lst ds => ∃ vs, H a = some (.lst vs) ∧ Reps K W ds vs
  | .ins c fs => ∃ dx vfs, H a = some (.ins (He.ga K c) dx vfs) ∧ vfs.map (·.1) = fs.map (·.1) ∧ Reps K W (fs.map (·.2)) (vfs.map (·.2))
  | .dT kvs => ∃ vkvs : List (List Key × V), H a = some (.dT vkvs) ∧ vkvs.map (·.1) = kvs.map (fun p => p.1.map Sum.inl) ∧ Reps K W (kvs.map (·.2)) (vkvs.map (·.2))
  | .dK kvs => ∃ vkvs : List (Key × V), H a = some (.dK vkvs) ∧ vkvs.map (·.1) = kvs.map (·.1) ∧ Reps K W (kvs.map (·.2)) (vkvs.map (·.2))
theorem CellAt.mono {K : PySem.W.Frag} {W W' : Wd} {H : Hp} {a : Addr} (h : W.lf W') : ∀ {c : Cell}, CellAt K W H a c → CellAt K W' H a c
  | .lst _, ⟨vs, e, r⟩ => ⟨vs, e, r.mono h⟩
  | .ins _ _, ⟨dx, vfs, e, k, r⟩ => ⟨dx, vfs, e, k, r.mono h⟩
  | .dT _, ⟨vk, e, k, r⟩ => ⟨vk, e, k, r.mono h⟩
  | .dK _, ⟨vk, e, k, r⟩ => ⟨vk, e, k, r.mono h⟩
theorem CellAt.there {K : PySem.W.Frag} {W : Wd} {H : Hp} {a : Addr} : ∀ {c : Cell}, CellAt K W H a c → ∃ o, H a = some o
  | .lst _, ⟨vs, e, r⟩ => ⟨_, e⟩
  | .ins _ _, ⟨dx, vfs, e, k, r⟩ => ⟨_, e⟩
  | .dT _, ⟨vk, e, k, r⟩ => ⟨_, e⟩
  | .dK _, ⟨vk, e, k, r⟩ => ⟨_, e⟩
theorem CellAt.notup {K : PySem.W.Frag} {W : Wd} {H : Hp} {a : Addr} {xs : List V} (h : H a = some (.tup xs)) : ∀ {c : Cell}, ¬ CellAt K W H a c
  | .lst _, ⟨vs, e, r⟩ => by rw [h] at e; cases e
  | .ins _ _, ⟨dx, vfs, e, k, r⟩ => by rw [h] at e; cases e
  | .dT _, ⟨vk, e, k, r⟩ => by rw [h] at e; cases e
  | .dK _, ⟨vk, e, k, r⟩ => by rw [h] at e; cases e
theorem CellAt.eqH {K : PySem.W.Frag} {W : Wd} {H H' : Hp} {a : Addr} (h : H' a = H a) : ∀ {c : Cell}, CellAt K W H a c → CellAt K W H' a c
  | .lst _, ⟨vs, e, r⟩ => ⟨vs, h.trans e, r⟩
  | .ins _ _, ⟨dx, vfs, e, k, r⟩ => ⟨dx, vfs, h.trans e, k, r⟩
  | .dT _, ⟨vk, e, k, r⟩ => ⟨vk, h.trans e, k, r⟩
  | .dK _, ⟨vk, e, k, r⟩ => ⟨vk, h.trans e, k, r⟩

structure Good (K : PySem.W.Frag) (W : Wd) (S : Store) (H : Hp) : Prop where
  sub : ∀ a o, W.F a = some o → H a = some o
  len : W.m.length = S.length
  cell : ∀ (i : Nat) (c : Cell), S[i]? = some (some c) → ∃ a, W.m[i]? = some a ∧ W.F a = none ∧ W.P a = none ∧ CellAt K W H a c
  inj : ∀ (i j : Nat) (a : Addr) (c c' : Cell), S[i]? = some (some c) → S[j]? = some (some c') → W.m[i]? = some a → W.m[j]? = some a → i = j
  prv : ∀ a o, W.P a = some o → H a = some o ∧ W.F a = none
  ptup : ∀ a xs, W.P a ≠ some (.tup xs)

section
variable {K : PySem.W.Frag} {W : Wd} {S : Store} {H : Hp}
theorem rd_sub {F H : Hp} (s : ∀ a o, F a = some o → H a = some o) {a : Addr} {u : HO} (r : Rd F a u) : Rd H a u := by
  rcases r with r | ⟨o, r⟩
  · exact .inl (s _ _ r)
  · exact .inr ⟨o, s _ _ r⟩
theorem Good.sqL (g : Good K W S H) {a : Addr} {xs : List V} (r : SqL K W.F a xs) : SqL K H a xs := by
  rcases r with r | r
  · exact .inl (rd_sub g.sub r)
  · exact .inr r
theorem Good.sqT (g : Good K W S H) {a : Addr} {xs : List V} (r : SqT K W.F a xs) : SqT K H a xs := by
  rcases r with r | r
  · exact .inl (rd_sub g.sub r)
  · exact .inr r
/-- a new frozen object -/
def Wd.add (W : Wd) (p : Addr) (o : HO) : Wd := ⟨upd W.F p o, W.m, W.P, W.sf⟩
theorem Good.free (g : Good K W S H) {p : Addr} (n : H p = none) : W.F p = none := by
  cases e : W.F p with
  | none => rfl
  | some o => rw [g.sub p o e] at n; cases n
theorem Good.freeP (g : Good K W S H) {p : Addr} (n : H p = none) : W.P p = none := by
  cases e : W.P p with
  | none => rfl
  | some o => rw [(g.prv p o e).1] at n; cases n
theorem Good.add_le (g : Good K W S H) {p : Addr} {o : HO} (n : H p = none) : W.le (W.add p o) :=
  ⟨⟨fun a u e => by show upd W.F p o a = _; rw [upd_ne (ne_of_none e (g.free n))]; exact e, rfl, [], by simp [Wd.add]⟩, rfl⟩
theorem Good.add (g : Good K W S H) {p : Addr} {o : HO} (n : H p = none) : Good K (W.add p o) S (upd H p o) where
  sub := fun a u e => by
    have e1 : upd W.F p o a = some u := e
    by_cases h : a = p
    · subst h; rw [upd_same] at e1 ⊢; exact e1
    · rw [upd_ne h] at e1 ⊢; exact g.sub a u e1
  len := g.len
  cell := fun i c e => by
    obtain ⟨a, e1, e2, e2', e3⟩ := g.cell i c e
    obtain ⟨u, e4⟩ := e3.there
    have ne : a ≠ p := ne_of_none e4 n
    exact ⟨a, e1, by show upd W.F p o a = _; rw [upd_ne ne]; exact e2, e2', (e3.eqH (upd_ne ne)).mono (g.add_le n).toLf⟩
  inj := g.inj
  prv := fun a u e => by
    obtain ⟨h1, h2⟩ := g.prv a u e
    have ne : a ≠ p := ne_of_none h1 n
    exact ⟨by rw [upd_ne ne]; exact h1, by show upd W.F p o a = _; rw [upd_ne ne]; exact h2⟩
  ptup := g.ptup
/-- a new cell -/
def Wd.addC (W : Wd) (p : Addr) : Wd := ⟨W.F, W.m ++ [p], W.P, W.sf⟩
theorem Wd.addC_le (W : Wd) (p : Addr) : W.le (W.addC p) := ⟨⟨fun _ _ h => h, rfl, [p], rfl⟩, rfl⟩
theorem Good.addC (g : Good K W S H) {p : Addr} {o : HO} {c : Cell} (n : H p = none) (hc : CellAt K (W.addC p) (upd H p o) p c) : Good K (W.addC p) (S ++ [some c]) (upd H p o) where
  sub := fun a u e => by
    rw [upd_ne (ne_of_none (g.sub a u e) n)]
    exact g.sub a u e
  len := by simp [Wd.addC, g.len]
  cell := fun i c' e => by
    by_cases h : i < S.length
    · rw [List.getElem?_append_left h] at e
      obtain ⟨a, e1, e2, e2', e3⟩ := g.cell i c' e
      obtain ⟨u, e4⟩ := e3.there
      exact ⟨a, (Wd.addC_le W p).get e1, e2, e2', (e3.eqH (upd_ne (ne_of_none e4 n))).mono (Wd.addC_le W p).toLf⟩
    · have hi : i = S.length := by
        have := (List.getElem?_eq_some_iff.mp e).1
        simp at this; omega
      subst hi
      simp at e
      subst e
      exact ⟨p, by simp [Wd.addC, ← g.len], g.free n, g.freeP n, hc⟩
  inj := fun i j a c1 c2 e1 e2 h1 h2 => by
    have old : ∀ {i : Nat} {a : Addr} {c' : Cell}, i < S.length → (S ++ [some c])[i]? = some (some c') → (W.addC p).m[i]? = some a → W.m[i]? = some a ∧ S[i]? = some (some c') ∧ a ≠ p := fun {i a c'} hi e h => by
      rw [List.getElem?_append_left hi] at e
      obtain ⟨a', q1, q2, _, q3⟩ := g.cell i _ e
      have : (W.addC p).m[i]? = some a' := (Wd.addC_le W p).get q1
      rw [h] at this
      cases this
      obtain ⟨u, q4⟩ := q3.there
      exact ⟨q1, e, ne_of_none q4 n⟩
    have last : ∀ {i : Nat} {a : Addr} {c' : Cell}, ¬ i < S.length → (S ++ [some c])[i]? = some (some c') → (W.addC p).m[i]? = some a → i = S.length ∧ a = p := fun {i a c'} hi e h => by
      have hi' : i = S.length := by
        have := (List.getElem?_eq_some_iff.mp e).1
        simp at this; omega
      subst hi'
      refine ⟨rfl, ?_⟩
      simp [Wd.addC, ← g.len] at h
      exact h.symm
    by_cases hi : i < S.length
    · obtain ⟨a1, a2, a3⟩ := old hi e1 h1
      by_cases hj : j < S.length
      · obtain ⟨b1, b2, b3⟩ := old hj e2 h2
        exact g.inj i j a _ _ a2 b2 a1 b1
      · obtain ⟨b1, b2⟩ := last hj e2 h2
        exact absurd b2 a3
    · obtain ⟨a1, a2⟩ := last hi e1 h1
      by_cases hj : j < S.length
      · obtain ⟨b1, b2, b3⟩ := old hj e2 h2
        exact absurd a2 b3
      · obtain ⟨b1, b2⟩ := last hj e2 h2
        rw [a1, b1]
  prv := fun a u e => by
    obtain ⟨h1, h2⟩ := g.prv a u e
    exact ⟨by rw [upd_ne (ne_of_none h1 n)]; exact h1, h2⟩
  ptup := g.ptup
/-- a cell is written -/
theorem Good.put (g : Good K W S H) {i : Nat} {a : Addr} {c c' : Cell} {o : HO} (e : S[i]? = some (some c)) (h : W.m[i]? = some a) (hc : CellAt K W (upd H a o) a c') : Good K W (S.set i (some c')) (upd H a o) := by
  obtain ⟨a', z1, z2, z3, z4⟩ := g.cell i c e
  rw [h] at z1; cases z1
  refine ⟨fun b u q => ?_, by rw [List.length_set]; exact g.len, fun j c1 q => ?_, fun j k b c1 c2 q1 q2 h1 h2 => ?_, fun b u q => ?_, g.ptup⟩
  · have ne : b ≠ a := fun z => by subst z; rw [q] at z2; cases z2
    rw [upd_ne ne]
    exact g.sub b u q
  · by_cases hj : i = j
    · subst hj
      rw [List.getElem?_set_self (List.getElem?_eq_some_iff.mp e).1] at q
      cases q
      exact ⟨a, h, z2, z3, hc⟩
    · rw [List.getElem?_set_ne hj] at q
      obtain ⟨b, q1, q2, q2', q3⟩ := g.cell j c1 q
      have ne : b ≠ a := fun z => by subst z; exact hj (g.inj i j b _ _ e q h q1)
      exact ⟨b, q1, q2, q2', q3.eqH (upd_ne ne)⟩
  · have old : ∀ {j : Nat} {c1 : Cell}, (S.set i (some c'))[j]? = some (some c1) → ∃ c2, S[j]? = some (some c2) := fun {j c1} q => by
      by_cases hj : i = j
      · subst hj; exact ⟨c, e⟩
      · rw [List.getElem?_set_ne hj] at q; exact ⟨_, q⟩
    obtain ⟨d1, p1⟩ := old q1
    obtain ⟨d2, p2⟩ := old q2
    exact g.inj j k b d1 d2 p1 p2 h1 h2
  · have ne : b ≠ a := fun z => by subst z; rw [q] at z3; cases z3
    obtain ⟨h1, h2⟩ := g.prv b u q
    exact ⟨by rw [upd_ne ne]; exact h1, h2⟩
/-- a cell is frozen -/
theorem Good.freeze (g : Good K W S H) {i : Nat} {a : Addr} {c : Cell} {o : HO} (e : S[i]? = some (some c)) (h : W.m[i]? = some a) (ho : H a = some o) : Good K (W.add a o) (S.set i none) H ∧ W.le (W.add a o) := by
  obtain ⟨a', q1, fa, pa, q3⟩ := g.cell i c e
  rw [h] at q1; cases q1
  have le : W.le (W.add a o) := ⟨⟨fun b u q => by
    have ne : b ≠ a := fun z => by subst z; rw [q] at fa; cases fa
    show upd W.F a o b = _
    rw [upd_ne ne]; exact q, rfl, [], by simp [Wd.add]⟩, rfl⟩
  have old : ∀ {j : Nat} {c1 : Cell}, (S.set i none)[j]? = some (some c1) → i ≠ j ∧ S[j]? = some (some c1) := fun {j c1} q => by
    by_cases hj : i = j
    · subst hj
      rw [List.getElem?_set_self (List.getElem?_eq_some_iff.mp e).1] at q
      cases q
    · rw [List.getElem?_set_ne hj] at q; exact ⟨hj, q⟩
  refine ⟨⟨fun b u q => ?_, by rw [List.length_set]; exact g.len, fun j c1 q => ?_, fun j k b c1 c2 q1 q2 h1 h2 => ?_, fun b u q => ?_, g.ptup⟩, le⟩
  · have q' : upd W.F a o b = some u := q
    by_cases hb : b = a
    · subst hb; rw [upd_same] at q'; cases q'; exact ho
    · rw [upd_ne hb] at q'; exact g.sub b u q'
  · obtain ⟨hj, q'⟩ := old q
    obtain ⟨b, p1, p2, p2', p3⟩ := g.cell j c1 q'
    have ne : b ≠ a := fun z => by subst z; exact hj (g.inj i j b _ _ e q' h p1)
    exact ⟨b, p1, by show upd W.F a o b = _; rw [upd_ne ne]; exact p2, p2', p3.mono le.toLf⟩
  · exact g.inj j k b c1 c2 (old q1).2 (old q2).2 h1 h2
  · have ne : b ≠ a := fun z => by subst z; have q' : W.P b = some u := q; rw [q'] at pa; cases pa
    obtain ⟨h1, h2⟩ := g.prv b u q
    exact ⟨h1, by show upd W.F a o b = _; rw [upd_ne ne]; exact h2⟩
/-- something private is laid, or changed -/
def Wd.prv (W : Wd) (p : Addr) (o : HO) : Wd := ⟨W.F, W.m, upd W.P p o, W.sf⟩
theorem Wd.prv_lf (W : Wd) (p : Addr) (o : HO) : W.lf (W.prv p o) := ⟨fun _ _ h => h, rfl, [], by simp [Wd.prv]⟩
theorem Wd.lf_prv (W : Wd) (p : Addr) (o : HO) : (W.prv p o).lf W := ⟨fun _ _ h => h, rfl, [], by simp [Wd.prv]⟩
theorem Good.toPrv (g : Good K W S H) {p : Addr} {o : HO} (hf : W.F p = none) (hxt : ∀ xs, o ≠ .tup xs) (hm : ∀ (i : Nat) c, S[i]? = some (some c) → W.m[i]? ≠ some p) : Good K (W.prv p o) S (upd H p o) where
  sub := fun a u e => by
    have ne : a ≠ p := fun z => by subst z; have e' : W.F a = some u := e; rw [e'] at hf; cases hf
    rw [upd_ne ne]; exact g.sub a u e
  len := g.len
  cell := fun i c e => by
    obtain ⟨a, e1, e2, e3, e4⟩ := g.cell i c e
    have ne : a ≠ p := fun z => by subst z; exact hm i c e e1
    exact ⟨a, e1, e2, by show upd W.P p o a = _; rw [upd_ne ne]; exact e3, (e4.eqH (upd_ne ne)).mono (W.prv_lf p o)⟩
  inj := g.inj
  prv := fun a u e => by
    have e' : upd W.P p o a = some u := e
    by_cases h : a = p
    · subst h; rw [upd_same] at e'; cases e'; exact ⟨upd_same, hf⟩
    · rw [upd_ne h] at e' ⊢; exact g.prv a u e'
  ptup := fun a xs e => by
    have e' : upd W.P p o a = some (.tup xs) := e
    by_cases h : a = p
    · subst h; rw [upd_same] at e'; cases e'; exact hxt _ rfl
    · rw [upd_ne h] at e'; exact g.ptup a xs e'
theorem Good.newPrv (g : Good K W S H) {p : Addr} {o : HO} (n : H p = none) (hxt : ∀ xs, o ≠ .tup xs := by intro xs z; cases z) : Good K (W.prv p o) S (upd H p o) := g.toPrv (g.free n) hxt fun i c e h => by
  obtain ⟨a, e1, _, _, e4⟩ := g.cell i c e
  rw [h] at e1; cases e1
  obtain ⟨u, q⟩ := e4.there
  rw [n] at q; cases q
theorem Good.updPrv (g : Good K W S H) {p : Addr} {o u : HO} (n : W.P p = some u) (hxt : ∀ xs, o ≠ .tup xs := by intro xs z; cases z) : Good K (W.prv p o) S (upd H p o) := g.toPrv (g.prv p u n).2 hxt fun i c e h => by
  obtain ⟨a, e1, _, e3, _⟩ := g.cell i c e
  rw [h] at e1; cases e1
  rw [n] at e3; cases e3
theorem Good.unPrv_lf (g : Good K W S H) {p : Addr} {o : HO} {P : Hp} (e : W.P = upd P p o) : W.lf ⟨upd W.F p o, W.m, P, W.sf⟩ := ⟨fun b u q => by
    have nb : b ≠ p := fun z => by subst z; rw [(g.prv b _ (by rw [e, upd_same])).2] at q; cases q
    show upd W.F p o b = _; rw [upd_ne nb]; exact q, rfl, [], by simp⟩
/-- what was private is frozen; P: the privacy around it -/
theorem Good.unPrv (g : Good K W S H) {p : Addr} {o : HO} {P : Hp} (e : W.P = upd P p o) (n : P p = none) : Good K ⟨upd W.F p o, W.m, P, W.sf⟩ S H where
  sub := fun a u q => by
    have q' : upd W.F p o a = some u := q
    by_cases h : a = p
    · subst h; rw [upd_same] at q'; cases q'; exact (g.prv a _ (by rw [e, upd_same])).1
    · rw [upd_ne h] at q'; exact g.sub a u q'
  len := g.len
  cell := fun i c q => by
    obtain ⟨a, e1, e2, e3, e4⟩ := g.cell i c q
    have ne : a ≠ p := fun z => by subst z; rw [e, upd_same] at e3; cases e3
    rw [e, upd_ne ne] at e3
    exact ⟨a, e1, by show upd W.F p o a = _; rw [upd_ne ne]; exact e2, e3, e4.mono (g.unPrv_lf e)⟩
  inj := g.inj
  prv := fun a u q => by
    have ne : a ≠ p := fun z => by subst z; have q' : P a = some u := q; rw [q'] at n; cases n
    obtain ⟨h1, h2⟩ := g.prv a u (by rw [e, upd_ne ne]; exact q)
    exact ⟨h1, by show upd W.F p o a = _; rw [upd_ne ne]; exact h2⟩
  ptup := fun a xs q => by
    have q' : P a = some (.tup xs) := q
    have ne : a ≠ p := fun z => by subst z; rw [q'] at n; cases n
    exact g.ptup a xs (by rw [e, upd_ne ne]; exact q')
/-- a tuple that stands is frozen -/
theorem Good.addOld (g : Good K W S H) {q : Addr} {xs : List V} (hq : H q = some (.tup xs)) (hf : W.F q = none) : Good K (W.add q (.tup xs)) S H ∧ W.le (W.add q (.tup xs)) := by
  have hp : W.P q = none := by
    cases e : W.P q with
    | none => rfl
    | some o =>
      have h1 := (g.prv q o e).1
      rw [hq] at h1; cases h1
      exact absurd e (g.ptup q xs)
  have le : W.le (W.add q (.tup xs)) := ⟨⟨fun b u e => by
    have ne : b ≠ q := fun z => by subst z; rw [e] at hf; cases hf
    show upd W.F q (.tup xs) b = _
    rw [upd_ne ne]; exact e, rfl, [], by simp [Wd.add]⟩, rfl⟩
  refine ⟨⟨fun b u e => ?_, g.len, fun i c e => ?_, g.inj, fun b u e => ?_, g.ptup⟩, le⟩
  · have e' : upd W.F q (.tup xs) b = some u := e
    by_cases hb : b = q
    · subst hb; rw [upd_same] at e'; cases e'; exact hq
    · rw [upd_ne hb] at e'; exact g.sub b u e'
  · obtain ⟨a, e1, e2, e3, e4⟩ := g.cell i c e
    have ne : a ≠ q := fun z => by subst z; exact CellAt.notup hq e4
    exact ⟨a, e1, by show upd W.F q (.tup xs) a = _; rw [upd_ne ne]; exact e2, e3, e4.mono le.toLf⟩
  · have ne : b ≠ q := fun z => by subst z; have e' : W.P b = some u := e; rw [hp] at e'; cases e'
    obtain ⟨h1, h2⟩ := g.prv b u e
    exact ⟨h1, by show upd W.F q (.tup xs) b = _; rw [upd_ne ne]; exact h2⟩
/-- a cell is locked for good -/
theorem Good.lockC (g : Good K W S H) {i : Nat} {a : Addr} {c : Cell} {o : HO} (e : S[i]? = some (some c)) (h : W.m[i]? = some a) : Good K (W.add a o) (S.set i none) (upd H a o) ∧ W.le (W.add a o) := by
  obtain ⟨a', q1, fa, pa, q3⟩ := g.cell i c e
  rw [h] at q1; cases q1
  have le : W.le (W.add a o) := ⟨⟨fun b u q => by
    have ne : b ≠ a := fun z => by subst z; rw [q] at fa; cases fa
    show upd W.F a o b = _
    rw [upd_ne ne]; exact q, rfl, [], by simp [Wd.add]⟩, rfl⟩
  have old : ∀ {j : Nat} {c1 : Cell}, (S.set i none)[j]? = some (some c1) → i ≠ j ∧ S[j]? = some (some c1) := fun {j c1} q => by
    by_cases hj : i = j
    · subst hj
      rw [List.getElem?_set_self (List.getElem?_eq_some_iff.mp e).1] at q
      cases q
    · rw [List.getElem?_set_ne hj] at q; exact ⟨hj, q⟩
  refine ⟨⟨fun b u q => ?_, by rw [List.length_set]; exact g.len, fun j c1 q => ?_, fun j k b c1 c2 q1 q2 h1 h2 => ?_, fun b u q => ?_, g.ptup⟩, le⟩
  · have q' : upd W.F a o b = some u := q
    by_cases hb : b = a
    · subst hb; rw [upd_same] at q' ⊢; exact q'
    · rw [upd_ne hb] at q' ⊢; exact g.sub b u q'
  · obtain ⟨hj, q'⟩ := old q
    obtain ⟨b, p1, p2, p2', p3⟩ := g.cell j c1 q'
    have ne : b ≠ a := fun z => by subst z; exact hj (g.inj i j b _ _ e q' h p1)
    exact ⟨b, p1, by show upd W.F a o b = _; rw [upd_ne ne]; exact p2, p2', (p3.eqH (upd_ne ne)).mono le.toLf⟩
  · exact g.inj j k b c1 c2 (old q1).2 (old q2).2 h1 h2
  · have ne : b ≠ a := fun z => by subst z; have q' : W.P b = some u := q; rw [q'] at pa; cases pa
    obtain ⟨h1, h2⟩ := g.prv b u q
    exact ⟨by rw [upd_ne ne]; exact h1, by show upd W.F a o b = _; rw [upd_ne ne]; exact h2⟩
end

/-! ### environments -/
/-- what a slot holds -/
def Slt (K : PySem.W.Frag) (W : Wd) (d : D) (v : V) : Prop := Rep K W d v ∨ (d = .slf ∧ ∃ a, W.sf = some a ∧ v = .ref a)
theorem Slt.mono {K : PySem.W.Frag} {W W' : Wd} {d : D} {v : V} (h : W.lf W') (r : Slt K W d v) : Slt K W' d v := by
  rcases r with r | ⟨e, a, h1, h2⟩
  · exact .inl (r.mono h)
  · exact .inr ⟨e, a, h.sq.trans h1, h2⟩
def REnv (K : PySem.W.Frag) (W : Wd) (δ : En) (σ : St) : Prop := δ.length = σ.length ∧ ∀ (i : Nat) (d : D), δ[i]? = some (some d) → ∃ v, σ[i]? = some (some v) ∧ Slt K W d v
theorem REnv.mono {K : PySem.W.Frag} {W W' : Wd} {δ : En} {σ : St} (h : W.lf W') (r : REnv K W δ σ) : REnv K W' δ σ := ⟨r.1, fun i d e => by
  obtain ⟨v, e1, e2⟩ := r.2 i d e
  exact ⟨v, e1, e2.mono h⟩⟩
theorem REnv.set {K : PySem.W.Frag} {W : Wd} {δ : En} {σ : St} {d : D} {v : V} (r : REnv K W δ σ) (i : Nat) (q : Rep K W d v) : REnv K W (δ.set i (some d)) (σ.set i (some v)) := by
  refine ⟨by simp [r.1], fun j d' e => ?_⟩
  by_cases hj : i = j
  · subst hj
    have hi : i < δ.length := by
      have := (List.getElem?_eq_some_iff.mp e).1
      simpa using this
    rw [List.getElem?_set_self hi] at e
    cases e
    exact ⟨v, List.getElem?_set_self (by rw [← r.1]; exact hi), .inl q⟩
  · rw [List.getElem?_set_ne hj] at e
    obtain ⟨v', e1, e2⟩ := r.2 j d' e
    exact ⟨v', by rw [List.getElem?_set_ne hj]; exact e1, e2⟩

/-! ### exceptions -/
/-- how an exception lies: its class, its own dict -/
def XRep (K : PySem.W.Frag) (W : Wd) (x : Xc) (cls : Value) (d : Option Addr) : Prop :=
  cls = .ref (He.ga K x.cls) ∧ ((x.fs = [] ∧ d = none) ∨ ∃ a vfs, d = some a ∧ W.F a = some (.xd vfs) ∧ vfs.map (·.1) = x.fs.map (·.1) ∧ Reps K W (x.fs.map (·.2)) (vfs.map (·.2)))

/-! ### what a result promises -/
def okP {α β : Type} (K : PySem.W.Frag) (R : Wd → α → β → Prop) (W : Wd) (r : Res α) (σ : St) (Wx : WX) (Q : β → Hp → Prop) : Prop := match r with
  | .ok d S' => ∀ W' H' v, W.le W' → Good K W' S' H' → R W' d v → Q v H'
  | .exc x S' => ∀ W' H' cls d, W.le W' → Good K W' S' H' → XRep K W' x cls d → Wx cls d σ H'
  | .bad => False
theorem okP.mono {α β : Type} {K : PySem.W.Frag} {R : Wd → α → β → Prop} {W W1 : Wd} {r : Res α} {σ : St} {Wx : WX} {Q : β → Hp → Prop} (h : W.le W1) (p : okP K R W r σ Wx Q) : okP K R W1 r σ Wx Q := by
  cases r with
  | ok d S' => exact fun W' H' v l => p W' H' v (h.trans l)
  | exc x S' => exact fun W' H' cls d l => p W' H' cls d (h.trans l)
  | bad => exact p
/-- readings of expressions, tests, argument lists -/
def tD (K : PySem.W.Frag) (Wx : WX) (m : ME) : TE := fun σ H Q => ∃ W S δ, Good K W S H ∧ REnv K W δ σ ∧ okP K (Rep K) W (m δ S) σ Wx Q
def tDT (K : PySem.W.Frag) (Wx : WX) (m : MT) : TT := fun σ H Q => ∃ W S δ, Good K W S H ∧ REnv K W δ σ ∧ okP K (fun _ (b c : Bool) => b = c) W (m δ S) σ Wx Q
def tDA (K : PySem.W.Frag) (Wx : WX) (m : MA) : TA := fun σ H Q => ∃ W S δ, Good K W S H ∧ REnv K W δ σ ∧ okP K (Reps K) W (m δ S) σ Wx Q
def flP (K : PySem.W.Frag) (W : Wd) (r : Fl) (Wx : WX) (E : Ends) : Prop := match r with
  | .nx δ S => ∀ W' H' σ, W.le W' → Good K W' S H' → REnv K W' δ σ → E.nx σ H'
  | .rt d S => ∀ W' H' v, W.le W' → Good K W' S H' → Rep K W' d v → E.rt v H'
  | .bk δ S => ∀ W' H' σ, W.le W' → Good K W' S H' → REnv K W' δ σ → E.bk σ H'
  | .ct δ S => ∀ W' H' σ, W.le W' → Good K W' S H' → REnv K W' δ σ → E.ct σ H'
  | .exc x δ S => ∀ W' H' σ cls d, W.le W' → Good K W' S H' → REnv K W' δ σ → XRep K W' x cls d → Wx cls d σ H'
  | .bad => False
theorem flP.mono {K : PySem.W.Frag} {W W1 : Wd} {r : Fl} {Wx : WX} {E : Ends} (h : W.le W1) (p : flP K W r Wx E) : flP K W1 r Wx E := by
  cases r with
  | nx δ S => exact fun W' H' σ l => p W' H' σ (h.trans l)
  | rt d S => exact fun W' H' σ l => p W' H' σ (h.trans l)
  | bk δ S => exact fun W' H' σ l => p W' H' σ (h.trans l)
  | ct δ S => exact fun W' H' σ l => p W' H' σ (h.trans l)
  | exc x δ S => exact fun W' H' σ cls d l => p W' H' σ cls d (h.trans l)
  | bad => exact p
def tDS (K : PySem.W.Frag) (Wx : WX) (m : MS) : TS := fun E σ H => ∃ W S δ, Good K W S H ∧ REnv K W δ σ ∧ flP K W (m δ S) Wx E

theorem PE.imp {X : Cx} {e : Expr} {t t' : TE} (p : PE X e t) (h : ∀ σ H Q, t' σ H Q → t σ H Q) : PE X e t' := ⟨fun pins s σ H Q I q => p.run pins s σ H Q I (h σ H Q q)⟩
theorem PT.imp {X : Cx} {e : Expr} {t t' : TT} (p : PT X e t) (h : ∀ σ H Q, t' σ H Q → t σ H Q) : PT X e t' := ⟨fun pins s σ H Q I q => p.run pins s σ H Q I (h σ H Q q)⟩
theorem PW.imp {X : Cx} {e : Expr} {t t' : TT} (p : PW X e t) (h : ∀ σ H Q, t' σ H Q → t σ H Q) : PW X e t' := ⟨fun w pins s σ H Q I q => p.run w pins s σ H Q I (h σ H Q q)⟩
theorem PA.imp {X : Cx} {e : List Expr} {t t' : TA} (p : PA X e t) (h : ∀ σ H Q, t' σ H Q → t σ H Q) : PA X e t' := ⟨fun pos pins s σ H Q I q => p.run pos pins s σ H Q I (h σ H Q q)⟩
theorem PS.imp {X : Cx} {e : Stmt} {t t' : TS} (p : PS X e t) (h : ∀ D σ H, t' D σ H → t D σ H) : PS X e t' := ⟨fun pins s σ H D I q => p.run pins s σ H D I (h D σ H q)⟩
theorem PSs.imp {X : Cx} {e : List Stmt} {t t' : TS} (p : PSs X e t) (h : ∀ D σ H, t' D σ H → t D σ H) : PSs X e t' := ⟨fun pins s σ H D I q => p.run pins s σ H D I (h D σ H q)⟩
theorem PG.imp {X : Cx} {e : Expr} {t t' : TG} (p : PG X e t) (h : ∀ v σ H Q, t' v σ H Q → t v σ H Q) : PG X e t' := ⟨fun pins s σ H v u Q I r q => p.run pins s σ H v u Q I r (h v σ H Q q)⟩
end Ev
/-! # readings combined; names, operators, displays -/
namespace Ev
open PySem L2

/-! ### composing results -/
theorem okP.imp {α β : Type} {K : PySem.W.Frag} {R : Wd → α → β → Prop} {W : Wd} {r : Res α} {σ : St} {Wx : WX} {Q Q' : β → Hp → Prop} (p : okP K R W r σ Wx Q) (h : ∀ v H, Q v H → Q' v H) : okP K R W r σ Wx Q' := by
  cases r with
  | ok d S' => exact fun W' H' v l g r => h _ _ (p W' H' v l g r)
  | exc x S' => exact p
  | bad => exact p
theorem okP.bind {α β γ ε : Type} {K : PySem.W.Frag} {R : Wd → α → β → Prop} {R' : Wd → γ → ε → Prop} {W : Wd} {m : M α} {f : α → M γ} {S : Store} {σ : St} {Wx : WX} {Q : ε → Hp → Prop}
    (h : okP K R' W (M.bind m f S) σ Wx Q) : okP K R W (m S) σ Wx (fun v H' => ∃ W' S' a, W.le W' ∧ Good K W' S' H' ∧ R W' a v ∧ okP K R' W' (f a S') σ Wx Q) := by
  unfold M.bind at h
  cases e : m S with
  | ok a S' =>
    rw [e] at h
    exact fun W' H' v l g r => ⟨W', S', a, l, g, r, h.mono l⟩
  | exc x S' =>
    rw [e] at h
    exact h
  | bad =>
    rw [e] at h
    exact h
theorem okP.pure {α β : Type} {K : PySem.W.Frag} {R : Wd → α → β → Prop} {W : Wd} {a : α} {S : Store} {σ : St} {Wx : WX} {Q : β → Hp → Prop} {H : Hp} {v : β} (h : okP K R W (M.pure a S) σ Wx Q) (g : Good K W S H) (r : R W a v) : Q v H := h W H v W.le_refl g r

/-- a primitive operation: no exception -/
abbrev PO := Store → Option (D × Store)
def lft (p : PO) : M D := fun S => match p S with
  | some (d, S') => .ok d S'
  | none => .bad
def oV (K : PySem.W.Frag) (W : Wd) (r : Option (D × Store)) (Q : VK) : Prop := match r with
  | some (d, S') => ∀ W' H' v, W.le W' → Good K W' S' H' → Rep K W' d v → Q v H'
  | none => False
theorem okP.lft {K : PySem.W.Frag} {W : Wd} {p : PO} {S : Store} {σ : St} {Wx : WX} {Q : VK} (h : okP K (Rep K) W (lft p S) σ Wx Q) : oV K W (p S) Q := by
  unfold Ev.lft at h
  cases e : p S with
  | none =>
    rw [e] at h
    exact h
  | some r =>
    rw [e] at h
    exact h
theorem oV.val {K : PySem.W.Frag} {W : Wd} {S : Store} {d : D} {Q : VK} {H : Hp} {v : V} (h : oV K W (some (d, S)) Q) (g : Good K W S H) (r : Rep K W d v) : Q v H := h W H v W.le_refl g r
/-- a new frozen object -/
theorem oV.new {K : PySem.W.Frag} {W : Wd} {S : Store} {d : D} {Q : VK} {H : Hp} {p : Addr} {o : HO} (h : oV K W (some (d, S)) Q) (g : Good K W S H) (n : H p = none) (r : Rep K (W.add p o) d (.ref p)) : Q (.ref p) (upd H p o) :=
  h _ _ _ (g.add_le n) (g.add n) r

/-! ### values by operations -/
def rD2 (K : PySem.W.Frag) (f : D → D → PO) : R2 := fun x y H Q => ∃ W S dx dy, Good K W S H ∧ Rep K W dx x ∧ Rep K W dy y ∧ oV K W (f dx dy S) Q
def rD1 (K : PySem.W.Frag) (f : D → PO) : V → Hp → VK → Prop := fun x H Q => ∃ W S dx, Good K W S H ∧ Rep K W dx x ∧ oV K W (f dx S) Q
def rDC (K : PySem.W.Frag) (f : List D → PO) : List V → Hp → VK → Prop := fun xs H Q => ∃ W S ds, Good K W S H ∧ Reps K W ds xs ∧ oV K W (f ds S) Q

section
variable {X : Cx} {Wx : WX} {a b c e : Expr} {ma mb mc m : ME} {pos : Pos}
abbrev SE (X : Cx) (Wx : WX) (e : Expr) (m : ME) : Prop := PE X e (tD X.K Wx m)
abbrev ST (X : Cx) (Wx : WX) (e : Expr) (m : MT) : Prop := PT X e (tDT X.K Wx m)
abbrev SW (X : Cx) (Wx : WX) (e : Expr) (m : MT) : Prop := PW X e (tDT X.K Wx m)
abbrev SA (X : Cx) (Wx : WX) (e : List Expr) (m : MA) : Prop := PA X e (tDA X.K Wx m)
abbrev SS (X : Cx) (Wx : WX) (e : Stmt) (m : MS) : Prop := PS X e (tDS X.K Wx m)
abbrev SB (X : Cx) (Wx : WX) (e : List Stmt) (m : MS) : Prop := PSs X e (tDS X.K Wx m)

/-- never -/
def eBad : ME := fun _ => M.bad
theorem se_bad : SE X Wx e eBad := ⟨fun _ _ _ _ _ _ h => by obtain ⟨_, _, _, _, _, z⟩ := h; exact z.elim⟩
theorem st_bad : ST X Wx e (fun _ => M.bad) := ⟨fun _ _ _ _ _ _ h => by obtain ⟨_, _, _, _, _, z⟩ := h; exact z.elim⟩
theorem sw_bad : SW X Wx e (fun _ => M.bad) := ⟨fun _ _ _ _ _ _ _ h => by obtain ⟨_, _, _, _, _, z⟩ := h; exact z.elim⟩
theorem sa_bad {es : List Expr} : SA X Wx es (fun _ => M.bad) := ⟨fun _ _ _ _ _ _ _ h => by obtain ⟨_, _, _, _, _, z⟩ := h; exact z.elim⟩
theorem ss_bad {st : Stmt} : SS X Wx st (fun _ _ => .bad) := ⟨fun _ _ _ _ _ _ h => by obtain ⟨_, _, _, _, _, z⟩ := h; exact z.elim⟩
theorem sb_bad {st : List Stmt} : SB X Wx st (fun _ _ => .bad) := ⟨fun _ _ _ _ _ _ h => by obtain ⟨_, _, _, _, _, z⟩ := h; exact z.elim⟩

def eVar (i : Nat) : ME := fun δ => match δ[i]? with
  | some (some .slf) => M.bad
  | some (some d) => M.pure d
  | _ => M.bad
theorem se_var {i : Nat} {x : Str} (hN : X.N[i]? = some x) (hv : Vis X.env.scope x) (hd : (x == ("__debug__" : Str)) = false) (hcd : (x == ("__classdict__" : Str)) = false) : SE X Wx (.Name x pos) (eVar i) :=
  PE.imp (pe_var hN hv hd hcd) fun σ H Q ⟨W, S, δ, g, r, p⟩ => by
    unfold eVar at p
    cases q : δ[i]? with
    | none => rw [q] at p; exact p.elim
    | some o =>
      cases o with
      | none => rw [q] at p; exact p.elim
      | some d =>
        rw [q] at p
        obtain ⟨v, e1, e2⟩ := r.2 i d q
        rcases e2 with e2 | ⟨rfl, _⟩
        · exact ⟨v, e1, okP.pure (a := d) (by cases d <;> first | exact p | exact p.elim) g e2⟩
        · exact p.elim
def eC (d : D) : ME := fun _ => M.pure d
theorem se_c {d : D} {v : V} (h : PE X e (tC v)) (r : ∀ W, Rep X.K W d v) : SE X Wx e (eC d) := PE.imp h fun σ H Q ⟨W, S, δ, g, q, p⟩ => okP.pure p g (r W)
theorem se_int {i j} : SE X Wx (.Constant (.int i) j pos) (eC (.int i)) := se_c pe_int fun _ => .int i
theorem se_bl {i j} : SE X Wx (.Constant (.bool i) j pos) (eC (.bl i)) := se_c pe_bl fun _ => .bl i
theorem se_non {j} : SE X Wx (.Constant .none j pos) (eC .non) := se_c pe_non fun _ => .non
theorem se_str {i j} : SE X Wx (.Constant (.str i) j pos) (eC (.str i)) := se_c pe_str fun _ => .str i

def eOp (f : D → D → PO) (ma mb : ME) : ME := fun δ => M.bind (ma δ) fun x => M.bind (mb δ) fun y => lft (f x y)
theorem tOp_of {f : D → D → PO} (σ : St) (H : Hp) (Q : VK) (h : tD X.K Wx (eOp f ma mb) σ H Q) : tOp (rD2 X.K f) (tD X.K Wx ma) (tD X.K Wx mb) σ H Q := by
  obtain ⟨W, S, δ, g, r, p⟩ := h
  refine ⟨W, S, δ, g, r, p.bind.imp fun v H1 ⟨W1, S1, x, l1, g1, r1, p1⟩ => ⟨W1, S1, δ, g1, r.mono l1, p1.bind.imp fun v2 H2 ⟨W2, S2, y, l2, g2, r2, p2⟩ => ⟨W2, S2, x, y, g2, r1.mono l2, r2, p2.lft⟩⟩⟩
theorem se_op {op : Operator} {f : D → D → PO} (ho : OpR X (binaryOp op) (rD2 X.K f)) (ha : SE X Wx a ma) (hb : SE X Wx b mb) : SE X Wx (.BinOp a op b pos) (eOp f ma mb) := PE.imp (pe_op ho ha hb) tOp_of
theorem se_cmp {op : CmpOp} {f : D → D → PO} (ho : OpR X (compareOp op) (rD2 X.K f)) (ha : SE X Wx a ma) (hb : SE X Wx b mb) (hm : behindInMarks op b = false) : SE X Wx (.Compare a [op] [b] pos) (eOp f ma mb) := PE.imp (pe_cmpR ho ha hb hm) tOp_of
/-- a value that is a truth -/
def asB (m : M D) : M Bool := M.bind m fun d => match d with
  | .bl b => M.pure b
  | _ => M.bad
theorem okP.asB {K : PySem.W.Frag} {W : Wd} {S : Store} {m : M D} {σ : St} {Q : Bool → Hp → Prop} (h : okP K (fun _ (b c : Bool) => b = c) W (asB m S) σ Wx Q) : okP K (Rep K) W (m S) σ Wx (fun v H' => ∃ k, v = .bl k ∧ Q k H') :=
  (okP.bind (R := Rep K) h).imp fun v H1 ⟨W1, S1, d, l1, g1, r1, p1⟩ => by
    cases r1 with
    | bl b => exact ⟨b, rfl, okP.pure p1 g1 rfl⟩
    | _ => exact p1.elim
theorem okP.assoc {α β γ δ' : Type} {K : PySem.W.Frag} {R : Wd → γ → δ' → Prop} {W : Wd} {S : Store} {m : M α} {f : α → M β} {g : β → M γ} {σ : St} {Q : δ' → Hp → Prop} (h : okP K R W (M.bind (M.bind m f) g S) σ Wx Q) : okP K R W (M.bind m (fun a => M.bind (f a) g) S) σ Wx Q := by
  unfold M.bind at h ⊢
  cases e : m S with
  | ok a S' => rw [e] at h; exact h
  | exc x S' => rw [e] at h; exact h
  | bad => rw [e] at h; exact h
theorem st_cmp {op : CmpOp} {f : D → D → PO} (ho : OpR X (compareOp op) (rD2 X.K f)) (ha : SE X Wx a ma) (hb : SE X Wx b mb) (hm : behindInMarks op b = false) : ST X Wx (.Compare a [op] [b] pos) (fun δ => asB (eOp f ma mb δ)) :=
  PT.imp (pt_cmpR ho ha hb hm) fun σ H Q ⟨W, S, δ, g, r, p⟩ => tOp_of σ H _ ⟨W, S, δ, g, r, p.asB⟩

/-! chains a op b op' c -/
def eChain (f f' : D → D → PO) (ma mb mc : ME) : ME := fun δ => M.bind (ma δ) fun x => M.bind (mb δ) fun y => M.bind (lft (f x y)) fun z => match z with
  | .bl true => M.bind (mc δ) fun w => lft (f' y w)
  | .bl false => M.pure (.bl false)
  | _ => M.bad
theorem tChain_of {f f' : D → D → PO} (σ : St) (H : Hp) (Q : VK) (h : tD X.K Wx (eChain f f' ma mb mc) σ H Q) : tChain (rD2 X.K f) (rD2 X.K f') (tD X.K Wx ma) (tD X.K Wx mb) (tD X.K Wx mc) σ H Q := by
  obtain ⟨W, S, δ, g, r, p⟩ := h
  refine ⟨W, S, δ, g, r, p.bind.imp fun v H1 ⟨W1, S1, x, l1, g1, r1, p1⟩ => ⟨W1, S1, δ, g1, r.mono l1, p1.bind.imp fun v2 H2 ⟨W2, S2, y, l2, g2, r2, p2⟩ => ⟨W2, S2, x, y, g2, r1.mono l2, r2, ?_⟩⟩⟩
  have p3 := (okP.bind (R := Rep X.K) p2).lft
  cases e : f x y S2 with
  | none => rw [e] at p3; exact p3
  | some q =>
    obtain ⟨d, S3⟩ := q
    rw [e] at p3
    intro W3 H3 v3 l3 g3 r3
    obtain ⟨W4, S4, d4, l4, g4, r4, p4⟩ := p3 W3 H3 v3 l3 g3 r3
    cases r4 with
    | bl k =>
      refine ⟨k, rfl, ?_⟩
      cases k with
      | false =>
        rw [if_neg Bool.false_ne_true]
        exact okP.pure p4 g4 (.bl false)
      | true =>
        rw [if_pos rfl]
        have l04 := (l1.trans l2).trans l4
        refine ⟨W4, S4, δ, g4, r.mono l04, (okP.bind (R := Rep X.K) p4).imp fun v5 H5 ⟨W5, S5, d5, l5, g5, r5, p5⟩ => ⟨W5, S5, y, d5, g5, r2.mono (l4.trans l5), r5, p5.lft⟩⟩
    | _ => exact p4.elim
/-! truth -/
theorem reps_ints {K : PySem.W.Frag} {W : Wd} : ∀ ns : List Int, Reps K W (ns.map D.int) (ns.map V.int)
  | [] => .nil
  | n :: ns => .cons (.int n) (reps_ints ns)
/-- the items of a list that may be changed or added to another -/
def plstOf (S : Store) (d : D) : Option (List D) := match d with
  | .lst ds => some ds
  | .ref i => (match S[i]? with
    | some (some (.lst ds)) => some ds
    | _ => none)
  | _ => none
theorem plstOf_ok {K : PySem.W.Frag} {W : Wd} {S : Store} {H : Hp} {d : D} {v : V} {ds : List D} (e : plstOf S d = some ds) (g : Good K W S H) (r : Rep K W d v) : ∃ a vs, v = .ref a ∧ H a = some (.lst vs) ∧ Reps K W ds vs := by
  cases r with
  | lst q r =>
    cases e
    exact ⟨_, _, rfl, g.sub _ _ q, r⟩
  | @ref i a h =>
    simp only [plstOf] at e
    split at e
    · rename_i c hc
      cases e
      obtain ⟨a', e1, e2, _, vs, e3, e4⟩ := g.cell i _ hc
      rw [h] at e1; cases e1
      exact ⟨a, vs, rfl, e3, e4⟩
    · cases e
  | _ => cases e
def lstOf (S : Store) (d : D) : Option (List D) := match d with
  | .lst ds => some ds
  | .scr ns => some (ns.map D.int)
  | .ref i => (match S[i]? with
    | some (some (.lst ds)) => some ds
    | _ => none)
  | _ => none
theorem lstOf_ok {K : PySem.W.Frag} {W : Wd} {S : Store} {H : Hp} {d : D} {v : V} {ds : List D} (e : lstOf S d = some ds) (g : Good K W S H) (r : Rep K W d v) : ∃ a vs, v = .ref a ∧ SqL K H a vs ∧ Reps K W ds vs := by
  cases r with
  | lst q r =>
    cases e
    exact ⟨_, _, rfl, SqL.of (g.sub _ _ q), r⟩
  | scr q =>
    cases e
    exact ⟨_, _, rfl, g.sqL q, reps_ints _⟩
  | @ref i a h =>
    simp only [lstOf] at e
    split at e
    · rename_i c hc
      cases e
      obtain ⟨a', e1, e2, _, vs, e3, e4⟩ := g.cell i _ hc
      rw [h] at e1; cases e1
      exact ⟨a, vs, rfl, SqL.of e3, e4⟩
    · cases e
  | _ => cases e
/-- the items of a list, a tuple, a list cell -/
def seqOf (S : Store) (d : D) : Option (List D) := match d with
  | .tup ds => some ds
  | d => lstOf S d
theorem seqOf_ok {K : PySem.W.Frag} {W : Wd} {S : Store} {H : Hp} {d : D} {v : V} {ds : List D} (e : seqOf S d = some ds) (g : Good K W S H) (r : Rep K W d v) : ∃ a vs, v = .ref a ∧ (SqL K H a vs ∨ SqT K H a vs) ∧ Reps K W ds vs := by
  cases d with
  | tup xs =>
    cases r with
    | tup q r =>
      cases e
      exact ⟨_, _, rfl, .inr (g.sqT q), r⟩
  | lst xs => obtain ⟨a, vs, h1, h2, h3⟩ := lstOf_ok (show lstOf S (.lst xs) = some ds from e) g r; exact ⟨a, vs, h1, .inl h2, h3⟩
  | ref i => obtain ⟨a, vs, h1, h2, h3⟩ := lstOf_ok (show lstOf S (.ref i) = some ds from e) g r; exact ⟨a, vs, h1, .inl h2, h3⟩
  | scr ns => obtain ⟨a, vs, h1, h2, h3⟩ := lstOf_ok (show lstOf S (.scr ns) = some ds from e) g r; exact ⟨a, vs, h1, .inl h2, h3⟩
  | _ => cases e
def truD (S : Store) : D → Option Bool
  | .non => some false
  | .bl b => some b
  | .int i => some (i != 0)
  | .str x => if x.length ≤ sizeLine then some ((x.length : Int) != 0) else none
  | d => (seqOf S d).map fun ds => !ds.isEmpty
theorem reps_empty {K : PySem.W.Frag} {W : Wd} {ds : List D} {vs : List V} (r : Reps K W ds vs) : ds.isEmpty = vs.isEmpty := by
  cases r <;> rfl
theorem truD_ok {K : PySem.W.Frag} {W : Wd} {S : Store} {H : Hp} {d : D} {v : V} {k : Bool} (e : truD S d = some k) (g : Good K W S H) (r : Rep K W d v) : TruV K v H k := by
  have seq : ∀ {d : D}, (seqOf S d).map (fun ds => !ds.isEmpty) = some k → Rep K W d v → TruV K v H k := fun {d} e r => by
    obtain ⟨ds, e1, e2⟩ := Option.map_eq_some_iff.mp e
    obtain ⟨a, vs, rfl, h2, h3⟩ := seqOf_ok e1 g r
    rcases h2 with h2 | h2
    · exact .inl ⟨vs, h2, by rw [← reps_empty h3]; exact e2.symm⟩
    · exact .inr (.inl ⟨vs, h2, by rw [← reps_empty h3]; exact e2.symm⟩)
  cases r with
  | non => cases e; rfl
  | bl b => cases e; rfl
  | int i => cases e; rfl
  | str x =>
    simp only [truD] at e
    split at e
    · cases e; exact ⟨by assumption, rfl⟩
    · cases e
  | tup q r => exact seq (by rw [← e]; rfl) (.tup q r)
  | lst q r => exact seq (by rw [← e]; rfl) (.lst q r)
  | ref h => exact seq (by rw [← e]; rfl) (.ref h)
  | ins h1 h2 h3 => cases e
  | fn x => cases e
  | dic _ _ _ => cases e
  | scr h => exact seq (by rw [← e]; rfl) (.scr h)
/-- a value's truth -/
def tru (m : M D) : M Bool := M.bind m fun d S => match truD S d with
  | some b => .ok b S
  | none => .bad
theorem okP.tru {K : PySem.W.Frag} {W : Wd} {S : Store} {m : M D} {σ : St} {Q : Bool → Hp → Prop} (h : okP K (fun _ (b c : Bool) => b = c) W (tru m S) σ Wx Q) : okP K (Rep K) W (m S) σ Wx (fun v H' => ∃ k, TruV K v H' k ∧ Q k H') :=
  (okP.bind (R := Rep K) h).imp fun v H1 ⟨W1, S1, d, l1, g1, r1, p1⟩ => by
    cases e : truD S1 d with
    | none => rw [e] at p1; exact p1.elim
    | some k => rw [e] at p1; exact ⟨k, truD_ok e g1 r1, p1 W1 H1 k W1.le_refl g1 rfl⟩
theorem st_truth (ha : SE X Wx a ma) (he : ∀ whole, isTrue a X.env whole = (do let v ← whole; standAt a.pos; holding [v] (truthy v))) : ST X Wx a (fun δ => tru (ma δ)) :=
  PT.imp (pt_truth ha he) fun σ H Q ⟨W, S, δ, g, r, p⟩ => ⟨W, S, δ, g, r, p.tru⟩
theorem st_chain {op op' : CmpOp} {f f' : D → D → PO} (ho : OpR X (compareOp op) (rD2 X.K f)) (ho' : OpR X (compareOp op') (rD2 X.K f')) (ha : SE X Wx a ma) (hb : SE X Wx b mb) (hc : SE X Wx c mc) (hm : lastMarks [op, op'] [b, c] = false) : ST X Wx (.Compare a [op, op'] [b, c] pos) (fun δ => asB (eChain f f' ma mb mc δ)) :=
  PT.imp (pt_chain ho ho' ha hb hc hm) fun σ H Q ⟨W, S, δ, g, r, p⟩ => tChain_of σ H _ ⟨W, S, δ, g, r, p.asB⟩
theorem se_chain {op op' : CmpOp} {f f' : D → D → PO} (ho : OpR X (compareOp op) (rD2 X.K f)) (ho' : OpR X (compareOp op') (rD2 X.K f')) (ha : SE X Wx a ma) (hb : SE X Wx b mb) (hc : SE X Wx c mc) (hm : lastMarks [op, op'] [b, c] = false) : SE X Wx (.Compare a [op, op'] [b, c] pos) (eChain f f' ma mb mc) :=
  PE.imp (pe_chain ho ho' ha hb hc hm) tChain_of
end
end Ev
/-! # and, or, not, if; displays; blocks; targets; loops -/
namespace Ev
open PySem L2
section
variable {X : Cx} {Wx : WX} {a b c e : Expr} {ma mb mc m : ME} {pos : Pos} {rest : List Expr}

/-! ### and, or, not -/
def eAnd (ma mb : ME) : ME := fun δ => M.bind (ma δ) fun x S => match truD S x with
  | some true => mb δ S
  | some false => .ok x S
  | none => .bad
def eOr (ma mb : ME) : ME := fun δ => M.bind (ma δ) fun x S => match truD S x with
  | some true => .ok x S
  | some false => mb δ S
  | none => .bad
theorem se_and (ha : SE X Wx a ma) (hb : SE X Wx (.BoolOp .And (b :: rest) pos) mb) : SE X Wx (.BoolOp .And (a :: b :: rest) pos) (eAnd ma mb) :=
  PE.imp (pe_andT ha hb) fun σ H Q ⟨W, S, δ, g, r, p⟩ => ⟨W, S, δ, g, r, (okP.bind (R := Rep X.K) p).imp fun v H1 ⟨W1, S1, x, l1, g1, r1, p1⟩ => by
    cases e : truD S1 x with
    | none => rw [e] at p1; exact p1.elim
    | some k =>
      rw [e] at p1
      refine ⟨k, truD_ok e g1 r1, ?_⟩
      cases k with
      | true => rw [if_pos rfl]; exact ⟨W1, S1, δ, g1, r.mono l1, p1⟩
      | false => rw [if_neg Bool.false_ne_true]; exact p1 W1 H1 v W1.le_refl g1 r1⟩
theorem se_or (ha : SE X Wx a ma) (hb : SE X Wx (.BoolOp .Or (b :: rest) pos) mb) : SE X Wx (.BoolOp .Or (a :: b :: rest) pos) (eOr ma mb) :=
  PE.imp (pe_orT ha hb) fun σ H Q ⟨W, S, δ, g, r, p⟩ => ⟨W, S, δ, g, r, (okP.bind (R := Rep X.K) p).imp fun v H1 ⟨W1, S1, x, l1, g1, r1, p1⟩ => by
    cases e : truD S1 x with
    | none => rw [e] at p1; exact p1.elim
    | some k =>
      rw [e] at p1
      refine ⟨k, truD_ok e g1 r1, ?_⟩
      cases k with
      | false => rw [if_neg Bool.false_ne_true]; exact ⟨W1, S1, δ, g1, r.mono l1, p1⟩
      | true => rw [if_pos rfl]; exact p1 W1 H1 v W1.le_refl g1 r1⟩
def eNot (ma : ME) : ME := fun δ => M.bind (tru (ma δ)) fun k => M.pure (.bl (!k))
theorem se_not (ha : SE X Wx a ma) : SE X Wx (.UnaryOp .Not a pos) (eNot ma) :=
  PE.imp (pe_notT ha) fun σ H Q ⟨W, S, δ, g, r, p⟩ => ⟨W, S, δ, g, r, (okP.bind (R := fun _ (b c : Bool) => b = c) p).tru.imp fun v H1 ⟨k, tk, W1, S1, k', l1, g1, ek, p1⟩ => by
    subst ek
    exact ⟨k', tk, okP.pure p1 g1 (.bl _)⟩⟩
variable {ta tb tc : MT}
def tAndM (ta tb : MT) : MT := fun δ => M.bind (ta δ) fun c => cond c (tb δ) (M.pure false)
def tOrM (ta tb : MT) : MT := fun δ => M.bind (ta δ) fun c => cond c (M.pure true) (tb δ)
def tNotM (ta : MT) : MT := fun δ => M.bind (ta δ) fun c => M.pure (!c)
theorem sw_and1 (ha : ST X Wx a ta) : SW X Wx (.BoolOp .And [a] pos) ta := pw_and1 ha
theorem sw_or1 (ha : ST X Wx a ta) : SW X Wx (.BoolOp .Or [a] pos) ta := pw_or1 ha
theorem sw_and (ha : ST X Wx a ta) (hb : SW X Wx (.BoolOp .And (b :: rest) pos) tb) : SW X Wx (.BoolOp .And (a :: b :: rest) pos) (tAndM ta tb) :=
  PW.imp (pw_and ha hb) fun σ H Q ⟨W, S, δ, g, r, p⟩ => ⟨W, S, δ, g, r, (okP.bind (R := fun _ (b c : Bool) => b = c) p).imp fun v H1 ⟨W1, S1, k, l1, g1, ek, p1⟩ => by
    subst ek
    cases k with
    | true => rw [if_pos rfl]; exact ⟨W1, S1, δ, g1, r.mono l1, p1⟩
    | false => rw [if_neg Bool.false_ne_true]; exact okP.pure p1 g1 rfl⟩
theorem sw_or (ha : ST X Wx a ta) (hb : SW X Wx (.BoolOp .Or (b :: rest) pos) tb) : SW X Wx (.BoolOp .Or (a :: b :: rest) pos) (tOrM ta tb) :=
  PW.imp (pw_or ha hb) fun σ H Q ⟨W, S, δ, g, r, p⟩ => ⟨W, S, δ, g, r, (okP.bind (R := fun _ (b c : Bool) => b = c) p).imp fun v H1 ⟨W1, S1, k, l1, g1, ek, p1⟩ => by
    subst ek
    cases k with
    | false => rw [if_neg Bool.false_ne_true]; exact ⟨W1, S1, δ, g1, r.mono l1, p1⟩
    | true => rw [if_pos rfl]; exact okP.pure p1 g1 rfl⟩
theorem st_not (ha : ST X Wx a ta) : ST X Wx (.UnaryOp .Not a pos) (tNotM ta) :=
  PT.imp (pt_not ha) fun σ H Q ⟨W, S, δ, g, r, p⟩ => ⟨W, S, δ, g, r, (okP.bind (R := fun _ (b c : Bool) => b = c) p).imp fun v H1 ⟨W1, S1, k, l1, g1, ek, p1⟩ => by
    subst ek
    exact okP.pure p1 g1 rfl⟩
def eIf (tc : MT) (ma mb : ME) : ME := fun δ => M.bind (tc δ) fun k => cond k (ma δ) (mb δ)
theorem se_if (hc : ST X Wx c tc) (ha : SE X Wx a ma) (hb : SE X Wx b mb) : SE X Wx (.IfExp c a b pos) (eIf tc ma mb) :=
  PE.imp (pe_ifExp hc ha hb) fun σ H Q ⟨W, S, δ, g, r, p⟩ => ⟨W, S, δ, g, r, (okP.bind (R := fun _ (b c : Bool) => b = c) p).imp fun v H1 ⟨W1, S1, k, l1, g1, ek, p1⟩ => by
    subst ek
    cases k with
    | true => rw [if_pos rfl]; exact ⟨W1, S1, δ, g1, r.mono l1, p1⟩
    | false => rw [if_neg Bool.false_ne_true]; exact ⟨W1, S1, δ, g1, r.mono l1, p1⟩⟩
def eUn (f : D → PO) (ma : ME) : ME := fun δ => M.bind (ma δ) fun x => lft (f x)
theorem se_un {op : UnaryOp} {f : D → PO} (ho : UnR X (unaryOp op) (rD1 X.K f)) (ha : SE X Wx a ma) : SE X Wx (.UnaryOp op a pos) (eUn f ma) :=
  PE.imp (pe_un ho ha) fun σ H Q ⟨W, S, δ, g, r, p⟩ => ⟨W, S, δ, g, r, (okP.bind (R := Rep X.K) p).imp fun v H1 ⟨W1, S1, x, l1, g1, r1, p1⟩ => ⟨W1, S1, x, g1, r1, p1.lft⟩⟩

/-! ### argument lists, displays -/
variable {es : List Expr} {mas : MA}
def aNil : MA := fun _ => M.pure []
def aCons (ma : ME) (mas : MA) : MA := fun δ => M.bind (ma δ) fun x => M.bind (mas δ) fun xs => M.pure (x :: xs)
def aStar (ma : ME) (mas : MA) : MA := fun δ => M.bind (ma δ) fun x S => match seqOf S x with
  | some xs => M.bind (mas δ) (fun ys => M.pure (xs ++ ys)) S
  | none => .bad
theorem sa_nil : SA X Wx [] aNil := PA.imp pa_nil fun σ H Q ⟨W, S, δ, g, r, p⟩ => okP.pure p g .nil
theorem sa_cons (ha : SE X Wx e ma) (hr : SA X Wx es mas) (hs : starEach (e :: es) X.env = (false, eval e X.env) :: starEach es X.env) : SA X Wx (e :: es) (aCons ma mas) :=
  PA.imp (pa_cons ha hr hs) fun σ H Q ⟨W, S, δ, g, r, p⟩ => ⟨W, S, δ, g, r, (okP.bind (R := Rep X.K) p).imp fun v H1 ⟨W1, S1, x, l1, g1, r1, p1⟩ =>
    ⟨W1, S1, δ, g1, r.mono l1, (okP.bind (R := Reps X.K) p1).imp fun vs H2 ⟨W2, S2, xs, l2, g2, r2, p2⟩ => okP.pure p2 g2 (.cons (r1.mono l2) r2)⟩⟩
theorem sa_star {q : Pos} (ha : SE X Wx e ma) (hr : SA X Wx es mas) : SA X Wx (.Starred e q :: es) (aStar ma mas) :=
  PA.imp (StX.pa_star ha hr) fun σ H Q ⟨W, S, δ, g, r, p⟩ => ⟨W, S, δ, g, r, (okP.bind (R := Rep X.K) p).imp fun v H1 ⟨W1, S1, x, l1, g1, r1, p1⟩ => by
    cases e : seqOf S1 x with
    | none => rw [e] at p1; exact p1.elim
    | some xs =>
      rw [e] at p1
      obtain ⟨a, vs, rfl, h2, h3⟩ := seqOf_ok e g1 r1
      exact ⟨a, vs, rfl, h2.symm, W1, S1, δ, g1, r.mono l1, (okP.bind (R := Reps X.K) p1).imp fun us H2 ⟨W2, S2, ys, l2, g2, r2, p2⟩ => okP.pure p2 g2 ((h3.mono l2).append r2)⟩⟩
/-- a new frozen list, tuple; a new list cell -/
def newT (xs : List D) : PO := fun S => if xs.length ≤ sizeLine then some (.tup xs, S) else none
def newL (xs : List D) : PO := fun S => if xs.length ≤ sizeLine then some (.lst xs, S) else none
def newC (xs : List D) : PO := fun S => if xs.length ≤ sizeLine then some (.ref S.length, S ++ [some (.lst xs)]) else none
theorem newT_ok {K : PySem.W.Frag} {W : Wd} {S : Store} {H : Hp} {xs : List D} {vs : List V} {Q : VK} (p : oV K W (newT xs S) Q) (g : Good K W S H) (r : Reps K W xs vs) : vs.length ≤ sizeLine ∧ ∀ a, H a = none → Q (.ref a) (upd H a (.tup vs)) := by
  unfold newT at p
  split at p
  · rename_i hl
    exact ⟨by rw [← r.length]; exact hl, fun a n => p.new g n (.tup (SqT.of upd_same) (r.mono (g.add_le n).toLf))⟩
  · exact p.elim
theorem newL_ok {K : PySem.W.Frag} {W : Wd} {S : Store} {H : Hp} {xs : List D} {vs : List V} {Q : VK} (p : oV K W (newL xs S) Q) (g : Good K W S H) (r : Reps K W xs vs) : vs.length ≤ sizeLine ∧ ∀ a, H a = none → Q (.ref a) (upd H a (.lst vs)) := by
  unfold newL at p
  split at p
  · rename_i hl
    exact ⟨by rw [← r.length]; exact hl, fun a n => p.new g n (.lst upd_same (r.mono (g.add_le n).toLf))⟩
  · exact p.elim
theorem newC_ok {K : PySem.W.Frag} {W : Wd} {S : Store} {H : Hp} {xs : List D} {vs : List V} {Q : VK} (p : oV K W (newC xs S) Q) (g : Good K W S H) (r : Reps K W xs vs) : vs.length ≤ sizeLine ∧ ∀ a, H a = none → Q (.ref a) (upd H a (.lst vs)) := by
  unfold newC at p
  split at p
  · rename_i hl
    refine ⟨by rw [← r.length]; exact hl, fun a n => p _ _ _ (Wd.addC_le W a) (g.addC n ⟨vs, upd_same, r.mono (Wd.addC_le W a)⟩) (.ref ?_)⟩
    simp [Wd.addC, ← g.len]
  · exact p.elim
def eTup (mas : MA) : ME := fun δ => M.bind (mas δ) fun xs => lft (newT xs)
def eLst (mas : MA) : ME := fun δ => M.bind (mas δ) fun xs => lft (newL xs)
def eLstC (mas : MA) : ME := fun δ => M.bind (mas δ) fun xs => lft (newC xs)
theorem se_tup {k : Nat} (h : SA X Wx es mas) : SE X Wx (.Tuple es k pos) (eTup mas) :=
  PE.imp (pe_tup h) fun σ H Q ⟨W, S, δ, g, r, p⟩ => ⟨W, S, δ, g, r, (okP.bind (R := Reps X.K) p).imp fun vs H1 ⟨W1, S1, xs, l1, g1, r1, p1⟩ => newT_ok p1.lft g1 r1⟩
theorem se_lst (h : SA X Wx es mas) : SE X Wx (.List es pos) (eLst mas) :=
  PE.imp (pe_lst h) fun σ H Q ⟨W, S, δ, g, r, p⟩ => ⟨W, S, δ, g, r, (okP.bind (R := Reps X.K) p).imp fun vs H1 ⟨W1, S1, xs, l1, g1, r1, p1⟩ => newL_ok p1.lft g1 r1⟩
theorem se_lstC (h : SA X Wx es mas) : SE X Wx (.List es pos) (eLstC mas) :=
  PE.imp (pe_lst h) fun σ H Q ⟨W, S, δ, g, r, p⟩ => ⟨W, S, δ, g, r, (okP.bind (R := Reps X.K) p).imp fun vs H1 ⟨W1, S1, xs, l1, g1, r1, p1⟩ => newC_ok p1.lft g1 r1⟩

/-! ### calls of built-ins by values -/
def eCallV (f : List D → PO) (mas : MA) : ME := fun δ => M.bind (mas δ) fun xs => lft (f xs)
theorem tCB_of {f : List D → PO} (σ : St) (H : Hp) (Q : VK) (h : tD X.K Wx (eCallV f mas) σ H Q) : tCB (rDC X.K f) (tDA X.K Wx mas) σ H Q := by
  obtain ⟨W, S, δ, g, r, p⟩ := h
  exact ⟨W, S, δ, g, r, (okP.bind (R := Reps X.K) p).imp fun vs H1 ⟨W1, S1, xs, l1, g1, r1, p1⟩ => ⟨W1, S1, xs, g1, r1, p1.lft⟩⟩

/-! ### blocks -/
variable {st : Stmt} {sts : List Stmt} {ms mt : MS}
def sNext : MS := fun δ S => .nx δ S
def sSeq (ms mt : MS) : MS := fun δ S => match ms δ S with
  | .nx δ' S' => mt δ' S'
  | r => r
theorem sb_nil : SB X Wx [] sNext := PSs.imp pss_nil fun D σ H ⟨W, S, δ, g, r, p⟩ => p W H σ W.le_refl g r
theorem flP_seq {K : PySem.W.Frag} {W : Wd} {δ : En} {S : Store} {D : Ends} (p : flP K W (sSeq ms mt δ S) Wx D) : flP K W (ms δ S) Wx { D with nx := tDS K Wx mt D } := by
  unfold sSeq at p
  cases e : ms δ S with
  | nx δ' S' =>
    rw [e] at p
    exact fun W' H' σ' l g' r' => ⟨W', S', δ', g', r', p.mono l⟩
  | rt d S' => rw [e] at p; exact p
  | bk δ' S' => rw [e] at p; exact p
  | ct δ' S' => rw [e] at p; exact p
  | exc x δ' S' => rw [e] at p; exact p
  | bad => rw [e] at p; exact p
theorem sb_cons (h1 : SS X Wx st ms) (h2 : SB X Wx sts mt) : SB X Wx (st :: sts) (sSeq ms mt) :=
  PSs.imp (pss_cons h1 h2) fun D σ H ⟨W, S, δ, g, r, p⟩ => ⟨W, S, δ, g, r, flP_seq p⟩
theorem sb_one (h1 : SS X Wx st ms) : SB X Wx [st] ms := pss_one h1
def ofE {α : Type} (m : M α) (δ : En) (k : α → Store → Fl) (S : Store) : Fl := match m S with
  | .ok a S' => k a S'
  | .exc x S' => .exc x δ S'
  | .bad => .bad
theorem flP_ofE {α β : Type} {K : PySem.W.Frag} {R : Wd → α → β → Prop} {W : Wd} {m : M α} {δ : En} {S : Store} {k : α → Store → Fl} {D : Ends} {σ : St} (r : REnv K W δ σ) (p : flP K W (ofE m δ k S) Wx D) :
    okP K R W (m S) σ Wx (fun v H' => ∃ W' S' a, W.le W' ∧ Good K W' S' H' ∧ R W' a v ∧ flP K W' (k a S') Wx D) := by
  unfold ofE at p
  cases e : m S with
  | ok a S' =>
    rw [e] at p
    exact fun W' H' v l g' r' => ⟨W', S', a, l, g', r', p.mono l⟩
  | exc x S' =>
    rw [e] at p
    exact fun W' H' cls d l g' x' => p W' H' σ cls d l g' (r.mono l) x'
  | bad => rw [e] at p; exact p
def sExpr (m : ME) : MS := fun δ => ofE (m δ) δ fun _ S => .nx δ S
theorem ss_expr (he : SE X Wx e m) (hs : swapsWith e none pos.line X.env = pure false) : SS X Wx (.Expr e pos) (sExpr m) :=
  PS.imp (ps_expr he hs) fun D σ H ⟨W, S, δ, g, r, p⟩ => ⟨W, S, δ, g, r, (flP_ofE (R := Rep X.K) r p).imp fun v H1 ⟨W1, S1, x, l1, g1, r1, p1⟩ => p1 W1 H1 σ W1.le_refl g1 (r.mono l1)⟩
def sRet (m : ME) : MS := fun δ => ofE (m δ) δ fun d S => .rt d S
theorem ss_ret (he : SE X Wx e m) : SS X Wx (.Return (some e) pos) (sRet m) :=
  PS.imp (ps_ret he) fun D σ H ⟨W, S, δ, g, r, p⟩ => ⟨W, S, δ, g, r, (flP_ofE (R := Rep X.K) r p).imp fun v H1 ⟨W1, S1, x, l1, g1, r1, p1⟩ => p1 W1 H1 v W1.le_refl g1 r1⟩
def sRetN : MS := fun _ S => .rt .non S
theorem ss_retN : SS X Wx (.Return none pos) sRetN := PS.imp ps_retN fun D σ H ⟨W, S, δ, g, r, p⟩ => p W H .non W.le_refl g .non
def sBrk : MS := fun δ S => .bk δ S
def sCnt : MS := fun δ S => .ct δ S
theorem ss_pass : SS X Wx (.Pass pos) sNext := PS.imp ps_pass fun D σ H ⟨W, S, δ, g, r, p⟩ => p W H σ W.le_refl g r
theorem ss_break : SS X Wx (.Break pos) sBrk := PS.imp ps_break fun D σ H ⟨W, S, δ, g, r, p⟩ => p W H σ W.le_refl g r
theorem ss_continue : SS X Wx (.Continue pos) sCnt := PS.imp ps_continue fun D σ H ⟨W, S, δ, g, r, p⟩ => p W H σ W.le_refl g r
def sIf (tc : MT) (ms mt : MS) : MS := fun δ => ofE (tc δ) δ fun k S => cond k (ms δ S) (mt δ S)
theorem ss_if {sts' : List Stmt} (hc : ST X Wx c tc) (h1 : SB X Wx sts ms) (h2 : SB X Wx sts' mt) : SS X Wx (.If c sts sts' pos) (sIf tc ms mt) :=
  PS.imp (ps_if hc h1 h2) fun D σ H ⟨W, S, δ, g, r, p⟩ => ⟨W, S, δ, g, r, (flP_ofE (R := fun _ (b c : Bool) => b = c) r p).imp fun v H1 ⟨W1, S1, k, l1, g1, ek, p1⟩ => by
    subst ek
    cases k with
    | true => rw [if_pos rfl]; exact ⟨W1, S1, δ, g1, r.mono l1, p1⟩
    | false => rw [if_neg Bool.false_ne_true]; exact ⟨W1, S1, δ, g1, r.mono l1, p1⟩⟩

/-! ### targets (no exception leaves them) -/
abbrev TGM := D → En → Store → Option (En × Store)
abbrev TGMs := List D → En → Store → Option (En × Store)
def oG (K : PySem.W.Frag) (W : Wd) (r : Option (En × Store)) (Q : St → Hp → Prop) : Prop := match r with
  | some (δ, S) => ∀ W' H' σ, W.le W' → Good K W' S H' → REnv K W' δ σ → Q σ H'
  | none => False
theorem oG.mono {K : PySem.W.Frag} {W W1 : Wd} {r : Option (En × Store)} {Q : St → Hp → Prop} (h : W.le W1) (p : oG K W r Q) : oG K W1 r Q := by
  cases r with
  | none => exact p
  | some q => exact fun W' H' σ l => p W' H' σ (h.trans l)
def tDG (K : PySem.W.Frag) (mg : TGM) : TG := fun v σ H Q => ∃ W S δ d, Good K W S H ∧ REnv K W δ σ ∧ Rep K W d v ∧ oG K W (mg d δ S) Q
def tDGs (K : PySem.W.Frag) (mg : TGMs) : TGs := fun vs σ H Q => ∃ W S δ ds, Good K W S H ∧ REnv K W δ σ ∧ Reps K W ds vs ∧ oG K W (mg ds δ S) Q
abbrev SG (X : Cx) (e : Expr) (m : TGM) : Prop := PG X e (tDG X.K m)
abbrev SGs (X : Cx) (e : List Expr) (m : TGMs) : Prop := PGs X e (tDGs X.K m)
theorem PGs.imp {X : Cx} {e : List Expr} {t t' : TGs} (p : PGs X e t) (h : ∀ v σ H Q, t' v σ H Q → t v σ H Q) : PGs X e t' := ⟨fun pins s σ H v u Q I r q => p.run pins s σ H v u Q I r (h v σ H Q q)⟩
theorem sg_bad : SG X e (fun _ _ _ => none) := ⟨fun _ _ _ _ _ _ _ _ _ h => by obtain ⟨_, _, _, _, _, _, _, z⟩ := h; exact z.elim⟩
def gNm (i : Nat) : TGM := fun d δ S => some (δ.set i (some d), S)
theorem sg_name {i : Nat} {x : Str} (hN : X.N.Nodup) (hi : X.N[i]? = some x) (hx : Loc X.env.scope x) (hf : X.fn x = true ∨ X.env.scope.names.lookup x = some .local) : SG X (.Name x pos) (gNm i) :=
  PG.imp (pg_name hN hi hx hf) fun v σ H Q ⟨W, S, δ, d, g, r, q, p⟩ => p W H _ W.le_refl g (r.set i q)
def gNl : TGMs := fun ds δ S => match ds with
  | [] => some (δ, S)
  | _ => none
def gCs (m : TGM) (ms : TGMs) : TGMs := fun ds δ S => match ds with
  | d :: ds => (m d δ S).bind fun r => ms ds r.1 r.2
  | [] => none
theorem sgs_nil : SGs X [] gNl := PGs.imp pgs_nil fun v σ H Q ⟨W, S, δ, ds, g, r, q, p⟩ => by
  cases q with
  | nil => exact ⟨rfl, p W H σ W.le_refl g r⟩
  | cons _ _ => exact p.elim
theorem sgs_cons {m : TGM} {ms : TGMs} (h1 : SG X e m) (h2 : SGs X es ms) (hs : (assignEach (e :: es) X.env).map (·.2) = assign e X.env :: (assignEach es X.env).map (·.2)) : SGs X (e :: es) (gCs m ms) :=
  PGs.imp (pgs_cons h1 h2 hs) fun v σ H Q ⟨W, S, δ, ds, g, r, q, p⟩ => by
    cases q with
    | nil => exact p.elim
    | @cons d v ds vs q1 q2 =>
      refine ⟨v, vs, rfl, W, S, δ, d, g, r, q1, ?_⟩
      have p' : oG X.K W ((m d δ S).bind fun r => ms ds r.1 r.2) Q := p
      cases e1 : m d δ S with
      | none => rw [e1] at p'; exact p'.elim
      | some z =>
        rw [e1] at p'
        exact fun W1 H1 σ1 l1 g1 r1 => ⟨W1, z.2, z.1, ds, g1, r1, q2.mono l1, p'.mono l1⟩
/-- (a, b, ..) = a tuple -/
def gTp (n : Nat) (ms : TGMs) : TGM := fun d δ S => match d with
  | .tup ds => if ds.length = n then ms ds δ S else none
  | _ => none
theorem sg_tup {k n : Nat} {ms : TGMs} (hc : X.calm = true) (h : SGs X es ms) (hn : (assignEach es X.env).length = n) (hst : (assignEach es X.env).findIdx? (·.1) = none) : SG X (.Tuple es k pos) (gTp n ms) :=
  PG.imp (pg_tup hc h hn hst) fun v σ H Q ⟨W, S, δ, d, g, r, q, p⟩ => by
    cases q with
    | @tup a vs ds q1 q2 =>
      have p' : oG X.K W (if ds.length = n then ms ds δ S else none) Q := p
      split at p'
      · rename_i hl
        exact ⟨a, vs, rfl, g.sqT q1, by rw [← q2.length]; exact hl, W, S, δ, ds, g, r, q2, p'⟩
      · exact p'.elim
    | _ => exact p.elim
def toO {α : Type} (m : M α) (S : Store) : Option (α × Store) := match m S with
  | .ok a S' => some (a, S')
  | _ => none
/-- o[i] = v by values -/
abbrev PSt := D → D → D → Store → Option Store
def tDSet (K : PySem.W.Frag) (f : PSt) : TSet := fun o i v H Q => ∃ W S do_ di dv, Good K W S H ∧ Rep K W do_ o ∧ Rep K W di i ∧ Rep K W dv v ∧ (match f do_ di dv S with
  | some S' => ∀ W' H', W.le W' → Good K W' S' H' → Q H'
  | none => False)
def gSb (f : PSt) (mo mi : ME) : TGM := fun d δ S => (toO (mo δ) S).bind fun o => (toO (mi δ) o.2).bind fun i => (f o.1 i.1 d i.2).map fun S' => (δ, S')
theorem toO_ok {α β γ : Type} {K : PySem.W.Frag} {R : Wd → α → β → Prop} {W : Wd} {m : M α} {S : Store} {σ : St} {f : α × Store → Option γ} {P : Option γ → Prop} {Q : β → Hp → Prop} (h0 : P none → False) (p : P ((toO m S).bind f))
    (k : ∀ a S', P (f (a, S')) → ∀ W' H' v, W.le W' → Good K W' S' H' → R W' a v → Q v H') : okP K R W (m S) σ Wx Q := by
  unfold toO at p
  cases e : m S with
  | ok a S' =>
    rw [e] at p
    exact fun W' H' v l g r => k a S' p W' H' v l g r
  | exc x S' => rw [e] at p; exact (h0 p).elim
  | bad => rw [e] at p; exact h0 p
theorem sg_sub {o i : Expr} {mo mi : ME} {f : PSt} (ho : SE X Wx o mo) (hi : SE X Wx i mi) (hs : PSet X (tDSet X.K f))
    (ha : ∀ v, assign (.Subscript o i pos) X.env v = (do
      let ov ← holding [v] (eval o X.env)
      let iv ← holding [v, ov] (eval i X.env)
      standAt pos
      holding [v, ov, iv] (setItem ov iv v)
      release [v, ov, iv] [])) : SG X (.Subscript o i pos) (gSb f mo mi) :=
  PG.imp (pg_sub ho hi hs ha) fun v σ H Q ⟨W, S, δ, d, g, r, q, p⟩ => by
    refine ⟨W, S, δ, g, r, toO_ok (P := fun r => oG X.K W r Q) (fun z => z) p fun o1 S1 p1 W1 H1 v1 l1 g1 r1 => ?_⟩
    refine ⟨W1, S1, δ, g1, r.mono l1, toO_ok (P := fun r => oG X.K W r Q) (fun z => z) p1 fun i1 S2 p2 W2 H2 v2 l2 g2 r2 => ?_⟩
    refine ⟨W2, S2, o1, i1, d, g2, r1.mono l2, r2, q.mono (l1.trans l2), ?_⟩
    have p3 : oG X.K W ((f o1 i1 d S2).map fun S' => (δ, S')) Q := p2
    cases e1 : f o1 i1 d S2 with
    | none => rw [e1] at p3; exact p3.elim
    | some S' =>
      rw [e1] at p3
      exact fun W3 H3 l3 g3 => p3 W3 H3 σ ((l1.trans l2).trans l3) g3 (r.mono ((l1.trans l2).trans l3))
/-! ### assignments -/
def sAsg (m : ME) (mg : TGM) : MS := fun δ => ofE (m δ) δ fun d S => match mg d δ S with
  | some (δ', S') => .nx δ' S'
  | none => .bad
theorem flP_oG {K : PySem.W.Frag} {W : Wd} {r : Option (En × Store)} {D : Ends} (p : flP K W (match r with
  | some (δ', S') => .nx δ' S'
  | none => .bad) Wx D) : oG K W r D.nx := by
  cases r with
  | none => exact p
  | some q => exact p
theorem tAsg_of {mg : TGM} (D : Ends) (σ : St) (H : Hp) (h : tDS X.K Wx (sAsg m mg) D σ H) : tAsg (tD X.K Wx m) (tDG X.K mg) D σ H := by
  obtain ⟨W, S, δ, g, r, p⟩ := h
  exact ⟨W, S, δ, g, r, (flP_ofE (R := Rep X.K) r p).imp fun v H1 ⟨W1, S1, d, l1, g1, r1, p1⟩ => ⟨W1, S1, δ, d, g1, r.mono l1, r1, flP_oG p1⟩⟩
theorem ss_asg {tg : Expr} {mg : TGM} (he : SE X Wx e m) (hg : SG X tg mg) (hs : swapsWithSole [tg] e pos.line X.env = pure false) (hw : swappedStores [tg] e X.env = pure none) (h1 : (assignEach [tg] X.env).map (·.2) = [assign tg X.env]) : SS X Wx (.Assign [tg] e pos) (sAsg m mg) :=
  PS.imp (ps_asg he hg hs hw h1) tAsg_of
theorem ss_set {i : Nat} {x : Str} {pos' : Pos} (hN : X.N.Nodup) (hi : X.N[i]? = some x) (hx : Loc X.env.scope x) (he : SE X Wx e m) (hs : swapsWith e (some (.Name x pos')) pos.line X.env = pure false) (hf : X.fn x = true ∨ X.env.scope.names.lookup x = some .local) : SS X Wx (.Assign [.Name x pos'] e pos) (sAsg m (gNm i)) :=
  PS.imp (ps_set hN hi hx he hs hf) fun D σ H ⟨W, S, δ, g, r, p⟩ => ⟨W, S, δ, g, r, (flP_ofE (R := Rep X.K) r p).imp fun v H1 ⟨W1, S1, d, l1, g1, r1, p1⟩ => p1 W1 H1 _ W1.le_refl g1 ((r.mono l1).set i r1)⟩
/-- a, b = x, y of names stored the other way round -/
def sPar2 (i j : Nat) (mas : MA) : MS := fun δ => ofE (mas δ) δ fun ds S => match ds with
  | [x, y] => .nx ((δ.set i (some x)).set j (some y)) S
  | _ => .bad
theorem ss_par2 {i j : Nat} {x y : Str} {px py pt : Pos} {kt k2 : Nat} {pt2 : Pos} (hc : X.calm = true) (hN : X.N.Nodup) (hi : X.N[i]? = some x) (hj : X.N[j]? = some y) (hij : i ≠ j)
    (hx : X.env.scope.names.lookup x = some .local) (hy : X.env.scope.names.lookup y = some .local) (ha : SA X Wx [a, b] mas)
    (hw : swappedStores [.Tuple [.Name x px, .Name y py] kt pt] (.Tuple [a, b] k2 pt2) X.env = pure (some [x, y])) :
    SS X Wx (.Assign [.Tuple [.Name x px, .Name y py] kt pt] (.Tuple [a, b] k2 pt2) pos) (sPar2 i j mas) :=
  PS.imp (ps_par hc hN hi hj hij hx hy ha hw) fun D σ H ⟨W, S, δ, g, r, p⟩ => ⟨W, S, δ, g, r, (flP_ofE (R := Reps X.K) r p).imp fun vs H1 ⟨W1, S1, ds, l1, g1, r1, p1⟩ => by
    cases r1 with
    | nil => exact p1.elim
    | cons q1 r1 =>
      cases r1 with
      | nil => exact p1.elim
      | cons q2 r1 =>
        cases r1 with
        | nil => exact ⟨_, _, rfl, p1 W1 H1 _ W1.le_refl g1 (((r.mono l1).set i q1).set j q2)⟩
        | cons _ _ => exact p1.elim⟩
end
end Ev
/-! # loops and comprehensions -/
namespace Ev
open PySem L2
/-- J walks the items ds, while what W has frozen stands -/
def WalkD (K : PySem.W.Frag) (W : Wd) (ds : List D) (J : It) : Prop :=
  Walk J ds.length (fun H => ∀ a o, W.F a = some o → H a = some o) (fun i H x H' => ∀ d, ds[i]? = some d → ∀ W2 S2, W.lf W2 → Good K W2 S2 H → ∃ W3, W2.le W3 ∧ Good K W3 S2 H' ∧ Rep K W3 d x)
def tDI (K : PySem.W.Frag) (Wx : WX) (mi : MA) : TI := fun σ H R => ∃ W S δ, Good K W S H ∧ REnv K W δ σ ∧ okP K (WalkD K) W (mi δ S) σ Wx R
abbrev SI (X : Cx) (Wx : WX) (tg e : Expr) (m : MA) : Prop := PI X tg e (tDI X.K Wx m)
theorem PI.imp {X : Cx} {tg e : Expr} {t t' : TI} (p : PI X tg e t) (h : ∀ σ H R, t' σ H R → t σ H R) : PI X tg e t' := ⟨fun pins s σ H R I q => p.run pins s σ H R I (h σ H R q)⟩
section
variable {X : Cx} {Wx : WX} {a b c e tg : Expr} {ma mb mc m : ME} {pos : Pos} {K : PySem.W.Frag} {W : Wd}
theorem si_bad : SI X Wx tg e (fun _ => M.bad) := ⟨fun _ _ _ _ _ _ h => by obtain ⟨_, _, _, _, _, z⟩ := h; exact z.elim⟩
/-- one value after another, the heap as it is -/
theorem walkD_at {J : It} {ds : List D} {vs : List V} (r : Reps K W ds vs) (w : Walk J ds.length (fun H => ∀ a o, W.F a = some o → H a = some o) (YAt vs)) : WalkD K W ds J :=
  w.mono (fun _ h => h) fun i H x H' hi hG y d hd W2 S2 l g => by
    obtain ⟨rfl, hx⟩ := y
    obtain ⟨v, e1, e2⟩ := r.get hd
    rw [hx] at e1; cases e1
    exact ⟨W2, W2.le_refl, g, e2.mono l⟩
/-- a list or a tuple, frozen -/
def iSeq (m : ME) : MA := fun δ => M.bind (m δ) fun d => match d with
  | .lst ds => M.pure ds
  | _ => M.bad
theorem si_list (h : SE X Wx e m) : SI X Wx tg e (iSeq m) :=
  PI.imp (pi_list h) fun σ H R ⟨W, S, δ, g, r, p⟩ => ⟨W, S, δ, g, r, (okP.bind (R := Rep X.K) p).imp fun v H1 ⟨W1, S1, d, l1, g1, r1, p1⟩ => by
    cases r1 with
    | @lst a vs ds q r2 =>
      refine ⟨a, rfl, ⟨vs, SqL.of (g1.sub _ _ q)⟩, okP.pure p1 g1 (walkD_at r2 ?_)⟩
      have w := walk_list (K := X.K) (a := a) (xs := vs)
      rw [← r2.length] at w
      exact w.mono (fun H h => SqL.of (h _ _ q)) fun _ _ _ _ _ _ y => y
    | _ => exact p1.elim⟩
def iTpl (m : ME) : MA := fun δ => M.bind (m δ) fun d => match d with
  | .tup ds => M.pure ds
  | _ => M.bad
theorem si_tup (h : SE X Wx e m) : SI X Wx tg e (iTpl m) :=
  PI.imp (pi_tup h) fun σ H R ⟨W, S, δ, g, r, p⟩ => ⟨W, S, δ, g, r, (okP.bind (R := Rep X.K) p).imp fun v H1 ⟨W1, S1, d, l1, g1, r1, p1⟩ => by
    cases r1 with
    | @tup a vs ds q r2 =>
      refine ⟨a, rfl, ⟨vs, g1.sqT q⟩, okP.pure p1 g1 (walkD_at r2 ?_)⟩
      have w := walk_tup (K := X.K) (a := a) (xs := vs)
      rw [← r2.length] at w
      exact w.mono (fun H h => by
        rcases q with q | q
        · exact .inl (rd_sub h q)
        · exact .inr q) fun _ _ _ _ _ _ y => y
    | _ => exact p1.elim⟩
def signs (z : Str) : List D := z.cps.toList.map fun c => .str ⟨#[c]⟩
def iTxt (m : ME) : MA := fun δ => M.bind (m δ) fun d => match d with
  | .str z => if z.length ≤ sizeLine then M.pure (signs z) else M.bad
  | _ => M.bad
/-- a for over one of the three, by what the value is -/
theorem PI.or {t t' : TI} (h1 : PI X tg e t) (h2 : PI X tg e t') : PI X tg e (fun σ H R => t σ H R ∨ t' σ H R) := ⟨fun pins s σ H R I q => by
  rcases q with q | q
  · exact h1.run pins s σ H R I q
  · exact h2.run pins s σ H R I q⟩
def rngD (lo : Int) (n : Nat) : List D := (List.range n).map fun (i : Nat) => .int (lo + i)
theorem walkD_range (lo : Int) (n : Nat) : WalkD K W (rngD lo n) (Itr lo n) := by
  have w := walk_range (lo := lo) (n := n)
  have e : (rngD lo n).length = n := by simp [rngD]
  unfold WalkD
  rw [e]
  refine w.mono (fun _ _ => trivial) fun i H x H' hi hG y d hd W2 S2 l g => ?_
  obtain ⟨rfl, rfl⟩ := y
  refine ⟨W2, W2.le_refl, g, ?_⟩
  simp [rngD, hi] at hd
  subst hd
  exact .int _
def iRng (mas : MA) : MA := fun δ => M.bind (mas δ) fun ds => match ds with
  | [.int j] => if -(2 ^ 62) ≤ j ∧ j < 2 ^ 62 then M.pure (rngD 0 j.toNat) else M.bad
  | [.int i, .int j] => if -(2 ^ 62) ≤ i ∧ i < 2 ^ 62 ∧ -(2 ^ 62) ≤ j ∧ j < 2 ^ 62 then M.pure (rngD i (j - i).toNat) else M.bad
  | _ => M.bad
theorem si_range1 {mas : MA} {p : Pos} (hg : Gl X "range") (hm : X.mg "range" = none) (ha : SA X Wx [a] mas) (hs : starEach [a] X.env = [(false, eval a X.env)]) : SI X Wx tg (.Call (.Name "range" p) [a] [] pos) (fun δ => M.bind (mas δ) fun ds => match ds with
    | [.int j] => if -(2 ^ 62) ≤ j ∧ j < 2 ^ 62 then M.pure (rngD 0 j.toNat) else M.bad
    | _ => M.bad) :=
  PI.imp (pi_range1 hg hm ha hs) fun σ H R ⟨W, S, δ, g, r, p⟩ => ⟨W, S, δ, g, r, (okP.bind (R := Reps X.K) p).imp fun v H1 ⟨W1, S1, ds, l1, g1, r1, p1⟩ => by
    cases r1 with
    | nil => exact p1.elim
    | cons q r1 =>
      cases r1 with
      | cons _ _ => cases q <;> exact p1.elim
      | nil =>
        cases q with
        | int j =>
          dsimp only at p1
          split at p1
          · rename_i h
            exact ⟨j, rfl, h.1, h.2, okP.pure p1 g1 (walkD_range 0 _)⟩
          · exact p1.elim
        | _ => exact p1.elim⟩
theorem si_range2 {mas : MA} {p : Pos} (hg : Gl X "range") (hm : X.mg "range" = none) (ha : SA X Wx [a, b] mas) (hs : starEach [a, b] X.env = [(false, eval a X.env), (false, eval b X.env)]) (hs2 : starEach [b] X.env = [(false, eval b X.env)]) : SI X Wx tg (.Call (.Name "range" p) [a, b] [] pos) (fun δ => M.bind (mas δ) fun ds => match ds with
    | [.int i, .int j] => if -(2 ^ 62) ≤ i ∧ i < 2 ^ 62 ∧ -(2 ^ 62) ≤ j ∧ j < 2 ^ 62 then M.pure (rngD i (j - i).toNat) else M.bad
    | _ => M.bad) :=
  PI.imp (pi_range2 hg hm ha hs hs2) fun σ H R ⟨W, S, δ, g, r, p⟩ => ⟨W, S, δ, g, r, (okP.bind (R := Reps X.K) p).imp fun v H1 ⟨W1, S1, ds, l1, g1, r1, p1⟩ => by
    cases r1 with
    | nil => exact p1.elim
    | cons q r1 =>
      cases r1 with
      | nil => cases q <;> exact p1.elim
      | cons q2 r1 =>
        cases r1 with
        | cons _ _ => cases q <;> cases q2 <;> exact p1.elim
        | nil =>
          cases q with
          | int i =>
            cases q2 with
            | int j =>
              dsimp only at p1
              split at p1
              · rename_i h
                exact ⟨i, j, rfl, h, okP.pure p1 g1 (walkD_range i _)⟩
              · exact p1.elim
            | _ => exact p1.elim
          | _ => cases q2 <;> exact p1.elim⟩

/-! ### for -/
def loopF (mg : TGM) (mb : MS) : List D → MS
  | [] => fun δ S => .nx δ S
  | d :: ds => fun δ S => match mg d δ S with
    | none => .bad
    | some (δ', S') => match mb δ' S' with
      | .nx δ2 S2 => loopF mg mb ds δ2 S2
      | .ct δ2 S2 => loopF mg mb ds δ2 S2
      | .bk δ2 S2 => .nx δ2 S2
      | r => r
def sFor (mi : MA) (mg : TGM) (mb : MS) : MS := fun δ => ofE (mi δ) δ fun ds S => loopF mg mb ds δ S
theorem ss_for {iter : Expr} {body : List Stmt} {mi : MA} {mg : TGM} {mb : MS} (hp : PassesOwn (model X.prog X.w) X.A X.env X.xe) (hc : X.calm = true) (hi : SI X Wx tg iter mi) (hg : SG X tg mg) (hb : SB X Wx body mb)
    (hs : ∀ x, foldedSetIterable iter X.env x = pure x) : SS X Wx (.For tg iter body [] pos) (sFor mi mg mb) :=
  PS.imp (ps_for hp hc hi hg hb hs) fun E σ H ⟨W, S, δ, g, r, p⟩ => ⟨W, S, δ, g, r, (flP_ofE (R := WalkD X.K) r p).imp fun J H1 ⟨W1, S1, ds, l1, g1, w1, p1⟩ => by
    refine for_it (w1 : Walk J ds.length _ _) (fun i σ2 H2 => ∃ W2 S2 δ2, W1.le W2 ∧ Good X.K W2 S2 H2 ∧ REnv X.K W2 δ2 σ2 ∧ flP X.K W2 (loopF mg mb (ds.drop i) δ2 S2) Wx E) ⟨W1, S1, δ, W1.le_refl, g1, r.mono l1, p1⟩ ?_ ?_ ?_
    · rintro i σ2 H2 _ ⟨W2, S2, δ2, l2, g2, _, _⟩ a o ha
      exact g2.sub a o (l2.f a o ha)
    · rintro i x σ2 H2 H3 hi ⟨W2, S2, δ2, l2, g2, r2, p2⟩ y
      have hd : ds[i]? = some ds[i] := by simp [hi]
      obtain ⟨W3, l3, g3, q3⟩ := y ds[i] hd W2 S2 l2 g2
      rw [List.drop_eq_getElem_cons hi] at p2
      refine ⟨W3, S2, δ2, ds[i], g3, r2.mono l3, q3, ?_⟩
      simp only [loopF] at p2
      cases e1 : mg ds[i] δ2 S2 with
      | none => rw [e1] at p2; exact p2.elim
      | some z =>
        obtain ⟨δ4, S4⟩ := z
        rw [e1] at p2
        intro W4 H4 σ4 l4 g4 r4
        refine ⟨W4, S4, δ4, g4, r4, ?_⟩
        have l24 := l3.trans l4
        dsimp only at p2
        cases e2 : mb δ4 S4 with
        | nx δ5 S5 =>
          rw [e2] at p2
          exact fun W5 H5 σ5 l5 g5 r5 => ⟨W5, S5, δ5, (l2.trans l24).trans l5, g5, r5, p2.mono (l24.trans l5)⟩
        | ct δ5 S5 =>
          rw [e2] at p2
          exact fun W5 H5 σ5 l5 g5 r5 => ⟨W5, S5, δ5, (l2.trans l24).trans l5, g5, r5, p2.mono (l24.trans l5)⟩
        | bk δ5 S5 =>
          rw [e2] at p2
          exact fun W5 H5 σ5 l5 g5 r5 => p2 W5 H5 σ5 (l24.trans l5) g5 r5
        | rt d5 S5 =>
          rw [e2] at p2
          exact fun W5 H5 σ5 l5 g5 r5 => p2 W5 H5 σ5 (l24.trans l5) g5 r5
        | exc x5 δ5 S5 =>
          rw [e2] at p2
          exact fun W5 H5 σ5 cls dd l5 g5 r5 x6 => p2 W5 H5 σ5 cls dd (l24.trans l5) g5 r5 x6
        | bad => rw [e2] at p2; exact p2
    · rintro σ2 H2 ⟨W2, S2, δ2, l2, g2, r2, p2⟩
      rw [List.drop_length] at p2
      exact p2 W2 H2 σ2 W2.le_refl g2 r2⟩

/-! ### while -/
def loopW (tc : MT) (mb : MS) : Nat → MS
  | 0 => fun _ _ => .bad
  | n + 1 => fun δ => ofE (tc δ) δ fun k S => match k with
    | false => .nx δ S
    | true => match mb δ S with
      | .nx δ2 S2 => loopW tc mb n δ2 S2
      | .ct δ2 S2 => loopW tc mb n δ2 S2
      | .bk δ2 S2 => .nx δ2 S2
      | r => r
theorem ss_while {body : List Stmt} {tc : MT} {mb : MS} (n : Nat) (hp : PassesOwn (model X.prog X.w) X.A X.env X.xe) (hc : ST X Wx c tc) (hb : SB X Wx body mb) : SS X Wx (.While c body [] pos) (loopW tc mb n) :=
  PS.imp (ps_while hp hc hb) fun E σ H ⟨W, S, δ, g, r, p⟩ => by
    refine ⟨fun m σ2 H2 => ∃ W2 S2 δ2, Good X.K W2 S2 H2 ∧ REnv X.K W2 δ2 σ2 ∧ W.le W2 ∧ flP X.K W2 (loopW tc mb m δ2 S2) Wx E, ⟨n, W, S, δ, g, r, W.le_refl, p⟩, ?_⟩
    rintro m σ2 H2 ⟨W2, S2, δ2, g2, r2, l2, p2⟩
    cases m with
    | zero => exact p2.elim
    | succ m =>
      refine ⟨W2, S2, δ2, g2, r2, (flP_ofE (R := fun _ (b c : Bool) => b = c) r2 p2).imp fun k H3 ⟨W3, S3, k', l3, g3, ek, p3⟩ => ?_⟩
      subst ek
      cases k' with
      | false =>
        rw [if_neg Bool.false_ne_true]
        exact p3 W3 H3 σ2 W3.le_refl g3 (r2.mono l3)
      | true =>
        rw [if_pos rfl]
        refine ⟨fun σ5 H5 => ∃ W5 S5 δ5, Good X.K W5 S5 H5 ∧ REnv X.K W5 δ5 σ5 ∧ W.le W5 ∧ flP X.K W5 (loopW tc mb m δ5 S5) Wx E, fun σ5 H5 q => ⟨m, Nat.lt_succ_self m, q⟩, W3, S3, δ2, g3, r2.mono l3, ?_⟩
        have l23 := l2.trans l3
        dsimp only at p3
        cases e2 : mb δ2 S3 with
        | nx δ5 S5 =>
          rw [e2] at p3
          exact fun W5 H5 σ5 l5 g5 r5 => ⟨W5, S5, δ5, g5, r5, l23.trans l5, p3.mono l5⟩
        | ct δ5 S5 =>
          rw [e2] at p3
          exact fun W5 H5 σ5 l5 g5 r5 => ⟨W5, S5, δ5, g5, r5, l23.trans l5, p3.mono l5⟩
        | bk δ5 S5 => rw [e2] at p3; exact p3
        | rt d5 S5 => rw [e2] at p3; exact p3
        | exc x5 δ5 S5 => rw [e2] at p3; exact p3
        | bad => rw [e2] at p3; exact p3
end
end Ev
/-! # list comprehensions -/
namespace Ev
open PySem L2
def noX {α : Type} (m : M α) : M α := fun S => match m S with
  | .ok a S' => .ok a S'
  | _ => .bad
theorem okP.bindN {α β γ ε : Type} {K : PySem.W.Frag} {R : Wd → α → β → Prop} {R' : Wd → γ → ε → Prop} {W : Wd} {m : M α} {f : α → M γ} {S : Store} {σ : St} {Wx : WX} {Q : ε → Hp → Prop}
    (h : okP K R' W (M.bind (noX m) f S) σ Wx Q) (W0 : Wd) (σ' : St) (Wx' : WX) : okP K R W0 (m S) σ' Wx' (fun v H' => ∃ W' S' a, W0.le W' ∧ Good K W' S' H' ∧ R W' a v ∧ okP K R' W (f a S') σ Wx Q) := by
  unfold M.bind noX at h
  cases e : m S with
  | ok a S' =>
    rw [e] at h
    exact fun W' H' v l g r => ⟨W', S', a, l, g, r, h⟩
  | exc x S' =>
    rw [e] at h
    exact h.elim
  | bad =>
    rw [e] at h
    exact h
/-! ### targets that store names alone -/
abbrev UpD := D → Option (List (Nat × D))
def setsV : St → List (Nat × V) → St
  | σ, [] => σ
  | σ, (i, v) :: r => setsV (σ.set i (some v)) r
def setsD : En → List (Nat × D) → En
  | δ, [] => δ
  | δ, (i, v) :: r => setsD (δ.set i (some v)) r
theorem setsV_append : ∀ (σ : St) (a b : List (Nat × V)), setsV σ (a ++ b) = setsV (setsV σ a) b
  | _, [], _ => rfl
  | σ, (i, v) :: r, b => setsV_append (σ.set i (some v)) r b
theorem REnv.sets {K : PySem.W.Frag} {W : Wd} : ∀ {us : List (Nat × D)} {us' : List (Nat × V)} {δ : En} {σ : St}, REnv K W δ σ → us'.map (·.1) = us.map (·.1) → Reps K W (us.map (·.2)) (us'.map (·.2)) → REnv K W (setsD δ us) (setsV σ us')
  | [], [], _, _, r, _, _ => r
  | [], _ :: _, _, _, _, e, _ => by cases e
  | _ :: _, [], _, _, _, e, _ => by cases e
  | (i, d) :: us, (j, v) :: us', δ, σ, r, e, q => by
    simp only [List.map_cons, List.cons.injEq] at e
    obtain ⟨rfl, e⟩ := e
    cases q with
    | cons q1 q2 => exact REnv.sets (us := us) (us' := us') (δ := δ.set j (some d)) (σ := σ.set j (some v)) (r.set j q1) e q2
theorem wipe_get (σ : St) (j : Nat) : ∀ vs : List Nat, (wipe σ vs)[j]? = if j ∈ vs then (if j < σ.length then some none else none) else σ[j]?
  | [] => by simp [wipe]
  | v :: vs => by
    unfold wipe
    rw [List.getElem?_set, wipe_get σ j vs, wipe_length]
    by_cases h1 : v = j
    · subst h1; simp
    · rw [if_neg h1]
      have : (j ∈ v :: vs) ↔ j ∈ vs := by simp [Ne.symm h1]
      simp only [this]
theorem wipe_set {σ : St} {i : Nat} {x : Option V} {vs : List Nat} (h : i ∈ vs) : wipe (σ.set i x) vs = wipe σ vs := by
  apply List.ext_getElem?
  intro j
  rw [wipe_get, wipe_get]
  by_cases hj : j ∈ vs
  · rw [if_pos hj, if_pos hj, List.length_set]
  · rw [if_neg hj, if_neg hj, List.getElem?_set_ne]
    rintro rfl
    exact hj h
theorem wipe_sets : ∀ {us : List (Nat × V)} {σ : St} {vs : List Nat}, (∀ p ∈ us, p.1 ∈ vs) → wipe (setsV σ us) vs = wipe σ vs
  | [], _, _, _ => rfl
  | (i, v) :: r, σ, vs, h => by
    show wipe (setsV (σ.set i (some v)) r) vs = _
    rw [wipe_sets fun p hp => h p (List.mem_cons_of_mem _ hp)]
    exact wipe_set (h (i, v) List.mem_cons_self)
theorem wipe_wipe (σ : St) (vs : List Nat) : wipe (wipe σ vs) vs = wipe σ vs := by
  apply List.ext_getElem?
  intro j
  rw [wipe_get, wipe_get, wipe_length]
  by_cases hj : j ∈ vs
  · rw [if_pos hj, if_pos hj]
  · rw [if_neg hj, if_neg hj]
def wipeD (δ : En) : List Nat → En
  | [] => δ
  | v :: vs => (wipeD δ vs).set v none
theorem REnv.wipe {K : PySem.W.Frag} {W : Wd} {δ : En} {σ : St} (r : REnv K W δ σ) : ∀ vs : List Nat, REnv K W (wipeD δ vs) (L2.wipe σ vs)
  | [] => r
  | v :: vs => by
    have ih := REnv.wipe r vs
    refine ⟨by simp [wipeD, L2.wipe, ih.1], fun i d e => ?_⟩
    simp only [wipeD, L2.wipe] at e ⊢
    by_cases h : v = i
    · subst h
      by_cases hv : v < (wipeD δ vs).length
      · rw [List.getElem?_set_self hv] at e; cases e
      · rw [List.getElem?_eq_none (by simpa using hv)] at e; cases e
    · rw [List.getElem?_set_ne h] at e ⊢
      exact ih.2 i d e
def tDU (K : PySem.W.Frag) (up : UpD) : TG := fun v σ H Q => ∃ W S d, Good K W S H ∧ Rep K W d v ∧ (match up d with
  | some us => ∀ us' : List (Nat × V), us'.map (·.1) = us.map (·.1) → Reps K W (us.map (·.2)) (us'.map (·.2)) → Q (setsV σ us') H
  | none => False)
def tDUs (K : PySem.W.Frag) (up : List D → Option (List (Nat × D))) : TGs := fun vs σ H Q => ∃ W S ds, Good K W S H ∧ Reps K W ds vs ∧ (match up ds with
  | some us => ∀ us' : List (Nat × V), us'.map (·.1) = us.map (·.1) → Reps K W (us.map (·.2)) (us'.map (·.2)) → Q (setsV σ us') H
  | none => False)
section
variable {X : Cx} {Wx : WX} {a b c e tg : Expr} {es : List Expr} {ma mb mc m : ME} {pos : Pos}
theorem su_bad : PG X e (tDU X.K (fun _ => none)) := ⟨fun _ _ _ _ _ _ _ _ _ h => by obtain ⟨_, _, _, _, _, z⟩ := h; exact z.elim⟩
def uNm (i : Nat) : UpD := fun d => some [(i, d)]
theorem su_name {i : Nat} {x : Str} (hN : X.N.Nodup) (hi : X.N[i]? = some x) (hx : Loc X.env.scope x) (hf : X.fn x = true ∨ X.env.scope.names.lookup x = some .local) : PG X (.Name x pos) (tDU X.K (uNm i)) :=
  PG.imp (pg_name hN hi hx hf) fun v σ H Q ⟨W, S, d, g, r, p⟩ => p [(i, v)] rfl (.cons r .nil)
def uNl : List D → Option (List (Nat × D)) := fun ds => match ds with
  | [] => some []
  | _ => none
def uCs (u : UpD) (us : List D → Option (List (Nat × D))) : List D → Option (List (Nat × D)) := fun ds => match ds with
  | d :: ds => (u d).bind fun a => (us ds).map fun b => a ++ b
  | [] => none
theorem sus_nil : PGs X [] (tDUs X.K uNl) := PGs.imp pgs_nil fun v σ H Q ⟨W, S, ds, g, r, p⟩ => by
  cases r with
  | nil => exact ⟨rfl, p [] rfl .nil⟩
  | cons _ _ => exact p.elim
theorem reps_split {K : PySem.W.Frag} {W : Wd} : ∀ {a b : List D} {vs : List V}, Reps K W (a ++ b) vs → ∃ v1 v2, vs = v1 ++ v2 ∧ Reps K W a v1 ∧ Reps K W b v2
  | [], _, vs, r => ⟨[], vs, rfl, .nil, r⟩
  | d :: a, b, _, .cons q r => by
    obtain ⟨v1, v2, rfl, r1, r2⟩ := reps_split (a := a) r
    exact ⟨_ :: v1, v2, rfl, .cons q r1, r2⟩
theorem sus_cons {u : UpD} {us : List D → Option (List (Nat × D))} (h1 : PG X e (tDU X.K u)) (h2 : PGs X es (tDUs X.K us)) (hs : (assignEach (e :: es) X.env).map (·.2) = assign e X.env :: (assignEach es X.env).map (·.2)) : PGs X (e :: es) (tDUs X.K (uCs u us)) :=
  PGs.imp (pgs_cons h1 h2 hs) fun v σ H Q ⟨W, S, ds, g, r, p⟩ => by
    cases r with
    | nil => exact p.elim
    | @cons d v ds vs q1 q2 =>
      refine ⟨v, vs, rfl, W, S, d, g, q1, ?_⟩
      simp only [uCs] at p
      cases e1 : u d with
      | none => rw [e1] at p; exact p.elim
      | some us1 =>
        rw [e1] at p
        simp only [Option.bind_some] at p
        intro us' k1 r1
        refine ⟨W, S, ds, g, q2, ?_⟩
        cases e2 : us ds with
        | none => rw [e2] at p; exact p.elim
        | some us2 =>
          rw [e2] at p
          intro us2' k2 r2
          have p' := p (us' ++ us2') (by simp [k1, k2]) (by simp only [List.map_append]; exact r1.append r2)
          rw [setsV_append] at p'
          exact p'
def uTp (n : Nat) (us : List D → Option (List (Nat × D))) : UpD := fun d => match d with
  | .tup ds => if ds.length = n then us ds else none
  | _ => none
theorem su_tup {k n : Nat} {us : List D → Option (List (Nat × D))} (hc : X.calm = true) (h : PGs X es (tDUs X.K us)) (hn : (assignEach es X.env).length = n) (hst : (assignEach es X.env).findIdx? (·.1) = none) : PG X (.Tuple es k pos) (tDU X.K (uTp n us)) :=
  PG.imp (pg_tup hc h hn hst) fun v σ H Q ⟨W, S, d, g, r, p⟩ => by
    cases r with
    | @tup a vs ds q1 q2 =>
      simp only [uTp] at p
      by_cases hl : ds.length = n
      · rw [if_pos hl] at p
        exact ⟨a, vs, rfl, g.sqT q1, by rw [← q2.length]; exact hl, W, S, ds, g, q2, p⟩
      · rw [if_neg hl] at p; exact p.elim
    | _ => exact p.elim
/-! ### the loop -/
def loopC (up : UpD) (mt : MT) (me : ME) (δ0 : En) : List D → List D → M (List D)
  | [], acc => M.pure acc
  | d :: ds, acc => match up d with
    | none => M.bad
    | some us => M.bind (noX (mt (setsD δ0 us))) fun k => match k with
      | false => loopC up mt me δ0 ds acc
      | true => M.bind (noX (me (setsD δ0 us))) fun y => if acc.length < sizeLine then loopC up mt me δ0 ds (acc ++ [y]) else M.bad
def eLc (fin : List D → PO) (mi : MA) (up : UpD) (mt : MT) (me : ME) (vs : List Nat) : ME := fun δ => M.bind (mi δ) fun ds => M.bind (loopC up mt me (wipeD δ vs) ds []) fun ys => lft (fin ys)
/-- how the new list at p ends: frozen, or a cell -/
def FinOk (K : PySem.W.Frag) (fin : List D → PO) : Prop := ∀ (W : Wd) (S : Store) (H : Hp) (p : Addr) (P : Hp) (acc : List D) (vacc : List V) (Q : VK), Good K W S H → W.P = upd P p (.lst vacc) → P p = none → Reps K W acc vacc → oV K ⟨W.F, W.m, P, W.sf⟩ (fin acc S) Q → Q (.ref p) H
theorem fin_newL {K : PySem.W.Frag} : FinOk K newL := fun W S H p P acc vacc Q g e n r o => by
  unfold newL at o
  split at o
  · refine o _ _ _ ⟨⟨(g.unPrv_lf e).f, rfl, [], by simp⟩, rfl⟩ (g.unPrv e n) (.lst upd_same (r.mono (g.unPrv_lf e)))
  · exact o.elim
theorem Good.prvToC {K : PySem.W.Frag} {W : Wd} {S : Store} {H : Hp} (g : Good K W S H) {p : Addr} {P : Hp} {acc : List D} {vacc : List V} (e : W.P = upd P p (.lst vacc)) (n : P p = none) (r : Reps K W acc vacc) :
    Good K ⟨W.F, W.m ++ [p], P, W.sf⟩ (S ++ [some (.lst acc)]) H := by
  have hp := g.prv p _ (by rw [e, upd_same])
  have lf : W.lf ⟨W.F, W.m ++ [p], P, W.sf⟩ := ⟨fun _ _ h => h, rfl, [p], rfl⟩
  have ne : ∀ (i : Nat) c a, S[i]? = some (some c) → W.m[i]? = some a → a ≠ p := fun i c a h1 h2 z => by
    subst z
    obtain ⟨a', e1, _, e3, _⟩ := g.cell i c h1
    rw [h2] at e1; cases e1
    rw [e, upd_same] at e3; cases e3
  refine ⟨g.sub, by simp [g.len], fun i c h => ?_, fun i j a c1 c2 h1 h2 h3 h4 => ?_, fun a u h => ?_, fun a xs h => g.ptup a xs (by
    have h' : P a = some (.tup xs) := h
    have na : a ≠ p := fun z => by subst z; rw [h'] at n; cases n
    rw [e, upd_ne na]; exact h')⟩
  · by_cases hi : i < S.length
    · rw [List.getElem?_append_left hi] at h
      obtain ⟨a, e1, e2, e3, e4⟩ := g.cell i c h
      have na := ne i c a h e1
      rw [e, upd_ne na] at e3
      exact ⟨a, lf.get e1, e2, e3, e4.mono lf⟩
    · have hi' : i = S.length := by
        have := (List.getElem?_eq_some_iff.mp h).1
        simp at this; omega
      subst hi'
      simp at h
      subst h
      exact ⟨p, by simp [← g.len], hp.2, n, vacc, hp.1, r.mono lf⟩
  · have old : ∀ {i : Nat} {a : Addr} {c' : Cell}, i < S.length → (S ++ [some (Cell.lst acc)])[i]? = some (some c') → (W.m ++ [p])[i]? = some a → W.m[i]? = some a ∧ S[i]? = some (some c') ∧ a ≠ p := fun {i a c'} hi e h => by
      rw [List.getElem?_append_left hi] at e
      rw [List.getElem?_append_left (by rw [g.len]; exact hi)] at h
      exact ⟨h, e, ne i _ a e h⟩
    have last : ∀ {i : Nat} {a : Addr} {c' : Cell}, ¬ i < S.length → (S ++ [some (Cell.lst acc)])[i]? = some (some c') → (W.m ++ [p])[i]? = some a → i = S.length ∧ a = p := fun {i a c'} hi e h => by
      have hi' : i = S.length := by
        have := (List.getElem?_eq_some_iff.mp e).1
        simp at this; omega
      subst hi'
      refine ⟨rfl, ?_⟩
      simp [← g.len] at h
      exact h.symm
    by_cases hi : i < S.length
    · obtain ⟨a1, a2, a3⟩ := old hi h1 h3
      by_cases hj : j < S.length
      · obtain ⟨b1, b2, b3⟩ := old hj h2 h4
        exact g.inj i j a _ _ a2 b2 a1 b1
      · exact absurd (last hj h2 h4).2 a3
    · obtain ⟨a1, a2⟩ := last hi h1 h3
      by_cases hj : j < S.length
      · exact absurd a2 (old hj h2 h4).2.2
      · rw [a1, (last hj h2 h4).1]
  · have na : a ≠ p := fun z => by subst z; have h' : P a = some u := h; rw [h'] at n; cases n
    exact g.prv a u (by rw [e, upd_ne na]; exact h)
theorem fin_newC {K : PySem.W.Frag} : FinOk K newC := fun W S H p P acc vacc Q g e n r o => by
  unfold newC at o
  split at o
  · exact o ⟨W.F, W.m ++ [p], P, W.sf⟩ H (.ref p) ⟨⟨fun _ _ h => h, rfl, [p], rfl⟩, rfl⟩ (g.prvToC e n r) (.ref (by simp [← g.len]))
  · exact o.elim
theorem tLc_of {mi : MA} {up : UpD} {mt : MT} {me : ME} {vs : List Nat} {fin : List D → PO} (hf : FinOk X.K fin) (hu : ∀ d us, up d = some us → ∀ p ∈ us, p.1 ∈ vs) (σ : St) (H : Hp) (Q : VK) (h : tD X.K Wx (eLc fin mi up mt me vs) σ H Q) :
    tLc (tDI X.K Wx mi) (tDU X.K up) (tDT X.K (fun _ _ _ _ => False) mt) (tD X.K (fun _ _ _ _ => False) me) vs σ H Q := by
  obtain ⟨W, S, δ, g, r, p⟩ := h
  refine ⟨W, S, δ, g, r, (okP.bind (R := WalkD X.K) p).imp fun J H1 ⟨W1, S1, ds, l1, g1, w1, p1⟩ => fun Dd nD => ?_⟩
  have pD : W1.P Dd = none := g1.freeP nD
  refine lc_it (w1 : Walk J ds.length _ _) (fun i H2 => ∃ W2 S2 acc vacc, W1.lf W2 ∧ W2.P = upd W1.P Dd (.lst vacc) ∧ Good X.K W2 S2 H2 ∧ Reps X.K W2 acc vacc ∧
    okP X.K (Rep X.K) ⟨W2.F, W2.m, W1.P, W2.sf⟩ (M.bind (loopC up mt me (wipeD δ vs) (ds.drop i) acc) (fun ys => lft (fin ys)) S2) σ Wx Q) ?_ ?_ ?_ ?_
  · exact ⟨W1.prv Dd (.lst []), S1, [], [], W1.prv_lf _ _, rfl, g1.newPrv nD, .nil, p1⟩
  · rintro i H2 _ ⟨W2, S2, acc, vacc, l2, _, g2, _⟩ a o ha
    exact g2.sub a o (l2.f a o ha)
  · rintro i x H2 H3 hi ⟨W2, S2, acc, vacc, l2, e2, g2, ra, p2⟩ y
    have hd : ds[i]? = some ds[i] := by simp [hi]
    obtain ⟨W3, l3, g3, q3⟩ := y ds[i] hd W2 S2 l2 g2
    rw [List.drop_eq_getElem_cons hi] at p2
    refine ⟨W3, S2, ds[i], g3, q3, ?_⟩
    simp only [loopC] at p2
    cases e1 : up ds[i] with
    | none => rw [e1] at p2; exact p2.elim
    | some us =>
      rw [e1] at p2
      intro us' k1 r1
      have hus : ∀ p ∈ us', p.1 ∈ vs := fun p hp => by
        have : p.1 ∈ us'.map (·.1) := List.mem_map_of_mem hp
        rw [k1] at this
        obtain ⟨q, hq, eq⟩ := List.mem_map.mp this
        rw [← eq]
        exact hu _ _ e1 q hq
      refine ⟨by rw [wipe_sets hus, wipe_wipe], ?_⟩
      have rE : REnv X.K W3 (setsD (wipeD δ vs) us) (setsV (wipe σ vs) us') := ((r.mono (l1.toLf.trans (l2.trans l3))).wipe vs).sets k1 r1
      have p3 := okP.assoc p2
      refine ⟨W3, S2, setsD (wipeD δ vs) us, g3, rE, (okP.bindN p3 W3 _ _).imp fun k H4 ⟨W4, S4, k', l4, g4, ek, p4⟩ => ?_⟩
      subst ek
      cases k' with
      | false =>
        rw [if_neg Bool.false_ne_true]
        refine ⟨W4, S4, acc, vacc, l2.trans (l3.trans l4), by rw [l4.pp, l3.pp, e2], g4, ra.mono (l3.trans l4), ?_⟩
        exact okP.mono (W := ⟨W2.F, W2.m, W1.P, W2.sf⟩) ⟨⟨(l3.trans l4).f, (l3.trans l4).sq, (l3.trans l4).mm⟩, rfl⟩ p4
      | true =>
        rw [if_pos rfl]
        have p5 := okP.assoc p4
        refine ⟨W4, S4, setsD (wipeD δ vs) us, g4, rE.mono l4, (okP.bindN p5 W4 _ _).imp fun yv H5 ⟨W5, S5, y5, l5, g5, r5, p6⟩ => ?_⟩
        have eP : W5.P = upd W1.P Dd (.lst vacc) := by rw [l5.pp, l4.pp, l3.pp, e2]
        have hD : W5.P Dd = some (.lst vacc) := by rw [eP, upd_same]
        have l35 := (l3.trans l4).trans l5
        by_cases hz : acc.length < sizeLine
        · rw [if_pos hz] at p6
          refine ⟨vacc, (g5.prv Dd _ hD).1, by rw [← ra.length]; exact hz, W5.prv Dd (.lst (vacc ++ [yv])), S5, acc ++ [y5], vacc ++ [yv], l2.trans (l35.toLf.trans (W5.prv_lf _ _)), by show upd W5.P Dd _ = _; rw [eP, upd_upd], g5.updPrv hD, ?_, ?_⟩
          · exact ((ra.mono l35).append (.cons r5 .nil)).mono (W5.prv_lf _ _)
          · exact okP.mono (W := ⟨W2.F, W2.m, W1.P, W2.sf⟩) ⟨⟨l35.f, l35.sq, l35.mm⟩, rfl⟩ p6
        · rw [if_neg hz] at p6; exact p6.elim
  · rintro H2 ⟨W2, S2, acc, vacc, l2, e2, g2, ra, p2⟩
    rw [List.drop_length] at p2
    exact hf W2 S2 H2 Dd W1.P acc vacc Q g2 e2 pD ra (okP.lft p2)
theorem se_lc {elt tg iter : Expr} {ifs : List Expr} {scope : Scope} {own : List (Str × Nat)} {mi : MA} {up : UpD} {mt : MT} {me : ME} {fin : List D → PO} (hf : FinOk X.K fin) (hu : ∀ d us, up d = some us → ∀ p ∈ us, p.1 ∈ own.map (·.2))
    (hc : X.calm = true) (hN : X.N.Nodup) (hi : SI X Wx tg iter mi) (ok : BlkOk X.N X.env.scope scope own)
    (hg : ∀ (s : Shared) (H : Hp) (C : Addr) (cl : List (Str × Addr)) (fp : List Addr), PG (X.blk s H scope (compEnvC scope cl C X.env) fp) tg (tDU X.K up)) (ht : ∀ (s : Shared) (H : Hp) (C : Addr) (cl : List (Str × Addr)) (fp : List Addr), PTs (X.blk s H scope (compEnvC scope cl C X.env) fp) ifs (tDT X.K (fun _ _ _ _ => False) mt))
    (he : ∀ (s : Shared) (H : Hp) (C : Addr) (cl : List (Str × Addr)) (fp : List Addr), SE (X.blk s H scope (compEnvC scope cl C X.env) fp) (fun _ _ _ _ => False) elt me) (hs : ∀ x, foldedSetIterable iter X.env x = pure x) :
    SE X Wx (.ListComp elt [⟨tg, iter, ifs, 0⟩] scope pos) (eLc fin mi up mt me (own.map (·.2))) :=
  PE.imp (pe_lc hc hN hi ok hg ht he hs) (tLc_of hf hu)
theorem ss_setLc {i : Nat} {y : Str} {py spos : Pos} {elt tg iter : Expr} {ifs : List Expr} {scope : Scope} {own : List (Str × Nat)} {mi : MA} {up : UpD} {mt : MT} {me : ME} {fin : List D → PO} (hf : FinOk X.K fin) (hu : ∀ d us, up d = some us → ∀ p ∈ us, p.1 ∈ own.map (·.2))
    (hc : X.calm = true) (hN : X.N.Nodup) (hy : X.N[i]? = some y) (hyl : X.env.scope.names.lookup y = some .local)
    (hsw : swapsWith (.ListComp elt [⟨tg, iter, ifs, 0⟩] scope pos) (some (.Name y py)) spos.line X.env = pure true) (hi : SI X Wx tg iter mi) (ok : BlkOk X.N X.env.scope scope own)
    (hg : ∀ (s : Shared) (H : Hp) (C : Addr) (cl : List (Str × Addr)) (fp : List Addr), PG (X.blk s H scope (compEnvC scope cl C X.env) fp) tg (tDU X.K up)) (ht : ∀ (s : Shared) (H : Hp) (C : Addr) (cl : List (Str × Addr)) (fp : List Addr), PTs (X.blk s H scope (compEnvC scope cl C X.env) fp) ifs (tDT X.K (fun _ _ _ _ => False) mt))
    (he : ∀ (s : Shared) (H : Hp) (C : Addr) (cl : List (Str × Addr)) (fp : List Addr), SE (X.blk s H scope (compEnvC scope cl C X.env) fp) (fun _ _ _ _ => False) elt me) (hs : ∀ x, foldedSetIterable iter X.env x = pure x) :
    SS X Wx (.Assign [.Name y py] (.ListComp elt [⟨tg, iter, ifs, 0⟩] scope pos) spos) (sAsg (eLc fin mi up mt me (own.map (·.2))) (gNm i)) :=
  PS.imp (ps_setLc hc hN hy hyl hsw hi ok hg ht he hs) fun D σ H ⟨W, S, δ, g, r, p⟩ => tLc_of hf hu σ H _ ⟨W, S, δ, g, r, (flP_ofE (R := Rep X.K) r p).imp fun v H1 ⟨W1, S1, d, l1, g1, r1, p1⟩ => p1 W1 H1 _ W1.le_refl g1 ((r.mono l1).set i r1)⟩
end
end Ev
/-! # primitive operations -/
namespace Ev
open PySem PySem.SeqAt L2 PyProof.Rows
/-! ### data -/
mutual
def toP : D → Option PyData
  | .non => some .none
  | .bl b => some (.bool b)
  | .int i => some (.int i)
  | .str s => some (.str s)
  | .tup xs => (toPs xs).map .tuple
  | .lst xs => (toPs xs).map .list
  | .ins _ _ => none
  | .ref _ => none
  | .fn _ => none
  | .scr _ => none
  | .slf => none
  | .dic _ => none
def toPs : List D → Option (List PyData)
  | [] => some []
  | x :: xs => (toP x).bind fun a => (toPs xs).map fun b => a :: b
end
mutual
def toPS (S : Store) : D → Option PyData
  | .non => some .none
  | .bl b => some (.bool b)
  | .int i => some (.int i)
  | .str s => some (.str s)
  | .tup xs => (toPSs S xs).map .tuple
  | .lst xs => (toPSs S xs).map .list
  | .ref i => (plstOf S (.ref i)).bind fun ds => (toPs ds).map .list
  | .ins _ _ => none
  | .fn _ => none
  | .scr _ => none
  | .slf => none
  | .dic _ => none
def toPSs (S : Store) : List D → Option (List PyData)
  | [] => some []
  | x :: xs => (toPS S x).bind fun a => (toPSs S xs).map fun b => a :: b
end
section
variable {X : Cx} {pins : List (Addr × Obj)} {σ : L2.St} {H : Hp} {s : Shared} {W : Wd} {S : Store}
mutual
theorem reads_of' (I : Inv X pins σ H s) (g : Good X.K W S H) : ∀ (d : D) (v : V) (u : Value) (p : PyData), toP d = some p → Rep X.K W d v → RelV v u → p.plain = true ∧ ∃ as, Reads s.heap u p as
  | .non, v, u, p, e, q, r => by cases e; cases q; cases r; exact ⟨rfl, _, .none⟩
  | .bl b, v, u, p, e, q, r => by cases e; cases q; cases r; exact ⟨rfl, _, .bool b⟩
  | .int i, v, u, p, e, q, r => by cases e; cases q; obtain ⟨t, rfl⟩ := r; exact ⟨rfl, _, .int i t⟩
  | .str i, v, u, p, e, q, r => by cases e; cases q; obtain ⟨t, rfl⟩ := r; exact ⟨rfl, _, .str i t⟩
  | .tup ds, v, u, p, e, q, r => by
    simp only [toP] at e
    obtain ⟨ps, e1, rfl⟩ := Option.map_eq_some_iff.mp e
    cases q with
    | tup q r' =>
      cases r
      obtain ⟨its, rv, ⟨o, ho, hc, n, hd⟩, hz⟩ := I.tuple (g.sqT q)
      obtain ⟨pl, as, ra⟩ := readsAll_of' I g ds _ _ _ e1 r' rv
      exact ⟨pl, as, .tuple ho hc hd (by simpa using ra)⟩
  | .lst ds, v, u, p, e, q, r => by
    simp only [toP] at e
    obtain ⟨ps, e1, rfl⟩ := Option.map_eq_some_iff.mp e
    cases q with
    | lst q r' =>
      cases r
      obtain ⟨its, rv, ⟨o, n, ho, hc, _, hd⟩, hz⟩ := I.list (SqL.of (K := X.K) (g.sub _ _ q))
      obtain ⟨pl, as, ra⟩ := readsAll_of' I g ds _ _ _ e1 r' rv
      exact ⟨pl, _, .list ho hc hd (by simpa using ra)⟩
  | .ins _ _, v, u, p, e, q, r => by cases e
  | .ref _, v, u, p, e, q, r => by cases e
  | .fn _, v, u, p, e, q, r => by cases e
  | .scr _, v, u, p, e, q, r => by cases e
  | .slf, v, u, p, e, q, r => by cases e
  | .dic _, v, u, p, e, q, r => by cases e
theorem readsAll_of' (I : Inv X pins σ H s) (g : Good X.K W S H) : ∀ (ds : List D) (vs : List V) (us : List Value) (ps : List PyData), toPs ds = some ps → Reps X.K W ds vs → Vals vs us → PyData.plainAll ps = true ∧ ∃ as, ReadsAll s.heap us ps as
  | [], vs, us, ps, e, q, r => by cases e; cases q; cases r; exact ⟨rfl, _, .nil⟩
  | d :: ds, vs, us, ps, e, q, r => by
    simp only [toPs] at e
    obtain ⟨p1, e1, e2⟩ := Option.bind_eq_some_iff.mp e
    obtain ⟨p2, e3, rfl⟩ := Option.map_eq_some_iff.mp e2
    cases q with
    | cons q r' =>
      cases r with
      | cons ra rb =>
        obtain ⟨pl, as, h1⟩ := reads_of' I g d _ _ _ e1 q ra
        obtain ⟨pl2, bs, h2⟩ := readsAll_of' I g ds _ _ _ e3 r' rb
        exact ⟨by simp [PyData.plainAll, pl, pl2], _, .cons h1 h2⟩
end
theorem reads_of (I : Inv X pins σ H s) (g : Good X.K W S H) {d : D} {v : V} {u : Value} {p : PyData} (e : toP d = some p) (q : Rep X.K W d v) (r : RelV v u) : p.plain = true ∧ ∃ as, Reads s.heap u p as := reads_of' I g d v u p e q r
theorem readsAll_of (I : Inv X pins σ H s) (g : Good X.K W S H) {ds : List D} {vs : List V} {us : List Value} {ps : List PyData} (e : toPs ds = some ps) (q : Reps X.K W ds vs) (r : Vals vs us) : PyData.plainAll ps = true ∧ ∃ as, ReadsAll s.heap us ps as := readsAll_of' I g ds vs us ps e q r
mutual
theorem reads_ofS' (I : Inv X pins σ H s) (g : Good X.K W S H) : ∀ (d : D) (v : V) (u : Value) (p : PyData), toPS S d = some p → Rep X.K W d v → RelV v u → p.plain = true ∧ ∃ as, Reads s.heap u p as
  | .non, v, u, p, e, q, r => by simp only [toPS] at e; cases e; cases q; cases r; exact ⟨rfl, _, .none⟩
  | .bl b, v, u, p, e, q, r => by simp only [toPS] at e; cases e; cases q; cases r; exact ⟨rfl, _, .bool b⟩
  | .int i, v, u, p, e, q, r => by simp only [toPS] at e; cases e; cases q; obtain ⟨t, rfl⟩ := r; exact ⟨rfl, _, .int i t⟩
  | .str i, v, u, p, e, q, r => by simp only [toPS] at e; cases e; cases q; obtain ⟨t, rfl⟩ := r; exact ⟨rfl, _, .str i t⟩
  | .tup ds, v, u, p, e, q, r => by
    simp only [toPS] at e
    obtain ⟨ps, e1, rfl⟩ := Option.map_eq_some_iff.mp e
    cases q with
    | tup q r' =>
      cases r
      obtain ⟨its, rv, ⟨o, ho, hc, n, hd⟩, hz⟩ := I.tuple (g.sqT q)
      obtain ⟨pl, as, ra⟩ := readsAll_ofS' I g ds _ _ _ e1 r' rv
      exact ⟨pl, as, .tuple ho hc hd (by simpa using ra)⟩
  | .lst ds, v, u, p, e, q, r => by
    simp only [toPS] at e
    obtain ⟨ps, e1, rfl⟩ := Option.map_eq_some_iff.mp e
    cases q with
    | lst q r' =>
      cases r
      obtain ⟨its, rv, ⟨o, n, ho, hc, _, hd⟩, hz⟩ := I.list (SqL.of (K := X.K) (g.sub _ _ q))
      obtain ⟨pl, as, ra⟩ := readsAll_ofS' I g ds _ _ _ e1 r' rv
      exact ⟨pl, _, .list ho hc hd (by simpa using ra)⟩
  | .ref i, v, u, p, e, q, r => by
    simp only [toPS] at e
    obtain ⟨ds, e1, e2⟩ := Option.bind_eq_some_iff.mp e
    obtain ⟨ps, e3, rfl⟩ := Option.map_eq_some_iff.mp e2
    obtain ⟨a, vs, rfl, h1, h2⟩ := plstOf_ok e1 g q
    cases r
    obtain ⟨its, rv, ⟨o, n, ho, hc, _, hd⟩, hz⟩ := I.list (SqL.of (K := X.K) h1)
    obtain ⟨pl, as, ra⟩ := readsAll_of I g e3 h2 rv
    exact ⟨pl, _, .list ho hc hd (by simpa using ra)⟩
  | .ins _ _, v, u, p, e, q, r => by simp only [toPS] at e; cases e
  | .fn _, v, u, p, e, q, r => by simp only [toPS] at e; cases e
  | .scr _, v, u, p, e, q, r => by simp only [toPS] at e; cases e
  | .slf, v, u, p, e, q, r => by simp only [toPS] at e; cases e
  | .dic _, v, u, p, e, q, r => by simp only [toPS] at e; cases e
theorem readsAll_ofS' (I : Inv X pins σ H s) (g : Good X.K W S H) : ∀ (ds : List D) (vs : List V) (us : List Value) (ps : List PyData), toPSs S ds = some ps → Reps X.K W ds vs → Vals vs us → PyData.plainAll ps = true ∧ ∃ as, ReadsAll s.heap us ps as
  | [], vs, us, ps, e, q, r => by simp only [toPSs] at e; cases e; cases q; cases r; exact ⟨rfl, _, .nil⟩
  | d :: ds, vs, us, ps, e, q, r => by
    simp only [toPSs] at e
    obtain ⟨p1, e1, e2⟩ := Option.bind_eq_some_iff.mp e
    obtain ⟨p2, e3, rfl⟩ := Option.map_eq_some_iff.mp e2
    cases q with
    | cons q r' =>
      cases r with
      | cons ra rb =>
        obtain ⟨pl, as, h1⟩ := reads_ofS' I g d _ _ _ e1 q ra
        obtain ⟨pl2, bs, h2⟩ := readsAll_ofS' I g ds _ _ _ e3 r' rb
        exact ⟨by simp [PyData.plainAll, pl, pl2], _, .cons h1 h2⟩
end
theorem reads_ofS (I : Inv X pins σ H s) (g : Good X.K W S H) {d : D} {v : V} {u : Value} {p : PyData} (e : toPS S d = some p) (q : Rep X.K W d v) (r : RelV v u) : p.plain = true ∧ ∃ as, Reads s.heap u p as := reads_ofS' I g d v u p e q r
end
section
variable {X : Cx}
theorem op_of {f : Value → Value → Sem Value} {r : R2} {g : D → D → PO} (h : OpR X f r) (k : ∀ W S H x y dx dy Q, Good X.K W S H → Rep X.K W dx x → Rep X.K W dy y → oV X.K W (g dx dy S) Q → r x y H Q) : OpR X f (rD2 X.K g) :=
  fun pins s σ H x y v u Q I rx ry ⟨W, S, dx, dy, gd, r1, r2, p⟩ => h pins s σ H x y v u Q I rx ry (k W S H x y dx dy Q gd r1 r2 p)
/-! ### arithmetic -/
def pInt2 (ok : Int → Int → Bool) (f : Int → Int → D) : D → D → PO := fun x y S => match x, y with
  | .int i, .int j => if ok i j = true then some (f i j, S) else none
  | _, _ => none
theorem pInt2_inv {ok : Int → Int → Bool} {f : Int → Int → D} {K : PySem.W.Frag} {W : Wd} {S : Store} {x y : V} {dx dy : D} {Q : VK} (r1 : Rep K W dx x) (r2 : Rep K W dy y) (p : oV K W (pInt2 ok f dx dy S) Q) :
    ∃ i j, x = .int i ∧ y = .int j ∧ ok i j = true ∧ oV K W (some (f i j, S)) Q := by
  cases r1 with
  | int i =>
    cases r2 with
    | int j =>
      simp only [pInt2] at p
      split at p
      · exact ⟨i, j, rfl, rfl, by assumption, p⟩
      · exact p.elim
    | _ => exact p.elim
  | _ => cases r2 <;> exact p.elim
def pSub : D → D → PO := pInt2 (fun _ _ => true) fun i j => .int (i - j)
theorem op_pSub : OpR X (binaryOp .Sub) (rD2 X.K pSub) := op_of op_sub fun W S H x y dx dy Q g r1 r2 p => by
  obtain ⟨i, j, rfl, rfl, _, o⟩ := pInt2_inv r1 r2 p
  exact ⟨i, j, rfl, rfl, o.val g (.int _)⟩
def mulOk (i j : Int) : Bool := decide (-(2 ^ 64) < i ∧ i < 2 ^ 64) || decide (-(2 ^ 64) < j ∧ j < 2 ^ 64)
theorem op_mulI : OpR X (binaryOp .Mult) (rD2 X.K (pInt2 mulOk fun i j => .int (i * j))) := op_of op_mul fun W S H x y dx dy Q g r1 r2 p => by
  obtain ⟨i, j, rfl, rfl, h, o⟩ := pInt2_inv r1 r2 p
  refine ⟨i, j, rfl, rfl, ?_, o.val g (.int _)⟩
  simp only [mulOk, Bool.or_eq_true, decide_eq_true_eq] at h
  exact h
def pFdiv : D → D → PO := pInt2 (fun _ j => decide (0 < j ∧ j < 1073741824)) fun i j => .int (i / j)
theorem op_pFdiv : OpR X (binaryOp .FloorDiv) (rD2 X.K pFdiv) := op_of op_fdiv fun W S H x y dx dy Q g r1 r2 p => by
  obtain ⟨i, j, rfl, rfl, h, o⟩ := pInt2_inv r1 r2 p
  exact ⟨i, j, rfl, rfl, of_decide_eq_true (p := 0 < j ∧ j < 1073741824) h, o.val g (.int _)⟩
def pMod : D → D → PO := pInt2 (fun _ j => decide (0 < j)) fun i j => .int (i % j)
theorem op_pMod : OpR X (binaryOp .Mod) (rD2 X.K pMod) := op_of op_mod fun W S H x y dx dy Q g r1 r2 p => by
  obtain ⟨i, j, rfl, rfl, h, o⟩ := pInt2_inv r1 r2 p
  exact ⟨i, j, rfl, rfl, of_decide_eq_true h, o.val g (.int _)⟩
def pPow : D → D → PO := pInt2 (fun i j => decide (0 ≤ j ∧ j ≤ 1000000 ∧ i.natAbs < 2 ^ 64)) fun i j => .int (i ^ j.toNat)
theorem op_pPow : OpR X (binaryOp .Pow) (rD2 X.K pPow) := op_of op_pow fun W S H x y dx dy Q g r1 r2 p => by
  obtain ⟨i, j, rfl, rfl, h, o⟩ := pInt2_inv r1 r2 p
  exact ⟨i, j, rfl, rfl, of_decide_eq_true (p := 0 ≤ j ∧ j ≤ 1000000 ∧ i.natAbs < 2 ^ 64) h, o.val g (.int _)⟩
def pNeg : D → PO := fun x S => match x with
  | .int i => some (.int (-i), S)
  | _ => none
theorem un_pNeg : UnR X (unaryOp .USub) (rD1 X.K pNeg) := fun pins s σ H x v Q I rx ⟨W, S, dx, g, r1, p⟩ => by
  cases r1 with
  | int i => exact un_neg pins s σ H _ v Q I rx ⟨i, rfl, p.val g (.int _)⟩
  | _ => exact p.elim
/-- a * b: ints; a list so many times -/
def pMul : D → D → PO := fun x y S => match x, y with
  | .int i, .int j => if mulOk i j = true then some (.int (i * j), S) else none
  | x, .int k => (match plstOf S x with
    | some xs => if -(2 ^ 63) ≤ k ∧ k < 2 ^ 63 ∧ xs.length * k.toNat ≤ sizeLine then newL (List.replicate k.toNat xs).flatten S else none
    | none => none)
  | _, _ => none
theorem reps_repl {K : PySem.W.Frag} {W : Wd} {xs : List D} {vs : List V} (r : Reps K W xs vs) : ∀ n : Nat, Reps K W (List.replicate n xs).flatten (List.replicate n vs).flatten
  | 0 => .nil
  | n + 1 => by
    simp only [List.replicate_succ, List.flatten_cons]
    exact r.append (reps_repl r n)
theorem op_pMul : OpR X (binaryOp .Mult) (rD2 X.K pMul) := fun pins s σ H x y v u Q I rx ry ⟨W, S, dx, dy, g, r1, r2, p⟩ => by
  have lst : ∀ {k : Int} {xs : List D}, plstOf S dx = some xs → y = .int k → oV X.K W (if -(2 ^ 63) ≤ k ∧ k < 2 ^ 63 ∧ xs.length * k.toNat ≤ sizeLine then newL (List.replicate k.toNat xs).flatten S else none) Q → wpAny (model X.prog X.w) X.A (binaryOp .Mult v u) (EP X pins σ Q) X.xe s := by
    intro k xs e ey p
    subst ey
    split at p
    · rename_i h
      obtain ⟨a, vs, rfl, h1, h2⟩ := plstOf_ok e g r1
      refine op_rep pins s σ H _ _ v u Q I rx ry ⟨a, k, vs, rfl, rfl, h1, h.1, h.2.1, by rw [← h2.length]; exact h.2.2, (newL_ok p g (reps_repl h2 k.toNat)).2⟩
    · exact p.elim
  cases r2 with
  | int k =>
    cases r1 with
    | int i =>
      refine op_mulI pins s σ H _ _ v u Q I rx ry ⟨W, S, .int i, .int k, g, .int i, .int k, p⟩
    | lst q r => exact lst rfl rfl p
    | ref h =>
      simp only [pMul] at p
      split at p
      · rename_i xs e
        exact lst e rfl p
      · exact p.elim
    | _ => exact p.elim
  | _ => cases r1 <;> exact p.elim
/-- a + b: ints, texts, tuples, lists -/
def pAdd : D → D → PO := fun x y S => match x, y with
  | .int i, .int j => some (.int (i + j), S)
  | .str a, .str b => if a.length + b.length ≤ sizeLine then some (.str (a ++ b), S) else none
  | .tup a, .tup b => newT (a ++ b) S
  | x, y => (match plstOf S x, plstOf S y with
    | some a, some b => newL (a ++ b) S
    | _, _ => none)
theorem op_pAdd : OpR X (binaryOp .Add) (rD2 X.K pAdd) := fun pins s σ H x y v u Q I rx ry ⟨W, S, dx, dy, g, r1, r2, p⟩ => by
  have lst : ∀ {xs ys : List D}, plstOf S dx = some xs → plstOf S dy = some ys → oV X.K W (newL (xs ++ ys) S) Q → wpAny (model X.prog X.w) X.A (binaryOp .Add v u) (EP X pins σ Q) X.xe s := by
    intro xs ys e1 e2 p
    obtain ⟨a, vs, rfl, h1, h2⟩ := plstOf_ok e1 g r1
    obtain ⟨b, us, rfl, h3, h4⟩ := plstOf_ok e2 g r2
    obtain ⟨hl, k⟩ := newL_ok p g (h2.append h4)
    exact op_cat pins s σ H _ _ v u Q I rx ry ⟨a, b, vs, us, rfl, rfl, h1, h3, by rw [← List.length_append]; exact hl, k⟩
  cases r1 with
  | int i =>
    cases r2 with
    | int j => exact op_add pins s σ H _ _ v u Q I rx ry ⟨i, j, rfl, rfl, p.val g (.int _)⟩
    | _ => simp [pAdd, plstOf] at p; exact p.elim
  | str a =>
    cases r2 with
    | str b =>
      simp only [pAdd] at p
      split at p
      · exact op_add_str pins s σ H _ _ v u Q I rx ry ⟨a, b, rfl, rfl, by assumption, p.val g (.str _)⟩
      · exact p.elim
    | _ => simp [pAdd, plstOf] at p; exact p.elim
  | @tup a vs ds q r =>
    cases r2 with
    | @tup b us es q2 r2 =>
      simp only [pAdd] at p
      have hp := p
      unfold newT at hp
      split at hp
      · rename_i hl
        refine op_catA pins s σ H _ _ v u Q I rx ry ⟨a, b, vs, us, rfl, rfl, g.sqT q, g.sqT q2, by rw [← r.length, ← r2.length, ← List.length_append]; exact hl, ?_⟩
        have el : es.length = us.length := r2.length
        have dl : ds.length = vs.length := r.length
        refine ⟨fun z => ?_, fun z z2 => ?_, fun z z2 => (newT_ok p g (r.append r2)).2⟩
        · subst z
          have : ds = [] := List.eq_nil_of_length_eq_zero (by rw [dl]; rfl)
          subst this
          exact hp.val g (.tup q2 r2)
        · subst z2
          have : es = [] := List.eq_nil_of_length_eq_zero (by rw [el]; rfl)
          subst this
          rw [List.append_nil] at hp
          exact hp.val g (.tup q r)
      · exact hp.elim
    | _ => simp [pAdd, plstOf] at p; exact p.elim
  | lst q r =>
    simp only [pAdd] at p
    split at p
    · rename_i e1 e2; exact lst e1 e2 p
    · exact p.elim
  | ref h =>
    simp only [pAdd] at p
    split at p
    · rename_i e1 e2; exact lst e1 e2 p
    · exact p.elim
  | _ => cases r2 <;> (simp [pAdd, plstOf] at p; exact p.elim)

/-! ### comparisons -/
def pLt : D → D → PO := pInt2 (fun _ _ => true) fun i j => .bl (decide (i < j))
def pLe : D → D → PO := pInt2 (fun _ _ => true) fun i j => .bl (decide (i ≤ j))
def pGt : D → D → PO := pInt2 (fun _ _ => true) fun i j => .bl (decide (j < i))
def pGe : D → D → PO := pInt2 (fun _ _ => true) fun i j => .bl (decide (j ≤ i))
theorem op_pLt : OpR X (compareOp .Lt) (rD2 X.K pLt) := op_of op_lt fun W S H x y dx dy Q g r1 r2 p => by
  obtain ⟨i, j, rfl, rfl, _, o⟩ := pInt2_inv r1 r2 p
  exact ⟨i, j, rfl, rfl, o.val g (.bl _)⟩
theorem op_pLe : OpR X (compareOp .LtE) (rD2 X.K pLe) := op_of op_le fun W S H x y dx dy Q g r1 r2 p => by
  obtain ⟨i, j, rfl, rfl, _, o⟩ := pInt2_inv r1 r2 p
  exact ⟨i, j, rfl, rfl, o.val g (.bl _)⟩
theorem op_pGt : OpR X (compareOp .Gt) (rD2 X.K pGt) := op_of op_gt fun W S H x y dx dy Q g r1 r2 p => by
  obtain ⟨i, j, rfl, rfl, _, o⟩ := pInt2_inv r1 r2 p
  exact ⟨i, j, rfl, rfl, o.val g (.bl _)⟩
theorem op_pGe : OpR X (compareOp .GtE) (rD2 X.K pGe) := op_of op_ge fun W S H x y dx dy Q g r1 r2 p => by
  obtain ⟨i, j, rfl, rfl, _, o⟩ := pInt2_inv r1 r2 p
  exact ⟨i, j, rfl, rfl, o.val g (.bl _)⟩
def eqD (S : Store) (x y : D) : Option Bool := match toPS S x, toPS S y with
  | some a, some b => if a.depth ≤ 60 then some (PyData.eqv a b) else none
  | _, _ => none
def pEq : D → D → PO := fun x y S => (eqD S x y).map fun b => (.bl b, S)
def pNe : D → D → PO := fun x y S => (eqD S x y).map fun b => (.bl (!b), S)
theorem eqD_inv {S : Store} {x y : D} {b : Bool} (h : eqD S x y = some b) : ∃ p q, toPS S x = some p ∧ toPS S y = some q ∧ p.depth ≤ 60 ∧ PyData.eqv p q = b := by
  unfold eqD at h
  cases e1 : toPS S x with
  | none => rw [e1] at h; cases h
  | some p =>
    cases e2 : toPS S y with
    | none => rw [e1, e2] at h; cases h
    | some q =>
      rw [e1, e2] at h
      simp only at h
      split at h
      · exact ⟨p, q, rfl, rfl, by assumption, Option.some.inj h⟩
      · cases h
theorem op_pEq (hu : X.A.units + 64 < cLine) : OpR X (compareOp .Eq) (rD2 X.K pEq) := fun pins s σ H x y v u Q I rx ry ⟨W, S, dx, dy, g, r1, r2, p⟩ => by
  unfold pEq at p
  cases e : eqD S dx dy with
  | none => rw [e] at p; exact p.elim
  | some b =>
    rw [e] at p
    obtain ⟨a, c, e1, e2, hd, rfl⟩ := eqD_inv e
    obtain ⟨p1, as, ra⟩ := reads_ofS I g e1 r1 rx
    obtain ⟨p2, bs, rb⟩ := reads_ofS I g e2 r2 ry
    exact eq_plain ra rb p1 p2 (by omega) ⟨.bl _, H, I, rfl, p.val g (.bl _)⟩
theorem op_pNe (hu : X.A.units + 64 < cLine) : OpR X (compareOp .NotEq) (rD2 X.K pNe) := fun pins s σ H x y v u Q I rx ry ⟨W, S, dx, dy, g, r1, r2, p⟩ => by
  unfold pNe at p
  cases e : eqD S dx dy with
  | none => rw [e] at p; exact p.elim
  | some b =>
    rw [e] at p
    obtain ⟨a, c, e1, e2, hd, rfl⟩ := eqD_inv e
    obtain ⟨p1, as, ra⟩ := reads_ofS I g e1 r1 rx
    obtain ⟨p2, bs, rb⟩ := reads_ofS I g e2 r2 ry
    exact ne_plain ra rb p1 p2 (by omega) ⟨.bl _, H, I, rfl, p.val g (.bl _)⟩
/-- x in y -/
def inD (S : Store) (x y : D) : Option Bool := match y with
  | .str z => (match x with
    | .str w => if w.length = 1 then some (decide (w.cps.getD 0 0 ∈ z.cps.toList)) else none
    | _ => none)
  | y => (match toPS S x, toPS S y with
    | some a, some (.list bs) => if a.depth ≤ 60 then some (bs.any fun b => PyData.eqv b a) else none
    | some a, some (.tuple bs) => if a.depth ≤ 60 then some (bs.any fun b => PyData.eqv b a) else none
    | _, _ => none)
def pIn : D → D → PO := fun x y S => (inD S x y).map fun b => (.bl b, S)
def pNotIn : D → D → PO := fun x y S => (inD S x y).map fun b => (.bl (!b), S)
theorem inD_inv {S : Store} {x y : D} {b : Bool} (h : inD S x y = some b) : (∃ (c : Nat) (z : Str), x = .str ⟨#[c]⟩ ∧ y = .str z ∧ b = decide (c ∈ z.cps.toList)) ∨
    ∃ a bs, toPS S x = some a ∧ (toPS S y = some (.list bs) ∨ toPS S y = some (.tuple bs)) ∧ a.depth ≤ 60 ∧ b = bs.any fun b => PyData.eqv b a := by
  have dat : ∀ {y : D}, (match toPS S x, toPS S y with
    | some a, some (.list bs) => if a.depth ≤ 60 then some (bs.any fun b => PyData.eqv b a) else none
    | some a, some (.tuple bs) => if a.depth ≤ 60 then some (bs.any fun b => PyData.eqv b a) else none
    | _, _ => none) = some b → ∃ a bs, toPS S x = some a ∧ (toPS S y = some (.list bs) ∨ toPS S y = some (.tuple bs)) ∧ a.depth ≤ 60 ∧ b = bs.any fun b => PyData.eqv b a := by
    intro y h
    split at h
    · rename_i a bs e1 e2
      split at h
      · exact ⟨a, bs, e1, .inl e2, by assumption, (Option.some.inj h).symm⟩
      · cases h
    · rename_i a bs e1 e2
      split at h
      · exact ⟨a, bs, e1, .inr e2, by assumption, (Option.some.inj h).symm⟩
      · cases h
    · cases h
  cases y with
  | str z =>
    simp only [inD] at h
    split at h
    · rename_i w
      split at h
      · rename_i hw
        left
        obtain ⟨⟨l⟩⟩ := w
        match l, hw with
        | [c], _ => exact ⟨c, z, rfl, rfl, by simpa using (Option.some.inj h).symm⟩
      · cases h
    · cases h
  | _ => exact .inr (dat h)
theorem op_pIn (hu : X.A.units + 64 < cLine) : OpR X (compareOp .In) (rD2 X.K pIn) := fun pins s σ H x y v u Q I rx ry ⟨W, S, dx, dy, g, r1, r2, p⟩ => by
  unfold pIn at p
  cases e : inD S dx dy with
  | none => rw [e] at p; exact p.elim
  | some b =>
    rw [e] at p
    rcases inD_inv e with ⟨c, z, rfl, rfl, rfl⟩ | ⟨a, bs, e1, e2, hd, rfl⟩
    · cases r1; cases r2
      exact op_in_sign pins s σ H _ _ v u Q I rx ry ⟨c, z, rfl, rfl, p.val g (.bl _)⟩
    · obtain ⟨p1, as, ra⟩ := reads_ofS I g e1 r1 rx
      rcases e2 with e2 | e2
      · obtain ⟨p2, bs', rb⟩ := reads_ofS I g e2 r2 ry
        exact in_list_data rb ra (by simpa [PyData.plain] using p2) p1 (by omega) ⟨.bl _, H, I, rfl, p.val g (.bl _)⟩
      · obtain ⟨p2, bs', rb⟩ := reads_ofS I g e2 r2 ry
        exact in_tuple_data rb ra (by simpa [PyData.plain] using p2) p1 (by omega) ⟨.bl _, H, I, rfl, p.val g (.bl _)⟩
theorem op_pNotIn (hu : X.A.units + 64 < cLine) : OpR X (compareOp .NotIn) (rD2 X.K pNotIn) := fun pins s σ H x y v u Q I rx ry ⟨W, S, dx, dy, g, r1, r2, p⟩ => by
  unfold pNotIn at p
  cases e : inD S dx dy with
  | none => rw [e] at p; exact p.elim
  | some b =>
    rw [e] at p
    rcases inD_inv e with ⟨c, z, rfl, rfl, rfl⟩ | ⟨a, bs, e1, e2, hd, rfl⟩
    · cases r1; cases r2
      exact op_notIn_sign pins s σ H _ _ v u Q I rx ry ⟨c, z, rfl, rfl, p.val g (.bl _)⟩
    · obtain ⟨p1, as, ra⟩ := reads_ofS I g e1 r1 rx
      rcases e2 with e2 | e2
      · obtain ⟨p2, bs', rb⟩ := reads_ofS I g e2 r2 ry
        exact notIn_list_data rb ra (by simpa [PyData.plain] using p2) p1 (by omega) ⟨.bl _, H, I, rfl, p.val g (.bl _)⟩
      · obtain ⟨p2, bs', rb⟩ := reads_ofS I g e2 r2 ry
        exact notIn_tuple_data rb ra (by simpa [PyData.plain] using p2) p1 (by omega) ⟨.bl _, H, I, rfl, p.val g (.bl _)⟩
/-- is None -/
def isNon : D → Bool
  | .non => true
  | _ => false
theorem isNon_ok {K : PySem.W.Frag} {W : Wd} {d : D} {v : V} (r : Rep K W d v) : isNon d = decide (v = .non) := by
  cases r <;> simp [isNon]
def pIs : D → D → PO := fun x y S => match y with
  | .non => some (.bl (isNon x), S)
  | _ => none
def pIsNot : D → D → PO := fun x y S => match y with
  | .non => some (.bl (!isNon x), S)
  | _ => none
theorem op_pIs : OpR X (compareOp .Is) (rD2 X.K pIs) := op_of op_isN fun W S H x y dx dy Q g r1 r2 p => by
  cases r2 with
  | non => exact ⟨rfl, by rw [← isNon_ok r1]; exact p.val g (.bl _)⟩
  | _ => exact p.elim
theorem op_pIsNot : OpR X (compareOp .IsNot) (rD2 X.K pIsNot) := op_of op_notN fun W S H x y dx dy Q g r1 r2 p => by
  cases r2 with
  | non => exact ⟨rfl, by rw [← isNon_ok r1]; exact p.val g (.bl _)⟩
  | _ => exact p.elim
/-! ### items -/
def pIx : D → D → PO := fun x y S => match x, y with
  | .str z, .int i => if z.length ≤ sizeLine then (atI z.cps.toList i).map fun c => (.str ⟨#[c]⟩, S) else none
  | x, .int i => (seqOf S x).bind fun xs => (atI xs i).map fun d => (d, S)
  | _, _ => none
theorem atI_reps {K : PySem.W.Frag} {W : Wd} {ds : List D} {vs : List V} {i : Int} {d : D} (r : Reps K W ds vs) (e : atI ds i = some d) : ∃ v, atI vs i = some v ∧ Rep K W d v := by
  unfold atI at e ⊢
  rw [← r.length]
  obtain ⟨j, e1, e2⟩ := Option.bind_eq_some_iff.mp e
  obtain ⟨v, h1, h2⟩ := r.get e2
  exact ⟨v, Option.bind_eq_some_iff.mpr ⟨j, e1, h1⟩, h2⟩
theorem ix_pIx : IxR X (rD2 X.K pIx) := fun value slice pins s σ H x y v u Q I rx ry ⟨W, S, dx, dy, g, r1, r2, p⟩ hs => by
  have sq : ∀ {i : Int}, y = .int i → oV X.K W ((seqOf S dx).bind fun xs => (atI xs i).map fun d => (d, S)) Q → wpAny (model X.prog X.w) X.A (subscriptTail value slice v u) (EP X pins σ Q) X.xe s := by
    intro i ey p
    subst ey
    cases e : seqOf S dx with
    | none => rw [e] at p; exact p.elim
    | some xs =>
      rw [e] at p
      simp only [Option.bind_some] at p
      cases e2 : atI xs i with
      | none => rw [e2] at p; exact p.elim
      | some d =>
        rw [e2] at p
        obtain ⟨a, vs, rfl, h2, h3⟩ := seqOf_ok e g r1
        obtain ⟨w, h4, h5⟩ := atI_reps h3 e2
        refine ix_seq value slice pins s σ H _ _ v u Q I rx ry ?_ hs
        rcases h2 with h2 | h2
        · exact .inl ⟨a, vs, i, w, rfl, rfl, h2, h4, p.val g h5⟩
        · exact .inr (.inl ⟨a, vs, i, w, rfl, rfl, h2, h4, p.val g h5⟩)
  cases r2 with
  | int i =>
    cases r1 with
    | str z =>
      simp only [pIx] at p
      split at p
      · rename_i hl
        cases e : atI z.cps.toList i with
        | none => rw [e] at p; exact p.elim
        | some c =>
          rw [e] at p
          exact ix_seq value slice pins s σ H _ _ v u Q I rx ry (.inr (.inr ⟨z, i, c, rfl, rfl, hl, e, p.val g (.str _)⟩)) hs
      · exact p.elim
    | _ => exact sq rfl p
  | _ => cases r1 <;> exact p.elim
end
end Ev
/-! # own defs: promises where the guards are known; calls by place and by name; methods; instances -/
namespace Ev
open PySem PySem.Spec PySem.SeqAt L2 PyProof.Rows
/-- a def's promise, asked only where no repr is under way -/
structure FnG (P : Program) (w : World) (K : PySem.W.Frag) (mg : Str → Option Value) (base : Heap) (k : Nat) (f : Addr) (fd : FuncData) (ps : List Str) (sp : Sp) : Prop where
  len : ∀ vs H Q E, sp vs H Q E → vs.length = ps.length
  run : ∀ (A : Around), A.guards = some [] → ∀ (outer : List Env) (s : Shared) (H : Hp) (args : Args) (us : List Value) (vs : List V) (Q : VK) (E : XK),
    Room k A → Env0 P w K mg base A outer s H → BindsTo s fd args (ps.zip us) → Vals vs us → sp vs H Q E →
    codeAny (model P w) A (.call (.ref f) args) (CR (L2.CX P w) outer P w H s Q E) s
theorem FnG.mono {P : Program} {w : World} {K : PySem.W.Frag} {mg : Str → Option Value} {base : Heap} {j k : Nat} {f : Addr} {fd : FuncData} {ps : List Str} {sp : Sp} (F : FnG P w K mg base j f fd ps sp) (h : j ≤ k) : FnG P w K mg base k f fd ps sp :=
  ⟨F.len, fun A hg outer s H args us vs Q E r => F.run A hg outer s H args us vs Q E (r.mono h)⟩
theorem FnG.never {P : Program} {w : World} {K : PySem.W.Frag} {mg : Str → Option Value} {base : Heap} {k : Nat} {f : Addr} {fd : FuncData} {ps : List Str} : FnG P w K mg base k f fd ps (fun _ _ _ _ => False) :=
  ⟨fun _ _ _ _ h => h.elim, fun _ _ _ _ _ _ _ _ _ _ _ _ _ _ h => h.elim⟩
/-- from the body's reading -/
theorem fnG_of {P : Program} {w : World} {K : PySem.W.Frag} {mg : Str → Option Value} {base : Heap} {k : Nat} {f : Addr} {name qual : Str} {params : Arguments} {body : List Stmt} {scope : Scope} {dvs : List V} {kws : List (Str × V)} {fd : FuncData} {N ps : List Str} {sp : Sp}
    (F : FunD K name qual params body scope dvs kws f fd) (Sc : FnScope N ps scope) (len : ∀ vs H Q E, sp vs H Q E → vs.length = ps.length)
    (bd : ∀ (cdv : Value) (A : Around) (outer : List Env) (s : Shared) (H : Hp) (vs : List V) (Q : VK) (E : XK), A.guards = some [] → Room k (A.deeper (envOfC qual scope s.heap.objs.size f cdv)) → sp vs H Q E →
      ∃ t, PSs (cxOf (L2.CX P w) P w K mg base N qual scope f cdv A outer s H E) body t ∧ t { nx := fun _ H' => Q .non H', rt := Q } (start N vs) H) : FnG P w K mg base (k + 1) f fd ps sp := by
  obtain ⟨oc, od, dV, kV, doc, pm, an, cdv, ct, osl, rfl, lk, hcd, _, _⟩ := F.ex
  refine ⟨len, fun A hg outer s H args us vs Q E room e0 hb rel want => ?_⟩
  have eqn := len _ _ _ _ want
  have KX : K.In s.heap := e0.mod.kin.keeps (fun b o e => (e0.bs b o e).left)
  have lim : s.heap.NoLimit := e0.mod.nolimit.keeps (fun b o e => (e0.bs b o e).left)
  refine codeAny_call_function room.depth (KX _ _ lk) rfl Sc.co Sc.gen rfl (PySem.W.codeRec_of KX hcd) (hb _ _ _ _ ?_)
  refine wpAny_newFunctionEnv_cells Sc.kind (fun ⟨n, v⟩ hy => ?_) (fun env he s1 x => ?_)
  · rcases Sc.par n (List.of_mem_zip hy).left with q | q
    · exact Or.inl q
    · exact Or.inr ⟨q, PySem.W.cellsFrom_some _ _ _ (Or.inl q)⟩
  · subst he
    refine ⟨lim.keeps x.toInCall.keep, codeAny_func ?_⟩
    obtain ⟨t, ht, hq⟩ := bd cdv A outer s H vs Q E hg (room.deeper _) want
    have J := inv_start (CX := L2.CX P w) (E := E) Sc room.hd e0 eqn rel x
    refine wpAny_mono (ht.run [] s1 (start N vs) H _ J hq) (fun fl s' hs => ?_) (fun _ _ hs => hs)
    cases fl with
    | ret u =>
      obtain ⟨v, _, H', J2, rv, q⟩ := hs
      exact ⟨v, H', J2.os, J2.bare, J2.base, J2.hok, rv, q⟩
    | next =>
      obtain ⟨_, H', J2, q⟩ := hs
      exact ⟨.non, H', J2.os, J2.bare, J2.base, J2.hok, rfl, q⟩
    | brk =>
      obtain ⟨_, _, _, q⟩ := hs
      exact q.elim
    | cont =>
      obtain ⟨_, _, _, q⟩ := hs
      exact q.elim

/-- the promise: what the evaluator's function says -/
def spM (K : PySem.W.Frag) (n : Nat) (m : List D → M D) : Sp := fun vs H Q E => vs.length = n ∧ ∃ W S ds, Good K W S H ∧ Reps K W ds vs ∧ okP K (Rep K) W (m ds S) [] (fun cls d _ H' => E cls d H') Q
/-- a value that may be called: what comes of it, by place and by name -/
def CallF (X : Cx) (Wx : WX) (f : Value) (ks : List Str) (m : List D → List D → M D) : Prop :=
  ∀ (pins : List (Addr × Obj)) (s : Shared) (σ : L2.St) (H : Hp) (vs zs : List V) (us ws : List Value) (Q : VK), Inv X pins σ H s → Vals vs us → Vals zs ws → zs.length = ks.length →
    (∃ W S ds es, Good X.K W S H ∧ Reps X.K W ds vs ∧ Reps X.K W es zs ∧ okP X.K (Rep X.K) W (m ds es S) σ Wx Q) → wpAny (model X.prog X.w) X.A (call f us (ks.zip ws)) (EP X pins σ Q) X.xe s
/-- how arguments come to parameters -/
structure BindG (K : PySem.W.Frag) (fd : FuncData) (ps ks : List Str) (pick : {α : Type} → List α → List α → Option (List α)) : Prop where
  to : ∀ (s : Shared) (us ws as : List Value), K.In s.heap → pick us ws = some as → as.length = ps.length → ws.length = ks.length → BindsTo s fd ⟨us, ks.zip ws⟩ (ps.zip as)
  rel : ∀ {α β : Type} {F : α → β → Prop} {xs ys : List α} {us ws : List β} {as : List α}, Paired F xs us → Paired F ys ws → pick xs ys = some as → ∃ bs, pick us ws = some bs ∧ Paired F as bs
section
variable {X : Cx} {Wx : WX}
theorem reps_paired {K : PySem.W.Frag} {W : Wd} : ∀ {ds : List D} {vs : List V}, Reps K W ds vs → Paired (fun d v => Rep K W d v) ds vs
  | _, _, .nil => .nil
  | _, _, .cons r t => .cons r (reps_paired t)
theorem paired_reps {K : PySem.W.Frag} {W : Wd} : ∀ {ds : List D} {vs : List V}, Paired (fun d v => Rep K W d v) ds vs → Reps K W ds vs
  | _, _, .nil => .nil
  | _, _, .cons r t => .cons r (paired_reps t)
/-- a def called -/
theorem callF_fn {k n : Nat} {f : Addr} {fd : FuncData} {ps ks : List Str} {m : List D → M D} {pick : {α : Type} → List α → List α → Option (List α)} (F : FnG X.prog X.w X.K X.mg X.base k f fd ps (spM X.K n m)) (hr : Room k X.A) (hg : X.A.guards = some [])
    (hb : BindG X.K fd ps ks pick) (hn : n = ps.length) (tk : Takes X Wx) : CallF X Wx (.ref f) ks (fun ds es S => match pick ds es with
      | some as => if as.length = n then m as S else .bad
      | none => .bad) := by
  intro pins s σ H vs zs us ws Q I r1 r2 hl ⟨W, S, ds, es, g, q1, q2, p⟩
  dsimp only at p
  cases e : pick ds es with
  | none => rw [e] at p; exact p.elim
  | some as =>
    rw [e] at p
    dsimp only at p
    split at p
    · rename_i hlen
      obtain ⟨bs, e2, q3⟩ := hb.rel (reps_paired q1) (reps_paired q2) e
      obtain ⟨cs, e3, q4⟩ := hb.rel (F := RelV) r1 r2 e2
      have hbs : bs.length = n := by rw [← hlen]; exact (Paired.length q3).symm
      have hcs : cs.length = ps.length := by rw [← hn, ← hbs]; exact (Paired.length q4).symm
      have want : spM X.K n m bs H Q (fun cls d H' => Wx cls d σ H') := ⟨hbs, W, S, as, g, paired_reps q3, by
        cases e5 : m as S with
        | ok d S' => rw [e5] at p; exact p
        | exc x S' => rw [e5] at p; exact p
        | bad => rw [e5] at p; exact p⟩
      refine wpAny_call (codeAny_mono (F.run X.A hg X.stack s H ⟨us, ks.zip ws⟩ cs bs Q _ hr I.env0 (hb.to s us ws cs I.kIn e3 hcs (by rw [← hl]; exact (Paired.length r2).symm)) q4 want) fun res s' hq => ?_)
      cases res with
      | error ex => exact tk ex s' (XE.of_call (W := Wx) I (fun cls d H' h => h) hq)
      | ok fl =>
        cases fl with
        | ret u => exact I.after hq
        | next => exact hq.elim
        | brk => exact hq.elim
        | cont => exact hq.elim
    · exact p.elim
variable {x nm : Str} {p pos apos : Pos} {e o : Expr} {es : List Expr} {kws : List Keyword} {ks : List Str} {mas mks : MA} {mo : ME} {m : List D → List D → M D} {f : Addr}
def eCallF (m : List D → List D → M D) (mas mks : MA) : ME := fun δ => M.bind (mas δ) fun xs => M.bind (mks δ) fun ys => m xs ys
/-- f(e, ..) -/
theorem se_call (hf : CallF X Wx (.ref f) [] m) (hgl : Gl X x) (hm : X.mg x = some (.ref f)) (hk : PySem.W.keepIn X.K (.ref f) = true) (hdb : (x == ("__debug__" : Str)) = false) (ha : SA X Wx (e :: es) mas)
    (he : starEach (e :: es) X.env = (false, eval e X.env) :: starEach es X.env) (hpl : (backTo pos (starEach es X.env)).any (·.1) = false) : SE X Wx (.Call (.Name x p) (e :: es) [] pos) (eCallF m mas aNil) :=
  ⟨fun pins s σ H Q I ⟨W, S, δ, g, r, pp⟩ => by
    refine wpAny_Call_Name_kw (ld_glob I hgl hm ?_ hdb)
    refine PySem.W.callWith_K (h₀ := X.base) I.ok.mod.kin hk (thn (ha.run pos pins s σ H _ I ⟨W, S, δ, g, r, okP.bind (R := Reps X.K) pp⟩) fun us s1 ⟨vs, H1, I1, rv, W1, S1, ds, l1, g1, r1, p1⟩ => ⟨I1.kIn, ?_⟩) he hpl
    exact hf pins s1 σ H1 vs [] us [] Q I1 rv .nil rfl ⟨W1, S1, ds, [], g1, r1, .nil, p1⟩⟩
/-- f() -/
theorem se_call0 (hf : CallF X Wx (.ref f) [] m) (hgl : Gl X x) (hm : X.mg x = some (.ref f)) (hk : PySem.W.keepIn X.K (.ref f) = true) (hdb : (x == ("__debug__" : Str)) = false) : SE X Wx (.Call (.Name x p) [] [] pos) (eCallF m aNil aNil) :=
  ⟨fun pins s σ H Q I ⟨W, S, δ, g, r, pp⟩ => by
    refine wpAny_Call_Name_kw (ld_glob I hgl hm ?_ hdb)
    exact PySem.W.callWith_K0 I.kIn hk (hf pins s σ H [] [] [] [] Q I .nil .nil rfl ⟨W, S, [], [], g, .nil, .nil, pp⟩)⟩
/-- o.m(e, ..): o an instance of the class at C whose method m is the def at f -/
def eMeth (c nm : Str) (m : List D → List D → M D) (mo : ME) (mas : MA) : ME := fun δ => M.bind (mo δ) fun x => M.bind (mas δ) fun xs => m (x :: xs) []
def clsOf (S : Store) : D → Option (Str × List (Str × D))
  | .ins c fs => some (c, fs)
  | .ref i => (match S[i]? with
    | some (some (.ins c fs)) => some (c, fs)
    | _ => none)
  | _ => none
theorem lookup_keys {α β : Type} {x : Str} : ∀ {fs : List (Str × α)} {gs : List (Str × β)}, gs.map (·.1) = fs.map (·.1) → fs.lookup x = none → gs.lookup x = none
  | [], [], _, _ => rfl
  | [], _ :: _, e, _ => by cases e
  | _ :: _, [], e, _ => by cases e
  | (a, _) :: fs, (b, _) :: gs, e, h => by
    simp only [List.map_cons, List.cons.injEq] at e
    obtain ⟨rfl, e⟩ := e
    simp only [List.lookup_cons] at h ⊢
    cases q : x == b with
    | true => rw [q] at h; cases h
    | false => rw [q] at h; exact lookup_keys e h
theorem lookup_reps {K : PySem.W.Frag} {W : Wd} {x : Str} {d : D} : ∀ {fs : List (Str × D)} {gs : List (Str × V)}, gs.map (·.1) = fs.map (·.1) → Reps K W (fs.map (·.2)) (gs.map (·.2)) → fs.lookup x = some d → ∃ v, gs.lookup x = some v ∧ Rep K W d v
  | [], _, _, _, h => by cases h
  | _ :: _, [], e, _, _ => by cases e
  | (a, d1) :: fs, (b, v1) :: gs, e, r, h => by
    simp only [List.map_cons, List.cons.injEq] at e
    obtain ⟨rfl, e⟩ := e
    cases r with
    | cons r1 r2 =>
      simp only [List.lookup_cons] at h ⊢
      cases q : x == b with
      | true => rw [q] at h; cases h; exact ⟨v1, rfl, r1⟩
      | false => rw [q] at h; exact lookup_reps e r2 h
theorem clsOf_ok {K : PySem.W.Frag} {W : Wd} {S : Store} {H : Hp} {d : D} {v : V} {c : Str} {fs : List (Str × D)} (e : clsOf S d = some (c, fs)) (g : Good K W S H) (r : Rep K W d v) :
    ∃ a dx vfs, v = .ref a ∧ H a = some (.ins (He.ga K c) dx vfs) ∧ vfs.map (·.1) = fs.map (·.1) ∧ Reps K W (fs.map (·.2)) (vfs.map (·.2)) := by
  cases r with
  | @ins a dx c' vfs fs' h1 h2 h3 =>
    cases e
    exact ⟨a, dx, vfs, rfl, g.sub _ _ h1, h2, h3⟩
  | @ref i a h =>
    simp only [clsOf] at e
    split at e
    · rename_i c' fs' hc
      cases e
      obtain ⟨a', e1, e2, _, dx, vfs, e3, e4, e5⟩ := g.cell i _ hc
      rw [h] at e1; cases e1
      exact ⟨a, dx, vfs, rfl, e3, e4, e5⟩
    · cases e
  | _ => cases e
/-- o.f: an attribute that the instance has -/
def eFld (ok : Str → Bool) (f : Str) (mo : ME) : ME := fun δ => M.bind (mo δ) fun x S => match clsOf S x with
  | some (c, fs) => if ok c = true then (match fs.lookup f with
    | some d => .ok d S
    | none => .bad) else .bad
  | none => .bad
theorem se_fld {ok : Str → Bool} {fl : Str} (ho : SE X Wx o mo) (hcls : ∀ c, ok c = true → Cls X.K (He.ga X.K c) ∧ NoAttr X.K (He.ga X.K c) fl) (hb : attributeBase o fl X.env (eval o X.env) = eval o X.env) : SE X Wx (.Attribute o fl pos) (eFld ok fl mo) :=
  PE.imp (pe_fld ho hb) fun σ H Q ⟨W, S, δ, g, r, p⟩ => ⟨W, S, δ, g, r, (okP.bind (R := Rep X.K) p).imp fun v H1 ⟨W1, S1, d, l1, g1, r1, p1⟩ => by
    cases e : clsOf S1 d with
    | none => rw [e] at p1; exact p1.elim
    | some q =>
      obtain ⟨c, fs⟩ := q
      rw [e] at p1
      dsimp only at p1
      split at p1
      · rename_i hok
        cases e2 : fs.lookup fl with
        | none => rw [e2] at p1; exact p1.elim
        | some d2 =>
          rw [e2] at p1
          obtain ⟨a, dx, vfs, rfl, h1, h2, h3⟩ := clsOf_ok e g1 r1
          obtain ⟨v2, h4, h5⟩ := lookup_reps h2 h3 e2
          exact ⟨a, _, dx, vfs, v2, rfl, h1, (hcls c hok).1, (hcls c hok).2, h4, p1 W1 H1 v2 W1.le_refl g1 h5⟩
      · exact p1.elim⟩
end
end Ev
/-! # built-in functions, methods and stores by values -/
namespace Ev
open PySem PySem.Spec PySem.SeqAt L2 PyProof.Rows
section
variable {X : Cx}
theorem call_of {f : Value} {r : List V → Hp → VK → Prop} {g : List D → PO} (h : CallR X f r) (k : ∀ W S H vs ds Q, Good X.K W S H → Reps X.K W ds vs → oV X.K W (g ds S) Q → r vs H Q) : CallR X f (rDC X.K g) :=
  fun pins s σ H vs us Q I rv ⟨W, S, ds, gd, r1, p⟩ => h pins s σ H vs us Q I rv (k W S H vs ds Q gd r1 p)
theorem reps1 {K : PySem.W.Frag} {W : Wd} {d : D} {vs : List V} (r : Reps K W [d] vs) : ∃ v, vs = [v] ∧ Rep K W d v := by
  cases r with
  | cons r t => cases t; exact ⟨_, rfl, r⟩
theorem reps2 {K : PySem.W.Frag} {W : Wd} {d e : D} {vs : List V} (r : Reps K W [d, e] vs) : ∃ v u, vs = [v, u] ∧ Rep K W d v ∧ Rep K W e u := by
  cases r with
  | cons r t =>
    obtain ⟨u, rfl, q⟩ := reps1 t
    exact ⟨_, u, rfl, r, q⟩
def intsOf : List D → Option (List Int)
  | [] => some []
  | .int i :: ds => (intsOf ds).map fun l => i :: l
  | _ :: _ => none
theorem intsOf_ok {K : PySem.W.Frag} {W : Wd} : ∀ {ds : List D} {vs : List V} {ns : List Int}, intsOf ds = some ns → Reps K W ds vs → ds = ns.map D.int ∧ vs = ns.map V.int
  | [], _, _, e, .nil => by cases e; exact ⟨rfl, rfl⟩
  | .int i :: ds, _, _, e, .cons r t => by
    simp only [intsOf] at e
    obtain ⟨l, e1, rfl⟩ := Option.map_eq_some_iff.mp e
    cases r
    obtain ⟨h1, h2⟩ := intsOf_ok e1 t
    exact ⟨by rw [h1]; rfl, by rw [h2]; rfl⟩
  | .non :: _, _, _, e, _ | .bl _ :: _, _, _, e, _ | .str _ :: _, _, _, e, _ | .tup _ :: _, _, _, e, _ | .lst _ :: _, _, _, e, _ | .ins _ _ :: _, _, _, e, _ | .ref _ :: _, _, _, e, _ | .fn _ :: _, _, _, e, _ | .scr _ :: _, _, _, e, _ | .slf :: _, _, _, e, _ | .dic _ :: _, _, _, e, _ => by cases e
def blsOf : List D → Option (List Bool)
  | [] => some []
  | .bl i :: ds => (blsOf ds).map fun l => i :: l
  | _ :: _ => none
theorem blsOf_ok {K : PySem.W.Frag} {W : Wd} : ∀ {ds : List D} {vs : List V} {ns : List Bool}, blsOf ds = some ns → Reps K W ds vs → ds = ns.map D.bl ∧ vs = ns.map V.bl
  | [], _, _, e, .nil => by cases e; exact ⟨rfl, rfl⟩
  | .bl i :: ds, _, _, e, .cons r t => by
    simp only [blsOf] at e
    obtain ⟨l, e1, rfl⟩ := Option.map_eq_some_iff.mp e
    cases r
    obtain ⟨h1, h2⟩ := blsOf_ok e1 t
    exact ⟨by rw [h1]; rfl, by rw [h2]; rfl⟩
  | .non :: _, _, _, e, _ | .int _ :: _, _, _, e, _ | .str _ :: _, _, _, e, _ | .tup _ :: _, _, _, e, _ | .lst _ :: _, _, _, e, _ | .ins _ _ :: _, _, _, e, _ | .ref _ :: _, _, _, e, _ | .fn _ :: _, _, _, e, _ | .scr _ :: _, _, _, e, _ | .slf :: _, _, _, e, _ | .dic _ :: _, _, _, e, _ => by cases e
def strsOf : List D → Option (List Str)
  | [] => some []
  | .str i :: ds => (strsOf ds).map fun l => i :: l
  | _ :: _ => none
theorem strsOf_ok {K : PySem.W.Frag} {W : Wd} : ∀ {ds : List D} {vs : List V} {ns : List Str}, strsOf ds = some ns → Reps K W ds vs → ds = ns.map D.str ∧ vs = ns.map V.str
  | [], _, _, e, .nil => by cases e; exact ⟨rfl, rfl⟩
  | .str i :: ds, _, _, e, .cons r t => by
    simp only [strsOf] at e
    obtain ⟨l, e1, rfl⟩ := Option.map_eq_some_iff.mp e
    cases r
    obtain ⟨h1, h2⟩ := strsOf_ok e1 t
    exact ⟨by rw [h1]; rfl, by rw [h2]; rfl⟩
  | .non :: _, _, _, e, _ | .int _ :: _, _, _, e, _ | .bl _ :: _, _, _, e, _ | .tup _ :: _, _, _, e, _ | .lst _ :: _, _, _, e, _ | .ins _ _ :: _, _, _, e, _ | .ref _ :: _, _, _, e, _ | .fn _ :: _, _, _, e, _ | .scr _ :: _, _, _, e, _ | .slf :: _, _, _, e, _ | .dic _ :: _, _, _, e, _ => by cases e
theorem reps_strs {K : PySem.W.Frag} {W : Wd} : ∀ ns : List Str, Reps K W (ns.map D.str) (ns.map V.str)
  | [] => .nil
  | n :: ns => .cons (.str n) (reps_strs ns)
/-! len, abs, min, max, sum, int, str, all, any, divmod -/
def pLen : List D → PO := fun ds S => match ds with
  | [.str z] => if z.length ≤ sizeLine then some (.int z.length, S) else none
  | [x] => (seqOf S x).map fun xs => (.int xs.length, S)
  | _ => none
theorem cr_pLen : CallR X (.builtin "len") (rDC X.K pLen) := call_of call_len fun W S H vs ds Q g r p => by
  match ds, r, p with
  | [], _, p => exact p.elim
  | [d], r, p =>
    obtain ⟨v, rfl, q⟩ := reps1 r
    have sq : oV X.K W ((seqOf S d).map fun xs => (.int xs.length, S)) Q → ∃ x n, [v] = [x] ∧ LenV X.K x H n ∧ Q (.int n) H := fun p => by
      cases e : seqOf S d with
      | none => rw [e] at p; exact p.elim
      | some xs =>
        rw [e] at p
        obtain ⟨a, us, rfl, h2, h3⟩ := seqOf_ok e g q
        refine ⟨_, xs.length, rfl, ?_, p.val g (.int _)⟩
        rcases h2 with h2 | h2
        · exact .inl ⟨us, h2, h3.length⟩
        · exact .inr ⟨us, h2, h3.length⟩
    cases q with
    | str z =>
      simp only [pLen] at p
      split at p
      · exact ⟨_, z.length, rfl, ⟨by assumption, rfl⟩, p.val g (.int _)⟩
      · exact p.elim
    | _ => exact sq p
  | a :: _ :: _, _, p => cases a <;> exact p.elim
def pAbs : List D → PO := fun ds S => match ds with
  | [.int i] => some (.int (if i < 0 then -i else i), S)
  | _ => none
theorem cr_pAbs : CallR X (.builtin "abs") (rDC X.K pAbs) := call_of call_abs fun W S H vs ds Q g r p => by
  match ds, r, p with
  | [.int i], r, p =>
    obtain ⟨v, rfl, q⟩ := reps1 r
    cases q
    exact ⟨i, rfl, p.val g (.int _)⟩
def minL : List Int → Int
  | [] => 0
  | [x] => x
  | x :: y :: r => if x ≤ minL (y :: r) then x else minL (y :: r)
theorem minL_ok : ∀ l : List Int, l ≠ [] → minL l ∈ l ∧ ∀ y ∈ l, minL l ≤ y
  | [], h => (h rfl).elim
  | [x], _ => ⟨by simp [minL], by simp [minL]⟩
  | x :: y :: r, _ => by
    obtain ⟨h1, h2⟩ := minL_ok (y :: r) (by simp)
    unfold minL
    split
    · rename_i h
      refine ⟨by simp, fun z hz => ?_⟩
      rcases List.mem_cons.mp hz with rfl | hz
      · exact Int.le_refl _
      · exact Int.le_trans h (h2 z hz)
    · rename_i h
      refine ⟨List.mem_cons_of_mem _ h1, fun z hz => ?_⟩
      rcases List.mem_cons.mp hz with rfl | hz
      · omega
      · exact h2 z hz
def maxL : List Int → Int
  | [] => 0
  | [x] => x
  | x :: y :: r => if maxL (y :: r) ≤ x then x else maxL (y :: r)
theorem maxL_ok : ∀ l : List Int, l ≠ [] → maxL l ∈ l ∧ ∀ y ∈ l, y ≤ maxL l
  | [], h => (h rfl).elim
  | [x], _ => ⟨by simp [maxL], by simp [maxL]⟩
  | x :: y :: r, _ => by
    obtain ⟨h1, h2⟩ := maxL_ok (y :: r) (by simp)
    unfold maxL
    split
    · rename_i h
      refine ⟨by simp, fun z hz => ?_⟩
      rcases List.mem_cons.mp hz with rfl | hz
      · exact Int.le_refl _
      · exact Int.le_trans (h2 z hz) h
    · rename_i h
      refine ⟨List.mem_cons_of_mem _ h1, fun z hz => ?_⟩
      rcases List.mem_cons.mp hz with rfl | hz
      · omega
      · exact h2 z hz
def pMin : List D → PO := fun ds S => match ds with
  | [x, y] => (match x, y with
    | .int i, .int j => some (.int (if j < i then j else i), S)
    | _, _ => none)
  | [x] => ((lstOf S x).bind intsOf).bind fun ns => if ns = [] then none else some (.int (minL ns), S)
  | _ => none
def pMax : List D → PO := fun ds S => match ds with
  | [x, y] => (match x, y with
    | .int i, .int j => some (.int (if j > i then j else i), S)
    | _, _ => none)
  | [x] => ((lstOf S x).bind intsOf).bind fun ns => if ns = [] then none else some (.int (maxL ns), S)
  | _ => none
theorem ints_of_lst {W : Wd} {S : Store} {H : Hp} {d : D} {v : V} {ns : List Int} (g : Good X.K W S H) (q : Rep X.K W d v) (e : (lstOf S d).bind intsOf = some ns) : ∃ a, v = .ref a ∧ SqL X.K H a (ns.map V.int) := by
  obtain ⟨xs, e1, e2⟩ := Option.bind_eq_some_iff.mp e
  obtain ⟨a, us, rfl, h2, h3⟩ := lstOf_ok e1 g q
  obtain ⟨rfl, rfl⟩ := intsOf_ok e2 h3
  exact ⟨a, rfl, h2⟩
theorem cr_pMin (hc : X.calm = true) : CallR X (.builtin "min") (rDC X.K pMin) := fun pins s σ H vs us Q I rv ⟨W, S, ds, g, r, p⟩ => by
  have one : ∀ {d : D}, ds = [d] → oV X.K W (((lstOf S d).bind intsOf).bind fun ns => if ns = [] then none else some (.int (minL ns), S)) Q → wpAny (model X.prog X.w) X.A (call (.builtin "min") us) (EP X pins σ Q) X.xe s := by
    intro d ed p'
    clear p
    subst ed
    obtain ⟨v, rfl, q⟩ := reps1 r
    cases e : (lstOf S d).bind intsOf with
    | none => rw [e] at p'; exact p'.elim
    | some ns =>
      rw [e] at p'
      simp only [Option.bind_some] at p'
      split at p'
      · exact p'.elim
      · rename_i hn
        obtain ⟨a, rfl, h⟩ := ints_of_lst g q e
        obtain ⟨m1, m2⟩ := minL_ok ns hn
        refine cr_min hc pins s σ H _ us Q I rv ⟨a, ns, rfl, h, List.length_pos_iff.mpr hn, fun m h1 h2 => ?_⟩
        have : m = minL ns := Int.le_antisymm (h2 _ m1) (m2 _ h1)
        rw [this]
        exact p'.val g (.int _)
  match ds, r, p, @one with
  | [], _, p, _ => exact p.elim
  | [d], _, p, one => exact @one d rfl p
  | [d, e], r, p, _ =>
    obtain ⟨v, u, rfl, q1, q2⟩ := reps2 r
    cases q1 with
    | int i =>
      cases q2 with
      | int j => exact call_min2 hc pins s σ H _ us Q I rv ⟨i, j, rfl, p.val g (.int _)⟩
      | _ => exact p.elim
    | _ => cases q2 <;> exact p.elim
  | _ :: _ :: _ :: _, _, p, _ => exact p.elim
theorem cr_pMax (hc : X.calm = true) : CallR X (.builtin "max") (rDC X.K pMax) := fun pins s σ H vs us Q I rv ⟨W, S, ds, g, r, p⟩ => by
  have one : ∀ {d : D}, ds = [d] → oV X.K W (((lstOf S d).bind intsOf).bind fun ns => if ns = [] then none else some (.int (maxL ns), S)) Q → wpAny (model X.prog X.w) X.A (call (.builtin "max") us) (EP X pins σ Q) X.xe s := by
    intro d ed p'
    clear p
    subst ed
    obtain ⟨v, rfl, q⟩ := reps1 r
    cases e : (lstOf S d).bind intsOf with
    | none => rw [e] at p'; exact p'.elim
    | some ns =>
      rw [e] at p'
      simp only [Option.bind_some] at p'
      split at p'
      · exact p'.elim
      · rename_i hn
        obtain ⟨a, rfl, h⟩ := ints_of_lst g q e
        obtain ⟨m1, m2⟩ := maxL_ok ns hn
        refine cr_max hc pins s σ H _ us Q I rv ⟨a, ns, rfl, h, List.length_pos_iff.mpr hn, fun m h1 h2 => ?_⟩
        have : m = maxL ns := Int.le_antisymm (m2 _ h1) (h2 _ m1)
        rw [this]
        exact p'.val g (.int _)
  match ds, r, p, @one with
  | [], _, p, _ => exact p.elim
  | [d], _, p, one => exact @one d rfl p
  | [d, e], r, p, _ =>
    obtain ⟨v, u, rfl, q1, q2⟩ := reps2 r
    cases q1 with
    | int i =>
      cases q2 with
      | int j => exact call_max2 hc pins s σ H _ us Q I rv ⟨i, j, rfl, p.val g (.int _)⟩
      | _ => exact p.elim
    | _ => cases q2 <;> exact p.elim
  | _ :: _ :: _ :: _, _, p, _ => exact p.elim
def pSum : List D → PO := fun ds S => match ds with
  | [x] => ((lstOf S x).bind intsOf).map fun ns => (.int ns.sum, S)
  | _ => none
theorem cr_pSum (hc : X.calm = true) : CallR X (.builtin "sum") (rDC X.K pSum) := call_of (cr_sum hc) fun W S H vs ds Q g r p => by
  match ds, r, p with
  | [d], r, p =>
    obtain ⟨v, rfl, q⟩ := reps1 r
    simp only [pSum] at p
    cases e : (lstOf S d).bind intsOf with
    | none => rw [e] at p; exact p.elim
    | some ns =>
      rw [e] at p
      obtain ⟨a, rfl, h⟩ := ints_of_lst g q e
      exact ⟨a, ns, rfl, h, p.val g (.int _)⟩
def pAll (b : Bool) : List D → PO := fun ds S => match ds with
  | [x] => ((lstOf S x).bind blsOf).map fun ns => (.bl (if b then ns.all id else ns.any id), S)
  | _ => none
theorem bls_of_lst {W : Wd} {S : Store} {H : Hp} {d : D} {v : V} {ns : List Bool} (g : Good X.K W S H) (q : Rep X.K W d v) (e : (lstOf S d).bind blsOf = some ns) : ∃ a, v = .ref a ∧ SqL X.K H a (ns.map V.bl) := by
  obtain ⟨xs, e1, e2⟩ := Option.bind_eq_some_iff.mp e
  obtain ⟨a, us, rfl, h2, h3⟩ := lstOf_ok e1 g q
  obtain ⟨rfl, rfl⟩ := blsOf_ok e2 h3
  exact ⟨a, rfl, h2⟩
theorem cr_pAll (hc : X.calm = true) : CallR X (.builtin "all") (rDC X.K (pAll true)) := call_of (cr_all hc) fun W S H vs ds Q g r p => by
  match ds, r, p with
  | [d], r, p =>
    obtain ⟨v, rfl, q⟩ := reps1 r
    simp only [pAll] at p
    cases e : (lstOf S d).bind blsOf with
    | none => rw [e] at p; exact p.elim
    | some ns =>
      rw [e] at p
      obtain ⟨a, rfl, h⟩ := bls_of_lst g q e
      exact ⟨a, ns, rfl, h, p.val g (.bl _)⟩
theorem cr_pAny (hc : X.calm = true) : CallR X (.builtin "any") (rDC X.K (pAll false)) := call_of (cr_any hc) fun W S H vs ds Q g r p => by
  match ds, r, p with
  | [d], r, p =>
    obtain ⟨v, rfl, q⟩ := reps1 r
    simp only [pAll] at p
    cases e : (lstOf S d).bind blsOf with
    | none => rw [e] at p; exact p.elim
    | some ns =>
      rw [e] at p
      obtain ⟨a, rfl, h⟩ := bls_of_lst g q e
      exact ⟨a, ns, rfl, h, p.val g (.bl _)⟩
def pDivmod : List D → PO := fun ds S => match ds with
  | [.int i, .int j] => if 0 < j ∧ j < 1073741824 then some (.tup [.int (i / j), .int (i % j)], S) else none
  | _ => none
theorem cr_pDivmod : CallR X (.builtin "divmod") (rDC X.K pDivmod) := call_of call_divmod fun W S H vs ds Q g r p => by
  match ds, r, p with
  | [.int i, .int j], r, p =>
    obtain ⟨v, u, rfl, q1, q2⟩ := reps2 r
    cases q1; cases q2
    simp only [pDivmod] at p
    split at p
    · rename_i h
      exact ⟨i, j, rfl, h, fun a n => p.new g n (.tup (SqT.of upd_same) (.cons (.int _) (.cons (.int _) .nil)))⟩
    · exact p.elim
def pInt : List D → PO := fun ds S => match ds with
  | [.int i] => some (.int i, S)
  | [.bl b] => some (.int (if b then 1 else 0), S)
  | [.str a] => if a.length ≤ 640 then (PySem.intText? a).map fun n => (.int n, S) else none
  | _ => none
theorem cr_pInt : CallR X (.type "int") (rDC X.K pInt) := fun pins s σ H vs us Q I rv ⟨W, S, ds, g, r, p⟩ => by
  match ds, r, p with
  | [.int i], r, p =>
    obtain ⟨v, rfl, q⟩ := reps1 r
    cases q
    exact call_int1 pins s σ H _ us Q I rv (.inl ⟨i, rfl, p.val g (.int _)⟩)
  | [.bl i], r, p =>
    obtain ⟨v, rfl, q⟩ := reps1 r
    cases q
    exact call_int1 pins s σ H _ us Q I rv (.inr ⟨i, rfl, p.val g (.int _)⟩)
  | [.str a], r, p =>
    obtain ⟨v, rfl, q⟩ := reps1 r
    cases q
    simp only [pInt] at p
    split at p
    · rename_i h
      cases e : PySem.intText? a with
      | none => rw [e] at p; exact p.elim
      | some n =>
        rw [e] at p
        exact call_int_str pins s σ H _ us Q I rv ⟨a, n, rfl, e, h, p.val g (.int _)⟩
    · exact p.elim
def pStr : List D → PO := fun ds S => match ds with
  | [.int i] => if i.natAbs.log2 < 1920 then some (.str (toString i), S) else none
  | [.str a] => some (.str a, S)
  | _ => none
theorem cr_pStr : CallR X (.type "str") (rDC X.K pStr) := fun pins s σ H vs us Q I rv ⟨W, S, ds, g, r, p⟩ => by
  match ds, r, p with
  | [.int i], r, p =>
    obtain ⟨v, rfl, q⟩ := reps1 r
    cases q
    simp only [pStr] at p
    split at p
    · exact call_str_int pins s σ H _ us Q I rv ⟨i, rfl, by assumption, p.val g (.str _)⟩
    · exact p.elim
  | [.str a], r, p =>
    obtain ⟨v, rfl, q⟩ := reps1 r
    cases q
    exact SkE.call_str_str pins s σ H _ us Q I rv ⟨a, rfl, p.val g (.str _)⟩
def pList (fin : List D → PO) : List D → PO := fun ds S => match ds with
  | [x] => (seqOf S x).bind fun xs => fin xs S
  | _ => none
theorem cr_pList {fin : List D → PO} (hf : ∀ {W : Wd} {S : Store} {H : Hp} {xs : List D} {vs : List V} {Q : VK}, oV X.K W (fin xs S) Q → Good X.K W S H → Reps X.K W xs vs → vs.length ≤ sizeLine ∧ ∀ a, H a = none → Q (.ref a) (upd H a (.lst vs))) :
    CallR X (.type "list") (rDC X.K (pList fin)) := call_of call_list_of fun W S H vs ds Q g r p => by
  match ds, r, p with
  | [d], r, p =>
    obtain ⟨v, rfl, q⟩ := reps1 r
    simp only [pList] at p
    cases e : seqOf S d with
    | none => rw [e] at p; exact p.elim
    | some xs =>
      rw [e] at p
      obtain ⟨a, us, rfl, h2, h3⟩ := seqOf_ok e g q
      exact ⟨a, us, rfl, h2, (hf p g h3).2⟩
def pTuple : List D → PO := fun ds S => match ds with
  | [.tup xs] => some (.tup xs, S)
  | [x] => (lstOf S x).bind fun xs => newT xs S
  | _ => none
theorem cr_pTuple : CallR X (.type "tuple") (rDC X.K pTuple) := call_of call_tuple_of fun W S H vs ds Q g r p => by
  match ds, r, p with
  | [], _, p => exact p.elim
  | a :: _ :: _, _, p => cases a <;> exact p.elim
  | [d], r, p =>
    obtain ⟨v, rfl, q⟩ := reps1 r
    have ls : oV X.K W ((lstOf S d).bind fun xs => newT xs S) Q → ∃ p ys, [v] = [.ref p] ∧ ((SqL X.K H p ys ∧ ∀ l, H l = none → Q (.ref l) (upd H l (.tup ys))) ∨ (SqT X.K H p ys ∧ Q (.ref p) H)) := fun p => by
      cases e : lstOf S d with
      | none => rw [e] at p; exact p.elim
      | some xs =>
        rw [e] at p
        obtain ⟨a, us, rfl, h2, h3⟩ := lstOf_ok e g q
        exact ⟨a, us, rfl, .inl ⟨h2, (newT_ok p g h3).2⟩⟩
    cases q with
    | @tup a us ds q r' => exact ⟨a, us, rfl, .inr ⟨g.sqT q, p.val g (.tup q r')⟩⟩
    | _ => exact ls p
/-! repr of data -/
def pRepr : List D → PO := fun ds S => match ds with
  | [x] => (match toPS S x with
    | some p => (match p with
      | .list _ => if p.showable = true ∧ p.shown.length ≤ sizeLine ∧ p.depth ≤ 60 then some (.str p.shown, S) else none
      | .tuple _ => if p.showable = true ∧ p.shown.length ≤ sizeLine ∧ p.depth ≤ 60 then some (.str p.shown, S) else none
      | _ => none)
    | none => none)
  | _ => none
mutual
theorem plain_hasDict : ∀ p : PyData, p.plain = true → p.hasDict = false
  | .none, _ => rfl
  | .bool _, _ => rfl
  | .int _, _ => rfl
  | .str _, _ => rfl
  | .list xs, h => by simp only [PyData.hasDict]; exact plain_hasDictAll xs (by simpa [PyData.plain] using h)
  | .tuple xs, h => by simp only [PyData.hasDict]; exact plain_hasDictAll xs (by simpa [PyData.plain] using h)
  | .dict _, h => by cases h
theorem plain_hasDictAll : ∀ ps : List PyData, PyData.plainAll ps = true → PyData.hasDictAll ps = false
  | [], _ => rfl
  | p :: ps, h => by
    simp only [PyData.plainAll, Bool.and_eq_true] at h
    simp only [PyData.hasDictAll, Bool.or_eq_false_iff]
    exact ⟨plain_hasDict p h.1, plain_hasDictAll ps h.2⟩
end
theorem cr_pRepr (hg : X.A.guards = some []) (hu : X.A.units + 64 < cLine) : CallR X (.builtin "repr") (rDC X.K pRepr) := fun pins s σ H vs us Q I rv ⟨W, S, ds, g, r, p⟩ => by
  match ds, r, p with
  | [d], r, p =>
    obtain ⟨v, rfl, q⟩ := reps1 r
    obtain ⟨u, rfl, ru⟩ := vals1 rv
    simp only [pRepr] at p
    cases e : toPS S d with
    | none => rw [e] at p; exact p.elim
    | some pd =>
      rw [e] at p
      obtain ⟨pl, as, ra⟩ := reads_ofS I g e q ru
      have hnd := plain_hasDict pd pl
      have go : ∀ {a : Addr}, u = .ref a → oV X.K W (if pd.showable = true ∧ pd.shown.length ≤ sizeLine ∧ pd.depth ≤ 60 then some (.str pd.shown, S) else none) Q → wpAny (model X.prog X.w) X.A (call (.builtin "repr") [u]) (EP X pins σ Q) X.xe s := by
        intro a eu p
        subst eu
        split at p
        · rename_i h
          exact repr_of_reads' ra h.1 (fun z => by rw [hnd] at z; cases z) hg (by omega) (fun _ _ e => e) (fun h' u' tk hk => ⟨.str _, H, I.kept (t' := tk) hk, ⟨u', rfl⟩, p.val g (.str _)⟩) h.2.1
        · exact p.elim
      cases ra with
      | list h1 h2 h3 h4 => exact go rfl p
      | tuple h1 h2 h3 h4 => exact go rfl p
      | _ => exact p.elim
end
end Ev
/-! # methods of built-in values, stores, slices, isinstance -/
namespace Ev
open PySem PySem.Spec PySem.SeqAt L2 PyProof.Rows
section
variable {X : Cx} {Wx : WX} {o e : Expr} {es : List Expr} {mo : ME} {mas : MA} {nm : Str} {apos cpos pos : Pos} {T id : String}
def rDM (K : PySem.W.Frag) (f : D → List D → PO) : V → List V → Hp → VK → Prop := fun x xs H Q => ∃ W S d ds, Good K W S H ∧ Rep K W d x ∧ Reps K W ds xs ∧ oV K W (f d ds S) Q
def tyD (T : String) (S : Store) : D → Bool
  | .str _ => T == "str"
  | d => T == "list" && (lstOf S d).isSome
theorem tyD_ok {K : PySem.W.Frag} {W : Wd} {S : Store} {H : Hp} {d : D} {v : V} (h : tyD T S d = true) (g : Good K W S H) (r : Rep K W d v) : tyV K T v H := by
  have ls : (T == "list" && (lstOf S d).isSome) = true → tyV K T v H := fun h => by
    simp only [Bool.and_eq_true, beq_iff_eq] at h
    obtain ⟨xs, e⟩ := Option.isSome_iff_exists.mp h.2
    obtain ⟨a, vs, rfl, h1, h2⟩ := lstOf_ok e g r
    exact .inl ⟨h.1, vs, h1⟩
  cases r with
  | str x => exact beq_iff_eq.mp h
  | _ => exact ls h
def eMB (T : String) (f : D → List D → PO) (mo : ME) (mas : MA) : ME := fun δ => M.bind (mo δ) fun x S => if tyD T S x = true then M.bind (mas δ) (fun xs => lft (f x xs)) S else .bad
theorem se_mb {f : D → List D → PO} (pa : PlainAttrs T) (slot : Slot T nm id) (hty : typeOf (.builtin id) = pure (.type "method_descriptor")) (hm : MtR X id (rDM X.K f)) (ho : SE X Wx o mo) (ha : SA X Wx (e :: es) mas)
    (hbase : attributeBase o nm X.env (eval o X.env) = eval o X.env)
    (hfew : ((backTo cpos (starEach (e :: es) X.env)).all (fun x => !x.1) && (backToKw cpos (keywordEach [] X.env)).all (fun x => x.1.isSome)
      && decide ((e :: es).length + ([] : List Keyword).length + (if ([] : List Keyword).isEmpty then 0 else 1) < 30)) = true)
    (hline : (apos.endLine == cpos.line) = true) (hs : starEach (e :: es) X.env = (false, eval e X.env) :: starEach es X.env) (hpl : (backTo cpos (starEach es X.env)).any (·.1) = false) :
    SE X Wx (.Call (.Attribute o nm apos) (e :: es) [] cpos) (eMB T f mo mas) :=
  PE.imp (pe_bm pa slot hty hm ho ha hbase hfew hline hs hpl) fun σ H Q ⟨W, S, δ, g, r, p⟩ => ⟨W, S, δ, g, r, (okP.bind (R := Rep X.K) p).imp fun v H1 ⟨W1, S1, x, l1, g1, r1, p1⟩ => by
    by_cases ht : tyD T S1 x = true
    · rw [if_pos ht] at p1
      exact ⟨tyD_ok ht g1 r1, W1, S1, δ, g1, r.mono l1, (okP.bind (R := Reps X.K) p1).imp fun vs H2 ⟨W2, S2, xs, l2, g2, r2, p2⟩ => ⟨W2, S2, x, xs, g2, r1.mono l2, r2, p2.lft⟩⟩
    · rw [if_neg ht] at p1; exact p1.elim⟩
theorem se_mb0 {f : D → List D → PO} (pa : PlainAttrs T) (slot : Slot T nm id) (hty : typeOf (.builtin id) = pure (.type "method_descriptor")) (hm : MtR X id (rDM X.K f)) (ho : SE X Wx o mo)
    (hbase : attributeBase o nm X.env (eval o X.env) = eval o X.env) (hline : (apos.endLine == cpos.line) = true) :
    SE X Wx (.Call (.Attribute o nm apos) [] [] cpos) (eMB T f mo aNil) :=
  PE.imp (pe_bm0 pa slot hty hm ho hbase hline) fun σ H Q ⟨W, S, δ, g, r, p⟩ => ⟨W, S, δ, g, r, (okP.bind (R := Rep X.K) p).imp fun v H1 ⟨W1, S1, x, l1, g1, r1, p1⟩ => by
    by_cases ht : tyD T S1 x = true
    · rw [if_pos ht] at p1
      exact ⟨tyD_ok ht g1 r1, W1, S1, x, [], g1, r1, .nil, p1.lft⟩
    · rw [if_neg ht] at p1; exact p1.elim⟩
/-! texts -/
def pSplit : D → List D → PO := fun x ds S => match x, ds with
  | .str a, [.str b] => if (b.length == 0) = false ∧ a.length + 2 ≤ sizeLine then newL ((Txt.split a b).map D.str) S else none
  | _, _ => none
theorem mt_pSplit : MtR X "str.split" (rDM X.K pSplit) := fun pins s σ H x xs v us Q I rx rv ⟨W, S, d, ds, g, r1, r2, p⟩ => by
  cases r1 with
  | str a =>
    match ds, r2, p with
    | [.str b], r2, p =>
      obtain ⟨w, rfl, q⟩ := reps1 r2
      cases q
      simp only [pSplit] at p
      split at p
      · rename_i h
        exact mt_split pins s σ H _ _ v us Q I rx rv ⟨a, b, rfl, rfl, h.1, h.2, fun p0 n => (newL_ok p g (reps_strs _)).2 p0 n⟩
      · exact p.elim
  | _ => cases ds with
    | nil => exact p.elim
    | cons d ds => cases d <;> cases ds <;> exact p.elim
def pJoin : D → List D → PO := fun x ds S => match x, ds with
  | .str a, [y] => ((seqOf S y).bind strsOf).bind fun ys => if (ys.map (·.length)).sum + ys.length * a.length ≤ 16777216 then some (.str (Txt.join a ys), S) else none
  | _, _ => none
theorem mt_pJoin : MtR X "str.join" (rDM X.K pJoin) := fun pins s σ H x xs v us Q I rx rv ⟨W, S, d, ds, g, r1, r2, p⟩ => by
  cases r1 with
  | str a =>
    match ds, r2, p with
    | [y], r2, p =>
      obtain ⟨w, rfl, q⟩ := reps1 r2
      simp only [pJoin] at p
      cases e : (seqOf S y).bind strsOf with
      | none => rw [e] at p; exact p.elim
      | some ys =>
        rw [e] at p
        simp only [Option.bind_some] at p
        split at p
        · rename_i h
          obtain ⟨zs, e1, e2⟩ := Option.bind_eq_some_iff.mp e
          obtain ⟨b, vs, rfl, h2, h3⟩ := seqOf_ok e1 g q
          obtain ⟨rfl, rfl⟩ := strsOf_ok e2 h3
          exact mt_join pins s σ H _ _ v us Q I rx rv ⟨a, b, ys, rfl, rfl, h2, h, p.val g (.str _)⟩
        · exact p.elim
  | _ => cases ds with
    | nil => exact p.elim
    | cons d ds => cases ds <;> exact p.elim
/-! lists that change -/
def pAppend : D → List D → PO := fun x ds S => match x, ds with
  | .ref i, [y] => (match S[i]? with
    | some (some (.lst xs)) => if xs.length < sizeLine then some (.non, S.set i (some (.lst (xs ++ [y])))) else none
    | _ => none)
  | _, _ => none
theorem mt_pAppend : MtR X "list.append" (rDM X.K pAppend) := fun pins s σ H x xs v us Q I rx rv ⟨W, S, d, ds, g, r1, r2, p⟩ => by
  cases r1 with
  | @ref i a h =>
    match ds, r2, p with
    | [y], r2, p =>
      obtain ⟨w, rfl, q⟩ := reps1 r2
      simp only [pAppend] at p
      split at p
      · rename_i zs hc
        split at p
        · rename_i hl
          obtain ⟨a', e1, e2, _, vs, e3, e4⟩ := g.cell i _ hc
          rw [h] at e1; cases e1
          exact mt_append pins s σ H _ _ v us Q I rx rv ⟨a, vs, w, rfl, rfl, e3, by rw [← e4.length]; exact hl, p W _ _ W.le_refl (g.put hc h ⟨_, upd_same, e4.append (.cons q .nil)⟩) .non⟩
        · exact p.elim
      · exact p.elim
  | _ => cases ds with
    | nil => exact p.elim
    | cons d ds => cases ds <;> exact p.elim
def pExtend : D → List D → PO := fun x ds S => match x, ds with
  | .ref i, [.lst ys] => (match S[i]? with
    | some (some (.lst xs)) => if xs.length + ys.length ≤ sizeLine then some (.non, S.set i (some (.lst (xs ++ ys)))) else none
    | _ => none)
  | _, _ => none
theorem mt_pExtend : MtR X "list.extend" (rDM X.K pExtend) := fun pins s σ H x xs v us Q I rx rv ⟨W, S, d, ds, g, r1, r2, p⟩ => by
  cases r1 with
  | @ref i a h =>
    match ds, r2, p with
    | [.lst ys], r2, p =>
      obtain ⟨w, rfl, q⟩ := reps1 r2
      simp only [pExtend] at p
      split at p
      · rename_i zs hc
        split at p
        · rename_i hl
          obtain ⟨a', e1, e2, _, vs, e3, e4⟩ := g.cell i _ hc
          rw [h] at e1; cases e1
          cases q with
          | @lst b us' _ q1 q2 =>
            exact mt_extend pins s σ H _ _ v us Q I rx rv ⟨a, b, vs, us', rfl, rfl, e3, g.sub _ _ q1, by rw [← e4.length, ← q2.length]; exact hl, p W _ _ W.le_refl (g.put hc h ⟨_, upd_same, e4.append q2⟩) .non⟩
        · exact p.elim
      · exact p.elim
  | _ => cases ds with
    | nil => exact p.elim
    | cons d ds => cases d <;> cases ds <;> exact p.elim
/-- o[i] = v -/
def pStore : PSt := fun o i v S => match o, i with
  | .ref n, .int k => (match S[n]? with
    | some (some (.lst xs)) => (ixN xs.length k).map fun j => S.set n (some (.lst (xs.set j v)))
    | _ => none)
  | _, _ => none
theorem set_pStore : PSet X (tDSet X.K pStore) := fun pins s σ H o i v ov iv u Q I r1 r2 r3 ⟨W, S, do_, di, dv, g, q1, q2, q3, p⟩ => by
  cases q1 with
  | @ref n a h =>
    cases q2 with
    | int k =>
      simp only [pStore] at p
      cases e : S[n]? with
      | none => rw [e] at p; exact p.elim
      | some c =>
        rw [e] at p
        match c, e, p with
        | some (.lst xs), e, p =>
          dsimp only at p
          cases e2 : ixN xs.length k with
          | none => rw [e2] at p; exact p.elim
          | some j =>
            rw [e2] at p
            obtain ⟨a', e1, _, _, vs, e3, e4⟩ := g.cell n _ e
            rw [h] at e1; cases e1
            exact set_list pins s σ H _ _ _ ov iv u Q I r1 r2 r3 ⟨a, vs, k, j, rfl, rfl, e3, by rw [← e4.length]; exact e2, p W _ W.le_refl (g.put e h ⟨_, upd_same, e4.set q3 j⟩)⟩
    | _ => exact p.elim
  | _ => cases q2 <;> exact p.elim
/-! slices -/
def oPart (m : Option ME) (δ : En) : M (Option Int) := match m with
  | none => M.pure none
  | some m => M.bind (m δ) fun d => match d with
    | .int i => M.pure (some i)
    | _ => M.bad
def tDO (K : PySem.W.Frag) (Wx : WX) (m : En → M (Option Int)) : TO := fun σ H Q => ∃ W S δ, Good K W S H ∧ REnv K W δ σ ∧ okP K (fun _ (a b : Option Int) => a = b) W (m δ S) σ Wx Q
theorem so_none : L2.PO X none (tDO X.K Wx (oPart none)) := ⟨fun pins s σ H Q I ⟨W, S, δ, g, r, p⟩ => (po_none (X := X)).run pins s σ H Q I (okP.pure (R := fun _ (a b : Option Int) => a = b) p g rfl)⟩
theorem so_some {m : ME} (h : SE X Wx e m) : L2.PO X (some e) (tDO X.K Wx (oPart (some m))) := ⟨fun pins s σ H Q I ⟨W, S, δ, g, r, p⟩ => (po_some h).run pins s σ H Q I ⟨W, S, δ, g, r, (okP.bind (R := Rep X.K) p).imp fun v H1 ⟨W1, S1, d, l1, g1, r1, p1⟩ => by
  cases r1 with
  | int i => exact ⟨i, rfl, okP.pure (R := fun _ (a b : Option Int) => a = b) p1 g1 rfl⟩
  | _ => exact p1.elim⟩⟩
def cutD (xs : List D) (lo hi : Option Int) : List D := (xs.drop (HT.sIx xs.length 0 lo)).take (HT.sIx xs.length xs.length hi - HT.sIx xs.length 0 lo)
theorem cutD_reps {K : PySem.W.Frag} {W : Wd} {xs : List D} {vs : List V} (r : Reps K W xs vs) (lo hi : Option Int) : Reps K W (cutD xs lo hi) (cutV vs lo hi) := by
  unfold cutD cutV
  rw [← r.length]
  exact (r.drop _).take _
def pCut : D → Option Int → Option Int → PO := fun x lo hi S => match x with
  | .str z => if z.length ≤ sizeLine then some (.str (cutS z lo hi), S) else none
  | .tup xs => newT (cutD xs lo hi) S
  | x => (lstOf S x).bind fun xs => newL (cutD xs lo hi) S
def rDSl (K : PySem.W.Frag) (f : D → Option Int → Option Int → PO) : V → Option Int → Option Int → Hp → VK → Prop := fun x lo hi H Q => ∃ W S d, Good K W S H ∧ Rep K W d x ∧ oV K W (f d lo hi S) Q
theorem sl_pCut : SlR X (rDSl X.K pCut) := fun pins s σ H x v vl vu lo hi sl Q I rx hs pl pu ⟨W, S, d, g, r1, p⟩ => by
  have ls : oV X.K W ((lstOf S d).bind fun xs => newL (cutD xs lo hi) S) Q → ∃ T id, typeLookup (.type T) "__getitem__" = pure (some (.builtin id)) ∧ s.TypeIs v T ∧ wpAny (model X.prog X.w) X.A (getItem v (.ref sl)) (EP X pins σ Q) X.xe s := fun p => by
    cases e : lstOf S d with
    | none => rw [e] at p; exact p.elim
    | some xs =>
      rw [e] at p
      obtain ⟨a, vs, rfl, h1, h2⟩ := lstOf_ok e g r1
      exact sl_list pins s σ H _ v vl vu lo hi sl Q I rx hs pl pu ⟨a, vs, rfl, h1, (newL_ok p g (cutD_reps h2 lo hi)).2⟩
  cases r1 with
  | str z =>
    simp only [pCut] at p
    split at p
    · exact sl_str pins s σ H _ v vl vu lo hi sl Q I rx hs pl pu ⟨z, rfl, by assumption, p.val g (.str _)⟩
    · exact p.elim
  | @tup a vs ds q r =>
    simp only [pCut] at p
    refine sl_tupA pins s σ H _ v vl vu lo hi sl Q I rx hs pl pu ⟨a, vs, rfl, g.sqT q, fun h => ?_, fun h => (newT_ok p g (cutD_reps r lo hi)).2⟩
    have ec : cutD ds lo hi = ds := by
      unfold cutD
      rw [r.length, h.1, h.2]
      simp [← r.length]
    rw [ec] at p
    unfold newT at p
    split at p
    · exact p.val g (.tup q r)
    · exact p.elim
  | _ => exact ls p
def eCut (mo : ME) (ml mh : Option ME) : ME := fun δ => M.bind (mo δ) fun x => M.bind (oPart ml δ) fun lo => M.bind (oPart mh δ) fun hi => lft (pCut x lo hi)
theorem se_cut {lo hi : Option Expr} {ml mh : Option ME} {p2 : Pos} (ho : SE X Wx o mo) (hl : L2.PO X lo (tDO X.K Wx (oPart ml))) (hh : L2.PO X hi (tDO X.K Wx (oPart mh))) : SE X Wx (.Subscript o (.Slice lo hi none p2) pos) (eCut mo ml mh) :=
  PE.imp (pe_slice sl_pCut ho hl hh) fun σ H Q ⟨W, S, δ, g, r, p⟩ => ⟨W, S, δ, g, r, (okP.bind (R := Rep X.K) p).imp fun v H1 ⟨W1, S1, x, l1, g1, r1, p1⟩ =>
    ⟨W1, S1, δ, g1, r.mono l1, (okP.bind (R := fun _ (a b : Option Int) => a = b) p1).imp fun a H2 ⟨W2, S2, a', l2, g2, ea, p2⟩ => by
      subst ea
      exact ⟨W2, S2, δ, g2, r.mono (l1.trans l2), (okP.bind (R := fun _ (a b : Option Int) => a = b) p2).imp fun b H3 ⟨W3, S3, b', l3, g3, eb, p3⟩ => by
        subst eb
        exact ⟨W3, S3, x, g3, r1.mono (l2.trans l3), p3.lft⟩⟩⟩⟩
theorem se_ix {i : Expr} {mi : ME} (ho : SE X Wx o mo) (hi : SE X Wx i mi) (hs : PlainIx i) : SE X Wx (.Subscript o i pos) (eOp pIx mo mi) := PE.imp (pe_ix ix_pIx ho hi hs) tOp_of
/-! isinstance -/
/-- a type: a built-in one, a class of the text -/
inductive Ty where
  | blt (n : String) | own (c : Str)
  deriving DecidableEq
def Ty.val (K : PySem.W.Frag) : Ty → Value
  | .blt n => .type n
  | .own c => .ref (He.ga K c)
def tyOf (S : Store) : D → Option Ty
  | .non => some (.blt "NoneType")
  | .bl _ => some (.blt "bool")
  | .int _ => some (.blt "int")
  | .str _ => some (.blt "str")
  | .tup _ => some (.blt "tuple")
  | .lst _ => some (.blt "list")
  | .ins c _ => some (.own c)
  | .ref i => (match S[i]? with
    | some (some (.lst _)) => some (.blt "list")
    | some (some (.ins c _)) => some (.own c)
    | _ => none)
  | _ => none
/-- what is known of the types -/
structure IsiOk (K : PySem.W.Frag) (isi : Ty → Ty → Option Bool) : Prop where
  kit : ∀ t c b, isi t c = some b → PySem.W.kitOne K (t.val K) (c.val K) = some b
  own : ∀ c d b, isi (.own c) d = some b → Cls K (He.ga K c) ∧ PySem.W.findIn K (.ref (He.ga K c)) "__class__" = some (some (.builtin "object.__class__")) ∧
    PySem.W.specialIn K (.builtin "object.__class__") "__get__" = some (some (.builtin "getset_descriptor.__get__")) ∧ PySem.W.takesIn K (.builtin "object.__class__") = some true ∧ PySem.W.mroIn K (He.ga K c) (.type "object") = some true
theorem tyOf_ok {K : PySem.W.Frag} {isi : Ty → Ty → Option Bool} {W : Wd} {S : Store} {H : Hp} {d : D} {v : V} {t c : Ty} {b : Bool} (k : IsiOk K isi) (e : tyOf S d = some t) (eb : isi t c = some b) (g : Good K W S H) (r : Rep K W d v) : TyX K H v (t.val K) := by
  have ins : ∀ {a dx : Addr} {c' : Str} {vfs : List (Str × V)}, H a = some (.ins (He.ga K c') dx vfs) → t = .own c' → v = .ref a → TyX K H v (t.val K) := fun {a dx c' vfs} h et ev => by
    subst et ev
    obtain ⟨h1, h2, h3, h4, h5⟩ := k.own c' c b eb
    exact .base (.ins h h1 h2 h3 h4 h5)
  cases r with
  | non => cases e; exact .base .non
  | bl x => cases e; exact .base (.bl x)
  | int x => cases e; exact .base (.int x)
  | str x => cases e; exact .base (.str x)
  | @tup a vs ds q r =>
    cases e
    rcases g.sqT q with q | ⟨o, its, n, hk, hc, _⟩
    · rcases q with q | ⟨ob, q⟩
      · exact .base (.tup q)
      · exact .fTuple q
    · exact .kTuple hk hc
  | lst q r => cases e; exact .base (.lst (g.sub _ _ q))
  | ins h1 h2 h3 => cases e; exact ins (g.sub _ _ h1) rfl rfl
  | @ref i a h =>
    simp only [tyOf] at e
    split at e
    · rename_i xs hc
      cases e
      obtain ⟨a', e1, _, _, vs, e3, e4⟩ := g.cell i _ hc
      rw [h] at e1; cases e1
      exact .base (.lst e3)
    · rename_i c' fs hc
      cases e
      obtain ⟨a', e1, _, _, dx, vfs, e3, e4, e5⟩ := g.cell i _ hc
      rw [h] at e1; cases e1
      exact ins e3 rfl rfl
    · cases e
  | _ => cases e
def eIsi (isi : Ty → Ty → Option Bool) (c : Ty) (mo : ME) : ME := fun δ => M.bind (mo δ) fun x S => match (tyOf S x).bind fun t => isi t c with
  | some b => .ok (.bl b) S
  | none => .bad
theorem se_isi {isi : Ty → Ty → Option Bool} {p p2 : Pos} {c : Ty} {ce : Expr} {cv : V} (k : IsiOk X.K isi) (ho : SE X Wx o mo) (hc : PE X ce (tC cv)) (hcv : ClsV cv (c.val X.K)) (hgl : Gl X "isinstance") (hm : X.mg "isinstance" = none)
    (h1 : starEach [o, ce] X.env = (false, eval o X.env) :: starEach [ce] X.env) (h2 : starEach [ce] X.env = (false, eval ce X.env) :: starEach [] X.env) :
    SE X Wx (.Call (.Name "isinstance" p) [o, ce] [] pos) (eIsi isi c mo) :=
  PE.imp (pe_callB call_isi hgl hm (by decide +kernel) (pa_cons ho (pa_cons hc pa_nil h2) h1) (by decide) (by decide) h1 (by rw [h2]; rfl)) fun σ H Q ⟨W, S, δ, g, r, p⟩ => ⟨W, S, δ, g, r, (okP.bind (R := Rep X.K) p).imp fun v H1 ⟨W1, S1, d, l1, g1, r1, p1⟩ => by
    cases e : tyOf S1 d with
    | none => rw [e] at p1; exact p1.elim
    | some t =>
      rw [e] at p1
      simp only [Option.bind_some] at p1
      cases e2 : isi t c with
      | none => rw [e2] at p1; exact p1.elim
      | some b =>
        rw [e2] at p1
        exact ⟨v, cv, t.val X.K, c.val X.K, b, rfl, hcv, tyOf_ok k e e2 g1 r1, k.kit t c b e2, p1 W1 H1 _ W1.le_refl g1 (.bl b)⟩⟩
end
end Ev
/-! # zip of any number of lists and tuples -/
namespace EvZ
open PySem PySem.Spec PySem.SeqAt L2 PyProof.Rows
section
variable {prog : Program} {w : World} {A : Around} {E : Value → Shared → Prop} {s : Shared}
/-- a source: is it a tuple; its iterator; the sequence; its items -/
structure Sr where
  tp : Bool
  it : Addr
  l : Addr
  xs : List Value
def ItAt (h : Heap) (k : Nat) (r : Sr) : Prop := match r.tp with
  | true => h.IsTupleIter r.it r.l k
  | false => h.IsListIter r.it r.l k
def SqAt (h : Heap) (r : Sr) : Prop := match r.tp with
  | true => h.IsTuple r.l r.xs.toArray
  | false => h.IsList r.l r.xs.toArray
theorem ItAt.at {h h' : Heap} {k : Nat} {r : Sr} (x : ItAt h k r) (e : ∀ o, h.get? r.it = some o → h'.get? r.it = some o) : ItAt h' k r := by
  obtain ⟨tp, it, l, xs⟩ := r
  cases tp with
  | true => obtain ⟨o, h1, h2⟩ := x; exact ⟨o, e o h1, h2⟩
  | false => obtain ⟨o, h1, h2⟩ := x; exact ⟨o, e o h1, h2⟩
theorem SqAt.at {h h' : Heap} {r : Sr} (x : SqAt h r) (e : ∀ o, h.get? r.l = some o → h'.get? r.l = some o) : SqAt h' r := by
  obtain ⟨tp, it, l, xs⟩ := r
  cases tp with
  | true => obtain ⟨o, h1, h2⟩ := x; exact ⟨o, e o h1, h2⟩
  | false => obtain ⟨o, h1, h2⟩ := x; exact ⟨o, e o h1, h2⟩
theorem ItAt.there {h : Heap} {k : Nat} {r : Sr} (x : ItAt h k r) : ∃ o, h.get? r.it = some o ∧ ∀ v, o.data ≠ .cell v := by
  obtain ⟨tp, it, l, xs⟩ := r
  cases tp with
  | true => obtain ⟨o, h1, h2, h3⟩ := x; exact ⟨o, h1, fun v z => by rw [h3] at z; cases z⟩
  | false => obtain ⟨o, h1, h2, h3⟩ := x; exact ⟨o, h1, fun v z => by rw [h3] at z; cases z⟩
theorem next_item {r : Sr} {k : Nat} {x : Value} {Q : Value → Shared → Prop} (hi : ItAt s.heap k r) (hs : SqAt s.heap r) (hx : r.xs[k]? = some x)
    (hQ : ∀ h', ItAt h' (k + 1) r → Heap.SameBut r.it s.heap h' → Q x { s with heap := h' }) : wpAny (model prog w) A (Builtin.SmallTypes.nextOf (.ref r.it)) Q E s := by
  obtain ⟨tp, it, l, xs⟩ := r
  cases tp with
  | true => exact wpAny_nextOf_tuple_item hi hs (by simpa using hx) hQ
  | false => exact wpAny_nextOf_list_item hi hs (by simpa using hx) hQ
theorem next_end {r : Sr} {k : Nat} {Q : Value → Shared → Prop} (hh : A.handled = none) (hi : ItAt s.heap k r) (hs : SqAt s.heap r) (hx : r.xs[k]? = none)
    (hE : ∀ h' e, Heap.ExtBut r.it s.heap h' → (∃ o, h'.get? e = some o ∧ o.cls = .type "StopIteration") → E (.ref e) { s with heap := h' }) : wpAny (model prog w) A (Builtin.SmallTypes.nextOf (.ref r.it)) Q E s := by
  obtain ⟨tp, it, l, xs⟩ := r
  cases tp with
  | true => exact wpAny_nextOf_tuple_end hh hi hs (by simpa using hx) hE
  | false => exact wpAny_nextOf_list_end hh hi hs (by simpa using hx) hE
abbrev Zp (h : Heap) (z TI TO : Addr) (f0 f1 : Value) : Prop := h.get? z = some { cls := .type "zip", dict := none, data := .fields #[f0, f1, .bool false, .ref TI, .ref TO], slots := #[] }
abbrev Tp (h : Heap) (T : Addr) (xs : List Value) : Prop := h.get? T = some { cls := .type "tuple", data := .seq xs.toArray }
/-- nothing stands in the way of another -/
structure Apart (z TI TO : Addr) (rs : List Sr) : Prop where
  TIz : TI ≠ z
  TOz : TO ≠ z
  TT : TI ≠ TO
  iz : ∀ r ∈ rs, r.it ≠ z ∧ r.it ≠ TI ∧ r.it ≠ TO
  lz : ∀ r ∈ rs, r.l ≠ z ∧ r.l ≠ TO ∧ ∀ q ∈ rs, r.l ≠ q.it
  nd : (rs.map (·.it)).Nodup
theorem Apart.inj {z TI TO : Addr} {rs : List Sr} (D : Apart z TI TO rs) {i j : Nat} {r q : Sr} (hi : rs[i]? = some r) (hj : rs[j]? = some q) (e : r.it = q.it) : i = j := by
  have h1 : (rs.map (·.it))[i]? = some r.it := by simp [hi]
  have h2 : (rs.map (·.it))[j]? = some q.it := by simp [hj]
  obtain ⟨a1, b1⟩ := List.getElem?_eq_some_iff.mp h1
  obtain ⟨a2, b2⟩ := List.getElem?_eq_some_iff.mp h2
  exact (List.getElem_inj D.nd).mp (b1.trans (e.trans b2.symm))
/-- the items of turn k -/
def row (rs : List Sr) (k : Nat) : List Value := rs.map fun r => r.xs.getD k .none
theorem free_none {z TI TO : Addr} {f0 f1 : Value} {Q : Bool → Shared → Prop} (hz : Zp s.heap z TI TO f0 f1) (h0 : f0 = .none ∨ ∃ T : Addr, f0 = rawInt T) (hf : f1 = .bool true ∨ f1 = .bool false)
    (hq : Q true s) (hq2 : ∀ h', Zp h' z TI TO f0 (.bool true) → Heap.SameBut z s.heap h' → Q false { s with heap := h' }) : wpAny (model prog w) A (Builtin.SmallTypes.ownedTupleIsFree (.ref z)) Q E s := by
  unfold Builtin.SmallTypes.ownedTupleIsFree
  refine wpAny_bind (wpAny_field hz rfl (x := f0) rfl ?_)
  rcases h0 with rfl | ⟨T, rfl⟩
  · exact wpAny_pure hq
  · show wpAny _ _ (loadIfAlive ((T : Int).toNat) >>= _) _ _ _
    rw [Int.toNat_natCast]
    refine wpAny_bind (show wpAny _ _ (loadIfAlive T) _ _ _ from fun _ _ _ => ?_)
    show wpAny _ _ (if (s.heap.get? T).isNone = true then _ else _) _ _ _
    cases e : s.heap.get? T with
    | none =>
      simp only [Option.isNone_none, if_true]
      exact wpAny_pure hq
    | some o =>
      simp only [Option.isNone_some, Bool.false_eq_true, if_false]
      refine wpAny_bind (wpAny_field hz rfl (x := f1) rfl ?_)
      rcases hf with rfl | rfl
      · rw [if_neg (show ¬ ((Value.bool true != Value.bool true) = true) from Bool.false_ne_true)]
        exact wpAny_pure (hq2 s.heap hz (Heap.SameBut.refl _ _))
      · rw [if_pos (show (Value.bool false != Value.bool true) = true from rfl)]
        exact wpAny_bind (wpAny_setField_rec hz (by simp) fun h₁ hz₁ hs₁ => wpAny_pure (hq2 h₁ hz₁ hs₁))
/-- what stands between two draws of one turn -/
structure Mid (h0 h : Heap) (z TI TO : Addr) (rs pre post : List Sr) (k : Nat) (f0 f1 : Value) : Prop where
  zp : Zp h z TI TO f0 f1
  pr : ∀ r ∈ pre, ItAt h (k + 1) r
  po : ∀ r ∈ post, ItAt h k r
  sz : h.objs.size = h0.objs.size
  fr : ∀ c o, c ≠ z → c ≠ TO → (∀ r ∈ rs, c ≠ r.it) → h0.get? c = some o → h.get? c = some o
theorem Mid.sq {h0 h : Heap} {z TI TO : Addr} {rs pre post : List Sr} {k : Nat} {f0 f1 : Value} (M : Mid h0 h z TI TO rs pre post k f0 f1) (D : Apart z TI TO rs) {r : Sr} (hr : r ∈ rs) (hs : SqAt h0 r) : SqAt h r :=
  hs.at fun o e => M.fr _ _ (D.lz r hr).1 (D.lz r hr).2.1 (D.lz r hr).2.2 e
theorem Mid.step {h0 h h' : Heap} {z TI TO : Addr} {rs pre post : List Sr} {r : Sr} {k : Nat} {f0 f1 : Value} (M : Mid h0 h z TI TO rs pre (r :: post) k f0 f1) (D : Apart z TI TO rs) (er : rs = pre ++ r :: post)
    (hi : ItAt h' (k + 1) r) (sb : Heap.SameBut r.it h h') : Mid h0 h' z TI TO rs (pre ++ [r]) post k f0 f1 := by
  have hr : r ∈ rs := by rw [er]; simp
  have nd := D.nd
  rw [er] at nd
  simp only [List.map_append, List.map_cons, List.nodup_append, List.nodup_cons, List.mem_map, List.mem_cons] at nd
  refine ⟨sb.extBut _ _ (D.iz r hr).1.symm M.zp, fun q hq => ?_, fun q hq => ?_, sb.1.trans M.sz, fun c o c1 c2 c3 e => sb.extBut _ _ (c3 r hr) (M.fr c o c1 c2 c3 e)⟩
  · rcases List.mem_append.mp hq with hq | hq
    · exact (M.pr q hq).at fun o e => sb.extBut _ _ (fun z => nd.2.2 q.it ⟨q, hq, rfl⟩ r.it (.inl rfl) z) e
    · obtain rfl := List.mem_singleton.mp hq
      exact hi
  · exact (M.po q (List.mem_cons_of_mem _ hq)).at fun o e => sb.extBut _ _ (fun z => nd.2.1.1 ⟨q, hq, z⟩) e
theorem Mid.put {h0 h h' : Heap} {z TI TO : Addr} {rs pre post : List Sr} {k : Nat} {f0 f1 : Value} (M : Mid h0 h z TI TO rs pre post k f0 f1) (D : Apart z TI TO rs) (er : rs = pre ++ post) (sb : Heap.SameBut TO h h') : Mid h0 h' z TI TO rs pre post k f0 f1 := by
  refine ⟨sb.extBut _ _ D.TOz.symm M.zp, fun q hq => (M.pr q hq).at fun o e => sb.extBut _ _ (D.iz q (by rw [er]; simp [hq])).2.2 e, fun q hq => (M.po q hq).at fun o e => sb.extBut _ _ (D.iz q (by rw [er]; simp [hq])).2.2 e, sb.1.trans M.sz,
    fun c o c1 c2 c3 e => sb.extBut _ _ c2 (M.fr c o c1 c2 c3 e)⟩
theorem Mid.ref {h0 : Heap} {z TI TO : Addr} {rs : List Sr} {k : Nat} {f0 f1 g0 g1 : Value} {h : Heap} (D : Apart z TI TO rs) (hz : Zp h z TI TO g0 g1) (sb : Heap.SameBut z h0 h) (hi : ∀ r ∈ rs, ItAt h0 k r) : Mid h0 h z TI TO rs [] rs k g0 g1 :=
  ⟨hz, (fun _ q => nomatch q), fun r hr => (hi r hr).at fun o e => sb.extBut _ _ (D.iz r hr).1 e, sb.1, fun c o c1 _ _ e => sb.extBut _ _ c1 e⟩
theorem upd_tup {T : Addr} {arr : List Value} {x : Value} {k : Nat} {Q : Unit → Shared → Prop} (hn : arr.length ≤ sizeLine) (hT : Tp s.heap T arr)
    (h : ∀ h', Tp h' T (arr.set k x) → Heap.SameBut T s.heap h' → Q () { s with heap := h' }) :
    wpAny (model prog w) A (updateSeq T (·.setIfInBounds k x)) Q E s := by
  refine wpAny_updateSeq (hz := by simpa using hn) (_hz' := by simpa using Nat.le_succ_of_le hn) hT rfl (h _ ?_ (Heap.SameBut.update ..))
  show Heap.get? _ _ = _
  rw [Heap.get?_update_self _ hT rfl]
  simp [Obj.mapSeq]
theorem zip_item {z TI TO : Addr} {rs : List Sr} {f0 f1 : Value} {arr : List Value} {k : Nat} {Q : Value → Shared → Prop} (D : Apart z TI TO rs) (hn : rs.length ≤ sizeLine) (hne : rs ≠ []) (hz : Zp s.heap z TI TO f0 f1) (h0 : f0 = .none ∨ ∃ T : Addr, f0 = rawInt T) (hf : f1 = .bool true ∨ f1 = .bool false)
    (hTI : Tp s.heap TI (rs.map fun r => .ref r.it)) (hTO : Tp s.heap TO arr) (ha : arr.length = rs.length) (hi : ∀ r ∈ rs, ItAt s.heap k r) (hs : ∀ r ∈ rs, SqAt s.heap r) (hk : ∀ r ∈ rs, k < r.xs.length)
    (hQ : ∀ h' g0 g1 arr', Zp h' z TI TO g0 g1 → (g0 = .none ∨ ∃ T : Addr, g0 = rawInt T) → (g1 = .bool true ∨ g1 = .bool false) → Tp h' TO arr' → arr'.length = rs.length → (∀ r ∈ rs, ItAt h' (k + 1) r) → Tp h' s.heap.objs.size (row rs k) → h'.objs.size = s.heap.objs.size + 1 →
      (∀ c o, c ≠ z → c ≠ TO → (∀ r ∈ rs, c ≠ r.it) → s.heap.get? c = some o → h'.get? c = some o) → Q (.ref s.heap.objs.size) { s with heap := h' }) :
    wpAny (model prog w) A (Builtin.«zip.__next__» ⟨[.ref z], []⟩) (fun fin s' => ∃ v, fin = .done (.ret v) ∧ Q v s') E s := by
  show wpAny _ _ (field (.ref z) 2 >>= _) _ _ _
  refine wpAny_bind (wpAny_field hz rfl (x := .bool false) rfl ?_)
  show wpAny _ _ (field (.ref z) 3 >>= _) _ _ _
  refine wpAny_bind (wpAny_field hz rfl (x := .ref TI) rfl ?_)
  refine wpAny_bind (wpAny_seqItems hTI rfl ?_)
  have hemp : (rs.map fun r => Value.ref r.it).toArray.isEmpty = false := by
    cases rs with
    | nil => exact absurd rfl hne
    | cons _ _ => simp
  have gk : ∀ r ∈ rs, r.xs[k]? = some (r.xs.getD k .none) := fun r hr => by
    rw [List.getD_eq_getElem?_getD, List.getElem?_eq_getElem (hk r hr)]; rfl
  simp only [hemp, Bool.false_eq_true, if_false, pure_bind]
  refine wpAny_bind (free_none hz h0 hf ?_ fun h₁ hz₁ hs₁ => ?_)
  · simp only [if_true]
    refine wpAny_bind (wpAny_rule ?_)
    refine wpAny_bind (wpAny_field hz rfl (x := .ref TO) rfl ?_)
    refine wpAny_bind (wpAny_setField_rec hz (by simp) fun h₁ hz₁ hs₁ => ?_)
    replace hz₁ : Zp h₁ z TI TO .ellipsis f1 := hz₁
    refine wpAny_bind ?_
    refine wpAny_forIn_list _ (fun rest b s' => ∃ pre post h arr', rs = pre ++ post ∧ rest = (post.map fun r => Value.ref r.it).zipIdx pre.length ∧ b = (none, ()) ∧ s' = { s with heap := h } ∧ Mid s.heap h z TI TO rs pre post k .ellipsis f1 ∧ Tp h TO (row pre k ++ arr') ∧ arr'.length = post.length) _ ?_ ?_ _ _
      ⟨[], rs, h₁, arr, rfl, rfl, rfl, rfl, .ref (h0 := s.heap) (f0 := f0) (f1 := f1) D hz₁ hs₁ hi, hs₁.extBut _ _ D.TOz hTO, ha⟩
    · rintro ⟨x, j⟩ rest b s' ⟨pre, post, h, arr', er, hrest, rfl, rfl, M, hT, hl⟩
      cases post with
      | nil => simp at hrest
      | cons r post =>
        have hr : r ∈ rs := by rw [er]; simp
        simp only [List.map_cons, List.zipIdx_cons, List.cons.injEq, Prod.mk.injEq] at hrest
        obtain ⟨⟨rfl, rfl⟩, rfl⟩ := hrest
        cases arr' with
        | nil => simp at hl
        | cons a0 arr' =>
          refine wpAny_bind (wpAny_onRaise ?_)
          show wpAny _ _ (Builtin.SmallTypes.nextOf (.ref r.it) >>= _) _ _ _
          refine wpAny_bind (next_item (s := { s with heap := h }) (M.po r (List.mem_cons_self ..)) (M.sq D hr (hs r hr)) (gk r hr) fun h₂ hi₂ sb₂ => wpAny_pure ?_)
          have M2 := M.step D er hi₂ sb₂
          have hT2 : Tp h₂ TO (row pre k ++ a0 :: arr') := sb₂.extBut _ _ (D.iz r hr).2.2.symm hT
          refine wpAny_bind (wpAny_seqItems (s := { s with heap := h₂ }) hT2 rfl ?_)
          refine wpAny_bind (upd_tup (s := { s with heap := h₂ }) (by rw [er] at hn; simp [row] at hn hl ⊢; omega) hT2 fun h₃ hT₃ sb₃ => ?_)
          refine wpAny_bind (wpAny_letGo (wpAny_pure ?_))
          have er' : rs = (pre ++ [r]) ++ post := by rw [er]; simp
          refine ⟨pre ++ [r], post, h₃, arr', er', by simp, rfl, rfl, M2.put D er' sb₃, ?_, by simpa using hl⟩
          have e : (row pre k ++ a0 :: arr').set pre.length (r.xs.getD k .none) = row (pre ++ [r]) k ++ arr' := by
            rw [List.set_append_right _ _ (by simp [row])]
            simp [row]
          rw [e] at hT₃
          exact hT₃
    · rintro b s' ⟨pre, post, h, arr', er, hrest, rfl, rfl, M, hT, hl⟩
      cases post with
      | cons r post => simp at hrest
      | nil =>
        cases arr' with
        | cons _ _ => simp at hl
        | nil =>
          have er' : pre = rs := by rw [er]; simp
          subst er'
          simp only [List.append_nil] at hT
          refine wpAny_bind (wpAny_seqItems (s := { s with heap := h }) hT rfl ?_)
          refine wpAny_bind (wpAny_newTuple (hsz := by simpa [row] using hn) ?_)
          refine wpAny_bind ?_
          show wpAny _ _ (Builtin.SmallTypes.ownedTupleHandOut (.ref z) (.ref h.objs.size)) _ _ _
          unfold Builtin.SmallTypes.ownedTupleHandOut
          have hzlt : z < h.objs.size := Heap.lt_size M.zp
          have up0 : ∀ c o, h.get? c = some o → (h.push { cls := .type "tuple", data := .seq (row pre k).toArray }).get? c = some o := fun c o e => Heap.get?_push_of_some _ e
          refine wpAny_bind (wpAny_setField_rec (up0 _ _ M.zp) (by simp) fun h₇ hz₇ hs₇ => ?_)
          replace hz₇ : Zp h₇ z TI TO (rawInt h.objs.size) f1 := hz₇
          refine wpAny_setField_rec hz₇ (by simp) fun h₈ hz₈ hs₈ => ?_
          replace hz₈ : Zp h₈ z TI TO (rawInt h.objs.size) (.bool false) := hz₈
          replace hs₇ : Heap.SameBut z (h.push { cls := .type "tuple", data := .seq (row pre k).toArray }) h₇ := hs₇
          replace hs₈ : Heap.SameBut z h₇ h₈ := hs₈
          have up : ∀ c o, c ≠ z → h.get? c = some o → h₈.get? c = some o := fun c o c1 e => hs₈.extBut _ _ c1 (hs₇.extBut _ _ c1 (up0 _ _ e))
          have hT₈ : Tp h₈ h.objs.size (row pre k) := hs₈.extBut _ _ (Nat.ne_of_gt hzlt) (hs₇.extBut _ _ (Nat.ne_of_gt hzlt) (Heap.get?_push_size _ rfl))
          have hz8 : h₈.objs.size = h.objs.size + 1 := by rw [hs₈.1, hs₇.1, Heap.size_push]
          refine wpAny_pure ⟨_, rfl, ?_⟩
          show Q (.ref h.objs.size) { s with heap := h₈ }
          rw [M.sz] at hT₈ hz8 ⊢
          exact hQ h₈ _ _ _ hz₈ (.inr ⟨_, rfl⟩) (.inr rfl) (up _ _ D.TOz hT) (by simp [row]) (fun r hr => (M.pr r hr).at fun o e => up _ _ (D.iz r hr).1 e) hT₈ hz8 fun c o c1 c2 c3 e => up _ _ c1 (M.fr c o c1 c2 c3 e)
  · simp only [Bool.false_eq_true, if_false]
    refine wpAny_bind ?_
    rw [← Array.forIn_toList]
    refine wpAny_forIn_list _ (fun rest b s' => ∃ pre post h, rs = pre ++ post ∧ rest = (post.map fun r => Value.ref r.it) ∧ b = (none, (row pre k).toArray) ∧ s' = { s with heap := h } ∧ Mid s.heap h z TI TO rs pre post k f0 (.bool true) ∧ Tp h TO arr) _ ?_ ?_ _ _
      ⟨[], rs, h₁, rfl, by simp, rfl, rfl, .ref (h0 := s.heap) (f0 := f0) (f1 := f1) D hz₁ hs₁ hi, hs₁.extBut _ _ D.TOz hTO⟩
    · rintro x rest b s' ⟨pre, post, h, er, hrest, rfl, rfl, M, hT⟩
      cases post with
      | nil => simp at hrest
      | cons r post =>
        have hr : r ∈ rs := by rw [er]; simp
        simp only [List.map_cons, List.cons.injEq] at hrest
        obtain ⟨rfl, rfl⟩ := hrest
        refine wpAny_bind (wpAny_holding ?_)
        show wpAny _ _ (Builtin.SmallTypes.nextOf (.ref r.it) >>= _) _ _ _
        refine wpAny_bind (next_item (s := { s with heap := h }) (M.po r (List.mem_cons_self ..)) (M.sq D hr (hs r hr)) (gk r hr) fun h₂ hi₂ sb₂ => wpAny_pure (wpAny_pure ?_))
        have er' : rs = (pre ++ [r]) ++ post := by rw [er]; simp
        exact ⟨pre ++ [r], post, h₂, er', rfl, by simp [row], rfl, M.step D er hi₂ sb₂, sb₂.extBut _ _ (D.iz r hr).2.2.symm hT⟩
    · rintro b s' ⟨pre, post, h, er, hrest, rfl, rfl, M, hT⟩
      cases post with
      | cons r post => simp at hrest
      | nil =>
        have er' : pre = rs := by rw [er]; simp
        subst er'
        show wpAny _ _ (newTuple (row pre k) >>= _) _ _ _
        refine wpAny_bind (wpAny_newTuple (hsz := by simpa [row] using hn) (wpAny_pure ⟨_, rfl, ?_⟩))
        have up : ∀ c o, h.get? c = some o → (h.push { cls := .type "tuple", data := .seq (row pre k).toArray }).get? c = some o := fun c o e => Heap.get?_push_of_some _ e
        have hT₈ : Tp (h.push { cls := .type "tuple", data := .seq (row pre k).toArray }) h.objs.size (row pre k) := Heap.get?_push_size _ rfl
        have hz8 : (h.push { cls := .type "tuple", data := .seq (row pre k).toArray }).objs.size = h.objs.size + 1 := Heap.size_push ..
        show Q (.ref h.objs.size) { s with heap := h.push { cls := .type "tuple", data := .seq (row pre k).toArray } }
        rw [M.sz] at hT₈ hz8 ⊢
        exact hQ _ _ _ _ (up _ _ M.zp) h0 (.inl rfl) (up _ _ hT) ha (fun r hr => (M.pr r hr).at fun o e => up _ _ e) hT₈ hz8 fun c o c1 c2 c3 e => up _ _ (M.fr c o c1 c2 c3 e)
end
end EvZ
/-! # zip: the call, the turns -/
namespace EvZ
open PySem PySem.Spec PySem.SeqAt L2 PyProof.Rows
theorem typeCall_zip (args : List Value) : checkTypeCall "zip" ⟨args, []⟩ = pure () := by kernel_rfl
theorem newCall_zip : ∀ (args : List Value), args.length ≤ 9 → checkBuiltinCall "zip.__new__" ⟨.type "zip" :: args, []⟩ = pure ()
  | [], _ => by kernel_rfl
  | [_], _ => by kernel_rfl
  | [_, _], _ => by kernel_rfl
  | [_, _, _], _ => by kernel_rfl
  | [_, _, _, _], _ => by kernel_rfl
  | [_, _, _, _, _], _ => by kernel_rfl
  | [_, _, _, _, _, _], _ => by kernel_rfl
  | [_, _, _, _, _, _, _], _ => by kernel_rfl
  | [_, _, _, _, _, _, _, _], _ => by kernel_rfl
  | [_, _, _, _, _, _, _, _, _], _ => by kernel_rfl
  | _ :: _ :: _ :: _ :: _ :: _ :: _ :: _ :: _ :: _ :: _, h => by simp at h
theorem init_zip (obj : Value) (args : List Value) : argsOk "object.__init__" ⟨obj :: args, []⟩ := by
  unfold argsOk; kernel_rfl
section
variable {prog : Program} {w : World} {A : Around} {E : Value → Shared → Prop} {s : Shared}
/-- new iterators over the sources -/
theorem iterAll_zip {rs0 : List Sr} {Q : List Value → Shared → Prop} (hs : ∀ r ∈ rs0, SqAt s.heap r)
    (hQ : ∀ (h' : Heap) (rs : List Sr), rs.map (fun r => (r.tp, r.l, r.xs)) = rs0.map (fun r => (r.tp, r.l, r.xs)) → (∀ r ∈ rs, ItAt h' 0 r) → rs.map (·.it) = List.range' s.heap.objs.size rs0.length → h'.objs.size = s.heap.objs.size + rs0.length → (∀ c o, s.heap.get? c = some o → h'.get? c = some o) →
      Q (rs.map fun r => .ref r.it) { s with heap := h' }) :
    wpAny (model prog w) A (Builtin.SmallTypes.iterAll (rs0.map fun r => .ref r.l)) Q E s := by
  unfold Builtin.SmallTypes.iterAll
  refine wpAny_bind ?_
  refine wpAny_forIn_list _ (fun rest b s' => ∃ (pre : List Sr) (pre0 post : List Sr) (h : Heap), rs0 = pre0 ++ post ∧ pre.map (fun r => (r.tp, r.l, r.xs)) = pre0.map (fun r => (r.tp, r.l, r.xs)) ∧ rest = (post.map fun r => Value.ref r.l) ∧ b = (pre.map fun r => Value.ref r.it).toArray ∧ s' = { s with heap := h } ∧ (∀ r ∈ pre, ItAt h 0 r) ∧
    pre.map (·.it) = List.range' s.heap.objs.size pre0.length ∧ h.objs.size = s.heap.objs.size + pre0.length ∧ ∀ c o, s.heap.get? c = some o → h.get? c = some o) _ ?_ ?_ _ _
    ⟨[], [], rs0, s.heap, rfl, rfl, rfl, rfl, rfl, (fun _ q => nomatch q), rfl, rfl, fun _ _ e => e⟩
  · rintro x rest b s' ⟨pre, pre0, post, h, er, em, hrest, rfl, rfl, hi, hr, hz, hk⟩
    cases post with
    | nil => simp at hrest
    | cons r post =>
      simp only [List.map_cons, List.cons.injEq] at hrest
      obtain ⟨rfl, rfl⟩ := hrest
      have hsq : SqAt h r := (hs r (by rw [er]; simp)).at fun o e => hk _ _ e
      refine wpAny_bind (wpAny_holding ?_)
      have key : ∀ o, (∀ hn : Heap, hn.get? h.objs.size = some o → ItAt hn 0 { r with it := h.objs.size }) → o.isFreed = false → wpAny (model prog w) A (pure (ForInStep.yield ((pre.map fun r => Value.ref r.it).toArray.push (Value.ref h.objs.size)))) (fun r s' => match r with
          | .yield b' => ∃ (pre : List Sr) (pre0 post_1 : List Sr) (h : Heap), rs0 = pre0 ++ post_1 ∧ pre.map (fun r => (r.tp, r.l, r.xs)) = pre0.map (fun r => (r.tp, r.l, r.xs)) ∧ (post.map fun r => Value.ref r.l) = (post_1.map fun r => Value.ref r.l) ∧ b' = (pre.map fun r => Value.ref r.it).toArray ∧ s' = { s with heap := h } ∧ (∀ r ∈ pre, ItAt h 0 r) ∧
            pre.map (·.it) = List.range' s.heap.objs.size pre0.length ∧ h.objs.size = s.heap.objs.size + pre0.length ∧ ∀ c o, s.heap.get? c = some o → h.get? c = some o
          | .done b' => wpAny (model prog w) A (pure b'.toList) Q E s') E { s with heap := h.push o } := fun o h1 h2 => by
        refine wpAny_pure ⟨pre ++ [{ r with it := h.objs.size }], pre0 ++ [r], post, h.push o, by rw [er]; simp, by simp [em], rfl, by simp, rfl, fun q hq => ?_, ?_, by rw [Heap.size_push, hz]; simp; omega, fun c o e => Heap.get?_push_of_some _ (hk c o e)⟩
        · rcases List.mem_append.mp hq with hq | hq
          · exact (hi q hq).at fun o e => Heap.get?_push_of_some _ e
          · obtain rfl := List.mem_singleton.mp hq
            exact h1 _ (Heap.get?_push_size _ h2)
        · simp [hr, List.range'_concat, hz]
      obtain ⟨tp, it, l, xs⟩ := r
      cases tp with
      | true => exact wpAny_pyIter_tuple (s := { s with heap := h }) hsq (key _ (fun hn e => ⟨_, e, rfl, rfl⟩) rfl)
      | false => exact wpAny_pyIter_list (s := { s with heap := h }) hsq (key _ (fun hn e => ⟨_, e, rfl, rfl⟩) rfl)
  · rintro b s' ⟨pre, pre0, post, h, er, em, hrest, rfl, rfl, hi, hr, hz, hk⟩
    cases post with
    | cons r post => simp at hrest
    | nil =>
      have er' : pre0 = rs0 := by rw [er]; simp
      subst er'
      exact wpAny_pure (hQ h pre em hi hr hz hk)
def ZipMade (rs0 : List Sr) (s : Shared) (Q : Value → Shared → Prop) : Prop :=
  ∀ (h' : Heap) (rs : List Sr), rs.map (fun r => (r.tp, r.l, r.xs)) = rs0.map (fun r => (r.tp, r.l, r.xs)) → (∀ r ∈ rs, ItAt h' 0 r) → rs.map (·.it) = List.range' s.heap.objs.size rs0.length → h'.objs.size = s.heap.objs.size + rs0.length + 3 → (∀ c o, s.heap.get? c = some o → h'.get? c = some o) →
      Zp h' (s.heap.objs.size + rs0.length + 2) (s.heap.objs.size + rs0.length) (s.heap.objs.size + rs0.length + 1) .none (.bool false) → Tp h' (s.heap.objs.size + rs0.length) (rs.map fun r => .ref r.it) → Tp h' (s.heap.objs.size + rs0.length + 1) (rs.map fun _ => .none) →
      Q (.ref (s.heap.objs.size + rs0.length + 2)) { s with heap := h' }
theorem meets_zip (rs0 : List Sr) (hn : rs0.length ≤ 9) : Meets (Builtin.«zip.__new__» ⟨.type "zip" :: (rs0.map fun r => .ref r.l), []⟩) (fun _ R s => (∀ r ∈ rs0, SqAt s.heap r) ∧ ZipMade rs0 s fun v s' => R (.ok (.ret v)) s') :=
  .of_wp fun prog w A R s ⟨hs, h⟩ => by
    unfold Builtin.«zip.__new__»
    refine wpAny_bind (m := Builtin.SmallTypes.newClass "zip" _) ?_
    unfold Builtin.SmallTypes.newClass
    show wpAny _ _ (isType (.type "zip") >>= _) _ _ _
    refine wpAny_bind (wpAny_pure ?_)
    simp only [Bool.not_true, Bool.false_eq_true, if_false, pure_bind]
    rw [sub_zip]
    simp only [pure_bind, Bool.not_true, Bool.false_eq_true, if_false]
    refine wpAny_pure ?_
    simp only [List.length_nil, gt_iff_lt, Nat.not_lt_zero, if_false, pure_bind]
    refine wpAny_bind (iterAll_zip hs fun h1 rs e1 e2 e3 e4 e5 => ?_)
    have el : rs.length = rs0.length := by simpa using congrArg List.length e1
    have en : rs.length ≤ sizeLine := by rw [el]; exact Nat.le_trans hn (by decide)
    refine wpAny_bind (wpAny_newTuple (hsz := by simpa using en) ?_)
    refine wpAny_bind (wpAny_newTuple (hsz := by simpa using en) ?_)
    generalize eh2 : h1.push { cls := Value.type "tuple", data := Data.seq (List.map (fun r => Value.ref r.it) rs).toArray } = h2
    generalize eh3 : h2.push { cls := Value.type "tuple", data := Data.seq (List.map (fun x => Value.none) (List.map (fun r => Value.ref r.it) rs)).toArray } = h3
    refine wpAny_bind ?_
    show wpAny _ _ (newObj (.type "zip") (.fields #[.none, .bool false, .bool false, .ref h1.objs.size, .ref h2.objs.size])) _ _ { s with heap := h3 }
    refine wpAny_newObj_type (wpAny_pure ⟨_, rfl, ?_⟩) (by size_fits)
    have z2 : h2.objs.size = h1.objs.size + 1 := by rw [← eh2]; exact Heap.size_push ..
    have z3 : h3.objs.size = h2.objs.size + 1 := by rw [← eh3]; exact Heap.size_push ..
    show R (.ok (.ret (.ref h3.objs.size))) { s with heap := h3.push { cls := .type "zip", dict := none, data := .fields #[.none, .bool false, .bool false, .ref h1.objs.size, .ref h2.objs.size], slots := #[] } }
    have g3 : ∀ c o, h1.get? c = some o → (h3.push { cls := .type "zip", dict := none, data := .fields #[.none, .bool false, .bool false, .ref h1.objs.size, .ref h2.objs.size], slots := #[] }).get? c = some o := fun c o e => by
      refine Heap.get?_push_of_some _ ?_
      rw [← eh3]; refine Heap.get?_push_of_some _ ?_
      rw [← eh2]; exact Heap.get?_push_of_some _ e
    have a1 : Tp (h3.push { cls := .type "zip", dict := none, data := .fields #[.none, .bool false, .bool false, .ref h1.objs.size, .ref h2.objs.size], slots := #[] }) h1.objs.size (rs.map fun r => .ref r.it) := by
      refine Heap.get?_push_of_some _ ?_
      rw [← eh3]; refine Heap.get?_push_of_some _ ?_
      rw [← eh2]; exact Heap.get?_push_size _ rfl
    have a2 : Tp (h3.push { cls := .type "zip", dict := none, data := .fields #[.none, .bool false, .bool false, .ref h1.objs.size, .ref h2.objs.size], slots := #[] }) h2.objs.size (rs.map fun _ => .none) := by
      refine Heap.get?_push_of_some _ ?_
      rw [← eh3]
      have := Heap.get?_push_size h2 (o := { cls := Value.type "tuple", data := Data.seq (List.map (fun x => Value.none) (List.map (fun r => Value.ref r.it) rs)).toArray }) rfl
      rw [List.map_map] at this ⊢
      exact this
    have a3 : Zp (h3.push { cls := .type "zip", dict := none, data := .fields #[.none, .bool false, .bool false, .ref h1.objs.size, .ref h2.objs.size], slots := #[] }) h3.objs.size h1.objs.size h2.objs.size .none (.bool false) := Heap.get?_push_size _ rfl
    have zz : (h3.push { cls := .type "zip", dict := none, data := .fields #[.none, .bool false, .bool false, .ref h1.objs.size, .ref h2.objs.size], slots := #[] }).objs.size = h3.objs.size + 1 := Heap.size_push ..
    generalize (h3.push { cls := .type "zip", dict := none, data := .fields #[.none, .bool false, .bool false, .ref h1.objs.size, .ref h2.objs.size], slots := #[] }) = h4 at *
    rw [z3, z2, e4] at a3 zz ⊢
    rw [z2, e4] at a2
    rw [e4] at a1
    exact h h4 rs e1 (fun r hr => (e2 r hr).at fun o e => g3 _ _ e) e3 zz (fun c o e => g3 _ _ (e5 c o e)) a3 a1 a2
theorem call_zip {rs0 : List Sr} {Q : Value → Shared → Prop} (hn : rs0.length ≤ 9) (hs : ∀ r ∈ rs0, SqAt s.heap r) (hQ : ZipMade rs0 s Q) :
    wpAny (model prog w) A (call (.type "zip") (rs0.map fun r => .ref r.l)) Q E s :=
  callType_new F.called_zip (by decide) (typeCall_zip _) (newCall_zip _ (by simpa using hn)) (fun obj => init_zip obj _) F.entry_zip_new (meets_zip rs0 hn)
    ⟨hs, fun h' rs e1 e2 e3 e4 e5 e6 e7 e8 => ⟨⟨_, e6, rfl⟩, hQ h' rs e1 e2 e3 e4 e5 e6 e7 e8⟩⟩
theorem zip_end {z TI TO : Addr} {r : Sr} {rs : List Sr} {f0 f1 : Value} {k : Nat} {Q : Fin → Shared → Prop} (hh : A.handled = none) (D : Apart z TI TO (r :: rs)) (hz : Zp s.heap z TI TO f0 f1) (h0 : f0 = .none ∨ ∃ T : Addr, f0 = rawInt T) (hf : f1 = .bool true ∨ f1 = .bool false)
    (hTI : Tp s.heap TI ((r :: rs).map fun r => .ref r.it)) (hi : ItAt s.heap k r) (hs : SqAt s.heap r) (hk : r.xs.length ≤ k)
    (hE : ∀ h' e, (∀ c o, c ≠ z → c ≠ r.it → s.heap.get? c = some o → h'.get? c = some o) → (∃ o, h'.get? e = some o ∧ o.cls = .type "StopIteration") → E (.ref e) { s with heap := h' }) :
    wpAny (model prog w) A (Builtin.«zip.__next__» ⟨[.ref z], []⟩) Q E s := by
  have hr := D.iz r (List.mem_cons_self ..)
  have hl := D.lz r (List.mem_cons_self ..)
  have gk : r.xs[k]? = none := List.getElem?_eq_none hk
  show wpAny _ _ (field (.ref z) 2 >>= _) _ _ _
  refine wpAny_bind (wpAny_field hz rfl (x := .bool false) rfl ?_)
  show wpAny _ _ (field (.ref z) 3 >>= _) _ _ _
  refine wpAny_bind (wpAny_field hz rfl (x := .ref TI) rfl ?_)
  refine wpAny_bind (wpAny_seqItems hTI rfl ?_)
  have hemp : ((r :: rs).map fun r => Value.ref r.it).toArray.isEmpty = false := by simp
  simp only [hemp, Bool.false_eq_true, if_false, pure_bind]
  refine wpAny_bind (free_none hz h0 hf ?_ fun h₁ hz₁ hs₁ => ?_)
  · simp only [if_true]
    refine wpAny_bind (wpAny_rule ?_)
    refine wpAny_bind (wpAny_field hz rfl (x := .ref TO) rfl ?_)
    refine wpAny_bind (wpAny_setField_rec hz (by simp) fun h₁ hz₁ hs₁ => ?_)
    replace hz₁ : Zp h₁ z TI TO .ellipsis f1 := hz₁
    refine wpAny_bind ?_
    simp only [List.map_cons, List.zipIdx_cons, List.forIn_cons]
    refine wpAny_bind (wpAny_bind (wpAny_onRaise ?_))
    show wpAny _ _ (Builtin.SmallTypes.nextOf (.ref r.it) >>= _) _ _ _
    refine wpAny_bind (next_end (s := { s with heap := h₁ }) hh (hi.at fun o e => hs₁.extBut _ _ hr.1 e) (hs.at fun o e => hs₁.extBut _ _ hl.1 e) gk fun h₂ e hx he => ?_)
    obtain ⟨oe, hoe, hce⟩ := he
    have hzq : Zp h₂ z TI TO .ellipsis f1 := hx _ _ hr.1.symm hz₁
    have hez : e ≠ z := fun x => by subst x; rw [hzq] at hoe; cases hoe; simp at hce
    refine wpAny_setField_rec (s := { s with heap := h₂ }) hzq (by simp) fun q' _ hq' => ?_
    replace hq' : Heap.SameBut z h₂ q' := hq'
    exact hE q' e (fun c o cz c1 x => hq'.extBut _ _ cz (hx _ _ c1 (hs₁.extBut _ _ cz x))) ⟨oe, hq'.extBut _ _ hez hoe, hce⟩
  · simp only [Bool.false_eq_true, if_false]
    refine wpAny_bind ?_
    rw [← Array.forIn_toList]
    simp only [List.map_cons, List.forIn_cons]
    refine wpAny_bind (wpAny_bind (wpAny_holding ?_))
    show wpAny _ _ (Builtin.SmallTypes.nextOf (.ref r.it) >>= _) _ _ _
    refine wpAny_bind (next_end (s := { s with heap := h₁ }) hh (hi.at fun o e => hs₁.extBut _ _ hr.1 e) (hs.at fun o e => hs₁.extBut _ _ hl.1 e) gk fun h₂ e hx he => ?_)
    exact hE h₂ e (fun c o cz c1 x => hx _ _ c1 (hs₁.extBut _ _ cz x)) he
theorem pyNext_item {z TI TO : Addr} {rs : List Sr} {f0 f1 : Value} {arr : List Value} {k : Nat} {Q : Option Value → Shared → Prop} (D : Apart z TI TO rs) (hn : rs.length ≤ sizeLine) (hne : rs ≠ []) (hz : Zp s.heap z TI TO f0 f1) (h0 : f0 = .none ∨ ∃ T : Addr, f0 = rawInt T) (hf : f1 = .bool true ∨ f1 = .bool false)
    (hTI : Tp s.heap TI (rs.map fun r => .ref r.it)) (hTO : Tp s.heap TO arr) (ha : arr.length = rs.length) (hi : ∀ r ∈ rs, ItAt s.heap k r) (hs : ∀ r ∈ rs, SqAt s.heap r) (hk : ∀ r ∈ rs, k < r.xs.length)
    (hQ : ∀ h' g0 g1 arr', Zp h' z TI TO g0 g1 → (g0 = .none ∨ ∃ T : Addr, g0 = rawInt T) → (g1 = .bool true ∨ g1 = .bool false) → Tp h' TO arr' → arr'.length = rs.length → (∀ r ∈ rs, ItAt h' (k + 1) r) → Tp h' s.heap.objs.size (row rs k) → h'.objs.size = s.heap.objs.size + 1 →
      (∀ c o, c ≠ z → c ≠ TO → (∀ r ∈ rs, c ≠ r.it) → s.heap.get? c = some o → h'.get? c = some o) → Q (some (.ref s.heap.objs.size)) { s with heap := h' }) :
    wpAny (model prog w) A (pyNext (.ref z)) Q E s := by
  have hT : s.TypeIs (.ref z) "zip" := ⟨_, hz, rfl⟩
  unfold pyNext
  exact wpAny_bind (wpAny_attempt (wpAny_callSpecial?_slot (name := Str.ofString "__next__") hT F.slot_zip_next
    (wpAny_call_entry F.slot_zip_next hT F.entry_zip_next
      (zip_item D hn hne hz h0 hf hTI hTO ha hi hs hk fun h' g0 g1 arr' b1 b2 b3 b4 b5 b6 b7 b8 b9 => wpAny_pure (hQ h' g0 g1 arr' b1 b2 b3 b4 b5 b6 b7 b8 b9)) (F.args_zip_next_1 _))))
theorem pyNext_end {z TI TO : Addr} {r : Sr} {rs : List Sr} {f0 f1 : Value} {k : Nat} {Q : Option Value → Shared → Prop} (hh : A.handled = none) (D : Apart z TI TO (r :: rs)) (hz : Zp s.heap z TI TO f0 f1) (h0 : f0 = .none ∨ ∃ T : Addr, f0 = rawInt T) (hf : f1 = .bool true ∨ f1 = .bool false)
    (hTI : Tp s.heap TI ((r :: rs).map fun r => .ref r.it)) (hi : ItAt s.heap k r) (hs : SqAt s.heap r) (hk : r.xs.length ≤ k)
    (hQ : ∀ h', (∀ c o, c ≠ z → c ≠ r.it → s.heap.get? c = some o → h'.get? c = some o) → Q none { s with heap := h' }) : wpAny (model prog w) A (pyNext (.ref z)) Q E s := by
  have hT : s.TypeIs (.ref z) "zip" := ⟨_, hz, rfl⟩
  unfold pyNext
  refine wpAny_bind (wpAny_attempt (wpAny_callSpecial?_slot (name := Str.ofString "__next__") hT F.slot_zip_next
    (wpAny_call_entry F.slot_zip_next hT F.entry_zip_next (zip_end (A := A.in1) hh D hz h0 hf hTI hi hs hk fun h' e hk he => ?_) (F.args_zip_next_1 _))))
  obtain ⟨o, ho, hc⟩ := he
  refine wpAny_bind (wpAny_isInstance (T := "StopIteration") (b := true) ⟨o, ho, hc⟩ isSubtype_stop ?_)
  exact wpAny_pure (hQ _ hk)
theorem pyIter_zp {z TI TO : Addr} {f0 f1 : Value} {Q : Value → Shared → Prop} (hz : Zp s.heap z TI TO f0 f1) (h : Q (.ref z) s) : wpAny (model prog w) A (pyIter (.ref z)) Q E s := by
  have hT : s.TypeIs (.ref z) "zip" := ⟨_, hz, rfl⟩
  refine wpAny_pyIter_slot hT F.slot_zip_iter (wpAny_call_entry F.slot_zip_iter hT F.entry_zip_iter ?_ (F.args_zip_iter_1 _))
  show wpAny _ _ (ret (.ref z)) _ _ s
  exact wpAny_pure ⟨_, rfl, "zip", _, hT, F.slot_zip_next.lookup, h⟩
/-- what the step ahead of the store does -/
theorem letGo_zp {tg : Expr} {z TI TO T : Addr} {f0 f1 : Value} {Q : Unit → Shared → Prop} (hz : Zp s.heap z TI TO f0 f1) (h0 : f0 = .none ∨ ∃ T : Addr, f0 = rawInt T)
    (hQ : ∀ h' g0, Zp h' z TI TO g0 f1 → (g0 = .none ∨ ∃ T : Addr, g0 = rawInt T) → Heap.SameBut z s.heap h' → Q () { s with heap := h' }) : wpAny (model prog w) A (letOwnedTupleGo tg (.ref z) (.ref T)) Q E s := by
  have stay : Q () s := hQ s.heap f0 hz h0 (Heap.SameBut.refl _ _)
  have main : wpAny (model prog w) A (do
      let o ← load z
      match o.cls, o.data with
      | .type n, .fields vs =>
        if ["enumerate", "zip", "dict_itemiterator", "dict_reverseitemiterator", "odict_iterator", "itertools.zip_longest", "itertools.pairwise"].contains n && vs[0]? == some (rawInt T) then
          rule "for.unpacks-the-owned-tuple"
          updateField z 0 .none
      | _, _ => pure ()) Q E s := by
    refine wpAny_bind (wpAny_load hz ?_)
    show wpAny _ _ (if (["enumerate", "zip", "dict_itemiterator", "dict_reverseitemiterator", "odict_iterator", "itertools.zip_longest", "itertools.pairwise"].contains "zip" && (#[f0, f1, .bool false, .ref TI, .ref TO] : Array Value)[0]? == some (rawInt T)) = true then _ else _) Q E s
    split
    · refine wpAny_bind (wpAny_rule ?_)
      show wpAny _ _ (setField (.ref z) 0 .none) Q E s
      exact wpAny_setField_rec hz (by simp) fun h' hz' hs' => hQ h' _ hz' (.inl rfl) hs'
    · exact wpAny_pure stay
  unfold letOwnedTupleGo
  cases tg <;> first
    | exact wpAny_pure stay
    | exact main
end
end EvZ
/-! # zip as an iterator of the layer -/
namespace EvZ
open PySem PySem.Spec PySem.SeqAt L2 PyProof.Rows
abbrev Src := Bool × Addr × List V
def Sq (K : PySem.W.Frag) (H : Hp) (s : Src) : Prop := match s.1 with
  | true => SqT K H s.2.1 s.2.2
  | false => SqL K H s.2.1 s.2.2
def ItN (K : PySem.W.Frag) (ss : List Src) : It :=
  ⟨fun i H => ∀ s ∈ ss, Sq K H s ∧ i < s.2.2.length, fun i H v H' => ∃ T, v = .ref T ∧ H T = none ∧ H' = upd H T (.tup (ss.map fun s => s.2.2.getD i .non)), fun i H => ∃ s t, ss = s :: t ∧ Sq K H s ∧ s.2.2.length ≤ i⟩
def Sr.b (r : Sr) : Bool × Addr × Addr := (r.tp, r.it, r.l)
theorem mem_b {rs rs0 : List Sr} (e : rs.map Sr.b = rs0.map Sr.b) {r : Sr} (h : r ∈ rs) : ∃ r0 ∈ rs0, r0.b = r.b := by
  have : r.b ∈ rs0.map Sr.b := by rw [← e]; exact List.mem_map_of_mem h
  obtain ⟨r0, h1, h2⟩ := List.mem_map.mp this
  exact ⟨r0, h1, h2⟩
theorem its_b {rs rs0 : List Sr} (e : rs.map Sr.b = rs0.map Sr.b) : rs.map (·.it) = rs0.map (·.it) := by
  have := congrArg (List.map fun (x : Bool × Addr × Addr) => x.2.1) e
  simpa [Sr.b, Function.comp_def] using this
theorem Apart.congr {z TI TO : Addr} {rs rs0 : List Sr} (D : Apart z TI TO rs0) (e : rs.map Sr.b = rs0.map Sr.b) : Apart z TI TO rs := by
  refine ⟨D.TIz, D.TOz, D.TT, fun r hr => ?_, fun r hr => ?_, by rw [its_b e]; exact D.nd⟩
  · obtain ⟨r0, h0, e0⟩ := mem_b e hr
    simp only [Sr.b, Prod.mk.injEq] at e0
    have := D.iz r0 h0
    rw [e0.2.1] at this
    exact this
  · obtain ⟨r0, h0, e0⟩ := mem_b e hr
    simp only [Sr.b, Prod.mk.injEq] at e0
    have := D.lz r0 h0
    rw [e0.2.2] at this
    refine ⟨this.1, this.2.1, fun q hq => ?_⟩
    obtain ⟨q0, k0, f0⟩ := mem_b e hq
    simp only [Sr.b, Prod.mk.injEq] at f0
    have := this.2.2 q0 k0
    rw [f0.2.1] at this
    exact this
theorem ItAt.congr {h : Heap} {k : Nat} {r r0 : Sr} (e : r0.b = r.b) (x : ItAt h k r0) : ItAt h k r := by
  obtain ⟨tp, it, l, xs⟩ := r
  obtain ⟨tp0, it0, l0, xs0⟩ := r0
  simp only [Sr.b, Prod.mk.injEq] at e
  obtain ⟨rfl, rfl, rfl⟩ := e
  exact x
theorem its_all {h : Heap} {k : Nat} {rs rs0 : List Sr} (e : rs.map Sr.b = rs0.map Sr.b) (x : ∀ r ∈ rs0, ItAt h k r) : ∀ r ∈ rs, ItAt h k r := fun r hr => by
  obtain ⟨r0, h0, e0⟩ := mem_b e hr
  exact (x r0 h0).congr e0
section
variable {X : Cx} {pins : List (Addr × Obj)} {σ : L2.St} {H : Hp} {s : Shared}
theorem vals_getD {xs : List V} {us : List Value} (r : Vals xs us) {i : Nat} (h : i < xs.length) : RelV (xs.getD i .non) (us.getD i .none) := by
  obtain ⟨u, h1, h2⟩ := r.get (List.getElem?_eq_getElem h)
  rw [List.getD_eq_getElem?_getD, List.getD_eq_getElem?_getD, List.getElem?_eq_getElem h, h1]
  exact h2
theorem fill (I : Inv X pins σ H s) : ∀ (rs0 : List Sr) (ss : List Src), rs0.map (fun r => (r.tp, r.l)) = ss.map (fun s => (s.1, s.2.1)) → (∀ q ∈ ss, Sq X.K H q) →
    ∃ rs : List Sr, rs.map Sr.b = rs0.map Sr.b ∧ (∀ r ∈ rs, SqAt s.heap r) ∧ rs.map (fun r => r.xs.length) = ss.map (fun s => s.2.2.length) ∧ ∀ i, (∀ q ∈ ss, i < q.2.2.length) → Vals (ss.map fun q => q.2.2.getD i .non) (row rs i)
  | [], [], _, _ => ⟨[], rfl, (fun _ q => nomatch q), rfl, fun _ _ => .nil⟩
  | r0 :: rs0, q :: ss, e, h => by
    simp only [List.map_cons, List.cons.injEq, Prod.mk.injEq] at e
    obtain ⟨rs, a1, a2, a3, a4⟩ := fill I rs0 ss e.2 fun q hq => h q (List.mem_cons_of_mem _ hq)
    have hq := h q (List.mem_cons_self ..)
    obtain ⟨tp, a, xs⟩ := q
    obtain ⟨tp0, it0, l0, xs0⟩ := r0
    obtain ⟨⟨rfl, rfl⟩, _⟩ := e
    have key : ∃ its : List Value, Vals xs its ∧ SqAt s.heap ⟨tp0, it0, l0, its⟩ := by
      cases tp0 with
      | true =>
        obtain ⟨its, rv, p, _⟩ := I.tuple hq
        exact ⟨its, rv, p⟩
      | false =>
        obtain ⟨its, rv, p, _⟩ := I.list hq
        exact ⟨its, rv, p.isList⟩
    obtain ⟨its, rv, p⟩ := key
    refine ⟨⟨tp0, it0, l0, its⟩ :: rs, by simp [a1, Sr.b], fun r hr => ?_, ?_, fun i hi => ?_⟩
    · rcases List.mem_cons.mp hr with rfl | hr
      · exact p
      · exact a2 r hr
    · simp only [List.map_cons, a3]
      rw [rv.length]
    · simp only [row, List.map_cons]
      exact .cons (vals_getD rv (hi _ (List.mem_cons_self ..))) (a4 i fun q hq => hi q (List.mem_cons_of_mem _ hq))
  | [], _ :: _, e, _ => by simp at e
  | _ :: _, [], e, _ => by simp at e
end
theorem turn_zip {P : Program} {w : World} {K : PySem.W.Frag} {tg : Expr} {z TI TO : Addr} {rs0 : List Sr} {ss : List Src} (D : Apart z TI TO rs0) (hne : rs0 ≠ []) (hn : rs0.length ≤ 9) (hs : rs0.map (fun r => (r.tp, r.l)) = ss.map (fun s => (s.1, s.2.1))) :
    Turn P w K tg (ItN K ss) (z :: TI :: TO :: rs0.map (·.it)) z (fun i h => ∃ f0 f1 arr, Zp h z TI TO f0 f1 ∧ (f0 = .none ∨ ∃ T : Addr, f0 = rawInt T) ∧ (f1 = .bool true ∨ f1 = .bool false) ∧ Tp h TI (rs0.map fun r => .ref r.it) ∧ Tp h TO arr ∧ arr.length = rs0.length ∧ ∀ r ∈ rs0, ItAt h i r) where
  mem := by simp
  obj := fun i h st c hc => by
    obtain ⟨f0, f1, arr, hz, _, _, hTI, hTO, _, hi⟩ := st
    have e' : c = z ∨ c = TI ∨ c = TO ∨ ∃ r ∈ rs0, r.it = c := by simpa using hc
    rcases e' with q | q | q | ⟨r, hr, q⟩
    · rw [q]; exact ⟨_, hz, fun v q => nomatch q⟩
    · rw [q]; exact ⟨_, hTI, fun v q => nomatch q⟩
    · rw [q]; exact ⟨_, hTO, fun v q => nomatch q⟩
    · rw [← q]; exact (hi r hr).there
  keep := fun i h h' st k => by
    obtain ⟨f0, f1, arr, hz, h0, hf, hTI, hTO, ha, hi⟩ := st
    exact ⟨f0, f1, arr, k z (by simp) _ hz, h0, hf, k TI (by simp) _ hTI, k TO (by simp) _ hTO, ha, fun r hr => (hi r hr).at fun o q => k r.it (by simp; exact .inr (.inr (.inr ⟨r, hr, rfl⟩))) o q⟩
  item := by
    intro X hP hw hK hc i pins s σ H E I hf st hg
    subst hP hw hK
    obtain ⟨f0, f1, arr, hz, h0, hf1, hTI, hTO, ha, hi⟩ := st
    obtain ⟨rs, b1, b2, b3, b4⟩ := fill I rs0 ss hs fun q hq => (hg q hq).1
    have D' := D.congr b1
    have el : rs.length = rs0.length := by simpa using congrArg List.length b1
    have es : ss.length = rs0.length := by simpa using (congrArg List.length hs).symm
    have eit : (rs.map fun r => Value.ref r.it) = rs0.map fun r => Value.ref r.it := by
      have := congrArg (List.map Value.ref) (its_b b1)
      rw [List.map_map, List.map_map] at this
      exact this
    have hne' : rs ≠ [] := fun q => hne (List.length_eq_zero_iff.mp (by rw [← el, q]; rfl))
    have hlen : ∀ r ∈ rs, i < r.xs.length := fun r hr => by
      have : r.xs.length ∈ ss.map (fun s => s.2.2.length) := by rw [← b3]; exact List.mem_map_of_mem (f := fun r : Sr => r.xs.length) hr
      obtain ⟨q, hq, e⟩ := List.mem_map.mp this
      rw [← e]; exact (hg q hq).2
    have hnn : rs.length ≤ sizeLine := by rw [el]; exact Nat.le_trans hn (by decide)
    have hzl : z < s.heap.objs.size := Heap.lt_size hz
    refine pyNext_item D' hnn hne' hz h0 hf1 (by rw [eit]; exact hTI) hTO (by rw [el]; exact ha) (its_all b1 hi) b2 hlen fun h' g0 g1 arr' z' k0 k1 TO' la it' hT hsz hk => ?_
    refine ⟨_, rfl, letGo_zp (s := { s with heap := h' }) z' k0 fun h'' g0' z'' k0' sb => ?_⟩
    have hT2 : Tp h'' s.heap.objs.size (row rs i) := (sb.2 _ (Nat.ne_of_gt hzl)).trans hT
    have new : ObjOk X.prog X.w (upd H s.heap.objs.size (.tup (ss.map fun q => q.2.2.getD i .non))) h'' s.heap.objs.size (.tup (ss.map fun q => q.2.2.getD i .non)) :=
      ⟨by simp only [List.length_map]; rw [es]; exact Nat.le_trans hn (by decide), row rs i, b4 i fun q hq => (hg q hq).2, ⟨_, hT2, rfl, _, rfl⟩⟩
    have hk' : ∀ c o, c ∉ (z :: TI :: TO :: rs0.map (·.it)) → s.heap.get? c = some o → h''.get? c = some o := fun c o hb q => by
      simp only [List.mem_cons, List.mem_map, not_or, not_exists, not_and] at hb
      refine (sb.2 c hb.1).trans (hk c o hb.1 hb.2.2.1 (fun r hr => ?_) q)
      obtain ⟨r0, h0, e0⟩ := mem_b b1 hr
      simp only [Sr.b, Prod.mk.injEq] at e0
      rw [← e0.2.1]
      exact fun e => hb.2.2.2 r0 h0 e.symm
    have I1 : Inv X pins σ (upd H s.heap.objs.size (.tup (ss.map fun q => q.2.2.getD i .non))) { s with heap := h'' } :=
      I.turnedNew (t' := s.toks) (ch := z :: TI :: TO :: rs0.map (·.it)) hk' hf (Nat.le_refl _) new
    have hTI' : Tp h'' TI (rs0.map fun r => .ref r.it) := (sb.2 _ D.TIz).trans (hk _ _ D.TIz D.TT (fun r hr => (D'.iz r hr).2.1.symm) hTI)
    refine ⟨.ref s.heap.objs.size, _, I1, rfl, ⟨_, rfl, I.hok.fresh (Nat.le_refl _), rfl⟩, ⟨g0', g1, arr', z'', k0', k1, hTI', (sb.2 _ D.TOz).trans TO', by rw [la, el], fun r hr => ?_⟩, fun c hcm => ?_⟩
    · exact (its_all b1.symm it' r hr).at fun o q => (sb.2 _ (D.iz r hr).1).trans q
    · have hlt : c < s.heap.objs.size := by
        have e' : c = z ∨ c = TI ∨ c = TO ∨ ∃ r ∈ rs0, r.it = c := by simpa using hcm
        rcases e' with q | q | q | ⟨r, hr, q⟩
        · rw [q]; exact hzl
        · rw [q]; exact Heap.lt_size hTI
        · rw [q]; exact Heap.lt_size hTO
        · rw [← q]; obtain ⟨_, e1, _⟩ := (hi r hr).there; exact Heap.lt_size e1
      rw [upd_ne (Nat.ne_of_lt hlt)]
      exact (hf c hcm).1
  done := by
    intro X hP hw hK hc i pins s σ H E I hf st hg
    subst hP hw hK
    obtain ⟨f0, f1, arr, hz, h0, hf1, hTI, hTO, ha, hi⟩ := st
    obtain ⟨q, t, rfl, hq, hl⟩ := hg
    cases rs0 with
    | nil => exact absurd rfl hne
    | cons r0 rs0 =>
      simp only [List.map_cons, List.cons.injEq] at hs
      obtain ⟨rs, b1, b2, b3, _⟩ := fill I [r0] [q] (by simp [hs.1]) fun q' hq' => by rw [List.mem_singleton.mp hq']; exact hq
      obtain ⟨r, rfl⟩ : ∃ r, rs = [r] := by
        match rs, congrArg List.length b1 with
        | [r], _ => exact ⟨r, rfl⟩
      have er : r.b = r0.b := by simpa using b1
      have eall : (r :: rs0).map Sr.b = (r0 :: rs0).map Sr.b := by simp [er]
      have D' := D.congr eall
      have ei : r.it = r0.it := by simp only [Sr.b, Prod.mk.injEq] at er; exact er.2.1
      refine pyNext_end (I.ok.hd hc) D' hz h0 hf1 (by simp only [List.map_cons, ei]; exact hTI) ((hi r0 (List.mem_cons_self ..)).congr er.symm) (b2 r (List.mem_cons_self ..)) (by simp at b3; omega) fun h' hk => ⟨rfl, I.turnedL (t' := s.toks) (ch := z :: TI :: TO :: (r0 :: rs0).map (·.it)) (fun c o hb q => ?_) hf⟩
      simp only [List.map_cons, List.mem_cons, not_or] at hb
      exact hk c o hb.1 (by rw [ei]; exact hb.2.2.2.1) q
  self := fun A i s Q E st h => by
    obtain ⟨f0, f1, arr, hz, _⟩ := st
    exact pyIter_zp hz h
end EvZ
/-! # zip in the evaluator -/
namespace Ev
open PySem PySem.Spec PySem.SeqAt L2 PyProof.Rows EvZ
def frz : D → Option (List D)
  | .tup ds => some ds
  | .lst ds => some ds
  | _ => none
def frzs : List D → Option (List (List D))
  | [] => some []
  | d :: ds => match frz d, frzs ds with
    | some x, some xs => some (x :: xs)
    | _, _ => none
section
variable {K : PySem.W.Frag} {W : Wd}
theorem reps_getD {ds : List D} {vs : List V} (r : Reps K W ds vs) {i : Nat} (h : i < ds.length) : Rep K W (ds.getD i .non) (vs.getD i .non) := by
  obtain ⟨v, h1, h2⟩ := r.get (List.getElem?_eq_getElem h)
  rw [List.getD_eq_getElem?_getD, List.getD_eq_getElem?_getD, List.getElem?_eq_getElem h, h1]
  exact h2
theorem srcs : ∀ {ds : List D} {vs : List V} {xss : List (List D)}, Reps K W ds vs → frzs ds = some xss → ∃ ss : List Src, vs = ss.map (fun q => V.ref q.2.1) ∧ (∀ q ∈ ss, ∀ H : Hp, (∀ a o, W.F a = some o → H a = some o) → Sq K H q) ∧ ss.map (fun q => q.2.2.length) = xss.map List.length ∧
    ∀ i, (∀ x ∈ xss, i < x.length) → Reps K W (xss.map (·.getD i .non)) (ss.map (·.2.2.getD i .non))
  | [], _, xss, r, e => by
    cases r; cases e
    exact ⟨[], rfl, (fun _ q => nomatch q), rfl, fun _ _ => .nil⟩
  | d :: ds, _, xss, .cons r1 r2, e => by
    unfold frzs at e
    cases e1 : frz d with
    | none => rw [e1] at e; cases e
    | some x =>
      cases e2 : frzs ds with
      | none => rw [e1, e2] at e; cases e
      | some xs =>
        rw [e1, e2] at e
        cases e
        obtain ⟨ss, a1, a2, a3, a4⟩ := srcs r2 e2
        have key : ∃ q : Src, ‹V› = V.ref q.2.1 ∧ (∀ H : Hp, (∀ a o, W.F a = some o → H a = some o) → Sq K H q) ∧ Reps K W x q.2.2 := by
          cases r1 with
          | @tup a vs ds q r =>
            cases e1
            exact ⟨(true, a, vs), rfl, fun H h => by
              rcases q with q | q
              · exact .inl (rd_sub h q)
              · exact .inr q, r⟩
          | @lst a vs ds q r =>
            cases e1
            exact ⟨(false, a, vs), rfl, fun H h => SqL.of (h _ _ q), r⟩
          | _ => cases e1
        obtain ⟨q, k1, k2, k3⟩ := key
        refine ⟨q :: ss, by simp [k1, a1], fun p hp => ?_, by simp [a3, k3.length], fun i hi => ?_⟩
        · rcases List.mem_cons.mp hp with rfl | hp
          · exact k2
          · exact a2 p hp
        · exact .cons (reps_getD k3 (hi x (List.mem_cons_self ..))) (a4 i fun y hy => hi y (List.mem_cons_of_mem _ hy))
def zipD (xss : List (List D)) (n : Nat) : List D := (List.range n).map fun i => .tup (xss.map (·.getD i .non))
def pZip (ds : List D) : Option (List D) := match frzs ds with
  | some (x :: xss) => if xss.length < 9 ∧ ∀ y ∈ xss, y.length = x.length then some (zipD (x :: xss) x.length) else none
  | _ => none
theorem pZip_ok {ds zs : List D} {vs : List V} (e : pZip ds = some zs) (r : Reps K W ds vs) : ∃ ss : List Src, vs = ss.map (fun q => V.ref q.2.1) ∧ ss ≠ [] ∧ ss.length ≤ 9 ∧ (∀ q ∈ ss, ∀ H : Hp, (∀ a o, W.F a = some o → H a = some o) → Sq K H q) ∧ WalkD K W zs (ItN K ss) := by
  unfold pZip at e
  split at e
  · rename_i x xss ef
    split at e
    · rename_i hc
      cases e
      obtain ⟨ss, a1, a2, a3, a4⟩ := srcs r ef
      have hn : ss.length = xss.length + 1 := by simpa using congrArg List.length a3
      have hall : ∀ y ∈ x :: xss, y.length = x.length := fun y hy => by
        rcases List.mem_cons.mp hy with rfl | hy
        · rfl
        · exact hc.2 y hy
      have hss : ∀ q ∈ ss, q.2.2.length = x.length := fun q hq => by
        have : q.2.2.length ∈ (x :: xss).map List.length := by rw [← a3]; exact List.mem_map_of_mem (f := fun q : Src => q.2.2.length) hq
        obtain ⟨y, hy, ey⟩ := List.mem_map.mp this
        rw [← ey]; exact hall y hy
      refine ⟨ss, a1, fun q => by rw [q] at hn; simp at hn, by omega, a2, ?_⟩
      have el : (zipD (x :: xss) x.length).length = x.length := by simp [zipD]
      unfold WalkD
      rw [el]
      refine ⟨fun i H hi hG q hq => ⟨a2 q hq H hG, by rw [hss q hq]; exact hi⟩, fun H hG => ?_, fun i H v H' hi hG y d hd W2 S2 l g => ?_⟩
      · cases ss with
        | nil => simp at hn
        | cons q ss => exact ⟨q, ss, rfl, a2 q (List.mem_cons_self ..) H hG, by rw [hss q (List.mem_cons_self ..)]; exact Nat.le_refl _⟩
      · obtain ⟨T, rfl, hT, rfl⟩ := y
        have ed : d = .tup ((x :: xss).map (·.getD i .non)) := by rw [← Option.some_inj, ← hd]; simp [zipD, hi]
        subst ed
        have rr := a4 i fun y hy => by rw [hall y hy]; exact hi
        have l3 : W2.le (W2.add T (.tup (ss.map (·.2.2.getD i .non)))) := g.add_le hT
        exact ⟨W2.add T (.tup (ss.map (·.2.2.getD i .non))), l3, g.add hT, .tup (.inl (.inl (by show upd _ _ _ _ = _; rw [upd_same]))) ((rr.mono l).mono l3)⟩
    · cases e
  · cases e
end
section
variable {X : Cx} {Wx : WX} {a b c e tg : Expr} {ma mb mc m : ME} {pos : Pos}
/-- the call of zip has come to its iterator -/
theorem zip_pie {pins : List (Addr × Obj)} {s : Shared} {σ : L2.St} {H : Hp} {R : It → Hp → Prop} {us : List Value} {ss : List Src} (I : Inv X pins σ H s) (r : Vals (ss.map fun q => V.ref q.2.1) us) (hne : ss ≠ []) (hn : ss.length ≤ 9) (hs : ∀ q ∈ ss, Sq X.K H q) (hR : R (ItN X.K ss) H) :
    wpAny (model X.prog X.w) X.A (call (.type "zip") us) (fun v s1 => wpAny (model X.prog X.w) X.A (pyIter v) (PIE X pins σ tg R) X.xe s1) X.xe s := by
  obtain ⟨rs0, b1, b2, b3, b4⟩ := fill I (ss.map fun q => ⟨q.1, 0, q.2.1, []⟩) ss (by simp) hs
  have eu : us = rs0.map fun r => .ref r.l := by
    have e1 : rs0.map (fun r => r.l) = ss.map fun q => q.2.1 := by
      have := congrArg (List.map fun (x : Bool × Addr × Addr) => x.2.2) b1
      simpa [Sr.b, Function.comp_def] using this
    have e2 : ∀ (xs : List Addr) (us : List Value), Vals (xs.map V.ref) us → us = xs.map Value.ref := by
      intro xs
      induction xs with
      | nil => intro us h; cases h; rfl
      | cons x xs ih =>
        intro us h
        cases h with
        | cons h1 h2 =>
          obtain rfl := h1
          rw [ih _ h2]; rfl
    have e3 := e2 (ss.map fun q => q.2.1) us (by rw [List.map_map]; exact r)
    rw [e3, ← e1, List.map_map]
    rfl
  have el : rs0.length = ss.length := by simpa using congrArg List.length b1
  subst eu
  refine call_zip (by rw [el]; exact hn) b2 fun h' rs e1 e2 e3 e4 e5 e6 e7 e8 => pyIter_zp e6 ?_
  have el2 : rs.length = rs0.length := by simpa using congrArg List.length e1
  have hI : Inv X pins σ H { s with heap := h' } := I.kept (t' := s.toks) e5
  have hit : ∀ r ∈ rs, s.heap.objs.size ≤ r.it ∧ r.it < s.heap.objs.size + rs0.length := fun r hr => by
    have : r.it ∈ rs.map (·.it) := List.mem_map_of_mem hr
    rw [e3] at this
    obtain ⟨i, hi, e⟩ := List.mem_range'.mp this
    have e' : (r.it : Nat) = s.heap.objs.size + 1 * i := e
    constructor
    · rw [e']; exact Nat.le_add_right _ _
    · rw [e', Nat.one_mul]; exact Nat.add_lt_add_left hi _
  have hl : ∀ r ∈ rs, r.l < s.heap.objs.size := fun r hr => by
    have : (r.tp, r.l, r.xs) ∈ rs0.map (fun r => (r.tp, r.l, r.xs)) := by rw [← e1]; exact List.mem_map_of_mem (f := fun r : Sr => (r.tp, r.l, r.xs)) hr
    obtain ⟨r0, h0, eq⟩ := List.mem_map.mp this
    have sq := b2 r0 h0
    simp only [Prod.mk.injEq] at eq
    rw [← eq.2.1]
    obtain ⟨tp, it, l, xs⟩ := r0
    cases tp with
    | true => obtain ⟨o, h1, _⟩ := sq; exact Heap.lt_size h1
    | false => obtain ⟨o, h1, _⟩ := sq; exact Heap.lt_size h1
  have D : Apart (s.heap.objs.size + rs0.length + 2) (s.heap.objs.size + rs0.length) (s.heap.objs.size + rs0.length + 1) rs := by
    refine ⟨Nat.ne_of_lt (by omega), Nat.ne_of_lt (by omega), Nat.ne_of_lt (by omega), fun r hr => ?_, fun r hr => ?_, by rw [e3]; exact List.nodup_range'⟩
    · have h2 := (hit r hr).2
      exact ⟨Nat.ne_of_lt (Nat.lt_of_lt_of_le h2 (by omega)), Nat.ne_of_lt h2, Nat.ne_of_lt (Nat.lt_of_lt_of_le h2 (by omega))⟩
    · have h1 := hl r hr
      exact ⟨Nat.ne_of_lt (Nat.lt_of_lt_of_le h1 (by omega)), Nat.ne_of_lt (Nat.lt_of_lt_of_le h1 (by omega)), fun q hq => Nat.ne_of_lt (Nat.lt_of_lt_of_le h1 (hit q hq).1)⟩
  have hss : rs.map (fun r => (r.tp, r.l)) = ss.map (fun q => (q.1, q.2.1)) := by
    have := congrArg (List.map fun (x : Bool × Addr × List Value) => (x.1, x.2.1)) e1
    have t2 := congrArg (List.map fun (x : Bool × Addr × Addr) => (x.1, x.2.2)) b1
    simp [Sr.b, Function.comp_def] at this t2 ⊢
    rw [this, t2]
  refine ⟨_, _, _, _, H, rfl, hI, turn_zip D (fun q => hne (List.length_eq_zero_iff.mp (by rw [← el, ← el2, q]; rfl))) (by rw [el2, el]; exact hn) hss, ⟨_, _, _, e6, .inl rfl, .inr rfl, e7, e8, by simp, e2⟩, fun c hc => ?_, hR⟩
  have hle : s.heap.objs.size ≤ c := by
    have e' : c = s.heap.objs.size + rs0.length + 2 ∨ c = s.heap.objs.size + rs0.length ∨ c = s.heap.objs.size + rs0.length + 1 ∨ ∃ r ∈ rs, r.it = c := by simpa using hc
    rcases e' with q | q | q | ⟨r, hr, q⟩
    · rw [q]; exact Nat.le_trans (Nat.le_add_right _ _) (Nat.le_add_right _ _)
    · rw [q]; exact Nat.le_add_right _ _
    · rw [q]; exact Nat.le_trans (Nat.le_add_right _ _) (Nat.le_add_right _ _)
    · rw [← q]; exact (hit r hr).1
  exact I.fpOk hle (I.hok.fresh hle)
def iZip (mas : MA) : MA := fun δ => M.bind (mas δ) fun ds S => match pZip ds with
  | some zs => .ok zs S
  | none => .bad
theorem si_zip {es : List Expr} {mas : MA} {p : Pos} (hg : Gl X "zip") (hm : X.mg "zip" = none) (ha : SA X Wx (e :: es) mas)
    (hs : starEach (e :: es) X.env = (false, eval e X.env) :: starEach es X.env) (hpl : (backTo pos (starEach es X.env)).any (·.1) = false) : SI X Wx tg (.Call (.Name "zip" p) (e :: es) [] pos) (iZip mas) := by
  refine ⟨fun pins s σ H R I ⟨W, S, δ, g, r, h⟩ => ?_⟩
  refine Call_ (ld_blt I hg hm PyProof.Rows.boot_zip (PyProof.Rows.callWith_type1 (thn (ha.run pos pins s σ H _ I ⟨W, S, δ, g, r, okP.bind (R := Reps X.K) h⟩) fun us s1 ⟨vs, H1, I1, r1, W1, S1, ds, l1, g1, q1, p1⟩ => ?_) hs hpl))
  split at p1
  · rename_i zs ez
    obtain ⟨ss, c1, c2, c3, c4, c5⟩ := pZip_ok ez q1
    subst c1
    exact zip_pie I1 r1 c2 c3 (fun q hq => c4 q hq H1 g1.sub) (okP.pure p1 g1 c5)
  · exact p1.elim
/-- the star takes the items of a frozen sequence -/
theorem callWith_typeS {M : Model} {A : Around} {E : Value → Shared → Prop} {s : Shared} {T : String} {env : Env} {q : Pos} {Q : Value → Shared → Prop}
    (h : wpAny M A (eval e env) (fun v s₁ => PySem.W.StarOf M A E v (fun vs s₂ => wpAny M A (call (.type T) vs) Q E s₂) s₁) E s) :
    wpAny M A (callWith pos (.type T) [] (backTo pos (starEach [.Starred e q] env)) []) Q E s := by
  have h0 : starEach [.Starred e q] env = [(true, eval e env)] := rfl
  rw [h0]
  have h1 : wpAny M A (eval e env) (fun v s₁ => PySem.W.StarOf M A E v (fun vs s₂ => True ∧ wpAny M A (call (.type T) ([] ++ vs)) Q E s₂) s₁) E s := by
    refine wpAny_mono h (fun v s1 h1 => ?_) fun _ _ x => x
    exact wpAny_mono h1 (fun b s2 h2 => ⟨h2.1, wpAny_mono h2.2 (fun vs s3 h3 => ⟨trivial, h3⟩) fun _ _ x => x⟩) fun _ _ x => x
  exact PySem.W.ks_call (P := fun _ => True) rfl (fun _ _ => ⟨.machine, .inr (.inl rfl), PySem.W.Looks.of_pure rfl⟩) (PySem.W.ks_lone h1)
theorem si_zipS {p q : Pos} (hg : Gl X "zip") (hm : X.mg "zip" = none) (ha : SE X Wx e ma) : SI X Wx tg (.Call (.Name "zip" p) [.Starred e q] [] pos) (iZip (aStar ma aNil)) := by
  refine ⟨fun pins s σ H R I ⟨W, S, δ, g, r, h⟩ => ?_⟩
  unfold iZip aStar at h
  refine Call_ (ld_blt I hg hm PyProof.Rows.boot_zip (callWith_typeS (thn (ha.run pins s σ H _ I ⟨W, S, δ, g, r, okP.bind (R := Rep X.K) (okP.assoc h)⟩) fun u s1 ⟨v, H1, I1, r1, W1, S1, d, l1, g1, q1, p1⟩ => ?_)))
  cases ez : seqOf S1 d with
  | none => simp only [M.bind, ez] at p1; exact p1.elim
  | some xs =>
    obtain ⟨a, vs, rfl, h2, h3⟩ := seqOf_ok ez g1 q1
    obtain rfl : u = Value.ref a := r1
    simp only [M.bind, ez, aNil, M.pure, List.append_nil] at p1
    split at p1
    · rename_i zs ez
      obtain ⟨ss, c1, c2, c3, c4, c5⟩ := pZip_ok ez h3
      subst c1
      exact StX.star_any I1 h2.symm fun us s2 I2 rv => zip_pie I2 rv c2 c3 (fun q hq => c4 q hq H1 g1.sub) (okP.pure p1 g1 c5)
    · exact p1.elim
end
end Ev
/-! # making instances: an __init__ that reads no attribute of self, and sets them -/
namespace Ev
open PySem PySem.Spec PySem.SeqAt L2 PyProof.Rows
section
variable {K : PySem.W.Frag} {W W' : Wd}
mutual
theorem Rep.mono0 (hf : ∀ a o, W.F a = some o → W'.F a = some o) (hm : ∀ (i : Nat) a, W.m[i]? = some a → W'.m[i]? = some a) : ∀ {d : D} {v : V}, Rep K W d v → Rep K W' d v
  | _, _, .non => .non
  | _, _, .bl b => .bl b
  | _, _, .int i => .int i
  | _, _, .str x => .str x
  | _, _, .tup q r => .tup (by
      rcases q with q | q
      · exact .inl (rd_sub hf q)
      · exact .inr q) (Reps.mono0 hf hm r)
  | _, _, .lst q r => .lst (hf _ _ q) (Reps.mono0 hf hm r)
  | _, _, .scr q => .scr (by
      rcases q with q | q
      · exact .inl (rd_sub hf q)
      · exact .inr q)
  | _, _, .ins e k r => .ins (hf _ _ e) k (Reps.mono0 hf hm r)
  | _, _, .ref e => .ref (hm _ _ e)
  | _, _, .fn x => .fn x
  | _, _, .dic e k r => .dic (hf _ _ e) k (Reps.mono0 hf hm r)
theorem Reps.mono0 (hf : ∀ a o, W.F a = some o → W'.F a = some o) (hm : ∀ (i : Nat) a, W.m[i]? = some a → W'.m[i]? = some a) : ∀ {ds : List D} {vs : List V}, Reps K W ds vs → Reps K W' ds vs
  | _, _, .nil => .nil
  | _, _, .cons r t => .cons (Rep.mono0 hf hm r) (Reps.mono0 hf hm t)
end
theorem CellAt.mono0 {H : Hp} {a : Addr} (hf : ∀ a o, W.F a = some o → W'.F a = some o) (hm : ∀ (i : Nat) a, W.m[i]? = some a → W'.m[i]? = some a) : ∀ {c : Cell}, CellAt K W H a c → CellAt K W' H a c
  | .lst _, ⟨vs, e, r⟩ => ⟨vs, e, r.mono0 hf hm⟩
  | .ins _ _, ⟨dx, vfs, e, k, r⟩ => ⟨dx, vfs, e, k, r.mono0 hf hm⟩
  | .dT _, ⟨vk, e, k, r⟩ => ⟨vk, e, k, r.mono0 hf hm⟩
  | .dK _, ⟨vk, e, k, r⟩ => ⟨vk, e, k, r.mono0 hf hm⟩
variable {S : Store} {H : Hp}
/-- another self; less privacy -/
theorem Good.other (g : Good K W S H) {P : Hp} {sf : Option Addr} (h : ∀ a o, P a = some o → W.P a = some o) : Good K ⟨W.F, W.m, P, sf⟩ S H where
  sub := g.sub
  len := g.len
  cell := fun i c e => by
    obtain ⟨a, e1, e2, e3, e4⟩ := g.cell i c e
    refine ⟨a, e1, e2, ?_, CellAt.mono0 (W := W) (W' := ⟨W.F, W.m, P, sf⟩) (fun _ _ h => h) (fun _ _ h => h) e4⟩
    show P a = none
    cases q : P a with
    | none => rfl
    | some o => rw [h a o q] at e3; cases e3
  inj := g.inj
  prv := fun a o e => g.prv a o (h a o e)
  ptup := fun a xs e => g.ptup a xs (h a _ e)
/-- a new object that nothing speaks of -/
theorem Good.skip (g : Good K W S H) {p : Addr} {o : HO} (n : H p = none) : Good K W S (upd H p o) where
  sub := fun a u e => by rw [upd_ne (ne_of_none (g.sub a u e) n)]; exact g.sub a u e
  len := g.len
  cell := fun i c e => by
    obtain ⟨a, e1, e2, e3, e4⟩ := g.cell i c e
    obtain ⟨u, q⟩ := e4.there
    exact ⟨a, e1, e2, e3, e4.eqH (upd_ne (ne_of_none q n))⟩
  inj := g.inj
  prv := fun a u e => by
    obtain ⟨h1, h2⟩ := g.prv a u e
    exact ⟨by rw [upd_ne (ne_of_none h1 n)]; exact h1, h2⟩
  ptup := g.ptup
end
/-- the instance that is being filled -/
structure Ini (K : PySem.W.Frag) (c : Str) (W : Wd) (fs : List (Str × D)) (P0 : Hp) (a dx : Addr) : Prop where
  sf : W.sf = some a
  n : P0 a = none
  p : ∃ vfs, W.P = upd P0 a (.ins (He.ga K c) dx vfs) ∧ vfs.map (·.1) = fs.map (·.1) ∧ Reps K W (fs.map (·.2)) (vfs.map (·.2))
theorem Ini.mono {K : PySem.W.Frag} {c : Str} {W W' : Wd} {fs : List (Str × D)} {P0 : Hp} {a dx : Addr} (i : Ini K c W fs P0 a dx) (l : W.le W') : Ini K c W' fs P0 a dx := by
  obtain ⟨vfs, h1, h2, h3⟩ := i.p
  exact ⟨l.sq.trans i.sf, i.n, vfs, l.pp.trans h1, h2, h3.mono l⟩
inductive FlI where
  | nx (δ : En) (fs : List (Str × D)) (S : Store)
  | exc (x : Xc) (S : Store)
  | bad
abbrev MI := En → List (Str × D) → Store → FlI
def iP (K : PySem.W.Frag) (c : Str) (P0 : Hp) (a dx : Addr) (W : Wd) (r : FlI) (Wx : WX) (E : Ends) : Prop := match r with
  | .nx δ fs S => ∀ W' H' σ, W.lf W' → Good K W' S H' → REnv K W' δ σ → Ini K c W' fs P0 a dx → E.nx σ H'
  | .exc x S => ∀ W' H' σ cls d, W.lf W' → Good K W' S H' → (∃ o, W'.P = upd P0 a o) → XRep K W' x cls d → Wx cls d σ H'
  | .bad => False
theorem iP.mono {K : PySem.W.Frag} {c : Str} {P0 : Hp} {a dx : Addr} {W W1 : Wd} {r : FlI} {Wx : WX} {E : Ends} (h : W.lf W1) (p : iP K c P0 a dx W r Wx E) : iP K c P0 a dx W1 r Wx E := by
  cases r with
  | nx δ fs S => exact fun W' H' σ l => p W' H' σ (h.trans l)
  | exc x S => exact fun W' H' σ cls d l => p W' H' σ cls d (h.trans l)
  | bad => exact p
def tI (K : PySem.W.Frag) (Wx : WX) (c : Str) (m : MI) : TS := fun E σ H => ∃ W S δ a dx fs P0, Good K W S H ∧ REnv K W δ σ ∧ Ini K c W fs P0 a dx ∧ iP K c P0 a dx W (m δ fs S) Wx E
abbrev SBI (X : Cx) (Wx : WX) (c : Str) (body : List Stmt) (m : MI) : Prop := PSs X body (tI X.K Wx c m)
section
variable {X : Cx} {Wx : WX} {c : Str} {st : Stmt} {sts : List Stmt} {ms : MS} {mi : MI} {e o : Expr} {m : ME} {pos : Pos}
def iEnd : MI := fun δ fs S => .nx δ fs S
def iOrd (ms : MS) (mi : MI) : MI := fun δ fs S => match ms δ S with
  | .nx δ' S' => mi δ' fs S'
  | .exc x _ S' => .exc x S'
  | _ => .bad
theorem sbi_nil : SBI X Wx c [] iEnd := PSs.imp pss_nil fun E σ H ⟨W, S, δ, a, dx, fs, P0, g, r, i, p⟩ => p W H σ W.le_refl.toLf g r i
theorem sbi_ord (h1 : SS X Wx st ms) (h2 : SBI X Wx c sts mi) : SBI X Wx c (st :: sts) (iOrd ms mi) :=
  PSs.imp (pss_cons h1 h2) fun E σ H ⟨W, S, δ, a, dx, fs, P0, g, r, i, p⟩ => ⟨W, S, δ, g, r, by
    unfold iOrd at p
    cases e : ms δ S with
    | nx δ' S' =>
      rw [e] at p
      exact fun W' H' σ' l g' r' => ⟨W', S', δ', a, dx, fs, P0, g', r', i.mono l, p.mono l⟩
    | exc x δ' S' =>
      rw [e] at p
      intro W' H' σ' cls d l g' r' x'
      obtain ⟨vfs, h1, _⟩ := i.p
      exact p W' H' σ' cls d l g' ⟨_, l.pp.trans h1⟩ x'
    | rt d S' => rw [e] at p; exact p.elim
    | bk δ' S' => rw [e] at p; exact p.elim
    | ct δ' S' => rw [e] at p; exact p.elim
    | bad => rw [e] at p; exact p.elim⟩
/-- o.f as a target -/
theorem pg_fld {f : Str} {ta : TE} (ha : PE X o ta) : PG X (.Attribute o f pos) (fun v σ H Q => ta σ H fun x H1 => ∃ a C dx fs, x = .ref a ∧ H1 a = some (.ins C dx fs) ∧ Cls X.K C ∧ NoAttr X.K C f ∧ fs.length < 1000 ∧ Q σ (upd H1 a (.ins C dx (putF f v fs)))) := by
  refine ⟨fun pins s σ H v u Q I r h => ?_⟩
  rw [assign_Attribute]
  refine wpAny_bind (wpAny_holding (thn (ha.run pins s σ H _ I h) fun ov s1 ⟨x, H1, I1, rx, a, C, dx, fs, ex, ea, c, n, l, q⟩ => ?_))
  subst ex
  obtain rfl : ov = Value.ref a := rx
  refine wpAny_bind (wpAny_standAt (wpAny_bind (wpAny_holding (setattr_ok I1 ea c n l r fun s3 I3 => wpAny_release ⟨σ, _, I3, q⟩))))
def putD (f : Str) (v : D) : List (Str × D) → List (Str × D)
  | [] => [(f, v)]
  | (g, x) :: r => if g = f then (g, v) :: r else (g, x) :: putD f v r
theorem put_reps {K : PySem.W.Frag} {W : Wd} {f : Str} {d : D} {v : V} (q : Rep K W d v) : ∀ {fs : List (Str × D)} {vfs : List (Str × V)}, vfs.map (·.1) = fs.map (·.1) → Reps K W (fs.map (·.2)) (vfs.map (·.2)) → (putF f v vfs).map (·.1) = (putD f d fs).map (·.1) ∧ Reps K W ((putD f d fs).map (·.2)) ((putF f v vfs).map (·.2))
  | [], [], _, _ => ⟨rfl, .cons q .nil⟩
  | [], _ :: _, e, _ => by cases e
  | _ :: _, [], e, _ => by cases e
  | (x, dx) :: fs, (y, vy) :: vfs, e, r => by
    simp only [List.map_cons, List.cons.injEq] at e
    obtain ⟨rfl, e⟩ := e
    cases r with
    | cons r1 r2 =>
      simp only [putD, putF]
      split
      · exact ⟨by simp [e], .cons q r2⟩
      · obtain ⟨h1, h2⟩ := put_reps q e r2
        exact ⟨by simp [h1], .cons r1 h2⟩
/-- the attributes ps set to ds -/
def putAll : List Str → List D → List (Str × D) → Option (List (Str × D))
  | [], [], fs => some fs
  | p :: ps, d :: ds, fs => if fs.length < 1000 then putAll ps ds (putD p d fs) else none
  | _, _, _ => none
def oI (K : PySem.W.Frag) (c : Str) (P0 : Hp) (a dx : Addr) (W : Wd) (δ : En) (S : Store) (r : Option (List (Str × D))) (Q : L2.St → Hp → Prop) : Prop := match r with
  | some fs => ∀ W' H' σ, W.lf W' → Good K W' S H' → REnv K W' δ σ → Ini K c W' fs P0 a dx → Q σ H'
  | none => False
theorem oI.mono {K : PySem.W.Frag} {P0 : Hp} {a dx : Addr} {W W1 : Wd} {δ : En} {S : Store} {r : Option (List (Str × D))} {Q : L2.St → Hp → Prop} (h : W.lf W1) (p : oI K c P0 a dx W δ S r Q) : oI K c P0 a dx W1 δ S r Q := by
  cases r with
  | none => exact p
  | some fs => exact fun W' H' σ l => p W' H' σ (h.trans l)
def tGI (K : PySem.W.Frag) (c f : Str) : TG := fun v σ H Q => ∃ W S δ a dx fs P0 d, Good K W S H ∧ REnv K W δ σ ∧ δ[0]? = some (some .slf) ∧ Ini K c W fs P0 a dx ∧ Rep K W d v ∧ fs.length < 1000 ∧ oI K c P0 a dx W δ S (some (putD f d fs)) Q
def tGIs (K : PySem.W.Frag) (c : Str) (ps : List Str) : TGs := fun vs σ H Q => ∃ W S δ a dx fs P0 ds, Good K W S H ∧ REnv K W δ σ ∧ δ[0]? = some (some .slf) ∧ Ini K c W fs P0 a dx ∧ Reps K W ds vs ∧ oI K c P0 a dx W δ S (putAll ps ds fs) Q
/-- self.f -/
theorem sgi {x f : Str} {px : Pos} (hN : X.N[0]? = some x) (hv : Vis X.env.scope x) (hd : (x == ("__debug__" : Str)) = false) (hcd : (x == ("__classdict__" : Str)) = false) (hc : Cls X.K (He.ga X.K c) ∧ NoAttr X.K (He.ga X.K c) f) : PG X (.Attribute (.Name x px) f pos) (tGI X.K c f) :=
  PG.imp (pg_fld (pe_var hN hv hd hcd)) fun v σ H Q ⟨W, S, δ, a, dx, fs, P0, d, g, r, e0, i, q, hl, p⟩ => by
    obtain ⟨v0, h0, s0⟩ := r.2 0 _ e0
    rcases s0 with s0 | ⟨_, a', ha, rfl⟩
    · cases s0
    · rw [i.sf] at ha; cases ha
      obtain ⟨vfs, h1, h2, h3⟩ := i.p
      have hP : W.P a = some (.ins (He.ga X.K c) dx vfs) := by rw [h1, upd_same]
      have hH := (g.prv a _ hP).1
      obtain ⟨k1, k2⟩ := put_reps (f := f) q h2 h3
      refine ⟨.ref a, h0, a, _, dx, vfs, rfl, hH, hc.1, hc.2, by have := congrArg List.length h2; simp at this; omega, ?_⟩
      have l : W.lf (W.prv a (.ins (He.ga X.K c) dx (putF f v vfs))) := W.prv_lf _ _
      refine p _ _ σ l (g.updPrv hP) (r.mono l) ⟨i.sf, i.n, _, ?_, k1, k2.mono l⟩
      show upd W.P a _ = upd P0 a _
      rw [h1]
      funext b
      by_cases hb : b = a
      · subst hb; rw [upd_same, upd_same]
      · rw [upd_ne hb, upd_ne hb, upd_ne hb]
theorem sgis_nil : PGs X [] (tGIs X.K c []) := PGs.imp pgs_nil fun v σ H Q ⟨W, S, δ, a, dx, fs, P0, ds, g, r, e0, i, q, p⟩ => by
  cases q with
  | nil => exact ⟨rfl, p W H σ W.le_refl.toLf g r i⟩
  | cons _ _ => exact p.elim
theorem sgis_cons {es : List Expr} {f : Str} {ps : List Str} (h1 : PG X e (tGI X.K c f)) (h2 : PGs X es (tGIs X.K c ps)) (hs : (assignEach (e :: es) X.env).map (·.2) = assign e X.env :: (assignEach es X.env).map (·.2)) : PGs X (e :: es) (tGIs X.K c (f :: ps)) :=
  PGs.imp (pgs_cons h1 h2 hs) fun v σ H Q ⟨W, S, δ, a, dx, fs, P0, ds, g, r, e0, i, q, p⟩ => by
    cases q with
    | nil => exact p.elim
    | @cons d v ds vs q1 q2 =>
      simp only [putAll] at p
      split at p
      · rename_i hl
        exact ⟨v, vs, rfl, W, S, δ, a, dx, fs, P0, d, g, r, e0, i, q1, hl, fun W' H' σ' l g' r' i' => ⟨W', S, δ, a, dx, _, P0, ds, g', r', e0, i', q2.mono l, p.mono l⟩⟩
      · exact p.elim
/-- self.f = e -/
def isSlf : En → Bool
  | some D.slf :: _ => true
  | _ => false
theorem isSlf_of {δ : En} (h : isSlf δ = true) : δ[0]? = some (some D.slf) := by
  unfold isSlf at h
  split at h
  · rfl
  · cases h
def iSet (m : ME) (f : Str) (mi : MI) : MI := fun δ fs S => match m δ S with
  | .ok d S' => if isSlf δ then (match putAll [f] [d] fs with
    | some fs' => mi δ fs' S'
    | none => .bad) else .bad
  | .exc x S' => .exc x S'
  | .bad => .bad
def iSets (m : ME) (ps : List Str) (mi : MI) : MI := fun δ fs S => match m δ S with
  | .ok (D.tup ds) S' => if isSlf δ then (match putAll ps ds fs with
    | some fs' => mi δ fs' S'
    | none => .bad) else .bad
  | .exc x S' => .exc x S'
  | _ => .bad
theorem putAll_len : ∀ {ps : List Str} {ds : List D} {fs fs' : List (Str × D)}, putAll ps ds fs = some fs' → ds.length = ps.length
  | [], [], _, _, _ => rfl
  | _ :: _, _ :: _, fs, _, e => by
    simp only [putAll] at e
    split at e
    · simp [putAll_len e]
    · cases e
  | [], _ :: _, _, _, e => by simp [putAll] at e
  | _ :: _, [], _, _, e => by simp [putAll] at e
theorem sbi_set {f : Str} {tg : Expr} (he : SE X Wx e m) (hg : PG X tg (tGI X.K c f)) (h2 : SBI X Wx c sts mi) (hs : swapsWithSole [tg] e pos.line X.env = pure false) (hw : swappedStores [tg] e X.env = pure none) (h1 : (assignEach [tg] X.env).map (·.2) = [assign tg X.env]) :
    SBI X Wx c (.Assign [tg] e pos :: sts) (iSet m f mi) :=
  PSs.imp (pss_cons (ps_asg he hg hs hw h1) h2) fun E σ H ⟨W, S, δ, a, dx, fs, P0, g, r, i, p⟩ => ⟨W, S, δ, g, r, by
    unfold iSet at p
    cases e1 : m δ S with
    | bad => rw [e1] at p; exact p.elim
    | exc x S' =>
      rw [e1] at p
      intro W' H' cls d l g' x'
      obtain ⟨vfs, h1, _⟩ := i.p
      exact p W' H' σ cls d l g' ⟨_, l.pp.trans h1⟩ x'
    | ok d S' =>
      rw [e1] at p
      dsimp only at p
      split at p
      · rename_i hs
        have hs := isSlf_of hs
        cases e2 : putAll [f] [d] fs with
        | none => rw [e2] at p; exact p.elim
        | some fs' =>
          rw [e2] at p
          simp only [putAll] at e2
          split at e2
          · rename_i hl
            cases e2
            intro W' H' v l g' q
            exact ⟨W', S', δ, a, dx, fs, P0, d, g', r.mono l, hs, i.mono l, q, hl, fun W2 H2 σ2 l2 g2 r2 i2 => ⟨W2, S', δ, a, dx, _, P0, g2, r2, i2, p.mono (l.toLf.trans l2)⟩⟩
          · cases e2
      · exact p.elim⟩
theorem sbi_sets {ps : List Str} {es : List Expr} {k n : Nat} {pt : Pos} (hc : X.calm = true) (he : SE X Wx e m) (hg : PGs X es (tGIs X.K c ps)) (h2 : SBI X Wx c sts mi) (hn : (assignEach es X.env).length = ps.length) (hst : (assignEach es X.env).findIdx? (·.1) = none)
    (hs : swapsWithSole [.Tuple es k pt] e pos.line X.env = pure false) (hw : swappedStores [.Tuple es k pt] e X.env = pure none) (h1 : (assignEach [.Tuple es k pt] X.env).map (·.2) = [assign (.Tuple es k pt) X.env]) :
    SBI X Wx c (.Assign [.Tuple es k pt] e pos :: sts) (iSets m ps mi) :=
  PSs.imp (pss_cons (ps_asg he (pg_tup hc hg hn hst) hs hw h1) h2) fun E σ H ⟨W, S, δ, a, dx, fs, P0, g, r, i, p⟩ => ⟨W, S, δ, g, r, by
    unfold iSets at p
    cases e1 : m δ S with
    | bad => rw [e1] at p; exact p.elim
    | exc x S' =>
      rw [e1] at p
      intro W' H' cls d l g' x'
      obtain ⟨vfs, h1, _⟩ := i.p
      exact p W' H' σ cls d l g' ⟨_, l.pp.trans h1⟩ x'
    | ok d S' =>
      rw [e1] at p
      cases d with
      | tup ds =>
        dsimp only at p
        split at p
        · rename_i hs
          have hs := isSlf_of hs
          cases e2 : putAll ps ds fs with
          | none => rw [e2] at p; exact p.elim
          | some fs' =>
            rw [e2] at p
            intro W' H' v l g' q
            cases q with
            | @tup a2 vs ds q1 q2 =>
              exact ⟨a2, vs, rfl, g'.sqT q1, by rw [← q2.length]; exact putAll_len e2, W', S', δ, a, dx, fs, P0, ds, g', r.mono l, hs, i.mono l, q2, by
                rw [e2]
                exact fun W2 H2 σ2 l2 g2 r2 i2 => ⟨W2, S', δ, a, dx, _, P0, g2, r2, i2, p.mono (l.toLf.trans l2)⟩⟩
        · exact p.elim
      | _ => exact p.elim⟩
end
end Ev
/-! # what may be called, free of the caller; the bodies of defs -/
namespace Ev
open PySem PySem.Spec PySem.SeqAt L2 PyProof.Rows
/-- the value at v may be called with keywords ks (after the values by place): what comes is m -/
def CalG (P : Program) (w : World) (K : PySem.W.Frag) (mg : Str → Option Value) (base : Heap) (k : Nat) (v : Addr) (ks : List Str) (m : List D → M D) : Prop :=
  ∀ (X : Cx) (Wx : WX), X.prog = P → X.w = w → X.K = K → X.mg = mg → X.base = base → Room k X.A → X.A.guards = some [] → Takes X Wx → CallF X Wx (.ref v) ks (fun ds es => m (ds ++ es))
def BindK (K : PySem.W.Frag) (fd : FuncData) (ps ks : List Str) : Prop :=
  ∀ (s : Shared) (us ws : List Value), us.length + ks.length = ps.length → ws.length = ks.length → BindsTo s fd ⟨us, ks.zip ws⟩ (ps.zip (us ++ ws))
theorem bindK_of {K : PySem.W.Frag} {x qual : Str} {params : Arguments} {body : List Stmt} {scope : Scope} {f : Addr} {fd : FuncData} {ps ks : List Str} (F : FunD K x qual params body scope [] [] f fd)
    (h : ∀ (kV doc pm : Value) (an : Option Addr) (cdv ct : Value) (us ws : List Value), us.length + ks.length = ps.length → ws.length = ks.length → bindArgs (PySem.W.fnOf x qual params body scope .none kV doc pm an cdv ct) ⟨us, ks.zip ws⟩ = pure (ps.zip (us ++ ws))) : BindK K fd ps ks := by
  obtain ⟨oc, od, dV, kV, doc, pm, an, cdv, ct, osl, rfl, lk, hcd, hD, hK⟩ := F.ex
  rcases hD with ⟨_, rfl⟩ | ⟨e, _⟩
  · exact fun s us ws h1 h2 => .of_eq (h kV doc pm an cdv ct us ws h1 h2)
  · exact absurd rfl e
theorem paired_append {α β : Type} {F : α → β → Prop} : ∀ {xs : List α} {us : List β} {ys : List α} {ws : List β}, Paired F xs us → Paired F ys ws → Paired F (xs ++ ys) (us ++ ws)
  | _, _, _, _, .nil, h => h
  | _, _, _, _, .cons a t, h => .cons a (paired_append t h)
section
variable {P : Program} {w : World} {K : PySem.W.Frag} {mg : Str → Option Value} {base : Heap}
theorem calG_fn {k n : Nat} {f : Addr} {fd : FuncData} {ps ks : List Str} {m : List D → M D} (F : FnG P w K mg base k f fd ps (spM K n m)) (hb : BindK K fd ps ks) (hn : n = ps.length) (hm : ∀ ds S, ds.length ≠ n → m ds S = .bad) : CalG P w K mg base k f ks m := by
  intro X Wx e1 e2 e3 e4 e5 hr hg tk
  subst e1 e2 e3 e4 e5
  intro pins s σ H vs zs us ws Q I r1 r2 hl ⟨W, S, ds, es, g, q1, q2, p⟩
  dsimp only at p
  by_cases hlen : (ds ++ es).length = n
  · have l1 : ds.length = us.length := q1.length.trans (Paired.length r1)
    have l2 : ws.length = ks.length := (Paired.length r2).symm.trans hl
    have l3 : es.length = ks.length := q2.length.trans hl
    have hv : (vs ++ zs).length = n := by rw [← hlen]; simp [q1.length, q2.length]
    have want : spM X.K n m (vs ++ zs) H Q (fun cls d H' => Wx cls d σ H') := ⟨hv, W, S, ds ++ es, g, q1.append q2, by
      cases e5 : m (ds ++ es) S with
      | ok d S' => rw [e5] at p; exact p
      | exc x S' => rw [e5] at p; exact p
      | bad => rw [e5] at p; exact p⟩
    refine wpAny_call (codeAny_mono (F.run X.A hg X.stack s H ⟨us, ks.zip ws⟩ (us ++ ws) (vs ++ zs) Q _ hr I.env0 (hb s us ws (by rw [← hn, ← hlen]; simp [l1, l3]) l2) (paired_append r1 r2) want) fun res s' hq => ?_)
    cases res with
    | error ex => exact tk ex s' (XE.of_call (W := Wx) I (fun cls d H' h => h) hq)
    | ok fl =>
      cases fl with
      | ret u => exact I.after hq
      | next => exact hq.elim
      | brk => exact hq.elim
      | cont => exact hq.elim
  · rw [hm _ S hlen] at p
    exact p.elim
/-! ### bodies -/
def startD (nN : Nat) (ds : List D) : En := ds.map some ++ List.replicate (nN - ds.length) none
theorem renv_start {W : Wd} {N : List Str} {ds : List D} {vs : List V} (r : Reps K W ds vs) : REnv K W (startD N.length ds) (L2.start N vs) := by
  refine ⟨by simp [startD, L2.start, r.length], fun i d e => ?_⟩
  unfold startD at e
  unfold L2.start
  by_cases h : i < ds.length
  · rw [List.getElem?_append_left (by simpa using h)] at e
    simp only [List.getElem?_map, Option.map_eq_some_iff] at e
    obtain ⟨d', e1, e2⟩ := e
    cases e2
    obtain ⟨v, h1, h2⟩ := r.get e1
    refine ⟨v, ?_, .inl h2⟩
    rw [List.getElem?_append_left (by simpa [← r.length] using h)]
    simp [h1]
  · rw [List.getElem?_append_right (by simpa using h)] at e
    rw [List.getElem?_replicate] at e
    split at e <;> cases e
/-- the body's reading as a function -/
def funM (nN n : Nat) (m : MS) : List D → M D := fun ds S => if ds.length = n then (match m (startD nN ds) S with
  | .rt d S' => .ok d S'
  | .nx _ S' => .ok .non S'
  | .exc x _ S' => .exc x S'
  | _ => .bad) else .bad
theorem funM_len {nN n : Nat} {m : MS} (ds : List D) (S : Store) (h : ds.length ≠ n) : funM nN n m ds S = .bad := by unfold funM; rw [if_neg h]
/-- a body does what m says, wherever it is called from -/
def FB (P : Program) (w : World) (K : PySem.W.Frag) (mg : Str → Option Value) (base : Heap) (k : Nat) (N : List Str) (qual : Str) (scope : Scope) (body : List Stmt) (m : MS) : Prop :=
  ∀ (f : Addr) (cdv : Value) (A : Around) (outer : List Env) (s : Shared) (H : Hp) (E : XK), A.guards = some [] → Room k (A.deeper (envOfC qual scope s.heap.objs.size f cdv)) →
    SB (cxOf (L2.CX P w) P w K mg base N qual scope f cdv A outer s H E) (fun cls d _ H' => E cls d H') body m
theorem fnG_body {k : Nat} {f : Addr} {name qual : Str} {params : Arguments} {body : List Stmt} {scope : Scope} {fd : FuncData} {N ps : List Str} {m : MS}
    (F : FunD K name qual params body scope [] [] f fd) (Sc : FnScope N ps scope) (B : FB P w K mg base k N qual scope body m) : FnG P w K mg base (k + 1) f fd ps (spM K ps.length (funM N.length ps.length m)) := by
  refine fnG_of F Sc (fun vs H Q E h => h.1) fun cdv A outer s H vs Q E hg hr ⟨hl, W, S, ds, g, r, p⟩ => ⟨_, B f cdv A outer s H E hg hr, W, S, startD N.length ds, g, renv_start r, ?_⟩
  have hd : ds.length = ps.length := r.length.trans hl
  unfold funM at p
  rw [if_pos hd] at p
  cases e : m (startD N.length ds) S with
  | rt d S' => rw [e] at p; exact p
  | nx δ S' => rw [e] at p; exact fun W' H' σ l g' _ => p W' H' .non l g' .non
  | exc x δ S' => rw [e] at p; exact fun W' H' σ cls d l g' _ x' => p W' H' cls d l g' x'
  | bk δ S' => rw [e] at p; exact p.elim
  | ct δ S' => rw [e] at p; exact p.elim
  | bad => rw [e] at p; exact p.elim
/-! ### __init__ -/
def spI (K : PySem.W.Frag) (c : Str) (n : Nat) (m : List D → M (List (Str × D))) : Sp := fun vs H Q E => ∃ W S a dx ds P0 vs', vs = .ref a :: vs' ∧ vs'.length = n ∧ Good K W S H ∧ Ini K c W [] P0 a dx ∧ Reps K W ds vs' ∧ (match m ds S with
  | .ok fs S' => ∀ W' H', W.lf W' → Good K W' S' H' → Ini K c W' fs P0 a dx → Q .non H'
  | .exc x S' => ∀ W' H' cls d, W.lf W' → Good K W' S' H' → (∃ o, W'.P = upd P0 a o) → XRep K W' x cls d → E cls d H'
  | .bad => False)
def initM (nN n : Nat) (m : MI) : List D → M (List (Str × D)) := fun ds S => if ds.length = n then (match m (some .slf :: startD (nN - 1) ds) [] S with
  | .nx _ fs S' => .ok fs S'
  | .exc x S' => .exc x S'
  | .bad => .bad) else .bad
def FBI (P : Program) (w : World) (K : PySem.W.Frag) (mg : Str → Option Value) (base : Heap) (k : Nat) (N : List Str) (qual : Str) (scope : Scope) (c : Str) (body : List Stmt) (m : MI) : Prop :=
  ∀ (f : Addr) (cdv : Value) (A : Around) (outer : List Env) (s : Shared) (H : Hp) (E : XK), A.guards = some [] → Room k (A.deeper (envOfC qual scope s.heap.objs.size f cdv)) →
    SBI (cxOf (L2.CX P w) P w K mg base N qual scope f cdv A outer s H E) (fun cls d _ H' => E cls d H') c body m
theorem fnG_init {k n : Nat} {c : Str} {f : Addr} {name qual : Str} {params : Arguments} {body : List Stmt} {scope : Scope} {fd : FuncData} {N ps : List Str} {m : MI} (hn : ps.length = n + 1)
    (F : FunD K name qual params body scope [] [] f fd) (Sc : FnScope N ps scope) (B : FBI P w K mg base k N qual scope c body m) : FnG P w K mg base (k + 1) f fd ps (spI K c n (initM N.length n m)) := by
  have hN : n + 1 ≤ N.length := by have := congrArg List.length Sc.pre; simp at this; omega
  refine fnG_of F Sc (fun vs H Q E h => ?_) fun cdv A outer s H vs Q E hg hr ⟨W, S, a, dx, ds, P0, vs', ev, hl, g, i, r, p⟩ => ⟨_, B f cdv A outer s H E hg hr, W, S, some .slf :: startD (N.length - 1) ds, a, dx, [], P0, g, ?_, i, ?_⟩
  · obtain ⟨W, S, a, dx, ds, P0, vs', ev, hl, _⟩ := h
    rw [ev, hn]; simp [hl]
  · subst ev
    have r0 := renv_start (N := N.drop 1) r
    have e1 : L2.start N (.ref a :: vs') = some (.ref a) :: L2.start (N.drop 1) vs' := by
      unfold L2.start
      simp only [List.map_cons, List.cons_append, List.length_cons, List.length_drop]
      congr 2
      rw [show N.length - (vs'.length + 1) = N.length - 1 - vs'.length by omega]
    rw [e1]
    have e2 : (N.drop 1).length = N.length - 1 := by simp
    rw [e2] at r0
    refine ⟨by simp [r0.1], fun j d e => ?_⟩
    cases j with
    | zero =>
      simp at e
      subst e
      exact ⟨.ref a, rfl, .inr ⟨rfl, a, i.sf, rfl⟩⟩
    | succ j =>
      obtain ⟨v, h1, h2⟩ := r0.2 j d (by simpa using e)
      exact ⟨v, by simpa using h1, h2⟩
  · have hd : ds.length = n := r.length.trans hl
    unfold initM at p
    rw [if_pos hd] at p
    cases e : m (some .slf :: startD (N.length - 1) ds) [] S with
    | nx δ fs S' => rw [e] at p; exact fun W' H' σ l g' _ i' => p W' H' l g' i'
    | exc x S' => rw [e] at p; exact fun W' H' σ cls d l g' i' x' => p W' H' cls d l g' i' x'
    | bad => rw [e] at p; exact p.elim
theorem rep_other {W : Wd} {P0 : Hp} {sf : Option Addr} {ds : List D} {vs : List V} (r : Reps K W ds vs) : Reps K ⟨W.F, W.m, P0, sf⟩ ds vs := Reps.mono0 (W := W) (W' := ⟨W.F, W.m, P0, sf⟩) (fun _ _ h => h) (fun _ _ h => h) r
/-- C(..) -/
theorem calG_cls {k n : Nat} {c : Str} {f : Addr} {fd : FuncData} {ps ks : List Str} {m : List D → M (List (Str × D))} (Mc : Mk K (He.ga K c) f) (F : FnG P w K mg base k f fd ps (spI K c n m)) (hb : BindK K fd ps ks) (hn : ps.length = n + 1) (hm : ∀ ds S, ds.length ≠ n → m ds S = .bad) :
    CalG P w K mg base (k + 1) (He.ga K c) ks (fun ds => M.bind (m ds) fun fs => M.pure (.ins c fs)) := by
  intro X Wx e1 e2 e3 e4 e5 hr hg tk
  subst e1 e2 e3 e4 e5
  intro pins s σ H vs zs us ws Q I r1 r2 hl ⟨W, S, ds, es, g, q1, q2, p⟩
  dsimp only at p
  by_cases hlen : (ds ++ es).length = n
  · have l1 : ds.length = us.length := q1.length.trans (Paired.length r1)
    have l2 : ws.length = ks.length := (Paired.length r2).symm.trans hl
    have l3 : es.length = ks.length := q2.length.trans hl
    have hv : (vs ++ zs).length = n := by rw [← hlen]; simp [q1.length, q2.length]
    have n1 : H (s.heap.objs.size + 1) = none := I.hok.fresh (Nat.le_succ _)
    have n0 : H s.heap.objs.size = none := I.hok.fresh (Nat.le_refl _)
    have ne : s.heap.objs.size + 1 ≠ s.heap.objs.size := Nat.succ_ne_self _
    have I2 := Inv.made (C := He.ga X.K c) I
    have g0 : Good X.K W S (upd H s.heap.objs.size (.own (s.heap.objs.size + 1))) := g.skip n0
    have g1 := g0.newPrv (p := s.heap.objs.size + 1) (o := .ins (He.ga X.K c) s.heap.objs.size []) (by rw [upd_ne ne]; exact n1)
    have g2 := g1.other (P := (W.prv (s.heap.objs.size + 1) (.ins (He.ga X.K c) s.heap.objs.size [])).P) (sf := some (s.heap.objs.size + 1)) fun _ _ h => h
    have pn : W.P (s.heap.objs.size + 1) = none := g.freeP n1
    have want : spI X.K c n m (.ref (s.heap.objs.size + 1) :: (vs ++ zs)) (upd (upd H s.heap.objs.size (.own (s.heap.objs.size + 1))) (s.heap.objs.size + 1) (.ins (He.ga X.K c) s.heap.objs.size [])) (fun v H2 => v = .non ∧ Q (.ref (s.heap.objs.size + 1)) H2) (fun cls d H' => Wx cls d σ H') := by
      refine ⟨_, S, s.heap.objs.size + 1, s.heap.objs.size, ds ++ es, W.P, vs ++ zs, rfl, hv, g2, ⟨rfl, pn, [], rfl, rfl, .nil⟩, Reps.mono0 (W := W) (W' := ⟨W.F, W.m, (W.prv (s.heap.objs.size + 1) (.ins (He.ga X.K c) s.heap.objs.size [])).P, some (s.heap.objs.size + 1)⟩) (fun _ _ h => h) (fun _ _ h => h) (q1.append q2), ?_⟩
      cases e5 : m (ds ++ es) S with
      | ok fs S' =>
        simp only [M.bind, e5, M.pure] at p
        intro W' H' l g' i
        obtain ⟨vfs, h1, h2, h3⟩ := i.p
        have g3 := g'.unPrv h1 pn
        have g4 := g3.other (P := W.P) (sf := W.sf) fun _ _ h => h
        have lf2 := g'.unPrv_lf h1
        refine ⟨rfl, p ⟨upd W'.F (s.heap.objs.size + 1) (.ins (He.ga X.K c) s.heap.objs.size vfs), W'.m, W.P, W.sf⟩ H' _ ⟨⟨fun a o h => lf2.f a o (l.f a o h), rfl, l.mm⟩, rfl⟩ g4 (.ins (dx := s.heap.objs.size) upd_same h2 ?_)⟩
        exact Reps.mono0 (W := W') (W' := ⟨upd W'.F (s.heap.objs.size + 1) (.ins (He.ga X.K c) s.heap.objs.size vfs), W'.m, W.P, W.sf⟩) (fun a o h => lf2.f a o h) (fun _ _ h => h) h3
      | exc x S' =>
        simp only [M.bind, e5] at p
        intro W' H' cls d l g' ⟨o, hP⟩ x'
        have g4 := g'.other (P := W.P) (sf := W.sf) fun a u h => by
          rw [hP]
          have na : a ≠ s.heap.objs.size + 1 := fun z => by subst z; rw [pn] at h; cases h
          rw [upd_ne na]; exact h
        refine p ⟨W'.F, W'.m, W.P, W.sf⟩ H' cls d ⟨⟨fun a o h => l.f a o h, rfl, l.mm⟩, rfl⟩ g4 ?_
        obtain ⟨x1, x2⟩ := x'
        refine ⟨x1, ?_⟩
        rcases x2 with x2 | ⟨a, vfs, y1, y2, y3, y4⟩
        · exact .inl x2
        · exact .inr ⟨a, vfs, y1, y2, y3, rep_other y4⟩
      | bad => simp only [M.bind, e5] at p; exact p
    have r3 : Vals (V.ref (s.heap.objs.size + 1) :: (vs ++ zs)) (Value.ref (s.heap.objs.size + 1) :: (us ++ ws)) := .cons rfl (paired_append r1 r2)
    refine wpAny_call (make_map (f := f) I.kIn Mc.makes Mc.init (beq_iff_eq.mp Mc.fn) (codeAny_mono (F.run _ ?_ X.stack _ _ ⟨Value.ref (s.heap.objs.size + 1) :: us, ks.zip ws⟩ (Value.ref (s.heap.objs.size + 1) :: (us ++ ws)) _ _ _ (hr.make (He.ga X.K c) us (ks.zip ws))
      (I2.env0.make (He.ga X.K c) us (ks.zip ws)) (hb _ (Value.ref (s.heap.objs.size + 1) :: us) ws (by rw [hn, ← hlen]; simp [l1, l3]; omega) l2) r3 want) fun r s' hq' => ?_))
    · exact hg
    cases r with
    | error e => exact tk e s' (XE.of_call (W := Wx) I2 (fun cls d H' h => h) hq')
    | ok fl =>
      cases fl with
      | ret u =>
        obtain ⟨v, H', I3, rv, ev, q3⟩ := I2.after hq'
        subst ev
        exact ⟨rv, ⟨V.ref (s.heap.objs.size + 1), H', I3, rfl, q3⟩⟩
      | next => exact False.elim hq'
      | brk => exact False.elim hq'
      | cont => exact False.elim hq'
  · simp only [M.bind, hm _ S hlen] at p
    exact p.elim
end
end Ev
/-! # more rules: iterating over what comes; names of the module; calls, methods; freezing -/
namespace Ev
open PySem PySem.Spec PySem.SeqAt L2 PyProof.Rows
section
variable {X : Cx} {Wx : WX} {a b c e o tg : Expr} {es : List Expr} {ma mb mc m mo : ME} {mas mks : MA} {pos p : Pos}
/-! ### for x in e: a list, a tuple, a text -/
def anyOf : D → Option (List D)
  | .lst ds => some ds
  | .tup ds => some ds
  | .str z => some (signs z)
  | _ => none
def iAny (m : ME) : MA := fun δ => M.bind (m δ) fun d S => match anyOf d with
  | some ds => .ok ds S
  | none => .bad
theorem si_any (h : SE X Wx e m) : SI X Wx tg e (iAny m) := by
  refine ⟨fun pins s σ H R I ⟨W, S, δ, g, r, hp⟩ => ?_⟩
  refine thn (h.run pins s σ H _ I ⟨W, S, δ, g, r, okP.bind (R := Rep X.K) hp⟩) fun v s1 ⟨x, H1, I1, r1, W1, S1, d, l1, g1, q1, p1⟩ => ?_
  cases e1 : anyOf d with
  | none => rw [e1] at p1; exact p1.elim
  | some ds =>
    rw [e1] at p1
    have fpk : ∀ b ∈ [s1.heap.objs.size], FpOk X pins H1 b := fun b hb => by
      have e : b = s1.heap.objs.size := by simpa using hb
      subst e
      exact I1.fpOk (Nat.le_refl _) (I1.hok.fresh (Nat.le_refl _))
    cases q1 with
    | @lst a vs ds' q r2 =>
      cases e1
      obtain rfl : v = Value.ref a := r1
      obtain ⟨its, rv, p, hz⟩ := I1.list (SqL.of (g1.sub _ _ q))
      refine wpAny_pyIter_list p.isList ⟨s1.heap.objs.size, [s1.heap.objs.size], _, _, H1, rfl, I1.kept (t' := s1.toks) fun b o e => Heap.get?_push_of_some _ e, turn_list a _, ⟨_, Heap.get?_push_size _ rfl, rfl, rfl⟩, fpk, ?_⟩
      have w := walk_list (K := X.K) (a := a) (xs := vs)
      rw [← r2.length] at w
      exact okP.pure p1 g1 (walkD_at r2 (w.mono (fun H h => SqL.of (h _ _ q)) fun _ _ _ _ _ _ y => y))
    | @tup a vs ds' q r2 =>
      cases e1
      obtain rfl : v = Value.ref a := r1
      obtain ⟨its, rv, p, hz⟩ := I1.tuple (g1.sqT q)
      refine wpAny_pyIter_tuple (show s1.heap.IsTuple a its.toArray from p) ⟨s1.heap.objs.size, [s1.heap.objs.size], _, _, H1, rfl, I1.kept (t' := s1.toks) fun b o e => Heap.get?_push_of_some _ e, turn_tuple a _, ⟨_, Heap.get?_push_size _ rfl, rfl, rfl⟩, fpk, ?_⟩
      have w := walk_tup (K := X.K) (a := a) (xs := vs)
      rw [← r2.length] at w
      refine okP.pure p1 g1 (walkD_at r2 (w.mono (fun H h => ?_) fun _ _ _ _ _ _ y => y))
      rcases q with q | q
      · exact .inl (rd_sub h q)
      · exact .inr q
    | str z =>
      cases e1
      obtain ⟨t, rfl⟩ := r1
      have wd : WalkD X.K W1 (signs z) (Its z) := by
        have w := walk_str (z := z)
        have el : (signs z).length = z.cps.size := by simp [signs]
        unfold WalkD
        rw [el]
        refine w.mono (fun _ _ => trivial) fun i H x H' hi hG y d hd W2 S2 l g => ?_
        obtain ⟨rfl, c, hc, rfl⟩ := y
        refine ⟨W2, W2.le_refl, g, ?_⟩
        have : d = .str ⟨#[c]⟩ := by
          simp only [signs, List.getElem?_map, Array.getElem?_toList, hc, Option.map_some, Option.some.injEq] at hd
          exact hd.symm
        subst this
        exact .str _
      cases ha : z.cps.all (· < 128)
      · exact wpAny_pyIter_wide ha (pi_one (tk := s1.toks) I1 _ (turn_str _ z t "str_iterator" (.inr rfl)) ⟨_, Heap.get?_push_size _ rfl, rfl, rfl⟩ (okP.pure p1 g1 wd))
      · exact wpAny_pyIter_ascii ha (pi_one (tk := s1.toks) I1 _ (turn_str _ z t "str_ascii_iterator" (.inl rfl)) ⟨_, Heap.get?_push_size _ rfl, rfl, rfl⟩ (okP.pure p1 g1 wd))
    | _ => cases e1
/-! ### names of the module -/
theorem se_gint {x : Str} {i : Int} (hg : Gl X x) (hm : ∃ t, X.mg x = some (.int i t)) (hd : (x == ("__debug__" : Str)) = false) : SE X Wx (.Name x pos) (eC (.int i)) := by
  obtain ⟨t, hm⟩ := hm
  exact se_c (v := .int i) (pe_glob hg hm ⟨t, rfl⟩ hd) fun _ => .int i
theorem se_gstr {x z : Str} (hg : Gl X x) (hm : ∃ t, X.mg x = some (.str z t)) (hd : (x == ("__debug__" : Str)) = false) : SE X Wx (.Name x pos) (eC (.str z)) := by
  obtain ⟨t, hm⟩ := hm
  exact se_c (v := .str z) (pe_glob hg hm ⟨t, rfl⟩ hd) fun _ => .str z
/-! ### xs[::-1] -/
def pRev : D → PO := fun d S => match lstOf S d with
  | some ds => newL ds.reverse S
  | none => none
def eRev (mo : ME) : ME := fun δ => M.bind (mo δ) fun x => lft (pRev x)
theorem se_rev {k : Nat} {p1 p2 p3 : Pos} (ho : SE X Wx o mo) : SE X Wx (.Subscript o (.Slice none none (some (.UnaryOp .USub (.Constant (.int 1) k p1) p2)) p3) pos) (eRev mo) :=
  PE.imp (pe_revL ho) fun σ H Q ⟨W, S, δ, g, r, h⟩ => ⟨W, S, δ, g, r, (okP.bind (R := Rep X.K) h).imp fun v H1 ⟨W1, S1, d, l1, g1, r1, p1⟩ => by
    have p2 := p1.lft
    unfold pRev at p2
    cases e1 : lstOf S1 d with
    | none => rw [e1] at p2; exact p2.elim
    | some ds =>
      rw [e1] at p2
      obtain ⟨a, vs, rfl, h2, h3⟩ := lstOf_ok e1 g1 r1
      exact ⟨a, vs, rfl, h2, (newL_ok p2 g1 h3.reverse).2⟩⟩
/-! ### calls of what the module holds -/
def eCal (m : List D → M D) (mas : MA) : ME := fun δ => M.bind (mas δ) m
def eCalK (m : List D → M D) (mas mks : MA) : ME := fun δ => M.bind (mas δ) fun ds => M.bind (mks δ) fun es => m (ds ++ es)
section
variable {m : List D → M D} {x : Str} {f : Addr} {ks : List Str} {k : Nat}
theorem se_cal (hf : CalG X.prog X.w X.K X.mg X.base k f [] m) (hr : Room k X.A) (hgd : X.A.guards = some []) (tk : Takes X Wx) (hgl : Gl X x) (hm : X.mg x = some (.ref f)) (hk : PySem.W.keepIn X.K (.ref f) = true) (hdb : (x == ("__debug__" : Str)) = false) (ha : SA X Wx (e :: es) mas)
    (he : starEach (e :: es) X.env = (false, eval e X.env) :: starEach es X.env) (hpl : (backTo pos (starEach es X.env)).any (·.1) = false) : SE X Wx (.Call (.Name x p) (e :: es) [] pos) (eCal m mas) :=
  PE.imp (se_call (hf X Wx rfl rfl rfl rfl rfl hr hgd tk) hgl hm hk hdb ha he hpl) fun σ H Q ⟨W, S, δ, g, r, h⟩ => ⟨W, S, δ, g, r, by
    have : eCallF (fun ds es => m (ds ++ es)) mas aNil δ S = eCal m mas δ S := by
      simp only [eCallF, eCal, aNil, M.bind, M.pure, List.append_nil]
    rw [this]; exact h⟩
theorem se_cal0 (hf : CalG X.prog X.w X.K X.mg X.base k f [] m) (hr : Room k X.A) (hgd : X.A.guards = some []) (tk : Takes X Wx) (hgl : Gl X x) (hm : X.mg x = some (.ref f)) (hk : PySem.W.keepIn X.K (.ref f) = true) (hdb : (x == ("__debug__" : Str)) = false) : SE X Wx (.Call (.Name x p) [] [] pos) (eCal m aNil) :=
  PE.imp (se_call0 (hf X Wx rfl rfl rfl rfl rfl hr hgd tk) hgl hm hk hdb) fun σ H Q ⟨W, S, δ, g, r, h⟩ => ⟨W, S, δ, g, r, h⟩
/-- keyword arguments -/
abbrev SK (X : Cx) (Wx : WX) (kws : List Keyword) (m : MA) : Prop := PK X kws (tDA X.K Wx m)
theorem PK.imp {kws : List Keyword} {t t' : TA} (h : PK X kws t) (i : ∀ σ H Q, t' σ H Q → t σ H Q) : PK X kws t' := ⟨fun pos pins s σ H Q I q => h.run pos pins s σ H Q I (i σ H Q q)⟩
theorem sk_nil : SK X Wx [] aNil := PK.imp pk_nil fun σ H Q ⟨W, S, δ, g, r, p⟩ => okP.pure p g .nil
theorem sk_cons {kws : List Keyword} {nm : Option Str} {kp : Pos} (ha : SE X Wx e ma) (hr : SK X Wx kws mas) : SK X Wx (⟨nm, e, kp⟩ :: kws) (aCons ma mas) :=
  PK.imp (pk_cons ha hr) fun σ H Q ⟨W, S, δ, g, r, p⟩ => ⟨W, S, δ, g, r, (okP.bind (R := Rep X.K) p).imp fun v H1 ⟨W1, S1, x, l1, g1, r1, p1⟩ =>
    ⟨W1, S1, δ, g1, r.mono l1, (okP.bind (R := Reps X.K) p1).imp fun vs H2 ⟨W2, S2, xs, l2, g2, r2, p2⟩ => okP.pure p2 g2 (.cons (r1.mono l2) r2)⟩⟩
theorem sk_len {kws : List Keyword} : ∀ {us : List Value} {s s' : Shared}, True → True := fun _ => trivial
/-- f(k = e, ..) -/
theorem se_calK0 {kws : List Keyword} (hf : CalG X.prog X.w X.K X.mg X.base k f ks m) (hr : Room k X.A) (hgd : X.A.guards = some []) (tk : Takes X Wx) (hgl : Gl X x) (hm : X.mg x = some (.ref f)) (hk : PySem.W.keepIn X.K (.ref f) = true) (hdb : (x == ("__debug__" : Str)) = false) (ha : SK X Wx kws mks)
    (hall : (backToKw pos (keywordEach kws X.env)).all (·.1.isSome) = true) (hks : (backToKw pos (keywordEach kws X.env)).filterMap (·.1) = ks) (hpl : ((backTo pos (starEach [] X.env)).any (·.1) || (backToKw pos (keywordEach kws X.env)).any (·.1.isNone)) = false)
    (hn : ∀ δ S ds S', mks δ S = .ok ds S' → ds.length = ks.length) : SE X Wx (.Call (.Name x p) [] kws pos) (eCal m mks) := by
  refine ⟨fun pins s σ H Q I ⟨W, S, δ, g, r, h⟩ => ?_⟩
  refine wpAny_Call_Name_kw (ld_glob I hgl hm ?_ hdb)
  have h2 : okP X.K (Reps X.K) W (mks δ S) σ Wx (fun v H' => ∃ W' S' a, W.le W' ∧ Good X.K W' S' H' ∧ (Reps X.K W' a v ∧ a.length = ks.length) ∧ okP X.K (Rep X.K) W' (m a S') σ Wx Q) := by
    unfold eCal M.bind at h
    cases e1 : mks δ S with
    | ok ds S' =>
      rw [e1] at h
      exact fun W' H' v l g' r' => ⟨W', S', ds, l, g', ⟨r', hn _ _ _ _ e1⟩, okP.mono l h⟩
    | exc x S' => rw [e1] at h; exact h
    | bad => rw [e1] at h; exact h
  refine PySem.W.callWith_KW0 (h₀ := X.base) I.ok.mod.kin hk hall (thn (ha.run pos pins s σ H _ I ⟨W, S, δ, g, r, h2⟩) fun us s1 ⟨vs, H1, I1, rv, W1, S1, ds, l1, g1, ⟨r1, hl⟩, p1⟩ => ⟨I1.kIn, ?_⟩) hpl
  rw [hks]
  exact hf X Wx rfl rfl rfl rfl rfl hr hgd tk pins s1 σ H1 [] vs [] us Q I1 .nil rv (by rw [← r1.length]; exact hl) ⟨W1, S1, [], ds, g1, .nil, r1, p1⟩
/-- o.m(e, ..): tab: the classes that have the method -/
def eMet (tab : Str → Option (List D → M D)) (nm : Str) (mo : ME) (mas : MA) : ME := fun δ => M.bind (mo δ) fun x S => match clsOf S x with
  | some (c, fs) => (match tab c, fs.lookup nm with
    | some m, none => M.bind (mas δ) (fun xs => m (x :: xs)) S
    | _, _ => .bad)
  | none => .bad
def MetOk (X : Cx) (k : Nat) (nm : Str) (tab : Str → Option (List D → M D)) : Prop := ∀ c m, tab c = some m → Cls X.K (He.ga X.K c) ∧ ∃ f, Meth X.K (He.ga X.K c) nm f ∧ CalG X.prog X.w X.K X.mg X.base k f [] m
theorem met_pre {nm : Str} {tab : Str → Option (List D → M D)} (ht : MetOk X k nm tab) {W : Wd} {S : Store} {H : Hp} {δ : En} {d : D} {v : V} {σ : L2.St} {Q : VK} (g : Good X.K W S H) (q : Rep X.K W d v) (p : okP X.K (Rep X.K) W ((match clsOf S d with
  | some (c, fs) => (match tab c, fs.lookup nm with
    | some m, none => M.bind (mas δ) (fun xs => m (d :: xs)) S
    | _, _ => .bad)
  | none => .bad)) σ Wx Q) : ∃ a C dx vfs f m, v = .ref a ∧ H a = some (.ins C dx vfs) ∧ Cls X.K C ∧ Meth X.K C nm f ∧ vfs.lookup nm = none ∧ CalG X.prog X.w X.K X.mg X.base k f [] m ∧ okP X.K (Rep X.K) W (M.bind (mas δ) (fun xs => m (d :: xs)) S) σ Wx Q := by
  cases e : clsOf S d with
  | none => rw [e] at p; exact p.elim
  | some z =>
    obtain ⟨c, fs⟩ := z
    rw [e] at p
    dsimp only at p
    cases e1 : tab c with
    | none => rw [e1] at p; exact p.elim
    | some m =>
      cases e2 : fs.lookup nm with
      | some _ => rw [e1, e2] at p; exact p.elim
      | none =>
        rw [e1, e2] at p
        obtain ⟨c1, f, c2, c3⟩ := ht c m e1
        obtain ⟨a, dx, vfs, rfl, h1, h2, h3⟩ := clsOf_ok e g q
        exact ⟨a, _, dx, vfs, f, m, rfl, h1, c1, c2, lookup_keys h2 e2, c3, p⟩
theorem se_met {nm : Str} {tab : Str → Option (List D → M D)} {apos : Pos} {pl : Sem Bool} (ht : MetOk X k nm tab) (hr : Room k X.A) (hgd : X.A.guards = some []) (tk : Takes X Wx) (ho : SE X Wx o mo) (ha : SA X Wx (e :: es) mas)
    (he : starEach (e :: es) X.env = (false, eval e X.env) :: starEach es X.env) (hpl : (backTo pos (starEach es X.env)).any (·.1) = false)
    (hv : eval (.Call (.Attribute o nm apos) (e :: es) [] pos) X.env = (do
      let ov ← eval o X.env
      standAt apos.atName
      let (f, first) ← holding [ov] (getMethod ov nm pl)
      callWith pos f first (backTo pos (starEach (e :: es) X.env)) (backToKw pos (keywordEach [] X.env)))) :
    SE X Wx (.Call (.Attribute o nm apos) (e :: es) [] pos) (eMet tab nm mo mas) := by
  refine ⟨fun pins s σ H Q I ⟨W, S, δ, g, r, h⟩ => ?_⟩
  refine PySem.W.methodCall_KW (pl := pl) (thn (ho.run pins s σ H _ I ⟨W, S, δ, g, r, okP.bind (R := Rep X.K) h⟩) fun u s1 ⟨x, H1, I1, rx, W1, S1, d, l1, g1, q1, p1⟩ => ?_) hv
  obtain ⟨a, C, dx, vfs, f, m, rfl, h1, c1, c2, c3, c4, p2⟩ := met_pre ht g1 q1 p1
  obtain rfl : u = Value.ref a := rx
  refine getmeth_ok I1 h1 c1 c2 c3 ?_
  refine PySem.W.callWith_K (first := [.ref a]) (h₀ := X.base) I.ok.mod.kin c2.kp (thn (ha.run pos pins s1 σ H1 _ I1 ⟨W1, S1, δ, g1, r.mono l1, okP.bind (R := Reps X.K) p2⟩) fun us s2 ⟨vs, H2, I2, rv, W2, S2, ds, l2, g2, q2, p3⟩ => ⟨I2.kIn, ?_⟩) he hpl
  exact c4 X Wx rfl rfl rfl rfl rfl hr hgd tk pins s2 σ H2 (.ref a :: vs) [] (.ref a :: us) [] Q I2 (.cons rfl rv) .nil rfl ⟨W2, S2, d :: ds, [], g2, .cons (q1.mono l2) q2, .nil, by show okP _ _ _ (m ((d :: ds) ++ []) S2) _ _ _; rw [List.append_nil]; exact p3⟩
theorem se_met0 {nm : Str} {tab : Str → Option (List D → M D)} {apos : Pos} {pl : Sem Bool} (ht : MetOk X k nm tab) (hr : Room k X.A) (hgd : X.A.guards = some []) (tk : Takes X Wx) (ho : SE X Wx o mo)
    (hv : eval (.Call (.Attribute o nm apos) [] [] pos) X.env = (do
      let ov ← eval o X.env
      standAt apos.atName
      let (f, first) ← holding [ov] (getMethod ov nm pl)
      callWith pos f first (backTo pos (starEach [] X.env)) (backToKw pos (keywordEach [] X.env)))) :
    SE X Wx (.Call (.Attribute o nm apos) [] [] pos) (eMet tab nm mo aNil) := by
  refine ⟨fun pins s σ H Q I ⟨W, S, δ, g, r, h⟩ => ?_⟩
  refine PySem.W.methodCall_KW (pl := pl) (thn (ho.run pins s σ H _ I ⟨W, S, δ, g, r, okP.bind (R := Rep X.K) h⟩) fun u s1 ⟨x, H1, I1, rx, W1, S1, d, l1, g1, q1, p1⟩ => ?_) hv
  obtain ⟨a, C, dx, vfs, f, m, rfl, h1, c1, c2, c3, c4, p2⟩ := met_pre (mas := aNil) ht g1 q1 p1
  obtain rfl : u = Value.ref a := rx
  refine getmeth_ok I1 h1 c1 c2 c3 ?_
  refine PySem.W.callWith_K0 (first := [.ref a]) I1.kIn c2.kp ?_
  exact c4 X Wx rfl rfl rfl rfl rfl hr hgd tk pins s1 σ H1 [.ref a] [] [.ref a] [] Q I1 (.cons rfl .nil) .nil rfl ⟨W1, S1, [d], [], g1, .cons q1 .nil, .nil, p2⟩
end
/-! ### freezing: cells that no one will change again -/
mutual
def frzD : Nat → D → Store → Option (D × Store)
  | n + 1, .ref i, S => (match S[i]? with
    | some (some (.lst ds)) => (frzDs n ds (S.set i none)).map fun r => (.lst r.1, r.2)
    | _ => none)
  | n + 1, .lst ds, S => (frzDs n ds S).map fun r => (.lst r.1, r.2)
  | n + 1, .tup ds, S => (frzDs n ds S).map fun r => (.tup r.1, r.2)
  | 0, .ref _, _ => none
  | _, d, S => some (d, S)
def frzDs : Nat → List D → Store → Option (List D × Store)
  | _, [], S => some ([], S)
  | n, d :: ds, S => (frzD n d S).bind fun r => (frzDs n ds r.2).map fun q => (r.1 :: q.1, q.2)
end
theorem frz_ok {K : PySem.W.Frag} {H : Hp} : ∀ (n : Nat), (∀ {W : Wd} {S : Store} {d d' : D} {S' : Store} {v : V}, Good K W S H → Rep K W d v → frzD n d S = some (d', S') → ∃ W', W.le W' ∧ Good K W' S' H ∧ Rep K W' d' v) ∧
    ∀ {ds ds' : List D} {W : Wd} {S S' : Store} {vs : List V}, Good K W S H → Reps K W ds vs → frzDs n ds S = some (ds', S') → ∃ W', W.le W' ∧ Good K W' S' H ∧ Reps K W' ds' vs := by
  have list : ∀ n, (∀ {W : Wd} {S : Store} {d d' : D} {S' : Store} {v : V}, Good K W S H → Rep K W d v → frzD n d S = some (d', S') → ∃ W', W.le W' ∧ Good K W' S' H ∧ Rep K W' d' v) → ∀ {ds ds' : List D} {W : Wd} {S S' : Store} {vs : List V}, Good K W S H → Reps K W ds vs → frzDs n ds S = some (ds', S') → ∃ W', W.le W' ∧ Good K W' S' H ∧ Reps K W' ds' vs := by
    intro n h ds
    induction ds with
    | nil =>
      intro ds' W S S' vs g r e
      cases r
      simp only [frzDs, Option.some.injEq, Prod.mk.injEq] at e
      obtain ⟨rfl, rfl⟩ := e
      exact ⟨W, W.le_refl, g, .nil⟩
    | cons d ds ih =>
      intro ds' W S S' vs g r e
      cases r with
      | cons r1 r2 =>
        simp only [frzDs] at e
        cases e1 : frzD n d S with
        | none => rw [e1] at e; cases e
        | some z =>
          obtain ⟨d1, S1⟩ := z
          rw [e1] at e
          simp only [Option.bind_some] at e
          cases e2 : frzDs n ds S1 with
          | none => rw [e2] at e; cases e
          | some z2 =>
            obtain ⟨ds2, S2⟩ := z2
            rw [e2] at e
            simp only [Option.map_some, Option.some.injEq, Prod.mk.injEq] at e
            obtain ⟨rfl, rfl⟩ := e
            obtain ⟨W1, l1, g1, q1⟩ := h g r1 e1
            obtain ⟨W2, l2, g2, q2⟩ := ih g1 (r2.mono l1) e2
            exact ⟨W2, l1.trans l2, g2, .cons (q1.mono l2) q2⟩
  intro n
  induction n with
  | zero =>
    have h0 : ∀ {W : Wd} {S : Store} {d d' : D} {S' : Store} {v : V}, Good K W S H → Rep K W d v → frzD 0 d S = some (d', S') → ∃ W', W.le W' ∧ Good K W' S' H ∧ Rep K W' d' v := by
      intro W S d d' S' v g r e
      cases d <;> first
        | (simp only [frzD, Option.some.injEq, Prod.mk.injEq] at e; obtain ⟨rfl, rfl⟩ := e; exact ⟨W, W.le_refl, g, r⟩)
        | (simp only [frzD] at e; cases e)
    exact ⟨h0, list 0 h0⟩
  | succ n ih =>
    have h1 : ∀ {W : Wd} {S : Store} {d d' : D} {S' : Store} {v : V}, Good K W S H → Rep K W d v → frzD (n + 1) d S = some (d', S') → ∃ W', W.le W' ∧ Good K W' S' H ∧ Rep K W' d' v := by
      intro W S d d' S' v g r e
      cases d with
      | lst ds =>
        cases r with
        | @lst a vs _ q r2 =>
          simp only [frzD] at e
          cases e2 : frzDs n ds S with
          | none => rw [e2] at e; cases e
          | some z =>
            obtain ⟨ds2, S2⟩ := z
            rw [e2] at e
            simp only [Option.map_some, Option.some.injEq, Prod.mk.injEq] at e
            obtain ⟨rfl, rfl⟩ := e
            obtain ⟨W1, l1, g1, q1⟩ := ih.2 g r2 e2
            exact ⟨W1, l1, g1, .lst (l1.f _ _ q) q1⟩
      | tup ds =>
        cases r with
        | @tup a vs _ q r2 =>
          simp only [frzD] at e
          cases e2 : frzDs n ds S with
          | none => rw [e2] at e; cases e
          | some z =>
            obtain ⟨ds2, S2⟩ := z
            rw [e2] at e
            simp only [Option.map_some, Option.some.injEq, Prod.mk.injEq] at e
            obtain ⟨rfl, rfl⟩ := e
            obtain ⟨W1, l1, g1, q1⟩ := ih.2 g r2 e2
            exact ⟨W1, l1, g1, .tup (sqT_mono l1 q) q1⟩
      | ref i =>
        cases r with
        | @ref _ a hm =>
          simp only [frzD] at e
          split at e
          · rename_i ds hc
            obtain ⟨a', e1, e2, e3, vs, e4, e5⟩ := g.cell i _ hc
            rw [hm] at e1; cases e1
            obtain ⟨g1, l1⟩ := g.freeze hc hm e4
            cases e6 : frzDs n ds (S.set i none) with
            | none => rw [e6] at e; cases e
            | some z =>
              obtain ⟨ds2, S2⟩ := z
              rw [e6] at e
              simp only [Option.map_some, Option.some.injEq, Prod.mk.injEq] at e
              obtain ⟨rfl, rfl⟩ := e
              obtain ⟨W1, l2, g2, q2⟩ := ih.2 g1 (e5.mono l1) e6
              exact ⟨W1, l1.trans l2, g2, .lst (l2.f _ _ (by show upd _ _ _ _ = _; rw [upd_same])) q2⟩
          · cases e
      | _ =>
        simp only [frzD, Option.some.injEq, Prod.mk.injEq] at e
        obtain ⟨rfl, rfl⟩ := e
        exact ⟨W, W.le_refl, g, r⟩
    exact ⟨h1, list (n + 1) h1⟩
def eFrz (m : ME) : ME := fun δ => M.bind (m δ) fun d => lft (frzD 4 d)
theorem se_frz (h : SE X Wx e m) : SE X Wx e (eFrz m) :=
  PE.imp h fun σ H Q ⟨W, S, δ, g, r, p⟩ => ⟨W, S, δ, g, r, (okP.bind (R := Rep X.K) p).imp fun v H1 ⟨W1, S1, d, l1, g1, r1, p1⟩ => by
    have p2 := p1.lft
    cases e1 : frzD 4 d S1 with
    | none => rw [e1] at p2; exact p2.elim
    | some z =>
      obtain ⟨d', S'⟩ := z
      rw [e1] at p2
      obtain ⟨W2, l2, g2, q2⟩ := (frz_ok 4).1 g1 r1 e1
      exact p2 W2 H1 v l2 g2 q2⟩
/-! ### bool(x), str(x) of instances -/
theorem truthy_inst {M : Model} {A : Around} {E : Value → Shared → Prop} {s : Shared} {K : PySem.W.Frag} {x C : Addr} {ox od : Obj} {Q : Bool → Shared → Prop} (Xk : K.In s.heap) (I : PySem.W.InstAt s.heap x ox C od) (hs : PySem.W.findIn K (.ref C) "__bool__" = some none) (hl : PySem.W.findIn K (.ref C) "__len__" = some none)
    (h : Q true s) : wpAny M A (truthy (.ref x)) Q E s := by
  unfold truthy
  refine wpAny_bind (m := callSpecial? (.ref x) (Str.ofString "__bool__")) (wpAny_bind (wpAny_bind (I.type.here ((PySem.W.looks_findIn Xk hs).here (wpAny_pure ?_)))))
  refine wpAny_bind (wpAny_bind (I.type.here ((PySem.W.looks_findIn Xk hl).here ?_)))
  exact wpAny_pure h
theorem meets_bool_inst {K : PySem.W.Frag} {C : Addr} (l : Addr) (ox od : Obj) (hs : PySem.W.findIn K (.ref C) "__bool__" = some none) (hl : PySem.W.findIn K (.ref C) "__len__" = some none) :
    Meets (Builtin.«bool.__new__» ⟨[.type "bool", .ref l], []⟩) (fun _ R s => (K.In s.heap ∧ PySem.W.InstAt s.heap l ox C od) ∧ R (.ok (.ret (.bool true))) s) :=
  Meets.of_wp fun prog w A R s hs' => by
    obtain ⟨⟨hk, hi⟩, hs'⟩ := hs'
    obtain ⟨hp, g, d, tk, os⟩ := s
    have f1 := F.conv_sub_bool
    repeat (any_goals (first | assumption | (with_reducible refine truthy_inst (s := ⟨hp, g, d, tk, os⟩) hk hi hs hl ?_) | wp_step))
    all_goals first | exact ⟨_, rfl, hs'⟩ | exact hs' | skip
def pBool (ok : Str → Bool) : List D → PO := fun ds S => match ds with
  | [d] => (match clsOf S d with
    | some (c, _) => if ok c = true then some (.bl true, S) else none
    | none => none)
  | _ => none
theorem cr_pBool {ok : Str → Bool} (hok : ∀ c, ok c = true → NoAttr X.K (He.ga X.K c) "__bool__" ∧ NoAttr X.K (He.ga X.K c) "__len__") : CallR X (.type "bool") (rDC X.K (pBool ok)) := fun pins s σ H vs us Q I rv ⟨W, S, ds, g, r, p⟩ => by
  match ds, r, p with
  | [d], r, p =>
    obtain ⟨v, rfl, q⟩ := reps1 r
    simp only [pBool] at p
    cases e : clsOf S d with
    | none => rw [e] at p; exact p.elim
    | some z =>
      obtain ⟨c, fs⟩ := z
      rw [e] at p
      dsimp only at p
      split at p
      · rename_i hc
        obtain ⟨a, dx, vfs, rfl, h1, h2, h3⟩ := clsOf_ok e g q
        obtain rfl := Vals.ref1 rv
        obtain ⟨mA, O, _⟩ := ins_get I.hok h1
        obtain ⟨od, J, _⟩ := O.look
        exact call_bool_1 (meets_bool_inst a _ od (hok c hc).1 (hok c hc).2) ⟨⟨I.kIn, J⟩, rfl, ⟨.bl true, H, I, rfl, p.val g (.bl _)⟩⟩
      · exact p.elim
  | [], r, p => exact p.elim
  | _ :: _ :: _, r, p => exact p.elim
def pStrI (tab : Str → Option (List D → M D)) : List D → PO := fun ds S => match ds with
  | [d] => (match clsOf S d with
    | some (c, _) => (match tab c with
      | some m => (match m [d] S with
        | .ok (.str z) S' => some (.str z, S')
        | _ => none)
      | none => none)
    | none => pStr [d] S)
  | _ => none
def StrOk (X : Cx) (k : Nat) (tab : Str → Option (List D → M D)) : Prop := ∀ c m, tab c = some m → ∃ f fd, PySem.W.findIn X.K (.ref (He.ga X.K c)) "__str__" = some (some (.ref f)) ∧ PySem.W.isFn X.K (.ref f) = true ∧ FnG X.prog X.w X.K X.mg X.base k f fd ["self"] (spM X.K 1 m) ∧ BindK X.K fd ["self"] []
theorem cr_pStrI {k : Nat} {tab : Str → Option (List D → M D)} (ht : StrOk X k tab) (hr : Room (k + 2) X.A) (hg : X.A.guards = some []) : CallR X (.type "str") (rDC X.K (pStrI tab)) := fun pins s σ H vs us Q I rv ⟨W, S, ds, g, r, p⟩ => by
  match ds, r, p with
  | [d], r, p =>
    obtain ⟨v, rfl, q⟩ := reps1 r
    simp only [pStrI] at p
    cases e : clsOf S d with
    | none => rw [e] at p; exact cr_pStr pins s σ H _ us Q I rv ⟨W, S, [d], g, r, p⟩
    | some z =>
      obtain ⟨c, fs⟩ := z
      rw [e] at p
      dsimp only at p
      cases e1 : tab c with
      | none => rw [e1] at p; exact p.elim
      | some m =>
        rw [e1] at p
        dsimp only at p
        obtain ⟨f, fd, k1, k2, F, hb⟩ := ht c m e1
        obtain ⟨a, dx, vfs, rfl, h1, h2, h3⟩ := clsOf_ok e g q
        obtain rfl := Vals.ref1 rv
        obtain ⟨mA, O, _⟩ := ins_get I.hok h1
        obtain ⟨od, J, _⟩ := O.look
        have hr2 : Room k X.A.in1.in1 := Room.in1 (Room.in1 hr)
        refine PySem.W.kso_call (by have := hr2.un; omega) I.kIn J k1 k2 (wpAny_call ?_)
        have want : spM X.K 1 m [.ref a] H (fun v H' => ∃ z, v = .str z ∧ Q (.str z) H') (fun _ _ _ => False) := ⟨rfl, W, S, [d], g, r, by
          cases e2 : m [d] S with
          | ok d2 S2 =>
            rw [e2] at p
            cases d2 with
            | str z =>
              intro W' H' v' l g' q'
              cases q'
              exact ⟨z, rfl, p W' H' _ l g' (.str z)⟩
            | _ => exact p.elim
          | exc x S2 => rw [e2] at p; exact p.elim
          | bad => rw [e2] at p; exact p.elim⟩
        refine codeAny_mono (F.run X.A.in1.in1 hg X.stack s H ⟨[.ref a], []⟩ [.ref a] [.ref a] _ _ hr2 (Env0.in1 (Env0.in1 I.env0)) (hb s [.ref a] [] rfl rfl) (.cons rfl .nil) want) fun res s' hq => ?_
        cases res with
        | error ex =>
          obtain ⟨_, _, _, _, _, _, _, _, _, _, _, _, z⟩ := hq
          exact z.elim
        | ok fl =>
          cases fl with
          | ret u =>
            obtain ⟨v, H', I3, rv, z, rfl, q3⟩ := I.after hq
            obtain ⟨t, rfl⟩ := rv
            exact ⟨.str z, H', I3, ⟨t, rfl⟩, q3⟩
          | next => exact hq.elim
          | brk => exact hq.elim
          | cont => exact hq.elim
  | [], r, p => exact p.elim
  | _ :: _ :: _, r, p => exact p.elim
end
end Ev
/-! # the rules as the printer writes them -/
namespace Ev
open PySem PySem.Spec PySem.SeqAt L2 PyProof.Rows
theorem takes_no {X : Cx} : Takes X (fun _ _ _ _ => False) := fun u s' ⟨_, _, _, _, _, _, _, _, _, _, _, _, _, _, _, _, w⟩ => w.elim
/-- where a piece of text is run -/
structure Ct (X : Cx) (Wx : WX) (k : Nat) : Prop where
  calm : X.calm = true
  gd : X.A.guards = some []
  room : Room k X.A
  tk : Takes X Wx
theorem Ct.blk {X : Cx} {Wx : WX} {k : Nat} (c : Ct X Wx k) {s : Shared} {H : Hp} {scope : Scope} {cenv : Env} {fp : List Addr} : Ct (X.blk s H scope cenv fp) (fun _ _ _ _ => False) k := ⟨c.calm, c.gd, c.room, takes_no⟩
theorem Ct.hu {X : Cx} {Wx : WX} {k : Nat} (c : Ct X Wx k) : X.A.units + 64 < cLine := by have := c.room.un; omega
theorem ct_of {P : Program} {w : World} {K : PySem.W.Frag} {mg : Str → Option Value} {base : Heap} {k : Nat} {N : List Str} {qual : Str} {scope : Scope} {f : Addr} {cdv : Value} {A : Around} {outer : List Env} {s : Shared} {H : Hp} {E : XK}
    (hg : A.guards = some []) (hr : Room k (A.deeper (envOfC qual scope s.heap.objs.size f cdv))) : Ct (cxOf (L2.CX P w) P w K mg base N qual scope f cdv A outer s H E) (fun cls d _ H' => E cls d H') k := ⟨rfl, hg, hr, takes_of rfl rfl rfl rfl⟩
theorem po_of {P : Program} {w : World} {K : PySem.W.Frag} {mg : Str → Option Value} {base : Heap} {N : List Str} {qual : Str} {scope : Scope} {f : Addr} {cdv : Value} {A : Around} {outer : List Env} {s : Shared} {H : Hp} {E : XK} :
    PassesOwn (model P w) (cxOf (L2.CX P w) P w K mg base N qual scope f cdv A outer s H E).A (cxOf (L2.CX P w) P w K mg base N qual scope f cdv A outer s H E).env (cxOf (L2.CX P w) P w K mg base N qual scope f cdv A outer s H E).xe := passes_of rfl
section
variable {X : Cx} {Wx : WX} {a b c e o tg : Expr} {es : List Expr} {ma mb mc m mo mi : ME} {mas mks : MA} {pos p : Pos} {k : Nat} {x : Str}
/-- f(e, ..), f a built-in function; a type -/
theorem nB {id : String} {g : List D → PO} (hc : CallR X (.builtin id) (rDC X.K g)) (hm : X.mg x = none) (hv : bootBuiltins x = some (.builtin id)) (ha : SA X Wx (e :: es) mas) (hg : Gl X x := by rfl) (hn : x ≠ "__name__" := by decide) (hdb : (x == ("__debug__" : Str)) = false := by decide)
    (he : starEach (e :: es) X.env = (false, eval e X.env) :: starEach es X.env := by rfl) (hpl : (backTo pos (starEach es X.env)).any (·.1) = false := by rfl) : SE X Wx (.Call (.Name x p) (e :: es) [] pos) (eCallV g mas) :=
  PE.imp (pe_callB hc hg hm hv ha hn hdb he hpl) tCB_of
theorem nT {T : String} {g : List D → PO} (hc : CallR X (.type T) (rDC X.K g)) (hm : X.mg x = none) (hv : bootBuiltins x = some (.type T)) (ha : SA X Wx (e :: es) mas) (hg : Gl X x := by rfl) (hn : x ≠ "__name__" := by decide) (hdb : (x == ("__debug__" : Str)) = false := by decide)
    (he : starEach (e :: es) X.env = (false, eval e X.env) :: starEach es X.env := by rfl) (hpl : (backTo pos (starEach es X.env)).any (·.1) = false := by rfl) : SE X Wx (.Call (.Name x p) (e :: es) [] pos) (eCallV g mas) :=
  PE.imp (pe_callTy hc hg hm hv ha hn hdb he hpl) tCB_of
theorem nVar (i : Nat) (hN : X.N[i]? = some x := by rfl) (hv : Vis X.env.scope x := by first | exact .inl rfl | exact .inr (.inl rfl) | exact .inr (.inr rfl)) (hd : (x == ("__debug__" : Str)) = false := by rfl) (hcd : (x == ("__classdict__" : Str)) = false := by rfl) : SE X Wx (.Name x pos) (eVar i) := se_var hN hv hd hcd
theorem nCons (ha : SE X Wx e ma) (hr : SA X Wx es mas) (hs : starEach (e :: es) X.env = (false, eval e X.env) :: starEach es X.env := by rfl) : SA X Wx (e :: es) (aCons ma mas) := sa_cons ha hr hs
theorem nInt {x : Str} {i : Int} (hm : ∃ t, X.mg x = some (.int i t)) (hg : Gl X x := by rfl) (hd : (x == ("__debug__" : Str)) = false := by rfl) : SE X Wx (.Name x pos) (eC (.int i)) := se_gint hg hm hd
theorem nStr {x z : Str} (hm : ∃ t, X.mg x = some (.str z t)) (hg : Gl X x := by rfl) (hd : (x == ("__debug__" : Str)) = false := by rfl) : SE X Wx (.Name x pos) (eC (.str z)) := se_gstr hg hm hd
theorem nCmp {op : CmpOp} {f : D → D → PO} (ho : OpR X (compareOp op) (rD2 X.K f)) (ha : SE X Wx a ma) (hb : SE X Wx b mb) (hm : behindInMarks op b = false := by rfl) : SE X Wx (.Compare a [op] [b] pos) (eOp f ma mb) := se_cmp ho ha hb hm
theorem nCmpT {op : CmpOp} {f : D → D → PO} (ho : OpR X (compareOp op) (rD2 X.K f)) (ha : SE X Wx a ma) (hb : SE X Wx b mb) (hm : behindInMarks op b = false := by rfl) : ST X Wx (.Compare a [op] [b] pos) (fun δ => asB (eOp f ma mb δ)) := st_cmp ho ha hb hm
theorem nChT {op op' : CmpOp} {f f' : D → D → PO} (ho : OpR X (compareOp op) (rD2 X.K f)) (ho' : OpR X (compareOp op') (rD2 X.K f')) (ha : SE X Wx a ma) (hb : SE X Wx b mb) (hc : SE X Wx c mc) (hm : lastMarks [op, op'] [b, c] = false := by rfl) : ST X Wx (.Compare a [op, op'] [b, c] pos) (fun δ => asB (eChain f f' ma mb mc δ)) := st_chain ho ho' ha hb hc hm
theorem nCh {op op' : CmpOp} {f f' : D → D → PO} (ho : OpR X (compareOp op) (rD2 X.K f)) (ho' : OpR X (compareOp op') (rD2 X.K f')) (ha : SE X Wx a ma) (hb : SE X Wx b mb) (hc : SE X Wx c mc) (hm : lastMarks [op, op'] [b, c] = false := by rfl) : SE X Wx (.Compare a [op, op'] [b, c] pos) (eChain f f' ma mb mc) := se_chain ho ho' ha hb hc hm
theorem nTru (ha : SE X Wx a ma) (he : ∀ whole, isTrue a X.env whole = (do let v ← whole; standAt a.pos; holding [v] (truthy v)) := by intro _; rfl) : ST X Wx a (fun δ => tru (ma δ)) := st_truth ha he
theorem nIx {i : Expr} (ho : SE X Wx o mo) (hi : SE X Wx i mi) (hs : PlainIx i := by intro _ _; rfl) : SE X Wx (.Subscript o i pos) (eOp pIx mo mi) := se_ix ho hi hs
theorem sw_st {ta : MT} (h : SW X Wx a ta) : ST X Wx a ta := PW.pt h
theorem and1 (ha : SE X Wx a ma) : SE X Wx (.BoolOp .And [a] pos) ma := pe_one ha
theorem or1 (ha : SE X Wx a ma) : SE X Wx (.BoolOp .Or [a] pos) ma := pe_one ha
theorem nFld {ok : Str → Bool} {fl : Str} (hcls : ∀ c, ok c = true → Cls X.K (He.ga X.K c) ∧ NoAttr X.K (He.ga X.K c) fl) (ho : SE X Wx o mo) (hb : attributeBase o fl X.env (eval o X.env) = eval o X.env := by rfl) : SE X Wx (.Attribute o fl pos) (eFld ok fl mo) := se_fld ho hcls hb
theorem nCal {f : Addr} {m : List D → M D} (C : Ct X Wx k) (hf : CalG X.prog X.w X.K X.mg X.base k f [] m) (hm : X.mg x = some (.ref f)) (hk : PySem.W.keepIn X.K (.ref f) = true) (ha : SA X Wx (e :: es) mas) (hgl : Gl X x := by rfl) (hdb : (x == ("__debug__" : Str)) = false := by rfl)
    (he : starEach (e :: es) X.env = (false, eval e X.env) :: starEach es X.env := by rfl) (hpl : (backTo pos (starEach es X.env)).any (·.1) = false := by rfl) : SE X Wx (.Call (.Name x p) (e :: es) [] pos) (eCal m mas) := se_cal hf C.room C.gd C.tk hgl hm hk hdb ha he hpl
theorem nCal0 {f : Addr} {m : List D → M D} (C : Ct X Wx k) (hf : CalG X.prog X.w X.K X.mg X.base k f [] m) (hm : X.mg x = some (.ref f)) (hk : PySem.W.keepIn X.K (.ref f) = true) (hgl : Gl X x := by rfl) (hdb : (x == ("__debug__" : Str)) = false := by rfl) : SE X Wx (.Call (.Name x p) [] [] pos) (eCal m aNil) := se_cal0 hf C.room C.gd C.tk hgl hm hk hdb
theorem aCons_len {ma : ME} {mas : MA} {n : Nat} (h : ∀ δ S ds S', mas δ S = .ok ds S' → ds.length = n) : ∀ δ S ds S', aCons ma mas δ S = .ok ds S' → ds.length = n + 1 := fun δ S ds S' e => by
  unfold aCons M.bind at e
  cases e1 : ma δ S with
  | bad => rw [e1] at e; cases e
  | exc x S1 => rw [e1] at e; cases e
  | ok d S1 =>
    rw [e1] at e
    cases e2 : mas δ S1 with
    | bad => simp only [e2] at e; cases e
    | exc x S2 => simp only [e2] at e; cases e
    | ok ds2 S2 =>
      simp only [e2, M.pure, Res.ok.injEq] at e
      obtain ⟨rfl, rfl⟩ := e
      simp [h _ _ _ _ e2]
theorem aNil_len : ∀ δ S ds S', aNil δ S = .ok ds S' → ds.length = 0 := fun δ S ds S' e => by
  unfold aNil M.pure at e
  cases e
  rfl
theorem nCalK0 {f : Addr} {m : List D → M D} {ks : List Str} {kws : List Keyword} (C : Ct X Wx k) (hf : CalG X.prog X.w X.K X.mg X.base k f ks m) (hm : X.mg x = some (.ref f)) (hk : PySem.W.keepIn X.K (.ref f) = true) (ha : SK X Wx kws mks) (hn : ∀ δ S ds S', mks δ S = .ok ds S' → ds.length = ks.length) (hgl : Gl X x := by rfl) (hdb : (x == ("__debug__" : Str)) = false := by rfl)
    (hall : (backToKw pos (keywordEach kws X.env)).all (·.1.isSome) = true := by rfl) (hks : (backToKw pos (keywordEach kws X.env)).filterMap (·.1) = ks := by rfl) (hpl : ((backTo pos (starEach [] X.env)).any (·.1) || (backToKw pos (keywordEach kws X.env)).any (·.1.isNone)) = false := by rfl) :
    SE X Wx (.Call (.Name x p) [] kws pos) (eCal m mks) := se_calK0 hf C.room C.gd C.tk hgl hm hk hdb ha hall hks hpl hn
theorem nMet {nm : Str} {tab : Str → Option (List D → M D)} {apos : Pos} {pl : Sem Bool} (C : Ct X Wx k) (ht : MetOk X k nm tab) (ho : SE X Wx o mo) (ha : SA X Wx (e :: es) mas)
    (he : starEach (e :: es) X.env = (false, eval e X.env) :: starEach es X.env := by rfl) (hpl : (backTo pos (starEach es X.env)).any (·.1) = false := by rfl)
    (hv : eval (.Call (.Attribute o nm apos) (e :: es) [] pos) X.env = (do
      let ov ← eval o X.env
      standAt apos.atName
      let (f, first) ← holding [ov] (getMethod ov nm pl)
      callWith pos f first (backTo pos (starEach (e :: es) X.env)) (backToKw pos (keywordEach [] X.env))) := by rfl) : SE X Wx (.Call (.Attribute o nm apos) (e :: es) [] pos) (eMet tab nm mo mas) := se_met ht C.room C.gd C.tk ho ha he hpl hv
theorem nMet0 {nm : Str} {tab : Str → Option (List D → M D)} {apos : Pos} {pl : Sem Bool} (C : Ct X Wx k) (ht : MetOk X k nm tab) (ho : SE X Wx o mo)
    (hv : eval (.Call (.Attribute o nm apos) [] [] pos) X.env = (do
      let ov ← eval o X.env
      standAt apos.atName
      let (f, first) ← holding [ov] (getMethod ov nm pl)
      callWith pos f first (backTo pos (starEach [] X.env)) (backToKw pos (keywordEach [] X.env))) := by rfl) : SE X Wx (.Call (.Attribute o nm apos) [] [] pos) (eMet tab nm mo aNil) := se_met0 ht C.room C.gd C.tk ho hv
theorem nMb {T id : String} {nm : Str} {f : D → List D → PO} {apos : Pos} (pa : PlainAttrs T) (slot : Slot T nm id) (hty : typeOf (.builtin id) = pure (.type "method_descriptor")) (hm : MtR X id (rDM X.K f)) (ho : SE X Wx o mo) (ha : SA X Wx (e :: es) mas)
    (hbase : attributeBase o nm X.env (eval o X.env) = eval o X.env := by rfl)
    (hfew : ((backTo pos (starEach (e :: es) X.env)).all (fun x => !x.1) && (backToKw pos (keywordEach [] X.env)).all (fun x => x.1.isSome)
      && decide ((e :: es).length + ([] : List Keyword).length + (if ([] : List Keyword).isEmpty then 0 else 1) < 30)) = true := by rfl)
    (hline : (apos.endLine == pos.line) = true := by rfl) (hs : starEach (e :: es) X.env = (false, eval e X.env) :: starEach es X.env := by rfl) (hpl : (backTo pos (starEach es X.env)).any (·.1) = false := by rfl) :
    SE X Wx (.Call (.Attribute o nm apos) (e :: es) [] pos) (eMB T f mo mas) := se_mb pa slot hty hm ho ha hbase hfew hline hs hpl
theorem nIsi {isi : Ty → Ty → Option Bool} {c : Ty} {p2 : Pos} {ce : Expr} {cv : V} (kk : IsiOk X.K isi) (ho : SE X Wx o mo) (hc : PE X ce (tC cv)) (hcv : ClsV cv (c.val X.K)) (hm : X.mg "isinstance" = none) (hgl : Gl X "isinstance" := by rfl)
    (h1 : starEach [o, ce] X.env = (false, eval o X.env) :: starEach [ce] X.env := by rfl) (h2 : starEach [ce] X.env = (false, eval ce X.env) :: starEach [] X.env := by rfl) : SE X Wx (.Call (.Name "isinstance" p) [o, ce] [] pos) (eIsi isi c mo) := se_isi (p2 := p2) kk ho hc hcv hgl hm h1 h2
/-! statements -/
variable {st : Stmt} {sts : List Stmt} {ms mt : MS}
theorem nSet (i : Nat) {y : Str} {pos' : Pos} (he : SE X Wx e m) (hN : X.N.Nodup) (hi : X.N[i]? = some y := by rfl) (hx : Loc X.env.scope y := by first | exact .inl rfl | exact .inr rfl) (hs : swapsWith e (some (.Name y pos')) pos.line X.env = pure false := by rfl) (hf : X.fn y = true ∨ X.env.scope.names.lookup y = some .local := by first | exact .inl rfl | exact .inr rfl) : SS X Wx (.Assign [.Name y pos'] e pos) (sAsg m (gNm i)) :=
  ss_set hN hi hx he hs hf
theorem nAsg {mg : TGM} (he : SE X Wx e m) (hg : SG X tg mg) (hs : swapsWithSole [tg] e pos.line X.env = pure false := by rfl) (hw : swappedStores [tg] e X.env = pure none := by rfl) (h1 : (assignEach [tg] X.env).map (·.2) = [assign tg X.env] := by rfl) : SS X Wx (.Assign [tg] e pos) (sAsg m mg) := ss_asg he hg hs hw h1
theorem nPar2 (i j : Nat) {x y : Str} {px py pt : Pos} {kt k2 : Nat} {pt2 : Pos} (C : Ct X Wx k) (hN : X.N.Nodup) (ha : SA X Wx [a, b] mas) (hi : X.N[i]? = some x := by rfl) (hj : X.N[j]? = some y := by rfl) (hij : i ≠ j := by decide)
    (hx : X.env.scope.names.lookup x = some .local := by rfl) (hy : X.env.scope.names.lookup y = some .local := by rfl)
    (hw : swappedStores [.Tuple [.Name x px, .Name y py] kt pt] (.Tuple [a, b] k2 pt2) X.env = pure (some [x, y]) := by rfl) :
    SS X Wx (.Assign [.Tuple [.Name x px, .Name y py] kt pt] (.Tuple [a, b] k2 pt2) pos) (sPar2 i j mas) := ss_par2 C.calm hN hi hj hij hx hy ha hw
theorem nExpr (he : SE X Wx e m) (hs : swapsWith e none pos.line X.env = pure false := by rfl) : SS X Wx (.Expr e pos) (sExpr m) := ss_expr he hs
theorem nFor {iter : Expr} {body : List Stmt} {mi : MA} {mg : TGM} {mb : MS} (C : Ct X Wx k) (hp : PassesOwn (model X.prog X.w) X.A X.env X.xe) (hi : SI X Wx tg iter mi) (hg : SG X tg mg) (hb : SB X Wx body mb) (hs : ∀ x, foldedSetIterable iter X.env x = pure x := by intro _; rfl) : SS X Wx (.For tg iter body [] pos) (sFor mi mg mb) :=
  ss_for hp C.calm hi hg hb hs
theorem gName (i : Nat) (hN : X.N.Nodup) (hi : X.N[i]? = some x := by rfl) (hx : Loc X.env.scope x := by first | exact .inl rfl | exact .inr rfl) (hf : X.fn x = true ∨ X.env.scope.names.lookup x = some .local := by first | exact .inl rfl | exact .inr rfl) : SG X (.Name x pos) (gNm i) := sg_name hN hi hx hf
theorem gTup {kk n : Nat} {ms : TGMs} (C : Ct X Wx k) (h : SGs X es ms) (hn : (assignEach es X.env).length = n := by rfl) (hst : (assignEach es X.env).findIdx? (·.1) = none := by rfl) : SG X (.Tuple es kk pos) (gTp n ms) := sg_tup C.calm h hn hst
theorem gCons {m : TGM} {ms : TGMs} (h1 : SG X e m) (h2 : SGs X es ms) (hs : (assignEach (e :: es) X.env).map (·.2) = assign e X.env :: (assignEach es X.env).map (·.2) := by rfl) : SGs X (e :: es) (gCs m ms) := sgs_cons h1 h2 hs
theorem gSub {o i : Expr} {mo mi : ME} {f : PSt} (Wx : WX) (ho : SE X Wx o mo) (hi : SE X Wx i mi) (hs : PSet X (tDSet X.K f)) (ha : ∀ v, assign (.Subscript o i pos) X.env v = (do
      let ov ← holding [v] (eval o X.env)
      let iv ← holding [v, ov] (eval i X.env)
      standAt pos
      holding [v, ov, iv] (setItem ov iv v)
      release [v, ov, iv] []) := by intro _; rfl) : SG X (.Subscript o i pos) (gSb f mo mi) := sg_sub ho hi hs ha
theorem uName (i : Nat) (hN : X.N.Nodup) (hi : X.N[i]? = some x := by rfl) (hx : Loc X.env.scope x := by first | exact .inl rfl | exact .inr rfl) (hf : X.fn x = true ∨ X.env.scope.names.lookup x = some .local := by first | exact .inl rfl | exact .inr rfl) : PG X (.Name x pos) (tDU X.K (uNm i)) := su_name hN hi hx hf
theorem uTup {kk n : Nat} {us : List D → Option (List (Nat × D))} (C : Ct X Wx k) (h : PGs X es (tDUs X.K us)) (hn : (assignEach es X.env).length = n := by rfl) (hst : (assignEach es X.env).findIdx? (·.1) = none := by rfl) : PG X (.Tuple es kk pos) (tDU X.K (uTp n us)) := su_tup C.calm h hn hst
theorem uCons {u : UpD} {us : List D → Option (List (Nat × D))} (h1 : PG X e (tDU X.K u)) (h2 : PGs X es (tDUs X.K us)) (hs : (assignEach (e :: es) X.env).map (·.2) = assign e X.env :: (assignEach es X.env).map (·.2) := by rfl) : PGs X (e :: es) (tDUs X.K (uCs u us)) := sus_cons h1 h2 hs
def tYesM : MT := fun _ => M.pure true
theorem ptsNil : PTs X [] (tDT X.K Wx tYesM) := ⟨fun pins s σ H Q I ⟨W, S, δ, g, r, p⟩ => pts_nil.run pins s σ H Q I (okP.pure p g rfl)⟩
theorem ptsOne {t : MT} (h : ST X Wx c t) : PTs X [c] (tDT X.K Wx t) := pts_one h
theorem nRng1 {p : Pos} (hm : X.mg "range" = none) (ha : SA X Wx [a] mas) (hg : Gl X "range" := by rfl) (hs : starEach [a] X.env = [(false, eval a X.env)] := by rfl) : SI X Wx tg (.Call (.Name "range" p) [a] [] pos) (fun δ => M.bind (mas δ) fun ds => match ds with
    | [.int j] => if -(2 ^ 62) ≤ j ∧ j < 2 ^ 62 then M.pure (rngD 0 j.toNat) else M.bad
    | _ => M.bad) := si_range1 hg hm ha hs
def iR1 (mas : MA) : MA := fun δ => M.bind (mas δ) fun ds => match ds with
    | [.int j] => if -(2 ^ 62) ≤ j ∧ j < 2 ^ 62 then M.pure (rngD 0 j.toNat) else M.bad
    | _ => M.bad
def iR2 (mas : MA) : MA := fun δ => M.bind (mas δ) fun ds => match ds with
    | [.int i, .int j] => if -(2 ^ 62) ≤ i ∧ i < 2 ^ 62 ∧ -(2 ^ 62) ≤ j ∧ j < 2 ^ 62 then M.pure (rngD i (j - i).toNat) else M.bad
    | _ => M.bad
theorem nR1 {p : Pos} (hm : X.mg "range" = none) (ha : SA X Wx [a] mas) (hg : Gl X "range" := by rfl) (hs : starEach [a] X.env = [(false, eval a X.env)] := by rfl) : SI X Wx tg (.Call (.Name "range" p) [a] [] pos) (iR1 mas) := si_range1 hg hm ha hs
theorem nR2 {p : Pos} (hm : X.mg "range" = none) (ha : SA X Wx [a, b] mas) (hg : Gl X "range" := by rfl) (hs : starEach [a, b] X.env = [(false, eval a X.env), (false, eval b X.env)] := by rfl) (hs2 : starEach [b] X.env = [(false, eval b X.env)] := by rfl) : SI X Wx tg (.Call (.Name "range" p) [a, b] [] pos) (iR2 mas) := si_range2 hg hm ha hs hs2
theorem nLc {elt tg iter : Expr} {ifs : List Expr} {scope : Scope} (own : List (Str × Nat)) {mi : MA} {up : UpD} {mt : MT} {me : ME} {fin : List D → PO} (C : Ct X Wx k) (hf : FinOk X.K fin) (hN : X.N.Nodup) (hi : SI X Wx tg iter mi) (ok : BlkOk X.N X.env.scope scope own)
    (hg : ∀ (s : Shared) (H : Hp) (C : Addr) (cl : List (Str × Addr)) (fp : List Addr), PG (X.blk s H scope (compEnvC scope cl C X.env) fp) tg (tDU X.K up)) (ht : ∀ (s : Shared) (H : Hp) (C : Addr) (cl : List (Str × Addr)) (fp : List Addr), PTs (X.blk s H scope (compEnvC scope cl C X.env) fp) ifs (tDT X.K (fun _ _ _ _ => False) mt))
    (he : ∀ (s : Shared) (H : Hp) (C : Addr) (cl : List (Str × Addr)) (fp : List Addr), SE (X.blk s H scope (compEnvC scope cl C X.env) fp) (fun _ _ _ _ => False) elt me) (hu : ∀ d us, up d = some us → ∀ p ∈ us, p.1 ∈ own.map (·.2)) (hs : ∀ x, foldedSetIterable iter X.env x = pure x := by intro _; rfl) :
    SE X Wx (.ListComp elt [⟨tg, iter, ifs, 0⟩] scope pos) (eLc fin mi up mt me (own.map (·.2))) := se_lc hf hu C.calm hN hi ok hg ht he hs
theorem nSetLc (i : Nat) {y : Str} {py spos : Pos} {elt tg iter : Expr} {ifs : List Expr} {scope : Scope} (own : List (Str × Nat)) {mi : MA} {up : UpD} {mt : MT} {me : ME} {fin : List D → PO} (C : Ct X Wx k) (hf : FinOk X.K fin) (hN : X.N.Nodup) (hi : SI X Wx tg iter mi) (ok : BlkOk X.N X.env.scope scope own)
    (hg : ∀ (s : Shared) (H : Hp) (C : Addr) (cl : List (Str × Addr)) (fp : List Addr), PG (X.blk s H scope (compEnvC scope cl C X.env) fp) tg (tDU X.K up)) (ht : ∀ (s : Shared) (H : Hp) (C : Addr) (cl : List (Str × Addr)) (fp : List Addr), PTs (X.blk s H scope (compEnvC scope cl C X.env) fp) ifs (tDT X.K (fun _ _ _ _ => False) mt))
    (he : ∀ (s : Shared) (H : Hp) (C : Addr) (cl : List (Str × Addr)) (fp : List Addr), SE (X.blk s H scope (compEnvC scope cl C X.env) fp) (fun _ _ _ _ => False) elt me) (hu : ∀ d us, up d = some us → ∀ p ∈ us, p.1 ∈ own.map (·.2)) (hy : X.N[i]? = some y := by rfl) (hyl : X.env.scope.names.lookup y = some .local := by rfl)
    (hsw : swapsWith (.ListComp elt [⟨tg, iter, ifs, 0⟩] scope pos) (some (.Name y py)) spos.line X.env = pure true := by exact sw_true rfl rfl rfl (by decide +kernel)) (hs : ∀ x, foldedSetIterable iter X.env x = pure x := by intro _; rfl) :
    SS X Wx (.Assign [.Name y py] (.ListComp elt [⟨tg, iter, ifs, 0⟩] scope pos) spos) (sAsg (eLc fin mi up mt me (own.map (·.2))) (gNm i)) := ss_setLc hf hu C.calm hN hy hyl hsw hi ok hg ht he hs
theorem upNm {i : Nat} {l : List Nat} (h : i ∈ l := by decide) : ∀ d us, uNm i d = some us → ∀ p ∈ us, p.1 ∈ l := fun d us e p hp => by
  unfold uNm at e
  cases e
  rw [List.mem_singleton.mp hp]
  exact h
theorem nZipS {p q : Pos} (hm : X.mg "zip" = none) (ha : SE X Wx e ma) (hg : Gl X "zip" := by rfl) : SI X Wx tg (.Call (.Name "zip" p) [.Starred e q] [] pos) (iZip (aStar ma aNil)) := si_zipS hg hm ha
/-! parts of __init__ -/
variable {cn : Str} {mI : MI}
theorem iSelf {x f : Str} {px : Pos} (hc : Cls X.K (He.ga X.K cn) ∧ NoAttr X.K (He.ga X.K cn) f) (hN : X.N[0]? = some x := by rfl) (hv : Vis X.env.scope x := by first | exact .inl rfl | exact .inr (.inl rfl) | exact .inr (.inr rfl)) (hd : (x == ("__debug__" : Str)) = false := by rfl) (hcd : (x == ("__classdict__" : Str)) = false := by rfl) : PG X (.Attribute (.Name x px) f pos) (tGI X.K cn f) := sgi hN hv hd hcd hc
theorem iCs {f : Str} {ps : List Str} (h1 : PG X e (tGI X.K cn f)) (h2 : PGs X es (tGIs X.K cn ps)) (hs : (assignEach (e :: es) X.env).map (·.2) = assign e X.env :: (assignEach es X.env).map (·.2) := by rfl) : PGs X (e :: es) (tGIs X.K cn (f :: ps)) := sgis_cons h1 h2 hs
theorem iOne {f : Str} (he : SE X Wx e m) (hg : PG X tg (tGI X.K cn f)) (h2 : SBI X Wx cn sts mI) (hs : swapsWithSole [tg] e pos.line X.env = pure false := by rfl) (hw : swappedStores [tg] e X.env = pure none := by rfl) (h1 : (assignEach [tg] X.env).map (·.2) = [assign tg X.env] := by rfl) : SBI X Wx cn (.Assign [tg] e pos :: sts) (iSet m f mI) := sbi_set he hg h2 hs hw h1
theorem iMany {ps : List Str} {kk : Nat} {pt : Pos} (C : Ct X Wx k) (he : SE X Wx e m) (hg : PGs X es (tGIs X.K cn ps)) (h2 : SBI X Wx cn sts mI) (hn : (assignEach es X.env).length = ps.length := by rfl) (hst : (assignEach es X.env).findIdx? (·.1) = none := by rfl)
    (hs : swapsWithSole [.Tuple es kk pt] e pos.line X.env = pure false := by rfl) (hw : swappedStores [.Tuple es kk pt] e X.env = pure none := by rfl) (h1 : (assignEach [.Tuple es kk pt] X.env).map (·.2) = [assign (.Tuple es kk pt) X.env] := by rfl) : SBI X Wx cn (.Assign [.Tuple es kk pt] e pos :: sts) (iSets m ps mI) := sbi_sets (n := 0) C.calm he hg h2 hn hst hs hw h1
end
/-! what hangs on no caller -/
def StrG (P : Program) (w : World) (K : PySem.W.Frag) (mg : Str → Option Value) (base : Heap) (k : Nat) (tab : Str → Option (List D → M D)) : Prop := ∀ c m, tab c = some m → ∃ f fd, PySem.W.findIn K (.ref (He.ga K c)) "__str__" = some (some (.ref f)) ∧ PySem.W.isFn K (.ref f) = true ∧ FnG P w K mg base k f fd ["self"] (spM K 1 m) ∧ BindK K fd ["self"] []
def MetG (P : Program) (w : World) (K : PySem.W.Frag) (mg : Str → Option Value) (base : Heap) (k : Nat) (nm : Str) (tab : Str → Option (List D → M D)) : Prop := ∀ c m, tab c = some m → Cls K (He.ga K c) ∧ ∃ f, Meth K (He.ga K c) nm f ∧ CalG P w K mg base k f [] m
theorem CalG.mono {P : Program} {w : World} {K : PySem.W.Frag} {mg : Str → Option Value} {base : Heap} {j k : Nat} {v : Addr} {ks : List Str} {m : List D → M D} (h : CalG P w K mg base j v ks m) (l : j ≤ k) : CalG P w K mg base k v ks m :=
  fun X Wx e1 e2 e3 e4 e5 hr => h X Wx e1 e2 e3 e4 e5 (hr.mono l)

theorem CalG.bad {P : Program} {w : World} {K : PySem.W.Frag} {mg : Str → Option Value} {base : Heap} {k : Nat} {v : Addr} {ks : List Str} : CalG P w K mg base k v ks (fun _ _ => .bad) :=
  fun X Wx e1 e2 e3 e4 e5 hr hg tk pins s σ H vs zs us ws Q I r1 r2 hl ⟨W, S, ds, es, g, q1, q2, p⟩ => p.elim
theorem FnG.bad {P : Program} {w : World} {K : PySem.W.Frag} {mg : Str → Option Value} {base : Heap} {k : Nat} {f : Addr} {fd : FuncData} {x : Str} : FnG P w K mg base k f fd [x] (spM K 1 (fun _ _ => .bad)) :=
  ⟨fun vs H Q E h => h.1, fun A hg outer s H args us vs Q E hr e0 hb rel ⟨_, W, S, ds, g, r, p⟩ => p.elim⟩
theorem initM_len {nN n : Nat} {m : MI} (ds : List D) (S : Store) (h : ds.length ≠ n) : initM nN n m ds S = .bad := by unfold initM; rw [if_neg h]
/-! the built-ins that the printer knows -/
theorem bt_len : bootBuiltins "len" = some (.builtin "len") := by decide +kernel
theorem bt_abs : bootBuiltins "abs" = some (.builtin "abs") := by decide +kernel
theorem bt_min : bootBuiltins "min" = some (.builtin "min") := by decide +kernel
theorem bt_max : bootBuiltins "max" = some (.builtin "max") := by decide +kernel
theorem bt_sum : bootBuiltins "sum" = some (.builtin "sum") := by decide +kernel
theorem bt_all : bootBuiltins "all" = some (.builtin "all") := by decide +kernel
theorem bt_any : bootBuiltins "any" = some (.builtin "any") := by decide +kernel
theorem bt_divmod : bootBuiltins "divmod" = some (.builtin "divmod") := by decide +kernel
theorem bt_repr : bootBuiltins "repr" = some (.builtin "repr") := by decide +kernel
theorem bt_int : bootBuiltins "int" = some (.type "int") := by decide +kernel
theorem bt_str : bootBuiltins "str" = some (.type "str") := by decide +kernel
theorem bt_bool : bootBuiltins "bool" = some (.type "bool") := by decide +kernel
theorem bt_list : bootBuiltins "list" = some (.type "list") := by decide +kernel
theorem bt_tuple : bootBuiltins "tuple" = some (.type "tuple") := by decide +kernel
end Ev
/-! # the law's call: where no repr is under way -/
namespace Ev
open PySem PySem.Spec PyProof.Rows L2
/-- the world at the law's entry -/
def w0 (H : Hp) : Wd := ⟨H, [], fun _ => none, none⟩
theorem good0 {K : PySem.W.Frag} (H : Hp) : Good K (w0 H) [] H where
  sub := fun _ _ e => e
  len := rfl
  cell := fun i c e => by simp at e
  inj := fun i j a c c' e => by simp at e
  prv := fun a o e => by cases e
  ptup := fun a xs e => by cases e
section
variable {P : Program} {w : World} {K : PySem.W.Frag} {mg mb : Str → Option Value} {k : Nat} {fa a : Addr} {fd : FuncData} {x : Str} {s1 : Shared} {vs : List Value} {ns : List Int} {m : List D → M D}
/-- the entry, from a heap that tracks the script at most -/
theorem law_at (H : Hp) (only : ∀ b u, H b = some u → b = a ∧ K.lookup b = none ∧ ∃ o xs, u = .frz o (.lst xs)) (hS : SqL K H a (ns.map V.int)) (hok : HOk P w H s1.heap)
    (KX : K.In s1.heap) (hns : s1.heap.Ns mainGlobals mg) (hb : s1.heap.Ns builtinsNs mb) (hbb : ∀ y : Str, y ≠ "__name__" → mb y = bootBuiltins y) (hlim : s1.heap.NoLimit) (hg : s1.gens = #[])
    (ha : s1.heap.get? a = some { cls := .type "list", data := .seq vs.toArray }) (hr : Room k callerA)
    (F : ∀ base : Heap, K.In base → base.Ns mainGlobals mg → FnG P w K mg base k fa fd [x] (spM K 1 m)) (hbind : ∀ (s : Shared) (u : Value), BindsTo s fd ⟨[u], []⟩ [(x, u)])
    (hm : ∃ S, m [.scr ns] [] = .ok (.bl true) S) :
    codeAny (model P w) callerA (.call (.ref fa) ⟨[.ref a], []⟩) (fun r s' => (r = .ok (.ret (.bool true)) ∧ OldK s1.heap s'.heap) ∧ s'.os = s1.os ∧ AllBare s'.gens) s1 := by
  let B : Heap := hidT s1.heap H
  have inB : ∀ {b : Addr} {o : Obj}, s1.heap.get? b = some o → H b = none → B.get? b = some o := fun e n => hidT_get e n
  have untracked : ∀ {b : Addr} {o : Obj}, s1.heap.get? b = some o → (∀ ys n, o.data ≠ .seq ys n) → H b = none := by
    intro b o e hn
    cases q : H b with
    | none => rfl
    | some u =>
      obtain ⟨rfl, _⟩ := only b u q
      rw [ha] at e
      cases e
      exact absurd rfl (hn _ _)
  have spaces : ∀ {b : Addr} {g : Str → Option Value}, s1.heap.Ns b g → B.Ns b g := by
    rintro b g ⟨o, es, ep, e, hd, r⟩
    exact ⟨o, es, ep, inB e (untracked e fun ys n z => by rw [hd] at z; cases z), hd, r⟩
  have KB : K.In B := by
    intro b o e
    refine inB (KX b o e) ?_
    cases q : H b with
    | none => rfl
    | some u =>
      obtain ⟨_, z, _⟩ := only b u q
      rw [z] at e; cases e
  obtain ⟨mc, c1, c2⟩ := hlim
  have env : Env0 P w K mg B callerA [] s1 H := by
    refine ⟨rfl, ⟨KB, spaces hns, ⟨mb, spaces hb, hbb⟩, mc, spaces c1, c2⟩, fun b o e => of_hidT e, Nat.le_of_eq (hidT_size _ _), trivial, fun b z => ?_, hok, .of_eq hg⟩
    exact absurd (show b ∈ ([] : List Addr) from z) (by simp)
  obtain ⟨S, hmS⟩ := hm
  have want : spM K 1 m [.ref a] H (fun v _ => v = .bl true) (fun _ _ _ => False) := by
    refine ⟨rfl, w0 H, [], [.scr ns], good0 H, .cons (.scr hS) .nil, ?_⟩
    rw [hmS]
    intro W' H' v _ _ q
    cases q
    rfl
  refine codeAny_mono ((F B KB (spaces hns)).run callerA rfl [] s1 H ⟨[.ref a], []⟩ [.ref a] [.ref a] _ _ hr env (hbind s1 _) (.cons rfl .nil) want) ?_
  intro r s' res
  match r, res with
  | .error e, res =>
    obtain ⟨_, _, _, _, _, _, _, _, _, _, _, _, z⟩ := res
    exact z.elim
  | .ok .next, res => exact False.elim res
  | .ok .brk, res => exact False.elim res
  | .ok .cont, res => exact False.elim res
  | .ok (.ret u), res =>
    obtain ⟨v, H', hos, hbare, un, hok2, rel, rfl⟩ := res
    obtain rfl : u = Value.bool true := rel
    refine ⟨⟨rfl, OldK.of_keep ?_⟩, hos, hbare⟩
    intro b o e
    cases q : H b with
    | none =>
      refine un.keep b o e q (fun z => ?_) (by simp)
      exact absurd (show b ∈ ([] : List Addr) from z) (by simp)
    | some u =>
      obtain ⟨_, _, ob, xs, rfl⟩ := only b u q
      have t1 := (hok b _ q).1
      have t2 := (hok2 b _ (un.frzs b ob _ q)).1
      rw [e] at t1; cases t1
      exact t2
/-- the law's call, from the head's facts -/
theorem law_go (KX : K.In s1.heap) (hns : s1.heap.Ns mainGlobals mg) (hb : s1.heap.Ns builtinsNs mb) (hbb : ∀ y : Str, y ≠ "__name__" → mb y = bootBuiltins y) (hlim : s1.heap.NoLimit) (hg : s1.gens = #[])
    (ha : s1.heap.get? a = some { cls := .type "list", data := .seq vs.toArray }) (hi : IntsAre vs ns) (hl : ns.length ≤ sizeLine) (hr : Room k callerA)
    (F : ∀ base : Heap, K.In base → base.Ns mainGlobals mg → FnG P w K mg base k fa fd [x] (spM K 1 m)) (hbind : ∀ (s : Shared) (u : Value), BindsTo s fd ⟨[u], []⟩ [(x, u)])
    (hm : ∃ S, m [.scr ns] [] = .ok (.bl true) S) :
    codeAny (model P w) callerA (.call (.ref fa) ⟨[.ref a], []⟩) (fun r s' => (r = .ok (.ret (.bool true)) ∧ OldK s1.heap s'.heap) ∧ s'.os = s1.os ∧ AllBare s'.gens) s1 := by
  have vi := vals_ints hi
  by_cases hk : K.lookup a = none
  · let ob : Obj := { cls := .type "list", data := .seq vs.toArray }
    let H : Hp := fun b => if b = a then some (.frz ob (.lst (ns.map V.int))) else none
    have atA : H a = some (.frz ob (.lst (ns.map V.int))) := if_pos rfl
    have onA : ∀ b u, H b = some u → b = a ∧ u = .frz ob (.lst (ns.map V.int)) := by
      intro b u e
      by_cases hb : b = a
      · have e' : (if b = a then some (HO.frz ob (.lst (ns.map V.int))) else none) = some u := e
        rw [if_pos hb] at e'
        exact ⟨hb, (Option.some.inj e').symm⟩
      · have e' : (if b = a then some (HO.frz ob (.lst (ns.map V.int))) else none) = some u := e
        rw [if_neg hb] at e'; cases e'
    refine law_at H (fun b u e => ?_) (.inl (.inr ⟨ob, atA⟩)) (fun b u e => ?_) KX hns hb hbb hlim hg ha hr F hbind hm
    · obtain ⟨rfl, rfl⟩ := onA b u e
      exact ⟨rfl, hk, _, _, rfl⟩
    · obtain ⟨rfl, rfl⟩ := onA b u e
      exact ⟨ha, by simpa using hl, vs, _, vi, ha⟩
  · obtain ⟨o, ho⟩ := Option.ne_none_iff_exists'.mp hk
    have eo := KX a o ho
    rw [ha] at eo
    cases eo
    have len := hi.length
    refine law_at (fun _ => none) (fun b u e => by cases e) (.inr ⟨_, vs.toArray, _, ho, rfl, rfl, rfl, ?_, by simpa using vi⟩) (fun b u e => ?_) KX hns hb hbb hlim hg ha hr F hbind hm
    · rw [List.size_toArray, len]; exact hl
    · have e' : (none : Option HO) = some u := e
      cases e'
end
/-- the goal that the head leaves -/
theorem walk_ev {l : PySem.W.OpenLaw} {n k : Nat} {q : Program} {loose : List Str} {XP : (Str → Option Value) → Heap → Prop} {YP : World → Heap → Prop} {d : DefRec} {x : Str} {m : List D → M D}
    (hn : l.most = some n) (hn2 : n ≤ sizeLine) (hdf : d.params.defaults = []) (hr : Room k callerA)
    (F : ∀ (w : World) (mg : Str → Option Value) (fa : Addr) (h : Heap), YP w h → h.Ns mainGlobals mg → mg d.name = some (.ref fa) →
      ∃ (K : PySem.W.Frag) (fd : FuncData), K.In h ∧ (∀ (s : Shared) (u : Value), BindsTo s fd ⟨[u], []⟩ [(x, u)]) ∧ ∀ base : Heap, K.In base → base.Ns mainGlobals mg → FnG l.prog w K mg base k fa fd [x] (spM K 1 m))
    (hm : ∀ ns : List Int, ns.length ≤ n → (∀ i ∈ ns, Builtin.Int.intBits i ≤ 1048576) → ∃ S, m [.scr ns] [] = .ok (.bl true) S) :
    PySem.W.WalkO q loose XP YP l.row.toRowW d [] (fun f vs => PySem.call f vs) := by
  refine Att.attach_callB hn hdf ?_
  intro w s0 s1 mg mb fa o pm cd doc a vs ns G Y _ _ _ hmg hobj hints hlen hbits hg
  obtain ⟨K, fd, KX, hb, hF⟩ := F w mg fa _ Y G.T.g hmg
  exact codeAny_mono (law_go KX G.T.g G.T.b G.T.builtins G.T.nolimit hg hobj hints (Nat.le_trans hlen hn2) hr hF hb (hm ns hlen hbits)) fun r s' ⟨⟨h1, h2⟩, h3, h4⟩ => ⟨h1, h2, h3, h4⟩
end Ev
/-! # what the evaluator's terms give: small laws for the mathematics -/
namespace Ev
open PySem L2
section
variable {S S1 S2 : Store} {i j : Int} {xs ys ds : List D} {δ : En} {m ma mb : ME} {d x y : D}
theorem pAdd_ii : pAdd (.int i) (.int j) S = some (.int (i + j), S) := rfl
theorem pSub_ii : pSub (.int i) (.int j) S = some (.int (i - j), S) := rfl
theorem pMul_ii (h : mulOk i j = true) : pMul (.int i) (.int j) S = some (.int (i * j), S) := by
  unfold pMul
  simp only [h, if_true]
theorem mul_l (h1 : -(2 ^ 64) < i) (h2 : i < 2 ^ 64) : mulOk i j = true := by
  unfold mulOk
  simp only [Bool.or_eq_true, decide_eq_true_eq]
  exact .inl ⟨h1, h2⟩
theorem mul_r (h1 : -(2 ^ 64) < j) (h2 : j < 2 ^ 64) : mulOk i j = true := by
  unfold mulOk
  simp only [Bool.or_eq_true, decide_eq_true_eq]
  exact .inr ⟨h1, h2⟩
theorem pMod_ii (h : 0 < j) : pMod (.int i) (.int j) S = some (.int (i % j), S) := by
  simp only [pMod, pInt2, h, decide_true, if_true]
theorem pFdiv_ii (h : 0 < j) (h2 : j < 1073741824) : pFdiv (.int i) (.int j) S = some (.int (i / j), S) := by
  simp only [pFdiv, pInt2, h, h2, and_self, decide_true, if_true]
theorem pLt_ii : pLt (.int i) (.int j) S = some (.bl (decide (i < j)), S) := rfl
theorem pLe_ii : pLe (.int i) (.int j) S = some (.bl (decide (i ≤ j)), S) := rfl
theorem pGt_ii : pGt (.int i) (.int j) S = some (.bl (decide (j < i)), S) := rfl
theorem pGe_ii : pGe (.int i) (.int j) S = some (.bl (decide (j ≤ i)), S) := rfl
theorem pEq_ii : pEq (.int i) (.int j) S = some (.bl (i == j), S) := by
  simp [pEq, eqD, toPS, PyData.depth, PyData.eqv]
theorem pNe_ss {a b : Str} : pNe (.str a) (.str b) S = some (.bl (!(a == b)), S) := by
  simp [pNe, eqD, toPS, PyData.depth, PyData.eqv]
theorem atI_nat {α : Type} {xs : List α} {k : Nat} (h : k < xs.length) : atI xs (k : Int) = some xs[k] := by
  have h0 : (0 : Int) ≤ k := Int.natCast_nonneg k
  have h1 : (k : Int) < (xs.length : Int) := by omega
  simp [atI, ixN, h0, h1, h]
theorem atI_zero {α : Type} {x : α} {xs : List α} : atI (x :: xs) 0 = some x := by simp [atI, ixN]
theorem pIx_lst {k : Nat} (h : k < xs.length) : pIx (.lst xs) (.int k) S = some (xs[k], S) := by
  simp only [pIx, seqOf, lstOf, Option.bind_some, atI_nat h, Option.map_some]
theorem pIx_tup {k : Nat} (h : k < xs.length) : pIx (.tup xs) (.int k) S = some (xs[k], S) := by
  simp only [pIx, seqOf, Option.bind_some, atI_nat h, Option.map_some]
theorem pIx_scr {ns : List Int} {k : Nat} (h : k < ns.length) : pIx (.scr ns) (.int k) S = some (.int ns[k], S) := by
  have h' : k < (ns.map D.int).length := by simpa using h
  simp only [pIx, seqOf, lstOf, Option.bind_some, atI_nat h', Option.map_some, List.getElem_map]
theorem pIx_ref {t k : Nat} (hS : S[t]? = some (some (.lst xs))) (h : k < xs.length) : pIx (.ref t) (.int k) S = some (xs[k], S) := by
  simp only [pIx, seqOf, lstOf, hS, Option.bind_some, atI_nat h, Option.map_some]
theorem pLen_lst : pLen [.lst xs] S = some (.int xs.length, S) := rfl
theorem pLen_tup : pLen [.tup xs] S = some (.int xs.length, S) := rfl
theorem pLen_scr {ns : List Int} : pLen [.scr ns] S = some (.int ns.length, S) := by simp [pLen, seqOf, lstOf]
theorem pLen_ref {t : Nat} (hS : S[t]? = some (some (.lst xs))) : pLen [.ref t] S = some (.int xs.length, S) := by simp [pLen, seqOf, lstOf, hS]
theorem pInt_i : pInt [.int i] S = some (.int i, S) := rfl
theorem pInt_b {b : Bool} : pInt [.bl b] S = some (.int (if b then 1 else 0), S) := rfl
theorem newL_ev (h : xs.length ≤ sizeLine) : newL xs S = some (.lst xs, S) := by simp only [newL, h, if_true]
theorem newT_ev (h : xs.length ≤ sizeLine) : newT xs S = some (.tup xs, S) := by simp only [newT, h, if_true]
theorem newC_ev (h : xs.length ≤ sizeLine) : newC xs S = some (.ref S.length, S ++ [some (.lst xs)]) := by simp only [newC, h, if_true]
/-! loops -/
theorem loop_inv {mg : TGM} {mb : MS} (P : Nat → En → Store → Prop) (h : ∀ k δ S, (hk : k < ds.length) → P k δ S → ∃ δ1 S1, mg ds[k] δ S = some (δ1, S1) ∧ ∃ δ2 S2, mb δ1 S1 = .nx δ2 S2 ∧ P (k + 1) δ2 S2) (h0 : P 0 δ S) :
    ∃ δ2 S2, loopF mg mb ds δ S = .nx δ2 S2 ∧ P ds.length δ2 S2 := by
  have key : ∀ (n k : Nat) (δ : En) (S : Store), k + n = ds.length → P k δ S → ∃ δ2 S2, loopF mg mb (ds.drop k) δ S = .nx δ2 S2 ∧ P ds.length δ2 S2 := by
    intro n
    induction n with
    | zero =>
      intro k δ S e p
      have : k = ds.length := by omega
      subst this
      rw [List.drop_length]
      exact ⟨δ, S, rfl, p⟩
    | succ n ih =>
      intro k δ S e p
      have hk : k < ds.length := by omega
      obtain ⟨δ1, S1, e1, δ2, S2, e2, p2⟩ := h k δ S hk p
      obtain ⟨δ3, S3, e3, p3⟩ := ih (k + 1) δ2 S2 (by omega) p2
      refine ⟨δ3, S3, ?_, p3⟩
      rw [List.drop_eq_getElem_cons hk]
      simp only [loopF, e1, e2]
      exact e3
  exact key ds.length 0 δ S (by omega) h0
theorem rng_len {n : Nat} : (rngD 0 n).length = n := by simp [rngD]
theorem rng_get {n k : Nat} (h : k < (rngD 0 n).length) : (rngD 0 n)[k] = .int k := by simp [rngD]
/-! comprehensions -/
/-- the store may change: the invariant by what has been made -/
theorem lc_inv {up : UpD} {mt : MT} {me : ME} {δ0 : En} (P : Nat → List D → Store → Prop)
    (h : ∀ k acc S, (hk : k < ds.length) → P k acc S → ∃ us, up ds[k] = some us ∧ ((∃ S1, mt (setsD δ0 us) S = .ok false S1 ∧ P (k + 1) acc S1) ∨ ∃ S1, mt (setsD δ0 us) S = .ok true S1 ∧ ∃ y S2, me (setsD δ0 us) S1 = .ok y S2 ∧ acc.length < sizeLine ∧ P (k + 1) (acc ++ [y]) S2)) (h0 : P 0 [] S) :
    ∃ ys S2, loopC up mt me δ0 ds [] S = .ok ys S2 ∧ P ds.length ys S2 := by
  have key : ∀ (n k : Nat) (acc : List D) (S : Store), k + n = ds.length → P k acc S → ∃ ys S2, loopC up mt me δ0 (ds.drop k) acc S = .ok ys S2 ∧ P ds.length ys S2 := by
    intro n
    induction n with
    | zero =>
      intro k acc S e p
      have : k = ds.length := by omega
      subst this
      rw [List.drop_length]
      exact ⟨acc, S, rfl, p⟩
    | succ n ih =>
      intro k acc S e p
      have hk : k < ds.length := by omega
      obtain ⟨us, e1, h1⟩ := h k acc S hk p
      rw [List.drop_eq_getElem_cons hk]
      rcases h1 with ⟨S1, e2, p2⟩ | ⟨S1, e2, y, S2, e3, hl, p2⟩
      · obtain ⟨ys, S3, e4, p3⟩ := ih (k + 1) acc S1 (by omega) p2
        refine ⟨ys, S3, ?_, p3⟩
        simp only [loopC, e1, M.bind, noX, e2]
        exact e4
      · obtain ⟨ys, S3, e4, p3⟩ := ih (k + 1) (acc ++ [y]) S2 (by omega) p2
        refine ⟨ys, S3, ?_, p3⟩
        simp only [loopC, e1, M.bind, noX, e2, e3, hl, if_true]
        exact e4
  exact key ds.length 0 [] S (by omega) h0
/-- nothing changes, all are taken -/
theorem lc_map {me : ME} {δ0 : En} {k : Nat} (f : D → D) (hl : ds.length ≤ sizeLine) (h : ∀ d ∈ ds, me (δ0.set k (some d)) S = .ok (f d) S) : loopC (uNm k) tYesM me δ0 ds [] S = .ok (ds.map f) S := by
  obtain ⟨ys, S2, e, p1, p2⟩ := lc_inv (up := uNm k) (mt := tYesM) (me := me) (δ0 := δ0) (ds := ds) (S := S) (fun n acc S' => acc = (ds.take n).map f ∧ S' = S) (by
    rintro n acc S' hn ⟨rfl, rfl⟩
    refine ⟨_, rfl, .inr ⟨S', rfl, f ds[n], S', h _ (List.getElem_mem hn), by simp; omega, ?_, rfl⟩⟩
    rw [List.take_succ_eq_append_getElem hn, List.map_append]; rfl) ⟨rfl, rfl⟩
  subst p2
  rw [e, p1, List.take_length]
/-- .. a test chooses -/
theorem lc_filter {mt : MT} {me : ME} {δ0 : En} {k : Nat} (p : D → Bool) (f : D → D) (hl : ds.length ≤ sizeLine) (h1 : ∀ d ∈ ds, mt (δ0.set k (some d)) S = .ok (p d) S) (h : ∀ d ∈ ds, p d = true → me (δ0.set k (some d)) S = .ok (f d) S) : loopC (uNm k) mt me δ0 ds [] S = .ok ((ds.filter p).map f) S := by
  obtain ⟨ys, S2, e, p1, p2⟩ := lc_inv (up := uNm k) (mt := mt) (me := me) (δ0 := δ0) (ds := ds) (S := S) (fun n acc S' => acc = ((ds.take n).filter p).map f ∧ S' = S) (by
    rintro n acc S' hn ⟨rfl, rfl⟩
    refine ⟨_, rfl, ?_⟩
    have hm := List.getElem_mem hn
    have e1 := h1 _ hm
    rw [List.take_succ_eq_append_getElem hn, List.filter_append, List.map_append]
    cases hp : p ds[n] with
    | false => exact .inl ⟨S', by rw [hp] at e1; exact e1, by simp [hp], rfl⟩
    | true =>
      refine .inr ⟨S', by rw [hp] at e1; exact e1, f ds[n], S', h _ hm hp, ?_, by simp [hp], rfl⟩
      have := List.length_filter_le p (ds.take n)
      simp at this ⊢; omega) ⟨rfl, rfl⟩
  subst p2
  rw [e, p1, List.take_length]
/-! ### step by step -/
section
variable {S3 : Store} {z : D} {f f' : D → D → PO} {g : List D → PO} {mas : MA} {fm : List D → M D} {tc ta tb : MT} {b : Bool} {md : M D} {rd : Res D} {rb : Res Bool} {fin : List D → PO} {mi : MA} {up : UpD} {me : ME} {vs : List Nat} {mc : ME}
theorem eOp_ok (ha : ma δ S = .ok x S1) (hb : mb δ S1 = .ok y S2) (hf : f x y S2 = some (z, S3)) : eOp f ma mb δ S = .ok z S3 := by simp only [eOp, M.bind, ha, hb, lft, hf]
theorem eUn_ok {f : D → PO} (ha : ma δ S = .ok x S1) (hf : f x S1 = some (z, S2)) : eUn f ma δ S = .ok z S2 := by simp only [eUn, M.bind, ha, lft, hf]
theorem eCallV_ok (ha : mas δ S = .ok xs S1) (hf : g xs S1 = some (z, S2)) : eCallV g mas δ S = .ok z S2 := by simp only [eCallV, M.bind, ha, lft, hf]
theorem eCal_ok (ha : mas δ S = .ok xs S1) (hf : fm xs S1 = rd) : eCal fm mas δ S = rd := by simp only [eCal, M.bind, ha, hf]
theorem aCons_ok (ha : ma δ S = .ok x S1) (hb : mas δ S1 = .ok xs S2) : aCons ma mas δ S = .ok (x :: xs) S2 := by simp only [aCons, M.bind, ha, hb, M.pure]
theorem eTup_ok (ha : mas δ S = .ok xs S1) (hl : xs.length ≤ sizeLine) : eTup mas δ S = .ok (.tup xs) S1 := by simp only [eTup, M.bind, ha, lft, newT_ev hl]
theorem eLst_ok (ha : mas δ S = .ok xs S1) (hl : xs.length ≤ sizeLine) : eLst mas δ S = .ok (.lst xs) S1 := by simp only [eLst, M.bind, ha, lft, newL_ev hl]
theorem eLstC_ok (ha : mas δ S = .ok xs S1) (hl : xs.length ≤ sizeLine) : eLstC mas δ S = .ok (.ref S1.length) (S1 ++ [some (.lst xs)]) := by simp only [eLstC, M.bind, ha, lft, newC_ev hl]
theorem asB_ok (h : md S = .ok (.bl b) S1) : asB md S = .ok b S1 := by simp only [asB, M.bind, h, M.pure]
theorem tru_ok (h : md S = .ok d S1) (ht : truD S1 d = some b) : tru md S = .ok b S1 := by simp only [tru, M.bind, h, ht]
theorem tNot_ok (h : ta δ S = .ok b S1) : tNotM ta δ S = .ok (!b) S1 := by simp only [tNotM, M.bind, h, M.pure]
theorem tOr_t (h : ta δ S = .ok true S1) : tOrM ta tb δ S = .ok true S1 := by simp only [tOrM, M.bind, h, cond_true, M.pure]
theorem tOr_f (h : ta δ S = .ok false S1) (h2 : tb δ S1 = rb) : tOrM ta tb δ S = rb := by simp only [tOrM, M.bind, h, cond_false, h2]
theorem tAnd_t (h : ta δ S = .ok true S1) (h2 : tb δ S1 = rb) : tAndM ta tb δ S = rb := by simp only [tAndM, M.bind, h, cond_true, h2]
theorem tAnd_f (h : ta δ S = .ok false S1) : tAndM ta tb δ S = .ok false S1 := by simp only [tAndM, M.bind, h, cond_false, M.pure]
theorem eIf_t (h : tc δ S = .ok true S1) (h2 : ma δ S1 = rd) : eIf tc ma mb δ S = rd := by simp only [eIf, M.bind, h, cond_true, h2]
theorem eIf_f (h : tc δ S = .ok false S1) (h2 : mb δ S1 = rd) : eIf tc ma mb δ S = rd := by simp only [eIf, M.bind, h, cond_false, h2]
theorem eAnd_t (h : ma δ S = .ok x S1) (ht : truD S1 x = some true) (h2 : mb δ S1 = rd) : eAnd ma mb δ S = rd := by simp only [eAnd, M.bind, h, ht, h2]
theorem eAnd_f (h : ma δ S = .ok x S1) (ht : truD S1 x = some false) : eAnd ma mb δ S = .ok x S1 := by simp only [eAnd, M.bind, h, ht]
theorem eOr_t (h : ma δ S = .ok x S1) (ht : truD S1 x = some true) : eOr ma mb δ S = .ok x S1 := by simp only [eOr, M.bind, h, ht]
theorem eOr_f (h : ma δ S = .ok x S1) (ht : truD S1 x = some false) (h2 : mb δ S1 = rd) : eOr ma mb δ S = rd := by simp only [eOr, M.bind, h, ht, h2]
theorem eNot_ok (h : ma δ S = .ok x S1) (ht : truD S1 x = some b) : eNot ma δ S = .ok (.bl (!b)) S1 := by simp only [eNot, M.bind, tru, h, ht, M.pure]
theorem eChain_t (ha : ma δ S = .ok x S1) (hb : mb δ S1 = .ok y S2) (hf : f x y S2 = some (.bl true, S2)) (hc : mc δ S2 = .ok z S3) {u : D} {S4 : Store} (hf2 : f' y z S3 = some (u, S4)) : eChain f f' ma mb mc δ S = .ok u S4 := by
  simp only [eChain, M.bind, ha, hb, lft, hf, hc, hf2]
theorem eChain_f (ha : ma δ S = .ok x S1) (hb : mb δ S1 = .ok y S2) (hf : f x y S2 = some (.bl false, S2)) : eChain f f' ma mb mc δ S = .ok (.bl false) S2 := by
  simp only [eChain, M.bind, ha, hb, lft, hf, M.pure]
theorem eLc_ok {mt : MT} (hi : mi δ S = .ok ds S1) (hl : loopC up mt me (wipeD δ vs) ds [] S1 = .ok ys S2) (hf : fin ys S2 = some (z, S3)) : eLc fin mi up mt me vs δ S = .ok z S3 := by simp only [eLc, M.bind, hi, hl, lft, hf]
theorem eMB_ok {T : String} {f : D → List D → PO} {mo : ME} (ho : mo δ S = .ok x S1) (ht : tyD T S1 x = true) (ha : mas δ S1 = .ok xs S2) (hf : f x xs S2 = some (z, S3)) : eMB T f mo mas δ S = .ok z S3 := by simp only [eMB, M.bind, ho, ht, if_true, ha, lft, hf]
theorem eFld_ok {okf : Str → Bool} {fl c : Str} {fs : List (Str × D)} {mo : ME} (ho : mo δ S = .ok x S1) (hc : clsOf S1 x = some (c, fs)) (hk : okf c = true) (hl : fs.lookup fl = some d) : eFld okf fl mo δ S = .ok d S1 := by simp only [eFld, M.bind, ho, hc, hk, if_true, hl]
theorem eIsi_ok {isi : Ty → Ty → Option Bool} {c t : Ty} {mo : ME} (ho : mo δ S = .ok x S1) (ht : tyOf S1 x = some t) (hi : isi t c = some b) : eIsi isi c mo δ S = .ok (.bl b) S1 := by simp only [eIsi, M.bind, ho, ht, Option.bind_some, hi]
theorem eFrz_ok (h : ma δ S = .ok x S1) (hf : frzD 4 x S1 = some (z, S2)) : eFrz ma δ S = .ok z S2 := by simp only [eFrz, M.bind, h, lft, hf]
theorem eRev_ok (h : ma δ S = .ok (.lst xs) S1) (hl : xs.length ≤ sizeLine) : eRev ma δ S = .ok (.lst xs.reverse) S1 := by
  have hl' : xs.reverse.length ≤ sizeLine := by simpa using hl
  simp only [eRev, M.bind, h, lft, pRev, lstOf, newL_ev hl']
theorem iAny_ok (h : ma δ S = .ok x S1) (ha : anyOf x = some xs) : iAny ma δ S = .ok xs S1 := by simp only [iAny, M.bind, h, ha]
theorem iR1_ok {k : Nat} (h : mas δ S = .ok [.int k] S1) (hk : k < 4611686018427387904) : iR1 mas δ S = .ok (rngD 0 k) S1 := by
  have hr : -(2 ^ 62) ≤ (k : Int) ∧ (k : Int) < 2 ^ 62 := by omega
  simp only [iR1, M.bind, h]
  rw [if_pos hr, Int.toNat_natCast]
theorem iZip_ok {zs : List D} (h : mas δ S = .ok xs S1) (hz : pZip xs = some zs) : iZip mas δ S = .ok zs S1 := by simp only [iZip, M.bind, h, hz]
theorem aStar_ok (ha : ma δ S = .ok x S1) (hs : seqOf S1 x = some xs) (hb : mas δ S1 = .ok ys S2) : aStar ma mas δ S = .ok (xs ++ ys) S2 := by simp only [aStar, M.bind, ha, hs, hb, M.pure]
variable {ms mt : MS} {mg : TGM} {δ1 δ2 : En} {rf : Fl}
theorem sAsg_ok (h : ma δ S = .ok d S1) (hg : mg d δ S1 = some (δ2, S2)) : sAsg ma mg δ S = .nx δ2 S2 := by simp only [sAsg, ofE, h, hg]
theorem sRet_ok (h : ma δ S = .ok d S1) : sRet ma δ S = .rt d S1 := by simp only [sRet, ofE, h]
theorem sExpr_ok (h : ma δ S = .ok d S1) : sExpr ma δ S = .nx δ S1 := by simp only [sExpr, ofE, h]
theorem sIf_t (h : tc δ S = .ok true S1) (h2 : ms δ S1 = rf) : sIf tc ms mt δ S = rf := by simp only [sIf, ofE, h, cond_true, h2]
theorem sIf_f (h : tc δ S = .ok false S1) (h2 : mt δ S1 = rf) : sIf tc ms mt δ S = rf := by simp only [sIf, ofE, h, cond_false, h2]
theorem sSeq_nx (h : ms δ S = .nx δ1 S1) (h2 : mt δ1 S1 = rf) : sSeq ms mt δ S = rf := by simp only [sSeq, h, h2]
theorem sSeq_rt (h : ms δ S = .rt d S1) : sSeq ms mt δ S = .rt d S1 := by simp only [sSeq, h]
theorem sFor_ok (hi : mi δ S = .ok ds S1) (hl : loopF mg ms ds δ S1 = rf) : sFor mi mg ms δ S = rf := by simp only [sFor, ofE, hi, hl]
theorem sPar2_ok {i j : Nat} (h : mas δ S = .ok [x, y] S1) : sPar2 i j mas δ S = .nx ((δ.set i (some x)).set j (some y)) S1 := by simp only [sPar2, ofE, h]
theorem funM_rt {nN n : Nat} (hl : ds.length = n) (h : ms (startD nN ds) S = .rt d S1) : funM nN n ms ds S = .ok d S1 := by simp only [funM, hl, if_true, h]
theorem iOrd_nx {mI : MI} {fs : List (Str × D)} {rI : FlI} (h : ms δ S = .nx δ1 S1) (h2 : mI δ1 fs S1 = rI) : iOrd ms mI δ fs S = rI := by simp only [iOrd, h, h2]
theorem iSets_ok {mI : MI} {ps : List Str} {fs fs' : List (Str × D)} {rI : FlI} (h : ma δ S = .ok (.tup ds) S1) (hs : isSlf δ = true) (hp : putAll ps ds fs = some fs') (h2 : mI δ fs' S1 = rI) : iSets ma ps mI δ fs S = rI := by simp only [iSets, h, hs, if_true, hp, h2]
theorem initM_ok {nN n : Nat} {mI : MI} {δ' : En} {fs : List (Str × D)} (hl : ds.length = n) (h : mI (some .slf :: startD (nN - 1) ds) [] S = .nx δ' fs S1) : initM nN n mI ds S = .ok fs S1 := by simp only [initM, hl, if_true, h]
theorem gTp2_ok {g1 g2 : TGM} (h1 : g1 x δ S = some (δ1, S1)) (h2 : g2 y δ1 S1 = some (δ2, S2)) : gTp 2 (gCs g1 (gCs g2 gNl)) (.tup [x, y]) δ S = some (δ2, S2) := by
  simp only [gTp, List.length_cons, List.length_nil, gCs, h1, h2, Option.bind_some, gNl]
  rfl
theorem gSb_ok {fp : PSt} {mo mi : ME} {S4 : Store} (ho : mo δ S = .ok x S1) (hi : mi δ S1 = .ok y S2) (hf : fp x y d S2 = some S4) : gSb fp mo mi d δ S = some (δ, S4) := by
  simp only [gSb, toO, ho, hi, Option.bind_some, hf, Option.map_some]
end
end
end Ev
/-! # the head's facts with more: whatever the written part decides -/
namespace Ev
open PySem PySem.Spec PyProof.Rows L2
abbrev Ex : Type := PySem.W.Frag → Bool
abbrev AlX : Type := He.AlD × Bool
def obsX (n : Nat) (fa : List He.Fa) (fn : List He.DefD) (ex : List Ex) (g : Addr → Option Obj) : AlX := (He.obsDG n fa fn g, ex.all fun f => f (He.frG g (He.asD g n)))
def hookX (n : Nat) (fa : List He.Fa) (fn : List He.DefD) (ex : List Ex) : PySem.W.Hook where
  α := AlX
  obs := fun s => obsX n fa fn ex s.heap.get?
  val := fun _ => (He.valD fn, true)
  says := fun _ h => ∃ K : PySem.W.Frag, K.In h ∧ He.SaysD fa fn K ∧ (ex.all fun f => f K) = true
  of := fun _ _ e => ⟨_, He.frG_in, congrArg Prod.fst e, congrArg Prod.snd e⟩
  keeps := fun _ _ _ ⟨K, hK, c⟩ k => ⟨K, PySem.W.Frag.In.keeps hK k, c⟩
theorem obsX_eq {n : Nat} {fa : List He.Fa} {fn : List He.DefD} {ex : List Ex} {g : Addr → Option Obj} {s : Shared} (h : ∀ a, g a = s.heap.get? a) : obsX n fa fn ex g = (hookX n fa fn ex).obs s := by
  have e : g = s.heap.get? := funext h
  subst e
  rfl
theorem ex_at {K : PySem.W.Frag} {ex : List Ex} (h : (ex.all fun f => f K) = true) (i : Nat) {f : Ex} (e : ex[i]? = some f := by rfl) : f K = true := List.all_eq_true.mp h f (List.mem_of_getElem? e)
/-! isinstance by a table -/
def Ty.beq : Ty → Ty → Bool := fun a b => decide (a = b)
def isiT (tab : List (Ty × Ty × Bool)) (t c : Ty) : Option Bool := (tab.find? fun x => decide (x.1 = t) && decide (x.2.1 = c)).map fun x => x.2.2
def kitB (tab : List (Ty × Ty × Bool)) : Ex := fun K => tab.all fun x => decide (PySem.W.kitOne K (x.1.val K) (x.2.1.val K) = some x.2.2)
def ownB (cs : List Str) : Ex := fun K => cs.all fun c => (He.Fa.cls c).ok K && (decide (PySem.W.findIn K (.ref (He.ga K c)) "__class__" = some (some (.builtin "object.__class__"))) &&
  (decide (PySem.W.specialIn K (.builtin "object.__class__") "__get__" = some (some (.builtin "getset_descriptor.__get__"))) && (decide (PySem.W.takesIn K (.builtin "object.__class__") = some true) && decide (PySem.W.mroIn K (He.ga K c) (.type "object") = some true))))
theorem isi_ok {K : PySem.W.Frag} {tab : List (Ty × Ty × Bool)} {cs : List Str} (h1 : kitB tab K = true) (h2 : ownB cs K = true) (h3 : (tab.all fun x => match x.1 with
  | .own c => decide (c ∈ cs)
  | .blt _ => true) = true) : IsiOk K (isiT tab) := by
  have key : ∀ t c b, isiT tab t c = some b → (t, c, b) ∈ tab := fun t c b e => by
    unfold isiT at e
    obtain ⟨x, e1, e2⟩ := Option.map_eq_some_iff.mp e
    have hm := List.mem_of_find?_eq_some e1
    have hp := List.find?_some e1
    simp only [Bool.and_eq_true, decide_eq_true_eq] at hp
    obtain ⟨rfl, rfl⟩ := hp
    subst e2
    exact hm
  refine ⟨fun t c b e => ?_, fun c d b e => ?_⟩
  · exact of_decide_eq_true (List.all_eq_true.mp h1 _ (key t c b e))
  · have hc : c ∈ cs := of_decide_eq_true (List.all_eq_true.mp h3 _ (key _ d b e))
    have h := List.all_eq_true.mp h2 c hc
    simp only [Bool.and_eq_true, decide_eq_true_eq] at h
    obtain ⟨a1, a2, a3, a4, a5⟩ := h
    exact ⟨He.cls_ok a1, a2, a3, a4, a5⟩
end Ev
/-! # == and != by a class's own __eq__ -/
namespace Ev
open PySem PySem.Spec PyProof.Rows L2
section
variable {prog : Program} {w : World} {A : Around} {E : Value → Shared → Prop} {s : Shared} {K : PySem.W.Frag} {x y C f : Addr} {ox oy : Obj} {od od' : Option Obj}
theorem objNe {Q : Value → Shared → Prop} (hu : A.in1.units < cLine) (X : K.In s.heap) (I : PySem.W.InstAt s.heap x ox C od) (hm : PySem.W.mroIn K C (.type "object") = some true) (hs : PySem.W.findIn K (.ref C) "__eq__" = some (some (.ref f))) (hf : PySem.W.isFn K (.ref f) = true)
    (h : wpAny (model prog w) A.in1 (call (.ref f) [.ref x, .ref y]) (fun v s' => ∃ b, v = .bool b ∧ Q (.bool (!b)) s') E s) : wpAny (model prog w) A (call (.builtin "object.__ne__") [.ref x, .ref y]) Q E s := by
  refine wpAny_call (codeAny_call_builtin F.cmp_object.ne.plain F.cmpEntry_ne (PySem.W.check_slot F.cmpKind_ne F.cmpSplit_ne (I.type.andThen (PySem.W.looks_mroIn X hm)) (F.cmpArgs_ne _ _) ?_))
  unfold Builtin.«object.__ne__»
  refine wpAny_bind (wpAny_pure ?_)
  refine wpAny_bind (wpAny_cRoomFor hu ?_)
  refine wpAny_bind (PySem.W.ifBound_K X I hs hf (wpAny_mono h (fun v s' hv => ?_) fun _ _ e => e))
  obtain ⟨b, rfl, hq⟩ := hv
  refine wpAny_bind (wpAny_truthy_bool ?_)
  exact wpAny_pure hq
theorem ifBound_ne {args : List Value} {Q : Option Value → Shared → Prop} {M : Model} (X : K.In s.heap) (I : PySem.W.InstAt s.heap x ox C od) (hs : PySem.W.findIn K (.ref C) "__ne__" = some (some (.builtin "object.__ne__")))
    (h : wpAny M A (call (.builtin "object.__ne__") (.ref x :: args)) (fun v => Q (some v)) E s) : wpAny M A (callSpecialIfBound? (.ref x) "__ne__" args) Q E s := by
  simp only [callSpecialIfBound?, bindSpecialIfBound?]
  refine wpAny_holding (wpAny_bind (wpAny_bind (wpAny_bind (I.type.here ((PySem.W.looks_findIn X hs).here ?_)))))
  refine wpAny_bind (wpAny_askSetting (wpAny_ite ?_))
  have last : wpAny M A (call (.builtin "object.__ne__") ([.ref x] ++ args) >>= fun v => pure (some v)) Q E s := wpAny_bind (wpAny_mono h (fun v s' h' => wpAny_pure h') fun _ _ h' => h')
  split
  · exact wpAny_bind (wpAny_of_eq (F.cmp_object.ne.bind _) (wpAny_pure last))
  · exact wpAny_tryCatch (wpAny_bind (wpAny_of_eq (F.cmp_object.ne.bind _) (wpAny_pure last)))
theorem ne_inst {Q : Value → Shared → Prop} (hu : A.units < cLine) (hu1 : A.in1.units < cLine) (X : K.In s.heap) (I : PySem.W.InstAt s.heap x ox C od) (J : PySem.W.InstAt s.heap y oy C od') (hm : PySem.W.mroIn K C (.type "object") = some true)
    (hn : PySem.W.findIn K (.ref C) "__ne__" = some (some (.builtin "object.__ne__"))) (hs : PySem.W.findIn K (.ref C) "__eq__" = some (some (.ref f))) (hf : PySem.W.isFn K (.ref f) = true)
    (h : wpAny (model prog w) A.in1 (call (.ref f) [.ref x, .ref y]) (fun v s' => ∃ b, v = .bool b ∧ Q (.bool (!b)) s') E s) : wpAny (model prog w) A (richCompare .NotEq (.ref x) (.ref y)) Q E s := by
  have one : wpAny (model prog w) A (tryCompare (.ref x) "__ne__" (.ref y)) (fun r s' => ∃ b, r = some (.bool b) ∧ Q (.bool b) s') E s := by
    unfold tryCompare
    refine wpAny_bind (ifBound_ne X I hn (objNe hu1 X I hm hs hf (wpAny_mono h (fun v s' hv => ?_) fun _ _ e => e)))
    obtain ⟨b, rfl, hq⟩ := hv
    exact ⟨b, rfl, wpAny_pure ⟨!b, rfl, hq⟩⟩
  unfold richCompare
  simp only [oneThing_ref]
  refine wpAny_holding (wpAny_bind (wpAny_cRoomFor hu ?_))
  refine wpAny_bind (I.type.here (wpAny_bind (J.type.here ?_)))
  rw [if_neg (by simp)]
  refine wpAny_bind (wpAny_pure ?_)
  simp only [Bool.false_eq_true, if_false]
  refine wpAny_bind (m := tryCompare (.ref x) "__ne__" (.ref y)) (wpAny_mono one (fun r s' z => ?_) fun _ _ e => e)
  obtain ⟨b, rfl, hq⟩ := z
  exact wpAny_pure hq
end
/-- a class with its own __eq__: what == gives, as a function of the two -/
def EqTab : Type := Str → Option (List D → M D)
def EqG' (P : Program) (w : World) (K : PySem.W.Frag) (mg : Str → Option Value) (base : Heap) (k : Nat) (tab : Str → Option (List D → M D)) : Prop := ∀ c m, tab c = some m → ∃ f fd ps, PySem.W.findIn K (.ref (He.ga K c)) "__eq__" = some (some (.ref f)) ∧ PySem.W.findIn K (.ref (He.ga K c)) "__ne__" = some (some (.builtin "object.__ne__")) ∧
  PySem.W.mroIn K (He.ga K c) (.type "object") = some true ∧ PySem.W.isFn K (.ref f) = true ∧ ps.length = 2 ∧ FnG P w K mg base k f fd ps (spM K 2 m) ∧ BindK K fd ps []
/-- x == y: of data as before, of two instances of one class by its __eq__ -/
def pEqI (neg : Bool) (tab : Str → Option (List D → M D)) : D → D → PO := fun x y S => match clsOf S x, clsOf S y with
  | some (c, _), some (c', _) => if c = c' then (match tab c with
    | some m => (match m [x, y] S with
      | .ok (.bl b) S' => some (.bl (if neg then !b else b), S')
      | _ => none)
    | none => none) else none
  | none, none => if neg then pNe x y S else pEq x y S
  | _, _ => none
section
variable {X : Cx} {k : Nat} {tab : Str → Option (List D → M D)}
theorem call_eq {A : Around} {pins : List (Addr × Obj)} {s : Shared} {σ : L2.St} {H : Hp} {W : Wd} {S : Store} {dx dy : D} {a b f : Addr} {fd : FuncData} {ps : List Str} {m : List D → M D} {S' : Store} {r : Bool} (I : Inv X pins σ H s) (hA : A.guards = some []) (hr : Room k A) (hfr : A.frames = X.A.frames) (hl : ps.length = 2)
    (F : FnG X.prog X.w X.K X.mg X.base k f fd ps (spM X.K 2 m)) (hb : BindK X.K fd ps []) (g : Good X.K W S H) (q1 : Rep X.K W dx (.ref a)) (q2 : Rep X.K W dy (.ref b)) (e : m [dx, dy] S = .ok (.bl r) S') :
    wpAny (model X.prog X.w) A (call (.ref f) [.ref a, .ref b]) (fun v s' => v = .bool r ∧ ∃ W' H', W.le W' ∧ Good X.K W' S' H' ∧ Inv X pins σ H' s') X.xe s := by
  have want : spM X.K 2 m [.ref a, .ref b] H (fun v H' => v = .bl r ∧ ∃ W', W.le W' ∧ Good X.K W' S' H') (fun _ _ _ => False) := ⟨rfl, W, S, [dx, dy], g, .cons q1 (.cons q2 .nil), by
    rw [e]
    intro W' H' v l g' q
    cases q
    exact ⟨rfl, W', l, g'⟩⟩
  have e0 : Env0 X.prog X.w X.K X.mg X.base A X.stack s H := by
    have z := I.env0
    exact ⟨by rw [hfr]; exact z.frames, z.mod, z.bs, z.bsz, z.funs, z.frf, z.hok, z.bare⟩
  refine wpAny_call (codeAny_mono (F.run A hA X.stack s H ⟨[.ref a, .ref b], []⟩ [.ref a, .ref b] [.ref a, .ref b] _ _ hr e0 (hb s [.ref a, .ref b] [] (by simp [hl]) rfl) (.cons rfl (.cons rfl .nil)) want) fun res s' hq => ?_)
  cases res with
  | error ex =>
    obtain ⟨_, _, _, _, _, _, _, _, _, _, _, _, z⟩ := hq
    exact z.elim
  | ok fl =>
    cases fl with
    | ret u =>
      obtain ⟨v, H', I3, rv, rfl, W', l, g'⟩ := I.after hq
      cases rv
      exact ⟨rfl, W', H', l, g', I3⟩
    | next => exact hq.elim
    | brk => exact hq.elim
    | cont => exact hq.elim
theorem op_eqI (neg : Bool) (ht : EqG' X.prog X.w X.K X.mg X.base k tab) (hr : Room (k + 1) X.A) (hg : X.A.guards = some []) : OpR X (compareOp (if neg then .NotEq else .Eq)) (rD2 X.K (pEqI neg tab)) := fun pins s σ H x y v u Q I rx ry ⟨W, S, dx, dy, g, r1, r2, p⟩ => by
  have hu : X.A.units + 64 < cLine := by have := hr.un; omega
  have base : ∀ (p' : oV X.K W (if neg then pNe dx dy S else pEq dx dy S) Q), wpAny (model X.prog X.w) X.A (compareOp (if neg then .NotEq else .Eq) v u) (EP X pins σ Q) X.xe s := fun p' => by
    cases neg with
    | true => exact op_pNe hu pins s σ H x y v u Q I rx ry ⟨W, S, dx, dy, g, r1, r2, p'⟩
    | false => exact op_pEq hu pins s σ H x y v u Q I rx ry ⟨W, S, dx, dy, g, r1, r2, p'⟩
  unfold pEqI at p
  cases e1 : clsOf S dx with
  | none =>
    cases e2 : clsOf S dy with
    | none => rw [e1, e2] at p; exact base p
    | some _ => rw [e1, e2] at p; exact p.elim
  | some z =>
    cases e2 : clsOf S dy with
    | none => rw [e1, e2] at p; exact p.elim
    | some z2 =>
      obtain ⟨c, fs⟩ := z
      obtain ⟨c', fs'⟩ := z2
      rw [e1, e2] at p
      dsimp only at p
      split at p
      · rename_i hc
        subst hc
        cases e3 : tab c with
        | none => rw [e3] at p; exact p.elim
        | some m =>
          rw [e3] at p
          dsimp only at p
          obtain ⟨f, fd, ps, k1, k2, k3, k4, k5, F, hb⟩ := ht c m e3
          obtain ⟨a, da, vfs, rfl, h1, h2, h3⟩ := clsOf_ok e1 g r1
          obtain ⟨b, db, wfs, rfl, h4, h5, h6⟩ := clsOf_ok e2 g r2
          obtain rfl : v = Value.ref a := rx
          obtain rfl : u = Value.ref b := ry
          obtain ⟨mA, O, _⟩ := ins_get I.hok h1
          obtain ⟨oa, J, _⟩ := O.look
          obtain ⟨mB, O2, _⟩ := ins_get I.hok h4
          obtain ⟨ob, J2, _⟩ := O2.look
          cases e4 : m [dx, dy] S with
          | bad => rw [e4] at p; exact p.elim
          | exc x S' => rw [e4] at p; exact p.elim
          | ok d S' =>
            rw [e4] at p
            cases d with
            | bl r =>
              dsimp only at p
              cases neg with
              | false =>
                show wpAny (model X.prog X.w) X.A (richCompare .Eq (.ref a) (.ref b)) (EP X pins σ Q) X.xe s
                obtain ⟨mm, hF⟩ := I.fr
                refine PySem.W.cmp_K (op := .Eq) (tb := .ref (He.ga X.K c)) (by omega) hF I.ok.mod.kin J J2.type (by simp [PySem.W.notFirst]) k1 k4 ?_
                refine wpAny_mono (call_eq I hg (hr.mono (Nat.le_succ k)) rfl k5 F hb g r1 r2 e4) (fun v s' hv => ?_) fun _ _ x => x
                obtain ⟨rfl, W', H', l, g', I'⟩ := hv
                exact ⟨.bl r, H', I', rfl, p W' H' _ l g' (.bl _)⟩
              | true =>
                show wpAny (model X.prog X.w) X.A (richCompare .NotEq (.ref a) (.ref b)) (EP X pins σ Q) X.xe s
                have hr1 : Room k X.A.in1 := Room.in1 hr
                refine ne_inst (by omega) (by have := hr1.un; omega) I.kIn J J2 k3 k2 k1 k4 ?_
                refine wpAny_mono (call_eq I hg hr1 rfl k5 F hb g r1 r2 e4) (fun v s' hv => ?_) fun _ _ x => x
                obtain ⟨rfl, W', H', l, g', I'⟩ := hv
                exact ⟨r, rfl, .bl (!r), H', I', rfl, p W' H' _ l g' (.bl _)⟩
            | _ => exact p.elim
      · exact p.elim
end
end Ev
/-! # sorted of numbers, pop, list and tuple of a range -/
namespace Ev
open PySem PySem.Spec PySem.SeqAt PyProof.Rows L2
section
variable {X : Cx} {Wx : WX} {a b e : Expr} {ma mb : ME} {pos p : Pos}
def sortI (ns : List Int) : List Int := ns.mergeSort fun a b => decide (a ≤ b)
theorem sortI_perm (ns : List Int) : (sortI ns).Perm ns := List.mergeSort_perm ns _
theorem sortI_pw (ns : List Int) : (sortI ns).Pairwise (· ≤ ·) := by
  have h := List.pairwise_mergeSort (le := fun a b : Int => decide (a ≤ b)) (fun a b c h1 h2 => by simp at *; omega) (fun a b => by simp; omega) ns
  exact h.imp fun h => by simpa using h
theorem sortI_eq {ns ms : List Int} (h : ms.Perm ns) (hp : ms.Pairwise (· ≤ ·)) : ms = sortI ns :=
  List.Perm.eq_of_pairwise (le := (· ≤ ·)) (fun a b _ _ h1 h2 => by omega) hp (sortI_pw ns) (h.trans (sortI_perm ns).symm)
def pSorted : List D → PO := fun ds S => match ds with
  | [x] => ((lstOf S x).bind intsOf).bind fun ns => if ns.length < 64 then some (.lst ((sortI ns).map D.int), S) else none
  | _ => none
theorem cr_pSorted : CallR X (.builtin "sorted") (rDC X.K pSorted) := call_of cr_sorted fun W S H vs ds Q g r p => by
  match ds, r, p with
  | [d], r, p =>
    obtain ⟨v, rfl, q⟩ := reps1 r
    simp only [pSorted] at p
    cases e : (lstOf S d).bind intsOf with
    | none => rw [e] at p; exact p.elim
    | some ns =>
      rw [e] at p
      simp only [Option.bind_some] at p
      split at p
      · rename_i hl
        obtain ⟨a, rfl, h⟩ := ints_of_lst g q e
        refine ⟨a, ns, rfl, h, hl, fun ms p' hperm hpw n => ?_⟩
        rw [sortI_eq hperm hpw]
        exact p.new g n (.lst upd_same ((reps_ints _)))
      · exact p.elim
  | [], r, p => exact p.elim
  | _ :: _ :: _, r, p => exact p.elim
/-! list(range(..)), tuple(range(..)) -/
def rgD (a b : Int) : List D := (List.range (b - a).toNat).map fun (i : Nat) => .int (a + i)
theorem reps_rg {K : PySem.W.Frag} {W : Wd} (a b : Int) : Reps K W (rgD a b) (rgV a b) := by
  unfold rgD rgV
  have : ∀ l : List Nat, Reps K W (l.map fun (i : Nat) => .int (a + i)) (l.map fun (i : Nat) => V.int (a + i)) := by
    intro l
    induction l with
    | nil => exact .nil
    | cons i l ih => exact .cons (.int _) ih
  exact this _
def rgOk (a b : Int) : Bool := decide (-(2 ^ 62) ≤ a ∧ a < 2 ^ 62 ∧ -(2 ^ 62) ≤ b ∧ b < 2 ^ 62 ∧ (b - a).toNat ≤ 2 ^ 24)
theorem rgOk_ok {a b : Int} (h : rgOk a b = true) : RgOk a b := by
  unfold rgOk at h
  simp only [decide_eq_true_eq] at h
  exact h
/-- the bounds of a range -/
def g1 (ma : ME) : En → M (Int × Int) := fun δ => M.bind (ma δ) fun x => match x with
  | .int n => M.pure (0, n)
  | _ => M.bad
def g2 (ma mb : ME) : En → M (Int × Int) := fun δ => M.bind (ma δ) fun x => M.bind (mb δ) fun y => match x, y with
  | .int i, .int j => M.pure (i, j)
  | _, _ => M.bad
def eRg (fin : List D → PO) (m : En → M (Int × Int)) : ME := fun δ => M.bind (m δ) fun r => lft fun S => if rgOk r.1 r.2 = true then fin (rgD r.1 r.2) S else none
def tDR (K : PySem.W.Frag) (Wx : WX) (m : En → M (Int × Int)) : L2.St → Hp → (Int → Int → Hp → Prop) → Prop := fun σ H Q => ∃ W S δ, Good K W S H ∧ REnv K W δ σ ∧ okP K (fun _ (r s : Int × Int) => r = s) W (m δ S) σ Wx (fun r H' => Q r.1 r.2 H')
theorem PRg.imp {t t' : L2.St → Hp → (Int → Int → Hp → Prop) → Prop} (h : PRg X e t) (i : ∀ σ H Q, t' σ H Q → t σ H Q) : PRg X e t' := fun pins s σ H Q I q => h pins s σ H Q I (i σ H Q q)
theorem sr_1 {p : Pos} (hg : Gl X "range") (hm : X.mg "range" = none) (ha : SE X Wx a ma) (na : starEach [a] X.env = (false, eval a X.env) :: starEach [] X.env) : PRg X (.Call (.Name "range" p) [a] [] pos) (tDR X.K Wx (g1 ma)) :=
  PRg.imp (prg_1 hg hm ha na) fun σ H Q ⟨W, S, δ, g, r, h⟩ => ⟨W, S, δ, g, r, (okP.bind (R := Rep X.K) h).imp fun v H1 ⟨W1, S1, d, l1, g1', q1, p1⟩ => by
    cases q1 with
    | int n => exact ⟨n, rfl, okP.pure (v := (0, n)) p1 g1' rfl⟩
    | _ => exact p1.elim⟩
theorem sr_2 {p : Pos} (hg : Gl X "range") (hm : X.mg "range" = none) (ha : SE X Wx a ma) (hb : SE X Wx b mb) (na : starEach [a, b] X.env = (false, eval a X.env) :: starEach [b] X.env) (nb : starEach [b] X.env = (false, eval b X.env) :: starEach [] X.env) (hp : (backTo pos (starEach [b] X.env)).any (·.1) = false) :
    PRg X (.Call (.Name "range" p) [a, b] [] pos) (tDR X.K Wx (g2 ma mb)) :=
  PRg.imp (prg_2 hg hm ha hb na nb hp) fun σ H Q ⟨W, S, δ, g, r, h⟩ => ⟨W, S, δ, g, r, (okP.bind (R := Rep X.K) h).imp fun v H1 ⟨W1, S1, d, l1, g1', q1, p1⟩ =>
    ⟨W1, S1, δ, g1', r.mono l1, (okP.bind (R := Rep X.K) p1).imp fun u H2 ⟨W2, S2, d2, l2, g2', q2, p2⟩ => by
      cases q1 with
      | int i =>
        cases q2 with
        | int j => exact ⟨i, j, rfl, rfl, okP.pure (v := (i, j)) p2 g2' rfl⟩
        | _ => exact p2.elim
      | _ => cases q2 <;> exact p2.elim⟩⟩
theorem se_listRg {p : Pos} {m : En → M (Int × Int)} {fin : List D → PO} (hf : ∀ {W : Wd} {S : Store} {H : Hp} {xs : List D} {vs : List V} {Q : VK}, oV X.K W (fin xs S) Q → Good X.K W S H → Reps X.K W xs vs → vs.length ≤ sizeLine ∧ ∀ a, H a = none → Q (.ref a) (upd H a (.lst vs)))
    (hc : X.calm = true) (hg : Gl X "list") (hm : X.mg "list" = none) (he : PRg X e (tDR X.K Wx m)) (na : starEach [e] X.env = (false, eval e X.env) :: starEach [] X.env) : SE X Wx (.Call (.Name "list" p) [e] [] pos) (eRg fin m) :=
  PE.imp (pe_listRg hc hg hm he na) fun σ H Q ⟨W, S, δ, g, r, h⟩ => ⟨W, S, δ, g, r, (okP.bind (R := fun _ (r s : Int × Int) => r = s) h).imp fun v H1 ⟨W1, S1, d, l1, g1', q1, p1⟩ => by
    subst q1
    have p2 := p1.lft
    split at p2
    · rename_i ho
      exact ⟨rgOk_ok ho, (hf p2 g1' (reps_rg _ _)).2⟩
    · exact p2.elim⟩
theorem se_tupRg {p : Pos} {m : En → M (Int × Int)} (hc : X.calm = true) (hg : Gl X "tuple") (hm : X.mg "tuple" = none) (he : PRg X e (tDR X.K Wx m)) (na : starEach [e] X.env = (false, eval e X.env) :: starEach [] X.env) : SE X Wx (.Call (.Name "tuple" p) [e] [] pos) (eRg newT m) :=
  PE.imp (pe_tupRg hc hg hm he na) fun σ H Q ⟨W, S, δ, g, r, h⟩ => ⟨W, S, δ, g, r, (okP.bind (R := fun _ (r s : Int × Int) => r = s) h).imp fun v H1 ⟨W1, S1, d, l1, g1', q1, p1⟩ => by
    subst q1
    have p2 := p1.lft
    split at p2
    · rename_i ho
      exact ⟨rgOk_ok ho, (newT_ok p2 g1' (reps_rg _ _)).2⟩
    · exact p2.elim⟩
/-! xs.pop(i) -/
theorem Reps.eraseIdx {K : PySem.W.Frag} {W : Wd} : ∀ {ds : List D} {vs : List V} (i : Nat), Reps K W ds vs → Reps K W (ds.eraseIdx i) (vs.eraseIdx i)
  | _, _, _, .nil => .nil
  | _, _, 0, .cons _ t => t
  | _, _, i + 1, .cons q t => .cons q (Reps.eraseIdx i t)
def pPop : D → List D → PO := fun x ds S => match x, ds with
  | .ref n, [.int i] => (match S[n]? with
    | some (some (.lst xs)) => if 0 ≤ i ∧ i < xs.length ∧ i < 2 ^ 63 then (xs[i.toNat]?).map fun y => (y, S.set n (some (.lst (xs.eraseIdx i.toNat)))) else none
    | _ => none)
  | _, _ => none
theorem mt_pPop : MtR X "list.pop" (rDM X.K pPop) := fun pins s σ H x xs v us Q I rx rv ⟨W, S, d, ds, g, r1, r2, p⟩ => by
  cases r1 with
  | @ref n a h =>
    match ds, r2, p with
    | [.int i], r2, p =>
      obtain ⟨w, rfl, q⟩ := reps1 r2
      cases q
      simp only [pPop] at p
      split at p
      · rename_i zs hc
        split at p
        · rename_i hl
          cases e5 : zs[i.toNat]? with
          | none => rw [e5] at p; exact p.elim
          | some y =>
            rw [e5] at p
            obtain ⟨a', e1, e2, _, vs, e3, e4⟩ := g.cell n _ hc
            rw [h] at e1; cases e1
            obtain ⟨yv, e6, q6⟩ := e4.get e5
            have hs : seqIndex? i vs.length = some i.toNat := (ixN_seq (n := vs.length) (i := i) (j := i.toNat) (by
              have : i < (vs.length : Int) := by rw [← e4.length]; exact hl.2.1
              simp [ixN, hl.1, this])).1
            exact mt_popAt pins s σ H _ _ v us Q I rx rv ⟨a, vs, i, i.toNat, yv, rfl, rfl, e3, by omega, hl.2.2, hs, e6, p W _ _ W.le_refl (g.put hc h ⟨_, upd_same, e4.eraseIdx _⟩) q6⟩
        · exact p.elim
      · exact p.elim
    | [], r2, p => exact p.elim
    | .int _ :: _ :: _, r2, p => exact p.elim
    | .non :: _, r2, p => exact p.elim
    | .bl _ :: _, r2, p => exact p.elim
    | .str _ :: _, r2, p => exact p.elim
    | .tup _ :: _, r2, p => exact p.elim
    | .lst _ :: _, r2, p => exact p.elim
    | .ins _ _ :: _, r2, p => exact p.elim
    | .ref _ :: _, r2, p => exact p.elim
    | .fn _ :: _, r2, p => exact p.elim
    | .scr _ :: _, r2, p => exact p.elim
    | .slf :: _, r2, p => exact p.elim
    | .dic _ :: _, r2, p => exact p.elim
  | _ => exact (show False from by revert p; simp only [pPop]; exact fun z => z).elim
end
end Ev
/-! # enumerate of lists and tuples -/
namespace EvZ
open PySem PySem.Spec PySem.SeqAt L2 PyProof.Rows
set_option maxHeartbeats 1000000 in
theorem meets_enum1 {v : Value} {o : Obj} {H : Heap → Prop} (B : Begins v o H) :
    Meets (Builtin.«enumerate.__new__» ⟨[.type "enumerate", v], []⟩) (fun _ R s => H s.heap ∧
      R (.ok (.ret (.ref (s.heap.push o).objs.size))) { s with heap := (s.heap.push o).push { cls := .type "enumerate", data := .fields #[.none, .bool false, .ref s.heap.objs.size, rawInt 0, .none, .none] } }) :=
  .of_wp fun prog w A R s h => by
    obtain ⟨hp, g, d, tk, os⟩ := s; obtain ⟨h1, h⟩ := h
    have hsub := sub_enumerate
    have q1 : ∀ {A' : Around} {E : Value → Shared → Prop} {Q : Value → Shared → Prop}, Q (.ref hp.objs.size) ⟨hp.push o, g, d, tk, os⟩ → wpAny (model prog w) A' (pyIter v) Q E ⟨hp, g, d, tk, os⟩ :=
      fun q => B.iter prog w _ _ ⟨hp, g, d, tk, os⟩ _ h1 q
    wp_walk using q1
    refine wpAny_stack_any fun st => wpAny_pure ?_
    split
    · rename_i c _ _ _ _ _
      cases (c == Value.type "enumerate")
      · wp_walk using q1
        exact ⟨_, rfl, h⟩
      · wp_walk using q1
        exact ⟨_, rfl, h⟩
    · wp_walk using q1
      exact ⟨_, rfl, h⟩
section
variable {prog : Program} {w : World} {A : Around} {E : Value → Shared → Prop} {s : Shared}
theorem call_enum1 {v : Value} {o : Obj} {H : Heap → Prop} {Q : Value → Shared → Prop} (B : Begins v o H) (h1 : H s.heap)
    (h : ∀ h', IsEnum h' (s.heap.objs.size + 1) s.heap.objs.size 0 .none → h'.get? s.heap.objs.size = some o → h'.objs.size = s.heap.objs.size + 2 →
      (∀ b o, s.heap.get? b = some o → h'.get? b = some o) → Q (.ref (s.heap.objs.size + 1)) { s with heap := h' }) :
    wpAny (model prog w) A (call (.type "enumerate") [v]) Q E s := by
  refine callType_new F.called_enumerate (by decide) (F.typeCall_enumerate_1 _) (F.newCall_enumerate_1 _) (fun obj => F.args_object_init_2 obj _) F.entry_enumerate_new
    (meets_enum1 B) ⟨h1, ?_⟩
  have hz : (s.heap.push o).objs.size = s.heap.objs.size + 1 := Heap.size_push ..
  show _ ∧ _
  rw [hz]
  have he : IsEnum ((s.heap.push o).push { cls := .type "enumerate", data := .fields #[.none, .bool false, .ref s.heap.objs.size, rawInt 0, .none, .none] }) (s.heap.objs.size + 1) s.heap.objs.size 0 .none := by
    have := Heap.get?_push_size (s.heap.push o) (o := { cls := .type "enumerate", data := .fields #[.none, .bool false, .ref s.heap.objs.size, rawInt 0, .none, .none] }) rfl
    rw [hz] at this; exact this
  refine ⟨⟨_, he, rfl⟩, h _ he (Heap.get?_push_of_some _ (Heap.get?_push_size _ B.free)) (by rw [Heap.size_push, hz]) fun b o x => Heap.get?_push_of_some _ (Heap.get?_push_of_some _ x)⟩
theorem wpAny_pyNext_enumT_end {e it l : Addr} {i : Nat} {items : Array Value} {old : Value} {Q : Option Value → Shared → Prop} (hh : A.handled = none)
    (he : IsEnum s.heap e it i old) (hit : s.heap.IsTupleIter it l i) (hl : s.heap.IsTuple l items) (hx : items[i]? = none)
    (hQ : ∀ h', Heap.ExtBut it s.heap h' → Q none { s with heap := h' }) : wpAny (model prog w) A (pyNext (.ref e)) Q E s := by
  have hT : s.TypeIs (.ref e) "enumerate" := ⟨_, he, rfl⟩
  unfold pyNext
  refine wpAny_bind (wpAny_attempt (wpAny_callSpecial?_slot (name := Str.ofString "__next__") hT F.slot_enumerate_next
    (wpAny_call_entry F.slot_enumerate_next hT F.entry_enumerate_next ?_ (F.args_enumerate_next_1 _))))
  show wpAny _ _ (field (.ref e) 2 >>= _) _ _ _
  refine wpAny_bind (wpAny_field he rfl (x := .ref it) rfl ?_)
  refine wpAny_bind (wpAny_nextOf_tuple_end hh hit hl hx fun h' x he' hx' => ?_)
  obtain ⟨o, ho, hc⟩ := hx'
  refine wpAny_bind (wpAny_isInstance (T := "StopIteration") (b := true) ⟨o, ho, hc⟩ isSubtype_stop ?_)
  exact wpAny_pure (hQ _ he')
end
def IteT (K : PySem.W.Frag) (a : Addr) : It :=
  ⟨fun i H => ∃ (xs : List V) (x : V), SqT K H a xs ∧ xs[i]? = some x, fun i H v H' => ∃ T x, v = .ref T ∧ H T = none ∧ H' = upd H T (.tup [.int (i : Nat), x]) ∧ ∀ xs, SqT K H a xs → xs[i]? = some x, fun i H => ∃ xs : List V, SqT K H a xs ∧ xs.length ≤ i⟩
theorem walk_enumT {K : PySem.W.Frag} {a : Addr} {xs : List V} : Walk (IteT K a) xs.length (fun H => SqT K H a xs) (YPair (fun i => some (.int (i : Nat))) (fun i => xs[i]?)) := by
  refine ⟨fun i H hi h => ⟨xs, xs[i], h, List.getElem?_eq_getElem hi⟩, fun H h => ⟨xs, h, Nat.le_refl _⟩, fun i H x H' hi h y => ?_⟩
  obtain ⟨T, z, e1, e2, e3, e4⟩ := y
  exact ⟨T, _, z, e1, e2, e3, rfl, e4 xs h⟩
theorem turn_enumT {P : Program} {w : World} {K : PySem.W.Frag} {elts : List Expr} {kk : Nat} {tpos : Pos} (a e it : Addr) :
    Turn P w K (.Tuple elts kk tpos) (IteT K a) [e, it] e (fun i h => (∃ old, IsEnum h e it ((i : Nat) : Int) old) ∧ h.IsTupleIter it a i ∧ e ≠ it) where
  mem := by simp
  obj := fun i h st b hb => by
    obtain ⟨⟨old, he⟩, ⟨o, ho, hc, hd⟩, _⟩ := st
    have e' : b = e ∨ b = it := by simpa using hb
    rcases e' with z | z
    · rw [z]; exact ⟨_, he, fun v q => nomatch q⟩
    · rw [z]; exact ⟨o, ho, fun v q => by rw [hd] at q; cases q⟩
  keep := fun i h h' st k => let ⟨⟨old, he⟩, hi, hne⟩ := st; ⟨⟨old, k e (by simp) _ he⟩, hi.at fun o q => k it (by simp) o q, hne⟩
  item := by
    intro X hP hw hK hc i pins s σ H E I hf st hg
    subst hP hw hK
    obtain ⟨⟨old, he⟩, hit, hne⟩ := st
    obtain ⟨xs, x, hq, hx⟩ := hg
    obtain ⟨its, rv, p, hz⟩ := I.tuple hq
    obtain ⟨u, hu, ru⟩ := rv.get hx
    have hel : e < s.heap.objs.size := Heap.lt_size he
    have hil : it < s.heap.objs.size := by obtain ⟨_, q, _⟩ := hit; exact Heap.lt_size q
    have hai : a ≠ it := fun z => by
      subst z
      obtain ⟨o1, q1, c1, _⟩ := hit
      obtain ⟨o2, q2, c2, _⟩ := p
      rw [q1] at q2; cases q2
      rw [c1] at c2; exact absurd (Value.type.inj c2) (by decide)
    have hae : a ≠ e := fun z => by
      subst z
      obtain ⟨o2, q2, c2, _⟩ := p
      have q1 : s.heap.get? a = some _ := he
      rw [q1] at q2; cases q2
      exact absurd (Value.type.inj c2) (by decide)
    have Dr := Draws.tuple (prog := X.prog) (w := X.w) (A := X.A.in1) (I.ok.hd hc) it a hai its.toArray
    have hi' : i < its.toArray.size := by
      have := (List.getElem?_eq_some_iff.mp hu).1
      simpa using this
    refine wpAny_pyNext_enum_itemD Dr he ⟨hit, p⟩ hi' hne (by simp [hne, Ne.symm hae]) fun y h' tk hy ho hst hT hsz hk => ?_
    have ey : y = u := by
      have : its.toArray[i]? = some u := by simpa using hu
      rw [hy] at this; exact Option.some.inj this
    subst ey
    refine ⟨_, rfl, wpAny_letOwnedTupleGo_enum (s := { s with heap := h', toks := tk + 1 }) ho fun h'' he' sb => ?_⟩
    have hT2 : h''.get? s.heap.objs.size = some { cls := .type "tuple", data := .seq #[.int i tk, y] } := (sb.2 _ (Nat.ne_of_gt hel)).trans hT
    have new : ObjOk X.prog X.w (upd H s.heap.objs.size (.tup [.int (i : Nat), x])) h'' s.heap.objs.size (.tup [.int (i : Nat), x]) :=
      ⟨by show 2 ≤ sizeLine; decide, [.int i tk, y], .cons ⟨_, rfl⟩ (.cons ru .nil), ⟨_, hT2, rfl, _, rfl⟩⟩
    have I1 : Inv X pins σ (upd H s.heap.objs.size (.tup [.int (i : Nat), x])) { s with heap := h'', toks := tk + 1 } :=
      I.turnedNew (ch := [e, it]) (fun b ob hb q => (sb.2 b (fun z => hb (by simp [z]))).trans (hk b ob (fun z => hb (by simp [z])) (fun z => hb (by simp [z])) q)) hf (Nat.le_refl _) new
    refine ⟨.ref s.heap.objs.size, _, I1, rfl, ⟨_, x, rfl, I.hok.fresh (Nat.le_refl _), rfl, fun ys hy => by rw [I.tuple_inj hy hq]; exact hx⟩, ⟨⟨y, ?_⟩, hst.1.at fun o q => (sb.2 it (Ne.symm hne)).trans q, hne⟩, fun b hb => ?_⟩
    · have e1 : ((i + 1 : Nat) : Int) = (i : Int) + 1 := by omega
      rw [e1]; exact he'
    · have hb' : b < s.heap.objs.size := by
        have e' : b = e ∨ b = it := by simpa using hb
        rcases e' with z | z
        · rw [z]; exact hel
        · rw [z]; exact hil
      rw [upd_ne (Nat.ne_of_lt hb')]
      exact (hf b hb).1
  done := by
    intro X hP hw hK hc i pins s σ H E I hf st hg
    subst hP hw hK
    obtain ⟨⟨old, he⟩, hit, hne⟩ := st
    obtain ⟨xs, hq, hx⟩ := hg
    obtain ⟨its, rv, p, hz⟩ := I.tuple hq
    obtain ⟨f0, f1, f2, f3, f4, f5⟩ := hf it (by simp)
    have hl := rv.length
    have hai : a ≠ it := fun z => by
      subst z
      obtain ⟨o1, q1, c1, _⟩ := hit
      obtain ⟨o2, q2, c2, _⟩ := p
      rw [q1] at q2; cases q2
      rw [c1] at c2; exact absurd (Value.type.inj c2) (by decide)
    -- no more items: the end is met at any place behind the last
    exact wpAny_pyNext_enumT_end (I.ok.hd hc) he hit p (by simp; omega) fun h' eb => ⟨rfl, I.turned (t' := s.toks) (fun b o hb q => eb b o hb q) f0 f1 f3 f4 f5⟩
  self := fun A i s Q E st h => let ⟨⟨_, he⟩, _⟩ := st; wpAny_pyIter_enum he h
def iEnumT (K : PySem.W.Frag) (ta : TA) : TI := fun σ H R => ta σ H fun vs H1 => ∃ a xs, vs = [.ref a] ∧ SqT K H1 a xs ∧ R (IteT K a) H1
theorem pi_enumT {X : Cx} {e : Expr} {ta : TA} {p pos tpos : Pos} {elts : List Expr} {kk : Nat} (hg : Gl X "enumerate") (hm : X.mg "enumerate" = none) (ha : PA X [e] ta) (hs : starEach [e] X.env = [(false, eval e X.env)] := by rfl) :
    PI X (.Tuple elts kk tpos) (.Call (.Name "enumerate" p) [e] [] pos) (iEnumT X.K ta) := by
  refine ⟨fun pins s σ H R I h => ?_⟩
  refine Call_ (ld_blt I hg hm boot_enumerate (PyProof.Rows.callWith_type1 (thn (ha.run pos pins s σ H _ I h) fun us s1 ⟨vs, H1, I1, r1, q1⟩ => ?_) hs rfl))
  obtain ⟨a, xs, ex, hq, q⟩ := q1
  subst ex
  cases r1 with
  | cons r rr =>
    cases rr
    cases r
    obtain ⟨its, rv, p', hz⟩ := I1.tuple hq
    refine call_enum1 (begins_tuple a its.toArray) p' fun h' he hit hsz hk => wpAny_pyIter_enum he ?_
    have I2 : Inv X pins σ H1 { s1 with heap := h' } := I1.kept (t' := s1.toks) hk
    refine ⟨s1.heap.objs.size + 1, [s1.heap.objs.size + 1, s1.heap.objs.size], _, _, H1, rfl, I2, turn_enumT a (s1.heap.objs.size + 1) s1.heap.objs.size, ⟨⟨.none, he⟩, ⟨_, hit, rfl, rfl⟩, Nat.succ_ne_self _⟩, fun b hb => ?_, q⟩
    have e' : b = s1.heap.objs.size + 1 ∨ b = s1.heap.objs.size := by simpa using hb
    have hle : s1.heap.objs.size ≤ b := by
      rcases e' with z | z
      · rw [z]; exact Nat.le_add_right _ _
      · rw [z]; exact Nat.le_refl _
    exact I1.fpOk hle (I1.hok.fresh hle)
end EvZ
namespace Ev
open PySem PySem.Spec PySem.SeqAt L2 PyProof.Rows EvZ
section
variable {X : Cx} {Wx : WX} {tg e : Expr} {K : PySem.W.Frag} {W : Wd} {pos : Pos}
def enumD (xs : List D) : List D := (List.range xs.length).map fun i => .tup [.int (i : Nat), xs.getD i .non]
theorem walkD_pair {J : It} {ds : List D} {vs : List V} (r : Reps K W ds vs) (w : Walk J ds.length (fun H => ∀ a o, W.F a = some o → H a = some o) (YPair (fun i => some (.int (i : Nat))) (fun i => vs[i]?))) : WalkD K W (enumD ds) J := by
  have hl : (enumD ds).length = ds.length := by simp [enumD]
  unfold WalkD
  rw [hl]
  refine w.mono (fun _ h => h) fun i H x H' hi hG y d hd W2 S2 l g => ?_
  obtain ⟨T, a, b, rfl, hT, rfl, ea, eb⟩ := y
  cases ea
  have hd' : d = .tup [.int (i : Nat), ds.getD i .non] := by
    simp [enumD, hi] at hd
    rw [List.getD_eq_getElem?_getD, List.getElem?_eq_getElem hi]
    exact hd.symm
  subst hd'
  obtain ⟨v, e1, e2⟩ := r.get (List.getElem?_eq_getElem hi)
  have eb' : vs[i]? = some b := eb
  rw [eb'] at e1; cases e1
  refine ⟨W2.add T (.tup [.int (i : Nat), b]), g.add_le hT, g.add hT, .tup (SqT.of upd_same) ?_⟩
  refine .cons (.int _) (.cons ?_ .nil)
  rw [List.getD_eq_getElem?_getD, List.getElem?_eq_getElem hi]
  exact (e2.mono l).mono (g.add_le hT).toLf
def iEnu (mas : MA) : MA := fun δ => M.bind (mas δ) fun ds S => match ds with
  | [.lst xs] => .ok (enumD xs) S
  | [.tup xs] => .ok (enumD xs) S
  | _ => .bad
theorem si_enum {elts : List Expr} {kk : Nat} {tpos p : Pos} {mas : MA} (hg : Gl X "enumerate") (hm : X.mg "enumerate" = none) (ha : SA X Wx [e] mas) (hs : starEach [e] X.env = [(false, eval e X.env)]) :
    SI X Wx (.Tuple elts kk tpos) (.Call (.Name "enumerate" p) [e] [] pos) (iEnu mas) := by
  refine ⟨fun pins s σ H R I ⟨W, S, δ, g, r, hp⟩ => ?_⟩
  refine Call_ (ld_blt I hg hm boot_enumerate (PyProof.Rows.callWith_type1 (thn (ha.run pos pins s σ H _ I ⟨W, S, δ, g, r, okP.bind (R := Reps X.K) hp⟩) fun us s1 ⟨vs, H1, I1, r1, W1, S1, ds, l1, g1, q1, p1⟩ => ?_) hs rfl))
  have fpk : ∀ b ∈ [s1.heap.objs.size + 1, s1.heap.objs.size], FpOk X pins H1 b := fun b hb => by
    have e' : b = s1.heap.objs.size + 1 ∨ b = s1.heap.objs.size := by simpa using hb
    have hle : s1.heap.objs.size ≤ b := by
      rcases e' with z | z
      · rw [z]; exact Nat.le_add_right _ _
      · rw [z]; exact Nat.le_refl _
    exact I1.fpOk hle (I1.hok.fresh hle)
  match ds, q1, p1 with
  | [.lst xs], q1, p1 =>
    obtain ⟨v, rfl, q⟩ := reps1 q1
    cases q with
    | @lst a vs' _ q r2 =>
      obtain rfl := Vals.ref1 r1
      obtain ⟨its, rv, p', hz⟩ := I1.list (SqL.of (g1.sub _ _ q))
      refine call_enumerate_list p'.isList fun h' he hit hsz hk => wpAny_pyIter_enum he ?_
      refine ⟨s1.heap.objs.size + 1, [s1.heap.objs.size + 1, s1.heap.objs.size], _, _, H1, rfl, I1.kept (t' := s1.toks) hk, turn_enum a (s1.heap.objs.size + 1) s1.heap.objs.size, ⟨⟨.none, he⟩, hit, Nat.succ_ne_self _⟩, fpk, ?_⟩
      have w := walk_enum (K := X.K) (a := a) (xs := vs')
      rw [← r2.length] at w
      exact okP.pure p1 g1 (walkD_pair r2 (w.mono (fun H h => SqL.of (h _ _ q)) fun _ _ _ _ _ _ y => y))
  | [.tup xs], q1, p1 =>
    obtain ⟨v, rfl, q⟩ := reps1 q1
    cases q with
    | @tup a vs' _ q r2 =>
      obtain rfl := Vals.ref1 r1
      obtain ⟨its, rv, p', hz⟩ := I1.tuple (g1.sqT q)
      refine call_enum1 (begins_tuple a its.toArray) p' fun h' he hit hsz hk => wpAny_pyIter_enum he ?_
      refine ⟨s1.heap.objs.size + 1, [s1.heap.objs.size + 1, s1.heap.objs.size], _, _, H1, rfl, I1.kept (t' := s1.toks) hk, turn_enumT a (s1.heap.objs.size + 1) s1.heap.objs.size, ⟨⟨.none, he⟩, ⟨_, hit, rfl, rfl⟩, Nat.succ_ne_self _⟩, fpk, ?_⟩
      have w := walk_enumT (K := X.K) (a := a) (xs := vs')
      rw [← r2.length] at w
      refine okP.pure p1 g1 (walkD_pair r2 (w.mono (fun H h => ?_) fun _ _ _ _ _ _ y => y))
      rcases q with q | q
      · exact .inl (rd_sub h q)
      · exact .inr q
  | [], q1, p1 => exact p1.elim
  | .lst _ :: _ :: _, q1, p1 => exact p1.elim
  | .tup _ :: _ :: _, q1, p1 => exact p1.elim
  | .non :: _, q1, p1 => exact p1.elim
  | .bl _ :: _, q1, p1 => exact p1.elim
  | .int _ :: _, q1, p1 => exact p1.elim
  | .str _ :: _, q1, p1 => exact p1.elim
  | .ins _ _ :: _, q1, p1 => exact p1.elim
  | .ref _ :: _, q1, p1 => exact p1.elim
  | .fn _ :: _, q1, p1 => exact p1.elim
  | .scr _ :: _, q1, p1 => exact p1.elim
  | .slf :: _, q1, p1 => exact p1.elim
  | .dic _ :: _, q1, p1 => exact p1.elim
end
end Ev
/-! # sorted of data, by a key too -/
namespace Ev
open PySem PySem.Spec PySem.SeqAt L2 PyProof.Rows PySem.W
def tup1 : PyData → Bool
  | .tuple (_ :: _) => true
  | _ => false
def notNT : PyData → Bool
  | .tuple _ => false
  | .none => false
  | _ => true
def sortOk (ps : List PyData) : Bool := ps.all (fun a => ps.all fun b => alike a b) && (ps.all tup1 || ps.all notNT) && ps.all (fun p => decide (p.depth ≤ 60))
theorem sortOk_ok {ps : List PyData} (h : sortOk ps = true) : AllAlike ps ∧ Sortable ps ∧ ∀ p ∈ ps, p.depth ≤ 60 := by
  unfold sortOk at h
  simp only [Bool.and_eq_true, Bool.or_eq_true, List.all_eq_true, decide_eq_true_eq] at h
  obtain ⟨⟨h1, h2⟩, h3⟩ := h
  refine ⟨fun d hd d' hd' => h1 d hd d' hd', ?_, h3⟩
  rcases h2 with h2 | h2
  · exact .inl fun d hd => by
      have := h2 d hd
      unfold tup1 at this
      split at this
      · exact ⟨_, _, rfl⟩
      · cases this
  · exact .inr fun d hd => by
      have := h2 d hd
      unfold notNT at this
      split at this
      · cases this
      · cases this
      · rename_i n1 n2
        exact ⟨fun e => n2 e, fun xs e => n1 xs e⟩
def sortBy (zs : List (D × PyData)) : List D := (zs.mergeSort (dataLe false (·.2))).map (·.1)
/-- an item stands for a datum and a key -/
def RI (K : PySem.W.Frag) (W : Wd) (v : Value) (b : D × PyData) : Prop := ∃ x : V, RelV x v ∧ Rep K W b.1 x
theorem each_RI {K : PySem.W.Frag} {W : Wd} : ∀ {xs : List D} {vs : List V} {its : List Value} {ps : List PyData}, Reps K W xs vs → Vals vs its → ps.length = xs.length → EachIs (RI K W) its (xs.zip ps)
  | _, _, _, [], .nil, .nil, _ => .nil
  | _, _, _, _ :: _, .nil, .nil, h => by simp at h
  | _, _, _, [], .cons _ _, .cons _ _, h => by simp at h
  | _, _, _, p :: ps, .cons q r, .cons a b, h => .cons ⟨_, a, q⟩ (each_RI r b (by simpa using h))
theorem RI_each {K : PySem.W.Frag} {W : Wd} : ∀ {out : List Value} {zs : List (D × PyData)}, EachIs (RI K W) out zs → ∃ vs, Vals vs out ∧ Reps K W (zs.map (·.1)) vs
  | _, _, .nil => ⟨[], .nil, .nil⟩
  | _, _, .cons ⟨x, h1, h2⟩ t => by
    obtain ⟨vs, a, b⟩ := RI_each t
    exact ⟨x :: vs, .cons h1 a, .cons h2 b⟩
theorem toPs_len : ∀ {xs : List D} {ps : List PyData}, toPs xs = some ps → ps.length = xs.length
  | [], _, e => by cases e; rfl
  | x :: xs, ps, e => by
    simp only [toPs] at e
    cases e1 : toP x with
    | none => rw [e1] at e; simp at e
    | some p =>
      rw [e1] at e
      cases e2 : toPs xs with
      | none => rw [e2] at e; simp at e
      | some qs =>
        rw [e2] at e
        simp at e
        subst e
        simp [toPs_len e2]
section
variable {X : Cx} {pins : List (Addr × Obj)} {σ : L2.St} {H : Hp} {s : Shared} {W : Wd} {S : Store}
theorem each_reads (I : Inv X pins σ H s) (g : Good X.K W S H) : ∀ {xs : List D} {vs : List V} {its : List Value} {ps : List PyData}, toPs xs = some ps → Reps X.K W xs vs → Vals vs its → EachIs (fun v p => ∃ as, Reads s.heap v p as) its ps
  | [], _, _, ps, e, .nil, .nil => by cases e; exact .nil
  | x :: xs, _, _, ps, e, .cons q r, .cons a b => by
    simp only [toPs] at e
    cases e1 : toP x with
    | none => rw [e1] at e; simp at e
    | some p =>
      rw [e1] at e
      cases e2 : toPs xs with
      | none => rw [e2] at e; simp at e
      | some qs =>
        rw [e2] at e
        simp at e
        subst e
        exact .cons (reads_of I g e1 q a).2 (each_reads I g e2 r b)
theorem each_zip2 {R : Value → PyData → Prop} : ∀ {its : List Value} {ps : List PyData} {xs : List D}, EachIs R its ps → xs.length = ps.length → EachIs (fun v (b : D × PyData) => R v b.2) its (xs.zip ps)
  | _, _, [], .nil, _ => .nil
  | _, _, _ :: _, .nil, h => by simp at h
  | _, _, [], .cons _ _, h => by simp at h
  | _, _, x :: xs, .cons a t, h => .cons a (each_zip2 t (by simpa using h))
theorem zip_snd : ∀ {xs : List D} {ps : List PyData}, xs.length = ps.length → (xs.zip ps).map (·.2) = ps
  | [], [], _ => rfl
  | [], _ :: _, h => by simp at h
  | _ :: _, [], h => by simp at h
  | x :: xs, p :: ps, h => by simp [zip_snd (xs := xs) (ps := ps) (by simpa using h)]
end
/-! ### sorted(xs) -/
def pSortD : List D → PO := fun ds S => match ds with
  | [x] => (lstOf S x).bind fun xs => (toPs xs).bind fun ps => if sortOk ps = true ∧ xs.length ≤ sizeLine then some (.lst (sortBy (xs.zip ps)), S) else none
  | _ => none
theorem sortBy_len (zs : List (D × PyData)) : (sortBy zs).length = zs.length := by
  unfold sortBy
  rw [List.length_map, List.length_mergeSort]
theorem cr_pSortD {X : Cx} (hu : X.A.units + 64 < cLine) : CallR X (.builtin "sorted") (rDC X.K pSortD) := fun pins s σ H vs us Q I rv ⟨W, S, ds, g, r, p⟩ => by
  match ds, r, p with
  | [d], r, p =>
    obtain ⟨v, rfl, q⟩ := reps1 r
    simp only [pSortD] at p
    cases e : lstOf S d with
    | none => rw [e] at p; exact p.elim
    | some xs =>
      rw [e] at p
      simp only [Option.bind_some] at p
      cases e2 : toPs xs with
      | none => rw [e2] at p; exact p.elim
      | some ps =>
        rw [e2] at p
        simp only [Option.bind_some] at p
        split at p
        · rename_i hc
          obtain ⟨ho, hl⟩ := hc
          obtain ⟨h1, h2, h3⟩ := sortOk_ok ho
          obtain ⟨a, vs, rfl, hs, r2⟩ := lstOf_ok e g q
          obtain rfl := Vals.ref1 rv
          obtain ⟨its, rv2, hp, hz⟩ := I.list hs
          have hlen := toPs_len e2
          have hzs := zip_snd (xs := xs) (ps := ps) hlen.symm
          refine PySem.W.sorted_data (enc := fun b : D × PyData => b.2) (R := RI X.K W) hp.isList (each_RI r2 rv2 hlen) (each_zip2 (R := fun v p => ∃ as, Reads s.heap v p as) (each_reads I g e2 r2 rv2) hlen.symm) (by rw [hzs]; exact h1) (by rw [hzs]; exact h2) (by simp [hlen]; exact hl) (fun b hb => ?_) fun out hol he => ?_
          · have : b.2 ∈ ps := by rw [← hzs]; exact List.mem_map_of_mem hb
            have := h3 _ this
            omega
          · obtain ⟨vs', k1, k2⟩ := RI_each he
            obtain ⟨ep, he'⟩ := PyProof.Rows.sortedAll_at s.heap its out.toArray
            have hlen2 : vs'.length ≤ sizeLine := by
              rw [Vals.length k1, hol]
              simp [hlen]; exact hl
            have n := I.hok.fresh (a := s.heap.objs.size + 1) (Nat.le_succ _)
            refine ⟨.ref _, upd H (s.heap.objs.size + 1) (.lst vs'), I.laid (t' := s.toks) (fun _ _ => PyProof.Rows.sortedAll_old) (Nat.le_succ _) ⟨hlen2, out, ep, k1, he'⟩, rfl, ?_⟩
            exact p.new g n (.lst upd_same (k2.mono (g.add_le n).toLf))
        · exact p.elim
  | [], r, p => exact p.elim
  | _ :: _ :: _, r, p => exact p.elim
/-! ### an untracked object of ours is tracked -/
theorem track {X : Cx} {pins : List (Addr × Obj)} {σ : L2.St} {H : Hp} {s : Shared} {a : Addr} {o : HO} (I : Inv X pins σ H s) (fp : FpOk X pins H a) (hx : X.s_0.heap.objs.size ≤ a) (new : ObjOk X.prog X.w (upd H a o) s.heap a o) : Inv X pins σ (upd H a o) s := by
  obtain ⟨f0, f1, f2, f3, f4, f5⟩ := fp
  have old : ∀ b ob, X.s_0.heap.get? b = some ob → b ≠ a := fun b ob q z => by
    subst z
    exact absurd (Heap.lt_size q) (Nat.not_lt.mpr hx)
  refine ⟨I.ok, I.os, I.bare, ⟨I.base.keep, I.base.slot, fun b ob q n x => ?_, I.base.there, fun b xs q => ?_, fun b ob u q => ?_, fun b ps q => ?_⟩, I.loc, I.cell, ?_, fun x c e => ?_, fun p hp => ?_, HOk.laidN I.hok (fun _ _ q => q) f0 new, I.len⟩
  · rw [upd_ne (old b ob q)]; exact I.base.free b ob q n x
  · have h1 := I.base.tups b xs q
    rw [upd_ne (ne_of_none h1 f0)]; exact h1
  · have h1 := I.base.frzs b ob u q
    rw [upd_ne (ne_of_none h1 f0)]; exact h1
  · obtain ⟨more, h1⟩ := I.base.tbls b ps q
    exact ⟨more, by rw [upd_ne (ne_of_none h1 f0)]; exact h1⟩
  · rw [upd_ne (Ne.symm f1)]; exact I.free
  · rw [upd_ne (f4 x c e)]; exact I.freeC x c e
  · obtain ⟨p1, p2, p3⟩ := I.pin p hp
    exact ⟨p1, by rw [upd_ne (f5 p hp)]; exact p2, p3⟩
/-- fewer things are pinned -/
theorem unpin {X : Cx} {pins pins' : List (Addr × Obj)} {σ : L2.St} {H : Hp} {s : Shared} (I : Inv X pins σ H s) (h : ∀ p ∈ pins', p ∈ pins) : Inv X pins' σ H s :=
  ⟨I.ok, I.os, I.bare, I.base, I.loc, I.cell, I.free, I.freeC, fun p hp => I.pin p (by
    rcases List.mem_append.mp hp with hp | hp
    · exact List.mem_append_left _ hp
    · exact List.mem_append_right _ (h p hp)), I.hok, I.len⟩
/-- one more is pinned -/
theorem pinned {X : Cx} {pins : List (Addr × Obj)} {σ : L2.St} {H : Hp} {s : Shared} {a : Addr} {o : Obj} (I : Inv X pins σ H s) (fp : FpOk X pins H a) (e : s.heap.get? a = some o) (hc : ∀ v, o.data ≠ .cell v) : Inv X ((a, o) :: pins) σ H s :=
  ⟨I.ok, I.os, I.bare, I.base, I.loc, I.cell, I.free, I.freeC, fun p hp => by
    rcases List.mem_append.mp hp with hp | hp
    · exact I.pin p (List.mem_append_left _ hp)
    · rcases List.mem_cons.mp hp with rfl | hp
      · exact ⟨e, fp.1, fp.2.1, fp.2.2.1, hc⟩
      · exact I.pin p (List.mem_append_right _ hp), I.hok, I.len⟩
/-! ### sorted(xs, key=f) -/
def keysM (m : List D → M D) : List D → M (List D)
  | [] => M.pure []
  | x :: xs => M.bind (noX (m [x])) fun k => M.bind (keysM m xs) fun ks => M.pure (k :: ks)
theorem noX_ok {α : Type} {m : M α} {S S' : Store} {a : α} (h : noX m S = .ok a S') : m S = .ok a S' := by
  unfold noX at h
  split at h
  · rename_i e; rw [e]; exact h
  · cases h
theorem keysM_ok {m : List D → M D} : ∀ {xs ks : List D} {S S' : Store}, keysM m xs S = .ok ks S' → ks.length = xs.length ∧ ∃ Ss : Nat → Store, Ss 0 = S ∧ Ss xs.length = S' ∧ ∀ (i : Nat) (x : D), xs[i]? = some x → ∃ k, ks[i]? = some k ∧ m [x] (Ss i) = .ok k (Ss (i + 1))
  | [], ks, S, S', h => by
    cases h
    exact ⟨rfl, fun _ => S, rfl, rfl, fun i x e => by simp at e⟩
  | x :: xs, ks, S, S', h => by
    simp only [keysM, M.bind] at h
    cases e1 : noX (m [x]) S with
    | bad => rw [e1] at h; cases h
    | exc _ _ => rw [e1] at h; cases h
    | ok k S1 =>
      rw [e1] at h
      dsimp only at h
      cases e2 : keysM m xs S1 with
      | bad => rw [e2] at h; cases h
      | exc _ _ => rw [e2] at h; cases h
      | ok ks1 S2 =>
        rw [e2] at h
        cases h
        obtain ⟨h1, Ss, h2, h3, h4⟩ := keysM_ok e2
        refine ⟨by simp [h1], fun i => match i with | 0 => S | i + 1 => Ss i, rfl, h3, fun i y e => ?_⟩
        cases i with
        | zero =>
          simp at e
          subst e
          exact ⟨k, rfl, by show m [x] S = .ok k (Ss 0); rw [h2]; exact noX_ok e1⟩
        | succ i => exact h4 i y (by simpa using e)
section
variable {X : Cx} {pins : List (Addr × Obj)} {σ : L2.St} {H : Hp} {s : Shared} {W : Wd} {S : Store}
/-- one call of a key -/
theorem call_key {A : Around} {k : Nat} {x0 : Str} {d kd : D} {v : Value} {vv : V} {f : Addr} {fd : FuncData} {m : List D → M D} {S' : Store} (I : Inv X pins σ H s) (hA : A.guards = some []) (hr : Room k A) (hfr : A.frames = X.A.frames)
    (F : FnG X.prog X.w X.K X.mg X.base k f fd [x0] (spM X.K 1 m)) (hb : BindK X.K fd [x0] []) (g : Good X.K W S H) (q1 : Rep X.K W d vv) (rv : RelV vv v) (e : m [d] S = .ok kd S') {E : Value → Shared → Prop} :
    wpAny (model X.prog X.w) A (call (.ref f) [v]) (fun u s' => ∃ uv W' H', RelV uv u ∧ Rep X.K W' kd uv ∧ W.le W' ∧ Good X.K W' S' H' ∧ Inv X pins σ H' s') E s := by
  have want : spM X.K 1 m [vv] H (fun uv H' => ∃ W', Rep X.K W' kd uv ∧ W.le W' ∧ Good X.K W' S' H') (fun _ _ _ => False) := ⟨rfl, W, S, [d], g, .cons q1 .nil, by
    rw [e]
    intro W' H' v l g' q
    exact ⟨W', q, l, g'⟩⟩
  have e0 : Env0 X.prog X.w X.K X.mg X.base A X.stack s H := by
    have z := I.env0
    exact ⟨by rw [hfr]; exact z.frames, z.mod, z.bs, z.bsz, z.funs, z.frf, z.hok, z.bare⟩
  refine wpAny_call (codeAny_mono (F.run A hA X.stack s H ⟨[v], []⟩ [v] [vv] _ _ hr e0 (hb s [v] [] rfl rfl) (.cons rv .nil) want) fun res s' hq => ?_)
  cases res with
  | error ex =>
    obtain ⟨_, _, _, _, _, _, _, _, _, _, _, _, z⟩ := hq
    exact z.elim
  | ok fl =>
    cases fl with
    | ret u =>
      obtain ⟨uv, H', I3, ru, W', q, l, g'⟩ := I.after hq
      exact ⟨uv, W', H', ru, q, l, g', I3⟩
    | next => exact hq.elim
    | brk => exact hq.elim
    | cont => exact hq.elim
theorem sorted_key {k : Nat} {x0 : Str} {l f : Addr} {fd : FuncData} {m : List D → M D} {xs ks : List D} {ps : List PyData} {vs : List V} {S' : Store} {Q : VK} (I : Inv X pins σ H s) (hA : X.A.guards = some []) (hr : Room (k + 2) X.A)
    (F : FnG X.prog X.w X.K X.mg X.base k f fd [x0] (spM X.K 1 m)) (hb : BindK X.K fd [x0] []) (g : Good X.K W S H) (hs : SqL X.K H l vs) (q : Reps X.K W xs vs) (e : keysM m xs S = .ok ks S') (ep : toPs ks = some ps) (ho : sortOk ps = true) (hl : xs.length ≤ sizeLine)
    (hQ : oV X.K W (some (.lst (sortBy (xs.zip ps)), S')) Q) {E : Value → Shared → Prop} :
    wpAny (model X.prog X.w) X.A (call (.builtin "sorted") [.ref l] [(Str.ofString "key", .ref f)]) (EP X pins σ Q) E s := by
  obtain ⟨h1, h2, h3⟩ := sortOk_ok ho
  obtain ⟨hkl, Ss, z0, z1, zs⟩ := keysM_ok e
  have hpl := toPs_len ep
  obtain ⟨its, rv, hp, hz⟩ := I.list hs
  have hil : its.length = xs.length := (Vals.length rv).symm.trans q.length.symm
  refine sorted_of_sort hp.isList (by rw [hil]; exact hl) (PyProof.Rows.ksk_s1 _ _) (fun _ => PyProof.Rows.ksk_l1 _ _) fun E' => ?_
  rw [PyProof.Rows.ksk_t1]
  have hzs := zip_snd (xs := xs) (ps := ps) (by rw [hpl, hkl])
  have hZ : its.length ≤ sizeLine := by rw [hil]; exact hl
  have kA0 := copyHeap_at s.heap its
  obtain ⟨e1, ho1⟩ : ∃ e1, ((copyHeap s.heap its).update (s.heap.objs.size + 1) (Obj.mapSeq fun _ => (#[] : Array Value))).get? (s.heap.objs.size + 1) = some (seqObj "list" #[] e1) := ⟨_, get?_update_seq kA0 fun _ => #[]⟩
  have hsz2 : (copyHeap s.heap its).objs.size = s.heap.objs.size + 2 := by
    unfold copyHeap
    rw [size_push', Heap.size_update, size_push']
  unfold ksk_tree
  refine wpAny_bind (listItems_at kA0 rfl ?_)
  refine wpAny_bind (listUpdate_at kA0 rfl ?_ (by rw [List.size_toArray]; exact hZ) (Nat.zero_le _))
  refine wpAny_bind (seqEpoch_at ho1 rfl ?_)
  refine wpAny_bind (wpAny_newTuple ?_ (by show its.length ≤ _; exact hZ))
  refine wpAny_bind (wpAny_newList ?_ (Nat.zero_le _))
  refine wpAny_holding ?_
  generalize ha : s.heap.objs.size + 1 = a at *
  generalize hhu : (copyHeap s.heap its).update a (Obj.mapSeq fun _ => (#[] : Array Value)) = hu at *
  have hus : hu.objs.size = s.heap.objs.size + 2 := by rw [← hhu, Heap.size_update]; exact hsz2
  generalize hkS : (hu.push (seqObj "tuple" its.toArray 0)).objs.size = kS
  have hkS' : kS = s.heap.objs.size + 3 := by rw [← hkS, size_push', hus]
  have hka : kS ≠ a := by rw [hkS', ← ha]; omega
  have k3 : ∀ b o, s.heap.get? b = some o → ((hu.push (seqObj "tuple" its.toArray 0)).push (seqObj "list" #[] 0)).get? b = some o := fun b o q => by
    have hb : b < s.heap.objs.size := Heap.lt_size q
    refine Heap.get?_push_of_some _ (Heap.get?_push_of_some _ ?_)
    rw [← hhu]
    exact (Heap.get?_update_ne _ _ _ _ (by rw [← ha]; exact Nat.ne_of_lt (Nat.lt_succ_of_lt hb))).trans (copyHeap_old q)
  have na0 : ((hu.push (seqObj "tuple" its.toArray 0)).push (seqObj "list" #[] 0)).get? a = some (seqObj "list" #[] e1) := Heap.get?_push_of_some _ (Heap.get?_push_of_some _ ho1)
  have nk0 : ((hu.push (seqObj "tuple" its.toArray 0)).push (seqObj "list" #[] 0)).get? kS = some (seqObj "list" #[] 0) := by rw [← hkS]; exact Heap.get?_push_size _ rfl
  have hale : s.heap.objs.size ≤ a := by rw [← ha]; exact Nat.le_succ _
  have hkle : s.heap.objs.size ≤ kS := by rw [hkS']; exact Nat.le_add_right _ _
  have fpA : FpOk X pins H a := I.fpOk hale (I.hok.fresh hale)
  have fpK : FpOk X pins H kS := I.fpOk hkle (I.hok.fresh hkle)
  have hA0 : X.s_0.heap.objs.size ≤ a := Nat.le_trans I.sz hale
  have I3 : Inv X ((a, seqObj "list" #[] e1) :: pins) σ H { s with heap := (hu.push (seqObj "tuple" its.toArray 0)).push (seqObj "list" #[] 0) } := pinned (I.kept (t' := s.toks) k3) fpA na0 (fun v => by intro z; cases z)
  have fpK' : ∀ H' : Hp, H' kS = none → FpOk X ((a, seqObj "list" #[] e1) :: pins) H' kS := fun H' hn => ⟨hn, fpK.2.1, fpK.2.2.1, fpK.2.2.2.1, fpK.2.2.2.2.1, fun p hp => by
    rcases List.mem_append.mp hp with hp | hp
    · exact fpK.2.2.2.2.2 p (List.mem_append_left _ hp)
    · rcases List.mem_cons.mp hp with rfl | hp
      · exact Ne.symm hka
      · exact fpK.2.2.2.2.2 p (List.mem_append_right _ hp)⟩
  have hr2 : Room k X.A.in1.in1 := Room.in1 (Room.in1 hr)
  unfold ksk_rest
  refine wpAny_bind (wpAny_rule ?_)
  first
    | rw [List.forIn_toArray]
    | (rw [← Array.forIn_toList]; simp only [List.toList_toArray])
  refine wpAny_bind (ksk_fold (fun i s' => ∃ (W' : Wd) (H' : Hp) (kA : Array Value) (ep : Nat) (kv : List V), W.le W' ∧ Good X.K W' (Ss i) H' ∧ Inv X ((a, seqObj "list" #[] e1) :: pins) σ H' s' ∧ H' kS = none ∧ s'.heap.get? kS = some (seqObj "list" kA ep) ∧ Vals kv kA.toList ∧ Reps X.K W' (ks.take i) kv) its 0 _
    ⟨W, H, #[], 0, [], W.le_refl, by rw [z0]; exact g, I3, I.hok.fresh hkle, nk0, .nil, by rw [List.take_zero]; exact .nil⟩ ?step ?done)
  case step =>
    rintro j x s' hx ⟨W', H', kA, ep', kv, l', g', I', hn, nk', rk, qk⟩
    simp only [Nat.zero_add] at g' qk ⊢
    have hj : j < its.length := (List.getElem?_eq_some_iff.mp hx).1
    obtain ⟨vv, hv, rvx⟩ : ∃ vv, vs[j]? = some vv ∧ RelV vv x := by
      obtain ⟨u, hu', ru⟩ := rv.get (List.getElem?_eq_getElem (show j < vs.length by rw [Vals.length rv]; exact hj))
      rw [hx] at hu'; cases hu'
      exact ⟨_, List.getElem?_eq_getElem _, ru⟩
    obtain ⟨d, hd, qd⟩ := q.get' hv
    obtain ⟨kd, hkd, em⟩ := zs j d hd
    have I5 := pinned I' (fpK' H' hn) nk' (fun v => by intro z; cases z)
    have hzk : kA.size ≤ sizeLine := by
      have h5 : (ks.take j).length = kA.toList.length := qk.length.trans (Vals.length rk)
      have h6 : kA.toList.length = kA.size := Array.length_toList ..
      have h7 : (ks.take j).length ≤ ks.length := by simp; omega
      rw [← h6, ← h5]
      exact Nat.le_trans h7 (by rw [hkl]; exact hl)
    refine wpAny_bind (wpAny_attempt (wpAny_mono (call_key (A := X.A.in1.in1) (E := fun _ _ => False) I5 hA hr2 rfl F hb g' (qd.mono l'.toLf) rvx em) (fun u s'' he => ?_) fun _ _ (hF : False) => hF.elim))
    obtain ⟨uv, W2, H2, ru, qu, l2, g2, I6⟩ := he
    have pk := I6.pin (kS, seqObj "list" kA ep') (List.mem_append_right _ (List.mem_cons_self ..))
    have I7 : Inv X ((a, seqObj "list" #[] e1) :: pins) σ H2 s'' := unpin I6 fun p hp => List.mem_cons_of_mem _ hp
    have nk2 := pk.1
    obtain ⟨c2, hc2⟩ : ∃ c2, (s''.heap.update kS (Obj.mapSeq (·.push u))).get? kS = some (seqObj "list" (kA.push u) c2) := ⟨_, get?_update_seq nk2 (·.push u)⟩
    try dsimp only
    refine wpAny_bind (listUpdate_at nk2 rfl ?_ hzk (Nat.le_trans (Nat.le_of_eq (Array.size_push ..)) (Nat.succ_le_succ hzk)))
    have s1 := Heap.SameBut.update s''.heap kS (Obj.mapSeq (·.push u))
    obtain ⟨f0, f1, f2, f3, f4, f5⟩ := fpK' H2 pk.2.1
    have I9 : Inv X ((a, seqObj "list" #[] e1) :: pins) σ H2 { s'' with heap := s''.heap.update kS (Obj.mapSeq (·.push u)), toks := s''.toks } := I7.turned (fun b o hb q => (s1.2 b hb).trans q) f0 f1 f3 f4 f5
    have et : ks.take (j + 1) = ks.take j ++ [kd] := by rw [List.take_add_one, hkd]; rfl
    refine wpAny_pure ⟨rfl, W2, H2, kA.push u, c2, kv ++ [uv], l'.trans l2, g2, I9, pk.2.1, hc2, ?_, ?_⟩
    · rw [Array.toList_push]
      exact paired_append rk (.cons ru .nil)
    · rw [et]
      exact (qk.mono l2.toLf).append (.cons qu .nil)
  case done =>
    rintro s' ⟨W', H', kA, ep', kv, l', g', I', hn, nk', rk, qk⟩
    simp only [Nat.zero_add, hil] at g' qk
    rw [z1] at g'
    rw [← hkl, List.take_length] at qk
    have hks : kA.size = its.length := by
      have h5 : ks.length = kA.toList.length := qk.length.trans (Vals.length rk)
      have h6 : kA.toList.length = kA.size := Array.length_toList ..
      rw [← h6, ← h5, hkl, hil]
    have pa := I'.pin (a, seqObj "list" #[] e1) (List.mem_append_right _ (List.mem_cons_self ..))
    have er := each_reads I' g' ep qk rk
    try dsimp only
    refine wpAny_bind (listItems_at nk' rfl ?_)
    refine keyH_end (κ := dataKind s'.heap ps) (h₁ := PySem.W.hideAll s'.heap [kS]) (fun b o _ q => PySem.W.of_hideAll [kS] q) (PySem.W.hideAll_none [kS] (by simp)) nk' pa.1 hka (SortsAt.data er h1 h2 fun d hd => ?_) hks hZ fun h' tk c kp hc => ⟨rfl, ?_⟩
    · have h5 := h3 d hd
      have h6 := hr2.un
      omega
    have keep : ∀ b o, b ∉ [a, kS] → s'.heap.get? b = some o → h'.get? b = some o := fun b o hb q => by
      simp at hb
      exact kp b o hb.1 (PySem.W.hideAll_get [kS] q (by simp; exact hb.2))
    have ko : KeyedOut false ps its (sortVals (dataKind s'.heap ps) false kA.toList its) := ⟨s'.heap, kA.toList, h1, rfl, er⟩
    have he := keyedOut_each (β := D × PyData) (bs := xs.zip ps) (fun b => b.2) (by rw [hzs]; exact ko) (each_RI (W := W') (q.mono l'.toLf) rv (by rw [hpl, hkl]))
    obtain ⟨vs', k1, k2⟩ := RI_each he
    have hH : H' a = none := pa.2.1
    have fpA' : FpOk X pins H' a := ⟨hH, fpA.2.1, fpA.2.2.1, fpA.2.2.2.1, fpA.2.2.2.2.1, fpA.2.2.2.2.2⟩
    have fpK2 : FpOk X pins H' kS := ⟨hn, fpK.2.1, fpK.2.2.1, fpK.2.2.2.1, fpK.2.2.2.2.1, fpK.2.2.2.2.2⟩
    have I8 : Inv X pins σ H' { s' with heap := h', toks := tk } := (unpin I' fun p hp => List.mem_cons_of_mem _ hp).turnedL (ch := [a, kS]) keep fun b hb => by
      have e' : b = a ∨ b = kS := by simpa using hb
      rcases e' with rfl | rfl
      · exact fpA'
      · exact fpK2
    have hlen2 : vs'.length ≤ sizeLine := by
      rw [Vals.length k1, sortVals_length false (by rw [Array.length_toList]; exact hks)]
      exact hZ
    refine ⟨.ref a, upd H' a (.lst vs'), track I8 fpA' hA0 ⟨hlen2, _, c, k1, hc⟩, rfl, ?_⟩
    exact hQ _ _ _ (l'.trans (g'.add_le hH)) (g'.add hH) (.lst upd_same (k2.mono (g'.add_le hH).toLf))
/-- a def that may be a key -/
def KeyG (P : Program) (w : World) (K : PySem.W.Frag) (mg : Str → Option Value) (base : Heap) (k : Nat) (f : Addr) (m : List D → M D) : Prop := ∃ fd x0, FnG P w K mg base k f fd [x0] (spM K 1 m) ∧ BindK K fd [x0] []
theorem KeyG.bad {P : Program} {w : World} {K : PySem.W.Frag} {mg : Str → Option Value} {base : Heap} {k : Nat} {f : Addr} {fd : FuncData} {x : Str} (hb : BindK K fd [x] []) : KeyG P w K mg base k f (fun _ _ => .bad) := ⟨fd, x, FnG.bad, hb⟩
theorem KeyG.mono {P : Program} {w : World} {K : PySem.W.Frag} {mg : Str → Option Value} {base : Heap} {j k : Nat} {f : Addr} {m : List D → M D} (h : KeyG P w K mg base j f m) (l : j ≤ k) : KeyG P w K mg base k f m := by
  obtain ⟨fd, x, F, b⟩ := h
  exact ⟨fd, x, F.mono l, b⟩
def sortKM (m : List D → M D) (l : D) : M D := fun S => match lstOf S l with
  | some xs => (match keysM m xs S with
    | .ok ks S' => (match toPs ks with
      | some ps => if sortOk ps = true ∧ xs.length ≤ sizeLine then .ok (.lst (sortBy (xs.zip ps))) S' else .bad
      | none => .bad)
    | _ => .bad)
  | none => .bad
def eSortK (m : List D → M D) (ma : ME) : ME := fun δ => M.bind (ma δ) (sortKM m)
theorem se_sortK {Wx : WX} {k : Nat} {e : Expr} {x : Str} {p pos px kp : Pos} {m : List D → M D} {ma : ME} (hK : KeyG X.prog X.w X.K X.mg X.base k (He.ga X.K x) m) (hr : Room (k + 2) X.A) (hgd : X.A.guards = some []) (hg : Gl X "sorted") (hm : X.mg "sorted" = none)
    (hgx : Gl X x) (hmx : X.mg x = some (.ref (He.ga X.K x))) (hdx : (x == ("__debug__" : Str)) = false) (ha : SE X Wx e ma) (hs : starEach [e] X.env = (false, eval e X.env) :: starEach [] X.env)
    (he : backTo pos (starEach [e] X.env) = (false, eval e X.env) :: backTo pos (starEach [] X.env)) (hpl : (backTo pos (starEach [e] X.env)).any (·.1) = false)
    (hall : (backToKw pos (keywordEach [⟨some "key", .Name x px, kp⟩] X.env)).all (·.1.isSome) = true) (hnone : (backToKw pos (keywordEach [⟨some "key", .Name x px, kp⟩] X.env)).any (·.1.isNone) = false) (hks : (backToKw pos (keywordEach [⟨some "key", .Name x px, kp⟩] X.env)).filterMap (·.1) = [Str.ofString "key"]) :
    SE X Wx (.Call (.Name "sorted" p) [e] [⟨some "key", .Name x px, kp⟩] pos) (eSortK m ma) := by
  obtain ⟨fd, x0, F, hb⟩ := hK
  have hc : CallRK X (.builtin "sorted") [Str.ofString "key"] (fun vs zs H Q => ∃ v, vs = [v] ∧ zs = [.ref (He.ga X.K x)] ∧ ∃ W S l, Good X.K W S H ∧ Rep X.K W l v ∧ okP X.K (Rep X.K) W (sortKM m l S) [] (fun _ _ _ _ => False) Q) := by
    intro pins s σ H vs zs us ws Q I r rz h
    obtain ⟨v, rfl, rfl, W, S, l, g, q, h⟩ := h
    obtain ⟨w1, rfl, e1⟩ := vals1 rz
    obtain rfl : w1 = Value.ref (He.ga X.K x) := e1
    unfold sortKM at h
    cases e2 : lstOf S l with
    | none => rw [e2] at h; exact h.elim
    | some xs =>
      rw [e2] at h
      dsimp only at h
      cases e3 : keysM m xs S with
      | bad => rw [e3] at h; exact h.elim
      | exc _ _ => rw [e3] at h; exact h.elim
      | ok ks S' =>
        rw [e3] at h
        dsimp only at h
        cases e4 : toPs ks with
        | none => rw [e4] at h; exact h.elim
        | some ps =>
          rw [e4] at h
          dsimp only at h
          split at h
          · rename_i ho
            obtain ⟨a, vs, rfl, hs, r2⟩ := lstOf_ok e2 g q
            obtain rfl := Vals.ref1 r
            exact sorted_key I hgd hr F hb g hs r2 e3 e4 ho.1 ho.2 h
          · exact h.elim
  refine PE.imp (pe_callBK hc hg hm (by decide +kernel) (pa_cons ha pa_nil hs) (pk_cons (pe_glob (v := .ref (He.ga X.K x)) hgx hmx rfl hdx) pk_nil) (he := he) (hpl := hpl) (hall := hall) (hnone := hnone) (hks := hks)) fun σ H Q ⟨W, S, δ, g, r, h⟩ => ?_
  refine ⟨W, S, δ, g, r, (okP.bind (R := Rep X.K) h).imp fun v H1 ⟨W1, S1, d, l1, g1, q1, p1⟩ => ?_⟩
  refine ⟨v, rfl, rfl, W1, S1, d, g1, q1, ?_⟩
  unfold sortKM at p1 ⊢
  cases e2 : lstOf S1 d with
  | none => rw [e2] at p1; exact p1.elim
  | some xs =>
    rw [e2] at p1
    dsimp only at p1 ⊢
    cases e3 : keysM m xs S1 with
    | bad => rw [e3] at p1; exact p1.elim
    | exc _ _ => rw [e3] at p1; exact p1.elim
    | ok ks S' =>
      rw [e3] at p1
      dsimp only at p1 ⊢
      cases e4 : toPs ks with
      | none => rw [e4] at p1; exact p1.elim
      | some ps =>
        rw [e4] at p1
        dsimp only at p1 ⊢
        split at p1
        · rename_i ho
          rw [if_pos ho]
          exact p1
        · exact p1.elim
end
end Ev
/-! # dicts: keys that are tuples of ints, as cells; dict(pairs) -/
namespace Ev
open PySem PySem.Spec PySem.SeqAt L2 PyProof.Rows
section
variable {X : Cx} {Wx : WX} {K : PySem.W.Frag} {W : Wd} {S : Store} {H : Hp} {pos pos' p : Pos} {e o value : Expr}
def newDT : PO := fun S => some (.ref S.length, S ++ [some (.dT [])])
def eDT : ME := fun _ => lft newDT
theorem se_dT : SE X Wx (.Dict [] [] pos) eDT := PE.imp pe_dnewT fun σ H Q ⟨W, S, δ, g, r, h⟩ => fun a n => by
  have h' := h.lft
  exact h' (W.addC a) _ _ (Wd.addC_le W a) (g.addC (c := .dT []) n ⟨[], upd_same, rfl, .nil⟩) (.ref (by simp [Wd.addC, ← g.len]))
/-- in its place, or at the end -/
def putT (kvs : List (List Int × D)) (k : List Int) (v : D) : List (List Int × D) :=
  if (kvs.any fun kv => decide (kv.1 = k)) = true then kvs.map (fun kv => if kv.1 = k then (kv.1, v) else kv) else kvs ++ [(k, v)]
theorem inl_inj {a b : List Int} : (a.map (Sum.inl : Int → Key) = b.map Sum.inl) ↔ a = b := by
  constructor
  · intro h
    exact (List.map_inj_right (fun x y e => Sum.inl.inj e)).mp h
  · intro h; rw [h]
theorem put_rel {d : D} {v : V} (q : Rep K W d v) (k : List Int) : ∀ {kvs : List (List Int × D)} {vk : List (List Key × V)}, vk.map (·.1) = kvs.map (fun p => p.1.map Sum.inl) → Reps K W (kvs.map (·.2)) (vk.map (·.2)) →
    (putK vk (k.map Sum.inl) v).map (·.1) = (putT kvs k d).map (fun p => p.1.map Sum.inl) ∧ Reps K W ((putT kvs k d).map (·.2)) ((putK vk (k.map Sum.inl) v).map (·.2)) := by
  intro kvs vk hk hr
  have any : ∀ {kvs : List (List Int × D)} {vk : List (List Key × V)}, vk.map (·.1) = kvs.map (fun p => p.1.map Sum.inl) → (vk.any fun kv => decide (kv.1 = k.map Sum.inl)) = (kvs.any fun kv => decide (kv.1 = k)) := by
    intro kvs
    induction kvs with
    | nil => intro vk h; simp at h; subst h; rfl
    | cons p kvs ih =>
      intro vk h
      cases vk with
      | nil => simp at h
      | cons z vk =>
        simp only [List.map_cons, List.cons.injEq] at h
        simp only [List.any_cons, ih h.2, h.1]
        congr 1
        simp only [decide_eq_decide]
        exact inl_inj
  unfold putK putT
  rw [any hk]
  split
  · rename_i hsp
    clear any hsp
    induction kvs generalizing vk with
    | nil => simp at hk; subst hk; exact ⟨rfl, .nil⟩
    | cons p kvs ih =>
      cases vk with
      | nil => simp at hk
      | cons z vk =>
        simp only [List.map_cons, List.cons.injEq] at hk
        cases hr with
        | cons r1 r2 =>
          obtain ⟨a, b⟩ := ih hk.2 r2
          have ez : (z.1 = k.map Sum.inl) ↔ p.1 = k := by rw [hk.1]; exact inl_inj
          simp only [List.map_cons]
          by_cases h : p.1 = k
          · rw [if_pos h, if_pos (ez.mpr h)]
            exact ⟨by rw [List.cons.injEq]; exact ⟨hk.1, a⟩, .cons q b⟩
          · rw [if_neg h, if_neg (fun z => h (ez.mp z))]
            exact ⟨by rw [List.cons.injEq]; exact ⟨hk.1, a⟩, .cons r1 b⟩
  · rw [List.map_append, List.map_append, List.map_append, List.map_append, hk]
    exact ⟨rfl, hr.append (.cons q .nil)⟩
def putCell (n : Nat) (k : List D) (v : D) (S : Store) : Option Store := match S[n]?, intsOf k with
  | some (some (.dT kvs)), some ks => if kvs.length < sizeLine ∧ k.length ≤ sizeLine then some (S.set n (some (.dT (putT kvs ks v)))) else none
  | _, _ => none
/-- d[tuple(e)] = v -/
def sPutT (mv mo me : ME) : MS := fun δ => ofE (M.bind (mv δ) fun v => M.bind (mo δ) fun x => M.bind (me δ) fun l S => (match x, lstOf S l with
  | .ref n, some ks => (match putCell n ks v S with
    | some S' => .ok D.non S'
    | none => .bad)
  | _, _ => .bad : Res D)) δ fun _ S => .nx δ S
theorem ints_kV (ns : List Int) : ns.map V.int = (ns.map Sum.inl).map kV := by rw [List.map_map]; rfl
theorem ss_putT {pe : Pos} {mv mo me : ME} (hu : X.A.units + 1 < cLine) (ho : SE X Wx o mo) (he : SE X Wx e me) (hv : SE X Wx value mv) (hg : Gl X "tuple") (hm : X.mg "tuple" = none) (hs1 : starEach [e] X.env = (false, eval e X.env) :: starEach [] X.env)
    (hs3 : (backTo pe (starEach [] X.env)).any (·.1) = false)
    (hs : swapsWith value (some (.Subscript o (.Call (.Name "tuple" p) [e] [] pe) pos')) pos.line X.env = pure false) :
    SS X Wx (.Assign [.Subscript o (.Call (.Name "tuple" p) [e] [] pe) pos'] value pos) (sPutT mv mo me) := by
  have hi : PE X (.Call (.Name "tuple" p) [e] [] pe) (tCB (fun xs H Q => ∃ p ys, xs = [.ref p] ∧ ((SqL X.K H p ys ∧ ∀ l, H l = none → Q (.ref l) (upd H l (.tup ys))) ∨ (SqT X.K H p ys ∧ Q (.ref p) H))) (tCons (tD X.K Wx me) tNil)) :=
    pe_callTy call_tuple_of hg hm (by decide +kernel) (pa_cons he pa_nil hs1) (he := hs1) (hpl := hs3)
  refine PS.imp (ps_dput hu ho hi hv hs) fun Dn σ H ⟨W, S, δ, g, r, h⟩ => ?_
  refine ⟨W, S, δ, g, r, ?_⟩
  have h1 := flP_ofE (R := Rep X.K) r h
  refine (okP.bind (R := Rep X.K) h1).imp fun v H1 ⟨W1, S1, d, l1, g1, q1, h2⟩ => ?_
  refine ⟨W1, S1, δ, g1, r.mono l1, (okP.bind (R := Rep X.K) h2).imp fun x H2 ⟨W2, S2, dx, l2, g2, q2, h3⟩ => ?_⟩
  refine ⟨W2, S2, δ, g2, r.mono (l1.trans l2), (okP.bind (R := Rep X.K) h3).imp fun y H3 ⟨W3, S3, dl, l3, g3, q3, h4⟩ => ?_⟩
  cases e1 : lstOf S3 dl with
  | none => rw [e1] at h4; cases dx <;> exact h4.elim
  | some ks =>
    rw [e1] at h4
    cases q2 with
    | @ref n a hn =>
      dsimp only at h4
      cases e2 : putCell n ks d S3 with
      | none => rw [e2] at h4; exact h4.elim
      | some S4 =>
        rw [e2] at h4
        obtain ⟨b, ys, rfl, hb, rb⟩ := lstOf_ok e1 g3 q3
        refine ⟨b, ys, rfl, .inl ⟨hb, fun l hl => ?_⟩⟩
        unfold putCell at e2
        split at e2
        · rename_i kvs ns hc hi2
          split at e2
          · rename_i hlen
            cases e2
            obtain ⟨rfl, rfl⟩ := intsOf_ok hi2 rb
            obtain ⟨a', z1, z2, z3, vk, z4, z5, z6⟩ := g3.cell n _ hc
            rw [l3.toLf.get hn] at z1; cases z1
            have g4 := g3.add (p := l) (o := .tup (ns.map V.int)) hl
            have le4 := g3.add_le (p := l) (o := .tup (ns.map V.int)) hl
            have ne : a ≠ l := ne_of_none z4 hl
            have z4' : upd H3 l (.tup (ns.map V.int)) a = some (.dT vk) := by rw [upd_ne ne]; exact z4
            have hlk : vk.length = kvs.length := by
              have := congrArg List.length z5
              simpa using this
            have q1' : Rep X.K (W3.add l (.tup (ns.map V.int))) d v := (q1.mono (l2.trans l3).toLf).mono le4.toLf
            refine ⟨a, _, rfl, DPut.t (k := ns.map Sum.inl) z4' (by rw [upd_same, ints_kV]) (by rw [hlk]; exact hlen.1), ?_⟩
            obtain ⟨k1, k2⟩ := put_rel q1' ns z5 (z6.mono le4.toLf)
            have g5 := g4.put (c' := .dT (putT kvs ns d)) (o := .dT (putK vk (ns.map Sum.inl) v)) hc (le4.toLf.get (l3.toLf.get hn)) ⟨_, upd_same, k1, k2⟩
            obtain ⟨W6, S6, d6, l6, g6, q6, h6⟩ := h4 _ _ _ le4 g5 .non
            exact h6 _ _ _ W6.le_refl g6 (r.mono l6)
          · cases e2
        · cases e2
    | _ => exact h4.elim
/-! for k in d: the dict is locked for good -/
def keyD (p : List Int × D) : D := .tup (p.1.map D.int)
def iKeysV (i : Nat) : MA := fun δ S => match δ[i]? with
  | some (some (.ref n)) => (match S[n]? with
    | some (some (.dT kvs)) => .ok (kvs.map keyD) (S.set n none)
    | _ => .bad)
  | _ => .bad
theorem si_keysV {i : Nat} {x : Str} {tg : Expr} (hN : X.N[i]? = some x) (hv : Vis X.env.scope x) (hd : (x == ("__debug__" : Str)) = false) (hcd : (x == ("__classdict__" : Str)) = false) : SI X Wx tg (.Name x pos) (iKeysV i) := by
  refine ⟨fun pins s σ H R I ⟨W, S, δ, g, r, h⟩ => ?_⟩
  unfold iKeysV at h
  split at h
  · rename_i n hn
    split at h
    · rename_i kvs hc
      obtain ⟨v, e1, e2⟩ := r.2 i _ hn
      rcases e2 with e2 | ⟨z, _⟩
      · cases e2 with
        | @ref _ a hm =>
          obtain ⟨a', z1, z2, z3, vk, z4, z5, z6⟩ := g.cell n _ hc
          rw [hm] at z1; cases z1
          obtain ⟨od, I1⟩ := I.lock z4 trivial
          obtain ⟨g1, l1⟩ := g.lockC (o := .frz od (.dT vk)) hc hm
          refine (pi_keys (pe_var hN hv hd hcd)).run pins s σ _ R I1 ⟨.ref a, e1, a, od, rfl, .inr ⟨vk, upd_same, ?_⟩⟩
          refine h _ _ _ l1 g1 ?_
          have hlk : vk.length = kvs.length := by
            have := congrArg List.length z5
            simpa using this
          have w := walk_keysT (d := a) (o := od) (kvs := vk)
          unfold WalkD
          rw [List.length_map, ← hlk]
          refine w.mono (fun H' h' => h' a _ upd_same) fun j H1 y H2 hj hG yy d hdj W2 S2 lf2 g2 => ?_
          obtain ⟨rfl, k, u, q, k1, rfl, k3⟩ := yy
          have hjk : j < kvs.length := by rw [← hlk]; exact hj
          have hkk : k = kvs[j].1.map Sum.inl := by
            have : (vk.map (·.1))[j]? = (kvs.map (fun p => p.1.map Sum.inl))[j]? := by rw [z5]
            rw [List.getElem?_map, List.getElem?_map, k1, List.getElem?_eq_getElem hjk] at this
            simpa using this
          have hdd : d = keyD kvs[j] := by
            rw [List.getElem?_map, List.getElem?_eq_getElem hjk] at hdj
            simpa using hdj.symm
          subst hdd
          have hkv : k.map kV = kvs[j].1.map V.int := by rw [hkk, ← ints_kV]
          rw [hkv] at k3
          cases hf : W2.F q with
          | some ob =>
            have := g2.sub q ob hf
            rw [k3] at this; cases this
            exact ⟨W2, W2.le_refl, g2, .tup (.inl (.inl hf)) (reps_ints _)⟩
          | none =>
            obtain ⟨g3, l3⟩ := g2.addOld k3 hf
            exact ⟨_, l3, g3, .tup (SqT.of upd_same) (reps_ints _)⟩
      · cases z
    · exact h.elim
  · exact h.elim
/-! dict(pairs), len of a dict -/
def keyOf : D → Option Key
  | .int i => some (.inl i)
  | .str x => some (.inr x)
  | _ => none
def pairOf : D → Option (Key × D)
  | .tup [a, b] => (keyOf a).map fun k => (k, b)
  | _ => none
def pairsD : List D → Option (List (Key × D))
  | [] => some []
  | d :: ds => match pairOf d, pairsD ds with
    | some a, some b => some (a :: b)
    | _, _ => none
def putKD (kvs : List (Key × D)) (k : Key) (v : D) : List (Key × D) :=
  if (kvs.any fun kv => decide (kv.1 = k)) = true then kvs.map (fun kv => if kv.1 = k then (kv.1, v) else kv) else kvs ++ [(k, v)]
def mergeD (kvs more : List (Key × D)) : List (Key × D) := more.foldl (fun acc kv => putKD acc kv.1 kv.2) kvs
theorem putK_rel {d : D} {v : V} (q : Rep K W d v) (k : Key) : ∀ {kvs : List (Key × D)} {vk : List (Key × V)}, vk.map (·.1) = kvs.map (·.1) → Reps K W (kvs.map (·.2)) (vk.map (·.2)) →
    (putK vk k v).map (·.1) = (putKD kvs k d).map (·.1) ∧ Reps K W ((putKD kvs k d).map (·.2)) ((putK vk k v).map (·.2)) := by
  intro kvs vk hk hr
  have any : ∀ {kvs : List (Key × D)} {vk : List (Key × V)}, vk.map (·.1) = kvs.map (·.1) → (vk.any fun kv => decide (kv.1 = k)) = (kvs.any fun kv => decide (kv.1 = k)) := by
    intro kvs
    induction kvs with
    | nil => intro vk h; simp at h; subst h; rfl
    | cons p kvs ih =>
      intro vk h
      cases vk with
      | nil => simp at h
      | cons z vk =>
        simp only [List.map_cons, List.cons.injEq] at h
        simp only [List.any_cons, ih h.2, h.1]
  unfold putK putKD
  rw [any hk]
  split
  · rename_i hsp
    clear any hsp
    induction kvs generalizing vk with
    | nil => simp at hk; subst hk; exact ⟨rfl, .nil⟩
    | cons p kvs ih =>
      cases vk with
      | nil => simp at hk
      | cons z vk =>
        simp only [List.map_cons, List.cons.injEq] at hk
        cases hr with
        | cons r1 r2 =>
          obtain ⟨a, b⟩ := ih hk.2 r2
          simp only [List.map_cons]
          by_cases h : p.1 = k
          · rw [if_pos h, if_pos (hk.1.trans h)]
            exact ⟨by rw [List.cons.injEq]; exact ⟨hk.1, a⟩, .cons q b⟩
          · rw [if_neg h, if_neg (fun z => h (hk.1.symm.trans z))]
            exact ⟨by rw [List.cons.injEq]; exact ⟨hk.1, a⟩, .cons r1 b⟩
  · rw [List.map_append, List.map_append, List.map_append, List.map_append, hk]
    exact ⟨rfl, hr.append (.cons q .nil)⟩
theorem merge_rel : ∀ {more : List (Key × D)} {vmore : List (Key × V)} {kvs : List (Key × D)} {vk : List (Key × V)}, vmore.map (·.1) = more.map (·.1) → Reps K W (more.map (·.2)) (vmore.map (·.2)) → vk.map (·.1) = kvs.map (·.1) → Reps K W (kvs.map (·.2)) (vk.map (·.2)) →
    (mergeK vk vmore).map (·.1) = (mergeD kvs more).map (·.1) ∧ Reps K W ((mergeD kvs more).map (·.2)) ((mergeK vk vmore).map (·.2))
  | [], [], kvs, vk, _, _, h3, h4 => ⟨h3, h4⟩
  | [], _ :: _, _, _, h, _, _, _ => by simp at h
  | _ :: _, [], _, _, h, _, _, _ => by simp at h
  | p :: more, z :: vmore, kvs, vk, h1, h2, h3, h4 => by
    simp only [List.map_cons, List.cons.injEq] at h1
    cases h2 with
    | cons r1 r2 =>
      obtain ⟨a, b⟩ := putK_rel r1 p.1 h3 h4
      have := merge_rel (more := more) (vmore := vmore) h1.2 r2 a b
      unfold mergeK mergeD at this ⊢
      simp only [List.foldl_cons, h1.1]
      exact this
theorem pairsD_ok : ∀ {ds : List D} {vs : List V} {kvs : List (Key × D)}, pairsD ds = some kvs → Good K W S H → Reps K W ds vs → ∃ (ps : List Addr) (vk : List (Key × V)), vs = ps.map V.ref ∧ Paired (fun p kv => SqT K H p [kV kv.1, kv.2]) ps vk ∧ vk.map (·.1) = kvs.map (·.1) ∧ Reps K W (kvs.map (·.2)) (vk.map (·.2))
  | [], _, kvs, e, g, .nil => by cases e; exact ⟨[], [], rfl, .nil, rfl, .nil⟩
  | d :: ds, _, kvs, e, g, .cons q r => by
    unfold pairsD at e
    split at e
    · rename_i a b e1 e2
      cases e
      obtain ⟨ps, vk, h1, h2, h3, h4⟩ := pairsD_ok e2 g r
      unfold pairOf at e1
      split at e1
      · rename_i x y
        cases q with
        | tup q r2 =>
          obtain ⟨vx, vy, rfl, qx, qy⟩ := reps2 r2
          obtain ⟨k, ek, rfl⟩ := Option.map_eq_some_iff.mp e1
          have hx : vx = kV k := by
            cases qx with
            | int i => cases ek; rfl
            | str z => cases ek; rfl
            | _ => cases ek
          subst hx
          exact ⟨_ :: ps, (k, vy) :: vk, by rw [List.map_cons, h1], .cons (g.sqT q) h2, by simp [h3], .cons qy h4⟩
      · cases e1
    · cases e
def pDict : List D → PO := fun ds S => match ds with
  | [x] => (lstOf S x).bind fun xs => (pairsD xs).map fun kvs => (.dic (mergeD [] kvs), S)
  | _ => none
theorem cr_pDict (hc : X.calm = true) : CallR X (.type "dict") (rDC X.K pDict) := call_of (call_dictP hc) fun W S H vs ds Q g r h => by
  match ds, r, h with
  | [d], r, h =>
    obtain ⟨v, rfl, q⟩ := reps1 r
    simp only [pDict] at h
    cases e : lstOf S d with
    | none => rw [e] at h; exact h.elim
    | some xs =>
      rw [e] at h
      simp only [Option.bind_some] at h
      cases e2 : pairsD xs with
      | none => rw [e2] at h; exact h.elim
      | some kvs =>
        rw [e2] at h
        obtain ⟨a, vs, rfl, hs, r2⟩ := lstOf_ok e g q
        obtain ⟨ps, vk, rfl, h2, h3, h4⟩ := pairsD_ok e2 g r2
        refine ⟨a, ps, vk, rfl, hs, h2, fun p n => ?_⟩
        obtain ⟨k1, k2⟩ := merge_rel (kvs := []) (vk := []) h3 h4 rfl .nil
        exact oV.new h g n (.dic upd_same k1 (k2.mono (g.add_le n).toLf))
  | [], r, h => exact h.elim
  | _ :: _ :: _, r, h => exact h.elim
def pLenA : List D → PO := fun ds S => match ds with
  | [.dic kvs] => some (.int kvs.length, S)
  | ds => pLen ds S
theorem cr_pLenA : CallR X (.builtin "len") (rDC X.K pLenA) := fun pins s σ H vs us Q I rv ⟨W, S, ds, g, r, h⟩ => by
  by_cases hd : ∃ kvs, ds = [.dic kvs]
  · obtain ⟨kvs, rfl⟩ := hd
    obtain ⟨v, rfl, q⟩ := reps1 r
    cases q with
    | @dic a vk _ h1 h2 h3 =>
      obtain rfl := Vals.ref1 rv
      have hl : vk.length = kvs.length := by
        have := congrArg List.length h2
        simpa using this
      refine d_len I (.inl (g.sub _ _ h1)) fun t s' I' => ⟨.int kvs.length, H, I', ⟨t, by rw [hl]⟩, ?_⟩
      exact oV.val h g (.int _)
  · have e : pLenA ds S = pLen ds S := by
      unfold pLenA
      split
      · exact absurd ⟨_, rfl⟩ hd
      · rfl
    rw [e] at h
    exact cr_pLen pins s σ H vs us Q I rv ⟨W, S, ds, g, r, h⟩
end
end Ev
/-! # short words for the printed proofs; list.index -/
namespace Ev
open PySem PySem.Spec PySem.SeqAt L2 PyProof.Rows
section
variable {X : Cx} {Wx : WX} {K : PySem.W.Frag} {W : Wd} {S : Store} {H : Hp} {pos pos' p px kp tpos : Pos} {e o a b value tg : Expr} {mas : MA} {ma mb m : ME} {k : Nat} {x : Str}
/-! xs.index(k), ints -/
def pIndex : D → List D → PO := fun x ds S => match ds with
  | [.int i] => ((lstOf S x).bind intsOf).bind fun ns => (ns.findIdx? (· == i)).map fun j => (.int (j : Nat), S)
  | _ => none
theorem mt_pIndex : MtR X "list.index" (rDM X.K pIndex) := fun pins s σ H x xs v us Q I rx rv ⟨W, S, d, ds, g, r1, r2, h⟩ => by
  unfold pIndex at h
  split at h
  · rename_i i
    obtain ⟨w, rfl, q⟩ := reps1 r2
    cases q
    cases e : (lstOf S d).bind intsOf with
    | none => rw [e] at h; exact h.elim
    | some ns =>
      rw [e] at h
      simp only [Option.bind_some] at h
      cases e2 : ns.findIdx? (· == i) with
      | none => rw [e2] at h; exact h.elim
      | some j =>
        rw [e2] at h
        obtain ⟨a, rfl, hs⟩ := ints_of_lst g r1 e
        obtain ⟨hj, h1, h2⟩ := List.findIdx?_eq_some_iff_getElem.mp e2
        refine mt_index pins s σ H _ _ v us Q I rx rv ⟨a, ns.map V.int, .int i, j, .int ns[j], rfl, rfl, hs, rfl, ?_, ?_, ?_, fun m z hm hz => ?_, ?_⟩
        · simp [flatV]
        · simp [hj]
        · simpa [eqV] using h1
        · have hm' : m < ns.length := by omega
          rw [List.getElem?_map, List.getElem?_eq_getElem hm'] at hz
          simp at hz
          subst hz
          have := h2 m hm
          simpa [eqV] using this
        · exact oV.val h g (.int _)
  · exact h.elim
/-! short words -/
theorem nEnu {elts : List Expr} {kk : Nat} (hm : X.mg "enumerate" = none) (ha : SA X Wx [e] mas) (hg : Gl X "enumerate" := by rfl) (hs : starEach [e] X.env = [(false, eval e X.env)] := by rfl) :
    SI X Wx (.Tuple elts kk tpos) (.Call (.Name "enumerate" p) [e] [] pos) (iEnu mas) := si_enum hg hm ha hs
theorem nListRg1 {fin : List D → PO} (C : Ct X Wx k) (hf : ∀ {W : Wd} {S : Store} {H : Hp} {xs : List D} {vs : List V} {Q : VK}, oV X.K W (fin xs S) Q → Good X.K W S H → Reps X.K W xs vs → vs.length ≤ sizeLine ∧ ∀ a, H a = none → Q (.ref a) (upd H a (.lst vs)))
    (hl : X.mg "list" = none) (hm : X.mg "range" = none) (ha : SE X Wx a ma) {p1 p2 p3 : Pos} (hgl : Gl X "list" := by rfl) (hg : Gl X "range" := by rfl) (na : starEach [a] X.env = (false, eval a X.env) :: starEach [] X.env := by rfl)
    (nc : starEach [.Call (.Name "range" p1) [a] [] p2] X.env = (false, eval (.Call (.Name "range" p1) [a] [] p2) X.env) :: starEach [] X.env := by rfl) :
    SE X Wx (.Call (.Name "list" p3) [.Call (.Name "range" p1) [a] [] p2] [] pos) (eRg fin (g1 ma)) := se_listRg hf C.calm hgl hl (sr_1 hg hm ha na) nc
theorem nTupRg1 (C : Ct X Wx k) (hl : X.mg "tuple" = none) (hm : X.mg "range" = none) (ha : SE X Wx a ma) {p1 p2 p3 : Pos} (hgl : Gl X "tuple" := by rfl) (hg : Gl X "range" := by rfl) (na : starEach [a] X.env = (false, eval a X.env) :: starEach [] X.env := by rfl)
    (nc : starEach [.Call (.Name "range" p1) [a] [] p2] X.env = (false, eval (.Call (.Name "range" p1) [a] [] p2) X.env) :: starEach [] X.env := by rfl) :
    SE X Wx (.Call (.Name "tuple" p3) [.Call (.Name "range" p1) [a] [] p2] [] pos) (eRg newT (g1 ma)) := se_tupRg C.calm hgl hl (sr_1 hg hm ha na) nc
theorem nSortK (C : Ct X Wx (k + 2)) {m : List D → M D} (hK : KeyG X.prog X.w X.K X.mg X.base k (He.ga X.K x) m) (hm : X.mg "sorted" = none) (hmx : X.mg x = some (.ref (He.ga X.K x))) (ha : SE X Wx e ma) (hg : Gl X "sorted" := by rfl) (hgx : Gl X x := by rfl) (hdx : (x == ("__debug__" : Str)) = false := by rfl)
    (hs : starEach [e] X.env = (false, eval e X.env) :: starEach [] X.env := by rfl)
    (he : backTo pos (starEach [e] X.env) = (false, eval e X.env) :: backTo pos (starEach [] X.env) := by rfl) (hpl : (backTo pos (starEach [e] X.env)).any (·.1) = false := by rfl)
    (hall : (backToKw pos (keywordEach [⟨some "key", .Name x px, kp⟩] X.env)).all (·.1.isSome) = true := by rfl) (hnone : (backToKw pos (keywordEach [⟨some "key", .Name x px, kp⟩] X.env)).any (·.1.isNone) = false := by rfl) (hks : (backToKw pos (keywordEach [⟨some "key", .Name x px, kp⟩] X.env)).filterMap (·.1) = [Str.ofString "key"] := by rfl) :
    SE X Wx (.Call (.Name "sorted" p) [e] [⟨some "key", .Name x px, kp⟩] pos) (eSortK m ma) := se_sortK hK C.room C.gd hg hm hgx hmx hdx ha hs he hpl hall hnone hks
theorem nPutT {pe : Pos} {mv mo me : ME} (C : Ct X Wx k) (hm : X.mg "tuple" = none) (ho : SE X Wx o mo) (he : SE X Wx e me) (hv : SE X Wx value mv) (hg : Gl X "tuple" := by rfl) (hs1 : starEach [e] X.env = (false, eval e X.env) :: starEach [] X.env := by rfl)
    (hs3 : (backTo pe (starEach [] X.env)).any (·.1) = false := by rfl)
    (hs : swapsWith value (some (.Subscript o (.Call (.Name "tuple" p) [e] [] pe) pos')) pos.line X.env = pure false := by rfl) :
    SS X Wx (.Assign [.Subscript o (.Call (.Name "tuple" p) [e] [] pe) pos'] value pos) (sPutT mv mo me) := ss_putT (by have := C.hu; omega) ho he hv hg hm hs1 hs3 hs
theorem nKeysV (i : Nat) (hN : X.N[i]? = some x := by rfl) (hv : Vis X.env.scope x := by first | exact .inl rfl | exact .inr (.inl rfl) | exact .inr (.inr rfl)) (hd : (x == ("__debug__" : Str)) = false := by rfl) (hcd : (x == ("__classdict__" : Str)) = false := by rfl) : SI X Wx tg (.Name x pos) (iKeysV i) := si_keysV hN hv hd hcd
/-! where a comprehension's target writes -/
def UpIn (l : List Nat) (u : UpD) : Prop := ∀ d us, u d = some us → ∀ p ∈ us, p.1 ∈ l
def UpsIn (l : List Nat) (u : List D → Option (List (Nat × D))) : Prop := ∀ d us, u d = some us → ∀ p ∈ us, p.1 ∈ l
theorem upsNl {l : List Nat} : UpsIn l uNl := fun d us e p hp => by
  unfold uNl at e
  split at e
  · cases e; simp at hp
  · cases e
theorem upsCs {l : List Nat} {u : UpD} {us : List D → Option (List (Nat × D))} (h1 : UpIn l u) (h2 : UpsIn l us) : UpsIn l (uCs u us) := fun ds r e p hp => by
  unfold uCs at e
  split at e
  · rename_i d ds
    cases e1 : u d with
    | none => rw [e1] at e; cases e
    | some a =>
      rw [e1] at e
      cases e2 : us ds with
      | none => rw [e2] at e; cases e
      | some b =>
        rw [e2] at e
        cases e
        rcases List.mem_append.mp hp with hp | hp
        · exact h1 _ _ e1 p hp
        · exact h2 _ _ e2 p hp
  · cases e
theorem upTpG {l : List Nat} {n : Nat} {us : List D → Option (List (Nat × D))} (h : UpsIn l us) : UpIn l (uTp n us) := fun d r e p hp => by
  unfold uTp at e
  split at e
  · split at e
    · exact h _ _ e p hp
    · cases e
  · cases e
/-- a, b, c = x, y, z of names -/
def sPar3 (i j l : Nat) (mas : MA) : MS := fun δ => ofE (mas δ) δ fun ds S => match ds with
  | [x, y, z] => .nx (((δ.set i (some x)).set j (some y)).set l (some z)) S
  | _ => .bad
theorem nPar3 (i j l : Nat) {x y z : Str} {c : Expr} {px py pz pt : Pos} {kt k2 : Nat} {pt2 : Pos} (C : Ct X Wx k) (hN : X.N.Nodup) (ha : SA X Wx [a, b, c] mas) (hi : X.N[i]? = some x := by rfl) (hj : X.N[j]? = some y := by rfl) (hl : X.N[l]? = some z := by rfl) (hij : i ≠ j := by decide) (hil : i ≠ l := by decide) (hjl : j ≠ l := by decide)
    (hx : X.env.scope.names.lookup x = some .local := by rfl) (hy : X.env.scope.names.lookup y = some .local := by rfl) (hz : X.env.scope.names.lookup z = some .local := by rfl)
    (hw : swappedStores [.Tuple [.Name x px, .Name y py, .Name z pz] kt pt] (.Tuple [a, b, c] k2 pt2) X.env = pure (some [x, y, z]) := by rfl)
    (hs : swapsWithSole [.Tuple [.Name x px, .Name y py, .Name z pz] kt pt] (.Tuple [a, b, c] k2 pt2) pos.line X.env = pure false := by rfl) :
    SS X Wx (.Assign [.Tuple [.Name x px, .Name y py, .Name z pz] kt pt] (.Tuple [a, b, c] k2 pt2) pos) (sPar3 i j l mas) :=
  PS.imp (ps_par3 C.calm hN hi hj hl hij hil hjl hx hy hz ha hw hs) fun D σ H ⟨W, S, δ, g, r, p⟩ => ⟨W, S, δ, g, r, (flP_ofE (R := Reps X.K) r p).imp fun vs H1 ⟨W1, S1, ds, l1, g1, r1, p1⟩ => by
    cases r1 with
    | nil => exact p1.elim
    | cons q1 r1 =>
      cases r1 with
      | nil => exact p1.elim
      | cons q2 r1 =>
        cases r1 with
        | nil => exact p1.elim
        | cons q3 r1 =>
          cases r1 with
          | nil => exact ⟨_, _, _, rfl, p1 W1 H1 _ W1.le_refl g1 ((((r.mono l1).set i q1).set j q2).set l q3)⟩
          | cons _ _ => exact p1.elim⟩
end
end Ev
/-! # keywords in another order; a list so many times as a cell; facts for own == -/
namespace Ev
open PySem PySem.Spec PySem.SeqAt L2 PyProof.Rows
def pick {α : Type} (is : List Nat) (xs : List α) : List α := is.filterMap fun i => xs[i]?
theorem pick_len {α : Type} : ∀ {is : List Nat} {xs : List α}, (∀ i ∈ is, i < xs.length) → (pick is xs).length = is.length
  | [], _, _ => rfl
  | i :: is, xs, h => by
    have h1 := h i (List.mem_cons_self ..)
    have h2 := pick_len (is := is) (xs := xs) fun j hj => h j (List.mem_cons_of_mem _ hj)
    unfold pick at h2 ⊢
    simp only [List.filterMap_cons, List.getElem?_eq_getElem h1, List.length_cons, h2]
theorem pick_paired {α β : Type} {F : α → β → Prop} : ∀ {is : List Nat} {xs : List α} {ys : List β}, Paired F xs ys → Paired F (pick is xs) (pick is ys)
  | [], _, _, _ => .nil
  | i :: is, xs, ys, h => by
    have ih := pick_paired (is := is) h
    unfold pick at ih ⊢
    simp only [List.filterMap_cons]
    by_cases hi : i < xs.length
    · have hi' : i < ys.length := by rw [← Paired.length h]; exact hi
      have get : ∀ {xs : List α} {ys : List β} (i : Nat) (h1 : i < xs.length) (h2 : i < ys.length), Paired F xs ys → F xs[i] ys[i] := by
        intro xs ys i h1 h2 hp
        induction hp generalizing i with
        | nil => simp at h1
        | cons a t ih =>
          cases i with
          | zero => exact a
          | succ i => exact ih i (by simpa using h1) (by simpa using h2)
      rw [List.getElem?_eq_getElem hi, List.getElem?_eq_getElem hi']
      exact .cons (get i hi hi' h) ih
    · have hi' : ¬ i < ys.length := by rw [← Paired.length h]; exact hi
      rw [List.getElem?_eq_none (by omega), List.getElem?_eq_none (by omega)]
      exact ih
def BindP (K : PySem.W.Frag) (fd : FuncData) (ps ks : List Str) (is : List Nat) : Prop :=
  ∀ (s : Shared) (us ws : List Value), us.length + ks.length = ps.length → ws.length = ks.length → BindsTo s fd ⟨us, ks.zip ws⟩ (ps.zip (pick is (us ++ ws)))
theorem bindP_of {K : PySem.W.Frag} {x qual : Str} {params : Arguments} {body : List Stmt} {scope : Scope} {f : Addr} {fd : FuncData} {ps ks : List Str} {is : List Nat} (F : FunD K x qual params body scope [] [] f fd)
    (h : ∀ (kV doc pm : Value) (an : Option Addr) (cdv ct : Value) (us ws : List Value), us.length + ks.length = ps.length → ws.length = ks.length → bindArgs (PySem.W.fnOf x qual params body scope .none kV doc pm an cdv ct) ⟨us, ks.zip ws⟩ = pure (ps.zip (pick is (us ++ ws)))) : BindP K fd ps ks is := by
  obtain ⟨oc, od, dV, kV, doc, pm, an, cdv, ct, osl, rfl, lk, hcd, hD, hK⟩ := F.ex
  rcases hD with ⟨_, rfl⟩ | ⟨e, _⟩
  · exact fun s us ws h1 h2 => .of_eq (h kV doc pm an cdv ct us ws h1 h2)
  · exact absurd rfl e
section
variable {P : Program} {w : World} {K : PySem.W.Frag} {mg : Str → Option Value} {base : Heap}
theorem calG_fnP {k n : Nat} {f : Addr} {fd : FuncData} {ps ks : List Str} {is : List Nat} {m : List D → M D} (F : FnG P w K mg base k f fd ps (spM K n m)) (hb : BindP K fd ps ks is) (hn : n = ps.length) (hi : is.length = n) (hlt : ∀ i ∈ is, i < n) (hm : ∀ ds S, ds.length ≠ n → m ds S = .bad) :
    CalG P w K mg base k f ks (fun ds => if ds.length = n then m (pick is ds) else fun _ => .bad) := by
  intro X Wx e1 e2 e3 e4 e5 hr hg tk
  subst e1 e2 e3 e4 e5
  intro pins s σ H vs zs us ws Q I r1 r2 hl ⟨W, S, ds, es, g, q1, q2, p⟩
  dsimp only at p
  by_cases hlen : (ds ++ es).length = n
  · rw [if_pos hlen] at p
    have l1 : ds.length = us.length := q1.length.trans (Paired.length r1)
    have l2 : ws.length = ks.length := (Paired.length r2).symm.trans hl
    have l3 : es.length = ks.length := q2.length.trans hl
    have hv : (vs ++ zs).length = n := by rw [← hlen]; simp [q1.length, q2.length]
    have hpl : (pick is (vs ++ zs)).length = n := by rw [pick_len (by rw [hv]; exact hlt), hi]
    have want : spM X.K n m (pick is (vs ++ zs)) H Q (fun cls d H' => Wx cls d σ H') := ⟨hpl, W, S, pick is (ds ++ es), g, paired_reps (pick_paired (reps_paired (q1.append q2))), by
      cases e5 : m (pick is (ds ++ es)) S with
      | ok d S' => rw [e5] at p; exact p
      | exc x S' => rw [e5] at p; exact p
      | bad => rw [e5] at p; exact p⟩
    refine wpAny_call (codeAny_mono (F.run X.A hg X.stack s H ⟨us, ks.zip ws⟩ (pick is (us ++ ws)) (pick is (vs ++ zs)) Q _ hr I.env0 (hb s us ws (by rw [← hn, ← hlen]; simp [l1, l3]) l2) (pick_paired (paired_append r1 r2)) want) fun res s' hq => ?_)
    cases res with
    | error ex => exact tk ex s' (XE.of_call (W := Wx) I (fun cls d H' h => h) hq)
    | ok fl =>
      cases fl with
      | ret u => exact I.after hq
      | next => exact hq.elim
      | brk => exact hq.elim
      | cont => exact hq.elim
  · rw [if_neg hlen] at p
    exact p.elim
end
def calP (m : List D → M D) (n : Nat) (is : List Nat) : List D → M D := fun ds => if ds.length = n then m (pick is ds) else fun _ => .bad
theorem CalG.badP {P : Program} {w : World} {K : PySem.W.Frag} {mg : Str → Option Value} {base : Heap} {k : Nat} {v : Addr} {ks : List Str} {n : Nat} {is : List Nat} : CalG P w K mg base k v ks (calP (fun _ _ => .bad) n is) := by
  have e : calP (fun _ _ => .bad) n is = fun _ _ => .bad := by
    funext ds S
    unfold calP
    split <;> rfl
  rw [e]
  exact CalG.bad
theorem FnG.bad2 {P : Program} {w : World} {K : PySem.W.Frag} {mg : Str → Option Value} {base : Heap} {k : Nat} {f : Addr} {fd : FuncData} {x y : Str} : FnG P w K mg base k f fd [x, y] (spM K 2 (fun _ _ => .bad)) :=
  ⟨fun _ _ _ _ h => h.1, fun _ _ _ _ _ _ _ _ _ _ _ _ _ _ h => by obtain ⟨_, _, _, _, _, _, z⟩ := h; exact z.elim⟩
def neB (c : Str) : Ex := fun K => decide (PySem.W.findIn K (.ref (He.ga K c)) "__ne__" = some (some (.builtin "object.__ne__"))) && decide (PySem.W.mroIn K (He.ga K c) (.type "object") = some true)
section
variable {X : Cx}
/-- a list so many times, as a cell -/
def pMulC : D → D → PO := fun x y S => match y with
  | .int k => (match plstOf S x with
    | some xs => if -(2 ^ 63) ≤ k ∧ k < 2 ^ 63 ∧ xs.length * k.toNat ≤ sizeLine then newC (List.replicate k.toNat xs).flatten S else none
    | none => none)
  | _ => none
theorem op_pMulC : OpR X (binaryOp .Mult) (rD2 X.K pMulC) := fun pins s σ H x y v u Q I rx ry ⟨W, S, dx, dy, g, r1, r2, p⟩ => by
  cases r2 with
  | int k =>
    simp only [pMulC] at p
    cases e : plstOf S dx with
    | none => rw [e] at p; exact p.elim
    | some xs =>
      rw [e] at p
      dsimp only at p
      split at p
      · rename_i h
        obtain ⟨a, vs, rfl, h1, h2⟩ := plstOf_ok e g r1
        exact op_rep pins s σ H _ _ v u Q I rx ry ⟨a, k, vs, rfl, rfl, h1, h.1, h.2.1, by rw [← h2.length]; exact h.2.2, (newC_ok p g (reps_repl h2 k.toNat)).2⟩
      · exact p.elim
  | _ => exact p.elim
end
end Ev
/-! # sum, max, min of tuples; x in range(n) -/
namespace Ev
open PySem PySem.Spec PySem.SeqAt L2 PyProof.Rows PySem.Calls PyProof.V
section
variable {prog : Program} {w : World} {A : Around} {E : Value → Shared → Prop} {s : Shared}
theorem sum_rawT {t : Addr} {its : List Value} {ns : List Int} {Q : Value → Shared → Prop} (hh : A.handled = none) (hl : s.heap.IsTuple t its.toArray) (hi : IntsAre its ns)
    (h : ∀ h' tk t', (∀ b o, s.heap.get? b = some o → h'.get? b = some o) → Q (.int ns.sum t') { s with heap := h', toks := tk }) : wpAny (model prog w) A (call (.builtin "sum") [.ref t]) Q E s := by
  obtain ⟨xs, e⟩ := hi.allInts.items
  have hn : numsOf (intItems xs).toList = ns := by rw [← e]; exact hi.numsOf
  rw [nums_intItems] at hn
  rw [e] at hl
  refine PySem.W.ktm_sumG hh hl fun h' tk t' hk => ?_
  have := h h' tk t' hk
  rw [preSum_eq, List.take_of_length_le (by simp), hn]; exact this
theorem max_rawT {t : Addr} {its : List Value} {ns : List Int} {Q : Value → Shared → Prop} (hh : A.handled = none) (hl : s.heap.IsTuple t its.toArray) (hi : IntsAre its ns) (hne : 0 < ns.length)
    (h : ∀ h' tk M t', (∀ b o, s.heap.get? b = some o → h'.get? b = some o) → M ∈ ns → (∀ a, a ∈ ns → a ≤ M) → Q (.int M t') { s with heap := h', toks := tk }) : wpAny (model prog w) A (call (.builtin "max") [.ref t]) Q E s := by
  obtain ⟨xs, e⟩ := hi.allInts.items
  have hn : numsOf (intItems xs).toList = ns := by rw [← e]; exact hi.numsOf
  rw [nums_intItems] at hn
  subst hn
  rw [e] at hl
  have hsz : 0 < xs.size := by simpa using hne
  have hsz2 : (intItems xs).size = xs.size := by simp [intItems]
  obtain ⟨o, ho, hc, n, hd⟩ := id hl
  have hne : t ≠ s.heap.objs.size := Nat.ne_of_lt (Heap.lt_size ho)
  have W := Walks.tuple (prog := prog) (w := w) (A := A.in1) hh s.heap.objs.size t hne (intItems xs)
  rw [hsz2] at W
  refine call_max_walk (wpAny_pyIter_tuple hl ?_)
  refine ⟨s.heap.objs.size, _, _, _, _, _, _, rfl, W, ⟨⟨_, Heap.get?_push_size _ rfl, rfl, rfl⟩, hl.at fun o e => Heap.get?_push_of_some _ e⟩, fun b hb => ?_, hsz, CmpOf.ints_gt (numAt xs) (fun _ _ => intItems_at), fun v h' tk hP hk => ?_⟩
  · rcases List.mem_cons.mp hb with rfl | hb
    · exact Heap.lt_size (Heap.get?_push_size _ rfl)
    · obtain rfl := List.mem_singleton.mp hb
      exact Heap.lt_size (Heap.get?_push_of_some _ ho)
  · obtain ⟨u, rfl⟩ := intItems_at hP
    obtain ⟨h1, h2⟩ := argBest_gt (numAt xs) (xs.size - 1)
    refine h h' tk _ u (fun b o e => hk b o (fun hb => absurd (Heap.lt_size e) ((List.mem_singleton.mp hb) ▸ Nat.lt_irrefl _)) (Heap.get?_push_of_some _ e)) ?_ fun a ha => ?_
    · rw [numAt_eq]; exact PySem.getD_mem (by rw [List.length_map, Array.length_toList]; omega)
    · obtain ⟨j, hj, rfl⟩ := mem_getD ha
      rw [List.length_map, Array.length_toList] at hj
      rw [← numAt_eq]; exact h2 j (by omega)
end
section
variable {X : Cx} {Wx : WX} {a b e : Expr} {ma mb : ME} {pos p : Pos}
def tupInts : D → Option (List Int)
  | .tup ds => intsOf ds
  | _ => none
theorem tupInts_ok {W : Wd} {S : Store} {H : Hp} {d : D} {v : V} {ns : List Int} (g : Good X.K W S H) (q : Rep X.K W d v) (e : tupInts d = some ns) : ∃ a, v = .ref a ∧ SqT X.K H a (ns.map V.int) := by
  cases q with
  | tup q r =>
    obtain ⟨rfl, rfl⟩ := intsOf_ok e r
    exact ⟨_, rfl, g.sqT q⟩
  | _ => cases e
/-- sum of a list or a tuple -/
def pSumA : List D → PO := fun ds S => match ds with
  | [.tup xs] => (intsOf xs).map fun ns => (.int ns.sum, S)
  | ds => pSum ds S
theorem cr_pSumA (hc : X.calm = true) : CallR X (.builtin "sum") (rDC X.K pSumA) := fun pins s σ H vs us Q I rv ⟨W, S, ds, g, r, h⟩ => by
  by_cases hd : ∃ xs, ds = [.tup xs]
  · obtain ⟨xs, rfl⟩ := hd
    obtain ⟨v, rfl, q⟩ := reps1 r
    simp only [pSumA] at h
    cases e : intsOf xs with
    | none => rw [e] at h; exact h.elim
    | some ns =>
      rw [e] at h
      obtain ⟨a, rfl, hs⟩ := tupInts_ok (d := .tup xs) g q e
      obtain rfl := Vals.ref1 rv
      obtain ⟨its, rv2, hl, _⟩ := I.tuple hs
      exact sum_rawT (I.ok.hd hc) hl rv2.ints fun h' tk t' hk => ⟨.int _, H, I.kept hk, ⟨_, rfl⟩, oV.val h g (.int _)⟩
  · have e : pSumA ds S = pSum ds S := by
      unfold pSumA
      split
      · exact absurd ⟨_, rfl⟩ hd
      · rfl
    rw [e] at h
    exact cr_pSum hc pins s σ H vs us Q I rv ⟨W, S, ds, g, r, h⟩
/-- max of one list or tuple, or of two -/
def pMaxA : List D → PO := fun ds S => match ds with
  | [.tup xs] => (intsOf xs).bind fun ns => if ns = [] then none else some (.int (maxL ns), S)
  | ds => pMax ds S
theorem cr_pMaxA (hc : X.calm = true) : CallR X (.builtin "max") (rDC X.K pMaxA) := fun pins s σ H vs us Q I rv ⟨W, S, ds, g, r, h⟩ => by
  by_cases hd : ∃ xs, ds = [.tup xs]
  · obtain ⟨xs, rfl⟩ := hd
    obtain ⟨v, rfl, q⟩ := reps1 r
    simp only [pMaxA] at h
    cases e : intsOf xs with
    | none => rw [e] at h; exact h.elim
    | some ns =>
      rw [e] at h
      simp only [Option.bind_some] at h
      split at h
      · exact h.elim
      · rename_i hne
        obtain ⟨a, rfl, hs⟩ := tupInts_ok (d := .tup xs) g q e
        obtain rfl := Vals.ref1 rv
        obtain ⟨its, rv2, hl, _⟩ := I.tuple hs
        refine max_rawT (I.ok.hd hc) hl rv2.ints (by cases ns with | nil => exact absurd rfl hne | cons _ _ => exact Nat.succ_pos _) fun h' tk m t' hk h1 h2 => ⟨.int _, H, I.kept hk, ⟨_, rfl⟩, ?_⟩
        obtain ⟨m1, m2⟩ := maxL_ok ns hne
        have em : m = maxL ns := Int.le_antisymm (m2 m h1) (h2 _ m1)
        subst em
        exact oV.val h g (.int _)
  · have e : pMaxA ds S = pMax ds S := by
      unfold pMaxA
      split
      · exact absurd ⟨_, rfl⟩ hd
      · rfl
    rw [e] at h
    exact cr_pMax hc pins s σ H vs us Q I rv ⟨W, S, ds, g, r, h⟩
/-! x in range(n), x not in range(n) -/
theorem op_notin_rng : OpR X (compareOp .NotIn) (fun x y H Q => ∃ i a lo hi, x = V.int i ∧ y = V.ref a ∧ H a = some (.rng lo hi) ∧ Q (.bl (!decide (lo ≤ i ∧ i < hi))) H) := by
  intro pins s σ H x y v u Q I rx ry h
  obtain ⟨i, a, lo, hi, rfl, rfl, ha, q⟩ := h
  obtain ⟨k, rfl⟩ := rx
  obtain rfl : u = Value.ref a := ry
  obtain ⟨t1, t2, t3, ho⟩ := I.hok a _ ha
  show wpAny _ _ (do return Value.bool (!(← contains (Value.ref a) (Value.int i k)))) _ _ s
  refine wpAny_bind (wpAny_contains_slot (T := "range") ⟨_, ho, rfl⟩ F.slot_range_contains (call_meets F.slot_range_contains ⟨_, ho, rfl⟩ F.entry_range_contains (F.args_range_contains_2 _ _) (q_contains a lo hi i t1 t2 t3 k)
    ⟨ho, wpAny_truthy_bool (wpAny_pure ⟨.bl _, H, I, rfl, ?_⟩)⟩))
  rw [place1]
  exact q
theorem cr_range1 : CallR X (.type "range") (fun vs H Q => ∃ j, vs = [V.int j] ∧ ∀ p, H p = none → Q (.ref p) (upd H p (.rng 0 j))) := by
  intro pins s σ H vs us Q I r h
  obtain ⟨j, rfl, q⟩ := h
  obtain ⟨u1, rfl, ri⟩ := vals1 r
  obtain ⟨t, rfl⟩ := ri
  refine call_range_1 ⟨.ref s.heap.objs.size, upd H s.heap.objs.size (.rng 0 j), I.laid (t' := s.toks + 1 + 1) (fun b o e => Heap.get?_push_of_some _ e) (Nat.le_refl _) ?_, rfl, q _ (I.hok.fresh (Nat.le_refl _))⟩
  exact ⟨s.toks, t, s.toks + 1, Heap.get?_push_size _ rfl⟩
def eInRg (neg : Bool) (ma mb : ME) : ME := fun δ => M.bind (ma δ) fun x => M.bind (mb δ) fun y S => match x, y with
  | .int i, .int n => .ok (.bl (if neg then !decide (0 ≤ i ∧ i < n) else decide (0 ≤ i ∧ i < n))) S
  | _, _ => .bad
def rRg (neg : Bool) : V → V → Hp → VK → Prop := fun x y H Q => ∃ i a lo hi, x = V.int i ∧ y = V.ref a ∧ H a = some (.rng lo hi) ∧ Q (.bl (if neg then !decide (lo ≤ i ∧ i < hi) else decide (lo ≤ i ∧ i < hi))) H
theorem op_rRg (neg : Bool) : OpR X (compareOp (if neg then .NotIn else .In)) (rRg neg) := by
  cases neg with
  | true => exact op_notin_rng
  | false => exact op_in_rng
def tRg (t : TE) : TE := tCB (fun vs H Q => ∃ j, vs = [V.int j] ∧ ∀ p, H p = none → Q (.ref p) (upd H p (.rng 0 j))) (tCons t tNil)
theorem tRg_of {neg : Bool} (σ : L2.St) (H : Hp) (Q : VK) (h : tD X.K Wx (eInRg neg ma mb) σ H Q) : tOp (rRg neg) (tD X.K Wx ma) (tRg (tD X.K Wx mb)) σ H Q := by
  obtain ⟨W, S, δ, g, r, h⟩ := h
  refine ⟨W, S, δ, g, r, (okP.bind (R := Rep X.K) h).imp fun v H1 ⟨W1, S1, d, l1, g1', q1, h1⟩ => ?_⟩
  refine ⟨W1, S1, δ, g1', r.mono l1, (okP.bind (R := Rep X.K) h1).imp fun u H2 ⟨W2, S2, d2, l2, g2', q2, h2⟩ => ?_⟩
  cases q1 with
  | int i =>
    cases q2 with
    | int n => exact ⟨n, rfl, fun p np => ⟨i, p, 0, n, rfl, rfl, upd_same, h2 W2 _ _ W2.le_refl (g2'.skip np) (.bl _)⟩⟩
    | _ => exact h2.elim
  | _ => cases q2 <;> exact h2.elim
section
variable (neg : Bool) {p1 p2 : Pos} (hm : X.mg "range" = none) (ha : SE X Wx a ma) (hb : SE X Wx b mb) (hg : Gl X "range" := by rfl) (hs : starEach [b] X.env = (false, eval b X.env) :: starEach [] X.env := by rfl) (hpl : (backTo p2 (starEach [] X.env)).any (·.1) = false := by rfl)
    (hk : behindInMarks (if neg then .NotIn else .In) (.Call (.Name "range" p1) [b] [] p2) = false := by rfl)
include hm ha hb hg hs hpl hk
theorem nInRg : SE X Wx (.Compare a [if neg then .NotIn else .In] [.Call (.Name "range" p1) [b] [] p2] pos) (eInRg neg ma mb) :=
  PE.imp (pe_cmpR (op_rRg neg) ha (show PE X (.Call (.Name "range" p1) [b] [] p2) (tRg (tD X.K Wx mb)) from pe_callTy cr_range1 hg hm (by decide +kernel) (pa_cons hb pa_nil hs) (he := hs) (hpl := hpl)) hk) tRg_of
theorem nInRgT : ST X Wx (.Compare a [if neg then .NotIn else .In] [.Call (.Name "range" p1) [b] [] p2] pos) (fun δ => asB (eInRg neg ma mb δ)) :=
  PT.imp (pt_cmpR (op_rRg neg) ha (show PE X (.Call (.Name "range" p1) [b] [] p2) (tRg (tD X.K Wx mb)) from pe_callTy cr_range1 hg hm (by decide +kernel) (pa_cons hb pa_nil hs) (he := hs) (hpl := hpl)) hk) fun σ H Q ⟨W, S, δ, g, r, p⟩ => tRg_of σ H _ ⟨W, S, δ, g, r, p.asB⟩
end
end
end Ev
/-! # comprehensions over a list that changes at other times: ints in a cell -/
namespace Ev
open PySem PySem.Spec PySem.SeqAt L2 PyProof.Rows PySem.W
section
variable {X : Cx} {Wx : WX} {K : PySem.W.Frag} {pos : Pos}
def tDRf (K : PySem.W.Frag) (Wx : WX) (m : ME) : TI := fun σ H R => ∃ W S δ, Good K W S H ∧ REnv K W δ σ ∧ okP K (Rep K) W (m δ S) σ Wx (fun v H1 => ∃ a xs, v = V.ref a ∧ SqL K H1 a xs ∧ R (Itl K a) H1)
theorem pi_ref {e tg : Expr} {m : ME} (h : SE X Wx e m) : PI X tg e (tDRf X.K Wx m) := by
  refine ⟨fun pins s σ H R I ⟨W, S, δ, g, r, hp⟩ => ?_⟩
  refine thn (h.run pins s σ H _ I ⟨W, S, δ, g, r, hp⟩) fun v s1 ⟨x, H1, I1, r1, a, xs, ex, hq, q⟩ => ?_
  subst ex
  have fpk : ∀ b ∈ [s1.heap.objs.size], FpOk X pins H1 b := fun b hb => by
    have e : b = s1.heap.objs.size := by simpa using hb
    subst e
    exact I1.fpOk (Nat.le_refl _) (I1.hok.fresh (Nat.le_refl _))
  obtain rfl : v = Value.ref a := r1
  obtain ⟨its, rv, p, hz⟩ := I1.list hq
  exact wpAny_pyIter_list p.isList ⟨s1.heap.objs.size, [s1.heap.objs.size], _, _, H1, rfl, I1.kept (t' := s1.toks) fun b o e => Heap.get?_push_of_some _ e, turn_list a _, ⟨_, Heap.get?_push_size _ rfl, rfl, rfl⟩, fpk, q⟩
theorem ints_reps {W : Wd} : ∀ {ds : List D} {ns : List Int} {vs : List V}, intsOf ds = some ns → Reps K W ds vs → vs = ns.map V.int
  | [], ns, vs, e, r => by
    cases r
    simp [intsOf] at e
    subst e; rfl
  | d :: ds, ns, vs, e, r => by
    cases r with
    | cons q r =>
      cases d with
      | int i =>
        cases h : intsOf ds with
        | none => simp [intsOf, h] at e
        | some ms =>
          simp [intsOf, h] at e
          subst e
          cases q
          rw [ints_reps h r]; rfl
      | _ => simp [intsOf] at e
def chk (u : Nat) (ns : List Int) (S : Store) : Bool := match S[u]? with
  | some (some (.lst ds)) => decide (intsOf ds = some ns)
  | _ => false
def loopCR (u : Nat) (ns : List Int) (up : UpD) (mt : MT) (me : ME) (δ0 : En) : List D → List D → M (List D)
  | [], acc => fun S => if chk u ns S = true then .ok acc S else .bad
  | d :: ds, acc => fun S => if chk u ns S = true then (match up d with
    | none => .bad
    | some us => M.bind (noX (mt (setsD δ0 us))) (fun k => match k with
      | false => loopCR u ns up mt me δ0 ds acc
      | true => M.bind (noX (me (setsD δ0 us))) fun y => if acc.length < sizeLine then loopCR u ns up mt me δ0 ds (acc ++ [y]) else M.bad) S) else .bad
theorem loopCR_chk {u : Nat} {ns : List Int} {up : UpD} {mt : MT} {me : ME} {δ0 : En} {l acc : List D} {S : Store} (h : chk u ns S = false) : loopCR u ns up mt me δ0 l acc S = .bad := by
  cases l <;> simp [loopCR, h]
def eLcR (fin : List D → PO) (mi : ME) (up : UpD) (mt : MT) (me : ME) (vs : List Nat) : ME := fun δ => M.bind (mi δ) fun d S => match d with
  | .ref u => (match S[u]? with
    | some (some (.lst ds)) => (match intsOf ds with
      | some ns => M.bind (loopCR u ns up mt me (wipeD δ vs) (ns.map D.int) []) (fun ys => lft (fin ys)) S
      | none => .bad)
    | _ => .bad)
  | _ => .bad
theorem tLcR_of {mi : ME} {up : UpD} {mt : MT} {me : ME} {vs : List Nat} {fin : List D → PO} (hf : FinOk X.K fin) (hu : ∀ d us, up d = some us → ∀ p ∈ us, p.1 ∈ vs) (σ : L2.St) (H : Hp) (Q : VK) (h : tD X.K Wx (eLcR fin mi up mt me vs) σ H Q) :
    tLc (tDRf X.K Wx mi) (tDU X.K up) (tDT X.K (fun _ _ _ _ => False) mt) (tD X.K (fun _ _ _ _ => False) me) vs σ H Q := by
  obtain ⟨W, S, δ, g, r, p⟩ := h
  refine ⟨W, S, δ, g, r, (okP.bind (R := Rep X.K) p).imp fun v H1 ⟨W1, S1, d, l1, g1, q1, p1⟩ => ?_⟩
  match d, q1, p1 with
  | .ref u, q1, p1 =>
    cases hc : S1[u]? with
    | none => simp only [hc] at p1; exact p1.elim
    | some oc =>
      cases oc with
      | none => simp only [hc] at p1; exact p1.elim
      | some c =>
        cases c with
        | lst ds =>
          simp only [hc] at p1
          cases hn : intsOf ds with
          | none => simp only [hn] at p1; exact p1.elim
          | some ns =>
            simp only [hn] at p1
            obtain ⟨a, c1, c2, c3, c4⟩ := g1.cell u _ hc
            obtain ⟨vs0, hH, rr⟩ := c4
            have ev : vs0 = ns.map V.int := ints_reps hn rr
            subst ev
            have hva : v = V.ref a := by
              cases q1 with
              | ref hm => rw [c1] at hm; cases hm; rfl
            refine ⟨a, ns.map V.int, hva, SqL.of hH, fun Dd nD => ?_⟩
            have pD : W1.P Dd = none := g1.freeP nD
            have guard : ∀ {W2 : Wd} {S2 : Store} {H2 : Hp}, W1.lf W2 → Good X.K W2 S2 H2 → chk u ns S2 = true → SqL X.K H2 a (ns.map V.int) := fun {W2 S2 H2} l2 g2 hk => by
              unfold chk at hk
              cases hc2 : S2[u]? with
              | none => rw [hc2] at hk; cases hk
              | some oc2 =>
                rw [hc2] at hk
                cases oc2 with
                | none => cases hk
                | some c2' =>
                  cases c2' with
                  | lst ds2 =>
                    have hn2 : intsOf ds2 = some ns := of_decide_eq_true hk
                    obtain ⟨a', d1, d2, d3, vs2, hH2, rr2⟩ := g2.cell u _ hc2
                    have := l2.get c1
                    rw [d1] at this; cases this
                    rw [ints_reps hn2 rr2] at hH2
                    exact SqL.of hH2
                  | _ => cases hk
            have w := walk_list (K := X.K) (a := a) (xs := ns.map V.int)
            have okc : ∀ {W2 : Wd} {S2 : Store} {l acc : List D}, okP X.K (Rep X.K) ⟨W2.F, W2.m, W1.P, W2.sf⟩ (M.bind (loopCR u ns up mt me (wipeD δ vs) l acc) (fun ys => lft (fin ys)) S2) σ Wx Q → chk u ns S2 = true := fun {W2 S2 l acc} p => by
              cases hk : chk u ns S2 with
              | true => rfl
              | false =>
                have : M.bind (loopCR u ns up mt me (wipeD δ vs) l acc) (fun ys => lft (fin ys)) S2 = .bad := by simp only [M.bind, loopCR_chk hk]
                rw [this] at p; exact p.elim
            refine lc_it w (fun i H2 => ∃ W2 S2 acc vacc, W1.lf W2 ∧ W2.P = upd W1.P Dd (.lst vacc) ∧ Good X.K W2 S2 H2 ∧ Reps X.K W2 acc vacc ∧
              okP X.K (Rep X.K) ⟨W2.F, W2.m, W1.P, W2.sf⟩ (M.bind (loopCR u ns up mt me (wipeD δ vs) ((ns.map D.int).drop i) acc) (fun ys => lft (fin ys)) S2) σ Wx Q) ?_ ?_ ?_ ?_
            · exact ⟨W1.prv Dd (.lst []), S1, [], [], W1.prv_lf _ _, rfl, g1.newPrv nD, .nil, p1⟩
            · rintro i H2 _ ⟨W2, S2, acc, vacc, l2, _, g2, _, p2⟩
              exact guard l2 g2 (okc p2)
            · rintro i x H2 H3 hi ⟨W2, S2, acc, vacc, l2, e2, g2, ra, p2⟩ y
              have hi' : i < ns.length := by simpa using hi
              obtain ⟨rfl, hx⟩ : H3 = H2 ∧ x = V.int ns[i] := by
                obtain ⟨y1, y2⟩ := y
                simp [hi'] at y1 y2
                first | exact ⟨y1, y2.symm⟩ | exact ⟨y2, y1.symm⟩ | exact ⟨y1, y2⟩ | exact ⟨y2, y1⟩
              subst hx
              have hk := okc p2
              rw [List.drop_eq_getElem_cons (show i < (ns.map D.int).length by simpa using hi')] at p2
              rw [List.getElem_map] at p2
              refine ⟨W2, S2, .int ns[i], g2, .int _, ?_⟩
              have e0 : loopCR u ns up mt me (wipeD δ vs) (.int ns[i] :: (ns.map D.int).drop (i + 1)) acc S2 = (match up (.int ns[i]) with
                | none => .bad
                | some us => M.bind (noX (mt (setsD (wipeD δ vs) us))) (fun k => match k with
                  | false => loopCR u ns up mt me (wipeD δ vs) ((ns.map D.int).drop (i + 1)) acc
                  | true => M.bind (noX (me (setsD (wipeD δ vs) us))) fun y => if acc.length < sizeLine then loopCR u ns up mt me (wipeD δ vs) ((ns.map D.int).drop (i + 1)) (acc ++ [y]) else M.bad) S2) := by
                simp only [loopCR, hk, if_true]
              cases e1 : up (.int ns[i]) with
              | none =>
                rw [e1] at e0
                simp only [M.bind, e0] at p2
                exact p2.elim
              | some us =>
                rw [e1] at e0
                have p2' : okP X.K (Rep X.K) ⟨W2.F, W2.m, W1.P, W2.sf⟩ (M.bind (M.bind (noX (mt (setsD (wipeD δ vs) us))) (fun k => match k with
                  | false => loopCR u ns up mt me (wipeD δ vs) ((ns.map D.int).drop (i + 1)) acc
                  | true => M.bind (noX (me (setsD (wipeD δ vs) us))) fun y => if acc.length < sizeLine then loopCR u ns up mt me (wipeD δ vs) ((ns.map D.int).drop (i + 1)) (acc ++ [y]) else M.bad)) (fun ys => lft (fin ys)) S2) σ Wx Q := by
                  unfold M.bind at p2
                  rw [e0] at p2
                  exact p2
                intro us' k1 r1
                have hus : ∀ p ∈ us', p.1 ∈ vs := fun p hp => by
                  have : p.1 ∈ us'.map (·.1) := List.mem_map_of_mem hp
                  rw [k1] at this
                  obtain ⟨q, hq, eq⟩ := List.mem_map.mp this
                  rw [← eq]
                  exact hu _ _ e1 q hq
                refine ⟨by rw [wipe_sets hus, wipe_wipe], ?_⟩
                have rE : REnv X.K W2 (setsD (wipeD δ vs) us) (setsV (wipe σ vs) us') := ((r.mono (l1.toLf.trans l2)).wipe vs).sets k1 r1
                have p3 := okP.assoc p2'
                refine ⟨W2, S2, setsD (wipeD δ vs) us, g2, rE, (okP.bindN p3 W2 _ _).imp fun k H4 ⟨W4, S4, k', l4, g4, ek, p4⟩ => ?_⟩
                subst ek
                cases k' with
                | false =>
                  rw [if_neg Bool.false_ne_true]
                  refine ⟨W4, S4, acc, vacc, l2.trans l4, by rw [l4.pp, e2], g4, ra.mono l4, ?_⟩
                  exact okP.mono (W := ⟨W2.F, W2.m, W1.P, W2.sf⟩) ⟨⟨l4.f, l4.sq, l4.mm⟩, rfl⟩ p4
                | true =>
                  rw [if_pos rfl]
                  have p5 := okP.assoc p4
                  refine ⟨W4, S4, setsD (wipeD δ vs) us, g4, rE.mono l4, (okP.bindN p5 W4 _ _).imp fun yv H5 ⟨W5, S5, y5, l5, g5, r5, p6⟩ => ?_⟩
                  have eP : W5.P = upd W1.P Dd (.lst vacc) := by rw [l5.pp, l4.pp, e2]
                  have hD : W5.P Dd = some (.lst vacc) := by rw [eP, upd_same]
                  have l35 := l4.trans l5
                  by_cases hz : acc.length < sizeLine
                  · rw [if_pos hz] at p6
                    refine ⟨vacc, (g5.prv Dd _ hD).1, by rw [← ra.length]; exact hz, W5.prv Dd (.lst (vacc ++ [yv])), S5, acc ++ [y5], vacc ++ [yv], l2.trans (l35.toLf.trans (W5.prv_lf _ _)), by show upd W5.P Dd _ = _; rw [eP, upd_upd], g5.updPrv hD, ?_, ?_⟩
                    · exact ((ra.mono l35).append (.cons r5 .nil)).mono (W5.prv_lf _ _)
                    · exact okP.mono (W := ⟨W2.F, W2.m, W1.P, W2.sf⟩) ⟨⟨l35.f, l35.sq, l35.mm⟩, rfl⟩ p6
                  · rw [if_neg hz] at p6; exact p6.elim
            · rintro H2 ⟨W2, S2, acc, vacc, l2, e2, g2, ra, p2⟩
              have hk := okc p2
              rw [List.length_map] at p2
              rw [show (ns.map D.int).drop ns.length = [] by rw [List.drop_eq_nil_of_le (by simp)]] at p2
              have p3 : okP X.K (Rep X.K) ⟨W2.F, W2.m, W1.P, W2.sf⟩ (lft (fin acc) S2) σ Wx Q := by
                have : M.bind (loopCR u ns up mt me (wipeD δ vs) [] acc) (fun ys => lft (fin ys)) S2 = lft (fin acc) S2 := by simp only [M.bind, loopCR, hk, if_true]
                rw [this] at p2; exact p2
              exact hf W2 S2 H2 Dd W1.P acc vacc Q g2 e2 pD ra (okP.lft p3)
        | _ => simp only [hc] at p1; exact p1.elim
theorem se_lcR {elt tg iter : Expr} {ifs : List Expr} {scope : Scope} {own : List (Str × Nat)} {mi : ME} {up : UpD} {mt : MT} {me : ME} {fin : List D → PO} (hf : FinOk X.K fin) (hu : ∀ d us, up d = some us → ∀ p ∈ us, p.1 ∈ own.map (·.2))
    (hc : X.calm = true) (hN : X.N.Nodup) (hi : SE X Wx iter mi) (ok : BlkOk X.N X.env.scope scope own)
    (hg : ∀ (s : Shared) (H : Hp) (C : Addr) (cl : List (Str × Addr)) (fp : List Addr), PG (X.blk s H scope (compEnvC scope cl C X.env) fp) tg (tDU X.K up)) (ht : ∀ (s : Shared) (H : Hp) (C : Addr) (cl : List (Str × Addr)) (fp : List Addr), PTs (X.blk s H scope (compEnvC scope cl C X.env) fp) ifs (tDT X.K (fun _ _ _ _ => False) mt))
    (he : ∀ (s : Shared) (H : Hp) (C : Addr) (cl : List (Str × Addr)) (fp : List Addr), SE (X.blk s H scope (compEnvC scope cl C X.env) fp) (fun _ _ _ _ => False) elt me) (hs : ∀ x, foldedSetIterable iter X.env x = pure x) :
    SE X Wx (.ListComp elt [⟨tg, iter, ifs, 0⟩] scope pos) (eLcR fin mi up mt me (own.map (·.2))) :=
  PE.imp (pe_lc hc hN (pi_ref hi) ok hg ht he hs) (tLcR_of hf hu)
theorem nLcR {k : Nat} {elt tg iter : Expr} {ifs : List Expr} {scope : Scope} (own : List (Str × Nat)) {mi : ME} {up : UpD} {mt : MT} {me : ME} {fin : List D → PO} (C : Ct X Wx k) (hf : FinOk X.K fin) (hN : X.N.Nodup) (hi : SE X Wx iter mi) (ok : BlkOk X.N X.env.scope scope own)
    (hg : ∀ (s : Shared) (H : Hp) (C : Addr) (cl : List (Str × Addr)) (fp : List Addr), PG (X.blk s H scope (compEnvC scope cl C X.env) fp) tg (tDU X.K up)) (ht : ∀ (s : Shared) (H : Hp) (C : Addr) (cl : List (Str × Addr)) (fp : List Addr), PTs (X.blk s H scope (compEnvC scope cl C X.env) fp) ifs (tDT X.K (fun _ _ _ _ => False) mt))
    (he : ∀ (s : Shared) (H : Hp) (C : Addr) (cl : List (Str × Addr)) (fp : List Addr), SE (X.blk s H scope (compEnvC scope cl C X.env) fp) (fun _ _ _ _ => False) elt me) (hu : ∀ d us, up d = some us → ∀ p ∈ us, p.1 ∈ own.map (·.2)) (hs : ∀ x, foldedSetIterable iter X.env x = pure x := by intro _; rfl) :
    SE X Wx (.ListComp elt [⟨tg, iter, ifs, 0⟩] scope pos) (eLcR fin mi up mt me (own.map (·.2))) := se_lcR hf hu C.calm hN hi ok hg ht he hs
end
end Ev
namespace Bd
open PySem L2 Ev
def ok_bool (c : Str) : Bool := c == "Table"
def strT (cal : Nat → List D → M D) (c : Str) : Option (List D → M D) := if c = "Table" then some (cal 6) else none
def ok_width (c : Str) : Bool := c == "Table"
def ok_height (c : Str) : Bool := c == "Table"
def ok_rows (c : Str) : Bool := c == "Table"
def ok_text (c : Str) : Bool := c == "Table"
def isi : List (Ty × Ty × Bool) := [(.blt "NoneType", .blt "str", false), (.blt "NoneType", .blt "tuple", false), (.blt "NoneType", .blt "int", false), (.blt "NoneType", .blt "list", false), (.blt "NoneType", .blt "bool", false), (.blt "bool", .blt "str", false), (.blt "bool", .blt "tuple", false), (.blt "bool", .blt "int", true), (.blt "bool", .blt "list", false), (.blt "bool", .blt "bool", true), (.blt "int", .blt "str", false), (.blt "int", .blt "tuple", false), (.blt "int", .blt "int", true), (.blt "int", .blt "list", false), (.blt "int", .blt "bool", false), (.blt "str", .blt "str", true), (.blt "str", .blt "tuple", false), (.blt "str", .blt "int", false), (.blt "str", .blt "list", false), (.blt "str", .blt "bool", false), (.blt "tuple", .blt "str", false), (.blt "tuple", .blt "tuple", true), (.blt "tuple", .blt "int", false), (.blt "tuple", .blt "list", false), (.blt "tuple", .blt "bool", false), (.blt "list", .blt "str", false), (.blt "list", .blt "tuple", false), (.blt "list", .blt "int", false), (.blt "list", .blt "list", true), (.blt "list", .blt "bool", false), (.blt "NoneType", .own "Table", false), (.blt "bool", .own "Table", false), (.blt "int", .own "Table", false), (.blt "str", .own "Table", false), (.blt "tuple", .own "Table", false), (.blt "list", .own "Table", false), (.own "Table", .blt "str", false), (.own "Table", .blt "tuple", false), (.own "Table", .blt "int", false), (.own "Table", .blt "list", false), (.own "Table", .blt "bool", false), (.own "Table", .own "Table", true)]
def b_law (cal : Nat → List D → M D) : MS :=
    (sSeq (sAsg (eLst aNil) (gNm 1))
    (sSeq (sFor (iR1 (aCons (eCallV (pMax) (aCons (eC (.int 2)) (aCons (eCallV (pMin) (aCons (eCallV (pLen) (aCons (eVar 0) aNil)) (aCons (eC (.int 6)) aNil))) aNil))) aNil)) (gNm 2) (sSeq (sAsg (eCal (cal 5) (aCons (eVar 0) (aCons (eVar 2) aNil))) (gNm 3))
    (sFor (iR1 (aCons (eC (.int 4)) aNil)) (gNm 4) (sSeq (sAsg (eCal (cal 4) (aCons (eVar 3) (aCons (eOp pAdd (eC (.int 1)) (eCal (cal 3) (aCons (eVar 3) (aCons (eC (.int 8)) aNil)))) (aCons (eOp pAdd (eC (.int 1)) (eCal (cal 3) (aCons (eVar 3) (aCons (eC (.int 8)) aNil)))) aNil)))) (gNm 5))
    (sSeq (sAsg (eCal (cal 2) (aCons (eVar 5) aNil)) (gNm 6))
    (sSeq (sAsg (eLst (aCons (eVar 6) (aCons (eCallV pTuple (aCons (eLc newL (iAny (eVar 5)) (uNm 8) tYesM (eCallV pTuple (aCons (eVar 8) aNil)) [8]) aNil)) (aCons (eCallV (pLen) (aCons (eVar 5) aNil)) (aCons (eCallV (pLen) (aCons (eOp pIx (eVar 5) (eC (.int 0))) aNil)) aNil))))) (gNm 7))
    (sSeq (sAsg (eOp pAdd (eVar 7) (eLst (aCons (eVar 6) (aCons (eC (.bl true)) aNil)))) (gNm 7))
    (sAsg (eOp pAdd (eVar 1) (eLst (aCons (eTup (aCons (eCal (cal 1) (aCons (eVar 6) aNil)) (aCons (eVar 7) aNil))) (aCons (eTup (aCons (eCal (cal 1) (aCons (eVar 6) aNil)) (aCons (eVar 7) aNil))) aNil)))) (gNm 1)))))))))
    (sSeq (sFor (iAny (eOp pAdd (eVar 1) (eRev (eVar 1)))) (gTp 2 (gCs (gNm 9) (gCs (gNm 7) gNl))) (sIf (fun δ => asB (eOp pNe (eCallV (pRepr) (aCons (eCal (cal 0) (aCons (eVar 9) aNil)) aNil)) (eCallV (pRepr) (aCons (eVar 7) aNil)) δ)) (sRet (eC (.bl false))) sNext))
    (sRet (eC (.bl true))))))
def b__law_told (cal : Nat → List D → M D) : MS :=
    (sRet (eLst (aCons (eFld ok_text "text" (eVar 0)) (aCons (eFld ok_rows "rows" (eVar 0)) (aCons (eFld ok_height "height" (eVar 0)) (aCons (eFld ok_width "width" (eVar 0)) (aCons (eCallV (pStrI (strT cal)) (aCons (eVar 0) aNil)) (aCons (eCallV (pBool ok_bool) (aCons (eVar 0) aNil)) aNil))))))))
def b_Table (cal : Nat → List D → M D) : MI :=
    (iOrd (sAsg (eCal (cal 7) (aCons (eVar 1) aNil)) (gNm 2))
    (iOrd (sIf (fun δ => asB (eOp pIs (eVar 2) (eC .non) δ)) (fun _ _ => .bad) sNext)
    (iSets (eTup (aCons (eVar 1) (aCons (eVar 2) aNil))) ["text", "rows"]
    (iSets (eTup (aCons (eCallV (pLen) (aCons (eVar 2) aNil)) (aCons (eCallV (pLen) (aCons (eOp pIx (eVar 2) (eC (.int 0))) aNil)) aNil))) ["height", "width"]
    iEnd))))
def b__law_text (cal : Nat → List D → M D) : MS :=
    (sRet (eMB "str" pJoin (eC (.str "\n")) (aCons (eLc newL (iAny (eVar 0)) (uNm 2) tYesM (eMB "str" pJoin (eC (.str "")) (aCons (eLc newL (iAny (eVar 2)) (uNm 1) tYesM (eCallV (pStrI (strT cal)) (aCons (eVar 1) aNil)) [1]) aNil)) [2]) aNil)))
def b__law_rows (cal : Nat → List D → M D) : MS :=
    (sSeq (sAsg (eOp pAdd (eC (.int 1)) (eCal (cal 3) (aCons (eVar 0) (aCons (eC (.int 3)) aNil)))) (gNm 3))
    (sSeq (sAsg (eLc newL (iR1 (aCons (eVar 1) aNil)) (uNm 6) tYesM (eLc newL (iR1 (aCons (eVar 2) aNil)) (uNm 5) tYesM (eCallV pInt (aCons (eOp pLt (eCal (cal 3) (aCons (eVar 0) (aCons (eC (.int 4)) aNil))) (eVar 3)) aNil)) [5]) [6]) (gNm 4))
    (sRet (eCal (cal 8) (aCons (eVar 0) (aCons (eVar 4) aNil))))))
def b__law_take (cal : Nat → List D → M D) : MS :=
    (sSeq (sIf (fun δ => asB (eOp pGt (eOp pIx (eVar 0) (eC (.int 0))) (eC (.int 0)) δ)) (sSeq (sAsg (eCallV (pDivmod) (aCons (eOp pIx (eVar 0) (eC (.int 0))) (aCons (eVar 1) aNil))) (gTp 2 (gCs (gSb pStore (eVar 0) (eC (.int 0))) (gCs (gNm 2) gNl))))
    (sRet (eVar 2))) sNext)
    (sSeq (sAsg (eOp pAdd (eOp pIx (eVar 0) (eC (.int 2))) (eC (.int 1))) (gSb pStore (eVar 0) (eC (.int 2))))
    (sSeq (sAsg (eOp pMod (eCallV pInt (aCons (eOp pAdd (eOp pAdd (eOp pMul (eOp pIx (eVar 0) (eC (.int 1))) (eOp pAdd (eOp pMod (eCallV pInt (aCons (eOp pFdiv (eOp pIx (eVar 0) (eC (.int 1))) (eC (.int 64))) aNil)) (eC (.int 26003))) (eC (.int 23)))) (eOp pMul (eC (.int 18013)) (eOp pIx (eVar 0) (eC (.int 2))))) (eC (.int 11))) aNil)) (eC (.int 2147483323))) (gSb pStore (eVar 0) (eC (.int 1))))
    (sRet (eOp pMod (eCallV pInt (aCons (eOp pFdiv (eOp pIx (eVar 0) (eC (.int 1))) (eC (.int 1024))) aNil)) (eVar 1))))))
def b__law_tray (cal : Nat → List D → M D) : MS :=
    (sSeq (sPar2 2 3 (aCons (eIf (fun δ => asB (eOp pLt (eVar 1) (eCallV (pLen) (aCons (eVar 0) aNil)) δ)) (eOp pIx (eVar 0) (eVar 1)) (eC (.int 0))) (aCons (eOp pAdd (eC (.int 173205)) (eOp pMul (eC (.int 80021)) (eVar 1))) aNil)))
    (sSeq (sFor (iR1 (aCons (eCallV (pMin) (aCons (eCallV (pLen) (aCons (eVar 0) aNil)) (aCons (eC (.int 9)) aNil))) aNil)) (gNm 4) (sAsg (eOp pMod (eCallV pInt (aCons (eOp pAdd (eOp pAdd (eOp pMul (eVar 3) (eOp pAdd (eC (.int 30011)) (eOp pMul (eC (.int 2)) (eVar 4)))) (eOp pMul (eC (.int 13)) (eOp pIx (eVar 0) (eVar 4)))) (eC (.int 8009))) aNil)) (eC (.int 2147483323))) (gNm 3)))
    (sRet (eLstC (aCons (eIf (tOrM (fun δ => asB (eOp pLt (eVar 2) (eC (.int 0)) δ)) (fun δ => asB (eOp pGe (eVar 2) (eOp pPow (eC (.int 10)) (eC (.int 18))) δ))) (eCallV (pAbs) (aCons (eVar 2) aNil)) (eC (.int 0))) (aCons (eOp pMod (eCallV pInt (aCons (eOp pAdd (eOp pMul (eVar 3) (eC (.int 5))) (eOp pMul (eVar 2) (eC (.int 6007)))) aNil)) (eC (.int 2147483323))) (aCons (eC (.int 3)) aNil)))))))
def b_Table___str__ (cal : Nat → List D → M D) : MS :=
    (sRet (eCallV (pStrI (strT cal)) (aCons (eFld ok_text "text" (eVar 0)) aNil)))
def b_read_rows (cal : Nat → List D → M D) : MS :=
    (sSeq (sIf (tNotM (fun δ => tru ((eIsi (isiT isi) (.blt "str") (eVar 0)) δ))) (sRet (eC .non)) sNext)
    (sSeq (sAsg (eMB "str" pSplit (eVar 0) (aCons (eC (.str "\n")) aNil)) (gNm 1))
    (sSeq (sIf (tOrM (fun δ => asB (eOp pGt (eCallV (pLen) (aCons (eVar 1) aNil)) (eC (.int 8)) δ)) (tNotM (fun δ => asB ((eChain pLe pLe (eC (.int 1)) (eCallV (pLen) (aCons (eOp pIx (eVar 1) (eC (.int 0))) aNil)) (eC (.int 8))) δ)))) (sRet (eC .non)) sNext)
    (sSeq (sIf (tNotM (fun δ => tru ((eCallV (pAll true) (aCons (eLc newL (iAny (eVar 1)) (uNm 3) tYesM (eAnd (eOp pEq (eCallV (pLen) (aCons (eVar 3) aNil)) (eCallV (pLen) (aCons (eOp pIx (eVar 1) (eC (.int 0))) aNil))) (eCallV (pAll true) (aCons (eLc newL (iAny (eVar 3)) (uNm 2) tYesM (eOp pIn (eVar 2) (eC (.str "01"))) [2]) aNil))) [3]) aNil)) δ))) (sRet (eC .non)) sNext)
    (sSeq (sAsg (eCallV pTuple (aCons (eLc newL (iAny (eVar 1)) (uNm 3) tYesM (eCallV pTuple (aCons (eLc newL (iAny (eVar 3)) (uNm 2) tYesM (eCallV pInt (aCons (eVar 2) aNil)) [2]) aNil)) [3]) aNil)) (gNm 4))
    (sRet (eIf (fun δ => tru ((eCal (cal 9) (aCons (eVar 4) aNil)) δ)) (eVar 4) (eC .non))))))))
def b__law_filled (cal : Nat → List D → M D) : MS :=
    (sSeq (sAsg (eLc newL (iAny (eVar 1)) (uNm 3) tYesM (eCallV (pList newC) (aCons (eVar 3) aNil)) [3]) (gNm 2))
    (sSeq (sFor (iAny (eVar 2)) (gNm 3) (sIf (fun δ => asB (eOp pNotIn (eC (.int 1)) (eVar 3) δ)) (sAsg (eC (.int 1)) (gSb pStore (eVar 3) (eCal (cal 3) (aCons (eVar 0) (aCons (eCallV (pLen) (aCons (eVar 3) aNil)) aNil))))) sNext))
    (sSeq (sFor (iR1 (aCons (eCallV (pLen) (aCons (eOp pIx (eVar 2) (eC (.int 0))) aNil)) aNil)) (gNm 4) (sIf (fun δ => asB (eOp pEq (eLc newL (iAny (eVar 2)) (uNm 3) (fun δ => asB (eOp pEq (eOp pIx (eVar 3) (eVar 4)) (eC (.int 1)) δ)) (eVar 3) [3]) (eLst aNil) δ)) (sAsg (eC (.int 1)) (gSb pStore (eOp pIx (eVar 2) (eCal (cal 3) (aCons (eVar 0) (aCons (eCallV (pLen) (aCons (eVar 2) aNil)) aNil)))) (eVar 4))) sNext))
    (sRet (eFrz (eVar 2))))))
def b_is_full (cal : Nat → List D → M D) : MS :=
    (sRet (eAnd (eOp pGt (eCallV (pLen) (aCons (eVar 0) aNil)) (eC (.int 0))) (eAnd (eCallV (pAll true) (aCons (eLc newL (iAny (eVar 0)) (uNm 1) tYesM (eOp pIn (eC (.int 1)) (eVar 1)) [1]) aNil)) (eCallV (pAll true) (aCons (eLc newL (iZip (aStar (eVar 0) aNil)) (uNm 2) tYesM (eOp pIn (eC (.int 1)) (eVar 2)) [2]) aNil)))))
end Bd
namespace Bd
open PySem L2 Ev
def b_law_v3 (cal : Nat → List D → M D) : MS :=
    (sRet (eCallV (pAll true) (aCons (eLc newL (iR1 (aCons (eC (.int 3)) aNil)) (uNm 1) tYesM (eCal (cal 45) (aCons (eCal (cal 44) (aCons (eVar 0) (aCons (eVar 1) aNil))) aNil)) [1]) aNil)))
def b__law_right_v2 (cal : Nat → List D → M D) : MS :=
    (sSeq (sFor (iR1 (aCons (eC (.int 4)) aNil)) (gNm 1) (sSeq (sAsg (eCal (cal 51) (aCons (eVar 0) (aCons (eC (.int 7)) aNil))) (gNm 2))
    (sSeq (sIf (tNotM (fun δ => tru ((eCal (cal 50) (aCons (eVar 2) aNil)) δ))) sCnt sNext)
    (sSeq (sPar2 3 4 (aCons (eCal (cal 1) (aCons (eCal (cal 2) (aCons (eVar 2) aNil)) aNil)) (aCons (eCallV pTuple (aCons (eCal (cal 49) (aCons (eVar 2) aNil)) aNil)) aNil)))
    (sSeq (sIf (fun δ => asB (eOp pNe (eCallV (pRepr) (aCons (eLst (aCons (eCal (cal 48) (aCons (eVar 3) aNil)) (aCons (eCal (cal 48) (aCons (eVar 3) aNil)) aNil))) aNil)) (eCallV (pRepr) (aCons (eLst (aCons (eVar 4) (aCons (eVar 4) aNil))) aNil)) δ)) (sRet (eC (.bl false))) sNext)
    (sSeq (sAsg (eLst (aCons (eCal (cal 47) (aCons (eVar 3) aNil)) (aCons (eCal (cal 47) (aCons (eVar 3) aNil)) (aCons (eCal (cal 46) (aCons (eVar 3) aNil)) (aCons (eCal (cal 46) (aCons (eVar 3) aNil)) aNil))))) (gNm 5))
    (sSeq (sAsg (eIf (fun δ => asB (eOp pEq (eVar 4) (eTup aNil) δ)) (eC .non) (eOp pIx (eVar 4) (eC (.int 0)))) (gNm 6))
    (sIf (fun δ => asB (eOp pNe (eCallV (pRepr) (aCons (eVar 5) aNil)) (eCallV (pRepr) (aCons (eLst (aCons (eOp pEq (eVar 4) (eTup aNil)) (aCons (eOp pEq (eVar 4) (eTup aNil)) (aCons (eVar 6) (aCons (eVar 6) aNil))))) aNil)) δ)) (sRet (eC (.bl false))) sNext))))))))
    (sRet (eC (.bl true))))
def b__law_reed (cal : Nat → List D → M D) : MS :=
    (sSeq (sAsg (eOp pAdd (eC (.int 90011)) (eOp pMul (eC (.int 4219)) (eVar 1))) (gNm 2))
    (sSeq (sFor (iAny (eCut (eVar 0) none (some (eC (.int 4))))) (gNm 3) (sAsg (eOp pMod (eCallV pInt (aCons (eOp pAdd (eOp pAdd (eOp pMul (eVar 2) (eC (.int 38393))) (eVar 3)) (eC (.int 311))) aNil)) (eC (.int 2147482277))) (gNm 2)))
    (sSeq (sAsg (eIf (fun δ => asB (eOp pLt (eVar 1) (eCallV (pLen) (aCons (eVar 0) aNil)) δ)) (eOp pIx (eVar 0) (eVar 1)) (eC (.int 0))) (gNm 4))
    (sRet (eLstC (aCons (eOp pMod (eCallV pInt (aCons (eOp pAdd (eOp pMul (eVar 2) (eC (.int 71))) (eVar 4)) aNil)) (eC (.int 2147482277))) (aCons (eIf (fun δ => asB (eOp pGe (eCallV (pAbs) (aCons (eVar 4) aNil)) (eOp pPow (eC (.int 10)) (eC (.int 18))) δ)) (eCallV (pAbs) (aCons (eVar 4) aNil)) (eC (.int 0))) aNil)))))))
def b_first_ring (cal : Nat → List D → M D) : MS :=
    (sSeq (sExpr (eCal (cal 23) (aCons (eVar 0) aNil)))
    (sRet (eCal (cal 52) (aCons (eFld ok_rows "rows" (eVar 0)) aNil))))
def b_is_even (cal : Nat → List D → M D) : MS :=
    (sSeq (sExpr (eCal (cal 23) (aCons (eVar 0) aNil)))
    (sRet (eNot (eCal (cal 53) (aCons (eFld ok_rows "rows" (eVar 0)) aNil)))))
def b_odd_rings (cal : Nat → List D → M D) : MS :=
    (sSeq (sExpr (eCal (cal 23) (aCons (eVar 0) aNil)))
    (sRet (eCallV pTuple (aCons (eCal (cal 53) (aCons (eFld ok_rows "rows" (eVar 0)) aNil)) aNil))))
def b__law_rings (cal : Nat → List D → M D) : MS :=
    (sSeq (sAsg (eLstC aNil) (gNm 1))
    (sSeq (sFor (iAny (eLst (aCons (eC (.int 3)) (aCons (eC (.int 5)) (aCons (eC (.int 7)) aNil))))) (gNm 2) (sFor (iAny (eCal (cal 54) (aCons (eCallV (pLen) (aCons (eVar 0) aNil)) (aCons (eVar 2) aNil)))) (gNm 3) (sSeq (sAsg (eCal (cal 56) (aCons (eVar 0) (aCons (eVar 3) (aCons (eVar 2) aNil)))) (gNm 4))
    (sFor (iAny (eCal (cal 54) (aCons (eCallV (pLen) (aCons (eVar 4) aNil)) (aCons (eVar 2) aNil)))) (gNm 5) (sSeq (sAsg (eCallV pTuple (aCons (eLc newL (iAny (eVar 5)) (uNm 7) tYesM (eOp pIx (eVar 4) (eVar 7)) [7]) aNil)) (gNm 6))
    (sSeq (sAsg (eLc newL (iAny (eVar 3)) (uNm 9) tYesM (eCallV (pSum) (aCons (eLc newL (iAny (eVar 6)) (uNm 7) tYesM (eOp pIx (eOp pIx (eVar 0) (eVar 9)) (eVar 7)) [7]) aNil)) [9]) (gNm 8))
    (sIf (tAndM (fun δ => asB (eOp pEq (eVar 8) (eOp pMul (eLst (aCons (eC (.int 2)) aNil)) (eVar 2)) δ)) (fun δ => tru ((eCal (cal 55) (aCons (eVar 0) (aCons (eVar 3) (aCons (eVar 6) aNil)))) δ))) (sExpr (eMB "list" pAppend (eVar 1) (aCons (eTup (aCons (eVar 3) (aCons (eVar 6) aNil))) aNil))) sNext)))))))
    (sRet (eFrz (eVar 1)))))
def b__law_full (cal : Nat → List D → M D) : MS :=
    (sRet (eAnd (eOp pNotIn (eC (.int 0)) (eLc newL (iAny (eVar 0)) (uNm 1) tYesM (eCallV (pMax) (aCons (eVar 1) aNil)) [1])) (eOp pNotIn (eC (.int 0)) (eLc newL (iAny (eCal (cal 36) (aCons (eVar 0) aNil))) (uNm 1) tYesM (eCallV (pMax) (aCons (eVar 1) aNil)) [1]))))
def b__law_grid_v2 (cal : Nat → List D → M D) : MS :=
    (sSeq (sPar3 2 3 4 (aCons (eOp pAdd (eC (.int 1)) (eCal (cal 60) (aCons (eVar 0) (aCons (eVar 1) aNil)))) (aCons (eOp pAdd (eC (.int 1)) (eCal (cal 60) (aCons (eVar 0) (aCons (eVar 1) aNil)))) (aCons (eCal (cal 60) (aCons (eVar 0) (aCons (eC (.int 4)) aNil))) aNil))))
    (sSeq (sIf (fun δ => asB (eOp pEq (eVar 4) (eC (.int 0)) δ)) (sRet (eCal (cal 59) (aCons (eVar 0) (aCons (eVar 1) aNil)))) sNext)
    (sSeq (sAsg (eIf (tAndM (fun δ => asB (eOp pEq (eVar 4) (eC (.int 3)) δ)) (fun δ => asB (eOp pGt (eCallV (pMin) (aCons (eVar 2) (aCons (eVar 3) aNil))) (eC (.int 4)) δ))) (eC (.int 5)) (eC (.int 3))) (gNm 5))
    (sRet (eIf (tAndM (fun δ => asB (eOp pGt (eVar 4) (eC (.int 1)) δ)) (fun δ => asB (eOp pGt (eCallV (pMin) (aCons (eVar 2) (aCons (eVar 3) aNil))) (eC (.int 2)) δ))) (eCal (cal 57) (aCons (eVar 0) (aCons (eVar 2) (aCons (eVar 3) (aCons (eVar 5) aNil))))) (eFrz (eCal (cal 58) (aCons (eVar 0) (aCons (eVar 2) (aCons (eVar 3) aNil))))))))))
def b_first_of (cal : Nat → List D → M D) : MS :=
    (sSeq (sAsg (eCal (cal 53) (aCons (eVar 0) aNil)) (gNm 1))
    (sRet (eIf (fun δ => tru ((eVar 1) δ)) (eOp pIx (eVar 1) (eC (.int 0))) (eC .non))))
def b_rings_of (cal : Nat → List D → M D) : MS :=
    (sSeq (sAsg (eTup (aCons (eCallV (pLen) (aCons (eVar 0) aNil)) (aCons (eCal (cal 63) (aCons (eVar 0) aNil)) (aCons eDT aNil)))) (gTp 3 (gCs (gNm 1) (gCs (gNm 2) (gCs (gNm 3) gNl)))))
    (sSeq (sFor (iR1 (aCons (eVar 1) aNil)) (gNm 4) (sExpr (eCal (cal 62) (aCons (eVar 2) (aCons (eLst (aCons (eVar 4) aNil)) (aCons (eVar 3) aNil))))))
    (sSeq (sAsg (eLstC aNil) (gNm 5))
    (sSeq (sFor (iKeysV 3) (gNm 6) (sSeq (sAsg (eOp pFdiv (eCallV (pLen) (aCons (eVar 6) aNil)) (eC (.int 2))) (gNm 7))
    (sIf (tAndM (fun δ => asB (eOp pGt (eVar 7) (eC (.int 2)) δ)) (fun δ => asB (eOp pEq (eOp pMod (eCallV pInt (aCons (eVar 7) aNil)) (eC (.int 2))) (eC (.int 1)) δ))) (sExpr (eMB "list" pAppend (eVar 5) (aCons (eTup (aCons (eCut (eVar 6) none (some (eVar 7))) (aCons (eCallV pTuple (aCons (eLc newL (iAny (eCut (eVar 6) (some (eVar 7)) none)) (uNm 8) tYesM (eOp pSub (eVar 8) (eVar 1)) [8]) aNil)) aNil))) aNil))) sNext)))
    (sRet (eSortK (cal 61) (eVar 5)))))))
def b__law_some (cal : Nat → List D → M D) : MS :=
    (sSeq (sAsg (eLst (aCons (eTup aNil) aNil)) (gNm 2))
    (sSeq (sFor (iR1 (aCons (eVar 1) aNil)) (gNm 3) (sSeq (sAsg (eLst aNil) (gNm 4))
    (sSeq (sFor (iAny (eVar 2)) (gNm 5) (sAsg (eOp pAdd (eVar 4) (eLc newL (iR1 (aCons (eVar 0) aNil)) (uNm 6) (tOrM (fun δ => asB (eOp pEq (eVar 5) (eTup aNil) δ)) (fun δ => asB (eOp pGt (eVar 6) (eOp pIx (eVar 5) (eUn pNeg (eC (.int 1)))) δ))) (eOp pAdd (eVar 5) (eTup (aCons (eVar 6) aNil))) [6])) (gNm 4)))
    (sAsg (eVar 4) (gNm 2)))))
    (sRet (eVar 2))))
def b__law_one_ring (cal : Nat → List D → M D) : MS :=
    (sSeq (sAsg (eLstC (aCons (eOp pIx (eVar 1) (eC (.int 0))) aNil)) (gNm 3))
    (sSeq (sFor (iR1 (aCons (eCallV (pLen) (aCons (eVar 1) aNil)) aNil)) (gNm 4) (sFor (iAny (eVar 1)) (gNm 5) (sSeq (sAsg (eLc newL (iAny (eVar 2)) (uNm 7) (tAndM (fun δ => asB (eOp pEq (eOp pIx (eOp pIx (eVar 0) (eVar 5)) (eVar 7)) (eC (.int 1)) δ)) (fun δ => asB (eOp pNe (eLcR newL (eVar 3) (uNm 8) (fun δ => asB (eOp pEq (eOp pIx (eOp pIx (eVar 0) (eVar 8)) (eVar 7)) (eC (.int 1)) δ)) (eVar 8) [8]) (eLst aNil) δ))) (eVar 7) [7]) (gNm 6))
    (sIf (tAndM (fun δ => asB (eOp pNotIn (eVar 5) (eVar 3) δ)) (fun δ => asB (eOp pNe (eVar 6) (eLst aNil) δ))) (sExpr (eMB "list" pAppend (eVar 3) (aCons (eVar 5) aNil))) sNext))))
    (sRet (eOp pEq (eCallV (pLen) (aCons (eVar 3) aNil)) (eCallV (pLen) (aCons (eVar 1) aNil))))))
def b__law_twos (cal : Nat → List D → M D) : MS :=
    (sSeq (sAsg (eLc newL (iR1 (aCons (eCallV (pLen) (aCons (eOp pIx (eVar 0) (eC (.int 0))) aNil)) aNil)) (uNm 4) (fun δ => asB (eOp pEq (eCallV (pSum) (aCons (eLc newL (iAny (eVar 1)) (uNm 5) tYesM (eOp pIx (eOp pIx (eVar 0) (eVar 5)) (eVar 4)) [5]) aNil)) (eC (.int 2)) δ)) (eVar 4) [4]) (gNm 3))
    (sRet (eIf (fun δ => asB (eOp pGe (eCallV (pLen) (aCons (eVar 3) aNil)) (eVar 2) δ)) (eVar 3) (eLst aNil))))
def b__law_ringed (cal : Nat → List D → M D) : MS :=
    (sSeq (sPar2 4 5 (aCons (eCal (cal 58) (aCons (eVar 0) (aCons (eVar 1) (aCons (eVar 2) aNil)))) (aCons (eCut (eCal (cal 64) (aCons (eVar 0) (aCons (eRg newL (g1 (eVar 1))) aNil))) none (some (eVar 3))) aNil)))
    (sSeq (sAsg (eCut (eCal (cal 64) (aCons (eVar 0) (aCons (eRg newL (g1 (eVar 2))) aNil))) none (some (eVar 3))) (gNm 6))
    (sSeq (sFor (iR1 (aCons (eVar 3) aNil)) (gNm 7) (sFor (iR1 (aCons (eVar 3) aNil)) (gNm 8) (sAsg (eCallV pInt (aCons (eOp pIn (eVar 8) (eLst (aCons (eVar 7) (aCons (eOp pMod (eCallV pInt (aCons (eOp pAdd (eVar 7) (eC (.int 1))) aNil)) (eVar 3)) aNil)))) aNil)) (gSb pStore (eOp pIx (eVar 4) (eOp pIx (eVar 5) (eVar 7))) (eOp pIx (eVar 6) (eVar 8))))))
    (sRet (eFrz (eVar 4))))))
def b__law_any (cal : Nat → List D → M D) : MS :=
    (sSeq (sAsg (eOp pAdd (eC (.int 2)) (eCal (cal 60) (aCons (eVar 0) (aCons (eC (.int 4)) aNil)))) (gNm 3))
    (sSeq (sAsg (eLc newL (iR1 (aCons (eVar 1) aNil)) (uNm 6) tYesM (eLc newC (iR1 (aCons (eVar 2) aNil)) (uNm 5) tYesM (eCallV pInt (aCons (eOp pEq (eCal (cal 60) (aCons (eVar 0) (aCons (eVar 3) aNil))) (eC (.int 0))) aNil)) [5]) [6]) (gNm 4))
    (sSeq (sFor (iR1 (aCons (eVar 1) aNil)) (gNm 6) (sIf (fun δ => asB (eOp pNotIn (eC (.int 1)) (eOp pIx (eVar 4) (eVar 6)) δ)) (sAsg (eC (.int 1)) (gSb pStore (eOp pIx (eVar 4) (eVar 6)) (eCal (cal 60) (aCons (eVar 0) (aCons (eVar 2) aNil))))) sNext))
    (sSeq (sFor (iR1 (aCons (eVar 2) aNil)) (gNm 5) (sIf (fun δ => asB (eOp pNotIn (eC (.int 1)) (eLc newL (iAny (eVar 4)) (uNm 7) tYesM (eOp pIx (eVar 7) (eVar 5)) [7]) δ)) (sAsg (eC (.int 1)) (gSb pStore (eOp pIx (eVar 4) (eCal (cal 60) (aCons (eVar 0) (aCons (eVar 1) aNil)))) (eVar 5))) sNext))
    (sRet (eVar 4))))))
def b__law_even (cal : Nat → List D → M D) : MS :=
    (sSeq (sPar2 2 3 (aCons (eOp pAdd (eC (.int 1)) (eCal (cal 60) (aCons (eVar 0) (aCons (eVar 1) aNil)))) (aCons (eOp pAdd (eC (.int 1)) (eCal (cal 60) (aCons (eVar 0) (aCons (eVar 1) aNil)))) aNil)))
    (sSeq (sAsg (eCal (cal 65) (aCons (eVar 0) (aCons (eVar 2) (aCons (eVar 3) aNil)))) (gNm 4))
    (sRet (eIf (fun δ => asB (eOp pEq (eCal (cal 60) (aCons (eVar 0) (aCons (eC (.int 2)) aNil))) (eC (.int 0)) δ)) (eCal (cal 36) (aCons (eVar 4) aNil)) (eVar 4)))))
def b__law_dip (cal : Nat → List D → M D) : MS :=
    (sSeq (sIf (fun δ => asB (eOp pGt (eOp pIx (eVar 0) (eC (.int 1))) (eC (.int 0)) δ)) (sSeq (sAsg (eCallV (pDivmod) (aCons (eOp pIx (eVar 0) (eC (.int 1))) (aCons (eVar 1) aNil))) (gTp 2 (gCs (gSb pStore (eVar 0) (eC (.int 1))) (gCs (gNm 2) gNl))))
    (sRet (eVar 2))) sNext)
    (sSeq (sAsg (eOp pMod (eCallV pInt (aCons (eOp pAdd (eOp pMul (eOp pIx (eVar 0) (eC (.int 0))) (eC (.int 40093))) (eC (.int 6101))) aNil)) (eC (.int 2147482277))) (gSb pStore (eVar 0) (eC (.int 0))))
    (sRet (eOp pMod (eCallV pInt (aCons (eOp pFdiv (eOp pIx (eVar 0) (eC (.int 0))) (eC (.int 256))) aNil)) (eVar 1)))))
def b_length_first (cal : Nat → List D → M D) : MS :=
    (sRet (eTup (aCons (eCallV (pLen) (aCons (eOp pIx (eVar 0) (eC (.int 0))) aNil)) (aCons (eVar 0) aNil))))
def b_grown (cal : Nat → List D → M D) : MS :=
    (sFor (iAny (eOp pIx (eVar 0) (eOp pIx (eVar 1) (eUn pNeg (eC (.int 1)))))) (gNm 3) (sSeq (sIf (tOrM (fun δ => asB (eOp pLe (eVar 3) (eOp pIx (eVar 1) (eC (.int 0))) δ)) (fun δ => asB (eOp pIn (eVar 3) (eVar 1) δ))) sCnt sNext)
    (sSeq (sAsg (eLc newL (iAny (eCut (eVar 1) (some (eC (.int 1))) (some (eUn pNeg (eC (.int 1)))))) (uNm 5) (fun δ => asB (eOp pIn (eVar 3) (eOp pIx (eVar 0) (eVar 5)) δ)) (eVar 5) [5]) (gNm 4))
    (sSeq (sIf (fun δ => tru ((eVar 4) δ)) sCnt sNext)
    (sSeq (sIf (tAndM (fun δ => asB (eOp pGt (eCallV (pLen) (aCons (eVar 1) aNil)) (eC (.int 1)) δ)) (fun δ => asB (eOp pIn (eOp pIx (eVar 1) (eC (.int 0))) (eOp pIx (eVar 0) (eVar 3)) δ))) (sSeq (sIf (tAndM (fun δ => asB (eOp pGt (eCallV (pLen) (aCons (eVar 1) aNil)) (eC (.int 2)) δ)) (fun δ => asB (eOp pLt (eOp pIx (eVar 1) (eC (.int 1))) (eVar 3) δ))) (sPutT (eC (.bl true)) (eVar 2) (eCallV (pSortD) (aCons (eLst (aStar (eVar 1) (aCons (eVar 3) aNil))) aNil))) sNext)
    sCnt) sNext)
    (sExpr (eCal (cal 62) (aCons (eVar 0) (aCons (eLst (aStar (eVar 1) (aCons (eVar 3) aNil))) (aCons (eVar 2) aNil))))))))))
def b_spots_of (cal : Nat → List D → M D) : MS :=
    (sSeq (sAsg (eTup (aCons (eCallV (pLen) (aCons (eVar 0) aNil)) (aCons (eCallV (pLen) (aCons (eOp pIx (eVar 0) (eC (.int 0))) aNil)) aNil))) (gTp 2 (gCs (gNm 1) (gCs (gNm 2) gNl))))
    (sSeq (sAsg (eLc newL (iR1 (aCons (eVar 1) aNil)) (uNm 5) tYesM (eLc newL (iR1 (aCons (eVar 2) aNil)) (uNm 4) (fun δ => tru ((eOp pIx (eOp pIx (eVar 0) (eVar 5)) (eVar 4)) δ)) (eOp pAdd (eVar 1) (eVar 4)) [4]) [5]) (gNm 3))
    (sRet (eOp pAdd (eVar 3) (eLc newL (iR1 (aCons (eVar 2) aNil)) (uNm 4) tYesM (eLc newL (iR1 (aCons (eVar 1) aNil)) (uNm 5) (fun δ => tru ((eOp pIx (eOp pIx (eVar 0) (eVar 5)) (eVar 4)) δ)) (eVar 5) [5]) [4])))))
def b__law_mixed_v2 (cal : Nat → List D → M D) : MS :=
    (sSeq (sPar2 2 3 (aCons (eCallV (pList newC) (aCons (eVar 1) aNil)) (aCons (eLstC aNil) aNil)))
    (sSeq (sFor (iR1 (aCons (eCallV (pLen) (aCons (eVar 1) aNil)) aNil)) (gNm 4) (sExpr (eMB "list" pAppend (eVar 3) (aCons (eMB "list" pPop (eVar 2) (aCons (eCal (cal 60) (aCons (eVar 0) (aCons (eCallV (pLen) (aCons (eVar 2) aNil)) aNil))) aNil)) aNil))))
    (sRet (eFrz (eVar 3)))))
def b__law_runs (cal : Nat → List D → M D) : MS :=
    (sSeq (sAsg (eTup (aCons (eCal (cal 64) (aCons (eVar 0) (aCons (eRg newL (g1 (eVar 2))) aNil))) (aCons (eLstC aNil) aNil))) (gTp 2 (gCs (gNm 3) (gCs (gNm 4) gNl))))
    (sSeq (sFor (iR1 (aCons (eVar 1) aNil)) (gNm 5) (sSeq (sAsg (eTup (aCons (eCal (cal 60) (aCons (eVar 0) (aCons (eVar 2) aNil))) (aCons (eCal (cal 60) (aCons (eVar 0) (aCons (eVar 2) aNil))) aNil))) (gTp 2 (gCs (gNm 6) (gCs (gNm 7) gNl))))
    (sExpr (eMB "list" pAppend (eVar 4) (aCons (eLc newL (iR1 (aCons (eVar 2) aNil)) (uNm 8) tYesM (eCallV pInt (aCons (eChain pLe pLe (eCallV (pMin) (aCons (eVar 6) (aCons (eVar 7) aNil))) (eOp pIx (eVar 3) (eVar 8)) (eCallV (pMax) (aCons (eVar 6) (aCons (eVar 7) aNil)))) aNil)) [8]) aNil)))))
    (sSeq (sAsg (eOp pMul (eLst (aCons (eC (.int 1)) aNil)) (eVar 2)) (gSb pStore (eVar 4) (eCal (cal 60) (aCons (eVar 0) (aCons (eVar 1) aNil)))))
    (sRet (eFrz (eVar 4))))))
end Bd
namespace Bd
open PySem L2 Ev
def b_law_v2 (cal : Nat → List D → M D) : MS :=
    (sRet (eCallV (pAll true) (aCons (eLc newL (iR1 (aCons (eCallV (pMax) (aCons (eC (.int 2)) (aCons (eCallV (pMin) (aCons (eCallV (pLen) (aCons (eVar 0) aNil)) (aCons (eC (.int 5)) aNil))) aNil))) aNil)) (uNm 1) tYesM (eCal (cal 12) (aCons (eCal (cal 11) (aCons (eVar 0) (aCons (eVar 1) aNil))) aNil)) [1]) aNil)))
def b__law_right (cal : Nat → List D → M D) : MS :=
    (sSeq (sFor (iR1 (aCons (eC (.int 3)) aNil)) (gNm 1) (sSeq (sAsg (eCal (cal 19) (aCons (eVar 0) aNil)) (gNm 2))
    (sSeq (sAsg (eTup (aCons (eCal (cal 1) (aCons (eCal (cal 18) (aCons (eVar 2) aNil)) aNil)) (aCons (eCal (cal 17) (aCons (eVar 0) (aCons (eCallV (pLen) (aCons (eOp pIx (eVar 2) (eC (.int 0))) aNil)) (aCons (eC (.int 0)) aNil)))) aNil))) (gTp 2 (gCs (gNm 3) (gCs (gNm 4) gNl))))
    (sSeq (sAsg (eCal (cal 16) (aCons (eVar 2) aNil)) (gNm 5))
    (sSeq (sAsg (eCallV (pMin) (aCons (eLc newL (iAny (eVar 5)) (uNm 7) tYesM (eCal (cal 15) (aCons (eVar 4) (aCons (eVar 7) aNil))) [7]) aNil)) (gNm 6))
    (sSeq (sAsg (eCallV pTuple (aCons (eLc newL (iAny (eVar 5)) (uNm 7) (fun δ => asB (eOp pEq (eCal (cal 15) (aCons (eVar 4) (aCons (eVar 7) aNil))) (eVar 6) δ)) (eVar 7) [7]) aNil)) (gNm 8))
    (sSeq (sAsg (eLst (aCons (eCal (cal 14) (aCons (eVar 3) (aCons (eVar 4) aNil))) (aCons (eCal (calP (cal 14) 2 [1, 0]) (aCons (eVar 4) (aCons (eVar 3) aNil))) aNil))) (gNm 9))
    (sSeq (sIf (fun δ => asB (eOp pNe (eCallV (pRepr) (aCons (eVar 9) aNil)) (eCallV (pRepr) (aCons (eOp pMul (eLst (aCons (eTup (aCons (eVar 6) (aCons (eOp pIx (eVar 8) (eC (.int 0))) aNil))) aNil)) (eC (.int 2))) aNil)) δ)) (sRet (eC (.bl false))) sNext)
    (sIf (fun δ => asB (eOp pNe (eCallV (pRepr) (aCons (eLst (aCons (eCal (cal 13) (aCons (eVar 3) (aCons (eVar 4) aNil))) (aCons (eCal (calP (cal 13) 2 [1, 0]) (aCons (eVar 4) (aCons (eVar 3) aNil))) aNil))) aNil)) (eCallV (pRepr) (aCons (eLst (aCons (eVar 8) (aCons (eVar 8) aNil))) aNil)) δ)) (sRet (eC (.bl false))) sNext)))))))))
    (sRet (eC (.bl true))))
def b__law_pipe (cal : Nat → List D → M D) : MS :=
    (sSeq (sAsg (eOp pAdd (eC (.int 70001)) (eOp pMul (eC (.int 4003)) (eVar 1))) (gNm 2))
    (sSeq (sFor (iAny (eCut (eVar 0) none (some (eC (.int 5))))) (gNm 3) (sAsg (eOp pMod (eCallV pInt (aCons (eOp pAdd (eOp pMul (eVar 2) (eC (.int 33013))) (eVar 3)) aNil)) (eC (.int 2147482801))) (gNm 2)))
    (sSeq (sAsg (eIf (fun δ => asB (eOp pLt (eVar 1) (eCallV (pLen) (aCons (eVar 0) aNil)) δ)) (eOp pIx (eVar 0) (eVar 1)) (eOp pAdd (eOp pMul (eC (.int 37)) (eVar 1)) (eC (.int 11)))) (gNm 4))
    (sRet (eLstC (aCons (eOp pMod (eCallV pInt (aCons (eOp pAdd (eOp pAdd (eOp pMul (eVar 2) (eC (.int 61))) (eOp pMul (eVar 4) (eC (.int 79)))) (eC (.int 47))) aNil)) (eC (.int 2147482801))) (aCons (eIf (fun δ => asB (eOp pGe (eCallV (pAbs) (aCons (eVar 4) aNil)) (eOp pPow (eC (.int 10)) (eC (.int 17))) δ)) (eCallV (pAbs) (aCons (eVar 4) aNil)) (eC (.int 0))) (aCons (eC (.int 0)) aNil))))))))
def b_least_covers (cal : Nat → List D → M D) : MS :=
    (sSeq (sExpr (eCal (cal 23) (aCons (eVar 0) aNil)))
    (sSeq (sExpr (eCal (cal 22) (aCons (eVar 1) (aCons (eFld ok_width "width" (eVar 0)) aNil))))
    (sSeq (sAsg (eCal (cal 21) (aCons (eFld ok_rows "rows" (eVar 0)) aNil)) (gNm 2))
    (sSeq (sAsg (eCallV (pMin) (aCons (eLc newL (iAny (eVar 2)) (uNm 4) tYesM (eCal (cal 20) (aCons (eVar 1) (aCons (eVar 4) aNil))) [4]) aNil)) (gNm 3))
    (sRet (eCallV pTuple (aCons (eLc newL (iAny (eVar 2)) (uNm 4) (fun δ => asB (eOp pEq (eCal (cal 20) (aCons (eVar 1) (aCons (eVar 4) aNil))) (eVar 3) δ)) (eVar 4) [4]) aNil)))))))
def b_cover (cal : Nat → List D → M D) : MS :=
    (sSeq (sExpr (eCal (cal 23) (aCons (eVar 0) aNil)))
    (sSeq (sExpr (eCal (cal 22) (aCons (eVar 1) (aCons (eFld ok_width "width" (eVar 0)) aNil))))
    (sRet (eCal (cal 24) (aCons (eFld ok_rows "rows" (eVar 0)) (aCons (eVar 1) aNil))))))
def b__law_total (cal : Nat → List D → M D) : MS :=
    (sRet (eCallV (pSum) (aCons (eLc newL (iAny (eVar 1)) (uNm 2) tYesM (eOp pIx (eVar 0) (eVar 2)) [2]) aNil)))
def b__law_covers (cal : Nat → List D → M D) : MS :=
    (sRet (eLc newL (iAny (eCal (cal 25) (aCons (eCallV (pLen) (aCons (eOp pIx (eVar 0) (eC (.int 0))) aNil)) aNil))) (uNm 1) (fun δ => tru ((eCallV (pAll true) (aCons (eLc newL (iAny (eVar 0)) (uNm 2) tYesM (eOp pGt (eCal (cal 26) (aCons (eVar 2) (aCons (eVar 1) aNil))) (eC (.int 0))) [2]) aNil)) δ)) (eVar 1) [1]))
def b__law_prices (cal : Nat → List D → M D) : MS :=
    (sSeq (sAsg (eCal (cal 27) (aCons (eVar 0) (aCons (eC (.int 4)) aNil))) (gNm 3))
    (sSeq (sAsg (eLc newL (iR1 (aCons (eVar 1) aNil)) (uNm 5) tYesM (eIf (fun δ => asB (eOp pEq (eVar 3) (eC (.int 0)) δ)) (eCal (cal 28) (aCons (eVar 0) aNil)) (eCal (cal 27) (aCons (eVar 0) (aCons (eOp pIx (eLst (aCons (eC (.int 1)) (aCons (eC (.int 3)) (aCons (eC (.int 8)) (aCons (eC (.int 40)) aNil))))) (eVar 3)) aNil)))) [5]) (gNm 4))
    (sRet (eCallV pTuple (aCons (eLc newL (iAny (eVar 4)) (uNm 6) tYesM (eIf (tAndM (fun δ => asB (eOp pLt (eVar 2) (eC (.int 0)) δ)) (fun δ => asB (eOp pEq (eCal (cal 27) (aCons (eVar 0) (aCons (eC (.int 4)) aNil))) (eC (.int 0)) δ))) (eOp pSub (eC (.int 0)) (eVar 6)) (eVar 6)) [6]) aNil)))))
def b__law_sheet (cal : Nat → List D → M D) : MS :=
    (sRet (eMB "str" pJoin (eC (.str "\n")) (aCons (eLc newL (iAny (eVar 0)) (uNm 2) tYesM (eMB "str" pJoin (eC (.str "")) (aCons (eLc newL (iAny (eVar 2)) (uNm 1) tYesM (eCallV (pStrI (strT cal)) (aCons (eVar 1) aNil)) [1]) aNil)) [2]) aNil)))
def b__law_grid (cal : Nat → List D → M D) : MS :=
    (sSeq (sAsg (eCal (cal 27) (aCons (eVar 0) (aCons (eC (.int 3)) aNil))) (gNm 1))
    (sSeq (sIf (fun δ => asB (eOp pEq (eVar 1) (eC (.int 0)) δ)) (sRet (eCal (cal 31) (aCons (eVar 0) (aCons (eC (.int 6)) aNil)))) sNext)
    (sRet (eIf (fun δ => asB (eOp pEq (eVar 1) (eC (.int 1)) δ)) (eCal (cal 29) (aCons (eVar 0) (aCons (eC (.int 6)) (aCons (eC (.int 6)) aNil)))) (eCal (cal 30) (aCons (eVar 0) (aCons (eC (.int 6)) (aCons (eC (.int 6)) aNil))))))))
def b_total_of (cal : Nat → List D → M D) : MS :=
    (sRet (eCallV (pSum) (aCons (eLc newL (iAny (eVar 1)) (uNm 2) tYesM (eOp pIx (eVar 0) (eVar 2)) [2]) aNil)))
def b_covers_of (cal : Nat → List D → M D) : MS :=
    (sRet (eLc newL (iAny (eCal (cal 32) (aCons (eCallV (pLen) (aCons (eOp pIx (eVar 0) (eC (.int 0))) aNil)) aNil))) (uNm 1) (fun δ => tru ((eCallV (pAll true) (aCons (eLc newL (iAny (eVar 0)) (uNm 2) tYesM (eOp pGt (eCal (cal 33) (aCons (eVar 2) (aCons (eVar 1) aNil))) (eC (.int 0))) [2]) aNil)) δ)) (eVar 1) [1]))
def b_check_prices (cal : Nat → List D → M D) : MS :=
    (sSeq (sAsg (eCal (cal 34) (aCons (eVar 0) (aCons (eVar 1) (aCons (eC (.int 0)) (aCons (eC (.int 1000000000000000000000000000000)) aNil))))) (gTp 2 (gCs (gNm 2) (gCs (gNm 3) gNl))))
    (sIf (fun δ => tru ((eVar 2) δ)) (fun _ _ => .bad) sNext))
def b_check_table (cal : Nat → List D → M D) : MS :=
    (sIf (tNotM (fun δ => tru ((eIsi (isiT isi) (.own "Table") (eVar 0)) δ))) (fun _ _ => .bad) sNext)
def b_least_cover (cal : Nat → List D → M D) : MS :=
    (sSeq (sAsg (eCal (cal 21) (aCons (eVar 0) aNil)) (gNm 2))
    (sSeq (sAsg (eLc newL (iAny (eVar 2)) (uNm 4) tYesM (eCal (cal 20) (aCons (eVar 1) (aCons (eVar 4) aNil))) [4]) (gNm 3))
    (sSeq (sAsg (eCallV (pMin) (aCons (eVar 3) aNil)) (gNm 5))
    (sRet (eTup (aCons (eVar 5) (aCons (eOp pIx (eVar 2) (eMB "list" pIndex (eVar 3) (aCons (eVar 5) aNil))) aNil)))))))
def b__law_lots (cal : Nat → List D → M D) : MS :=
    (sSeq (sAsg (eLst (aCons (eTup aNil) aNil)) (gNm 1))
    (sSeq (sFor (iR1 (aCons (eVar 0) aNil)) (gNm 2) (sAsg (eOp pAdd (eVar 1) (eLc newL (iAny (eVar 1)) (uNm 3) tYesM (eOp pAdd (eVar 3) (eTup (aCons (eVar 2) aNil))) [3])) (gNm 1)))
    (sRet (eLc newL (iAny (eCallV (pSortD) (aCons (eLc newL (iAny (eVar 1)) (uNm 3) tYesM (eTup (aCons (eCallV (pLen) (aCons (eVar 3) aNil)) (aCons (eVar 3) aNil))) [3]) aNil))) (uNm 4) tYesM (eOp pIx (eVar 4) (eC (.int 1))) [4]))))
def b__law_ones (cal : Nat → List D → M D) : MS :=
    (sRet (eCallV (pSum) (aCons (eLc newL (iAny (eVar 1)) (uNm 2) tYesM (eOp pIx (eVar 0) (eVar 2)) [2]) aNil)))
def b__law_drip (cal : Nat → List D → M D) : MS :=
    (sSeq (sIf (fun δ => asB (eOp pGt (eOp pIx (eVar 0) (eC (.int 1))) (eC (.int 0)) δ)) (sSeq (sAsg (eCallV (pDivmod) (aCons (eOp pIx (eVar 0) (eC (.int 1))) (aCons (eVar 1) aNil))) (gTp 2 (gCs (gSb pStore (eVar 0) (eC (.int 1))) (gCs (gNm 2) gNl))))
    (sRet (eVar 2))) sNext)
    (sSeq (sAsg (eOp pAdd (eOp pIx (eVar 0) (eC (.int 2))) (eC (.int 1))) (gSb pStore (eVar 0) (eC (.int 2))))
    (sSeq (sAsg (eOp pMod (eCallV pInt (aCons (eOp pAdd (eOp pAdd (eOp pMul (eOp pIx (eVar 0) (eC (.int 0))) (eC (.int 35023))) (eOp pMul (eOp pMul (eOp pIx (eVar 0) (eC (.int 2))) (eOp pIx (eVar 0) (eC (.int 2)))) (eC (.int 67)))) (eC (.int 59))) aNil)) (eC (.int 2147482801))) (gNm 3))
    (sSeq (sAsg (eOp pMod (eCallV pInt (aCons (eOp pAdd (eOp pMul (eVar 3) (eOp pAdd (eC (.int 21001)) (eOp pMod (eCallV pInt (aCons (eVar 3) aNil)) (eC (.int 2801))))) (eC (.int 61))) aNil)) (eC (.int 2147482817))) (gSb pStore (eVar 0) (eC (.int 0))))
    (sRet (eOp pMod (eCallV pInt (aCons (eOp pFdiv (eOp pIx (eVar 0) (eC (.int 0))) (eC (.int 64))) aNil)) (eVar 1)))))))
def b__law_big (cal : Nat → List D → M D) : MS :=
    (sSeq (sAsg (eC (.int 0)) (gNm 1))
    (sSeq (sFor (iR1 (aCons (eCal (cal 35) (aCons (eVar 0) (aCons (eLst (aCons (eC (.int 1)) (aCons (eC (.int 5)) (aCons (eC (.int 29)) aNil)))) aNil))) aNil)) (gNm 2) (sAsg (eOp pAdd (eOp pMul (eC (.int 10)) (eVar 1)) (eCal (cal 27) (aCons (eVar 0) (aCons (eC (.int 10)) aNil)))) (gNm 1)))
    (sRet (eCal (cal 35) (aCons (eVar 0) (aCons (eLst (aCons (eVar 1) (aCons (eVar 1) (aCons (eVar 1) (aCons (eOp pSub (eOp pPow (eC (.int 10)) (eC (.int 30))) (eVar 1)) (aCons (eOp pPow (eC (.int 10)) (eC (.int 30))) aNil)))))) aNil))))))
def b__law_even_grid (cal : Nat → List D → M D) : MS :=
    (sSeq (sPar2 3 4 (aCons (eOp pAdd (eC (.int 1)) (eCal (cal 27) (aCons (eVar 0) (aCons (eVar 1) aNil)))) (aCons (eOp pAdd (eC (.int 1)) (eCal (cal 27) (aCons (eVar 0) (aCons (eVar 2) aNil)))) aNil)))
    (sSeq (sAsg (eCal (cal 27) (aCons (eVar 0) (aCons (eC (.int 3)) aNil))) (gNm 5))
    (sSeq (sAsg (eIf (fun δ => asB (eOp pEq (eVar 5) (eC (.int 0)) δ)) (eCal (cal 38) (aCons (eVar 0) (aCons (eVar 3) (aCons (eVar 4) aNil)))) (eCal (cal 39) (aCons (eVar 0) (aCons (eVar 3) (aCons (eVar 4) aNil))))) (gNm 6))
    (sSeq (sAsg (eLc newL (iR1 (aCons (eVar 4) aNil)) (uNm 8) (fun δ => asB (eOp pIn (eC (.int 1)) (eLc newL (iAny (eVar 6)) (uNm 9) tYesM (eOp pIx (eVar 9) (eVar 8)) [9]) δ)) (eVar 8) [8]) (gNm 7))
    (sSeq (sAsg (eCal (cal 37) (aCons (eVar 0) (aCons (eVar 7) aNil))) (gNm 10))
    (sSeq (sAsg (eCal (cal 37) (aCons (eVar 0) (aCons (eLc newL (iAny (eVar 6)) (uNm 9) tYesM (eLc newL (iAny (eVar 10)) (uNm 8) tYesM (eOp pIx (eVar 9) (eVar 8)) [8]) [9]) aNil))) (gNm 6))
    (sSeq (sIf (tAndM (fun δ => asB (eOp pLe (eCallV (pLen) (aCons (eVar 6) aNil)) (eVar 2) δ)) (tAndM (fun δ => asB (eOp pLe (eCallV (pLen) (aCons (eVar 10) aNil)) (eVar 1) δ)) (fun δ => asB (eOp pEq (eCal (cal 27) (aCons (eVar 0) (aCons (eC (.int 3)) aNil))) (eC (.int 0)) δ)))) (sRet (eCal (cal 36) (aCons (eVar 6) aNil))) sNext)
    (sRet (eVar 6)))))))))
def b__law_any_grid (cal : Nat → List D → M D) : MS :=
    (sSeq (sAsg (eTup (aCons (eOp pAdd (eC (.int 1)) (eCal (cal 27) (aCons (eVar 0) (aCons (eVar 1) aNil)))) (aCons (eOp pAdd (eC (.int 1)) (eCal (cal 27) (aCons (eVar 0) (aCons (eVar 2) aNil)))) aNil))) (gTp 2 (gCs (gNm 3) (gCs (gNm 4) gNl))))
    (sSeq (sAsg (eOp pAdd (eC (.int 2)) (eCal (cal 27) (aCons (eVar 0) (aCons (eC (.int 3)) aNil)))) (gNm 5))
    (sSeq (sAsg (eLc newL (iR1 (aCons (eVar 3) aNil)) (uNm 8) tYesM (eLc newC (iR1 (aCons (eVar 4) aNil)) (uNm 7) tYesM (eCallV pInt (aCons (eOp pEq (eCal (cal 27) (aCons (eVar 0) (aCons (eVar 5) aNil))) (eC (.int 0))) aNil)) [7]) [8]) (gNm 6))
    (sSeq (sFor (iR1 (aCons (eVar 3) aNil)) (gNm 7) (sIf (fun δ => asB (eOp pNotIn (eC (.int 1)) (eOp pIx (eVar 6) (eVar 7)) δ)) (sAsg (eC (.int 1)) (gSb pStore (eOp pIx (eVar 6) (eVar 7)) (eCal (cal 27) (aCons (eVar 0) (aCons (eVar 4) aNil))))) sNext))
    (sSeq (sFor (iR1 (aCons (eVar 4) aNil)) (gNm 7) (sIf (fun δ => asB (eOp pNotIn (eC (.int 1)) (eLc newL (iAny (eVar 6)) (uNm 8) tYesM (eOp pIx (eVar 8) (eVar 7)) [8]) δ)) (sAsg (eC (.int 1)) (gSb pStore (eOp pIx (eVar 6) (eCal (cal 27) (aCons (eVar 0) (aCons (eVar 3) aNil)))) (eVar 7))) sNext))
    (sRet (eFrz (eVar 6))))))))
def b__law_ring_grid (cal : Nat → List D → M D) : MS :=
    (sSeq (sAsg (eCal (cal 35) (aCons (eVar 0) (aCons (eLst (aCons (eC (.int 3)) (aCons (eC (.int 3)) (aCons (eC (.int 5)) aNil)))) aNil))) (gNm 2))
    (sSeq (sAsg (eLc newL (iR1 (aCons (eVar 2) aNil)) (uNm 5) tYesM (eLc newL (iR1 (aCons (eVar 2) aNil)) (uNm 4) tYesM (eCallV pInt (aCons (eOp pIn (eVar 4) (eLst (aCons (eVar 5) (aCons (eOp pMod (eCallV pInt (aCons (eOp pAdd (eVar 5) (eC (.int 1))) aNil)) (eVar 2)) aNil)))) aNil)) [4]) [5]) (gNm 3))
    (sSeq (sFor (iR1 (aCons (eCal (cal 27) (aCons (eVar 0) (aCons (eOp pAdd (eOp pSub (eVar 1) (eVar 2)) (eC (.int 1))) aNil))) aNil)) (gNm 6) (sAsg (eOp pAdd (eLc newL (iAny (eVar 3)) (uNm 7) tYesM (eOp pAdd (eVar 7) (eLst (aCons (eCal (cal 27) (aCons (eVar 0) (aCons (eC (.int 2)) aNil))) aNil))) [7]) (eLst (aCons (eOp pAdd (eLc newL (iAny (eOp pIx (eVar 3) (eC (.int 0)))) (uNm 4) tYesM (eCal (cal 27) (aCons (eVar 0) (aCons (eC (.int 2)) aNil))) [4]) (eLst (aCons (eC (.int 1)) aNil))) aNil))) (gNm 3)))
    (sSeq (sAsg (eCal (cal 37) (aCons (eVar 0) (aCons (eRg newL (g1 (eCallV (pLen) (aCons (eOp pIx (eVar 3) (eC (.int 0))) aNil)))) aNil))) (gNm 8))
    (sRet (eCal (cal 37) (aCons (eVar 0) (aCons (eLc newL (iAny (eVar 3)) (uNm 7) tYesM (eLc newL (iAny (eVar 8)) (uNm 4) tYesM (eOp pIx (eVar 7) (eVar 4)) [4]) [7]) aNil))))))))
def b_lots_of (cal : Nat → List D → M D) : MS :=
    (sSeq (sAsg (eLst (aCons (eTup aNil) aNil)) (gNm 1))
    (sSeq (sFor (iR1 (aCons (eVar 0) aNil)) (gNm 2) (sAsg (eOp pAdd (eVar 1) (eLc newL (iAny (eVar 1)) (uNm 3) tYesM (eTup (aStar (eVar 3) (aCons (eVar 2) aNil))) [3])) (gNm 1)))
    (sRet (eSortK (cal 40) (eVar 1)))))
def b_ones_in (cal : Nat → List D → M D) : MS :=
    (sRet (eCallV (pSum) (aCons (eLc newL (iAny (eVar 1)) (uNm 2) tYesM (eOp pIx (eVar 0) (eVar 2)) [2]) aNil)))
def b_fault_in (cal : Nat → List D → M D) : MS :=
    (sSeq (sIf (tNotM (fun δ => tru ((eIsi (isiT isi) (.blt "tuple") (eVar 0)) δ))) (sRet (eTup (aCons (eC (.bl true)) (aCons (eC .non) aNil)))) sNext)
    (sSeq (sFor (iEnu (aCons (eVar 0) aNil)) (gTp 2 (gCs (gNm 4) (gCs (gNm 5) gNl))) (sIf (tOrM (fun δ => asB (eOp pEq (eVar 4) (eVar 1) δ)) (tNotM (fun δ => tru ((eCal (cal 41) (aCons (eVar 5) (aCons (eVar 2) (aCons (eVar 3) aNil)))) δ)))) (sRet (eTup (aCons (eC (.bl true)) (aCons (eVar 4) aNil)))) sNext))
    (sRet (eTup (aCons (eOp pLt (eCallV (pLen) (aCons (eVar 0) aNil)) (eVar 1)) (aCons (eC .non) aNil))))))
def b__law_pick (cal : Nat → List D → M D) : MS :=
    (sRet (eOp pIx (eVar 1) (eCal (cal 27) (aCons (eVar 0) (aCons (eCallV (pLen) (aCons (eVar 1) aNil)) aNil)))))
def b__law_turned (cal : Nat → List D → M D) : MS :=
    (sRet (eLc newL (iR1 (aCons (eCallV (pLen) (aCons (eOp pIx (eVar 0) (eC (.int 0))) aNil)) aNil)) (uNm 2) tYesM (eLc newL (iAny (eVar 0)) (uNm 1) tYesM (eOp pIx (eVar 1) (eVar 2)) [1]) [2]))
def b__law_mixed (cal : Nat → List D → M D) : MS :=
    (sSeq (sPar2 2 3 (aCons (eCallV (pList newC) (aCons (eVar 1) aNil)) (aCons (eLstC aNil) aNil)))
    (sSeq (sFor (iR1 (aCons (eCallV (pLen) (aCons (eVar 1) aNil)) aNil)) (gNm 4) (sExpr (eMB "list" pAppend (eVar 3) (aCons (eMB "list" pPop (eVar 2) (aCons (eCal (cal 27) (aCons (eVar 0) (aCons (eCallV (pLen) (aCons (eVar 2) aNil)) aNil))) aNil)) aNil))))
    (sRet (eFrz (eVar 3)))))
def b__law_web (cal : Nat → List D → M D) : MS :=
    (sSeq (sAsg (eTup (aCons (eLstC aNil) (aCons (eLc newL (iR1 (aCons (eVar 2) aNil)) (uNm 5) tYesM (eCallV pInt (aCons (eCal (cal 27) (aCons (eVar 0) (aCons (eC (.int 2)) aNil))) aNil)) [5]) aNil))) (gTp 2 (gCs (gNm 3) (gCs (gNm 4) gNl))))
    (sSeq (sFor (iR1 (aCons (eVar 1) aNil)) (gNm 6) (sSeq (sAsg (eCal (cal 27) (aCons (eVar 0) (aCons (eVar 2) aNil))) (gNm 7))
    (sSeq (sAsg (eOp pAdd (eLc newL (iR1 (aCons (eVar 2) aNil)) (uNm 5) (fun δ => asB (eOp pNe (eOp pIx (eVar 4) (eVar 5)) (eOp pIx (eVar 4) (eVar 7)) δ)) (eVar 5) [5]) (eLst (aCons (eVar 7) aNil))) (gNm 8))
    (sSeq (sAsg (eCal (cal 35) (aCons (eVar 0) (aCons (eVar 8) aNil))) (gNm 9))
    (sExpr (eMB "list" pAppend (eVar 3) (aCons (eLc newL (iR1 (aCons (eVar 2) aNil)) (uNm 5) tYesM (eCallV pInt (aCons (eOp pIn (eVar 5) (eLst (aCons (eVar 7) (aCons (eVar 9) aNil)))) aNil)) [5]) aNil)))))))
    (sRet (eFrz (eVar 3)))))
def b__law_roads (cal : Nat → List D → M D) : MS :=
    (sSeq (sAsg (eTup (aCons (eOp pEq (eCal (cal 27) (aCons (eVar 0) (aCons (eC (.int 2)) aNil))) (eC (.int 0))) (aCons (eLstC aNil) aNil))) (gTp 2 (gCs (gNm 3) (gCs (gNm 4) gNl))))
    (sSeq (sAsg (eLc newL (iR1 (aCons (eVar 2) aNil)) (uNm 6) tYesM (eIf (fun δ => tru ((eVar 3) δ)) (eOp pSub (eVar 6) (eC (.int 1))) (eOp pSub (eCal (cal 27) (aCons (eVar 0) (aCons (eOp pAdd (eVar 6) (eC (.int 1))) aNil))) (eC (.int 1)))) [6]) (gNm 5))
    (sSeq (sFor (iR1 (aCons (eVar 1) aNil)) (gNm 7) (sSeq (sPar2 6 8 (aCons (eCal (cal 27) (aCons (eVar 0) (aCons (eVar 2) aNil))) (aCons (eOp pMulC (eLst (aCons (eC (.int 0)) aNil)) (eVar 2)) aNil)))
    (sSeq (sFor (iR1 (aCons (eOp pAdd (eC (.int 1)) (eCal (cal 27) (aCons (eVar 0) (aCons (eVar 2) aNil)))) aNil)) (gNm 9) (sIf (fun δ => asB (eOp pGe (eVar 6) (eC (.int 0)) δ)) (sSeq (sAsg (eC (.int 1)) (gSb pStore (eVar 8) (eVar 6)))
    (sAsg (eOp pIx (eVar 5) (eVar 6)) (gNm 6))) sNext))
    (sExpr (eMB "list" pAppend (eVar 4) (aCons (eVar 8) aNil))))))
    (sRet (eFrz (eVar 4))))))
def b_few_first (cal : Nat → List D → M D) : MS :=
    (sRet (eTup (aCons (eCallV (pLen) (aCons (eVar 0) aNil)) (aCons (eVar 0) aNil))))
def b_is_between (cal : Nat → List D → M D) : MS :=
    (sSeq (sIf (tNotM (fun δ => tru ((eCal (cal 42) (aCons (eVar 0) aNil)) δ))) (sRet (eC (.bl false))) sNext)
    (sRet (eAnd (eOr (eOp pIs (eVar 1) (eC .non)) (eOp pLe (eVar 1) (eVar 0))) (eOr (eOp pIs (eVar 2) (eC .non)) (eOp pLe (eVar 0) (eVar 2))))))
def b_is_integer (cal : Nat → List D → M D) : MS :=
    (sRet (eAnd (eIsi (isiT isi) (.blt "int") (eVar 0)) (eNot (eIsi (isiT isi) (.blt "bool") (eVar 0)))))
end Bd
namespace Bd
open PySem L2 Ev
def b_law_v4 (cal : Nat → List D → M D) : MS :=
    (sRet (eCallV (pAll true) (aCons (eLc newL (iR1 (aCons (eC (.int 3)) aNil)) (uNm 1) tYesM (eCal (cal 67) (aCons (eCal (cal 44) (aCons (eVar 0) (aCons (eVar 1) aNil))) aNil)) [1]) aNil)))
def b__law_right_v3 (cal : Nat → List D → M D) : MS :=
    (sSeq (sFor (iR1 (aCons (eC (.int 3)) aNil)) (gNm 1) (sSeq (sAsg (eCal (cal 51) (aCons (eVar 0) (aCons (eC (.int 6)) aNil))) (gNm 2))
    (sSeq (sIf (tNotM (fun δ => tru ((eCal (cal 50) (aCons (eVar 2) aNil)) δ))) sCnt sNext)
    (sSeq (sPar2 3 4 (aCons (eCal (cal 1) (aCons (eCal (cal 2) (aCons (eVar 2) aNil)) aNil)) (aCons (eCallV (pLen) (aCons (eOp pIx (eVar 2) (eC (.int 0))) aNil)) aNil)))
    (sFor (iR1 (aCons (eC (.int 3)) aNil)) (gNm 5) (sSeq (sAsg (eCallV pTuple (aCons (eCallV (pSortD) (aCons (eCut (eCal (cal 64) (aCons (eVar 0) (aCons (eRg newL (g1 (eVar 4))) aNil))) none (some (eOp pAdd (eC (.int 1)) (eCal (cal 60) (aCons (eVar 0) (aCons (eVar 4) aNil)))))) aNil)) aNil)) (gNm 6))
    (sSeq (sAsg (eIf (fun δ => asB (eOp pEq (eVar 5) (eC (.int 0)) δ)) (eRg newT (g1 (eVar 4))) (eVar 6)) (gNm 6))
    (sSeq (sAsg (eOp pAdd (eC (.int 1)) (eCal (cal 60) (aCons (eVar 0) (aCons (eC (.int 4)) aNil)))) (gNm 7))
    (sSeq (sAsg (eCal (cal 70) (aCons (eVar 2) (aCons (eVar 7) (aCons (eVar 6) aNil)))) (gNm 8))
    (sFor (iAny (eLst (aCons (eCal (cal 68) (aCons (eVar 3) (aCons (eVar 7) (aCons (eVar 6) aNil)))) (aCons (eCal (calP (cal 68) 3 [2, 1, 0]) (aCons (eVar 6) (aCons (eVar 7) (aCons (eVar 3) aNil)))) aNil)))) (gNm 9) (sIf (tNotM (fun δ => tru ((eVar 8) δ))) (sIf (fun δ => asB (eOp pIsNot (eVar 9) (eC .non) δ)) (sRet (eC (.bl false))) sNext) (sIf (tOrM (tNotM (fun δ => tru ((eIsi (isiT isi) (.blt "tuple") (eVar 9)) δ))) (fun δ => asB (eOp pNe (eCallV (pLen) (aCons (eVar 9) aNil)) (eCallV (pLen) (aCons (eVar 6) aNil)) δ))) (sRet (eC (.bl false))) (sIf (tOrM (fun δ => asB (eOp pNe (eLc newL (iAny (eVar 9)) (uNm 10) (fun δ => asB ((eInRg true (eVar 10) (eVar 7)) δ)) (eVar 10) [10]) (eLst aNil) δ)) (tNotM (fun δ => tru ((eCal (cal 69) (aCons (eVar 2) (aCons (eVar 7) (aCons (eVar 6) (aCons (eVar 9) aNil))))) δ)))) (sRet (eC (.bl false))) sNext)))))))))))))
    (sRet (eC (.bl true))))
def b_colouring (cal : Nat → List D → M D) : MS :=
    (sSeq (sExpr (eCal (cal 23) (aCons (eVar 0) aNil)))
    (sSeq (sExpr (eCal (cal 73) (aCons (eVar 1) aNil)))
    (sSeq (sExpr (eCal (cal 72) (aCons (eVar 0) (aCons (eVar 2) aNil))))
    (sRet (eCal (cal 71) (aCons (eFld ok_rows "rows" (eVar 0)) (aCons (eVar 1) (aCons (eVar 2) aNil))))))))
def b__law_hued (cal : Nat → List D → M D) : MS :=
    (sSeq (sFor (iAny (eVar 0)) (gNm 4) (sSeq (sAsg (eLc newL (iR1 (aCons (eCallV (pLen) (aCons (eVar 2) aNil)) aNil)) (uNm 6) (fun δ => asB (eOp pEq (eOp pIx (eVar 4) (eOp pIx (eVar 2) (eVar 6))) (eC (.int 1)) δ)) (eOp pIx (eVar 3) (eVar 6)) [6]) (gNm 5))
    (sIf (fun δ => asB (eOp pNe (eCallV (pLen) (aCons (eLc newL (iR1 (aCons (eCallV (pLen) (aCons (eVar 5) aNil)) aNil)) (uNm 6) (fun δ => asB (eOp pNotIn (eOp pIx (eVar 5) (eVar 6)) (eCut (eVar 5) none (some (eVar 6))) δ)) (eVar 6) [6]) aNil)) (eCallV (pMin) (aCons (eVar 1) (aCons (eCallV (pLen) (aCons (eVar 5) aNil)) aNil))) δ)) (sRet (eC (.bl false))) sNext)))
    (sRet (eC (.bl true))))
def b__law_can (cal : Nat → List D → M D) : MS :=
    (sSeq (sAsg (eLst (aCons (eTup aNil) aNil)) (gNm 3))
    (sSeq (sFor (iR1 (aCons (eCallV (pLen) (aCons (eVar 2) aNil)) aNil)) (gNm 4) (sSeq (sAsg (eLst aNil) (gNm 5))
    (sSeq (sFor (iAny (eVar 3)) (gNm 6) (sAsg (eOp pAdd (eVar 5) (eLc newL (iR1 (aCons (eCallV (pMin) (aCons (eVar 1) (aCons (eOp pAdd (eOp pAdd (eC (.int 1)) (eCallV (pMaxA) (aCons (eOp pAdd (eTup (aCons (eUn pNeg (eC (.int 1))) aNil)) (eVar 6)) aNil))) (eC (.int 1))) aNil))) aNil)) (uNm 7) tYesM (eOp pAdd (eVar 6) (eTup (aCons (eVar 7) aNil))) [7])) (gNm 5)))
    (sAsg (eVar 5) (gNm 3)))))
    (sRet (eOp pNe (eLc newL (iAny (eVar 3)) (uNm 6) (fun δ => tru ((eCal (cal 69) (aCons (eVar 0) (aCons (eVar 1) (aCons (eVar 2) (aCons (eVar 6) aNil))))) δ)) (eVar 6) [6]) (eLst aNil)))))
def b_colouring_of (cal : Nat → List D → M D) : MS :=
    (sRet (eCal (cal 75) (aCons (eCal (cal 74) (aCons (eVar 0) (aCons (eVar 2) aNil))) (aCons (eCallV (pLen) (aCons (eVar 2) aNil)) (aCons (eVar 1) (aCons (eLst aNil) aNil))))))
def b_check_columns (cal : Nat → List D → M D) : MS :=
    (sIf (tNotM (fun δ => tru ((eCal (cal 76) (aCons (eVar 1) (aCons (eFld ok_width "width" (eVar 0)) aNil))) δ))) (fun _ _ => .bad) sNext)
def b_check_hues (cal : Nat → List D → M D) : MS :=
    (sExpr (eCal (cal 77) (aCons (eVar 0) (aCons (eC (.int 1)) (aCons (eC (.int 8)) aNil)))))
def b_coloured (cal : Nat → List D → M D) : MS :=
    (sSeq (sIf (fun δ => asB (eOp pEq (eCallV (pLen) (aCons (eVar 3) aNil)) (eVar 1) δ)) (sRet (eCallV pTuple (aCons (eVar 3) aNil))) sNext)
    (sSeq (sAsg (eOp pAdd (eC (.int 1)) (eCallV (pMax) (aCons (eLst (aCons (eUn pNeg (eC (.int 1))) (aStar (eVar 3) aNil))) aNil))) (gNm 4))
    (sSeq (sFor (iR1 (aCons (eCallV (pMin) (aCons (eVar 2) (aCons (eOp pAdd (eVar 4) (eC (.int 1))) aNil))) aNil)) (gNm 5) (sSeq (sAsg (eLst (aStar (eVar 3) (aCons (eVar 5) aNil))) (gNm 6))
    (sIf (fun δ => tru ((eCallV (pAll true) (aCons (eLc newL (iAny (eVar 0)) (uNm 7) tYesM (eCal (cal 78) (aCons (eVar 7) (aCons (eVar 6) (aCons (eVar 2) aNil)))) [7]) aNil)) δ)) (sSeq (sAsg (eCal (cal 75) (aCons (eVar 0) (aCons (eVar 1) (aCons (eVar 2) (aCons (eVar 6) aNil))))) (gNm 8))
    (sIf (fun δ => asB (eOp pIsNot (eVar 8) (eC .non) δ)) (sRet (eVar 8)) sNext)) sNext)))
    (sRet (eC .non)))))
def b_rows_in (cal : Nat → List D → M D) : MS :=
    (sSeq (sAsg (eLc newL (iAny (eVar 0)) (uNm 5) tYesM (eLc newL (iEnu (aCons (eVar 1) aNil)) (uTp 2 (uCs (uNm 3) (uCs (uNm 4) uNl))) (fun δ => tru ((eOp pIx (eVar 5) (eVar 4)) δ)) (eVar 3) [3, 4]) [5]) (gNm 2))
    (sRet (eLc newL (iAny (eVar 2)) (uNm 6) (fun δ => asB (eOp pGt (eCallV (pLen) (aCons (eVar 6) aNil)) (eC (.int 1)) δ)) (eVar 6) [6])))
def b_lot_of (cal : Nat → List D → M D) : MS :=
    (sRet (eAnd (eCal (cal 79) (aCons (eVar 0) (aCons (eVar 1) aNil))) (eOp pGt (eCallV (pLen) (aCons (eVar 0) aNil)) (eC (.int 0)))))
def b_check_number (cal : Nat → List D → M D) : MS :=
    (sIf (tNotM (fun δ => tru ((eCal (cal 41) (aCons (eVar 0) (aCons (eVar 1) (aCons (eVar 2) aNil)))) δ))) (fun _ _ => .bad) sNext)
def b_wants (cal : Nat → List D → M D) : MS :=
    (sSeq (sAsg (eLc newL (iAny (eVar 0)) (uNm 4) (fun δ => asB (eOp pLt (eVar 4) (eCallV (pLen) (aCons (eVar 1) aNil)) δ)) (eOp pIx (eVar 1) (eVar 4)) [4]) (gNm 3))
    (sRet (eOp pGe (eOp pSub (eOp pAdd (eCallV (pLenA) (aCons (eCallV pDict (aCons (eLc newL (iAny (eVar 3)) (uNm 5) tYesM (eTup (aCons (eVar 5) (aCons (eC (.bl true)) aNil))) [5]) aNil)) aNil)) (eCallV (pLen) (aCons (eVar 0) aNil))) (eCallV (pLen) (aCons (eVar 3) aNil))) (eCallV (pMin) (aCons (eVar 2) (aCons (eCallV (pLen) (aCons (eVar 0) aNil)) aNil))))))
def b_is_rising (cal : Nat → List D → M D) : MS :=
    (sSeq (sIf (tOrM (tNotM (fun δ => tru ((eIsi (isiT isi) (.blt "tuple") (eVar 0)) δ))) (tNotM (fun δ => tru ((eCallV (pAll true) (aCons (eLc newL (iAny (eVar 0)) (uNm 2) tYesM (eCal (cal 41) (aCons (eVar 2) (aCons (eC (.int 0)) (aCons (eOp pSub (eVar 1) (eC (.int 1))) aNil)))) [2]) aNil)) δ)))) (sRet (eC (.bl false))) sNext)
    (sRet (eCallV (pAll true) (aCons (eLc newL (iR1 (aCons (eOp pSub (eCallV (pLen) (aCons (eVar 0) aNil)) (eC (.int 1))) aNil)) (uNm 3) tYesM (eOp pLt (eOp pIx (eVar 0) (eVar 3)) (eOp pIx (eVar 0) (eOp pAdd (eVar 3) (eC (.int 1))))) [3]) aNil))))
end Bd
namespace Bd
open PySem L2 Ev
def b_law_v5 (cal : Nat → List D → M D) : MS :=
    (sRet (eCallV (pAll true) (aCons (eLc newL (iR1 (aCons (eC (.int 3)) aNil)) (uNm 1) tYesM (eCal (cal 81) (aCons (eCal (cal 44) (aCons (eVar 0) (aCons (eVar 1) aNil))) aNil)) [1]) aNil)))
def b__law_right_v4 (cal : Nat → List D → M D) : MS :=
    (sSeq (sFor (iR1 (aCons (eC (.int 4)) aNil)) (gNm 1) (sSeq (sAsg (eCal (cal 51) (aCons (eVar 0) (aCons (eC (.int 7)) aNil))) (gNm 2))
    (sSeq (sIf (tNotM (fun δ => tru ((eCal (cal 50) (aCons (eVar 2) aNil)) δ))) sCnt sNext)
    (sSeq (sPar2 3 4 (aCons (eCal (cal 1) (aCons (eCal (cal 2) (aCons (eVar 2) aNil)) aNil)) (aCons (eCal (cal 83) (aCons (eVar 2) aNil)) aNil)))
    (sIf (fun δ => asB (eOp pNe (eCallV (pRepr) (aCons (eLst (aCons (eCal (cal 82) (aCons (eVar 3) aNil)) (aCons (eCal (cal 82) (aCons (eVar 3) aNil)) aNil))) aNil)) (eCallV (pRepr) (aCons (eLst (aCons (eVar 4) (aCons (eVar 4) aNil))) aNil)) δ)) (sRet (eC (.bl false))) sNext)))))
    (sRet (eC (.bl true))))
def b_least_rows (cal : Nat → List D → M D) : MS :=
    (sSeq (sExpr (eCal (cal 23) (aCons (eVar 0) aNil)))
    (sSeq (sAsg (eCal (cal 53) (aCons (eFld ok_rows "rows" (eVar 0)) aNil)) (gNm 1))
    (sSeq (sIf (tNotM (fun δ => tru ((eVar 1) δ))) (sRet (eTup (aCons (eTup aNil) aNil))) sNext)
    (sSeq (sAsg (eLstC aNil) (gNm 2))
    (sSeq (sFor (iAny (eCal (cal 84) (aCons (eFld ok_height "height" (eVar 0)) aNil))) (gNm 3) (sSeq (sIf (tAndM (fun δ => tru ((eVar 2) δ)) (fun δ => asB (eOp pGt (eCallV (pLen) (aCons (eVar 3) aNil)) (eCallV (pLen) (aCons (eOp pIx (eVar 2) (eC (.int 0))) aNil)) δ))) (sRet (eCallV pTuple (aCons (eVar 2) aNil))) sNext)
    (sIf (fun δ => tru ((eCallV (pAll true) (aCons (eLc newL (iAny (eVar 1)) (uNm 5) tYesM (eCallV (pAll false) (aCons (eLc newL (iAny (eOp pIx (eVar 5) (eC (.int 0)))) (uNm 4) tYesM (eOp pIn (eVar 4) (eVar 3)) [4]) aNil)) [5]) aNil)) δ)) (sExpr (eMB "list" pAppend (eVar 2) (aCons (eVar 3) aNil))) sNext)))
    (sRet (eCallV pTuple (aCons (eVar 2) aNil))))))))
def b__law_due (cal : Nat → List D → M D) : MS :=
    (sSeq (sFor (iR1 (aCons (eOp pAdd (eCallV (pLen) (aCons (eVar 0) aNil)) (eC (.int 1))) aNil)) (gNm 1) (sSeq (sAsg (eLstC aNil) (gNm 2))
    (sSeq (sFor (iAny (eCal (cal 54) (aCons (eCallV (pLen) (aCons (eVar 0) aNil)) (aCons (eVar 1) aNil)))) (gNm 3) (sSeq (sAsg (eLc newL (iR1 (aCons (eCallV (pLen) (aCons (eVar 0) aNil)) aNil)) (uNm 5) (fun δ => asB (eOp pNotIn (eVar 5) (eVar 3) δ)) (eOp pIx (eVar 0) (eVar 5)) [5]) (gNm 4))
    (sIf (tOrM (fun δ => asB (eOp pEq (eVar 4) (eLstC aNil) δ)) (fun δ => asB (eOp pEq (eCal (cal 49) (aCons (eVar 4) aNil)) (eLstC aNil) δ))) (sExpr (eMB "list" pAppend (eVar 2) (aCons (eVar 3) aNil))) sNext)))
    (sIf (fun δ => asB (eOp pNe (eVar 2) (eLstC aNil) δ)) (sRet (eCallV pTuple (aCons (eVar 2) aNil))) sNext))))
    (sRet (eTup aNil)))
def b_lots_below (cal : Nat → List D → M D) : MS :=
    (sSeq (sAsg (eLst (aCons (eTup aNil) aNil)) (gNm 1))
    (sSeq (sFor (iR1 (aCons (eVar 0) aNil)) (gNm 2) (sAsg (eOp pAdd (eVar 1) (eLc newL (iAny (eVar 1)) (uNm 3) tYesM (eTup (aStar (eVar 3) (aCons (eVar 2) aNil))) [3])) (gNm 1)))
    (sRet (eSortK (cal 85) (eCut (eVar 1) (some (eC (.int 1))) none)))))
def b_size_first (cal : Nat → List D → M D) : MS :=
    (sRet (eTup (aCons (eCallV (pLen) (aCons (eVar 0) aNil)) (aCons (eVar 0) aNil))))
end Bd
/-! # data of ints in the evaluator -/
namespace Sp
open PySem L2 Ev
abbrev Rw := List (List Int)
def iD (r : List Int) : List D := r.map D.int
abbrev tI (r : List Int) : D := .tup (iD r)
abbrev lI (r : List Int) : D := .lst (iD r)
abbrev rowsL (R : Rw) : D := .lst (R.map lI)
abbrev rowsT (R : Rw) : D := .tup (R.map tI)
abbrev lotsL (R : Rw) : D := .lst (R.map tI)
def G01 (w : Nat) (R : Rw) : Prop := ∀ r ∈ R, r.length = w ∧ ∀ i ∈ r, i = 0 ∨ i = 1
theorem small {n : Nat} (h : n ≤ 1000000) : n ≤ sizeLine := Nat.le_trans h (by decide)
theorem iD_len {r : List Int} : (iD r).length = r.length := by simp [iD]
theorem iD_get {r : List Int} {i : Nat} (h : i < (iD r).length) : (iD r)[i] = .int (r[i]'(by simpa [iD] using h)) := by simp [iD]
theorem iD_app {a b : List Int} : iD (a ++ b) = iD a ++ iD b := by simp [iD]
theorem iD_one {i : Int} : iD [i] = [.int i] := rfl
theorem iD_nil : iD [] = [] := rfl
theorem ints_iD : ∀ r : List Int, intsOf (iD r) = some r
  | [] => rfl
  | i :: r => by
    have := ints_iD r
    simp only [iD, List.map_cons] at this ⊢
    simp [intsOf, this]
theorem bls_of : ∀ l : List Bool, blsOf (l.map D.bl) = some l
  | [] => rfl
  | x :: l => by simp [blsOf, bls_of l]
section
variable {S S1 S2 : Store} {i j : Int} {ns : List Int} {R : Rw} {xs ys : List D} {δ : En}
theorem all_ok {l : List Bool} : pAll true [.lst (l.map D.bl)] S = some (.bl (l.all id), S) := by simp [pAll, lstOf, bls_of]
theorem any_ok {l : List Bool} : pAll false [.lst (l.map D.bl)] S = some (.bl (l.any id), S) := by simp [pAll, lstOf, bls_of]
theorem sum_lI : pSum [lI ns] S = some (.int ns.sum, S) := by simp [pSum, lstOf, ints_iD]
theorem len_lI : pLen [lI ns] S = some (.int ns.length, S) := by rw [pLen_lst, iD_len]
theorem len_tI : pLen [tI ns] S = some (.int ns.length, S) := by rw [pLen_tup, iD_len]
theorem len_rL : pLen [rowsL R] S = some (.int R.length, S) := by rw [pLen_lst, List.length_map]
theorem len_rT : pLen [rowsT R] S = some (.int R.length, S) := by rw [pLen_tup, List.length_map]
theorem len_lo : pLen [lotsL R] S = some (.int R.length, S) := by rw [pLen_lst, List.length_map]
theorem atI_int {α : Type} {xs : List α} (h0 : 0 ≤ i) (h1 : i < xs.length) : atI xs i = xs[i.toNat]? := by
  have := atI_nat (xs := xs) (k := i.toNat) (by omega)
  rw [Int.toNat_of_nonneg h0] at this
  rw [this, List.getElem?_eq_getElem]
theorem ix_l (h0 : 0 ≤ i) (h1 : i < xs.length) : pIx (.lst xs) (.int i) S = some (xs.getD i.toNat .non, S) := by
  obtain ⟨k, rfl⟩ := Int.eq_ofNat_of_zero_le h0
  have hk : k < xs.length := by omega
  rw [pIx_lst hk, List.getD_eq_getElem?_getD, Int.toNat_natCast, List.getElem?_eq_getElem hk]
  rfl
theorem ix_t (h0 : 0 ≤ i) (h1 : i < xs.length) : pIx (.tup xs) (.int i) S = some (xs.getD i.toNat .non, S) := by
  obtain ⟨k, rfl⟩ := Int.eq_ofNat_of_zero_le h0
  have hk : k < xs.length := by omega
  rw [pIx_tup hk, List.getD_eq_getElem?_getD, Int.toNat_natCast, List.getElem?_eq_getElem hk]
  rfl
theorem getD_map {α : Type} (f : α → D) (d : α) {zs : List α} {k : Nat} (h : k < zs.length) : (zs.map f).getD k .non = f (zs.getD k d) := by
  simp only [List.getD_eq_getElem?_getD, List.getElem?_map]
  rw [List.getElem?_eq_getElem h]
  rfl
theorem ix_tI (h0 : 0 ≤ i) (h1 : i < ns.length) : pIx (tI ns) (.int i) S = some (.int (ns.getD i.toNat 0), S) := by
  rw [ix_t h0 (by rw [iD_len]; exact h1), iD, getD_map D.int 0 (by omega)]
theorem ix_lI (h0 : 0 ≤ i) (h1 : i < ns.length) : pIx (lI ns) (.int i) S = some (.int (ns.getD i.toNat 0), S) := by
  rw [ix_l h0 (by rw [iD_len]; exact h1), iD, getD_map D.int 0 (by omega)]
theorem ix_rL (h0 : 0 ≤ i) (h1 : i < R.length) : pIx (rowsL R) (.int i) S = some (lI (R.getD i.toNat []), S) := by
  rw [ix_l h0 (by rw [List.length_map]; exact h1), getD_map lI [] (by omega)]
theorem ix_rT (h0 : 0 ≤ i) (h1 : i < R.length) : pIx (rowsT R) (.int i) S = some (tI (R.getD i.toNat []), S) := by
  rw [ix_t h0 (by rw [List.length_map]; exact h1), getD_map tI [] (by omega)]
theorem ix_lo (h0 : 0 ≤ i) (h1 : i < R.length) : pIx (lotsL R) (.int i) S = some (tI (R.getD i.toNat []), S) := by
  rw [ix_l h0 (by rw [List.length_map]; exact h1), getD_map tI [] (by omega)]
theorem eVarR {k : Nat} {d : D} (h : δ[k]? = some (some d)) (hd : d ≠ .slf) : eVar k δ S = .ok d S := by
  unfold eVar
  rw [h]
  cases d <;> first | rfl | exact absurd rfl hd
theorem tuple_lst (h : xs.length ≤ sizeLine) : pTuple [.lst xs] S = some (.tup xs, S) := by simp only [pTuple, lstOf, Option.bind_some, newT_ev h]
theorem add_ll (h : xs.length + ys.length ≤ sizeLine) : pAdd (.lst xs) (.lst ys) S = some (.lst (xs ++ ys), S) := by
  have : (xs ++ ys).length ≤ sizeLine := by simpa using h
  simp only [pAdd, plstOf]
  exact newL_ev this
theorem add_tt (h : xs.length + ys.length ≤ sizeLine) : pAdd (.tup xs) (.tup ys) S = some (.tup (xs ++ ys), S) := by
  have : (xs ++ ys).length ≤ sizeLine := by simpa using h
  simp only [pAdd]
  exact newT_ev this
/-! comprehensions over encoded lists -/
variable {α β : Type} {me : ME} {mt : MT} {δ0 : En} {k : Nat}
theorem lc_mapE (enc : α → D) (enc' : β → D) (g : α → β) {zs : List α} (hl : zs.length ≤ sizeLine) (h : ∀ x ∈ zs, me (δ0.set k (some (enc x))) S = .ok (enc' (g x)) S) :
    loopC (uNm k) tYesM me δ0 (zs.map enc) [] S = .ok ((zs.map g).map enc') S := by
  have key : ∀ (zs : List α) (acc : List D), acc.length + zs.length ≤ sizeLine → (∀ x ∈ zs, me (δ0.set k (some (enc x))) S = .ok (enc' (g x)) S) → loopC (uNm k) tYesM me δ0 (zs.map enc) acc S = .ok (acc ++ (zs.map g).map enc') S := by
    intro zs
    induction zs with
    | nil => intro acc _ _; simp [loopC, M.pure]
    | cons x zs ih =>
      intro acc hl h
      have h1 := h x (List.mem_cons_self ..)
      simp only [List.map_cons, loopC, uNm, setsD, tYesM, M.bind, M.pure, noX, h1, cond_true]
      simp only [List.length_cons] at hl
      rw [if_pos (by omega)]
      rw [ih (acc ++ [enc' (g x)]) (by simp; omega) fun y hy => h y (List.mem_cons_of_mem _ hy)]
      simp
  have := key zs [] (by simpa using hl) h
  simpa using this
theorem lc_filE (enc : α → D) (enc' : β → D) (q : α → Bool) (g : α → β) {zs : List α} (hl : zs.length ≤ sizeLine) (h1 : ∀ x ∈ zs, mt (δ0.set k (some (enc x))) S = .ok (q x) S) (h : ∀ x ∈ zs, q x = true → me (δ0.set k (some (enc x))) S = .ok (enc' (g x)) S) :
    loopC (uNm k) mt me δ0 (zs.map enc) [] S = .ok (((zs.filter q).map g).map enc') S := by
  have key : ∀ (zs : List α) (acc : List D), acc.length + zs.length ≤ sizeLine → (∀ x ∈ zs, mt (δ0.set k (some (enc x))) S = .ok (q x) S) → (∀ x ∈ zs, q x = true → me (δ0.set k (some (enc x))) S = .ok (enc' (g x)) S) → loopC (uNm k) mt me δ0 (zs.map enc) acc S = .ok (acc ++ ((zs.filter q).map g).map enc') S := by
    intro zs
    induction zs with
    | nil => intro acc _ _ _; simp [loopC, M.pure]
    | cons x zs ih =>
      intro acc hl h1 h
      have e1 := h1 x (List.mem_cons_self ..)
      simp only [List.length_cons] at hl
      have ih2 := fun acc hl => ih acc hl (fun y hy => h1 y (List.mem_cons_of_mem _ hy)) fun y hy => h y (List.mem_cons_of_mem _ hy)
      cases hq : q x with
      | false =>
        rw [hq] at e1
        simp only [List.map_cons, loopC, uNm, setsD, M.bind, noX, e1, cond_false, List.filter_cons, hq, Bool.false_eq_true, if_false]
        exact ih2 acc (by omega)
      | true =>
        rw [hq] at e1
        have e2 := h x (List.mem_cons_self ..) hq
        simp only [List.map_cons, loopC, uNm, setsD, M.bind, noX, e1, e2, cond_true, List.filter_cons, hq, if_true]
        rw [if_pos (by omega), ih2 (acc ++ [enc' (g x)]) (by simp; omega)]
        simp
  have := key zs [] (by simpa using hl) h1 h
  simpa using this
theorem rng_map (n : Nat) : rngD 0 n = (List.range n).map fun (i : Nat) => D.int (i : Int) := by simp [rngD]
/-- a loop that goes through, the state told turn by turn -/
theorem loop_fold {mg : TGM} {mb : MS} {σ : Type} (enc : α → D) (f : σ → α → σ) (en : σ → En) (zs : List α) (h : ∀ x ∈ zs, ∀ s, ∃ δ1 S1, mg (enc x) (en s) S = some (δ1, S1) ∧ ∃ s' , mb δ1 S1 = .nx (en s') S ∧ s' = f s x) (s : σ) :
    loopF mg mb (zs.map enc) (en s) S = .nx (en (zs.foldl f s)) S := by
  induction zs generalizing s with
  | nil => rfl
  | cons x zs ih =>
    obtain ⟨δ1, S1, e1, s', e2, rfl⟩ := h x (List.mem_cons_self ..) s
    simp only [List.map_cons, loopF, e1, e2, List.foldl_cons]
    exact ih (fun y hy => h y (List.mem_cons_of_mem _ hy)) _
end
end Sp
/-! # tables: texts, reading, making -/
namespace Sp
open PySem L2 Ev Bd
theorem toPs_ints : ∀ r : List Int, toPs (iD r) = some (r.map PyData.int)
  | [] => rfl
  | i :: r => by
    show (toP (.int i)).bind (fun a => (toPs (iD r)).map fun b => a :: b) = _
    rw [toPs_ints r]; rfl
theorem toPSs_ints (S : Store) : ∀ r : List Int, toPSs S (iD r) = some (r.map PyData.int)
  | [] => rfl
  | i :: r => by
    show (toPS S (.int i)).bind (fun a => (toPSs S (iD r)).map fun b => a :: b) = _
    rw [toPSs_ints S r]; simp [toPS]
theorem any_one (r : List Int) : ((r.map PyData.int).any fun b => PyData.eqv b (.int 1)) = decide ((1 : Int) ∈ r) := by
  induction r with
  | nil => rfl
  | cons i r ih =>
    simp only [List.map_cons, List.any_cons, ih, PyData.eqv]
    by_cases h : i = 1
    · subst h; simp
    · have : ((1 : Int) ∈ i :: r) ↔ 1 ∈ r := by simp; omega
      simp [h, this]
theorem in_tup {S : Store} {r : List Int} : pIn (.int 1) (.tup (iD r)) S = some (.bl (decide ((1 : Int) ∈ r)), S) := by
  simp only [pIn, inD, toPS, toPSs_ints, Option.map_some, PyData.depth, Nat.zero_le, if_true, any_one]
structure Full (h w : Nat) (R : Rw) : Prop where
  len : R.length = h
  g : G01 w R
  row : ∀ r ∈ R, (1 : Int) ∈ r
  col : ∀ k, k < w → ∃ r ∈ R, r[k]? = some 1
  h1 : 0 < h
  h2 : h ≤ 8
  w1 : 0 < w
  w2 : w ≤ 8
/-! the text -/
def dig (i : Int) : Str := toString i
def ln (r : List Int) : Str := Txt.join "" (r.map dig)
def txt (R : Rw) : Str := Txt.join "\n" (R.map ln)
theorem dig_tl {i : Int} (h : i = 0 ∨ i = 1) : TL.tl (dig i) = [48 + i.toNat] := by
  rcases h with rfl | rfl <;> decide +kernel
theorem joinL_nil : ∀ l : List (List Nat), TL.joinL [] l = l.flatten
  | [] => rfl
  | [p] => by simp [TL.joinL]
  | p :: q :: r => by
    show p ++ ([] ++ TL.joinL [] (q :: r)) = _
    rw [joinL_nil (q :: r)]; simp
theorem ln_tl {r : List Int} (h : ∀ i ∈ r, i = 0 ∨ i = 1) : TL.tl (ln r) = r.map fun i => 48 + i.toNat := by
  unfold ln
  rw [TL.join_eq, TL.tl_join, show TL.tl ("" : Str) = [] from by decide +kernel, joinL_nil, List.map_map]
  induction r with
  | nil => rfl
  | cons i r ih =>
    simp only [List.map_cons, List.flatten_cons, Function.comp]
    rw [dig_tl (h i (List.mem_cons_self ..))]
    have := ih fun j hj => h j (List.mem_cons_of_mem _ hj)
    simp only [Function.comp_def] at this ⊢
    rw [this]; rfl
theorem str_len (x : Str) : x.length = (TL.tl x).length := by simp [TL.tl, Str.length]
theorem ln_len {r : List Int} (h : ∀ i ∈ r, i = 0 ∨ i = 1) : (ln r).length = r.length := by rw [str_len, ln_tl h, List.length_map]
theorem strs_of : ∀ l : List Str, strsOf (l.map D.str) = some l
  | [] => rfl
  | x :: l => by simp [strsOf, strs_of l]
theorem join_ok {a : Str} {ys : List Str} {S : Store} (h : (ys.map (·.length)).sum + ys.length * a.length ≤ 16777216) : pJoin (.str a) [.lst (ys.map D.str)] S = some (.str (Txt.join a ys), S) := by
  simp only [pJoin, seqOf, lstOf, Option.bind_some, strs_of, h, if_true]
theorem sum_le {l : List Nat} {b : Nat} (h : ∀ x ∈ l, x ≤ b) : l.sum ≤ l.length * b := by
  induction l with
  | nil => simp
  | cons x l ih =>
    have h1 := h x (List.mem_cons_self ..)
    have h2 := ih fun y hy => h y (List.mem_cons_of_mem _ hy)
    simp only [List.sum_cons, List.length_cons, Nat.succ_mul]
    omega
theorem dig_len {i : Int} (h : i = 0 ∨ i = 1) : (dig i).length = 1 := by rw [str_len, dig_tl h]; rfl
theorem text_ev {cal : Nat → List D → M D} {h w : Nat} {R : Rw} {S : Store} (F : Full h w R) : funM 3 1 (b__law_text cal) [rowsL R] S = .ok (.str (txt R)) S := by
  unfold b__law_text
  have hR : (R.map fun r => D.lst (iD r)).length ≤ sizeLine := by rw [List.length_map, F.len]; exact small (by have := F.h2; omega)
  have one : ∀ r ∈ R, ∀ δ : En, δ.length = 3 → (eMB "str" pJoin (eC (.str "")) (aCons (eLc newL (iAny (eVar 2)) (uNm 1) tYesM (eCallV (pStrI (strT cal)) (aCons (eVar 1) aNil)) [1]) aNil)) (δ.set 2 (some (.lst (iD r)))) S = .ok (.str (ln r)) S := by
    intro r hr δ hd
    obtain ⟨g1, g2⟩ := F.g r hr
    obtain ⟨a, b, c, rfl⟩ : ∃ a b c, δ = [a, b, c] := by
      match δ, hd with
      | [a, b, c], _ => exact ⟨a, b, c, rfl⟩
    have hl : (iD r).length ≤ sizeLine := by rw [iD_len, g1]; exact small (by have := F.w2; omega)
    have e := lc_map (ds := iD r) (S := S) (me := eCallV (pStrI (strT cal)) (aCons (eVar 1) aNil)) (δ0 := wipeD [a, b, some (.lst (iD r))] [1]) (k := 1) (fun d => match d with
      | .int i => .str (dig i)
      | d => d) hl (fun d hd => by
        obtain ⟨i, hi, rfl⟩ := List.mem_map.mp hd
        refine eCallV_ok (aCons_ok rfl rfl) ?_
        rcases g2 i hi with rfl | rfl <;> rfl)
    have e2 : ((iD r).map fun d => match d with
      | .int i => D.str (dig i)
      | d => d) = (r.map dig).map D.str := by simp [iD]
    rw [e2] at e
    have hs : (((r.map dig).map (·.length)).sum + (r.map dig).length * ("" : Str).length ≤ 16777216) := by
      have h1 := sum_le (l := (r.map dig).map (·.length)) (b := 1) fun x hx => by
        obtain ⟨y, hy, rfl⟩ := List.mem_map.mp hx
        obtain ⟨i, hi, rfl⟩ := List.mem_map.mp hy
        rw [dig_len (g2 i hi)]
        exact Nat.le_refl _
      have h0 : ("" : Str).length = 0 := by decide +kernel
      rw [h0]
      simp only [List.length_map] at h1 ⊢
      have := F.w2
      omega
    exact eMB_ok rfl rfl (aCons_ok (eLc_ok (iAny_ok rfl rfl) e (newL_ev (by rw [List.length_map, List.length_map, g1]; exact small (by have := F.w2; omega)))) rfl) (join_ok hs)
  have e := lc_map (ds := R.map fun r => D.lst (iD r)) (S := S) (me := (eMB "str" pJoin (eC (.str "")) (aCons (eLc newL (iAny (eVar 2)) (uNm 1) tYesM (eCallV (pStrI (strT cal)) (aCons (eVar 1) aNil)) [1]) aNil))) (δ0 := wipeD [some (rowsL R), none, none] [2]) (k := 2) (fun d => match d with
    | .lst xs => .str (Txt.join "" (xs.map fun d => match d with
      | .int i => dig i
      | _ => Str.empty))
    | d => d) hR (fun d hd => by
      obtain ⟨r, hr, rfl⟩ := List.mem_map.mp hd
      rw [one r hr _ rfl]
      simp only [iD, List.map_map, ln]
      rfl)
  have e2 : ((R.map fun r => D.lst (iD r)).map fun d => match d with
    | .lst xs => D.str (Txt.join "" (xs.map fun d => match d with
      | .int i => dig i
      | _ => Str.empty))
    | d => d) = (R.map ln).map D.str := by
    simp only [List.map_map]
    refine List.map_congr_left fun r _ => ?_
    simp only [Function.comp, iD, List.map_map, ln]
    rfl
  rw [e2] at e
  have hs : (((R.map ln).map (·.length)).sum + (R.map ln).length * ("\n" : Str).length ≤ 16777216) := by
    have h1 := sum_le (l := (R.map ln).map (·.length)) (b := 8) fun x hx => by
      obtain ⟨y, hy, rfl⟩ := List.mem_map.mp hx
      obtain ⟨r, hr, rfl⟩ := List.mem_map.mp hy
      obtain ⟨g1, g2⟩ := F.g r hr
      rw [ln_len g2, g1]
      exact F.w2
    have h0 : ("\n" : Str).length = 1 := by decide +kernel
    rw [h0]
    simp only [List.length_map] at h1 ⊢
    have := F.h2
    have := F.len
    omega
  exact funM_rt rfl (sRet_ok (eMB_ok rfl rfl (aCons_ok (eLc_ok (iAny_ok rfl rfl) e (newL_ev (by rw [List.length_map, List.length_map, F.len]; exact small (by have := F.h2; omega)))) rfl) (join_ok hs)))
def colOf (R : Rw) (k : Nat) : List Int := R.map fun r => r.getD k 0
theorem zip_rows {h w : Nat} {R : Rw} (F : Full h w R) : pZip (R.map fun r => D.tup (iD r)) = some ((List.range w).map fun k => .tup (iD (colOf R k))) := by
  have fz : ∀ R : Rw, frzs (R.map fun r => D.tup (iD r)) = some (R.map iD) := by
    intro R
    induction R with
    | nil => rfl
    | cons r R ih => simp only [List.map_cons, frzs, frz, ih]
  obtain ⟨r0, R', e⟩ : ∃ r0 R', R = r0 :: R' := by
    cases R with
    | nil => have := F.len; have := F.h1; simp at *; omega
    | cons r R => exact ⟨r, R, rfl⟩
  have g := F.g
  have hl := F.len
  have hh := F.h2
  subst e
  unfold pZip
  rw [fz]
  simp only [List.map_cons]
  have w0 := (g r0 (List.mem_cons_self ..)).1
  have hc : (R'.map iD).length < 9 ∧ ∀ y ∈ R'.map iD, y.length = (iD r0).length := by
    refine ⟨by simp at hl ⊢; omega, fun y hy => ?_⟩
    obtain ⟨r, hr, rfl⟩ := List.mem_map.mp hy
    rw [iD_len, iD_len, w0, (g r (List.mem_cons_of_mem _ hr)).1]
  rw [if_pos hc]
  unfold zipD
  rw [iD_len, w0]
  refine congrArg some (List.map_congr_left fun k hk => ?_)
  have hk' : k < w := List.mem_range.mp hk
  have gd : ∀ r ∈ r0 :: R', (iD r).getD k .non = .int (r.getD k 0) := fun r hr => by
    have := (g r hr).1
    have h2 : k < r.length := by omega
    have h3 : k < (iD r).length := by rw [iD_len]; omega
    rw [List.getD_eq_getElem?_getD, List.getD_eq_getElem?_getD, List.getElem?_eq_getElem h2, List.getElem?_eq_getElem h3, iD_get]
    rfl
  refine congrArg D.tup ?_
  rw [← List.map_cons (f := iD), List.map_map]
  simp only [iD, colOf, List.map_map]
  exact List.map_congr_left fun r hr => gd r hr
theorem full_ev {cal : Nat → List D → M D} {h w : Nat} {R : Rw} {S : Store} (F : Full h w R) : funM 3 1 (b_is_full cal) [rowsT R] S = .ok (.bl true) S := by
  unfold b_is_full
  have hR : (R.map fun r => D.tup (iD r)).length ≤ sizeLine := by rw [List.length_map, F.len]; exact small (by have := F.h2; omega)
  have e1 := lc_map (ds := R.map fun r => D.tup (iD r)) (S := S) (me := eOp pIn (eC (.int 1)) (eVar 1)) (δ0 := wipeD [some (rowsT R), none, none] [1]) (k := 1) (fun _ => .bl true) hR (fun d hd => by
    obtain ⟨r, hr, rfl⟩ := List.mem_map.mp hd
    exact eOp_ok rfl rfl (by rw [in_tup, decide_eq_true (F.row r hr)]))
  have e2 := lc_map (ds := (List.range w).map fun k => D.tup (iD (colOf R k))) (S := S) (me := eOp pIn (eC (.int 1)) (eVar 2)) (δ0 := wipeD [some (rowsT R), none, none] [2]) (k := 2) (fun _ => .bl true) (by rw [List.length_map, List.length_range]; exact small (by have := F.w2; omega)) (fun d hd => by
    obtain ⟨k, hk, rfl⟩ := List.mem_map.mp hd
    refine eOp_ok rfl rfl ?_
    rw [in_tup, decide_eq_true]
    obtain ⟨r, hr, e⟩ := F.col k (List.mem_range.mp hk)
    refine List.mem_map.mpr ⟨r, hr, ?_⟩
    rw [List.getD_eq_getElem?_getD, e]; rfl)
  have tt : ∀ l : List D, (l.map fun _ => D.bl true) = ((l.map fun _ => true).map D.bl) := fun l => by rw [List.map_map]; rfl
  have al : ∀ l : List D, (l.map fun _ => true).all id = true := fun l => by simp
  rw [tt] at e1 e2
  have h0 : pGt (.int ((R.map fun r => D.tup (iD r)).length : Int)) (.int 0) S = some (.bl true, S) := by
    rw [pGt_ii, decide_eq_true]
    rw [List.length_map, F.len]
    have := F.h1
    omega
  refine funM_rt rfl (sRet_ok (eAnd_t (eOp_ok (eCallV_ok (aCons_ok rfl rfl) pLen_tup) rfl h0) rfl (eAnd_t (eCallV_ok (aCons_ok (eLc_ok (iAny_ok rfl rfl) e1 (newL_ev (by simpa using hR))) rfl) all_ok) (by rw [al]; rfl) (eCallV_ok (aCons_ok (eLc_ok (iZip_ok (aStar_ok rfl rfl rfl) (by rw [List.append_nil]; exact zip_rows F)) e2 (newL_ev (by simp only [List.length_map, List.length_range]; exact small (by have := F.w2; omega)))) rfl) (by rw [all_ok, al])))))
theorem nl_tl : TL.tl ("\n" : Str) = 10 :: [] := by decide +kernel
theorem split_txt {h w : Nat} {R : Rw} (F : Full h w R) : Txt.split (txt R) "\n" = R.map ln := by
  unfold txt
  refine TL.split_join nl_tl (by decide +kernel) (fun e => ?_) fun p hp => ?_
  · have := F.len; have := F.h1
    have e' := List.map_eq_nil_iff.mp e
    subst e'
    simp at *
    omega
  · obtain ⟨r, hr, rfl⟩ := List.mem_map.mp hp
    rw [ln_tl (F.g r hr).2]
    intro hm
    obtain ⟨i, hi, e⟩ := List.mem_map.mp hm
    omega
theorem txt_len {h w : Nat} {R : Rw} (F : Full h w R) : (txt R).length ≤ 72 := by
  unfold txt
  rw [TL.join_eq]
  refine Nat.le_trans (StrLaws.join_length_le _ _) ?_
  have h1 := sum_le (l := (R.map ln).map (·.length)) (b := 8) fun x hx => by
    obtain ⟨y, hy, rfl⟩ := List.mem_map.mp hx
    obtain ⟨r, hr, rfl⟩ := List.mem_map.mp hy
    obtain ⟨g1, g2⟩ := F.g r hr
    rw [ln_len g2, g1]
    exact F.w2
  have h0 : ("\n" : Str).length = 1 := by decide +kernel
  rw [h0]
  simp only [List.length_map] at h1 ⊢
  have := F.h2
  have := F.len
  omega
theorem signs_ln {r : List Int} (g : ∀ i ∈ r, i = 0 ∨ i = 1) : signs (ln r) = r.map fun i => D.str ⟨#[48 + i.toNat]⟩ := by
  have : signs (ln r) = (TL.tl (ln r)).map fun c => D.str ⟨#[c]⟩ := rfl
  rw [this, ln_tl g, List.map_map]
  rfl
theorem len_str {x : Str} {S : Store} (h : x.length ≤ sizeLine) : pLen [.str x] S = some (.int x.length, S) := by simp only [pLen, h, if_true]
theorem read_ev {cal : Nat → List D → M D} {h w : Nat} {R : Rw} {S : Store} (F : Full h w R) (h9 : cal 9 [rowsT R] S = .ok (.bl true) S) : funM 5 1 (b_read_rows cal) [.str (txt R)] S = .ok (rowsT R) S := by
  unfold b_read_rows
  have hlen : ((R.map ln).map D.str).length = h := by simp [F.len]
  have hL : ((R.map ln).map D.str).length ≤ sizeLine := by rw [hlen]; exact small (by have := F.h2; omega)
  obtain ⟨r0, R', eR⟩ : ∃ r0 R', R = r0 :: R' := by
    cases R with
    | nil => have := F.len; have := F.h1; simp at *; omega
    | cons r R => exact ⟨r, R, rfl⟩
  have hr0 : r0 ∈ R := by rw [eR]; exact List.mem_cons_self ..
  have w0 : ∀ r ∈ R, (ln r).length = w := fun r hr => by rw [ln_len (F.g r hr).2, (F.g r hr).1]
  have wl : ∀ r ∈ R, (ln r).length ≤ sizeLine := fun r hr => by rw [w0 r hr]; exact small (by have := F.w2; omega)
  have ix0 : ∀ S, pIx (.lst ((R.map ln).map D.str)) (.int 0) S = some (.str (ln r0), S) := fun S => by
    refine (pIx_lst (k := 0) (S := S) (xs := (R.map ln).map D.str) (by rw [hlen]; exact F.h1)).trans ?_
    subst eR
    rfl
  have sp : pSplit (.str (txt R)) [.str "\n"] S = some (.lst ((R.map ln).map D.str), S) := by
    have h1 : (("\n" : Str).length == 0) = false := by decide +kernel
    have h2 : (txt R).length + 2 ≤ sizeLine := small (by have := txt_len F; omega)
    simp only [pSplit, h1, h2, and_self, if_true, split_txt F, newL_ev hL]
  -- every line is as it should be
  have good : ∀ r ∈ R, ∀ a b c d : Option D, (eAnd (eOp pEq (eCallV (pLen) (aCons (eVar 3) aNil)) (eCallV (pLen) (aCons (eOp pIx (eVar 1) (eC (.int 0))) aNil))) (eCallV (pAll true) (aCons (eLc newL (iAny (eVar 3)) (uNm 2) tYesM (eOp pIn (eVar 2) (eC (.str "01"))) [2]) aNil))) [a, some (.lst ((R.map ln).map D.str)), b, some (.str (ln r)), d] S = .ok (.bl true) S := by
    intro r hr a b c d
    obtain ⟨g1, g2⟩ := F.g r hr
    have e := lc_map (ds := signs (ln r)) (S := S) (me := eOp pIn (eVar 2) (eC (.str "01"))) (δ0 := wipeD [a, some (.lst ((R.map ln).map D.str)), b, some (.str (ln r)), d] [2]) (k := 2) (fun _ => .bl true) (by rw [signs_ln g2, List.length_map, g1]; exact small (by have := F.w2; omega)) (fun x hx => by
      rw [signs_ln g2] at hx
      obtain ⟨i, hi, rfl⟩ := List.mem_map.mp hx
      refine eOp_ok rfl rfl ?_
      rcases g2 i hi with rfl | rfl <;> rfl)
    have tt : ∀ l : List D, (l.map fun _ => D.bl true) = ((l.map fun _ => true).map D.bl) := fun l => by rw [List.map_map]; rfl
    rw [tt] at e
    refine eAnd_t (eOp_ok (eCallV_ok (aCons_ok rfl rfl) (len_str (wl r hr))) (eCallV_ok (aCons_ok (eOp_ok rfl rfl (ix0 _)) rfl) (len_str (wl r0 hr0))) (by rw [pEq_ii])) ?_ (eCallV_ok (aCons_ok (eLc_ok (iAny_ok rfl rfl) e (newL_ev (by rw [List.length_map, List.length_map, signs_ln g2, List.length_map, g1]; exact small (by have := F.w2; omega)))) rfl) (by rw [all_ok]; simp))
    rw [w0 r hr, w0 r0 hr0]
    simp [truD]
  have e1 := lc_map (ds := (R.map ln).map D.str) (S := S) (me := (eAnd (eOp pEq (eCallV (pLen) (aCons (eVar 3) aNil)) (eCallV (pLen) (aCons (eOp pIx (eVar 1) (eC (.int 0))) aNil))) (eCallV (pAll true) (aCons (eLc newL (iAny (eVar 3)) (uNm 2) tYesM (eOp pIn (eVar 2) (eC (.str "01"))) [2]) aNil)))) (δ0 := wipeD [some (.str (txt R)), some (.lst ((R.map ln).map D.str)), none, none, none] [3]) (k := 3) (fun _ => .bl true) hL (fun x hx => by
    obtain ⟨y, hy, rfl⟩ := List.mem_map.mp hx
    obtain ⟨r, hr, rfl⟩ := List.mem_map.mp hy
    exact good r hr _ _ none _)
  have tt : ∀ l : List D, (l.map fun _ => D.bl true) = ((l.map fun _ => true).map D.bl) := fun l => by rw [List.map_map]; rfl
  rw [tt] at e1
  -- the numbers
  let toT : D → D := fun d => match d with
    | .str x => .tup ((TL.tl x).map fun (c : Nat) => .int ((c : Int) - 48))
    | d => d
  have nums : ∀ r ∈ R, toT (.str (ln r)) = .tup (iD r) := fun r hr => by
    obtain ⟨g1, g2⟩ := F.g r hr
    show D.tup ((TL.tl (ln r)).map fun (c : Nat) => .int ((c : Int) - 48)) = _
    rw [ln_tl g2, List.map_map]
    refine congrArg D.tup (List.map_congr_left fun i hi => ?_)
    rcases g2 i hi with rfl | rfl <;> rfl
  have e2 := lc_map (ds := (R.map ln).map D.str) (S := S) (me := (eCallV pTuple (aCons (eLc newL (iAny (eVar 3)) (uNm 2) tYesM (eCallV pInt (aCons (eVar 2) aNil)) [2]) aNil))) (δ0 := wipeD [some (.str (txt R)), some (.lst ((R.map ln).map D.str)), none, none, none] [3]) (k := 3) toT hL (fun x hx => by
    obtain ⟨y, hy, rfl⟩ := List.mem_map.mp hx
    obtain ⟨r, hr, rfl⟩ := List.mem_map.mp hy
    obtain ⟨g1, g2⟩ := F.g r hr
    rw [nums r hr]
    have e := lc_map (ds := signs (ln r)) (S := S) (me := eCallV pInt (aCons (eVar 2) aNil)) (δ0 := wipeD [some (.str (txt R)), some (.lst ((R.map ln).map D.str)), none, some (.str (ln r)), none] [2]) (k := 2) (fun d => match d with
      | .str x => .int (((TL.tl x).getD 0 0 : Nat) - 48)
      | d => d) (by rw [signs_ln g2, List.length_map, g1]; exact small (by have := F.w2; omega)) (fun x hx => by
        rw [signs_ln g2] at hx
        obtain ⟨i, hi, rfl⟩ := List.mem_map.mp hx
        refine eCallV_ok (aCons_ok rfl rfl) ?_
        rcases g2 i hi with rfl | rfl
        · have i0 : PySem.intText? ⟨#[48 + Int.toNat 0]⟩ = some 0 := by decide +kernel
          have l0 : (⟨#[48 + Int.toNat 0]⟩ : Str).length ≤ 640 := by decide +kernel
          simp only [pInt, l0, if_true, i0, Option.map_some]
          rfl
        · have i0 : PySem.intText? ⟨#[48 + Int.toNat 1]⟩ = some 1 := by decide +kernel
          have l0 : (⟨#[48 + Int.toNat 1]⟩ : Str).length ≤ 640 := by decide +kernel
          simp only [pInt, l0, if_true, i0, Option.map_some]
          rfl)
    have e3 : ((signs (ln r)).map fun d => match d with
      | .str x => D.int (((TL.tl x).getD 0 0 : Nat) - 48)
      | d => d) = iD r := by
      rw [signs_ln g2, List.map_map]
      refine List.map_congr_left fun i hi => ?_
      rcases g2 i hi with rfl | rfl <;> rfl
    rw [e3] at e
    have hw : (iD r).length ≤ sizeLine := by rw [iD_len, g1]; exact small (by have := F.w2; omega)
    exact eCallV_ok (aCons_ok (eLc_ok (iAny_ok rfl rfl) e (newL_ev hw)) rfl) (by simp only [pTuple, lstOf, Option.bind_some, newT_ev hw]))
  have e4 : ((R.map ln).map D.str).map toT = R.map fun r => .tup (iD r) := by
    rw [List.map_map, List.map_map]
    exact List.map_congr_left fun r hr => nums r hr
  rw [e4] at e2
  have hR : (R.map fun r => D.tup (iD r)).length ≤ sizeLine := by rw [List.length_map, F.len]; exact small (by have := F.h2; omega)
  have g8 : pGt (.int (((R.map ln).map D.str).length : Int)) (.int 8) S = some (.bl false, S) := by
    rw [pGt_ii, hlen, decide_eq_false (by have := F.h2; omega)]
  have c1 : pLe (.int 1) (.int ((ln r0).length : Int)) S = some (.bl true, S) := by rw [pLe_ii, w0 r0 hr0, decide_eq_true (by have := F.w1; omega)]
  have c2 : pLe (.int ((ln r0).length : Int)) (.int 8) S = some (.bl true, S) := by rw [pLe_ii, w0 r0 hr0, decide_eq_true (by have := F.w2; omega)]
  refine funM_rt rfl (sSeq_nx (sIf_f (tNot_ok (b := true) (tru_ok (eIsi_ok rfl rfl rfl) rfl)) rfl) (sSeq_nx (sAsg_ok (eMB_ok rfl rfl (aCons_ok rfl rfl) sp) rfl)
    (sSeq_nx (sIf_f (tOr_f (asB_ok (eOp_ok (eCallV_ok (aCons_ok rfl rfl) pLen_lst) rfl g8)) (tNot_ok (b := true) (asB_ok (eChain_t rfl (eCallV_ok (aCons_ok (eOp_ok rfl rfl (ix0 _)) rfl) (len_str (wl r0 hr0))) c1 rfl c2)))) rfl)
    (sSeq_nx (sIf_f (tNot_ok (b := true) (tru_ok (eCallV_ok (aCons_ok (eLc_ok (iAny_ok rfl rfl) e1 (newL_ev (by simpa using hL))) rfl) all_ok) (by rw [show ∀ l : List D, (l.map fun _ => true).all id = true from fun l => by simp]; rfl))) rfl)
    (sSeq_nx (sAsg_ok (eCallV_ok (aCons_ok (eLc_ok (iAny_ok rfl rfl) e2 (newL_ev hR)) rfl) (tuple_lst hR)) rfl)
    (sRet_ok (eIf_t (tru_ok (eCal_ok (aCons_ok rfl rfl) h9) rfl) rfl)))))))
def tabD (h w : Nat) (R : Rw) : D := .ins "Table" [("text", .str (txt R)), ("rows", rowsT R), ("height", .int h), ("width", .int w)]
theorem table_ev {cal : Nat → List D → M D} {h w : Nat} {R : Rw} {S : Store} (F : Full h w R) (h7 : cal 7 [.str (txt R)] S = .ok (rowsT R) S) : M.bind (initM 3 1 (b_Table cal) [.str (txt R)]) (fun fs => M.pure (.ins "Table" fs)) S = .ok (tabD h w R) S := by
  have key : initM 3 1 (b_Table cal) [.str (txt R)] S = .ok [("text", .str (txt R)), ("rows", rowsT R), ("height", .int h), ("width", .int w)] S := by
    unfold b_Table
    obtain ⟨r0, R', eR⟩ : ∃ r0 R', R = r0 :: R' := by
      cases R with
      | nil => have := F.len; have := F.h1; simp at *; omega
      | cons r R => exact ⟨r, R, rfl⟩
    have hr0 : r0 ∈ R := by rw [eR]; exact List.mem_cons_self ..
    have ix0 : pIx (rowsT R) (.int 0) S = some (.tup (iD r0), S) := by
      unfold rowsT
      refine (pIx_tup (k := 0) (S := S) (xs := R.map fun r => D.tup (iD r)) (by rw [List.length_map, F.len]; exact F.h1)).trans ?_
      subst eR
      rfl
    have l1 : pLen [rowsT R] S = some (.int h, S) := by
      unfold rowsT
      rw [pLen_tup, List.length_map, F.len]
    have l2 : pLen [.tup (iD r0)] S = some (.int w, S) := by rw [pLen_tup, iD_len, (F.g r0 hr0).1]
    exact initM_ok rfl (iOrd_nx (sAsg_ok (eCal_ok (aCons_ok rfl rfl) h7) rfl) (iOrd_nx (sIf_f (asB_ok (eOp_ok (x := rowsT R) rfl rfl rfl)) rfl) (iSets_ok (eTup_ok (aCons_ok rfl (aCons_ok (x := rowsT R) rfl rfl)) (small (by simp))) rfl rfl (iSets_ok (eTup_ok (aCons_ok (eCallV_ok (aCons_ok (x := rowsT R) rfl rfl) l1) (aCons_ok (eCallV_ok (aCons_ok (eOp_ok (x := rowsT R) rfl rfl ix0) rfl) l2) rfl)) (small (by simp))) rfl rfl rfl))))
  show M.bind _ _ S = _
  simp only [M.bind, key, M.pure]
  rfl
theorem check_table_ev {cal : Nat → List D → M D} {h w : Nat} {R : Rw} {S : Store} : funM 1 1 (b_check_table cal) [tabD h w R] S = .ok .non S := by
  unfold b_check_table
  rfl
end Sp
/-! # draws -/
namespace Sp
open PySem L2 Ev Bd
def At (J : List D → Prop) (t : Nat) (S : Store) : Prop := ∃ c, S[t]? = some (some (.lst c)) ∧ J c
def Fr (t : Nat) (S S' : Store) : Prop := S.length ≤ S'.length ∧ ∀ j, j < S.length → j ≠ t → S'[j]? = S[j]?
section
variable {J : List D → Prop} {t j : Nat} {S S' S2 : Store} {x : Option Cell}
theorem At.lt (h : At J t S) : t < S.length := by
  obtain ⟨c, h1, _⟩ := h
  exact (List.getElem?_eq_some_iff.mp h1).1
theorem Fr.refl : Fr t S S := ⟨Nat.le_refl _, fun _ _ _ => rfl⟩
theorem Fr.trans (h : Fr t S S') (h2 : Fr t S' S2) : Fr t S S2 := ⟨Nat.le_trans h.1 h2.1, fun j hj hn => (h2.2 j (Nat.lt_of_lt_of_le hj h.1) hn).trans (h.2 j hj hn)⟩
theorem Fr.app {X : Store} : Fr t S (S ++ X) := ⟨by simp, fun j hj _ => List.getElem?_append_left hj⟩
theorem Fr.own : Fr t S (S.set t x) := ⟨by simp, fun j _ hn => List.getElem?_set_ne (Ne.symm hn)⟩
theorem Fr.new (h : S.length ≤ j) (h2 : Fr t S S') : Fr t S (S'.set j x) := ⟨by simpa using h2.1, fun i hi hn => by rw [List.getElem?_set_ne (by omega)]; exact h2.2 i hi hn⟩
theorem At.other (h : At J t S) (hj : t ≠ j) : At J t (S.set j x) := by
  obtain ⟨c, h1, h2⟩ := h
  exact ⟨c, by rw [List.getElem?_set_ne (Ne.symm hj)]; exact h1, h2⟩
theorem At.app {X : Store} (h : At J t S) : At J t (S ++ X) := by
  obtain ⟨c, h1, h2⟩ := h
  exact ⟨c, by rw [List.getElem?_append_left (List.getElem?_eq_some_iff.mp h1).1]; exact h1, h2⟩
end
/-- a number from 0 to m - 1 is drawn -/
structure Drw (J : List D → Prop) (dr : List D → M D) : Prop where
  go : ∀ (t : Nat) (S : Store) (m : Int), At J t S → 0 < m → m < 1073741824 → ∃ f S', dr [.ref t, .int m] S = .ok (.int f) S' ∧ 0 ≤ f ∧ f < m ∧ At J t S' ∧ Fr t S S' ∧ S'.length = S.length
def ReedJ (c : List D) : Prop := ∃ a b : Int, c = [.int a, .int b] ∧ 0 ≤ b
theorem set_get {S : Store} {t : Nat} {c c' : Cell} (h : S[t]? = some (some c)) : (S.set t (some c'))[t]? = some (some c') := by
  rw [List.getElem?_set_self (List.getElem?_eq_some_iff.mp h).1]
theorem store_ref {S : Store} {t k : Nat} {xs : List D} {v : D} (hS : S[t]? = some (some (.lst xs))) (hk : k < xs.length) : pStore (.ref t) (.int k) v S = some (S.set t (some (.lst (xs.set k v)))) := by
  have h0 : (0 : Int) ≤ k := by omega
  have h1 : (k : Int) < (xs.length : Int) := by omega
  simp only [pStore, hS, ixN, h0, h1, if_true, Option.map_some, Int.toNat_natCast]
theorem dip_drw {cal : Nat → List D → M D} : Drw ReedJ (funM 3 2 (b__law_dip cal)) := ⟨fun t S m h hm hm2 => by
  obtain ⟨_, hS, a, b, rfl, hb⟩ := h
  unfold b__law_dip
  by_cases h : 0 < b
  · have g1 := store_ref (v := .int (b / m)) (k := 1) hS (by simp)
    refine ⟨b % m, _, ?_, Int.emod_nonneg _ (by omega), Int.emod_lt_of_pos _ hm, ⟨[.int a, .int (b / m)], set_get hS, a, b / m, rfl, Int.ediv_nonneg hb (by omega)⟩, Fr.own, by simp⟩
    refine funM_rt rfl (sSeq_rt (sIf_t (asB_ok (eOp_ok (eOp_ok rfl rfl (pIx_ref (k := 1) hS (by simp))) rfl ?_)) (sSeq_nx (sAsg_ok (eCallV_ok (aCons_ok (eOp_ok rfl rfl (pIx_ref (k := 1) hS (by simp))) (aCons_ok rfl rfl)) (z := .tup [.int (b / m), .int (b % m)]) (S2 := S) ?_) (gTp2_ok (gSb_ok rfl rfl g1) rfl)) (sRet_ok rfl))))
    · simp only [List.getElem_cons_succ, List.getElem_cons_zero]; rw [pGt_ii, decide_eq_true h]
    · simp only [List.getElem_cons_succ, List.getElem_cons_zero, pDivmod, hm, hm2, and_self, if_true]
  · have h0 : b = 0 := by omega
    subst h0
    have g0 := store_ref (v := .int ((a * 40093 + 6101) % 2147482277)) (k := 0) hS (by simp)
    have g1 := set_get (c' := .lst [.int ((a * 40093 + 6101) % 2147482277), .int 0]) hS
    refine ⟨((a * 40093 + 6101) % 2147482277 / 256) % m, _, ?_, Int.emod_nonneg _ (by omega), Int.emod_lt_of_pos _ hm, ⟨_, g1, _, 0, rfl, Int.le_refl _⟩, Fr.own, by simp⟩
    refine funM_rt rfl (sSeq_nx (sIf_f (asB_ok (eOp_ok (eOp_ok rfl rfl (pIx_ref (k := 1) hS (by simp))) rfl rfl)) rfl)
      (sSeq_nx (sAsg_ok (eOp_ok (eCallV_ok (aCons_ok (eOp_ok (eOp_ok (eOp_ok rfl rfl (pIx_ref (k := 0) hS (by simp))) rfl (pMul_ii (mul_r (by omega) (by omega)))) rfl pAdd_ii) rfl) pInt_i) rfl (pMod_ii (by omega))) (gSb_ok rfl rfl g0))
      (sRet_ok (eOp_ok (eCallV_ok (aCons_ok (eOp_ok (eOp_ok rfl rfl (pIx_ref (k := 0) g1 (by simp))) rfl (pFdiv_ii (by omega) (by omega))) rfl) pInt_i) rfl (pMod_ii hm)))))⟩
/-! freezing what has no cells -/
theorem frzDs_id {n : Nat} {S : Store} : ∀ {ds : List D}, (∀ x ∈ ds, ∀ S, frzD n x S = some (x, S)) → frzDs n ds S = some (ds, S)
  | [], _ => by simp [frzDs]
  | d :: ds, h => by
    rw [frzDs, h d (List.mem_cons_self ..)]
    simp only [Option.bind_some, frzDs_id (ds := ds) fun x hx => h x (List.mem_cons_of_mem _ hx), Option.map_some]
theorem frz_int {n : Nat} {S : Store} {i : Int} : frzD n (.int i) S = some (.int i, S) := by cases n <;> simp only [frzD]
theorem frz_ints {n : Nat} {S : Store} {r : List Int} : frzDs n (iD r) S = some (iD r, S) := frzDs_id fun x hx S => by
  obtain ⟨i, _, rfl⟩ := List.mem_map.mp hx
  exact frz_int
theorem frz_lI {n : Nat} {S : Store} {r : List Int} : frzD (n + 1) (lI r) S = some (lI r, S) := by simp only [frzD, frz_ints, Option.map_some]
theorem frz_tI {n : Nat} {S : Store} {r : List Int} : frzD (n + 1) (tI r) S = some (tI r, S) := by simp only [frzD, frz_ints, Option.map_some]
def mixedT (dr : List D → M D) : MS :=
    (sSeq (sPar2 2 3 (aCons (eCallV (pList newC) (aCons (eVar 1) aNil)) (aCons (eLstC aNil) aNil)))
    (sSeq (sFor (iR1 (aCons (eCallV (pLen) (aCons (eVar 1) aNil)) aNil)) (gNm 4) (sExpr (eMB "list" pAppend (eVar 3) (aCons (eMB "list" pPop (eVar 2) (aCons (eCal dr (aCons (eVar 0) (aCons (eCallV (pLen) (aCons (eVar 2) aNil)) aNil))) aNil)) aNil))))
    (sRet (eFrz (eVar 3)))))
theorem pop_ref {S : Store} {n k : Nat} {xs : List D} (h : S[n]? = some (some (.lst xs))) (hk : k < xs.length) (hl : xs.length ≤ 1000000) : pPop (.ref n) [.int k] S = some (xs[k], S.set n (some (.lst (xs.eraseIdx k)))) := by
  have h0 : (0 : Int) ≤ k := by omega
  have h1 : (k : Int) < xs.length := by omega
  have h2 : (k : Int) < 2 ^ 63 := by omega
  simp only [pPop, h, h0, h1, h2, and_self, if_true, Int.toNat_natCast, List.getElem?_eq_getElem hk, Option.map_some]
theorem app_ref {S : Store} {n : Nat} {xs : List D} {y : D} (h : S[n]? = some (some (.lst xs))) (hl : xs.length < sizeLine) : pAppend (.ref n) [y] S = some (.non, S.set n (some (.lst (xs ++ [y])))) := by
  simp only [pAppend, h, hl, if_true]
theorem ty_ref {S : Store} {n : Nat} {xs : List D} (h : S[n]? = some (some (.lst xs))) : tyD "list" S (.ref n) = true := by
  simp [tyD, lstOf, h]
theorem erase_perm {α : Type} : ∀ {l : List α} {k : Nat} (h : k < l.length), (l[k] :: l.eraseIdx k).Perm l
  | a :: l, 0, _ => by simp
  | a :: l, k + 1, h => by
    have h' : k < l.length := by simpa using h
    have := erase_perm h'
    simp only [List.getElem_cons_succ, List.eraseIdx_cons_succ]
    exact (List.Perm.swap ..).trans (this.cons a)
theorem mixed_gen {J : List D → Prop} {dr : List D → M D} (hd : Drw J dr) {xs : List D} {S : Store} {t : Nat} (hat : At J t S) (hn : xs.length ≤ 1000) (hp : ∀ x ∈ xs, ∀ S, frzD 3 x S = some (x, S)) :
    ∃ ys S', funM 5 2 (mixedT dr) [.ref t, .lst xs] S = .ok (.lst ys) S' ∧ ys.Perm xs ∧ At J t S' ∧ Fr t S S' := by
  have hts := hat.lt
  obtain ⟨δ2, S2, e2, ⟨o, rfl⟩, left, found, q1, q2, q3, q4, q5, q6, q7⟩ := loop_inv (mg := gNm 4) (mb := (sExpr (eMB "list" pAppend (eVar 3) (aCons (eMB "list" pPop (eVar 2) (aCons (eCal dr (aCons (eVar 0) (aCons (eCallV (pLen) (aCons (eVar 2) aNil)) aNil))) aNil)) aNil))))
    (ds := rngD 0 xs.length) (δ := [some (.ref t), some (.lst xs), some (.ref S.length), some (.ref (S.length + 1)), none]) (S := S ++ [some (.lst xs)] ++ [some (.lst [])])
    (fun k δ S' => (∃ o, δ = ([some (.ref t), some (.lst xs), some (.ref S.length), some (.ref (S.length + 1)), o] : En)) ∧ ∃ left found : List D, S'[S.length]? = some (some (.lst left)) ∧ S'[S.length + 1]? = some (some (.lst found)) ∧ left.length + k = xs.length ∧ found.length = k ∧ (found ++ left).Perm xs ∧ At J t S' ∧ Fr t S S') (by
      rintro k δ S' hk ⟨⟨o, rfl⟩, left, found, r1, r2, r3, r4, r5, r6, r7⟩
      rw [rng_get]
      rw [rng_len] at hk
      refine ⟨_, _, rfl, ?_⟩
      obtain ⟨f, S3, e3, f0, f1, a3, fr3, l3⟩ := hd.go t S' (left.length : Int) r6 (by omega) (by omega)
      obtain ⟨f, rfl⟩ := Int.eq_ofNat_of_zero_le f0
      have hf : f < left.length := by omega
      have g1 : S3[S.length]? = some (some (.lst left)) := by rw [fr3.2 _ (List.getElem?_eq_some_iff.mp r1).1 (by omega)]; exact r1
      have g2 : S3[S.length + 1]? = some (some (.lst found)) := by rw [fr3.2 _ (List.getElem?_eq_some_iff.mp r2).1 (by omega)]; exact r2
      have g3 : (S3.set S.length (some (.lst (left.eraseIdx f))))[S.length + 1]? = some (some (.lst found)) := by rw [List.getElem?_set_ne (by omega)]; exact g2
      refine ⟨_, _, sExpr_ok (eMB_ok rfl (ty_ref r2) (aCons_ok (eMB_ok rfl (ty_ref r1) (aCons_ok (eCal_ok (aCons_ok rfl (aCons_ok (eCallV_ok (aCons_ok rfl rfl) (pLen_ref r1)) rfl)) e3) rfl) (pop_ref g1 hf (by omega))) rfl) (app_ref g3 (Nat.lt_of_lt_of_le (show found.length < 1000000 by omega) (small (Nat.le_refl _))))), ⟨_, rfl⟩, left.eraseIdx f, found ++ [left[f]], ?_, ?_, ?_, by simp [r4], ?_, ?_, ?_⟩
      · rw [List.getElem?_set_ne (by omega)]; exact set_get g1
      · exact set_get g3
      · rw [List.length_eraseIdx, if_pos hf]; omega
      · refine List.Perm.trans ?_ r5
        rw [List.append_assoc]
        refine List.Perm.append_left _ ?_
        exact erase_perm hf
      · exact (a3.other (by omega)).other (by omega)
      · exact Fr.new (by omega) (Fr.new (Nat.le_refl _) (r7.trans fr3))) ⟨⟨none, rfl⟩, xs, [], by simp, by simp, by simp, rfl, by simp, hat.app.app, Fr.app.trans Fr.app⟩
  rw [rng_len] at q3 q4
  have hl : left = [] := List.length_eq_zero_iff.mp (by omega)
  subst hl
  rw [List.append_nil] at q5
  have hfz : frzDs 3 found (S2.set (S.length + 1) none) = some (found, S2.set (S.length + 1) none) := frzDs_id fun x hx S => hp x (q5.mem_iff.mp hx) S
  refine ⟨found, S2.set (S.length + 1) none, ?_, q5, q6.other (by omega), Fr.new (by omega) q7⟩
  unfold mixedT
  have hl1 : (S ++ [some (Cell.lst xs)]).length = S.length + 1 := by simp
  have c1 : eCallV (pList newC) (aCons (eVar 1) aNil) [some (.ref t), some (.lst xs), none, none, none] S = .ok (.ref S.length) (S ++ [some (.lst xs)]) := eCallV_ok (aCons_ok rfl rfl) (by simp only [pList, seqOf, lstOf, Option.bind_some, newC_ev (small (show xs.length ≤ 1000000 by omega))])
  have c2 : eLstC aNil [some (.ref t), some (.lst xs), none, none, none] (S ++ [some (.lst xs)]) = .ok (.ref (S.length + 1)) (S ++ [some (.lst xs)] ++ [some (.lst [])]) := by rw [eLstC_ok rfl (Nat.zero_le _), hl1]
  have c3 : frzD 4 (.ref (S.length + 1)) S2 = some (.lst found, S2.set (S.length + 1) none) := by simp only [frzD, q2, hfz, Option.map_some]
  exact funM_rt rfl (sSeq_nx (sPar2_ok (aCons_ok c1 (aCons_ok c2 rfl))) (sSeq_nx (sFor_ok (iR1_ok (k := xs.length) (aCons_ok (eCallV_ok (aCons_ok rfl rfl) pLen_lst) rfl) (by omega)) e2) (sRet_ok (eFrz_ok rfl c3))))
end Sp
/-! # drawn grids -/
namespace Sp
open PySem L2 Ev Bd
def Cells (s : Nat) (R : Rw) (S : Store) : Prop := ∀ (i : Nat) (r : List Int), R[i]? = some r → S[s + i]? = some (some (.lst (iD r)))
def refs (s n : Nat) : List D := (List.range' s n).map D.ref
theorem refs_len {s n : Nat} : (refs s n).length = n := by simp [refs]
theorem refs_get {s n i : Nat} (h : i < (refs s n).length) : (refs s n)[i] = .ref (s + i) := by simp [refs]
theorem refs_snoc {s n : Nat} : refs s (n + 1) = refs s n ++ [.ref (s + n)] := by simp [refs, List.range'_concat]
section
variable {J : List D → Prop} {t s j k w : Nat} {S S' : Store} {R : Rw} {r : List Int}
theorem Cells.fr (h : Cells s R S) (hf : Fr t S S') (ht : t < s) : Cells s R S' := fun i r e => by
  have h1 := h i r e
  rw [hf.2 _ (List.getElem?_eq_some_iff.mp h1).1 (by omega)]; exact h1
theorem Cells.put {i : Nat} {r' : List Int} (h : Cells s R S) (hi : R[i]? = some r) : Cells s (R.set i r') (S.set (s + i) (some (.lst (iD r')))) := fun j q e => by
  by_cases hj : i = j
  · subst hj
    rw [List.getElem?_set_self (List.getElem?_eq_some_iff.mp hi).1] at e
    cases e
    exact set_get (h i r hi)
  · rw [List.getElem?_set_ne hj] at e
    rw [List.getElem?_set_ne (by omega)]
    exact h j q e
theorem toPS_ref (h : S[j]? = some (some (.lst (iD r)))) : toPS S (.ref j) = some (.list (r.map PyData.int)) := by
  simp [toPS, plstOf, h, toPs_ints]
theorem in_ref (h : S[j]? = some (some (.lst (iD r)))) : pIn (.int 1) (.ref j) S = some (.bl (decide ((1 : Int) ∈ r)), S) := by
  simp only [pIn, inD, toPS_ref h]
  simp only [toPS, PyData.depth, Nat.zero_le, if_true, any_one, Option.map_some]
theorem notin_ref (h : S[j]? = some (some (.lst (iD r)))) : pNotIn (.int 1) (.ref j) S = some (.bl (!decide ((1 : Int) ∈ r)), S) := by
  simp only [pNotIn, inD, toPS_ref h]
  simp only [toPS, PyData.depth, Nat.zero_le, if_true, any_one, Option.map_some]
theorem any_int (r : List Int) (x : Int) : ((r.map PyData.int).any fun b => PyData.eqv b (.int x)) = decide (x ∈ r) := by
  induction r with
  | nil => rfl
  | cons i r ih =>
    simp only [List.map_cons, List.any_cons, ih, PyData.eqv]
    by_cases h : i = x
    · subst h; simp
    · have : (x ∈ i :: r) ↔ x ∈ r := by simp; exact fun e => absurd e.symm h
      simp [h, this]
theorem in_lI {x : Int} : pIn (.int x) (lI r) S = some (.bl (decide (x ∈ r)), S) := by
  simp only [pIn, inD, toPS, toPSs_ints, Option.map_some, PyData.depth, Nat.zero_le, if_true, any_int]
theorem notin_lI {x : Int} : pNotIn (.int x) (lI r) S = some (.bl (!decide (x ∈ r)), S) := by
  simp only [pNotIn, inD, toPS, toPSs_ints, Option.map_some, PyData.depth, Nat.zero_le, if_true, any_int]
theorem in_tI {x : Int} : pIn (.int x) (tI r) S = some (.bl (decide (x ∈ r)), S) := by
  simp only [pIn, inD, toPS, toPSs_ints, Option.map_some, PyData.depth, Nat.zero_le, if_true, any_int]
theorem notin_tI {x : Int} : pNotIn (.int x) (tI r) S = some (.bl (!decide (x ∈ r)), S) := by
  simp only [pNotIn, inD, toPS, toPSs_ints, Option.map_some, PyData.depth, Nat.zero_le, if_true, any_int]
theorem store_row {v : Int} (h : S[j]? = some (some (.lst (iD r)))) (hk : k < r.length) : pStore (.ref j) (.int k) (.int v) S = some (S.set j (some (.lst (iD (r.set k v))))) := by
  rw [store_ref h (by rw [iD_len]; exact hk)]
  simp [iD]
theorem g01_set {i : Nat} {v : Int} (hv : v = 0 ∨ v = 1) (h : G01 w R) (hi : R[i]? = some r) : G01 w (R.set i (r.set k v)) := fun q hq => by
  rcases List.mem_or_eq_of_mem_set hq with hq | rfl
  · exact h q hq
  · have hr := h r (List.mem_of_getElem? hi)
    refine ⟨by simp [hr.1], fun z hz => ?_⟩
    rcases List.mem_or_eq_of_mem_set hz with hz | rfl
    · exact hr.2 z hz
    · exact hv
theorem frz_refs : ∀ (R : Rw) (s : Nat) (S : Store), Cells s R S → ∃ S', frzDs 3 (refs s R.length) S = some (R.map lI, S') ∧ S'.length = S.length ∧ ∀ j, j < s → S'[j]? = S[j]?
  | [], s, S, _ => ⟨S, by simp [refs, frzDs], rfl, fun _ _ => rfl⟩
  | r :: R, s, S, h => by
    have h0 := h 0 r rfl
    have hR : Cells (s + 1) R (S.set s none) := fun i q e => by
      rw [List.getElem?_set_ne (by omega), show s + 1 + i = s + (i + 1) by omega]
      exact h (i + 1) q (by simpa using e)
    obtain ⟨S', e, l, k⟩ := frz_refs R (s + 1) (S.set s none) hR
    refine ⟨S', ?_, by simpa using l, fun j hj => by rw [k j (by omega), List.getElem?_set_ne (by omega)]⟩
    have er : refs s (r :: R).length = .ref s :: refs (s + 1) R.length := by simp [refs, List.range'_succ]
    rw [er, frzDs]
    have e1 : frzD 3 (.ref s) S = some (.lst (iD r), S.set s none) := by
      simp only [frzD, show S[s]? = some (some (.lst (iD r))) from h0, frz_ints, Option.map_some]
    rw [e1]
    simp only [Option.bind_some, e, Option.map_some, List.map_cons]
theorem frz_rows (h : Cells s R S) : ∃ S', frzD 4 (.lst (refs s R.length)) S = some (rowsL R, S') ∧ S'.length = S.length ∧ ∀ j, j < s → S'[j]? = S[j]? := by
  obtain ⟨S', e, l, k⟩ := frz_refs R s S h
  exact ⟨S', by simp only [frzD, e, Option.map_some], l, k⟩
end
theorem ix_ref {S : Store} {j k : Nat} {r : List Int} (h : S[j]? = some (some (.lst (iD r)))) (hk : k < r.length) : pIx (.ref j) (.int k) S = some (.int (r.getD k 0), S) := by
  rw [pIx_ref (k := k) h (by rw [iD_len]; exact hk)]
  simp only [iD, List.getElem_map, List.getD_eq_getElem?_getD, List.getElem?_eq_getElem hk, Option.getD_some]
theorem getD_row {R : Rw} {i : Nat} {r : List Int} (hr : R[i]? = some r) : R.getD i [] = r := by rw [List.getD_eq_getElem?_getD, hr]; rfl
/-- the grid of cells at s -/
structure Gr (J : List D → Prop) (t : Nat) (S0 : Store) (s h w : Nat) (R : Rw) (S : Store) : Prop where
  len : R.length = h
  g : G01 w R
  c : Cells s R S
  a : At J t S
  f : Fr t S0 S
theorem rows_at {J : List D → Prop} {t s h w : Nat} {S0 S : Store} {R : Rw} (G : Gr J t S0 s h w R S) {i : Nat} (hi : i < h) : ∃ r, R[i]? = some r ∧ S[s + i]? = some (some (.lst (iD r))) ∧ r.length = w := by
  have hjR : i < R.length := by rw [G.len]; exact hi
  exact ⟨R[i], List.getElem?_eq_getElem hjR, G.c i _ (List.getElem?_eq_getElem hjR), (G.g _ (List.getElem_mem hjR)).1⟩
theorem any_ev {J : List D → Prop} {cal : Nat → List D → M D} (hd : Drw J (cal 60)) {t h w : Nat} {S : Store} (ht : At J t S) (h1 : 0 < h) (h2 : h ≤ 8) (w1 : 0 < w) (w2 : w ≤ 8) :
    ∃ R S', funM 8 3 (b__law_any cal) [.ref t, .int h, .int w] S = .ok (.lst (refs S.length h)) S' ∧ Gr J t S S.length h w R S' := by
  have hts := ht.lt
  obtain ⟨f, S1, e1, f0, f1, a1, fr1, l1⟩ := hd.go t S 4 ht (by omega) (by omega)
  -- one row
  have line : ∀ (δ : En) (S2 : Store), δ[0]? = some (some (.ref t)) → δ[3]? = some (some (.int (2 + f))) → δ.length = 8 → At J t S2 → ∃ r S', loopC (uNm 5) tYesM (eCallV pInt (aCons (eOp pEq (eCal (cal 60) (aCons (eVar 0) (aCons (eVar 3) aNil))) (eC (.int 0))) aNil)) δ (rngD 0 w) [] S2 = .ok (iD r) S' ∧ At J t S' ∧ Fr t S2 S' ∧ S'.length = S2.length ∧ r.length = w ∧ ∀ i ∈ r, i = 0 ∨ i = 1 := by
    intro δ S2 d0 d3 dl hS
    obtain ⟨ys, S', e, r, rfl, p1, p2, p3, p4, p5⟩ := lc_inv (up := uNm 5) (mt := tYesM) (me := eCallV pInt (aCons (eOp pEq (eCal (cal 60) (aCons (eVar 0) (aCons (eVar 3) aNil))) (eC (.int 0))) aNil)) (δ0 := δ) (ds := rngD 0 w) (S := S2)
      (fun k acc S' => ∃ r, acc = iD r ∧ At J t S' ∧ Fr t S2 S' ∧ S'.length = S2.length ∧ r.length = k ∧ ∀ i ∈ r, i = 0 ∨ i = 1) (by
        rintro k acc S' hk ⟨r, rfl, r1, r2, r3, r4, r5⟩
        rw [rng_len] at hk
        obtain ⟨g, S3, eg, g0, g1, ag, frg, lg⟩ := hd.go t S' (2 + f) r1 (by omega) (by omega)
        have v0 : ∀ S', eVar 0 (δ.set 5 (some (rngD 0 w)[k])) S' = .ok (.ref t) S' := fun S' => eVarR (by rw [List.getElem?_set_ne (show 5 ≠ 0 by decide)]; exact d0) (by intro z; cases z)
        have v3 : ∀ S', eVar 3 (δ.set 5 (some (rngD 0 w)[k])) S' = .ok (.int (2 + f)) S' := fun S' => eVarR (by rw [List.getElem?_set_ne (show 5 ≠ 3 by decide)]; exact d3) (by intro z; cases z)
        refine ⟨[(5, (rngD 0 w)[k])], rfl, .inr ⟨S', rfl, _, _, eCallV_ok (aCons_ok (eOp_ok (eCal_ok (aCons_ok (v0 _) (aCons_ok (v3 _) rfl)) eg) rfl pEq_ii) rfl) pInt_b, ?_, r ++ [if (g == 0) = true then 1 else 0], by rw [iD_app]; rfl, ag, r2.trans frg, by rw [lg, r3], by simp [r4], fun i hi => ?_⟩⟩
        · rw [iD_len, r4]; exact Nat.lt_of_lt_of_le (show k < 1000000 by omega) (small (Nat.le_refl _))
        · rcases List.mem_append.mp hi with hi | hi
          · exact r5 i hi
          · rw [List.mem_singleton.mp hi]
            split <;> simp) ⟨[], rfl, hS, Fr.refl, rfl, rfl, fun i hi => by simp at hi⟩
    rw [rng_len] at p4
    exact ⟨r, S', e, p1, p2, p3, p4, p5⟩
  obtain ⟨ys, S2, e2, R0, rfl, len2, G2⟩ := lc_inv (up := uNm 6) (mt := tYesM) (me := eLc newC (iR1 (aCons (eVar 2) aNil)) (uNm 5) tYesM (eCallV pInt (aCons (eOp pEq (eCal (cal 60) (aCons (eVar 0) (aCons (eVar 3) aNil))) (eC (.int 0))) aNil)) [5])
    (δ0 := wipeD [some (.ref t), some (.int h), some (.int w), some (.int (2 + f)), none, none, none, none] [6]) (ds := rngD 0 h) (S := S1)
    (fun k acc S' => ∃ R : Rw, acc = refs S.length k ∧ S'.length = S.length + k ∧ Gr J t S S.length k w R S') (by
      rintro k acc S' hk ⟨R, rfl, ls, G⟩
      rw [rng_len] at hk
      obtain ⟨r, S3, e3, t3, f3, ll3, l3, g3⟩ := line (wipeD (([some (.ref t), some (.int h), some (.int w), some (.int (2 + f)), none, none, none, none] : En).set 6 (some (rngD 0 h)[k])) [5]) S' rfl rfl rfl G.a
      have hc := newC_ev (S := S3) (xs := iD r) (by rw [iD_len, l3]; exact small (by omega))
      refine ⟨[(6, (rngD 0 h)[k])], rfl, .inr ⟨S', rfl, _, _, eLc_ok (iR1_ok (k := w) (aCons_ok rfl rfl) (by omega)) e3 hc, ?_, R ++ [r], ?_, by simp [ll3, ls]; omega, ⟨by simp [G.len], fun q hq => ?_, fun i q e => ?_, t3.app, (G.f.trans f3).trans Fr.app⟩⟩⟩
      · rw [refs_len]; exact Nat.lt_of_lt_of_le (show k < 1000000 by omega) (small (Nat.le_refl _))
      · rw [refs_snoc, ll3, ls]
      · rcases List.mem_append.mp hq with hq | hq
        · exact G.g q hq
        · rw [List.mem_singleton.mp hq]; exact ⟨l3, g3⟩
      · by_cases hi : i < R.length
        · rw [List.getElem?_append_left hi] at e
          have h5 := (G.c.fr f3 hts) i q e
          rw [List.getElem?_append_left (List.getElem?_eq_some_iff.mp h5).1]; exact h5
        · have hi' : i = R.length := by
            have := (List.getElem?_eq_some_iff.mp e).1
            simp at this; omega
          subst hi'
          simp at e
          subst e
          rw [show S.length + R.length = S3.length by rw [ll3, ls, G.len]]
          simp) ⟨[], rfl, l1, ⟨rfl, fun q hq => by simp at hq, fun i q e => by simp at e, a1, fr1⟩⟩
  rw [rng_len] at len2 G2
  rw [rng_len] at e2
  -- the rows
  obtain ⟨δ3, S3, e3, ⟨o5, o6, rfl⟩, R1, G3⟩ := loop_inv (mg := gNm 6) (mb := (sIf (fun δ => asB (eOp pNotIn (eC (.int 1)) (eOp pIx (eVar 4) (eVar 6)) δ)) (sAsg (eC (.int 1)) (gSb pStore (eOp pIx (eVar 4) (eVar 6)) (eCal (cal 60) (aCons (eVar 0) (aCons (eVar 2) aNil))))) sNext))
    (ds := rngD 0 h) (δ := [some (.ref t), some (.int h), some (.int w), some (.int (2 + f)), some (.lst (refs S.length h)), none, none, none]) (S := S2)
    (fun k δ S' => (∃ o5 o6, δ = ([some (.ref t), some (.int h), some (.int w), some (.int (2 + f)), some (.lst (refs S.length h)), o5, o6, none] : En)) ∧ ∃ R : Rw, Gr J t S S.length h w R S') (by
      rintro k δ S' hk ⟨⟨o5, o6, rfl⟩, R, G⟩
      rw [rng_get]
      rw [rng_len] at hk
      obtain ⟨r, hr, hc, hw⟩ := rows_at G hk
      have ix : ∀ S', pIx (.lst (refs S.length h)) (.int k) S' = some (.ref (S.length + k), S') := fun S' => by rw [pIx_lst (by rw [refs_len]; exact hk), refs_get]
      refine ⟨_, _, rfl, ?_⟩
      by_cases h : (1 : Int) ∈ r
      · exact ⟨_, S', sIf_f (asB_ok (eOp_ok rfl (eOp_ok rfl rfl (ix _)) (by rw [notin_ref hc, decide_eq_true h]; rfl))) rfl, ⟨_, _, rfl⟩, R, G⟩
      · obtain ⟨f, S4, ef, f0, f1, a4, fr4, l4⟩ := hd.go t S' (w : Int) G.a (by omega) (by omega)
        obtain ⟨f, rfl⟩ := Int.eq_ofNat_of_zero_le f0
        have c4 := G.c.fr fr4 hts
        have hst := store_row (k := f) (v := 1) (c4 k r hr) (by omega)
        exact ⟨_, _, sIf_t (asB_ok (eOp_ok rfl (eOp_ok rfl rfl (ix _)) (by rw [notin_ref hc, decide_eq_false h]; rfl))) (sAsg_ok rfl (gSb_ok (eOp_ok rfl rfl (ix _)) (eCal_ok (aCons_ok rfl (aCons_ok rfl rfl)) ef) hst)), ⟨_, _, rfl⟩, R.set k (r.set f 1), ⟨by simp [G.len], g01_set (.inr rfl) G.g hr, c4.put hr, a4.other (by omega), Fr.new (by omega) (G.f.trans fr4)⟩⟩) ⟨⟨none, none, rfl⟩, R0, G2⟩
  -- the columns
  obtain ⟨δ4, S4, e4, ⟨o7, rfl⟩, R2, G4⟩ := loop_inv (mg := gNm 5) (mb := (sIf (fun δ => asB (eOp pNotIn (eC (.int 1)) (eLc newL (iAny (eVar 4)) (uNm 7) tYesM (eOp pIx (eVar 7) (eVar 5)) [7]) δ)) (sAsg (eC (.int 1)) (gSb pStore (eOp pIx (eVar 4) (eCal (cal 60) (aCons (eVar 0) (aCons (eVar 1) aNil)))) (eVar 5))) sNext))
    (ds := rngD 0 w) (δ := [some (.ref t), some (.int h), some (.int w), some (.int (2 + f)), some (.lst (refs S.length h)), o5, o6, none]) (S := S3)
    (fun k δ S' => (∃ o5, δ = ([some (.ref t), some (.int h), some (.int w), some (.int (2 + f)), some (.lst (refs S.length h)), o5, o6, none] : En)) ∧ ∃ R : Rw, Gr J t S S.length h w R S') (by
      rintro k δ S' hk ⟨⟨o5, rfl⟩, R, G⟩
      rw [rng_get]
      rw [rng_len] at hk
      refine ⟨_, _, rfl, ?_⟩
      have col : loopC (uNm 7) tYesM (eOp pIx (eVar 7) (eVar 5)) (wipeD [some (.ref t), some (.int h), some (.int w), some (.int (2 + f)), some (.lst (refs S.length h)), some (.int k), o6, none] [7]) (refs S.length h) [] S' = .ok (iD (R.map fun r => r.getD k 0)) S' := by
        have e := lc_mapE (S := S') (me := eOp pIx (eVar 7) (eVar 5)) (δ0 := wipeD [some (.ref t), some (.int h), some (.int w), some (.int (2 + f)), some (.lst (refs S.length h)), some (.int k), o6, none] [7]) (k := 7) (fun (i : Nat) => D.ref (S.length + i)) D.int (fun i => (R.getD i []).getD k 0) (zs := List.range h) (by rw [List.length_range]; exact small (by omega)) (fun i hi => by
          obtain ⟨r, hr, hc, hw⟩ := rows_at G (List.mem_range.mp hi)
          exact eOp_ok rfl rfl (by rw [ix_ref hc (by omega), getD_row hr]))
        have e1 : refs S.length h = (List.range h).map fun (i : Nat) => D.ref (S.length + i) := by simp [refs, List.range'_eq_map_range]
        have e2 : (List.range h).map (fun i => (R.getD i []).getD k 0) = R.map fun r => r.getD k 0 := by
          have hR : R = (List.range h).map fun i => R.getD i [] := by
            refine List.ext_getElem (by simp [G.len]) fun i h1 h2 => ?_
            simp [List.getD_eq_getElem?_getD, List.getElem?_eq_getElem h1]
          conv => rhs; rw [hR]
          rw [List.map_map]; rfl
        rw [← e1, e2] at e
        exact e
      have test : eLc newL (iAny (eVar 4)) (uNm 7) tYesM (eOp pIx (eVar 7) (eVar 5)) [7] [some (.ref t), some (.int h), some (.int w), some (.int (2 + f)), some (.lst (refs S.length h)), some (.int k), o6, none] S' = .ok (lI (R.map fun r => r.getD k 0)) S' :=
        eLc_ok (iAny_ok rfl rfl) col (newL_ev (by rw [iD_len, List.length_map, G.len]; exact small (by omega)))
      by_cases hm : (1 : Int) ∈ R.map fun r => r.getD k 0
      · exact ⟨_, S', sIf_f (asB_ok (eOp_ok rfl test (by rw [notin_lI, decide_eq_true hm]; rfl))) rfl, ⟨_, rfl⟩, R, G⟩
      · obtain ⟨f', S5, ef, f0, f1, a5, fr5, l5⟩ := hd.go t S' (h : Int) G.a (by omega) (by omega)
        obtain ⟨f', rfl⟩ := Int.eq_ofNat_of_zero_le f0
        have hf' : f' < h := by omega
        obtain ⟨r, hr, hc, hw⟩ := rows_at G hf'
        have c5 := G.c.fr fr5 hts
        have hst := store_row (k := k) (v := 1) (c5 f' r hr) (by omega)
        exact ⟨_, _, sIf_t (asB_ok (eOp_ok rfl test (by rw [notin_lI, decide_eq_false hm]; rfl))) (sAsg_ok rfl (gSb_ok (eOp_ok rfl (eCal_ok (aCons_ok rfl (aCons_ok rfl rfl)) ef) (by rw [pIx_lst (k := f') (by rw [refs_len]; exact hf'), refs_get])) rfl hst)), ⟨_, rfl⟩, R.set f' (r.set k 1), ⟨by simp [G.len], g01_set (.inr rfl) G.g hr, c5.put hr, a5.other (by omega), Fr.new (by omega) (G.f.trans fr5)⟩⟩) ⟨⟨_, rfl⟩, R1, G3⟩
  refine ⟨R2, S4, ?_, G4⟩
  unfold b__law_any
  have hl2 : (refs S.length h).length ≤ sizeLine := by rw [refs_len]; exact small (by omega)
  exact funM_rt rfl (sSeq_nx (sAsg_ok (eOp_ok rfl (eCal_ok (aCons_ok rfl (aCons_ok rfl rfl)) e1) pAdd_ii) rfl) (sSeq_nx (sAsg_ok (eLc_ok (iR1_ok (k := h) (aCons_ok rfl rfl) (by omega)) e2 (newL_ev hl2)) rfl) (sSeq_nx (sFor_ok (iR1_ok (k := h) (aCons_ok rfl rfl) (by omega)) e3) (sSeq_nx (sFor_ok (iR1_ok (k := w) (aCons_ok rfl rfl) (by omega)) e4) (sRet_ok rfl)))))
end Sp
/-! # drawn grids, further -/
namespace Sp
open PySem L2 Ev Bd
def rng (n : Nat) : List Int := (List.range n).map fun (i : Nat) => (i : Int)
theorem rng_length {n : Nat} : (rng n).length = n := by simp [rng]
theorem mem_rng {n : Nat} {i : Int} : i ∈ rng n ↔ 0 ≤ i ∧ i < n := by
  simp only [rng, List.mem_map, List.mem_range]
  constructor
  · rintro ⟨k, hk, rfl⟩; omega
  · rintro ⟨h0, h1⟩; exact ⟨i.toNat, by omega, by omega⟩
theorem rngD_eq {n : Nat} : rngD 0 n = iD (rng n) := by simp [rngD, iD, rng]
section
variable {S S1 S2 : Store} {δ : En} {ma mo : ME} {n m : Nat} {xs : List D} {J : List D → Prop} {t : Nat}
theorem rgOk_nat (hn : n ≤ 1000000) : rgOk 0 (n : Int) = true := by
  have e62 : (2 : Int) ^ 62 = 4611686018427387904 := by decide
  have e24 : (2 : Nat) ^ 24 = 16777216 := by decide
  unfold rgOk
  rw [e62, e24, decide_eq_true_eq]
  omega
theorem eRg_ok {fin : List D → PO} {mr : En → M (Int × Int)} {a b : Int} {z : D} (h : mr δ S = .ok (a, b) S1) (ho : rgOk a b = true) (hf : fin (rgD a b) S1 = some (z, S2)) : eRg fin mr δ S = .ok z S2 := by
  simp only [eRg, M.bind, h, lft, ho, if_true, hf]
theorem g1_ok {b : Int} (h : ma δ S = .ok (.int b) S1) : g1 ma δ S = .ok (0, b) S1 := by simp only [g1, M.bind, h, M.pure]
theorem rgD_nat : rgD 0 (n : Int) = iD (rng n) := by simp [rgD, iD, rng]
theorem rg_ev (h : ma δ S = .ok (.int n) S1) (hn : n ≤ 1000000) : eRg newL (g1 ma) δ S = .ok (lI (rng n)) S1 :=
  eRg_ok (g1_ok h) (rgOk_nat hn) (by rw [rgD_nat]; exact newL_ev (by rw [iD_len, rng_length]; exact small hn))
theorem rgT_ev (h : ma δ S = .ok (.int n) S1) (hn : n ≤ 1000000) : eRg newT (g1 ma) δ S = .ok (tI (rng n)) S1 :=
  eRg_ok (g1_ok h) (rgOk_nat hn) (by rw [rgD_nat]; exact newT_ev (by rw [iD_len, rng_length]; exact small hn))
theorem cutD_take : cutD xs none (some (m : Int)) = xs.take m := by
  unfold cutD
  rw [HT.sIx_nat, HT.sIx_none, List.drop_zero, Nat.sub_zero]
  by_cases h : m ≤ xs.length
  · rw [Nat.min_eq_left h]
  · rw [Nat.min_eq_right (by omega), List.take_length, List.take_of_length_le (by omega)]
theorem cut_take (h : mo δ S = .ok (.lst xs) S1) (h2 : ma δ S1 = .ok (.int m) S2) (hl : xs.length ≤ sizeLine) : eCut mo none (some ma) δ S = .ok (.lst (xs.take m)) S2 := by
  have hl' : (xs.take m).length ≤ sizeLine := Nat.le_trans (by simp; omega) hl
  simp only [eCut, M.bind, h, oPart, M.pure, h2, lft, pCut, lstOf, Option.bind_some, cutD_take, newL_ev hl']
theorem perm_map {α β : Type} {f : α → β} {ys zs : List β} (h : ys.Perm zs) : ∀ {l : List α}, zs = l.map f → ∃ p : List α, ys = p.map f ∧ p.Perm l := by
  induction h with
  | nil => intro l e; exact ⟨[], rfl, by cases l with | nil => exact .nil | cons _ _ => simp at e⟩
  | cons x h ih =>
    intro l e
    cases l with
    | nil => simp at e
    | cons a l =>
      simp only [List.map_cons, List.cons.injEq] at e
      obtain ⟨p, e1, e2⟩ := ih e.2
      exact ⟨a :: p, by rw [List.map_cons, e1, e.1], e2.cons a⟩
  | swap x y l' =>
    intro l e
    match l, e with
    | [], e => simp at e
    | [_], e => simp at e
    | a :: b :: l, e =>
      simp only [List.map_cons, List.cons.injEq] at e
      exact ⟨b :: a :: l, by simp [e.1, e.2.1, e.2.2], .swap a b l⟩
  | trans h1 h2 ih1 ih2 =>
    intro l e
    obtain ⟨p, e1, p1⟩ := ih2 e
    obtain ⟨q, e2, p2⟩ := ih1 e1
    exact ⟨q, e2, p2.trans p1⟩
/-- numbers in a drawn order -/
theorem mixed_ints {dr : List D → M D} (hd : Drw J dr) {ns : List Int} (hat : At J t S) (hn : ns.length ≤ 1000) :
    ∃ ms S', funM 5 2 (mixedT dr) [.ref t, lI ns] S = .ok (lI ms) S' ∧ ms.Perm ns ∧ At J t S' ∧ Fr t S S' := by
  obtain ⟨ys, S', e, p, a, f⟩ := mixed_gen hd (xs := iD ns) hat (by rw [iD_len]; exact hn) (fun x hx S => by
    obtain ⟨i, _, rfl⟩ := List.mem_map.mp hx
    exact frz_int)
  obtain ⟨ms, rfl, p2⟩ := perm_map p (l := ns) rfl
  exact ⟨ms, S', e, p2, a, f⟩
end
theorem mixed_v2 {cal : Nat → List D → M D} : b__law_mixed_v2 cal = mixedT (cal 60) := rfl
/-- the drawn order as a callee -/
structure Mix (J : List D → Prop) (mx : List D → M D) : Prop where
  go : ∀ (t : Nat) (S : Store) (ns : List Int), At J t S → ns.length ≤ 1000 → ∃ ms S', mx [.ref t, lI ns] S = .ok (lI ms) S' ∧ ms.Perm ns ∧ At J t S' ∧ Fr t S S'
theorem perm_rng {ms : List Int} {n : Nat} (h : ms.Perm (rng n)) : ms.length = n ∧ ∀ i ∈ ms, 0 ≤ i ∧ i < n := ⟨by rw [h.length_eq, rng_length], fun i hi => mem_rng.mp (h.mem_iff.mp hi)⟩
theorem ringed_ev {J : List D → Prop} {cal : Nat → List D → M D} (hd : Drw J (cal 60)) (hx : Mix J (cal 64)) {t h w m : Nat} {S : Store} (ht : At J t S) (h2 : h ≤ 8) (w2 : w ≤ 8) (m0 : 0 < m) (m1 : m ≤ h) (m2 : m ≤ w)
    (ha : ∀ S, At J t S → ∃ R S', cal 58 [.ref t, .int h, .int w] S = .ok (.lst (refs S.length h)) S' ∧ Gr J t S S.length h w R S') :
    ∃ R S', funM 9 4 (b__law_ringed cal) [.ref t, .int h, .int w, .int m] S = .ok (rowsL R) S' ∧ R.length = h ∧ G01 w R ∧ At J t S' ∧ Fr t S S' := by
  have hts := ht.lt
  obtain ⟨R0, S1, e1, G1⟩ := ha S ht
  obtain ⟨ps, S2, e2, p2, a2, f2⟩ := hx.go t S1 (rng h) G1.a (by rw [rng_length]; omega)
  obtain ⟨qs, S3, e3, p3, a3, f3⟩ := hx.go t S2 (rng w) a2 (by rw [rng_length]; omega)
  obtain ⟨lp, bp⟩ := perm_rng p2
  obtain ⟨lq, bq⟩ := perm_rng p3
  have G3 : Gr J t S S.length h w R0 S3 := ⟨G1.len, G1.g, (G1.c.fr f2 hts).fr f3 hts, a3, (G1.f.trans f2).trans f3⟩
  have tp : (iD ps).take m = iD (ps.take m) := by simp [iD, List.map_take]
  have tq : (iD qs).take m = iD (qs.take m) := by simp [iD, List.map_take]
  have lpm : (ps.take m).length = m := by simp; omega
  have lqm : (qs.take m).length = m := by simp; omega
  let δ0 : Option D → Option D → En := fun o7 o8 => [some (.ref t), some (.int h), some (.int w), some (.int m), some (.lst (refs S.length h)), some (.lst ((iD ps).take m)), some (.lst ((iD qs).take m)), o7, o8]
  obtain ⟨δ4, S4, e4, ⟨o7, o8, rfl⟩, R, G4⟩ := loop_inv (mg := gNm 7) (mb := (sFor (iR1 (aCons (eVar 3) aNil)) (gNm 8) (sAsg (eCallV pInt (aCons (eOp pIn (eVar 8) (eLst (aCons (eVar 7) (aCons (eOp pMod (eCallV pInt (aCons (eOp pAdd (eVar 7) (eC (.int 1))) aNil)) (eVar 3)) aNil)))) aNil)) (gSb pStore (eOp pIx (eVar 4) (eOp pIx (eVar 5) (eVar 7))) (eOp pIx (eVar 6) (eVar 8))))))
    (ds := rngD 0 m) (δ := δ0 none none) (S := S3)
    (fun k δ S' => (∃ o7 o8, δ = δ0 o7 o8) ∧ ∃ R : Rw, Gr J t S S.length h w R S') (by
      rintro j δ S' hj ⟨⟨o7, o8, rfl⟩, R, G⟩
      rw [rng_get]
      rw [rng_len] at hj
      refine ⟨_, _, rfl, ?_⟩
      obtain ⟨δ5, S5, e5, ⟨o8, rfl⟩, R5, G5⟩ := loop_inv (mg := gNm 8) (mb := (sAsg (eCallV pInt (aCons (eOp pIn (eVar 8) (eLst (aCons (eVar 7) (aCons (eOp pMod (eCallV pInt (aCons (eOp pAdd (eVar 7) (eC (.int 1))) aNil)) (eVar 3)) aNil)))) aNil)) (gSb pStore (eOp pIx (eVar 4) (eOp pIx (eVar 5) (eVar 7))) (eOp pIx (eVar 6) (eVar 8)))))
        (ds := rngD 0 m) (δ := δ0 (some (.int j)) o8) (S := S')
        (fun k δ S' => (∃ o8, δ = δ0 (some (.int j)) o8) ∧ ∃ R : Rw, Gr J t S S.length h w R S') (by
          rintro k δ S' hk ⟨⟨o8, rfl⟩, R, G⟩
          rw [rng_get]
          rw [rng_len] at hk
          refine ⟨_, _, rfl, ?_⟩
          have bpj := bp ((ps.take m).getD j 0) (List.mem_of_mem_take (PySem.getD_mem (by omega)))
          have bqk := bq ((qs.take m).getD k 0) (List.mem_of_mem_take (PySem.getD_mem (by omega)))
          obtain ⟨pj, epj⟩ := Int.eq_ofNat_of_zero_le bpj.1
          obtain ⟨qk, eqk⟩ := Int.eq_ofNat_of_zero_le bqk.1
          have hpj : pj < h := by omega
          have hqk : qk < w := by omega
          obtain ⟨r, hr, hc, hw⟩ := rows_at G hpj
          have i1 : ∀ S', pIx (.lst ((iD ps).take m)) (.int j) S' = some (.int pj, S') := fun S' => by rw [tp, ix_lI (by omega) (by omega), Int.toNat_natCast, epj]
          have i2 : ∀ S', pIx (.lst ((iD qs).take m)) (.int k) S' = some (.int qk, S') := fun S' => by rw [tq, ix_lI (by omega) (by omega), Int.toNat_natCast, eqk]
          have i3 : ∀ S', pIx (.lst (refs S.length h)) (.int pj) S' = some (.ref (S.length + pj), S') := fun S' => by rw [pIx_lst (by rw [refs_len]; exact hpj), refs_get]
          have hb : (if decide ((k : Int) ∈ [(j : Int), ((j : Int) + 1) % m]) = true then (1 : Int) else 0) = 0 ∨ (if decide ((k : Int) ∈ [(j : Int), ((j : Int) + 1) % m]) = true then (1 : Int) else 0) = 1 := by split <;> simp
          have hst := store_row (k := qk) (v := if decide ((k : Int) ∈ [(j : Int), ((j : Int) + 1) % m]) = true then (1 : Int) else 0) hc (by omega)
          refine ⟨_, _, sAsg_ok (eCallV_ok (aCons_ok (eOp_ok rfl (eLst_ok (xs := iD [(j : Int), ((j : Int) + 1) % m]) (aCons_ok rfl (aCons_ok (eOp_ok (eCallV_ok (aCons_ok (eOp_ok rfl rfl pAdd_ii) rfl) pInt_i) rfl (pMod_ii (by omega))) rfl)) (small (by simp [iD]))) in_lI) rfl) pInt_b) (gSb_ok (eOp_ok rfl (eOp_ok rfl rfl (i1 _)) (i3 _)) (eOp_ok rfl rfl (i2 _)) hst), ⟨_, rfl⟩, R.set pj (r.set qk _), ⟨by simp [G.len], g01_set hb G.g hr, G.c.put hr, G.a.other (by omega), Fr.new (by omega) G.f⟩⟩) ⟨⟨_, rfl⟩, R, G⟩
      exact ⟨_, _, sFor_ok (iR1_ok (k := m) (aCons_ok rfl rfl) (by omega)) e5, ⟨_, _, rfl⟩, R5, G5⟩) ⟨⟨_, _, rfl⟩, R0, G3⟩
  obtain ⟨S5, e5, l5, k5⟩ := frz_rows G4.c
  rw [G4.len] at e5
  refine ⟨R, S5, ?_, G4.len, G4.g, ?_, ⟨by rw [l5]; exact G4.f.1, fun j hj hn => by rw [k5 j hj]; exact G4.f.2 j hj hn⟩⟩
  · unfold b__law_ringed
    exact funM_rt rfl (sSeq_nx (sPar2_ok (aCons_ok (eCal_ok (aCons_ok rfl (aCons_ok rfl (aCons_ok rfl rfl))) e1) (aCons_ok (cut_take (xs := iD ps) (m := m) (eCal_ok (aCons_ok rfl (aCons_ok (rg_ev (n := h) rfl (by omega)) rfl)) e2) rfl (by rw [iD_len]; exact small (by omega))) rfl))) (sSeq_nx (sAsg_ok (cut_take (xs := iD qs) (m := m) (eCal_ok (aCons_ok rfl (aCons_ok (rg_ev (n := w) rfl (by omega)) rfl)) e3) rfl (by rw [iD_len]; exact small (by omega))) rfl) (sSeq_nx (sFor_ok (iR1_ok (k := m) (aCons_ok rfl rfl) (by omega)) e4) (sRet_ok (eFrz_ok (S1 := S4) rfl e5)))))
  · obtain ⟨c, h1, h2⟩ := G4.a
    exact ⟨c, by rw [k5 t hts]; exact h1, h2⟩
end Sp
/-! # drawn grids: stretches, turned ones, any; full ones -/
namespace Sp
open PySem L2 Ev Bd
section
variable {S S1 S2 : Store} {δ : En} {ma mb mc : ME} {i j x y z : Int} {ns : List Int}
theorem min2 : pMin [.int i, .int j] S = some (.int (if j < i then j else i), S) := rfl
theorem max2 : pMax [.int i, .int j] S = some (.int (if j > i then j else i), S) := rfl
theorem chain_le (ha : ma δ S = .ok (.int x) S) (hb : mb δ S = .ok (.int y) S) (hc : mc δ S = .ok (.int z) S) : eChain pLe pLe ma mb mc δ S = .ok (.bl (decide (x ≤ y) && decide (y ≤ z))) S := by
  cases h : decide (x ≤ y) with
  | true => exact eChain_t ha hb (by rw [pLe_ii, h]) hc (by rw [pLe_ii]; simp)
  | false => exact eChain_f ha hb (by rw [pLe_ii, h])
theorem max_lI (h : ns ≠ []) : pMax [lI ns] S = some (.int (maxL ns), S) := by
  simp only [pMax, lstOf, Option.bind_some, ints_iD, h, if_false]
end
theorem bit01 {c : Prop} [Decidable c] : (if c then (1 : Int) else 0) = 0 ∨ (if c then (1 : Int) else 0) = 1 := by
  by_cases h : c <;> simp [h]
theorem runs_ev {J : List D → Prop} {cal : Nat → List D → M D} (hd : Drw J (cal 60)) (hx : Mix J (cal 64)) {t h w : Nat} {S : Store} (ht : At J t S) (h1 : 0 < h) (h2 : h ≤ 8) (w1 : 0 < w) (w2 : w ≤ 8) :
    ∃ R S', funM 9 3 (b__law_runs cal) [.ref t, .int h, .int w] S = .ok (rowsL R) S' ∧ R.length = h ∧ G01 w R ∧ At J t S' ∧ Fr t S S' := by
  have hts := ht.lt
  obtain ⟨ms, S1, e1, p1, a1, f1⟩ := hx.go t S (rng w) ht (by rw [rng_length]; omega)
  obtain ⟨lm, bm⟩ := perm_rng p1
  have hs1 : S.length ≤ S1.length := f1.1
  let δ0 : Option D → Option D → Option D → En := fun o5 o6 o7 => [some (.ref t), some (.int h), some (.int w), some (lI ms), some (.ref S1.length), o5, o6, o7, none]
  obtain ⟨δ2, S2, e2, ⟨o5, o6, o7, rfl⟩, R, c2, l2, g2, a2, f2⟩ := loop_inv (mg := gNm 5) (mb := (sSeq (sAsg (eTup (aCons (eCal (cal 60) (aCons (eVar 0) (aCons (eVar 2) aNil))) (aCons (eCal (cal 60) (aCons (eVar 0) (aCons (eVar 2) aNil))) aNil))) (gTp 2 (gCs (gNm 6) (gCs (gNm 7) gNl))))
    (sExpr (eMB "list" pAppend (eVar 4) (aCons (eLc newL (iR1 (aCons (eVar 2) aNil)) (uNm 8) tYesM (eCallV pInt (aCons (eChain pLe pLe (eCallV (pMin) (aCons (eVar 6) (aCons (eVar 7) aNil))) (eOp pIx (eVar 3) (eVar 8)) (eCallV (pMax) (aCons (eVar 6) (aCons (eVar 7) aNil)))) aNil)) [8]) aNil)))))
    (ds := rngD 0 h) (δ := δ0 none none none) (S := S1 ++ [some (.lst [])])
    (fun k δ S' => (∃ o5 o6 o7, δ = δ0 o5 o6 o7) ∧ ∃ R : Rw, S'[S1.length]? = some (some (.lst (R.map lI))) ∧ R.length = k ∧ G01 w R ∧ At J t S' ∧ Fr t S S') (by
      rintro k δ S' hk ⟨⟨o5, o6, o7, rfl⟩, R, r1, r2, r3, r4, r5⟩
      rw [rng_get]
      rw [rng_len] at hk
      refine ⟨_, _, rfl, ?_⟩
      obtain ⟨x, S3, ex, x0, x1, a3, f3, l3⟩ := hd.go t S' (w : Int) r4 (by omega) (by omega)
      obtain ⟨y, S4, ey, y0, y1, a4, f4, l4⟩ := hd.go t S3 (w : Int) a3 (by omega) (by omega)
      have hc : S4[S1.length]? = some (some (.lst (R.map lI))) := by
        have z1 := (List.getElem?_eq_some_iff.mp r1).1
        rw [f4.2 _ (by omega) (by omega), f3.2 _ z1 (by omega)]; exact r1
      have e := lc_mapE (S := S4) (me := eCallV pInt (aCons (eChain pLe pLe (eCallV (pMin) (aCons (eVar 6) (aCons (eVar 7) aNil))) (eOp pIx (eVar 3) (eVar 8)) (eCallV (pMax) (aCons (eVar 6) (aCons (eVar 7) aNil)))) aNil)) (δ0 := wipeD (δ0 (some (.int k)) (some (.int x)) (some (.int y))) [8]) (k := 8) D.int D.int
        (fun q => if (decide ((if y < x then y else x) ≤ ms.getD q.toNat 0) && decide (ms.getD q.toNat 0 ≤ (if y > x then y else x))) = true then (1 : Int) else 0) (zs := rng w) (by rw [rng_length]; exact small (by omega)) (fun q hq => by
          have hq' := mem_rng.mp hq
          exact eCallV_ok (aCons_ok (chain_le (eCallV_ok (aCons_ok rfl (aCons_ok rfl rfl)) min2) (eOp_ok rfl rfl (ix_lI hq'.1 (by omega))) (eCallV_ok (aCons_ok rfl (aCons_ok rfl rfl)) max2)) rfl) pInt_b)
      rw [show (rng w).map D.int = rngD 0 w from rngD_eq.symm] at e
      refine ⟨_, _, sSeq_nx (sAsg_ok (eTup_ok (aCons_ok (eCal_ok (aCons_ok rfl (aCons_ok rfl rfl)) ex) (aCons_ok (eCal_ok (aCons_ok rfl (aCons_ok rfl rfl)) ey) rfl)) (small (by simp))) (gTp2_ok rfl rfl)) (sExpr_ok (eMB_ok rfl (ty_ref hc) (aCons_ok (eLc_ok (iR1_ok (k := w) (aCons_ok rfl rfl) (by omega)) e (newL_ev (by simp [rng_length]; exact small (by omega)))) rfl) (app_ref hc (Nat.lt_of_lt_of_le (show (R.map lI).length < 1000000 by simp; omega) (small (Nat.le_refl _)))))), ⟨_, _, _, rfl⟩, R ++ [(rng w).map fun q => if (decide ((if y < x then y else x) ≤ ms.getD q.toNat 0) && decide (ms.getD q.toNat 0 ≤ (if y > x then y else x))) = true then (1 : Int) else 0], ?_, by simp [r2], fun q hq => ?_, a4.other (by omega), Fr.new (by omega) ((r5.trans f3).trans f4)⟩
      · rw [List.map_append]; exact set_get hc
      · rcases List.mem_append.mp hq with hq | hq
        · exact r3 q hq
        · rw [List.mem_singleton.mp hq]
          refine ⟨by simp [rng_length], fun z hz => ?_⟩
          obtain ⟨q, _, rfl⟩ := List.mem_map.mp hz
          exact bit01) ⟨⟨_, _, _, rfl⟩, [], by simp, rfl, fun q hq => by simp at hq, a1.app, f1.trans Fr.app⟩
  rw [rng_len] at l2
  obtain ⟨f, S3, ef, f0, f1', a3, f3, l3⟩ := hd.go t S2 (h : Int) a2 (by omega) (by omega)
  obtain ⟨f, rfl⟩ := Int.eq_ofNat_of_zero_le f0
  have hf : f < R.length := by omega
  have c3 : S3[S1.length]? = some (some (.lst (R.map lI))) := by
    have z1 := (List.getElem?_eq_some_iff.mp c2).1
    rw [f3.2 _ z1 (by omega)]; exact c2
  have st := store_ref (k := f) (v := lI (List.replicate w 1)) c3 (by simp; exact hf)
  have em : (R.map lI).set f (lI (List.replicate w 1)) = (R.set f (List.replicate w 1)).map lI := by rw [List.map_set]
  rw [em] at st
  have c4 := set_get (c' := .lst ((R.set f (List.replicate w 1)).map lI)) c3
  have mul : ∀ S', pMul (.lst [.int 1]) (.int (w : Int)) S' = some (lI (List.replicate w 1), S') := fun S' => by
    have e0 : (List.replicate w [D.int 1]).flatten = iD (List.replicate w 1) := by
      induction w with
      | zero => rfl
      | succ w ih => simp [List.replicate_succ, iD] at ih ⊢
    have hl : (iD (List.replicate w 1)).length ≤ sizeLine := by rw [iD_len, List.length_replicate]; exact small (by omega)
    have hc : -(2 ^ 63) ≤ (w : Int) ∧ (w : Int) < 2 ^ 63 ∧ [D.int 1].length * (w : Int).toNat ≤ sizeLine := by
      refine ⟨by omega, by omega, ?_⟩
      simp only [List.length_singleton, Nat.one_mul, Int.toNat_natCast]
      exact small (by omega)
    simp only [pMul, plstOf]
    rw [if_pos hc, Int.toNat_natCast, e0, newL_ev hl]
  have gf : G01 w (R.set f (List.replicate w 1)) := fun q hq => by
    rcases List.mem_or_eq_of_mem_set hq with hq | rfl
    · exact g2 q hq
    · exact ⟨by simp, fun i hi => .inr (List.eq_of_mem_replicate hi)⟩
  have fz : frzD 4 (.ref S1.length) (S3.set S1.length (some (.lst ((R.set f (List.replicate w 1)).map lI)))) = some (rowsL (R.set f (List.replicate w 1)), (S3.set S1.length (some (.lst ((R.set f (List.replicate w 1)).map lI)))).set S1.length none) := by
    simp only [frzD, c4]
    rw [frzDs_id fun x hx S => by
      obtain ⟨r, _, rfl⟩ := List.mem_map.mp hx
      exact frz_lI]
    rfl
  refine ⟨R.set f (List.replicate w 1), (S3.set S1.length (some (.lst ((R.set f (List.replicate w 1)).map lI)))).set S1.length none, ?_, by simp [l2], gf, (a3.other (by omega)).other (by omega), Fr.new (by omega) (Fr.new (by omega) (f2.trans f3))⟩
  unfold b__law_runs
  exact funM_rt rfl (sSeq_nx (sAsg_ok (eTup_ok (aCons_ok (eCal_ok (aCons_ok rfl (aCons_ok (rg_ev (n := w) rfl (by omega)) rfl)) e1) (aCons_ok (eLstC_ok rfl (Nat.zero_le _)) rfl)) (small (by simp))) (gTp2_ok rfl rfl)) (sSeq_nx (sFor_ok (iR1_ok (k := h) (aCons_ok rfl rfl) (by omega)) e2) (sSeq_nx (sAsg_ok (eOp_ok (eLst_ok (aCons_ok rfl rfl) (small (by simp))) rfl (mul _)) (gSb_ok rfl (eCal_ok (aCons_ok rfl (aCons_ok rfl rfl)) ef) st)) (sRet_ok (eFrz_ok rfl fz)))))
def turn (R : Rw) (w : Nat) : Rw := (rng w).map fun k => R.map fun r => r.getD k.toNat 0
theorem turned_ev {cal : Nat → List D → M D} {R : Rw} {w : Nat} {S : Store} (hR : R ≠ []) (hl : R.length ≤ 1000) (g : ∀ r ∈ R, r.length = w) (w2 : w ≤ 1000) : funM 3 1 (b__law_turned cal) [rowsL R] S = .ok (rowsL (turn R w)) S := by
  unfold b__law_turned
  have hR0 : 0 < R.length := by cases R with | nil => exact absurd rfl hR | cons _ _ => simp
  have w0 : (R.getD 0 []).length = w := by
    rw [List.getD_eq_getElem?_getD, List.getElem?_eq_getElem hR0]
    exact g _ (List.getElem_mem hR0)
  have e := lc_mapE (S := S) (me := eLc newL (iAny (eVar 0)) (uNm 1) tYesM (eOp pIx (eVar 1) (eVar 2)) [1]) (δ0 := wipeD [some (rowsL R), none, none] [2]) (k := 2) D.int lI (fun k => R.map fun r => r.getD k.toNat 0) (zs := rng w) (by rw [rng_length]; exact small (by omega)) (fun k hk => by
    have hk' := mem_rng.mp hk
    have e := lc_mapE (S := S) (me := eOp pIx (eVar 1) (eVar 2)) (δ0 := wipeD [some (rowsL R), none, some (.int k)] [1]) (k := 1) lI D.int (fun r => r.getD k.toNat 0) (zs := R) (small (by omega)) (fun r hr => eOp_ok rfl rfl (ix_lI hk'.1 (by rw [g r hr]; omega)))
    exact eLc_ok (iAny_ok rfl rfl) e (newL_ev (by simp; exact small (by omega))))
  rw [show (rng w).map D.int = rngD 0 w from rngD_eq.symm] at e
  refine funM_rt rfl (sRet_ok (eLc_ok (iR1_ok (k := w) (aCons_ok (eCallV_ok (aCons_ok (eOp_ok rfl rfl (ix_rL (by omega) (by omega))) rfl) (by rw [show (0 : Int).toNat = 0 from rfl, len_lI, w0])) rfl) (by omega)) e (newL_ev (by simp [rng_length]; exact small (by omega)))))
theorem turn_g01 {R : Rw} {h w : Nat} (hl : R.length = h) (g : G01 w R) : (turn R w).length = w ∧ G01 h (turn R w) := by
  refine ⟨by simp [turn, rng_length], fun q hq => ?_⟩
  obtain ⟨k, hk, rfl⟩ := List.mem_map.mp hq
  refine ⟨by simp [hl], fun i hi => ?_⟩
  obtain ⟨r, hr, rfl⟩ := List.mem_map.mp hi
  have hk' := mem_rng.mp hk
  have gr := g r hr
  exact gr.2 _ (PySem.getD_mem (by omega))
/-- a drawn grid of at most most rows and columns -/
structure Grid (most : Nat) (R : Rw) : Prop where
  ex : ∃ h w, R.length = h ∧ G01 w R ∧ 0 < h ∧ h ≤ most ∧ 0 < w ∧ w ≤ most
theorem even_ev {J : List D → Prop} {cal : Nat → List D → M D} (hd : Drw J (cal 60)) {t most : Nat} {S : Store} (ht : At J t S) (m1 : 0 < most) (m2 : most ≤ 8)
    (hr : ∀ (h w : Nat) S, At J t S → 0 < h → h ≤ 8 → 0 < w → w ≤ 8 → ∃ R S', cal 65 [.ref t, .int h, .int w] S = .ok (rowsL R) S' ∧ R.length = h ∧ G01 w R ∧ At J t S' ∧ Fr t S S')
    (htn : ∀ (R : Rw) (w : Nat) S, R ≠ [] → R.length ≤ 1000 → (∀ r ∈ R, r.length = w) → w ≤ 1000 → cal 36 [rowsL R] S = .ok (rowsL (turn R w)) S) :
    ∃ R S', funM 5 2 (b__law_even cal) [.ref t, .int most] S = .ok (rowsL R) S' ∧ Grid most R ∧ At J t S' ∧ Fr t S S' := by
  obtain ⟨x, S1, e1, x0, x1, a1, f1, l1⟩ := hd.go t S most ht (by omega) (by omega)
  obtain ⟨y, S2, e2, y0, y1, a2, f2, l2⟩ := hd.go t S1 most a1 (by omega) (by omega)
  obtain ⟨x, rfl⟩ := Int.eq_ofNat_of_zero_le x0
  obtain ⟨y, rfl⟩ := Int.eq_ofNat_of_zero_le y0
  obtain ⟨R, S3, e3, lR, gR, a3, f3⟩ := hr (1 + x) (1 + y) S2 a2 (by omega) (by omega) (by omega) (by omega)
  obtain ⟨z, S4, e4, z0, z1, a4, f4, l4⟩ := hd.go t S3 2 a3 (by omega) (by omega)
  have cx : ((1 + x : Nat) : Int) = 1 + (x : Int) := by omega
  have cy : ((1 + y : Nat) : Int) = 1 + (y : Int) := by omega
  rw [cx, cy] at e3
  have hRne : R ≠ [] := by intro z; subst z; simp at lR; omega
  unfold b__law_even
  by_cases hz : z = 0
  · obtain ⟨t1, t2⟩ := turn_g01 lR gR
    refine ⟨turn R (1 + y), S4, ?_, ⟨1 + y, 1 + x, t1, t2, by omega, by omega, by omega, by omega⟩, a4, ((f1.trans f2).trans f3).trans f4⟩
    exact funM_rt rfl (sSeq_nx (sPar2_ok (aCons_ok (eOp_ok rfl (eCal_ok (aCons_ok rfl (aCons_ok rfl rfl)) e1) pAdd_ii) (aCons_ok (eOp_ok rfl (eCal_ok (aCons_ok rfl (aCons_ok rfl rfl)) e2) pAdd_ii) rfl))) (sSeq_nx (sAsg_ok (eCal_ok (aCons_ok rfl (aCons_ok rfl (aCons_ok rfl rfl))) e3) rfl) (sRet_ok (eIf_t (asB_ok (eOp_ok (eCal_ok (aCons_ok rfl (aCons_ok rfl rfl)) e4) rfl (by rw [pEq_ii, hz]; rfl))) (eCal_ok (aCons_ok rfl rfl) (htn R (1 + y) _ hRne (by omega) (fun r hr => (gR r hr).1) (by omega)))))))
  · refine ⟨R, S4, ?_, ⟨1 + x, 1 + y, lR, gR, by omega, by omega, by omega, by omega⟩, a4, ((f1.trans f2).trans f3).trans f4⟩
    exact funM_rt rfl (sSeq_nx (sPar2_ok (aCons_ok (eOp_ok rfl (eCal_ok (aCons_ok rfl (aCons_ok rfl rfl)) e1) pAdd_ii) (aCons_ok (eOp_ok rfl (eCal_ok (aCons_ok rfl (aCons_ok rfl rfl)) e2) pAdd_ii) rfl))) (sSeq_nx (sAsg_ok (eCal_ok (aCons_ok rfl (aCons_ok rfl (aCons_ok rfl rfl))) e3) rfl) (sRet_ok (eIf_f (asB_ok (eOp_ok (eCal_ok (aCons_ok rfl (aCons_ok rfl rfl)) e4) rfl (by rw [pEq_ii]; simp [hz]))) rfl))))
end Sp
/-! # drawn grids: the whole draw, full ones -/
namespace Sp
open PySem L2 Ev Bd
structure GridF (J : List D → Prop) (f : List D → M D) : Prop where
  go : ∀ (t most : Nat) (S : Store), At J t S → 0 < most → most ≤ 8 → ∃ R S', f [.ref t, .int most] S = .ok (rowsL R) S' ∧ Grid most R ∧ At J t S' ∧ Fr t S S'
structure AnyF (J : List D → Prop) (f : List D → M D) : Prop where
  go : ∀ (t h w : Nat) (S : Store), At J t S → 0 < h → h ≤ 8 → 0 < w → w ≤ 8 → ∃ R S', f [.ref t, .int h, .int w] S = .ok (.lst (refs S.length h)) S' ∧ Gr J t S S.length h w R S'
structure RowsF (J : List D → Prop) (f : List D → M D) : Prop where
  go : ∀ (t h w : Nat) (S : Store), At J t S → 0 < h → h ≤ 8 → 0 < w → w ≤ 8 → ∃ R S', f [.ref t, .int h, .int w] S = .ok (rowsL R) S' ∧ R.length = h ∧ G01 w R ∧ At J t S' ∧ Fr t S S'
structure RingedF (J : List D → Prop) (f : List D → M D) : Prop where
  go : ∀ (t h w m : Nat) (S : Store), At J t S → h ≤ 8 → w ≤ 8 → 0 < m → m ≤ h → m ≤ w → ∃ R S', f [.ref t, .int h, .int w, .int m] S = .ok (rowsL R) S' ∧ R.length = h ∧ G01 w R ∧ At J t S' ∧ Fr t S S'
structure TurnF (f : List D → M D) : Prop where
  go : ∀ (R : Rw) (w : Nat) (S : Store), R ≠ [] → R.length ≤ 1000 → (∀ r ∈ R, r.length = w) → w ≤ 1000 → f [rowsL R] S = .ok (rowsL (turn R w)) S
theorem eif_b {tc : MT} {ma mb : ME} {δ : En} {S S1 S2 S3 : Store} {b : Bool} {x y : D} (h : tc δ S = .ok b S1) (ha : b = true → ma δ S1 = .ok x S2) (hb : b = false → mb δ S1 = .ok y S3) : eIf tc ma mb δ S = (if b then .ok x S2 else .ok y S3) := by
  cases b with
  | true => exact eIf_t h (ha rfl)
  | false => exact eIf_f h (hb rfl)
theorem tand_b {ta tb : MT} {δ : En} {S S1 : Store} {a b : Bool} (h : ta δ S = .ok a S1) (h2 : a = true → tb δ S1 = .ok b S1) : tAndM ta tb δ S = .ok (a && b) S1 := by
  cases a with
  | true => exact tAnd_t h (h2 rfl)
  | false => exact tAnd_f h
theorem sPar3_ok {i j l : Nat} {mas : MA} {δ : En} {S S1 : Store} {x y z : D} (h : mas δ S = .ok [x, y, z] S1) : sPar3 i j l mas δ S = .nx (((δ.set i (some x)).set j (some y)).set l (some z)) S1 := by
  simp only [sPar3, ofE, h]
theorem grid_ev {J : List D → Prop} {cal : Nat → List D → M D} (hd : Drw J (cal 60)) (he : GridF J (cal 59)) (hr : RingedF J (cal 57)) (ha : AnyF J (cal 58)) : GridF J (funM 6 2 (b__law_grid_v2 cal)) := ⟨fun t most S ht m1 m2 => by
  have hts := ht.lt
  obtain ⟨x, S1, e1, x0, x1, a1, f1, l1⟩ := hd.go t S most ht (by omega) (by omega)
  obtain ⟨y, S2, e2, y0, y1, a2, f2, l2⟩ := hd.go t S1 most a1 (by omega) (by omega)
  obtain ⟨z, S3, e3, z0, z1, a3, f3, l3⟩ := hd.go t S2 4 a2 (by omega) (by omega)
  obtain ⟨x, rfl⟩ := Int.eq_ofNat_of_zero_le x0
  obtain ⟨y, rfl⟩ := Int.eq_ofNat_of_zero_le y0
  obtain ⟨z, rfl⟩ := Int.eq_ofNat_of_zero_le z0
  have ff := (f1.trans f2).trans f3
  have cx : ((1 + x : Nat) : Int) = 1 + (x : Int) := by omega
  have cy : ((1 + y : Nat) : Int) = 1 + (y : Int) := by omega
  have first : sPar3 2 3 4 (aCons (eOp pAdd (eC (.int 1)) (eCal (cal 60) (aCons (eVar 0) (aCons (eVar 1) aNil)))) (aCons (eOp pAdd (eC (.int 1)) (eCal (cal 60) (aCons (eVar 0) (aCons (eVar 1) aNil)))) (aCons (eCal (cal 60) (aCons (eVar 0) (aCons (eC (.int 4)) aNil))) aNil))) [some (.ref t), some (.int most), none, none, none, none] S
      = .nx [some (.ref t), some (.int most), some (.int (1 + (x : Int))), some (.int (1 + (y : Int))), some (.int z), none] S3 := by
    exact (sPar3_ok (aCons_ok (eOp_ok (S1 := S) (ma := eC (.int 1)) (δ := [some (.ref t), some (.int most), none, none, none, none]) rfl (eCal_ok (aCons_ok rfl (aCons_ok rfl rfl)) e1) pAdd_ii) (aCons_ok (eOp_ok (ma := eC (.int 1)) rfl (eCal_ok (aCons_ok rfl (aCons_ok rfl rfl)) e2) pAdd_ii) (aCons_ok (eCal_ok (aCons_ok rfl (aCons_ok rfl rfl)) e3) rfl)))).trans rfl
  by_cases hz : z = 0
  · subst hz
    obtain ⟨R, S4, e4, g4, a4, f4⟩ := he.go t most S3 a3 m1 m2
    refine ⟨R, S4, ?_, g4, a4, ff.trans f4⟩
    unfold b__law_grid_v2
    exact funM_rt rfl (sSeq_nx first (sSeq_rt (sIf_t (asB_ok (eOp_ok rfl rfl pEq_ii)) (sRet_ok (eCal_ok (aCons_ok rfl (aCons_ok rfl rfl)) e4)))))
  · let m : Nat := if z = 3 ∧ 3 < x ∧ 3 < y then 5 else 3
    have hmin : ∀ S, pMin [.int (1 + (x : Int)), .int (1 + (y : Int))] S = some (.int (1 + (min x y : Nat)), S) := fun S => by
      rw [min2]
      congr 3
      split <;> omega
    have h5 : ∀ S, eIf (tAndM (fun δ => asB (eOp pEq (eVar 4) (eC (.int 3)) δ)) (fun δ => asB (eOp pGt (eCallV (pMin) (aCons (eVar 2) (aCons (eVar 3) aNil))) (eC (.int 4)) δ))) (eC (.int 5)) (eC (.int 3)) [some (.ref t), some (.int most), some (.int (1 + (x : Int))), some (.int (1 + (y : Int))), some (.int z), none] S = .ok (.int m) S := fun S => by
      rw [eif_b (tand_b (asB_ok (eOp_ok rfl rfl pEq_ii)) (fun _ => asB_ok (eOp_ok (eCallV_ok (aCons_ok rfl (aCons_ok rfl rfl)) (hmin S)) rfl pGt_ii))) (fun _ => rfl) (fun _ => rfl)]
      show (if _ then _ else _) = Res.ok (D.int ((if _ then _ else _ : Nat) : Int)) S
      by_cases h3 : z = 3 ∧ 3 < x ∧ 3 < y
      · rw [if_pos h3, if_pos]
        · rfl
        · simp only [Bool.and_eq_true, beq_iff_eq, decide_eq_true_eq]; omega
      · rw [if_neg h3, if_neg]
        · rfl
        · simp only [Bool.and_eq_true, beq_iff_eq, decide_eq_true_eq]; omega
    have hm : 0 < m ∧ (z = 3 ∧ 3 < x ∧ 3 < y ∨ m = 3) ∧ m ≤ 5 := by
      show 0 < (if _ then _ else _ : Nat) ∧ (_ ∨ (if _ then _ else _ : Nat) = 3) ∧ (if _ then _ else _ : Nat) ≤ 5
      split
      · exact ⟨by omega, .inl (by assumption), by omega⟩
      · exact ⟨by omega, .inr rfl, by omega⟩
    by_cases hc : 1 < z ∧ 1 < x ∧ 1 < y
    · obtain ⟨R, S4, e4, lR, gR, a4, f4⟩ := hr.go t (1 + x) (1 + y) m S3 a3 (by omega) (by omega) hm.1 (by omega) (by omega)
      rw [cx, cy] at e4
      refine ⟨R, S4, ?_, ⟨1 + x, 1 + y, lR, gR, by omega, by omega, by omega, by omega⟩, a4, ff.trans f4⟩
      unfold b__law_grid_v2
      refine funM_rt rfl (sSeq_nx first (sSeq_nx (sIf_f (asB_ok (eOp_ok rfl rfl (by rw [pEq_ii]; simp [hz]))) rfl) (sSeq_nx (sAsg_ok (h5 S3) rfl) (sRet_ok (eIf_t (tAnd_t (asB_ok (eOp_ok rfl rfl (by rw [pGt_ii, decide_eq_true (by omega)]))) (asB_ok (eOp_ok (eCallV_ok (aCons_ok rfl (aCons_ok rfl rfl)) (hmin S3)) rfl (by rw [pGt_ii, decide_eq_true (by omega)])))) (eCal_ok (aCons_ok rfl (aCons_ok rfl (aCons_ok rfl (aCons_ok rfl rfl)))) e4))))))
    · obtain ⟨R, S4, e4, G4⟩ := ha.go t (1 + x) (1 + y) S3 a3 (by omega) (by omega) (by omega) (by omega)
      rw [cx, cy] at e4
      obtain ⟨S5, e5, l5, k5⟩ := frz_rows G4.c
      rw [G4.len] at e5
      have hts3 := a3.lt
      refine ⟨R, S5, ?_, ⟨1 + x, 1 + y, G4.len, G4.g, by omega, by omega, by omega, by omega⟩, ?_, ff.trans ⟨by rw [l5]; exact G4.f.1, fun j hj hn => by rw [k5 j hj]; exact G4.f.2 j hj hn⟩⟩
      · unfold b__law_grid_v2
        have hcond : tAndM (fun δ => asB (eOp pGt (eVar 4) (eC (.int 1)) δ)) (fun δ => asB (eOp pGt (eCallV (pMin) (aCons (eVar 2) (aCons (eVar 3) aNil))) (eC (.int 2)) δ)) [some (.ref t), some (.int most), some (.int (1 + (x : Int))), some (.int (1 + (y : Int))), some (.int z), some (.int m)] S3 = .ok false S3 := by
          rw [tand_b (asB_ok (eOp_ok rfl rfl pGt_ii)) (fun _ => asB_ok (eOp_ok (eCallV_ok (aCons_ok rfl (aCons_ok rfl rfl)) (hmin S3)) rfl pGt_ii))]
          congr 1
          simp only [Bool.and_eq_false_iff, decide_eq_false_iff_not]
          omega
        exact funM_rt rfl (sSeq_nx first (sSeq_nx (sIf_f (asB_ok (eOp_ok rfl rfl (by rw [pEq_ii]; simp [hz]))) rfl) (sSeq_nx (sAsg_ok (h5 S3) rfl) (sRet_ok (eIf_f hcond (eFrz_ok (eCal_ok (aCons_ok rfl (aCons_ok rfl (aCons_ok rfl rfl))) e4) e5))))))
      · obtain ⟨c, h1, h2⟩ := G4.a
        exact ⟨c, by rw [k5 t hts3]; exact h1, h2⟩⟩
/-! full ones -/
theorem max01 {r : List Int} (h : ∀ i ∈ r, i = 0 ∨ i = 1) (hne : r ≠ []) (h0 : maxL r ≠ 0) : (1 : Int) ∈ r := by
  obtain ⟨h1, h2⟩ := maxL_ok r hne
  rcases h _ h1 with e | e
  · exact absurd e h0
  · rw [e] at h1; exact h1
theorem maxs_ev {mi : MA} {δ : En} {S : Store} {R : Rw} {k : Nat} (hi : mi δ S = .ok (R.map lI) S) (hl : R.length ≤ 1000) (hne : ∀ r ∈ R, r ≠ []) (hk : ∀ d, eVar k ((wipeD δ [k]).set k (some (lI d))) S = .ok (lI d) S) :
    eOp pNotIn (eC (.int 0)) (eLc newL mi (uNm k) tYesM (eCallV (pMax) (aCons (eVar k) aNil)) [k]) δ S = .ok (.bl (!decide ((0 : Int) ∈ R.map maxL))) S := by
  have e := lc_mapE (S := S) (me := eCallV (pMax) (aCons (eVar k) aNil)) (δ0 := wipeD δ [k]) (k := k) lI D.int maxL (zs := R) (small (by omega)) (fun r hr => eCallV_ok (aCons_ok (hk r) rfl) (max_lI (hne r hr)))
  exact eOp_ok rfl (eLc_ok hi e (newL_ev (by simp; exact small (by omega)))) notin_lI
/-- the test of fullness: if it tells True the grid is full -/
theorem fulls_ev {cal : Nat → List D → M D} (ht : TurnF (cal 36)) {R : Rw} {most : Nat} {S : Store} (g : Grid most R) (hm : most ≤ 8) : ∃ b, funM 2 1 (b__law_full cal) [rowsL R] S = .ok (.bl b) S ∧ (b = true → ∃ h w, Full h w R ∧ h ≤ most ∧ w ≤ most) := by
  obtain ⟨h, w, lR, gR, h1, h2, w1, w2⟩ := g.ex
  have hR : R ≠ [] := by intro e; subst e; simp at lR; omega
  obtain ⟨t1, t2⟩ := turn_g01 lR gR
  have n1 : ∀ r ∈ R, r ≠ [] := fun r hr e => by have := (gR r hr).1; rw [e] at this; simp at this; omega
  have n2 : ∀ r ∈ turn R w, r ≠ [] := fun r hr e => by have := (t2 r hr).1; rw [e] at this; simp at this; omega
  have e1 := maxs_ev (mi := iAny (eVar 0)) (δ := [some (rowsL R), none]) (S := S) (k := 1) (R := R) (iAny_ok rfl rfl) (by omega) n1 (fun d => rfl)
  have e2 := maxs_ev (mi := iAny (eCal (cal 36) (aCons (eVar 0) aNil))) (δ := [some (rowsL R), none]) (S := S) (k := 1) (R := turn R w) (iAny_ok (eCal_ok (aCons_ok rfl rfl) (ht.go R w S hR (by omega) (fun r hr => (gR r hr).1) (by omega))) rfl) (by omega) n2 (fun d => rfl)
  unfold b__law_full
  by_cases hb : (0 : Int) ∈ R.map maxL
  · exact ⟨false, funM_rt rfl (sRet_ok (eAnd_f (e1.trans (by rw [decide_eq_true hb]; rfl)) rfl)), fun z => by cases z⟩
  · refine ⟨_, funM_rt rfl (sRet_ok (eAnd_t (e1.trans (by rw [decide_eq_false hb])) rfl e2)), fun z => ?_⟩
    have hb2 : (0 : Int) ∉ (turn R w).map maxL := by simpa using z
    refine ⟨h, w, ⟨lR, gR, fun r hr => ?_, fun k hk => ?_, h1, by omega, w1, by omega⟩, h2, w2⟩
    · exact max01 (gR r hr).2 (n1 r hr) fun e => hb (List.mem_map.mpr ⟨r, hr, e⟩)
    · have hm : (R.map fun r => r.getD (k : Int).toNat 0) ∈ turn R w := List.mem_map.mpr ⟨(k : Int), mem_rng.mpr ⟨by omega, by omega⟩, rfl⟩
      have := max01 (t2 _ hm).2 (n2 _ hm) fun e => hb2 (List.mem_map.mpr ⟨_, hm, e⟩)
      obtain ⟨r, hr, e⟩ := List.mem_map.mp this
      refine ⟨r, hr, ?_⟩
      have hl : k < r.length := by rw [(gR r hr).1]; exact hk
      rw [Int.toNat_natCast, List.getD_eq_getElem?_getD, List.getElem?_eq_getElem hl] at e
      rw [List.getElem?_eq_getElem hl]
      simpa using e
theorem cut_scr {mo ma : ME} {δ : En} {S S1 S2 : Store} {ns : List Int} {m : Nat} (h : mo δ S = .ok (.scr ns) S1) (h2 : ma δ S1 = .ok (.int m) S2) (hm : m ≤ 1000) : eCut mo none (some ma) δ S = .ok (lI (ns.take m)) S2 := by
  have hl' : ((iD ns).take m).length ≤ sizeLine := Nat.le_trans (show _ ≤ 1000 by simp; omega) (small (by omega))
  have e : (iD ns).take m = iD (ns.take m) := by simp [iD, List.map_take]
  have e2 : pCut (.scr ns) none (some (m : Int)) S2 = some (lI (ns.take m), S2) := by
    show ((lstOf S2 (.scr ns)).bind fun xs => newL (cutD xs none (some (m : Int))) S2) = _
    rw [show lstOf S2 (.scr ns) = some (iD ns) from rfl, Option.bind_some, cutD_take, newL_ev hl', e]
  simp only [eCut, M.bind, h, oPart, M.pure, h2, lft, e2]
theorem pow18 {S : Store} : pPow (.int 10) (.int 18) S = some (.int 1000000000000000000, S) := by
  have h : decide ((0 : Int) ≤ 18 ∧ (18 : Int) ≤ 1000000 ∧ (10 : Int).natAbs < 2 ^ 64) = true := by decide
  simp only [pPow, pInt2, h, if_true]
  rfl
/-- the script's reed: a draw's start -/
theorem reed_ev {cal : Nat → List D → M D} {ns : List Int} {k : Nat} {S : Store} (hk : k ≤ 1000) : ∃ c, ReedJ c ∧ funM 5 2 (b__law_reed cal) [.scr ns, .int k] S = .ok (.ref S.length) (S ++ [some (.lst c)]) := by
  obtain ⟨δ2, S2, e2, ⟨m, o, rfl⟩, hS⟩ := loop_inv (mg := gNm 3) (mb := (sAsg (eOp pMod (eCallV pInt (aCons (eOp pAdd (eOp pAdd (eOp pMul (eVar 2) (eC (.int 38393))) (eVar 3)) (eC (.int 311))) aNil)) (eC (.int 2147482277))) (gNm 2)))
    (ds := iD (ns.take 4)) (δ := [some (.scr ns), some (.int k), some (.int (90011 + 4219 * (k : Int))), none, none]) (S := S)
    (fun j δ S' => (∃ (m : Int) (o : Option D), δ = [some (.scr ns), some (.int k), some (.int m), o, none]) ∧ S' = S) (by
      rintro j δ S' hj ⟨⟨m, o, rfl⟩, rfl⟩
      rw [iD_get hj]
      exact ⟨_, _, rfl, _, _, sAsg_ok (eOp_ok (eCallV_ok (aCons_ok (eOp_ok (eOp_ok (eOp_ok rfl rfl (pMul_ii (mul_r (by omega) (by omega)))) rfl pAdd_ii) rfl pAdd_ii) rfl) pInt_i) rfl (pMod_ii (by omega))) rfl, ⟨_, _, rfl⟩, rfl⟩) ⟨⟨_, _, rfl⟩, rfl⟩
  subst hS
  have own : ∃ v : Int, eIf (fun δ => asB (eOp pLt (eVar 1) (eCallV (pLen) (aCons (eVar 0) aNil)) δ)) (eOp pIx (eVar 0) (eVar 1)) (eC (.int 0)) [some (.scr ns), some (.int k), some (.int m), o, none] S2 = .ok (.int v) S2 := by
    by_cases h : k < ns.length
    · exact ⟨ns[k], eIf_t (asB_ok (eOp_ok rfl (eCallV_ok (aCons_ok rfl rfl) pLen_scr) (by rw [pLt_ii, decide_eq_true (by omega)]))) (eOp_ok rfl rfl (pIx_scr h))⟩
    · exact ⟨0, eIf_f (asB_ok (eOp_ok rfl (eCallV_ok (aCons_ok rfl rfl) pLen_scr) (by rw [pLt_ii, decide_eq_false (by omega)]))) rfl⟩
  obtain ⟨v, ev⟩ := own
  have habs : 0 ≤ (if v < 0 then -v else v) := by split <;> omega
  have sec : ∃ b : Int, 0 ≤ b ∧ eIf (fun δ => asB (eOp pGe (eCallV (pAbs) (aCons (eVar 4) aNil)) (eOp pPow (eC (.int 10)) (eC (.int 18))) δ)) (eCallV (pAbs) (aCons (eVar 4) aNil)) (eC (.int 0)) [some (.scr ns), some (.int k), some (.int m), o, some (.int v)] S2 = .ok (.int b) S2 := by
    by_cases h : 1000000000000000000 ≤ (if v < 0 then -v else v)
    · exact ⟨_, habs, eIf_t (asB_ok (eOp_ok (eCallV_ok (aCons_ok rfl rfl) rfl) (eOp_ok rfl rfl pow18) (by rw [pGe_ii, decide_eq_true h]))) (eCallV_ok (aCons_ok rfl rfl) rfl)⟩
    · exact ⟨0, Int.le_refl _, eIf_f (asB_ok (eOp_ok (eCallV_ok (aCons_ok rfl rfl) rfl) (eOp_ok rfl rfl pow18) (by rw [pGe_ii, decide_eq_false h]))) rfl⟩
  obtain ⟨b, hb, eb⟩ := sec
  unfold b__law_reed
  exact ⟨[.int ((m * 71 + v) % 2147482277), .int b], ⟨_, _, rfl, hb⟩, funM_rt rfl (sSeq_nx (sAsg_ok (eOp_ok rfl (eOp_ok rfl rfl (pMul_ii (mul_l (by omega) (by omega)))) pAdd_ii) rfl) (sSeq_nx (sFor_ok (iAny_ok (cut_scr (m := 4) rfl rfl (by omega)) rfl) e2) (sSeq_nx (sAsg_ok ev rfl) (sRet_ok (eLstC_ok (aCons_ok (eOp_ok (eCallV_ok (aCons_ok (eOp_ok (eOp_ok rfl rfl (pMul_ii (mul_r (by omega) (by omega)))) rfl pAdd_ii) rfl) pInt_i) rfl (pMod_ii (by omega))) (aCons_ok eb rfl)) (small (by simp)))))))⟩
end Sp
/-! # colourings: the plain law -/
namespace Sp
open PySem L2 Ev
theorem snoc_ind {α : Type} {P : List α → Prop} (h0 : P []) (hs : ∀ l x, P l → P (l ++ [x])) (l : List α) : P l := by
  have : ∀ r : List α, P r.reverse := by
    intro r
    induction r with
    | nil => exact h0
    | cons x r ih => rw [List.reverse_cons]; exact hs _ _ ih
  have := this l.reverse
  rwa [List.reverse_reverse] at this
theorem rng_succ {n : Nat} : rng (n + 1) = rng n ++ [(n : Int)] := by simp [rng, List.range_succ]
/-! different values -/
def dst (l : List Int) : List Int := l.foldl (fun acc x => if x ∈ acc then acc else acc ++ [x]) []
theorem dst_snoc {l : List Int} {x : Int} : dst (l ++ [x]) = if x ∈ dst l then dst l else dst l ++ [x] := by
  unfold dst
  rw [List.foldl_append]
  rfl
theorem mem_dst {l : List Int} {x : Int} : x ∈ dst l ↔ x ∈ l := by
  induction l using snoc_ind with
  | h0 => simp [dst]
  | hs l y ih =>
    rw [dst_snoc]
    split
    · rename_i h
      rw [List.mem_append, List.mem_singleton, ih]
      constructor
      · exact .inl
      · rintro (h1 | rfl)
        · exact h1
        · exact ih.mp h
    · rw [List.mem_append, List.mem_append, ih]
theorem dst_le {l : List Int} : (dst l).length ≤ l.length := by
  induction l using snoc_ind with
  | h0 => simp [dst]
  | hs l y ih => rw [dst_snoc]; split <;> simp <;> omega
theorem dst_step {l : List Int} {x : Int} : (dst (l ++ [x])).length ≤ (dst l).length + 1 := by rw [dst_snoc]; split <;> simp
theorem dst_nodup {l : List Int} : (dst l).Nodup := by
  induction l using snoc_ind with
  | h0 => simp [dst]
  | hs l y ih =>
    rw [dst_snoc]
    split
    · exact ih
    · rename_i h
      rw [List.nodup_append]
      refine ⟨ih, by simp, fun a ha b hb => ?_⟩
      rw [List.mem_singleton.mp hb]
      intro e; exact h (e ▸ ha)
theorem nodup_le {α : Type} [DecidableEq α] : ∀ {l m : List α}, l.Nodup → (∀ x ∈ l, x ∈ m) → l.length ≤ m.length
  | [], m, _, _ => by simp
  | a :: l, m, h, hs => by
    rw [List.nodup_cons] at h
    have ha := hs a (List.mem_cons_self ..)
    have := nodup_le (l := l) (m := m.erase a) h.2 fun x hx => (List.mem_erase_of_ne (by rintro rfl; exact h.1 hx)).mpr (hs x (List.mem_cons_of_mem _ hx))
    rw [List.length_erase_of_mem ha] at this
    have := List.length_pos_of_mem ha
    simp only [List.length_cons]; omega
theorem dst_bound {l : List Int} {K : Nat} (h : ∀ x ∈ l, 0 ≤ x ∧ x < K) : (dst l).length ≤ K := by
  have := nodup_le (m := rng K) (dst_nodup (l := l)) fun x hx => mem_rng.mpr (h x (mem_dst.mp hx))
  rwa [rng_length] at this
/-- the law counts so -/
def dlaw (l : List Int) : List Int := (rng l.length).filter fun j => !decide (l.getD j.toNat 0 ∈ l.take j.toNat)
theorem dlaw_len {l : List Int} : (dlaw l).length = (dst l).length := by
  induction l using snoc_ind with
  | h0 => simp [dst, dlaw, rng]
  | hs l y ih =>
    unfold dlaw at ih ⊢
    rw [List.length_append, List.length_singleton, rng_succ, List.filter_append, List.length_append, dst_snoc]
    have e1 : (rng l.length).filter (fun j => !decide ((l ++ [y]).getD j.toNat 0 ∈ (l ++ [y]).take j.toNat)) = (rng l.length).filter (fun j => !decide (l.getD j.toNat 0 ∈ l.take j.toNat)) := by
      refine List.filter_congr fun j hj => ?_
      have hj := mem_rng.mp hj
      have hl : j.toNat < l.length := by omega
      rw [List.take_append_of_le_length (by omega), List.getD_eq_getElem?_getD, List.getD_eq_getElem?_getD, List.getElem?_append_left hl]
    rw [e1, ih]
    have e2 : (l ++ [y]).getD ((l.length : Int).toNat) 0 = y := by simp
    have e3 : (l ++ [y]).take ((l.length : Int).toNat) = l := by simp
    by_cases h : y ∈ l
    · have h' := mem_dst.mpr h
      rw [if_pos h', List.filter_cons, e2, e3, decide_eq_true h]; simp
    · have h' := fun z => h (mem_dst.mp z)
      rw [if_neg h', List.filter_cons, e2, e3, decide_eq_false h]; simp
/-! hues that grow -/
def nxt (l : List Int) : Int := 1 + maxL (-1 :: l)
theorem nxt_nn (l : List Int) : 0 ≤ nxt l := by
  have := (maxL_ok (-1 :: l) (by simp)).2 (-1) (by simp)
  unfold nxt; omega
def lim (K : Nat) (l : List Int) : Nat := if nxt l + 1 < K then (nxt l + 1).toNat else K
theorem lim_int {K : Nat} {l : List Int} : ((lim K l : Nat) : Int) = if nxt l + 1 < K then nxt l + 1 else K := by
  have := nxt_nn l
  unfold lim
  split <;> simp <;> omega
theorem lim_le {K : Nat} {l : List Int} : lim K l ≤ K := by
  have := nxt_nn l
  unfold lim
  split <;> omega
def RG (K : Nat) (ts : List Int) : Prop := ∀ m, m < ts.length → 0 ≤ ts.getD m 0 ∧ ts.getD m 0 < lim K (ts.take m)
section
variable {K : Nat} {hs es : List Int} {q : Int}
theorem RG.nil : RG K [] := fun m h => by simp at h
theorem getD_left {l m : List Int} {k : Nat} (h : k < l.length) : (l ++ m).getD k 0 = l.getD k 0 := by
  rw [List.getD_eq_getElem?_getD, List.getD_eq_getElem?_getD, List.getElem?_append_left h]
theorem RG.pre (h : RG K (hs ++ es)) : RG K hs := fun m hm => by
  have := h m (by simp; omega)
  rwa [getD_left hm, List.take_append_of_le_length (by omega)] at this
theorem RG.last (h : RG K (hs ++ [q])) : 0 ≤ q ∧ q < lim K hs := by
  have := h hs.length (by simp)
  simpa using this
theorem RG.snoc (h : RG K hs) (h0 : 0 ≤ q) (h1 : q < lim K hs) : RG K (hs ++ [q]) := fun m hm => by
  by_cases hl : m < hs.length
  · rw [getD_left hl, List.take_append_of_le_length (by omega)]; exact h m hl
  · have : m = hs.length := by simp at hm; omega
    subst this
    simpa using ⟨h0, h1⟩
theorem RG.mem (h : RG K hs) : ∀ x ∈ hs, 0 ≤ x ∧ x < K := fun x hx => by
  obtain ⟨m, hm, rfl⟩ := List.mem_iff_getElem.mp hx
  have h1 := h m hm
  have h2 := lim_le (K := K) (l := hs.take m)
  rw [List.getD_eq_getElem?_getD, List.getElem?_eq_getElem hm] at h1
  simp only [Option.getD_some] at h1
  omega
end
/-! wants -/
def fnp (p hs : List Int) : List Int := (p.filter fun j => decide (j < (hs.length : Int))).map fun j => hs.getD j.toNat 0
def least (K : Nat) (n : Nat) : Int := if (n : Int) < K then n else K
def wnt (K : Nat) (p hs : List Int) : Bool := decide (least K p.length ≤ ((dst (fnp p hs)).length : Int) + p.length - (fnp p hs).length)
theorem filt_rng {P : Int → Bool} {m n : Nat} (h : m ≤ n) : ((rng n).filter P).filter (fun j => decide (j < (m : Int))) = (rng m).filter P := by
  obtain ⟨d, rfl⟩ := Nat.exists_eq_add_of_le h
  induction d with
  | zero =>
    rw [Nat.add_zero, List.filter_eq_self.mpr fun a ha => ?_]
    have := mem_rng.mp (List.mem_filter.mp ha).1
    simp; omega
  | succ d ih =>
    rw [← Nat.add_assoc, rng_succ, List.filter_append, List.filter_append, ih (by omega)]
    have e : ([((m + d : Nat) : Int)].filter P).filter (fun j => decide (j < (m : Int))) = [] := List.filter_eq_nil_iff.mpr fun a ha => by
      have := (List.mem_filter.mp ha).1
      rw [List.mem_singleton.mp this]
      simp; omega
    rw [e, List.append_nil]
theorem fnp_rng {P : Int → Bool} {n : Nat} {hs : List Int} (h : hs.length ≤ n) : fnp ((rng n).filter P) hs = ((rng hs.length).filter P).map fun j => hs.getD j.toNat 0 := by
  unfold fnp; rw [filt_rng h]
theorem fnp_snoc {P : Int → Bool} {n : Nat} {hs : List Int} {q : Int} (h : hs.length < n) : fnp ((rng n).filter P) (hs ++ [q]) = fnp ((rng n).filter P) hs ++ if P hs.length then [q] else [] := by
  rw [fnp_rng (by simp; omega), fnp_rng (by omega), List.length_append, List.length_singleton, rng_succ, List.filter_append, List.map_append]
  congr 1
  · refine List.map_congr_left fun j hj => ?_
    have := mem_rng.mp (List.mem_filter.mp hj).1
    exact getD_left (by omega)
  · rw [List.filter_cons]
    split <;> simp
theorem wnt_anti1 {P : Int → Bool} {n K : Nat} {hs : List Int} {q : Int} (h : hs.length < n) (w : wnt K ((rng n).filter P) (hs ++ [q]) = true) : wnt K ((rng n).filter P) hs = true := by
  unfold wnt at w ⊢
  rw [decide_eq_true_eq] at w ⊢
  rw [fnp_snoc h] at w
  generalize fnp ((rng n).filter P) hs = l at w ⊢
  by_cases hp : P hs.length
  · rw [if_pos hp] at w
    have := dst_step (l := l) (x := q)
    simp only [List.length_append, List.length_singleton] at w
    omega
  · rw [if_neg hp, List.append_nil] at w; exact w
theorem wnt_anti {P : Int → Bool} {n K : Nat} {hs es : List Int} (h : (hs ++ es).length ≤ n) (w : wnt K ((rng n).filter P) (hs ++ es) = true) : wnt K ((rng n).filter P) hs = true := by
  induction es using snoc_ind with
  | h0 => simpa using w
  | hs es q ih =>
    rw [← List.append_assoc] at w h
    have hl : (hs ++ es).length < n := by
      have : (hs ++ es ++ [q]).length = (hs ++ es).length + 1 := by simp; omega
      omega
    exact ih (by omega) (wnt_anti1 hl w)
/-! rows -/
def Pr (cs r : List Int) (j : Int) : Bool := r.getD (cs.getD j.toNat 0).toNat 0 == 1
def rowP (cs r : List Int) : List Int := (rng cs.length).filter (Pr cs r)
def rowsIn (R : Rw) (cs : List Int) : Rw := (R.map (rowP cs)).filter fun p => decide (1 < (p.length : Int))
def okR (RI : Rw) (K : Nat) (hs : List Int) : Bool := RI.all fun p => wnt K p hs
theorem okR_anti {R : Rw} {cs hs es : List Int} {K : Nat} (h : (hs ++ es).length ≤ cs.length) (w : okR (rowsIn R cs) K (hs ++ es) = true) : okR (rowsIn R cs) K hs = true := by
  unfold okR at w ⊢
  rw [List.all_eq_true] at w ⊢
  intro p hp
  have hw := w p hp
  obtain ⟨r, hr, rfl⟩ := List.mem_map.mp (List.mem_filter.mp hp).1
  exact wnt_anti h hw
def pickH (cs hs r : List Int) : List Int := (rowP cs r).map fun j => hs.getD j.toNat 0
def hued1 (K : Nat) (cs hs r : List Int) : Bool := ((dlaw (pickH cs hs r)).length : Int) == least K (pickH cs hs r).length
def hued (R : Rw) (K : Nat) (cs hs : List Int) : Bool := R.all fun r => hued1 K cs hs r
theorem pickH_eq {cs hs r : List Int} (h : hs.length = cs.length) : fnp (rowP cs r) hs = pickH cs hs r := by
  unfold pickH rowP
  rw [fnp_rng (by omega), h]
theorem hued1_iff {K : Nat} {cs hs r : List Int} (h : hs.length = cs.length) (hk : 0 < K) (hb : ∀ x ∈ hs, 0 ≤ x ∧ x < K) : hued1 K cs hs r = true ↔ (1 < (rowP cs r).length → wnt K (rowP cs r) hs = true) := by
  unfold hued1 wnt
  rw [pickH_eq h, dlaw_len, beq_iff_eq, decide_eq_true_eq]
  have hl : (pickH cs hs r).length = (rowP cs r).length := by simp [pickH]
  have h1 := dst_le (l := pickH cs hs r)
  have h2 : (dst (pickH cs hs r)).length ≤ K := dst_bound fun x hx => by
    obtain ⟨j, hj, rfl⟩ := List.mem_map.mp hx
    have := mem_rng.mp (List.mem_filter.mp hj).1
    exact hb _ (PySem.getD_mem (by omega))
  have h3 : (pickH cs hs r).length = 1 → (dst (pickH cs hs r)).length = 1 := fun e => by
    match pickH cs hs r, e with
    | [x], _ => simp [dst]
  unfold least
  generalize (dst (pickH cs hs r)).length = d at *
  generalize (pickH cs hs r).length = l at *
  rw [← hl]
  constructor
  · intro e _
    split at e <;> split <;> omega
  · intro e
    by_cases hc : 1 < l
    · have := e hc
      split at this <;> split <;> omega
    · have : l = 0 ∨ l = 1 := by omega
      rcases this with rfl | rfl
      · split <;> omega
      · have := h3 rfl; split <;> omega
theorem okR_iff {R : Rw} {K : Nat} {cs hs : List Int} (h : hs.length = cs.length) (hk : 0 < K) (hb : ∀ x ∈ hs, 0 ≤ x ∧ x < K) : okR (rowsIn R cs) K hs = true ↔ hued R K cs hs = true := by
  unfold okR hued rowsIn
  rw [List.all_eq_true, List.all_eq_true]
  constructor
  · intro w r hr
    refine (hued1_iff h hk hb).mpr fun hl => w _ (List.mem_filter.mpr ⟨List.mem_map.mpr ⟨r, hr, rfl⟩, by rw [decide_eq_true_eq]; omega⟩)
  · intro w p hp
    obtain ⟨h1, h2⟩ := List.mem_filter.mp hp
    obtain ⟨r, hr, rfl⟩ := List.mem_map.mp h1
    exact (hued1_iff h hk hb).mp (w r hr) (by rw [decide_eq_true_eq] at h2; omega)
/-! all colourings of the law -/
def grow (K : Nat) (L : Rw) : Rw := L.flatMap fun f => (rng (lim K f)).map fun q => f ++ [q]
def allC (K : Nat) : Nat → Rw
  | 0 => [[]]
  | n + 1 => grow K (allC K n)
theorem mem_allC {K : Nat} : ∀ {n : Nat} {ts : List Int}, ts ∈ allC K n ↔ RG K ts ∧ ts.length = n
  | 0, ts => by
    simp only [allC, List.mem_singleton]
    constructor
    · rintro rfl; exact ⟨RG.nil, rfl⟩
    · rintro ⟨_, h⟩; exact List.length_eq_zero_iff.mp h
  | n + 1, ts => by
    simp only [allC, grow, List.mem_flatMap, List.mem_map]
    constructor
    · rintro ⟨f, hf, q, hq, rfl⟩
      obtain ⟨h1, h2⟩ := mem_allC.mp hf
      have := mem_rng.mp hq
      exact ⟨h1.snoc this.1 this.2, by simp [h2]⟩
    · rintro ⟨h1, h2⟩
      have hne : ts ≠ [] := by rintro rfl; simp at h2
      rw [← List.dropLast_concat_getLast hne] at h1
      refine ⟨ts.dropLast, mem_allC.mpr ⟨h1.pre, by simp [h2]⟩, ts.getLast hne, mem_rng.mpr h1.last, List.dropLast_concat_getLast hne⟩
theorem grow_le {K b : Nat} (hk : K ≤ 4) : ∀ {L : Rw}, (grow K L).length ≤ 4 * L.length
  | [] => by simp [grow]
  | f :: L => by
    have := grow_le (b := b) hk (L := L)
    have h := lim_le (K := K) (l := f)
    unfold grow at this ⊢
    rw [List.flatMap_cons, List.length_append, List.length_map, rng_length, List.length_cons]
    omega
theorem allC_le {K : Nat} (hk : K ≤ 4) : ∀ n, (allC K n).length ≤ 4 ^ n
  | 0 => by simp [allC]
  | n + 1 => by
    have h1 := allC_le hk n
    have h2 := grow_le (b := 0) hk (L := allC K n)
    rw [Nat.pow_succ]
    unfold allC
    omega
def canC (R : Rw) (K : Nat) (cs : List Int) : Bool := ((allC K cs.length).any fun ts => hued R K cs ts)
end Sp
/-! # colourings: the program's functions -/
namespace Sp
open PySem PySem.W L2 Ev Bd
theorem gmem {l : List Int} {k : Nat} (h : k < l.length) : l.getD k 0 ∈ l := by
  rw [List.getD_eq_getElem?_getD, List.getElem?_eq_getElem h]
  exact List.getElem_mem h
section
variable {S S1 S2 : Store} {δ : En} {ma mb mc : ME} {i j x y z : Int} {ns : List Int}
theorem pNe_ii : pNe (.int i) (.int j) S = some (.bl (!(i == j)), S) := by
  simp [pNe, eqD, toPS, PyData.depth, PyData.eqv]
theorem depthAll_le {d : Nat} : ∀ {ps : List PyData}, (∀ p ∈ ps, p.depth ≤ d) → PyData.depthAll ps ≤ d
  | [], _ => by simp [PyData.depthAll]
  | p :: ps, h => by
    have h1 := h p (List.mem_cons_self ..)
    have h2 := depthAll_le (ps := ps) fun q hq => h q (List.mem_cons_of_mem _ hq)
    simp only [PyData.depthAll]
    omega
theorem ne_nil {xs : List D} {ps : List PyData} (h : toPSs S xs = some ps) (hd : PyData.depthAll ps ≤ 50) (hl : ps.length = xs.length) : pNe (.lst xs) (.lst []) S = some (.bl (!xs.isEmpty), S) := by
  have hd2 : (PyData.list ps).depth ≤ 60 := by simp only [PyData.depth]; omega
  have e2 : toPS S (.lst []) = some (.list []) := rfl
  have e3 : PyData.eqv (.list ps) (.list []) = xs.isEmpty := by
    cases ps with
    | nil =>
      have : xs = [] := List.length_eq_zero_iff.mp hl.symm
      subst this
      simp [PyData.eqv, PyData.eqvAll]
    | cons p ps =>
      cases xs with
      | nil => simp at hl
      | cons x xs => simp [PyData.eqv, PyData.eqvAll]
  simp only [pNe, eqD, toPS, h, Option.map_some, e2]
  rw [show toPSs S [] = some [] from rfl]
  simp only [Option.map_some, hd2, if_true, e3]
theorem ne_nilI : pNe (lI ns) (.lst []) S = some (.bl (!ns.isEmpty), S) := by
  rw [ne_nil (toPSs_ints S ns) (depthAll_le fun p hp => ?_) (by simp [iD])]
  · simp [iD]
  · obtain ⟨i, _, rfl⟩ := List.mem_map.mp hp
    simp [PyData.depth]
theorem toPSs_lots {R : Rw} : toPSs S (R.map tI) = some (R.map fun r => .tuple (r.map .int)) := by
  induction R with
  | nil => rfl
  | cons r R ih => simp only [List.map_cons, toPSs, toPS, toPSs_ints, Option.map_some, Option.bind_some, ih]
theorem ne_nilT {R : Rw} : pNe (lotsL R) (.lst []) S = some (.bl (!R.isEmpty), S) := by
  rw [ne_nil toPSs_lots (depthAll_le fun p hp => ?_) (by simp)]
  · simp
  · obtain ⟨r, _, rfl⟩ := List.mem_map.mp hp
    simp only [PyData.depth]
    have := depthAll_le (d := 1) (ps := r.map PyData.int) fun p hp => by
      obtain ⟨i, _, rfl⟩ := List.mem_map.mp hp
      simp [PyData.depth]
    omega
/-! sorted -/
def srt (xs : List Int) : List Int := xs.mergeSort fun a b => decide (a ≤ b)
theorem alike_ints : sortOk (ns.map PyData.int) = true := by
  unfold sortOk
  simp only [Bool.and_eq_true, Bool.or_eq_true, List.all_eq_true]
  refine ⟨⟨fun p hp q hq => ?_, .inr fun p hp => ?_⟩, fun p hp => ?_⟩
  · obtain ⟨i, _, rfl⟩ := List.mem_map.mp hp
    obtain ⟨j, _, rfl⟩ := List.mem_map.mp hq
    rfl
  · obtain ⟨i, _, rfl⟩ := List.mem_map.mp hp
    rfl
  · obtain ⟨i, _, rfl⟩ := List.mem_map.mp hp
    simp [PyData.depth]
theorem sort_ints (h : ns.length ≤ 1000) : pSortD [lI ns] S = some (lI (srt ns), S) := by
  have e1 : (iD ns).zip (ns.map PyData.int) = ns.map fun i => (D.int i, PyData.int i) := by
    clear h
    induction ns with
    | nil => rfl
    | cons i ns ih =>
      simp only [iD, List.map_cons, List.zip_cons_cons] at ih ⊢
      rw [ih]
  have e2 : (ns.map fun i => (D.int i, PyData.int i)).mergeSort (dataLe false (·.2)) = (srt ns).map fun i => (D.int i, PyData.int i) := by
    unfold srt
    rw [List.map_mergeSort]
    intro a _ b _
    have := congrFun (congrFun (dataLe_int (β := Int) id) a) b
    exact this.symm
  have hc : sortOk (ns.map PyData.int) = true ∧ (iD ns).length ≤ sizeLine := ⟨alike_ints, by rw [iD_len]; exact small (by omega)⟩
  simp only [pSortD, lstOf, Option.bind_some, toPs_ints]
  rw [if_pos hc]
  unfold sortBy
  rw [e1, e2]
  simp [iD]
theorem srt_perm : (srt ns).Perm ns := List.mergeSort_perm _ _
theorem srt_lt (h : ns.Nodup) {a b : Nat} (hab : a < b) (hb : b < (srt ns).length) : (srt ns).getD a 0 < (srt ns).getD b 0 := by
  have h1 : (srt ns).Pairwise (fun a b => decide (a ≤ b) = true) := List.pairwise_mergeSort (fun a b c h1 h2 => by simp at *; omega) (fun a b => by simp; omega) ns
  have h2 : (srt ns).Nodup := srt_perm.nodup_iff.mpr h
  have e1 := List.pairwise_iff_getElem.mp h1 a b (by omega) hb hab
  have e2 := List.pairwise_iff_getElem.mp h2 a b (by omega) hb hab
  rw [List.getD_eq_getElem?_getD, List.getD_eq_getElem?_getD, List.getElem?_eq_getElem hb, List.getElem?_eq_getElem (show a < (srt ns).length by omega)]
  simp only [Option.getD_some]
  simp at e1
  omega
end
/-- a lot of columns -/
structure Lot (w : Nat) (cs : List Int) : Prop where
  ne : 0 < cs.length
  le : cs.length ≤ 8
  b : ∀ c ∈ cs, 0 ≤ c ∧ c < w
  up : ∀ a, a + 1 < cs.length → cs.getD a 0 < cs.getD (a + 1) 0
section
variable {cal : Nat → List D → M D} {S : Store}
theorem integer_ev {i : Int} : funM 1 1 (b_is_integer cal) [.int i] S = .ok (.bl true) S := by
  unfold b_is_integer
  exact funM_rt rfl (sRet_ok (eAnd_t (eIsi_ok (b := true) rfl rfl (by rfl)) rfl (eNot_ok (b := false) (eIsi_ok (b := false) rfl rfl (by rfl)) rfl)))
theorem between_ev {x a b : Int} (h : ∀ S, cal 42 [.int x] S = .ok (.bl true) S) : funM 3 3 (b_is_between cal) [.int x, .int a, .int b] S = .ok (.bl (decide (a ≤ x) && decide (x ≤ b))) S := by
  unfold b_is_between
  refine funM_rt rfl (sSeq_nx (sIf_f (tNot_ok (b := true) (tru_ok (eCal_ok (aCons_ok rfl rfl) (h S)) rfl)) rfl) (sRet_ok ?_))
  cases hh : decide (a ≤ x) with
  | true => exact eAnd_t (eOr_f (eOp_ok rfl rfl rfl) rfl (eOp_ok rfl rfl (by rw [pLe_ii, hh]))) rfl (eOr_f (eOp_ok rfl rfl rfl) rfl (eOp_ok rfl rfl (by rw [pLe_ii, Bool.true_and])))
  | false => exact eAnd_f (eOr_f (eOp_ok rfl rfl rfl) rfl (eOp_ok rfl rfl (by rw [pLe_ii, hh]; rfl))) rfl
theorem funM_nx {nN n : Nat} {ds : List D} {ms : MS} {S S1 : Store} {δ1 : En} (hl : ds.length = n) (h : ms (startD nN ds) S = .nx δ1 S1) : funM nN n ms ds S = .ok .non S1 := by simp only [funM, hl, if_true, h]
theorem number_ev {x a b : Int} (h : ∀ S, cal 41 [.int x, .int a, .int b] S = .ok (.bl (decide (a ≤ x) && decide (x ≤ b))) S) (h1 : a ≤ x) (h2 : x ≤ b) : funM 3 3 (b_check_number cal) [.int x, .int a, .int b] S = .ok .non S := by
  unfold b_check_number
  exact funM_nx rfl (sIf_f (tNot_ok (b := true) (tru_ok (eCal_ok (aCons_ok rfl (aCons_ok rfl (aCons_ok rfl rfl))) (h S)) (by simp [truD, h1, h2]))) rfl)
theorem hues_ev {K : Nat} (h : ∀ S, cal 77 [.int K, .int 1, .int 8] S = .ok .non S) : funM 1 1 (b_check_hues cal) [.int K] S = .ok .non S := by
  unfold b_check_hues
  exact funM_nx rfl (sExpr_ok (eCal_ok (aCons_ok rfl (aCons_ok rfl (aCons_ok rfl rfl))) (h S)))
theorem all_true {α : Type} {l : List α} {f : α → Bool} (h : ∀ x ∈ l, f x = true) : (l.map f).all id = true := by
  rw [List.all_eq_true]
  intro b hb
  obtain ⟨x, hx, rfl⟩ := List.mem_map.mp hb
  exact h x hx
theorem rising_ev {w : Nat} {cs : List Int} (L : Lot w cs) (h : ∀ (x a b : Int) S, cal 41 [.int x, .int a, .int b] S = .ok (.bl (decide (a ≤ x) && decide (x ≤ b))) S) : funM 4 2 (b_is_rising cal) [tI cs, .int w] S = .ok (.bl true) S := by
  unfold b_is_rising
  have hl := L.le
  have hn := L.ne
  have e1 := lc_mapE (S := S) (me := eCal (cal 41) (aCons (eVar 2) (aCons (eC (.int 0)) (aCons (eOp pSub (eVar 1) (eC (.int 1))) aNil)))) (δ0 := wipeD [some (tI cs), some (.int w), none, none] [2]) (k := 2) D.int D.bl (fun x => (decide (0 ≤ x) && decide (x ≤ (w : Int) - 1))) (zs := cs) (small (by omega)) (fun x hx => eCal_ok (aCons_ok rfl (aCons_ok rfl (aCons_ok (eOp_ok rfl rfl pSub_ii) rfl))) (h _ _ _ _))
  have a1 : (cs.map fun x => (decide (0 ≤ x) && decide (x ≤ (w : Int) - 1))).all id = true := all_true fun x hx => by
    have := L.b x hx
    simp; omega
  have e2 := lc_mapE (S := S) (me := eOp pLt (eOp pIx (eVar 0) (eVar 3)) (eOp pIx (eVar 0) (eOp pAdd (eVar 3) (eC (.int 1))))) (δ0 := wipeD [some (tI cs), some (.int w), none, none] [3]) (k := 3) D.int D.bl (fun x => decide (cs.getD x.toNat 0 < cs.getD (x + 1).toNat 0)) (zs := rng (cs.length - 1)) (by rw [rng_length]; exact small (by omega)) (fun x hx => by
    have := mem_rng.mp hx
    exact eOp_ok (eOp_ok rfl rfl (ix_tI (by omega) (by omega))) (eOp_ok rfl (eOp_ok rfl rfl pAdd_ii) (ix_tI (by omega) (by omega))) pLt_ii)
  have a2 : ((rng (cs.length - 1)).map fun x => decide (cs.getD x.toNat 0 < cs.getD (x + 1).toNat 0)).all id = true := all_true fun x hx => by
    have := mem_rng.mp hx
    have h2 := L.up x.toNat (by omega)
    rw [show (x + 1).toNat = x.toNat + 1 by omega]
    simpa using h2
  rw [show (rng (cs.length - 1)).map D.int = rngD 0 (cs.length - 1) from rngD_eq.symm] at e2
  refine funM_rt rfl (sSeq_nx (sIf_f (tOr_f (tNot_ok (b := true) (tru_ok (eIsi_ok (b := true) rfl rfl (by rfl)) rfl)) (tNot_ok (b := true) (tru_ok (eCallV_ok (aCons_ok (eLc_ok (iAny_ok rfl rfl) e1 (newL_ev (by simp; exact small (by omega)))) rfl) all_ok) (by rw [a1]; rfl)))) rfl) (sRet_ok (eCallV_ok (aCons_ok (eLc_ok (iR1_ok (k := cs.length - 1) (aCons_ok (eOp_ok (eCallV_ok (aCons_ok rfl rfl) len_tI) rfl (by rw [pSub_ii, show ((cs.length : Nat) : Int) - 1 = ((cs.length - 1 : Nat) : Int) by omega])) rfl) (by omega)) e2 (newL_ev (by rw [List.length_map, List.length_map, rng_length]; exact small (by omega)))) rfl) (by rw [all_ok, a2]))))
theorem lot_ev {w : Nat} {cs : List Int} (L : Lot w cs) (h : ∀ S, cal 79 [tI cs, .int w] S = .ok (.bl true) S) : funM 2 2 (b_lot_of cal) [tI cs, .int w] S = .ok (.bl true) S := by
  unfold b_lot_of
  have := L.ne
  exact funM_rt rfl (sRet_ok (eAnd_t (eCal_ok (aCons_ok rfl (aCons_ok rfl rfl)) (h S)) rfl (eOp_ok (eCallV_ok (aCons_ok rfl rfl) len_tI) rfl (by rw [pGt_ii, decide_eq_true (by omega)]))))
theorem columns_ev {h w : Nat} {R : Rw} {cs : List Int} (hh : ∀ S, cal 76 [tI cs, .int w] S = .ok (.bl true) S) : funM 2 2 (b_check_columns cal) [tabD h w R, tI cs] S = .ok .non S := by
  unfold b_check_columns
  exact funM_nx rfl (sIf_f (tNot_ok (b := true) (tru_ok (eCal_ok (aCons_ok rfl (aCons_ok (eFld_ok rfl rfl rfl rfl) rfl)) (hh S)) rfl)) rfl)
/-! comprehensions with targets -/
theorem lc_filU {α β : Type} {me : ME} {mt : MT} {up : UpD} {δ0 : En} (enc : α → D) (enc' : β → D) (us : α → List (Nat × D)) (q : α → Bool) (g : α → β) {zs : List α} (hl : zs.length ≤ sizeLine) (hu : ∀ x ∈ zs, up (enc x) = some (us x)) (h1 : ∀ x ∈ zs, mt (setsD δ0 (us x)) S = .ok (q x) S) (h : ∀ x ∈ zs, q x = true → me (setsD δ0 (us x)) S = .ok (enc' (g x)) S) :
    loopC up mt me δ0 (zs.map enc) [] S = .ok (((zs.filter q).map g).map enc') S := by
  have key : ∀ (zs : List α) (acc : List D), acc.length + zs.length ≤ sizeLine → (∀ x ∈ zs, up (enc x) = some (us x)) → (∀ x ∈ zs, mt (setsD δ0 (us x)) S = .ok (q x) S) → (∀ x ∈ zs, q x = true → me (setsD δ0 (us x)) S = .ok (enc' (g x)) S) → loopC up mt me δ0 (zs.map enc) acc S = .ok (acc ++ ((zs.filter q).map g).map enc') S := by
    intro zs
    induction zs with
    | nil => intro acc _ _ _ _; simp [loopC, M.pure]
    | cons x zs ih =>
      intro acc hl hu h1 h
      have e0 := hu x (List.mem_cons_self ..)
      have e1 := h1 x (List.mem_cons_self ..)
      simp only [List.length_cons] at hl
      have ih2 := fun acc hl => ih acc hl (fun y hy => hu y (List.mem_cons_of_mem _ hy)) (fun y hy => h1 y (List.mem_cons_of_mem _ hy)) fun y hy => h y (List.mem_cons_of_mem _ hy)
      cases hq : q x with
      | false =>
        rw [hq] at e1
        simp only [List.map_cons, loopC, e0, M.bind, noX, e1, cond_false, List.filter_cons, hq, Bool.false_eq_true, if_false]
        exact ih2 acc (by omega)
      | true =>
        rw [hq] at e1
        have e2 := h x (List.mem_cons_self ..) hq
        simp only [List.map_cons, loopC, e0, M.bind, noX, e1, e2, cond_true, List.filter_cons, hq, if_true]
        rw [if_pos (by omega), ih2 (acc ++ [enc' (g x)]) (by simp; omega)]
        simp
  have := key zs [] (by simpa using hl) hu h1 h
  simpa using this
theorem iEnu_ok {mas : MA} {δ : En} {S S1 : Store} {xs : List D} (h : mas δ S = .ok [.tup xs] S1) : iEnu mas δ S = .ok (enumD xs) S1 := by simp only [iEnu, M.bind, h]
theorem enum_eq {cs : List Int} : enumD (iD cs) = (rng cs.length).map fun j => D.tup [.int j, .int (cs.getD j.toNat 0)] := by
  unfold enumD rng
  rw [iD_len, List.map_map]
  refine List.map_congr_left fun i hi => ?_
  have hi := List.mem_range.mp hi
  simp only [Function.comp, Int.toNat_natCast]
  rw [iD, getD_map D.int 0 hi]
theorem rows_in_ev {h w : Nat} {R : Rw} {cs : List Int} (L : Lot w cs) (g : G01 w R) (hl : R.length ≤ 1000) : funM 7 2 (b_rows_in cal) [rowsT R, tI cs] S = .ok (rowsL (rowsIn R cs)) S := by
  unfold b_rows_in
  have hn := L.le
  have e1 := lc_mapE (S := S) (me := eLc newL (iEnu (aCons (eVar 1) aNil)) (uTp 2 (uCs (uNm 3) (uCs (uNm 4) uNl))) (fun δ => tru ((eOp pIx (eVar 5) (eVar 4)) δ)) (eVar 3) [3, 4]) (δ0 := wipeD [some (rowsT R), some (tI cs), none, none, none, none, none] [5]) (k := 5) tI lI (rowP cs) (zs := R) (small (by omega)) (fun r hr => by
    have e := lc_filU (S := S) (mt := fun δ => tru ((eOp pIx (eVar 5) (eVar 4)) δ)) (me := eVar 3) (up := uTp 2 (uCs (uNm 3) (uCs (uNm 4) uNl))) (δ0 := wipeD [some (rowsT R), some (tI cs), none, none, none, some (tI r), none] [3, 4])
      (fun j => D.tup [.int j, .int (cs.getD j.toNat 0)]) D.int (fun j => [(3, .int j), (4, .int (cs.getD j.toNat 0))]) (Pr cs r) id (zs := rng cs.length) (by rw [rng_length]; exact small (by omega)) (fun j hj => rfl) (fun j hj => by
        have hj := mem_rng.mp hj
        have hc := L.b _ (gmem (l := cs) (k := j.toNat) (by omega))
        have gr := g r hr
        refine tru_ok (eOp_ok rfl rfl (ix_tI hc.1 (by omega))) ?_
        have hv := gr.2 _ (gmem (l := r) (k := (cs.getD j.toNat 0).toNat) (by omega))
        unfold Pr
        rcases hv with hv | hv <;> rw [hv] <;> rfl) (fun j hj _ => rfl)
    rw [← enum_eq, List.map_id] at e
    have hlen := List.length_filter_le (Pr cs r) (rng cs.length)
    rw [rng_length] at hlen
    exact eLc_ok (iEnu_ok (aCons_ok rfl rfl)) e (newL_ev (by simp; exact small (by omega))))
  have e2 := lc_filE (S := S) (mt := fun δ => asB (eOp pGt (eCallV (pLen) (aCons (eVar 6) aNil)) (eC (.int 1)) δ)) (me := eVar 6) (δ0 := wipeD [some (rowsT R), some (tI cs), some (rowsL (R.map (rowP cs))), none, none, none, none] [6]) (k := 6) lI lI (fun p => decide (1 < (p.length : Int))) id (zs := R.map (rowP cs)) (by rw [List.length_map]; exact small (by omega)) (fun p hp => asB_ok (eOp_ok (eCallV_ok (aCons_ok rfl rfl) len_lI) rfl pGt_ii)) (fun p hp _ => rfl)
  rw [List.map_id] at e2
  have hlen := List.length_filter_le (fun p : List Int => decide (1 < (p.length : Int))) (R.map (rowP cs))
  rw [List.length_map] at hlen
  exact funM_rt rfl (sSeq_nx (sAsg_ok (eLc_ok (iAny_ok rfl rfl) e1 (newL_ev (by simp; exact small (by omega)))) rfl) (sRet_ok (eLc_ok (iAny_ok rfl rfl) e2 (newL_ev (by rw [List.length_map]; exact small (by omega))))))
end
end Sp
/-! # colourings: the search, the law's own -/
namespace Sp
open PySem PySem.W L2 Ev Bd
theorem putKD_keys {kvs : List (Key × D)} {k : Key} {v : D} : (k ∈ kvs.map (·.1) → (putKD kvs k v).map (·.1) = kvs.map (·.1)) ∧ (k ∉ kvs.map (·.1) → (putKD kvs k v).map (·.1) = kvs.map (·.1) ++ [k]) := by
  unfold putKD
  by_cases h : (kvs.any fun kv => decide (kv.1 = k)) = true
  · have hm : k ∈ kvs.map (·.1) := by
      obtain ⟨kv, h1, h2⟩ := List.any_eq_true.mp h
      exact List.mem_map.mpr ⟨kv, h1, by simpa using h2⟩
    refine ⟨fun _ => ?_, fun z => absurd hm z⟩
    rw [if_pos h, List.map_map]
    refine List.map_congr_left fun kv _ => ?_
    simp only [Function.comp]
    split <;> rfl
  · have hm : k ∉ kvs.map (·.1) := fun hm => h (by
      obtain ⟨kv, h1, h2⟩ := List.mem_map.mp hm
      exact List.any_eq_true.mpr ⟨kv, h1, by simpa using h2⟩)
    refine ⟨fun z => absurd z hm, fun _ => ?_⟩
    rw [if_neg h, List.map_append]
    rfl
def prD (x : Int) : D := .tup [.int x, .bl true]
def prK (x : Int) : Key × D := (.inl x, .bl true)
theorem pairs_pr : ∀ l : List Int, pairsD (l.map prD) = some (l.map prK)
  | [] => rfl
  | x :: l => by
    simp only [List.map_cons, pairsD, pairs_pr l, prD, pairOf, keyOf, Option.map_some]
    rfl
theorem merge_keys (l : List Int) : (mergeD [] (l.map prK)).map (·.1) = (dst l).map (Sum.inl : Int → Key) := by
  induction l using snoc_ind with
  | h0 => rfl
  | hs l x ih =>
    have e : mergeD [] ((l ++ [x]).map prK) = putKD (mergeD [] (l.map prK)) (.inl x) (.bl true) := by
      unfold mergeD
      rw [List.map_append, List.foldl_append]
      rfl
    rw [e, dst_snoc]
    have hk := putKD_keys (kvs := mergeD [] (l.map prK)) (k := .inl x) (v := .bl true)
    rw [ih] at hk
    have hm : (Sum.inl x : Key) ∈ (dst l).map (Sum.inl : Int → Key) ↔ x ∈ dst l := by
      simp
    by_cases h : x ∈ dst l
    · rw [if_pos h, hk.1 (hm.mpr h)]
    · rw [if_neg h, hk.2 fun z => h (hm.mp z), List.map_append]; rfl
theorem merge_len (l : List Int) : (mergeD [] (l.map prK)).length = (dst l).length := by
  have := congrArg List.length (merge_keys l)
  simpa using this
section
variable {cal : Nat → List D → M D} {S : Store}
theorem wants_ev {p hs : List Int} {K : Nat} (hp : p.length ≤ 1000) (hb : ∀ j ∈ p, 0 ≤ j) : funM 6 3 (b_wants cal) [lI p, lI hs, .int K] S = .ok (.bl (wnt K p hs)) S := by
  unfold b_wants
  have e1 := lc_filE (S := S) (mt := fun δ => asB (eOp pLt (eVar 4) (eCallV (pLen) (aCons (eVar 1) aNil)) δ)) (me := eOp pIx (eVar 1) (eVar 4)) (δ0 := wipeD [some (lI p), some (lI hs), some (.int K), none, none, none] [4]) (k := 4) D.int D.int (fun j => decide (j < (hs.length : Int))) (fun j => hs.getD j.toNat 0) (zs := p) (small (by omega)) (fun j hj => asB_ok (eOp_ok rfl (eCallV_ok (aCons_ok rfl rfl) len_lI) pLt_ii)) (fun j hj hq => eOp_ok rfl rfl (ix_lI (hb j hj) (by simpa using hq)))
  have hl : (fnp p hs).length ≤ 1000 := by
    have := List.length_filter_le (fun j => decide (j < (hs.length : Int))) p
    unfold fnp; rw [List.length_map]; omega
  have e2 := lc_mapE (S := S) (me := eTup (aCons (eVar 5) (aCons (eC (.bl true)) aNil))) (δ0 := wipeD [some (lI p), some (lI hs), some (.int K), some (lI (fnp p hs)), none, none] [5]) (k := 5) D.int id prD (zs := fnp p hs) (small (by omega)) (fun x hx => eTup_ok (aCons_ok rfl (aCons_ok rfl rfl)) (small (by simp)))
  rw [List.map_id] at e2
  refine funM_rt rfl (sSeq_nx (sAsg_ok (eLc_ok (iAny_ok rfl rfl) e1 (newL_ev (by rw [List.length_map]; exact small (Nat.le_trans hl (by omega))))) rfl) (sRet_ok (eOp_ok (eOp_ok (eOp_ok (eCallV_ok (aCons_ok (eCallV_ok (z := .dic (mergeD [] ((fnp p hs).map prK))) (S2 := S) (aCons_ok (eLc_ok (iAny_ok rfl rfl) e2 (newL_ev (by rw [List.length_map]; exact small (by omega)))) rfl) ?_) rfl) (by simp only [pLenA]; rfl)) (eCallV_ok (aCons_ok rfl rfl) len_lI) pAdd_ii) (eCallV_ok (aCons_ok rfl rfl) len_lI) pSub_ii) (eCallV_ok (aCons_ok rfl (aCons_ok (eCallV_ok (aCons_ok rfl rfl) len_lI) rfl)) min2) ?_)))
  · simp only [pDict, lstOf, Option.bind_some, pairs_pr, Option.map_some]
  · rw [pGe_ii, merge_len]; rfl
/-! the search -/
def encO : Option (List Int) → D
  | none => .non
  | some ts => tI ts
def Dead (RI : Rw) (n K : Nat) (hs : List Int) : Prop := ∀ es, RG K (hs ++ es) → (hs ++ es).length = n → okR RI K (hs ++ es) = false
def Got (RI : Rw) (n K : Nat) (hs ts : List Int) : Prop := RG K ts ∧ ts.length = n ∧ (hs.length < n → okR RI K ts = true) ∧ (hs.length = n → ts = hs)
def Col (RI : Rw) (n K : Nat) (f : List D → M D) (hs : List Int) : Prop := ∃ o, (∀ S, f [rowsL RI, .int n, .int K, lI hs] S = .ok (encO o) S) ∧ (∀ ts, o = some ts → Got RI n K hs ts) ∧ (o = none → hs.length < n ∧ Dead RI n K hs)
theorem all_map_id {α : Type} {l : List α} {f : α → Bool} : (l.map f).all id = l.all f := by simp [List.all_map, Function.comp_def]
theorem coloured_ev {R : Rw} {cs : List Int} {K : Nat} {hs : List Int} (hK0 : 0 < K) (hK : K ≤ 8) (hn : cs.length ≤ 8) (hRI : (rowsIn R cs).length ≤ 1000)
    (hw : ∀ p ∈ rowsIn R cs, ∀ hs S, cal 78 [lI p, lI hs, .int K] S = .ok (.bl (wnt K p hs)) S)
    (hrec : ∀ q, RG K (hs ++ [q]) → hs.length < cs.length → okR (rowsIn R cs) K (hs ++ [q]) = true → Col (rowsIn R cs) cs.length K (cal 75) (hs ++ [q]))
    (hl : hs.length ≤ cs.length) (hg : RG K hs) : Col (rowsIn R cs) cs.length K (funM 9 4 (b_coloured cal)) hs := by
  by_cases hfull : hs.length = cs.length
  · refine ⟨some hs, fun S => ?_, fun ts e => ?_, fun e => by cases e⟩
    · unfold b_coloured
      exact funM_rt rfl (sSeq_rt (sIf_t (asB_ok (eOp_ok (eCallV_ok (aCons_ok rfl rfl) len_lI) rfl (by rw [pEq_ii, hfull, beq_self_eq_true]))) (sRet_ok (eCallV_ok (aCons_ok rfl rfl) (tuple_lst (by rw [iD_len]; exact small (by omega)))))))
    · cases e
      exact ⟨hg, hfull, fun h => by omega, fun _ => rfl⟩
  · have hlt : hs.length < cs.length := by omega
    let δ0 : Option D → Option D → Option D → En := fun o5 o6 o8 => [some (rowsL (rowsIn R cs)), some (.int cs.length), some (.int K), some (lI hs), some (.int (nxt hs)), o5, o6, none, o8]
    let body : MS := (sSeq (sAsg (eLst (aStar (eVar 3) (aCons (eVar 5) aNil))) (gNm 6))
    (sIf (fun δ => tru ((eCallV (pAll true) (aCons (eLc newL (iAny (eVar 0)) (uNm 7) tYesM (eCal (cal 78) (aCons (eVar 7) (aCons (eVar 6) (aCons (eVar 2) aNil)))) [7]) aNil)) δ)) (sSeq (sAsg (eCal (cal 75) (aCons (eVar 0) (aCons (eVar 1) (aCons (eVar 2) (aCons (eVar 6) aNil))))) (gNm 8))
    (sIf (fun δ => asB (eOp pIsNot (eVar 8) (eC .non) δ)) (sRet (eVar 8)) sNext)) sNext))
    have key : ∀ zs : List Int, (∀ q ∈ zs, 0 ≤ q ∧ q < lim K hs) → ∀ o5 o6 o8,
        (∃ ts, Got (rowsIn R cs) cs.length K hs ts ∧ ∀ S, loopF (gNm 5) body (zs.map D.int) (δ0 o5 o6 o8) S = .rt (tI ts) S) ∨ ((∀ q ∈ zs, Dead (rowsIn R cs) cs.length K (hs ++ [q])) ∧ ∃ o5' o6' o8', ∀ S, loopF (gNm 5) body (zs.map D.int) (δ0 o5 o6 o8) S = .nx (δ0 o5' o6' o8') S) := by
      intro zs
      induction zs with
      | nil => intro _ o5 o6 o8; exact .inr ⟨by simp, o5, o6, o8, fun S => rfl⟩
      | cons q zs ih =>
        intro hz o5 o6 o8
        have hq := hz q (List.mem_cons_self ..)
        have hgq := hg.snoc hq.1 hq.2
        have e6 : ∀ S, eLst (aStar (eVar 3) (aCons (eVar 5) aNil)) (δ0 (some (.int q)) o6 o8) S = .ok (lI (hs ++ [q])) S := fun S => by
          have := eLst_ok (S := S) (aStar_ok (ma := eVar 3) (mas := aCons (eVar 5) aNil) (δ := δ0 (some (.int q)) o6 o8) (S := S) (x := lI hs) (xs := iD hs) rfl rfl (aCons_ok rfl rfl)) (small (by rw [List.length_append, iD_len]; simp; omega))
          rw [this, show lI (hs ++ [q]) = .lst (iD hs ++ [.int q]) by rw [lI, iD_app]; rfl]
        have e7 : ∀ S, loopC (uNm 7) tYesM (eCal (cal 78) (aCons (eVar 7) (aCons (eVar 6) (aCons (eVar 2) aNil)))) (wipeD (δ0 (some (.int q)) (some (lI (hs ++ [q]))) o8) [7]) ((rowsIn R cs).map lI) [] S = .ok (((rowsIn R cs).map fun p => wnt K p (hs ++ [q])).map D.bl) S := fun S =>
          lc_mapE (S := S) lI D.bl (fun p => wnt K p (hs ++ [q])) (small (by omega)) fun p hp => eCal_ok (aCons_ok rfl (aCons_ok rfl (aCons_ok rfl rfl))) (hw p hp _ _)
        have et : ∀ S, tru ((eCallV (pAll true) (aCons (eLc newL (iAny (eVar 0)) (uNm 7) tYesM (eCal (cal 78) (aCons (eVar 7) (aCons (eVar 6) (aCons (eVar 2) aNil)))) [7]) aNil)) (δ0 (some (.int q)) (some (lI (hs ++ [q]))) o8)) S = .ok (okR (rowsIn R cs) K (hs ++ [q])) S := fun S => by
          refine tru_ok (eCallV_ok (aCons_ok (eLc_ok (iAny_ok rfl rfl) (e7 S) (newL_ev (by rw [List.length_map, List.length_map]; exact small (by omega)))) rfl) all_ok) ?_
          rw [all_map_id]
          rfl
        cases hok : okR (rowsIn R cs) K (hs ++ [q]) with
        | false =>
          have hb : ∀ S, body (δ0 (some (.int q)) o6 o8) S = .nx (δ0 (some (.int q)) (some (lI (hs ++ [q]))) o8) S := fun S => sSeq_nx (sAsg_ok (e6 S) rfl) (sIf_f ((et S).trans (by rw [hok])) rfl)
          have hstep : ∀ S, loopF (gNm 5) body ((q :: zs).map D.int) (δ0 o5 o6 o8) S = loopF (gNm 5) body (zs.map D.int) (δ0 (some (.int q)) (some (lI (hs ++ [q]))) o8) S := fun S => by
            show (match body (δ0 (some (.int q)) o6 o8) S with | .nx δ2 S2 => loopF (gNm 5) body (zs.map D.int) δ2 S2 | .ct δ2 S2 => loopF (gNm 5) body (zs.map D.int) δ2 S2 | .bk δ2 S2 => .nx δ2 S2 | r => r) = _
            rw [hb S]
          have hdead : Dead (rowsIn R cs) cs.length K (hs ++ [q]) := fun es h1 h2 => by
            cases hx : okR (rowsIn R cs) K (hs ++ [q] ++ es) with
            | false => rfl
            | true => rw [okR_anti (Nat.le_of_eq h2) hx] at hok; cases hok
          rcases ih (fun q hq => hz q (List.mem_cons_of_mem _ hq)) (some (.int q)) (some (lI (hs ++ [q]))) o8 with ⟨ts, h1, h2⟩ | ⟨h1, a, b, c, h2⟩
          · exact .inl ⟨ts, h1, fun S => (hstep S).trans (h2 S)⟩
          · exact .inr ⟨fun x hx => by rcases List.mem_cons.mp hx with rfl | hx; exact hdead; exact h1 x hx, a, b, c, fun S => (hstep S).trans (h2 S)⟩
        | true =>
          obtain ⟨o, c1, c2, c3⟩ := hrec q hgq hlt hok
          cases o with
          | some ts =>
            refine .inl ⟨ts, ?_, fun S => ?_⟩
            · obtain ⟨g1, g2, g3, g4⟩ := c2 ts rfl
              refine ⟨g1, g2, fun _ => ?_, fun h => by omega⟩
              by_cases hx : (hs ++ [q]).length < cs.length
              · exact g3 hx
              · rw [g4 (by simp at hx ⊢; omega)]; exact hok
            · have hb : ∀ S, body (δ0 (some (.int q)) o6 o8) S = .rt (tI ts) S := fun S => sSeq_nx (sAsg_ok (e6 S) rfl) (sIf_t ((et S).trans (by rw [hok])) (sSeq_nx (sAsg_ok (eCal_ok (aCons_ok rfl (aCons_ok rfl (aCons_ok rfl (aCons_ok rfl rfl)))) (c1 S)) rfl) (sIf_t (asB_ok (eOp_ok rfl rfl rfl)) (sRet_ok rfl))))
              show (match body (δ0 (some (.int q)) o6 o8) S with | .nx δ2 S2 => loopF (gNm 5) body (zs.map D.int) δ2 S2 | .ct δ2 S2 => loopF (gNm 5) body (zs.map D.int) δ2 S2 | .bk δ2 S2 => .nx δ2 S2 | r => r) = _
              rw [hb S]
          | none =>
            have hb : ∀ S, body (δ0 (some (.int q)) o6 o8) S = .nx (δ0 (some (.int q)) (some (lI (hs ++ [q]))) (some .non)) S := fun S => sSeq_nx (sAsg_ok (e6 S) rfl) (sIf_t ((et S).trans (by rw [hok])) (sSeq_nx (sAsg_ok (eCal_ok (aCons_ok rfl (aCons_ok rfl (aCons_ok rfl (aCons_ok rfl rfl)))) (c1 S)) rfl) (sIf_f (asB_ok (eOp_ok rfl rfl rfl)) rfl)))
            have hstep : ∀ S, loopF (gNm 5) body ((q :: zs).map D.int) (δ0 o5 o6 o8) S = loopF (gNm 5) body (zs.map D.int) (δ0 (some (.int q)) (some (lI (hs ++ [q]))) (some .non)) S := fun S => by
              show (match body (δ0 (some (.int q)) o6 o8) S with | .nx δ2 S2 => loopF (gNm 5) body (zs.map D.int) δ2 S2 | .ct δ2 S2 => loopF (gNm 5) body (zs.map D.int) δ2 S2 | .bk δ2 S2 => .nx δ2 S2 | r => r) = _
              rw [hb S]
            rcases ih (fun q hq => hz q (List.mem_cons_of_mem _ hq)) (some (.int q)) (some (lI (hs ++ [q]))) (some .non) with ⟨ts, h1, h2⟩ | ⟨h1, a, b, c, h2⟩
            · exact .inl ⟨ts, h1, fun S => (hstep S).trans (h2 S)⟩
            · exact .inr ⟨fun x hx => by rcases List.mem_cons.mp hx with rfl | hx; exact (c3 rfl).2; exact h1 x hx, a, b, c, fun S => (hstep S).trans (h2 S)⟩
    have hlim := lim_le (K := K) (l := hs)
    have e4 : ∀ S, eOp pAdd (eC (.int 1)) (eCallV (pMax) (aCons (eLst (aCons (eUn pNeg (eC (.int 1))) (aStar (eVar 3) aNil))) aNil)) [some (rowsL (rowsIn R cs)), some (.int cs.length), some (.int K), some (lI hs), none, none, none, none, none] S = .ok (.int (nxt hs)) S := fun S => by
      refine eOp_ok rfl (eCallV_ok (z := .int (maxL (-1 :: hs))) (S2 := S) (aCons_ok (eLst_ok (aCons_ok (eUn_ok rfl rfl) (aStar_ok (x := lI hs) (xs := iD hs) rfl rfl rfl)) (small (by simp [iD]; omega))) rfl) ?_) pAdd_ii
      rw [List.append_nil]
      exact max_lI (ns := -1 :: hs) (by simp)
    have er : ∀ S, iR1 (aCons (eCallV (pMin) (aCons (eVar 2) (aCons (eOp pAdd (eVar 4) (eC (.int 1))) aNil))) aNil) (δ0 none none none) S = .ok (rngD 0 (lim K hs)) S := fun S => by
      refine iR1_ok (aCons_ok (eCallV_ok (aCons_ok rfl (aCons_ok (eOp_ok rfl rfl pAdd_ii) rfl)) ?_) rfl) (by omega)
      rw [min2, lim_int]
    have first : ∀ S, sIf (fun δ => asB (eOp pEq (eCallV (pLen) (aCons (eVar 3) aNil)) (eVar 1) δ)) (sRet (eCallV pTuple (aCons (eVar 3) aNil))) sNext [some (rowsL (rowsIn R cs)), some (.int cs.length), some (.int K), some (lI hs), none, none, none, none, none] S = .nx [some (rowsL (rowsIn R cs)), some (.int cs.length), some (.int K), some (lI hs), none, none, none, none, none] S := fun S =>
      sIf_f (asB_ok (eOp_ok (eCallV_ok (aCons_ok rfl rfl) len_lI) rfl (by rw [pEq_ii]; simp; omega))) rfl
    have hk := key (rng (lim K hs)) (fun q hq => mem_rng.mp hq) none none none
    rw [show (rng (lim K hs)).map D.int = rngD 0 (lim K hs) from rngD_eq.symm] at hk
    unfold b_coloured
    rcases hk with ⟨ts, h1, h2⟩ | ⟨h1, a, b, c, h2⟩
    · refine ⟨some ts, fun S => ?_, fun ts' e => by cases e; exact h1, fun e => by cases e⟩
      exact funM_rt rfl (sSeq_nx (first S) (sSeq_nx (sAsg_ok (e4 S) rfl) (sSeq_rt (sFor_ok (er S) (h2 S)))))
    · refine ⟨none, fun S => ?_, fun ts' e => (by cases e), fun _ => ⟨hlt, fun es g1 g2 => ?_⟩⟩
      · exact funM_rt rfl (sSeq_nx (first S) (sSeq_nx (sAsg_ok (e4 S) rfl) (sSeq_nx (sFor_ok (er S) (h2 S)) (sRet_ok rfl))))
      · cases es with
        | nil => simp at g2; omega
        | cons q es =>
          rw [show hs ++ q :: es = hs ++ [q] ++ es by simp] at g1 g2 ⊢
          exact h1 q (mem_rng.mpr g1.pre.last) es g1 g2
end
end Sp
/-! # colourings: the whole function, the law's own counting -/
namespace Sp
open PySem PySem.W L2 Ev Bd
theorem loop_nx {mg : TGM} {mb : MS} {d : D} {ds : List D} {δ δ1 δ2 : En} {S S1 S2 : Store} (h1 : mg d δ S = some (δ1, S1)) (h2 : mb δ1 S1 = .nx δ2 S2) : loopF mg mb (d :: ds) δ S = loopF mg mb ds δ2 S2 := by simp only [loopF, h1, h2]
theorem loop_rt {mg : TGM} {mb : MS} {d d' : D} {ds : List D} {δ δ1 : En} {S S1 S2 : Store} (h1 : mg d δ S = some (δ1, S1)) (h2 : mb δ1 S1 = .rt d' S2) : loopF mg mb (d :: ds) δ S = .rt d' S2 := by simp only [loopF, h1, h2]
section
variable {cal : Nat → List D → M D} {S : Store}
theorem colouring_of_ev {R : Rw} {cs : List Int} {K : Nat} {d : D} (h1 : ∀ S, cal 74 [rowsT R, tI cs] S = .ok (rowsL (rowsIn R cs)) S) (h2 : ∀ S, cal 75 [rowsL (rowsIn R cs), .int cs.length, .int K, lI []] S = .ok d S) : funM 3 3 (b_colouring_of cal) [rowsT R, .int K, tI cs] S = .ok d S := by
  unfold b_colouring_of
  exact funM_rt rfl (sRet_ok (eCal_ok (aCons_ok (eCal_ok (aCons_ok rfl (aCons_ok rfl rfl)) (h1 S)) (aCons_ok (eCallV_ok (aCons_ok rfl rfl) len_tI) (aCons_ok rfl (aCons_ok (eLst_ok rfl (small (by simp))) rfl)))) (h2 S)))
theorem colouring_ev {h w K : Nat} {R : Rw} {cs : List Int} {d : D} (h1 : ∀ S, cal 23 [tabD h w R] S = .ok .non S) (h2 : ∀ S, cal 73 [.int K] S = .ok .non S) (h3 : ∀ S, cal 72 [tabD h w R, tI cs] S = .ok .non S) (h4 : ∀ S, cal 71 [rowsT R, .int K, tI cs] S = .ok d S) : funM 3 3 (b_colouring cal) [tabD h w R, .int K, tI cs] S = .ok d S := by
  unfold b_colouring
  exact funM_rt rfl (sSeq_nx (sExpr_ok (eCal_ok (aCons_ok rfl rfl) (h1 S))) (sSeq_nx (sExpr_ok (eCal_ok (aCons_ok rfl rfl) (h2 S))) (sSeq_nx (sExpr_ok (eCal_ok (aCons_ok rfl (aCons_ok rfl rfl)) (h3 S))) (sRet_ok (eCal_ok (aCons_ok (eFld_ok rfl rfl rfl rfl) (aCons_ok rfl (aCons_ok rfl rfl))) (h4 S))))))
/-- what colouring answers -/
def Ans (R : Rw) (K : Nat) (cs : List Int) (o : Option (List Int)) : Prop := match o with
  | none => canC R K cs = false
  | some ts => canC R K cs = true ∧ ts.length = cs.length ∧ (∀ x ∈ ts, 0 ≤ x ∧ x < K) ∧ hued R K cs ts = true
theorem ans_of {R : Rw} {K : Nat} {cs : List Int} {f : List D → M D} (hk : 0 < K) (hn : 0 < cs.length) (c : Col (rowsIn R cs) cs.length K f []) : ∃ o, (∀ S, f [rowsL (rowsIn R cs), .int cs.length, .int K, lI []] S = .ok (encO o) S) ∧ Ans R K cs o := by
  obtain ⟨o, c1, c2, c3⟩ := c
  refine ⟨o, c1, ?_⟩
  cases o with
  | none =>
    obtain ⟨_, d⟩ := c3 rfl
    unfold Ans canC
    refine Bool.eq_false_iff.mpr fun h => ?_
    obtain ⟨ts, h1, h2⟩ := List.any_eq_true.mp h
    obtain ⟨g1, g2⟩ := mem_allC.mp h1
    have := d ts g1 g2
    rw [List.nil_append, (okR_iff g2 hk g1.mem).mpr h2] at this
    cases this
  | some ts =>
    obtain ⟨g1, g2, g3, g4⟩ := c2 ts rfl
    have hh := (okR_iff g2 hk g1.mem).mp (g3 hn)
    exact ⟨List.any_eq_true.mpr ⟨ts, mem_allC.mpr ⟨g1, g2⟩, hh⟩, g2, g1.mem, hh⟩
theorem hued_ev {w K : Nat} {R : Rw} {cs hs : List Int} (g : G01 w R) (L : Lot w cs) (hh : hs.length = cs.length) : funM 7 4 (b__law_hued cal) [rowsL R, .int K, tI cs, tI hs] S = .ok (.bl (hued R K cs hs)) S := by
  have hn := L.le
  let δ0 : Option D → Option D → En := fun o4 o5 => [some (rowsL R), some (.int K), some (tI cs), some (tI hs), o4, o5, none]
  let body : MS := (sSeq (sAsg (eLc newL (iR1 (aCons (eCallV (pLen) (aCons (eVar 2) aNil)) aNil)) (uNm 6) (fun δ => asB (eOp pEq (eOp pIx (eVar 4) (eOp pIx (eVar 2) (eVar 6))) (eC (.int 1)) δ)) (eOp pIx (eVar 3) (eVar 6)) [6]) (gNm 5))
    (sIf (fun δ => asB (eOp pNe (eCallV (pLen) (aCons (eLc newL (iR1 (aCons (eCallV (pLen) (aCons (eVar 5) aNil)) aNil)) (uNm 6) (fun δ => asB (eOp pNotIn (eOp pIx (eVar 5) (eVar 6)) (eCut (eVar 5) none (some (eVar 6))) δ)) (eVar 6) [6]) aNil)) (eCallV (pMin) (aCons (eVar 1) (aCons (eCallV (pLen) (aCons (eVar 5) aNil)) aNil))) δ)) (sRet (eC (.bl false))) sNext))
  have hb : ∀ r, r.length = w → ∀ o5, body (δ0 (some (lI r)) o5) S = if hued1 K cs hs r then .nx (δ0 (some (lI r)) (some (lI (pickH cs hs r)))) S else .rt (.bl false) S := fun r hr o5 => by
    have hp : (pickH cs hs r).length ≤ cs.length := by
      have := List.length_filter_le (Pr cs r) (rng cs.length)
      unfold pickH rowP; rw [List.length_map]; rw [rng_length] at this; exact this
    have e1 := lc_filE (S := S) (mt := fun δ => asB (eOp pEq (eOp pIx (eVar 4) (eOp pIx (eVar 2) (eVar 6))) (eC (.int 1)) δ)) (me := eOp pIx (eVar 3) (eVar 6)) (δ0 := wipeD (δ0 (some (lI r)) o5) [6]) (k := 6) D.int D.int (Pr cs r) (fun j => hs.getD j.toNat 0) (zs := rng cs.length) (by rw [rng_length]; exact small (by omega)) (fun j hj => by
      have hj := mem_rng.mp hj
      have hc := L.b _ (gmem (l := cs) (k := j.toNat) (by omega))
      exact asB_ok (eOp_ok (eOp_ok rfl (eOp_ok rfl rfl (ix_tI hj.1 hj.2)) (ix_lI hc.1 (by omega))) rfl pEq_ii)) (fun j hj _ => by
      have hj := mem_rng.mp hj
      exact eOp_ok rfl rfl (ix_tI hj.1 (by omega)))
    rw [show (rng cs.length).map D.int = rngD 0 cs.length from rngD_eq.symm] at e1
    have e2 := lc_filE (S := S) (mt := fun δ => asB (eOp pNotIn (eOp pIx (eVar 5) (eVar 6)) (eCut (eVar 5) none (some (eVar 6))) δ)) (me := eVar 6) (δ0 := wipeD (δ0 (some (lI r)) (some (lI (pickH cs hs r)))) [6]) (k := 6) D.int D.int (fun j => !decide ((pickH cs hs r).getD j.toNat 0 ∈ (pickH cs hs r).take j.toNat)) id (zs := rng (pickH cs hs r).length) (by rw [rng_length]; exact small (by omega)) (fun j hj => by
      have hj := mem_rng.mp hj
      obtain ⟨m, rfl⟩ := Int.eq_ofNat_of_zero_le hj.1
      have ec := cut_take (xs := iD (pickH cs hs r)) (m := m) (mo := eVar 5) (ma := eVar 6) (δ := (wipeD (δ0 (some (lI r)) (some (lI (pickH cs hs r)))) [6]).set 6 (some (.int m))) (S := S) rfl rfl (by rw [iD_len]; exact small (by omega))
      rw [show (iD (pickH cs hs r)).take m = iD ((pickH cs hs r).take m) by simp [iD, List.map_take]] at ec
      exact asB_ok (eOp_ok (eOp_ok rfl rfl (ix_lI hj.1 hj.2)) ec notin_lI)) (fun j hj _ => rfl)
    rw [List.map_id, show (rng (pickH cs hs r).length).map D.int = rngD 0 (pickH cs hs r).length from rngD_eq.symm] at e2
    have hd : (dlaw (pickH cs hs r)).length ≤ (pickH cs hs r).length := by rw [dlaw_len]; exact dst_le
    have ec : eOp pNe (eCallV (pLen) (aCons (eLc newL (iR1 (aCons (eCallV (pLen) (aCons (eVar 5) aNil)) aNil)) (uNm 6) (fun δ => asB (eOp pNotIn (eOp pIx (eVar 5) (eVar 6)) (eCut (eVar 5) none (some (eVar 6))) δ)) (eVar 6) [6]) aNil)) (eCallV (pMin) (aCons (eVar 1) (aCons (eCallV (pLen) (aCons (eVar 5) aNil)) aNil))) (δ0 (some (lI r)) (some (lI (pickH cs hs r)))) S = .ok (.bl (!hued1 K cs hs r)) S := by
      refine eOp_ok (eCallV_ok (aCons_ok (eLc_ok (iR1_ok (k := (pickH cs hs r).length) (aCons_ok (eCallV_ok (aCons_ok rfl rfl) len_lI) rfl) (by omega)) e2 (newL_ev (by rw [List.length_map]; exact small (Nat.le_trans hd (by omega))))) rfl) pLen_lst) (eCallV_ok (aCons_ok rfl (aCons_ok (eCallV_ok (aCons_ok rfl rfl) len_lI) rfl)) min2) ?_
      rw [pNe_ii, List.length_map]
      rfl
    have s1 : sAsg (eLc newL (iR1 (aCons (eCallV (pLen) (aCons (eVar 2) aNil)) aNil)) (uNm 6) (fun δ => asB (eOp pEq (eOp pIx (eVar 4) (eOp pIx (eVar 2) (eVar 6))) (eC (.int 1)) δ)) (eOp pIx (eVar 3) (eVar 6)) [6]) (gNm 5) (δ0 (some (lI r)) o5) S = .nx (δ0 (some (lI r)) (some (lI (pickH cs hs r)))) S := sAsg_ok (eLc_ok (iR1_ok (k := cs.length) (aCons_ok (eCallV_ok (aCons_ok rfl rfl) len_tI) rfl) (by omega)) e1 (newL_ev (by rw [List.length_map]; exact small (Nat.le_trans hp (by omega))))) rfl
    cases hq : hued1 K cs hs r with
    | true =>
      rw [hq] at ec
      exact sSeq_nx s1 (sIf_f (asB_ok ec) rfl)
    | false =>
      rw [hq] at ec
      exact sSeq_nx s1 (sIf_t (asB_ok ec) (sRet_ok rfl))
  have key : ∀ (Z : Rw), (∀ r ∈ Z, r.length = w) → ∀ o4 o5, (hued Z K cs hs = false ∧ loopF (gNm 4) body (Z.map lI) (δ0 o4 o5) S = .rt (.bl false) S) ∨ (hued Z K cs hs = true ∧ ∃ o4' o5', loopF (gNm 4) body (Z.map lI) (δ0 o4 o5) S = .nx (δ0 o4' o5') S) := by
    intro Z
    induction Z with
    | nil => intro _ o4 o5; exact .inr ⟨rfl, o4, o5, rfl⟩
    | cons r Z ih =>
      intro hz o4 o5
      have hbr := hb r (hz r (List.mem_cons_self ..)) o5
      have hc : hued (r :: Z) K cs hs = (hued1 K cs hs r && hued Z K cs hs) := by unfold hued; rw [List.all_cons]
      rw [hc, List.map_cons]
      cases hq : hued1 K cs hs r with
      | false =>
        rw [hq] at hbr
        exact .inl ⟨rfl, loop_rt rfl hbr⟩
      | true =>
        rw [hq] at hbr
        rw [loop_nx rfl hbr]
        exact ih (fun q hq => hz q (List.mem_cons_of_mem _ hq)) _ _
  unfold b__law_hued
  rcases key R (fun r hr => (g r hr).1) none none with ⟨h1, h2⟩ | ⟨h1, a, b, h2⟩
  · rw [h1]
    exact funM_rt rfl (sSeq_rt (sFor_ok (iAny_ok rfl rfl) h2))
  · rw [h1]
    exact funM_rt rfl (sSeq_nx (sFor_ok (iAny_ok rfl rfl) h2) (sRet_ok rfl))
theorem can_ev {w K : Nat} {R : Rw} {cs : List Int} (L : Lot w cs) (hw6 : cs.length ≤ 6) (hK : K ≤ 4) (hh : ∀ hs S, hs.length = cs.length → cal 69 [rowsL R, .int K, tI cs, tI hs] S = .ok (.bl (hued R K cs hs)) S) : funM 8 3 (b__law_can cal) [rowsL R, .int K, tI cs] S = .ok (.bl (canC R K cs)) S := by
  have bnd : ∀ k, k ≤ 6 → (allC K k).length ≤ 4096 := fun k hk => Nat.le_trans (allC_le hK k) (by
    have := Nat.pow_le_pow_right (n := 4) (by omega) hk
    exact this)
  let δ0 : D → Option D → Option D → Option D → En := fun d3 o4 o5 o6 => [some (rowsL R), some (.int K), some (tI cs), some d3, o4, o5, o6, none]
  let inner : MS := (sAsg (eOp pAdd (eVar 5) (eLc newL (iR1 (aCons (eCallV (pMin) (aCons (eVar 1) (aCons (eOp pAdd (eOp pAdd (eC (.int 1)) (eCallV (pMaxA) (aCons (eOp pAdd (eTup (aCons (eUn pNeg (eC (.int 1))) aNil)) (eVar 6)) aNil))) (eC (.int 1))) aNil))) aNil)) (uNm 7) tYesM (eOp pAdd (eVar 6) (eTup (aCons (eVar 7) aNil))) [7])) (gNm 5))
  have hin : ∀ (d3 : D) o4 (acc : Rw) (f : List Int), acc.length ≤ 20000 → f.length ≤ 6 → inner (δ0 d3 o4 (some (lotsL acc)) (some (tI f))) S = .nx (δ0 d3 o4 (some (lotsL (acc ++ (rng (lim K f)).map fun q => f ++ [q]))) (some (tI f))) S := fun d3 o4 acc f ha hf => by
    have hlim := lim_le (K := K) (l := f)
    have e := lc_mapE (S := S) (me := eOp pAdd (eVar 6) (eTup (aCons (eVar 7) aNil))) (δ0 := wipeD (δ0 d3 o4 (some (lotsL acc)) (some (tI f))) [7]) (k := 7) D.int tI (fun q => f ++ [q]) (zs := rng (lim K f)) (by rw [rng_length]; exact small (by omega)) (fun q hq => by
      refine eOp_ok rfl (eTup_ok (aCons_ok rfl rfl) (small (by simp))) ?_
      rw [show tI (f ++ [q]) = .tup (iD f ++ [.int q]) by rw [tI, iD_app]; rfl]
      exact add_tt (by rw [iD_len]; simp; exact small (by omega)))
    rw [show (rng (lim K f)).map D.int = rngD 0 (lim K f) from rngD_eq.symm] at e
    refine sAsg_ok (d := lotsL (acc ++ (rng (lim K f)).map fun q => f ++ [q])) (S1 := S) (eOp_ok rfl (eLc_ok (iR1_ok (k := lim K f) (aCons_ok (eCallV_ok (aCons_ok rfl (aCons_ok (eOp_ok (eOp_ok rfl (eCallV_ok (z := .int (maxL (-1 :: f))) (S2 := S) (aCons_ok (eOp_ok (eTup_ok (aCons_ok (eUn_ok rfl rfl) rfl) (small (by simp))) rfl (add_tt (by rw [iD_len]; simp; exact small (by omega)))) rfl) ?_) pAdd_ii) rfl pAdd_ii) rfl)) ?_) rfl) (by omega)) e (newL_ev (by rw [List.length_map, List.length_map, rng_length]; exact small (by omega)))) ?_) rfl
    · show (intsOf (iD (-1 :: f))).bind _ = _
      rw [ints_iD]
      rfl
    · rw [min2, lim_int]; rfl
    · rw [add_ll (by simp [rng_length]; exact small (by omega)), lotsL, List.map_append]
  have hmid : ∀ k, k < 6 → ∀ o4 o6, ∃ o6', loopF (gNm 6) inner ((allC K k).map tI) (δ0 (lotsL (allC K k)) o4 (some (lotsL [])) o6) S = .nx (δ0 (lotsL (allC K k)) o4 (some (lotsL (allC K (k + 1)))) o6') S := fun k hk o4 o6 => by
    have hlen : ∀ f ∈ allC K k, f.length ≤ 6 := fun f hf => by have := (mem_allC.mp hf).2; omega
    have bk := bnd k (by omega)
    have key : ∀ (Z acc : Rw) o6, (∀ f ∈ Z, f.length ≤ 6) → acc.length + 4 * Z.length ≤ 20000 → ∃ o6', loopF (gNm 6) inner (Z.map tI) (δ0 (lotsL (allC K k)) o4 (some (lotsL acc)) o6) S = .nx (δ0 (lotsL (allC K k)) o4 (some (lotsL (acc ++ grow K Z))) o6') S := by
      intro Z
      induction Z with
      | nil => intro acc o6 _ _; exact ⟨o6, by simp [grow, loopF]⟩
      | cons f Z ih =>
        intro acc o6 hz hl
        have hlim := lim_le (K := K) (l := f)
        simp only [List.length_cons] at hl
        obtain ⟨o, e⟩ := ih (acc ++ (rng (lim K f)).map fun q => f ++ [q]) (some (tI f)) (fun x hx => hz x (List.mem_cons_of_mem _ hx)) (by simp [rng_length]; omega)
        refine ⟨o, ?_⟩
        rw [List.map_cons, loop_nx rfl (hin _ _ _ _ (by omega) (hz f (List.mem_cons_self ..)))]
        rw [e]
        congr 3
        simp [grow, List.flatMap_cons]
    obtain ⟨o, e⟩ := key (allC K k) [] o6 hlen (by simp; omega)
    rw [List.nil_append] at e
    exact ⟨o, e⟩
  obtain ⟨δ2, S2, e2, ⟨o4, o5, o6, rfl⟩, hS⟩ := loop_inv (mg := gNm 4) (mb := (sSeq (sAsg (eLst aNil) (gNm 5))
    (sSeq (sFor (iAny (eVar 3)) (gNm 6) inner)
    (sAsg (eVar 5) (gNm 3)))))
    (ds := rngD 0 cs.length) (δ := δ0 (lotsL (allC K 0)) none none none) (S := S)
    (fun k δ S' => (∃ o4 o5 o6, δ = δ0 (lotsL (allC K k)) o4 o5 o6) ∧ S' = S) (by
      rintro k δ S' hk ⟨⟨o4, o5, o6, rfl⟩, hS'⟩
      rw [hS']
      rw [rng_get]
      rw [rng_len] at hk
      refine ⟨_, _, rfl, ?_⟩
      obtain ⟨o6', e⟩ := hmid k (by omega) (some (.int k)) o6
      exact ⟨_, _, sSeq_nx (sAsg_ok (eLst_ok rfl (small (by simp))) rfl) (sSeq_nx (sFor_ok (iAny_ok rfl rfl) e) (sAsg_ok rfl rfl)), ⟨_, _, _, rfl⟩, rfl⟩) ⟨⟨_, _, _, rfl⟩, rfl⟩
  rw [rng_len, hS] at e2
  have bn := bnd cs.length hw6
  have e3 := lc_filE (S := S) (mt := fun δ => tru ((eCal (cal 69) (aCons (eVar 0) (aCons (eVar 1) (aCons (eVar 2) (aCons (eVar 6) aNil))))) δ)) (me := eVar 6) (δ0 := wipeD (δ0 (lotsL (allC K cs.length)) o4 o5 o6) [6]) (k := 6) tI tI (fun ts => hued R K cs ts) id (zs := allC K cs.length) (small (by omega)) (fun ts hts => tru_ok (eCal_ok (aCons_ok rfl (aCons_ok rfl (aCons_ok rfl (aCons_ok rfl rfl)))) (hh ts S (mem_allC.mp hts).2)) rfl) (fun ts hts _ => rfl)
  rw [List.map_id] at e3
  have hfl := List.length_filter_le (fun ts => hued R K cs ts) (allC K cs.length)
  unfold b__law_can
  refine funM_rt rfl (sSeq_nx (sAsg_ok (eLst_ok (aCons_ok (eTup_ok rfl (small (by simp))) rfl) (small (by simp))) rfl) (sSeq_nx (sFor_ok (iR1_ok (k := cs.length) (aCons_ok (eCallV_ok (aCons_ok rfl rfl) len_tI) rfl) (by omega)) e2) (sRet_ok (eOp_ok (eLc_ok (iAny_ok rfl rfl) e3 (newL_ev (by rw [List.length_map]; exact small (by omega)))) (eLst_ok rfl (small (by simp))) (ne_nilT.trans ?_)))))
  congr 3
  unfold canC
  rw [Bool.eq_iff_iff]
  simp [List.isEmpty_iff, List.filter_eq_nil_iff]
end
end Sp
/-! # law k48: the law's own run -/
namespace Sp
open PySem PySem.W L2 Ev Bd
theorem loop_invC {ds : List D} {δ : En} {S : Store} {mg : TGM} {mb : MS} (P : Nat → En → Store → Prop) (h : ∀ k δ S, (hk : k < ds.length) → P k δ S → ∃ δ1 S1, mg ds[k] δ S = some (δ1, S1) ∧ ∃ δ2 S2, (mb δ1 S1 = .nx δ2 S2 ∨ mb δ1 S1 = .ct δ2 S2) ∧ P (k + 1) δ2 S2) (h0 : P 0 δ S) :
    ∃ δ2 S2, loopF mg mb ds δ S = .nx δ2 S2 ∧ P ds.length δ2 S2 := by
  have key : ∀ (n k : Nat) (δ : En) (S : Store), k + n = ds.length → P k δ S → ∃ δ2 S2, loopF mg mb (ds.drop k) δ S = .nx δ2 S2 ∧ P ds.length δ2 S2 := by
    intro n
    induction n with
    | zero =>
      intro k δ S e p
      have : k = ds.length := by omega
      subst this
      rw [List.drop_length]
      exact ⟨δ, S, rfl, p⟩
    | succ n ih =>
      intro k δ S e p
      have hk : k < ds.length := by omega
      obtain ⟨δ1, S1, e1, δ2, S2, e2, p2⟩ := h k δ S hk p
      obtain ⟨δ3, S3, e3, p3⟩ := ih (k + 1) δ2 S2 (by omega) p2
      refine ⟨δ3, S3, ?_, p3⟩
      rw [List.drop_eq_getElem_cons hk]
      rcases e2 with e2 | e2
      · simp only [loopF, e1, e2]; exact e3
      · simp only [loopF, e1, e2]; exact e3
  exact key ds.length 0 δ S (by omega) h0
theorem inRg_ok {neg : Bool} {ma mb : ME} {δ : En} {S S1 S2 : Store} {i n : Int} (h1 : ma δ S = .ok (.int i) S1) (h2 : mb δ S1 = .ok (.int n) S2) : eInRg neg ma mb δ S = .ok (.bl (if neg then !decide (0 ≤ i ∧ i < n) else decide (0 ≤ i ∧ i < n))) S2 := by
  simp only [eInRg, M.bind, h1, h2]
theorem lot_srt {w f : Nat} {ms : List Int} (hp : ms.Perm (rng w)) (hf : f < w) (hw : w ≤ 8) : Lot w (srt (ms.take (1 + f))) := by
  have hl := hp.length_eq
  rw [rng_length] at hl
  have hn : (rng w).Nodup := by
    unfold rng
    rw [List.Nodup, List.pairwise_map]
    exact List.Pairwise.imp (fun h e => h (by omega)) List.nodup_range
  have hnd : (ms.take (1 + f)).Nodup := List.Sublist.nodup (List.take_sublist _ _) (hp.nodup_iff.mpr hn)
  have hlen : (srt (ms.take (1 + f))).length = 1 + f := by rw [srt_perm.length_eq, List.length_take]; omega
  refine ⟨by omega, by omega, fun c hc => ?_, fun a ha => srt_lt hnd (by omega) ha⟩
  exact mem_rng.mp (hp.mem_iff.mp (List.mem_of_mem_take (srt_perm.mem_iff.mp hc)))
theorem lot_rng {w : Nat} (h0 : 0 < w) (hw : w ≤ 8) : Lot w (rng w) := by
  refine ⟨by rw [rng_length]; exact h0, by rw [rng_length]; exact hw, fun c hc => mem_rng.mp hc, fun a ha => ?_⟩
  rw [rng_length] at ha
  have e : ∀ k, k < w → (rng w).getD k 0 = (k : Int) := fun k hk => by
    simp [rng, List.getD_eq_getElem?_getD, hk]
  rw [e a (by omega), e (a + 1) ha]; omega
structure C48 (cal : Nat → List D → M D) : Prop where
  dip : Drw ReedJ (cal 60)
  mix : Mix ReedJ (cal 64)
  grid : GridF ReedJ (cal 51)
  full : ∀ (R : Rw) (most : Nat) S, Grid most R → most ≤ 8 → ∃ b, cal 50 [rowsL R] S = .ok (.bl b) S ∧ (b = true → ∃ h w, Full h w R ∧ h ≤ most ∧ w ≤ most)
  text : ∀ h w R S, Full h w R → cal 2 [rowsL R] S = .ok (.str (txt R)) S
  tab : ∀ h w R S, Full h w R → cal 1 [.str (txt R)] S = .ok (tabD h w R) S
  can : ∀ h w R (K : Nat) cs S, Full h w R → Lot w cs → cs.length ≤ 6 → K ≤ 4 → cal 70 [rowsL R, .int K, tI cs] S = .ok (.bl (canC R K cs)) S
  col : ∀ h w R (K : Nat) cs, Full h w R → Lot w cs → 0 < K → K ≤ 4 → ∃ o, (∀ S, cal 68 [tabD h w R, .int K, tI cs] S = .ok (encO o) S) ∧ Ans R K cs o
  hue : ∀ h w R (K : Nat) cs hs S, Full h w R → Lot w cs → hs.length = cs.length → cal 69 [rowsL R, .int K, tI cs, tI hs] S = .ok (.bl (hued R K cs hs)) S
def look48 (cal : Nat → List D → M D) : MS := (sIf (tNotM (fun δ => tru ((eVar 8) δ))) (sIf (fun δ => asB (eOp pIsNot (eVar 9) (eC .non) δ)) (sRet (eC (.bl false))) sNext) (sIf (tOrM (tNotM (fun δ => tru ((eIsi (isiT isi) (.blt "tuple") (eVar 9)) δ))) (fun δ => asB (eOp pNe (eCallV (pLen) (aCons (eVar 9) aNil)) (eCallV (pLen) (aCons (eVar 6) aNil)) δ))) (sRet (eC (.bl false))) (sIf (tOrM (fun δ => asB (eOp pNe (eLc newL (iAny (eVar 9)) (uNm 10) (fun δ => asB ((eInRg true (eVar 10) (eVar 7)) δ)) (eVar 10) [10]) (eLst aNil) δ)) (tNotM (fun δ => tru ((eCal (cal 69) (aCons (eVar 2) (aCons (eVar 7) (aCons (eVar 6) (aCons (eVar 9) aNil))))) δ)))) (sRet (eC (.bl false))) sNext)))
def turn48 (cal : Nat → List D → M D) : MS := (sSeq (sAsg (eCallV pTuple (aCons (eCallV (pSortD) (aCons (eCut (eCal (cal 64) (aCons (eVar 0) (aCons (eRg newL (g1 (eVar 4))) aNil))) none (some (eOp pAdd (eC (.int 1)) (eCal (cal 60) (aCons (eVar 0) (aCons (eVar 4) aNil)))))) aNil)) aNil)) (gNm 6))
    (sSeq (sAsg (eIf (fun δ => asB (eOp pEq (eVar 5) (eC (.int 0)) δ)) (eRg newT (g1 (eVar 4))) (eVar 6)) (gNm 6))
    (sSeq (sAsg (eOp pAdd (eC (.int 1)) (eCal (cal 60) (aCons (eVar 0) (aCons (eC (.int 4)) aNil)))) (gNm 7))
    (sSeq (sAsg (eCal (cal 70) (aCons (eVar 2) (aCons (eVar 7) (aCons (eVar 6) aNil)))) (gNm 8))
    (sFor (iAny (eLst (aCons (eCal (cal 68) (aCons (eVar 3) (aCons (eVar 7) (aCons (eVar 6) aNil)))) (aCons (eCal (calP (cal 68) 3 [2, 1, 0]) (aCons (eVar 6) (aCons (eVar 7) (aCons (eVar 3) aNil)))) aNil)))) (gNm 9) (look48 cal))))))
def round48 (cal : Nat → List D → M D) : MS := (sSeq (sAsg (eCal (cal 51) (aCons (eVar 0) (aCons (eC (.int 6)) aNil))) (gNm 2))
    (sSeq (sIf (tNotM (fun δ => tru ((eCal (cal 50) (aCons (eVar 2) aNil)) δ))) sCnt sNext)
    (sSeq (sPar2 3 4 (aCons (eCal (cal 1) (aCons (eCal (cal 2) (aCons (eVar 2) aNil)) aNil)) (aCons (eCallV (pLen) (aCons (eOp pIx (eVar 2) (eC (.int 0))) aNil)) aNil)))
    (sFor (iR1 (aCons (eC (.int 3)) aNil)) (gNm 5) (turn48 cal)))))
theorem right48_eq {cal : Nat → List D → M D} : b__law_right_v3 cal = sSeq (sFor (iR1 (aCons (eC (.int 3)) aNil)) (gNm 1) (round48 cal)) (sRet (eC (.bl true))) := rfl
section
variable {cal : Nat → List D → M D}
theorem look_ev (C : C48 cal) {h w K : Nat} {R : Rw} {cs : List Int} {o : Option (List Int)} {d0 d1 d3 d4 d5 d10 : Option D} {S : Store} (F : Full h w R) (L : Lot w cs) (A : Ans R K cs o) :
    look48 cal [d0, d1, some (rowsL R), d3, d4, d5, some (tI cs), some (.int K), some (.bl (canC R K cs)), some (encO o), d10] S = .nx [d0, d1, some (rowsL R), d3, d4, d5, some (tI cs), some (.int K), some (.bl (canC R K cs)), some (encO o), d10] S := by
  have hn := L.le
  unfold look48
  cases o with
  | none =>
    have hc : canC R K cs = false := A
    rw [hc]
    exact sIf_t (tNot_ok (b := false) (tru_ok rfl rfl)) (sIf_f (asB_ok (eOp_ok rfl rfl rfl)) rfl)
  | some ts =>
    obtain ⟨hc, h1, h2, h3⟩ := A
    rw [hc]
    have e := lc_filE (S := S) (mt := fun δ => asB ((eInRg true (eVar 10) (eVar 7)) δ)) (me := eVar 10) (δ0 := wipeD [d0, d1, some (rowsL R), d3, d4, d5, some (tI cs), some (.int K), some (.bl true), some (tI ts), d10] [10]) (k := 10) D.int D.int (fun x => !decide (0 ≤ x ∧ x < (K : Int))) id (zs := ts) (by rw [h1]; exact small (by omega)) (fun x hx => asB_ok (inRg_ok rfl rfl)) (fun x hx _ => rfl)
    have hf : ts.filter (fun x => !decide (0 ≤ x ∧ x < (K : Int))) = [] := List.filter_eq_nil_iff.mpr fun x hx => by simp [h2 x hx]
    rw [hf] at e
    exact sIf_f (tNot_ok (b := true) (tru_ok rfl rfl)) (sIf_f (tOr_f (tNot_ok (b := true) (tru_ok (eIsi_ok (b := true) rfl rfl (by rfl)) rfl)) (asB_ok (eOp_ok (eCallV_ok (aCons_ok rfl rfl) len_tI) (eCallV_ok (aCons_ok rfl rfl) len_tI) (by rw [pNe_ii, h1, beq_self_eq_true]; rfl)))) (sIf_f (tOr_f (asB_ok (eOp_ok (eLc_ok (iAny_ok rfl rfl) e (newL_ev (by simp))) (eLst_ok rfl (small (by simp))) ((ne_nilI (ns := [])).trans rfl))) (tNot_ok (b := true) (tru_ok (eCal_ok (aCons_ok rfl (aCons_ok rfl (aCons_ok rfl (aCons_ok rfl rfl)))) ((C.hue h w R K cs ts S F L h1).trans (by rw [h3]))) rfl))) rfl))
theorem turn_ev (C : C48 cal) {t h w k : Nat} {R : Rw} {d1 d6 d7 d8 d9 d10 : Option D} {S : Store} (F : Full h w R) (w6 : w ≤ 6) (ht : At ReedJ t S) :
    ∃ d6' d7' d8' d9' S', turn48 cal [some (.ref t), d1, some (rowsL R), some (tabD h w R), some (.int w), some (.int k), d6, d7, d8, d9, d10] S = .nx [some (.ref t), d1, some (rowsL R), some (tabD h w R), some (.int w), some (.int k), d6', d7', d8', d9', d10] S' ∧ At ReedJ t S' := by
  have w1 := F.w1
  obtain ⟨ms, S1, e1, p1, a1, f1⟩ := C.mix.go t S (rng w) ht (by rw [rng_length]; omega)
  obtain ⟨f, S2, e2, f0, f2, a2, fr2, l2⟩ := C.dip.go t S1 (w : Int) a1 (by omega) (by omega)
  obtain ⟨f, rfl⟩ := Int.eq_ofNat_of_zero_le f0
  obtain ⟨q, S3, e3, q0, q1, a3, fr3, l3⟩ := C.dip.go t S2 4 a2 (by omega) (by omega)
  obtain ⟨q, rfl⟩ := Int.eq_ofNat_of_zero_le q0
  obtain ⟨lm, bm⟩ := perm_rng p1
  have L1 := lot_srt (f := f) p1 (by omega) (by omega)
  have hcut : eCut (eCal (cal 64) (aCons (eVar 0) (aCons (eRg newL (g1 (eVar 4))) aNil))) none (some (eOp pAdd (eC (.int 1)) (eCal (cal 60) (aCons (eVar 0) (aCons (eVar 4) aNil))))) [some (.ref t), d1, some (rowsL R), some (tabD h w R), some (.int w), some (.int k), d6, d7, d8, d9, d10] S = .ok (lI (ms.take (1 + f))) S2 := by
    have := cut_take (xs := iD ms) (m := 1 + f) (mo := eCal (cal 64) (aCons (eVar 0) (aCons (eRg newL (g1 (eVar 4))) aNil))) (ma := eOp pAdd (eC (.int 1)) (eCal (cal 60) (aCons (eVar 0) (aCons (eVar 4) aNil)))) (δ := [some (.ref t), d1, some (rowsL R), some (tabD h w R), some (.int w), some (.int k), d6, d7, d8, d9, d10]) (S := S) (eCal_ok (aCons_ok rfl (aCons_ok (rg_ev (n := w) rfl (by omega)) rfl)) e1) (eOp_ok rfl (eCal_ok (aCons_ok rfl (aCons_ok rfl rfl)) e2) (by rw [pAdd_ii, show ((1 + f : Nat) : Int) = 1 + (f : Int) by omega])) (by rw [iD_len]; exact small (by omega))
    rw [this]
    simp [iD, List.map_take]
  have ltk : (ms.take (1 + f)).length ≤ 1000 := by rw [List.length_take]; omega
  have lsr : (iD (srt (ms.take (1 + f)))).length ≤ sizeLine := by rw [iD_len]; exact small (by have := L1.le; omega)
  have hlot : ∃ cs, Lot w cs ∧ cs.length ≤ 6 ∧ eIf (fun δ => asB (eOp pEq (eVar 5) (eC (.int 0)) δ)) (eRg newT (g1 (eVar 4))) (eVar 6) [some (.ref t), d1, some (rowsL R), some (tabD h w R), some (.int w), some (.int k), some (tI (srt (ms.take (1 + f)))), d7, d8, d9, d10] S2 = .ok (tI cs) S2 := by
    by_cases hk : k = 0
    · exact ⟨rng w, lot_rng w1 (by omega), by rw [rng_length]; exact w6, eIf_t (asB_ok (eOp_ok rfl rfl (by rw [pEq_ii, hk]; rfl))) (rgT_ev (n := w) rfl (by omega))⟩
    · exact ⟨_, L1, by rw [srt_perm.length_eq, List.length_take]; omega, eIf_f (asB_ok (eOp_ok rfl rfl (by rw [pEq_ii]; simp [hk]))) rfl⟩
  obtain ⟨cs, L, c6, ecs⟩ := hlot
  have cq : ((1 + q : Nat) : Int) = 1 + (q : Int) := by omega
  have hcan := C.can h w R (1 + q) cs S3 F L c6 (by omega)
  obtain ⟨o, ho, A⟩ := C.col h w R (1 + q) cs F L (by omega) (by omega)
  rw [cq] at hcan ho
  have hlk : look48 cal [some (.ref t), d1, some (rowsL R), some (tabD h w R), some (.int w), some (.int k), some (tI cs), some (.int (1 + (q : Int))), some (.bl (canC R (1 + q) cs)), some (encO o), d10] S3 = .nx [some (.ref t), d1, some (rowsL R), some (tabD h w R), some (.int w), some (.int k), some (tI cs), some (.int (1 + (q : Int))), some (.bl (canC R (1 + q) cs)), some (encO o), d10] S3 := by
    have := look_ev C (d0 := some (.ref t)) (d1 := d1) (d3 := some (tabD h w R)) (d4 := some (.int w)) (d5 := some (.int k)) (d10 := d10) (S := S3) F L A
    rwa [cq] at this
  refine ⟨some (tI cs), some (.int (1 + (q : Int))), some (.bl (canC R (1 + q) cs)), some (encO o), S3, ?_, a3⟩
  unfold turn48
  have hfor : loopF (gNm 9) (look48 cal) [encO o, encO o] [some (.ref t), d1, some (rowsL R), some (tabD h w R), some (.int w), some (.int k), some (tI cs), some (.int (1 + (q : Int))), some (.bl (canC R (1 + q) cs)), d9, d10] S3 = .nx [some (.ref t), d1, some (rowsL R), some (tabD h w R), some (.int w), some (.int k), some (tI cs), some (.int (1 + (q : Int))), some (.bl (canC R (1 + q) cs)), some (encO o), d10] S3 := by
    rw [loop_nx rfl (hlk), loop_nx rfl (hlk)]
    rfl
  have hP : calP (cal 68) 3 [2, 1, 0] [tI cs, .int (1 + (q : Int)), tabD h w R] S3 = .ok (encO o) S3 := by
    unfold calP
    rw [if_pos (show [tI cs, D.int (1 + (q : Int)), tabD h w R].length = 3 from rfl)]
    exact ho S3
  exact sSeq_nx (sAsg_ok (eCallV_ok (aCons_ok (eCallV_ok (aCons_ok hcut rfl) (sort_ints ltk)) rfl) (tuple_lst lsr)) rfl) (sSeq_nx (sAsg_ok ecs rfl) (sSeq_nx (sAsg_ok (eOp_ok rfl (eCal_ok (aCons_ok rfl (aCons_ok rfl rfl)) e3) pAdd_ii) rfl) (sSeq_nx (sAsg_ok (eCal_ok (aCons_ok rfl (aCons_ok rfl (aCons_ok rfl rfl))) hcan) rfl) (sFor_ok (iAny_ok (eLst_ok (aCons_ok (eCal_ok (aCons_ok rfl (aCons_ok rfl (aCons_ok rfl rfl))) (ho S3)) (aCons_ok (eCal_ok (aCons_ok rfl (aCons_ok rfl (aCons_ok rfl rfl))) hP) rfl)) (small (by simp))) rfl) hfor))))
theorem right48_ev (C : C48 cal) {t : Nat} {S : Store} (ht : At ReedJ t S) : ∃ S', funM 11 1 (b__law_right_v3 cal) [.ref t] S = .ok (.bl true) S' := by
  rw [right48_eq]
  obtain ⟨δ2, S2, e2, _⟩ := loop_invC (mg := gNm 1) (mb := round48 cal) (ds := rngD 0 3) (δ := [some (.ref t), none, none, none, none, none, none, none, none, none, none]) (S := S)
    (fun k δ S' => (∃ d1 d2 d3 d4 d5 d6 d7 d8 d9 d10, δ = [some (.ref t), d1, d2, d3, d4, d5, d6, d7, d8, d9, d10]) ∧ At ReedJ t S') (by
      rintro k δ S' hk ⟨⟨d1, d2, d3, d4, d5, d6, d7, d8, d9, d10, rfl⟩, a⟩
      rw [rng_get]
      refine ⟨_, _, rfl, ?_⟩
      obtain ⟨R, S1, e1, G, a1, f1⟩ := C.grid.go t 6 S' a (by omega) (by omega)
      obtain ⟨b, eb, hb⟩ := C.full R 6 S1 G (by omega)
      unfold round48
      cases b with
      | false => exact ⟨_, _, .inr (sSeq_nx (sAsg_ok (eCal_ok (aCons_ok rfl (aCons_ok rfl rfl)) e1) rfl) (by
          have : ∀ (ms mt : MS) (δ δ1 : En) (S S1 : Store), ms δ S = .ct δ1 S1 → sSeq ms mt δ S = .ct δ1 S1 := fun ms mt δ δ1 S S1 h => by simp only [sSeq, h]
          exact this _ _ _ _ _ _ (sIf_t (tNot_ok (b := false) (tru_ok (eCal_ok (aCons_ok rfl rfl) eb) rfl)) rfl))), ⟨_, _, _, _, _, _, _, _, _, _, rfl⟩, a1⟩
      | true =>
        obtain ⟨h, w, F, h6, w6⟩ := hb rfl
        obtain ⟨δ3, S3, e3, ⟨d6', d7', d8', d9', hδ⟩, a3⟩ := loop_inv (mg := gNm 5) (mb := turn48 cal) (ds := rngD 0 3) (δ := [some (.ref t), some (.int k), some (rowsL R), some (tabD h w R), some (.int w), d5, d6, d7, d8, d9, d10]) (S := S1)
          (fun j δ S' => (∃ d5 d6 d7 d8 d9, δ = [some (.ref t), some (.int k), some (rowsL R), some (tabD h w R), some (.int w), d5, d6, d7, d8, d9, d10]) ∧ At ReedJ t S') (by
            rintro j δ S' hj ⟨⟨d5, d6, d7, d8, d9, rfl⟩, a⟩
            rw [rng_get]
            refine ⟨_, _, rfl, ?_⟩
            obtain ⟨d6', d7', d8', d9', S4, e4, a4⟩ := turn_ev C (d1 := some (.int k)) (d6 := d6) (d7 := d7) (d8 := d8) (d9 := d9) (d10 := d10) (k := j) F w6 a
            exact ⟨_, _, e4, ⟨_, _, _, _, _, rfl⟩, a4⟩) ⟨⟨_, _, _, _, _, rfl⟩, a1⟩
        obtain ⟨d9', hδ⟩ := hδ
        have hR0 : 0 < R.length := by rw [F.len]; exact F.h1
        have w0 : (R.getD 0 []).length = w := by
          rw [List.getD_eq_getElem?_getD, List.getElem?_eq_getElem hR0]
          exact (F.g _ (List.getElem_mem hR0)).1
        refine ⟨δ3, S3, .inl (sSeq_nx (sAsg_ok (eCal_ok (aCons_ok rfl (aCons_ok rfl rfl)) e1) rfl) (sSeq_nx (sIf_f (tNot_ok (b := true) (tru_ok (eCal_ok (aCons_ok rfl rfl) eb) rfl)) rfl) (sSeq_nx (sPar2_ok (aCons_ok (eCal_ok (aCons_ok (eCal_ok (aCons_ok rfl rfl) (C.text h w R S1 F)) rfl) (C.tab h w R S1 F)) (aCons_ok (eCallV_ok (aCons_ok (eOp_ok rfl rfl (ix_rL (by omega) (by omega))) rfl) (by rw [show (0 : Int).toNat = 0 from rfl, len_lI, w0])) rfl))) (sFor_ok (iR1_ok (k := 3) (aCons_ok rfl rfl) (by omega)) e3)))), ⟨_, _, _, _, _, _, _, _, _, _, hδ⟩, a3⟩) ⟨⟨_, _, _, _, _, _, _, _, _, _, rfl⟩, ht⟩
  exact ⟨S2, funM_rt rfl (sSeq_nx (sFor_ok (iR1_ok (k := 3) (aCons_ok rfl rfl) (by omega)) e2) (sRet_ok rfl))⟩
theorem law48_ev {ns : List Int} {S : Store} (hr : ∀ (k : Nat) S, k ≤ 1000 → ∃ c, ReedJ c ∧ cal 44 [.scr ns, .int k] S = .ok (.ref S.length) (S ++ [some (.lst c)])) (hg : ∀ t S, At ReedJ t S → ∃ S', cal 67 [.ref t] S = .ok (.bl true) S') : ∃ S', funM 2 1 (b_law_v4 cal) [.scr ns] S = .ok (.bl true) S' := by
  obtain ⟨ys, S2, e, h1⟩ := lc_inv (up := uNm 1) (mt := tYesM) (me := eCal (cal 67) (aCons (eCal (cal 44) (aCons (eVar 0) (aCons (eVar 1) aNil))) aNil)) (δ0 := wipeD [some (.scr ns), none] [1]) (ds := rngD 0 3) (S := S) (fun n acc S' => acc = List.replicate n (.bl true)) (by
    rintro n acc S' hn rfl
    rw [rng_get]
    rw [rng_len] at hn
    obtain ⟨c, hc, e1⟩ := hr n S' (by omega)
    obtain ⟨S3, e3⟩ := hg S'.length (S' ++ [some (.lst c)]) ⟨c, by simp, hc⟩
    refine ⟨_, rfl, .inr ⟨S', rfl, .bl true, S3, eCal_ok (aCons_ok (eCal_ok (aCons_ok rfl (aCons_ok rfl rfl)) e1) rfl) e3, ?_, ?_⟩⟩
    · rw [List.length_replicate]
      exact Nat.lt_of_lt_of_le (show n < 1000000 by omega) (small (Nat.le_refl _))
    · rw [List.replicate_succ']) rfl
  rw [rng_len] at h1
  unfold b_law_v4
  exact ⟨S2, funM_rt rfl (sRet_ok (eCallV_ok (aCons_ok (eLc_ok (iR1_ok (k := 3) (aCons_ok rfl rfl) (by omega)) e (newL_ev (by rw [h1]; simp; exact small (by omega)))) rfl) (by rw [h1]; rfl)))⟩
end
end Sp
/-! # rings: walks of a graph, the plain law -/
namespace Rg
open Sp
abbrev at_ (p : List Int) (i : Nat) : Int := p.getD i 0
theorem at_left {p e : List Int} {i : Nat} (h : i < p.length) : at_ (p ++ e) i = at_ p i := getD_left h
theorem at_mid {p e : List Int} {x : Int} : at_ (p ++ x :: e) p.length = x := by simp [at_]
theorem at_mem {p : List Int} {i : Nat} (h : i < p.length) : at_ p i ∈ p := gmem h
theorem mem_at {p : List Int} {x : Int} (h : x ∈ p) : ∃ i, i < p.length ∧ at_ p i = x := by
  obtain ⟨i, hi, rfl⟩ := List.mem_iff_getElem.mp h
  exact ⟨i, hi, by simp [at_, List.getD_eq_getElem?_getD, hi]⟩
theorem at_inj {p : List Int} (nd : p.Nodup) {i j : Nat} (hi : i < p.length) (hj : j < p.length) (h : at_ p i = at_ p j) : i = j := by
  have hp := List.pairwise_iff_getElem.mp nd
  have e1 : at_ p i = p[i] := by simp [at_, List.getD_eq_getElem?_getD, hi]
  have e2 : at_ p j = p[j] := by simp [at_, List.getD_eq_getElem?_getD, hj]
  rw [e1, e2] at h
  rcases Nat.lt_trichotomy i j with h1 | h1 | h1
  · exact absurd h (hp i j hi hj h1)
  · exact h1
  · exact absurd h.symm (hp j i hj hi h1)
section
variable (adj : Int → Int → Bool)
structure Closed (c : List Int) : Prop where
  len : 4 ≤ c.length
  nd : c.Nodup
  min : ∀ i, 0 < i → i < c.length → at_ c 0 < at_ c i
  nxt : ∀ i, i + 1 < c.length → adj (at_ c i) (at_ c (i + 1)) = true
  cl : adj (at_ c (c.length - 1)) (at_ c 0) = true
  no : ∀ i j, i + 1 < j → j < c.length → ¬ (i = 0 ∧ j = c.length - 1) → adj (at_ c i) (at_ c j) = false
  dir : at_ c 1 < at_ c (c.length - 1)
structure Walk (p : List Int) : Prop where
  ne : 0 < p.length
  nd : p.Nodup
  min : ∀ i, 0 < i → i < p.length → at_ p 0 < at_ p i
  nxt : ∀ i, i + 1 < p.length → adj (at_ p i) (at_ p (i + 1)) = true
  no : ∀ i j, i + 1 < j → j < p.length → adj (at_ p i) (at_ p j) = false
end
variable {adj : Int → Int → Bool}
theorem Walk.one {v : Int} : Walk adj [v] := ⟨by simp, by simp, fun i h1 h2 => by simp at h2; omega, fun i h => by simp at h, fun i j h1 h2 => by simp at h2; omega⟩
/-- the place x may come next behind a walk -/
structure Next (p : List Int) (adj : Int → Int → Bool) (x : Int) : Prop where
  ad : adj (at_ p (p.length - 1)) x = true
  gt : at_ p 0 < x
  nw : x ∉ p
  far : ∀ i, 0 < i → i + 1 < p.length → adj (at_ p i) x = false
theorem next_of {p e : List Int} {x : Int} (hp : 0 < p.length) (h : Closed adj (p ++ x :: e)) : Next p adj x := by
  have hl : (p ++ x :: e).length = p.length + 1 + e.length := by simp; omega
  have hx : at_ (p ++ x :: e) p.length = x := at_mid
  refine ⟨?_, ?_, ?_, fun i h0 h1 => ?_⟩
  · have := h.nxt (p.length - 1) (by omega)
    rwa [at_left (by omega), show p.length - 1 + 1 = p.length by omega, hx] at this
  · have := h.min p.length hp (by omega)
    rwa [at_left hp, hx] at this
  · have nd := h.nd
    rw [List.nodup_append] at nd
    exact fun hm => nd.2.2 x hm x (by simp) rfl
  · have := h.no i p.length h1 (by omega) (by omega)
    rwa [at_left (by omega), hx] at this
theorem last_of {p : List Int} {x : Int} (hp : 0 < p.length) (h : Closed adj (p ++ [x])) : 2 < p.length ∧ adj x (at_ p 0) = true ∧ at_ p 1 < x := by
  have hl : (p ++ [x]).length = p.length + 1 := by simp
  have hx : at_ (p ++ [x]) p.length = x := at_mid
  have h4 := h.len
  have h1 := h.cl
  have h2 := h.dir
  rw [hl, show p.length + 1 - 1 = p.length by omega, hx, at_left (by omega)] at h1 h2
  exact ⟨by omega, h1, h2⟩
theorem far_of {p e : List Int} {x : Int} (sym : ∀ a b, adj a b = adj b a) (hp : 1 < p.length) (he : e ≠ []) (h : Closed adj (p ++ x :: e)) : adj x (at_ p 0) = false := by
  have he' : 0 < e.length := by cases e with | nil => exact absurd rfl he | cons _ _ => simp
  have hl : (p ++ x :: e).length = p.length + 1 + e.length := by simp; omega
  have hx : at_ (p ++ x :: e) p.length = x := at_mid
  have := h.no 0 p.length (by omega) (by omega) (by omega)
  rwa [at_left (by omega), hx, sym] at this
theorem Next.at_lt {p : List Int} {x : Int} {i j : Nat} (hij : i + 1 < j) (hj : j < (p ++ [x]).length) (n : Next p adj x) (W : Walk adj p) (h0 : i = 0 → j = p.length → adj (at_ p 0) x = false) : adj (at_ (p ++ [x]) i) (at_ (p ++ [x]) j) = false := by
  have hl : (p ++ [x]).length = p.length + 1 := by simp
  by_cases hjp : j < p.length
  · rw [at_left (by omega), at_left hjp]; exact W.no i j hij hjp
  · have ej : j = p.length := by omega
    subst ej
    rw [at_left (by omega), at_mid]
    by_cases hi : i = 0
    · subst hi; exact h0 rfl rfl
    · exact n.far i (by omega) (by omega)
theorem Next.nxts {p : List Int} {x : Int} (n : Next p adj x) (W : Walk adj p) (i : Nat) (hi : i + 1 < (p ++ [x]).length) : adj (at_ (p ++ [x]) i) (at_ (p ++ [x]) (i + 1)) = true := by
  have hl : (p ++ [x]).length = p.length + 1 := by simp
  by_cases hj : i + 1 < p.length
  · rw [at_left (by omega), at_left hj]; exact W.nxt i hj
  · have ej : i = p.length - 1 := by have := W.ne; omega
    subst ej
    have := W.ne
    rw [at_left (by omega), show p.length - 1 + 1 = p.length by omega, at_mid]
    exact n.ad
theorem Next.nds {p : List Int} {x : Int} (n : Next p adj x) (W : Walk adj p) : (p ++ [x]).Nodup := by
  rw [List.nodup_append]
  exact ⟨W.nd, by simp, fun a ha b hb => by rw [List.mem_singleton.mp hb]; rintro rfl; exact n.nw ha⟩
theorem Next.mins {p : List Int} {x : Int} (n : Next p adj x) (W : Walk adj p) (i : Nat) (h0 : 0 < i) (hi : i < (p ++ [x]).length) : at_ (p ++ [x]) 0 < at_ (p ++ [x]) i := by
  have hl : (p ++ [x]).length = p.length + 1 := by simp
  rw [at_left W.ne]
  by_cases hj : i < p.length
  · rw [at_left hj]; exact W.min i h0 hj
  · rw [show i = p.length by omega, at_mid]; exact n.gt
theorem closed_of {p : List Int} {x : Int} (sym : ∀ a b, adj a b = adj b a) (W : Walk adj p) (n : Next p adj x) (h2 : 2 < p.length) (ha : adj x (at_ p 0) = true) (hd : at_ p 1 < x) : Closed adj (p ++ [x]) := by
  have hl : (p ++ [x]).length = p.length + 1 := by simp
  have e1 : at_ (p ++ [x]) ((p ++ [x]).length - 1) = x := by rw [hl, show p.length + 1 - 1 = p.length by omega]; exact at_mid
  refine ⟨by omega, n.nds W, n.mins W, n.nxts W, ?_, fun i j hij hj hn => ?_, ?_⟩
  · rw [e1, at_left W.ne]; exact ha
  · exact n.at_lt hij hj W fun h0 h1 => absurd ⟨h0, by omega⟩ hn
  · rw [e1, at_left (by omega)]; exact hd
theorem Walk.snoc {p : List Int} {x : Int} (sym : ∀ a b, adj a b = adj b a) (W : Walk adj p) (n : Next p adj x) (h : p.length = 1 ∨ adj x (at_ p 0) = false) : Walk adj (p ++ [x]) := by
  have hl : (p ++ [x]).length = p.length + 1 := by simp
  refine ⟨by omega, n.nds W, n.mins W, n.nxts W, fun i j hij hj => n.at_lt hij hj W fun h0 h1 => ?_⟩
  rcases h with h | h
  · omega
  · rw [sym]; exact h
/-! ### a part with two ones each that hangs together is a ring -/
/-- each of V has just two neighbours in V -/
def Two (adj : Int → Int → Bool) (V : List Int) : Prop := ∀ v ∈ V, ∃ a b, a ≠ b ∧ a ∈ V ∧ b ∈ V ∧ adj v a = true ∧ adj v b = true ∧ ∀ z ∈ V, adj v z = true → z = a ∨ z = b
/-- a simple path in V -/
structure Path (adj : Int → Int → Bool) (V : List Int) (p : List Int) : Prop where
  nd : p.Nodup
  sub : ∀ v ∈ p, v ∈ V
  nxt : ∀ i, i + 1 < p.length → adj (at_ p i) (at_ p (i + 1)) = true
theorem two_only {V : List Int} (T : Two adj V) {v x y z : Int} (hv : v ∈ V) (hx : x ∈ V) (hy : y ∈ V) (hz : z ∈ V) (ax : adj v x = true) (ay : adj v y = true) (az : adj v z = true) (hxy : x ≠ y) : z = x ∨ z = y := by
  obtain ⟨a, b, hab, _, _, _, _, h⟩ := T v hv
  rcases h x hx ax with rfl | rfl <;> rcases h y hy ay with rfl | rfl <;> rcases h z hz az with rfl | rfl <;> simp_all
theorem two_other {V : List Int} (T : Two adj V) {v x : Int} (hv : v ∈ V) (hx : x ∈ V) (ax : adj v x = true) : ∃ y ∈ V, y ≠ x ∧ adj v y = true := by
  obtain ⟨a, b, hab, ha, hb, va, vb, h⟩ := T v hv
  rcases h x hx ax with rfl | rfl
  · exact ⟨b, hb, fun e => hab e.symm, vb⟩
  · exact ⟨a, ha, hab, va⟩
/-- a path goes on till it comes back to its first place -/
theorem goes_round {V : List Int} (T : Two adj V) (sym : ∀ a b, adj a b = adj b a) (irr : ∀ a, adj a a = false) : ∀ (n : Nat) (p : List Int), V.length ≤ p.length + n → 2 ≤ p.length → Path adj V p → ∃ e, Path adj V (p ++ e) ∧ 3 ≤ (p ++ e).length ∧ adj (at_ (p ++ e) ((p ++ e).length - 1)) (at_ (p ++ e) 0) = true := by
  intro n
  induction n with
  | zero =>
    intro p hl h2 P
    -- no place is left outside
    have hlast : at_ p (p.length - 1) ∈ V := P.sub _ (at_mem (by omega))
    have hprev : at_ p (p.length - 2) ∈ V := P.sub _ (at_mem (by omega))
    have hadj : adj (at_ p (p.length - 1)) (at_ p (p.length - 2)) = true := by
      have := P.nxt (p.length - 2) (by omega)
      rw [show p.length - 2 + 1 = p.length - 1 by omega, sym] at this; exact this
    obtain ⟨x, hx, hne, hax⟩ := two_other T hlast hprev hadj
    have hxp : x ∈ p := by
      apply Classical.byContradiction
      intro hn
      have := nodup_le (l := x :: p) (m := V) (List.nodup_cons.mpr ⟨hn, P.nd⟩) (fun y hy => by
        rcases List.mem_cons.mp hy with rfl | hy
        · exact hx
        · exact P.sub y hy)
      simp at this; omega
    obtain ⟨j, hj, ej⟩ := mem_at hxp
    have hj1 : j ≠ p.length - 1 := by rintro rfl; rw [ej] at hax; rw [irr] at hax; cases hax
    have hj2 : j ≠ p.length - 2 := by rintro rfl; exact hne ej.symm
    by_cases hj0 : j = 0
    · subst hj0
      refine ⟨[], by simpa using P, ?_, ?_⟩
      · simp; omega
      · rw [List.append_nil, ej]; exact hax
    · -- three neighbours
      exfalso
      have s1 := P.nxt (j - 1) (by omega)
      rw [show j - 1 + 1 = j by omega, ej, sym] at s1
      have s2 := P.nxt j (by omega)
      rw [ej] at s2
      rw [sym] at hax
      have := two_only T hx (P.sub _ (at_mem (i := j - 1) (by omega))) (P.sub _ (at_mem (i := j + 1) (by omega))) hlast s1 s2 hax (fun e => by have := at_inj P.nd (by omega) (by omega) e; omega)
      rcases this with e | e
      · have := at_inj P.nd (by omega) (by omega) e; omega
      · have := at_inj P.nd (by omega) (by omega) e; omega
  | succ n ih =>
    intro p hl h2 P
    have hlast : at_ p (p.length - 1) ∈ V := P.sub _ (at_mem (by omega))
    have hprev : at_ p (p.length - 2) ∈ V := P.sub _ (at_mem (by omega))
    have hadj : adj (at_ p (p.length - 1)) (at_ p (p.length - 2)) = true := by
      have := P.nxt (p.length - 2) (by omega)
      rw [show p.length - 2 + 1 = p.length - 1 by omega, sym] at this; exact this
    obtain ⟨x, hx, hne, hax⟩ := two_other T hlast hprev hadj
    by_cases hxp : x ∈ p
    · obtain ⟨j, hj, ej⟩ := mem_at hxp
      have hj1 : j ≠ p.length - 1 := by rintro rfl; rw [ej] at hax; rw [irr] at hax; cases hax
      have hj2 : j ≠ p.length - 2 := by rintro rfl; exact hne ej.symm
      by_cases hj0 : j = 0
      · subst hj0
        refine ⟨[], by simpa using P, ?_, ?_⟩
        · simp; omega
        · rw [List.append_nil, ej]; exact hax
      · exfalso
        have s1 := P.nxt (j - 1) (by omega)
        rw [show j - 1 + 1 = j by omega, ej, sym] at s1
        have s2 := P.nxt j (by omega)
        rw [ej] at s2
        rw [sym] at hax
        have := two_only T hx (P.sub _ (at_mem (i := j - 1) (by omega))) (P.sub _ (at_mem (i := j + 1) (by omega))) hlast s1 s2 hax (fun e => by have := at_inj P.nd (by omega) (by omega) e; omega)
        rcases this with e | e
        · have := at_inj P.nd (by omega) (by omega) e; omega
        · have := at_inj P.nd (by omega) (by omega) e; omega
    · have P' : Path adj V (p ++ [x]) := by
        refine ⟨?_, fun v hv => ?_, fun i hi => ?_⟩
        · rw [List.nodup_append]
          exact ⟨P.nd, by simp, fun a ha b hb => by rw [List.mem_singleton.mp hb]; rintro rfl; exact hxp ha⟩
        · rcases List.mem_append.mp hv with hv | hv
          · exact P.sub v hv
          · rw [List.mem_singleton.mp hv]; exact hx
        · have hl : (p ++ [x]).length = p.length + 1 := by simp
          by_cases hj : i + 1 < p.length
          · rw [at_left (by omega), at_left hj]; exact P.nxt i hj
          · have ej : i = p.length - 1 := by omega
            subst ej
            rw [at_left (by omega), show p.length - 1 + 1 = p.length by omega, at_mid]
            exact hax
      obtain ⟨e, h1, h2, h3⟩ := ih (p ++ [x]) (by simp; omega) (by simp; omega) P'
      rw [List.append_assoc] at h1 h2 h3
      exact ⟨[x] ++ e, h1, h2, h3⟩
end Rg
/-! # rings: a part with two ones each that hangs together -/
namespace Rg
open Sp
variable {adj : Int → Int → Bool}
/-- in a round path each place has just the one before and the one behind -/
theorem round_nb {V c : List Int} (T : Two adj V) (sym : ∀ a b, adj a b = adj b a) (P : Path adj V c) (h3 : 3 ≤ c.length) (hcl : adj (at_ c (c.length - 1)) (at_ c 0) = true) {i : Nat} (hi : i < c.length) {z : Int} (hz : z ∈ V) (haz : adj (at_ c i) z = true) :
    (i = 0 → z = at_ c 1 ∨ z = at_ c (c.length - 1)) ∧ (0 < i → i + 1 < c.length → z = at_ c (i - 1) ∨ z = at_ c (i + 1)) ∧ (i + 1 = c.length → z = at_ c (i - 1) ∨ z = at_ c 0) := by
  have mem : ∀ {j}, j < c.length → at_ c j ∈ V := fun h => P.sub _ (at_mem h)
  have ne : ∀ {j k}, j < c.length → k < c.length → j ≠ k → at_ c j ≠ at_ c k := fun h1 h2 h3 e => h3 (at_inj P.nd h1 h2 e)
  refine ⟨fun h0 => ?_, fun h0 h1 => ?_, fun h1 => ?_⟩
  · subst h0
    refine two_only T (mem hi) (mem (by omega)) (mem (by omega)) hz (P.nxt 0 (by omega)) ?_ haz (ne (by omega) (by omega) (by omega))
    rw [sym]; exact hcl
  · have s1 := P.nxt (i - 1) (by omega)
    rw [show i - 1 + 1 = i by omega, sym] at s1
    exact two_only T (mem hi) (mem (by omega)) (mem (by omega)) hz s1 (P.nxt i h1) haz (ne (by omega) (by omega) (by omega))
  · have s1 := P.nxt (i - 1) (by omega)
    rw [show i - 1 + 1 = i by omega, sym] at s1
    refine two_only T (mem hi) (mem (by omega)) (mem (by omega)) hz s1 ?_ haz (ne (by omega) (by omega) (by omega))
    rw [show i = c.length - 1 by omega]; exact hcl
def Conn (adj : Int → Int → Bool) (V : List Int) (v0 : Int) : Prop := ∀ P : Int → Prop, P v0 → (∀ u ∈ V, ∀ v ∈ V, P u → adj u v = true → P v) → ∀ v ∈ V, P v
theorem closed_cover {V : List Int} {v0 : Int} {side : Int → Bool} (nd : V.Nodup) (T : Two adj V) (sym : ∀ a b, adj a b = adj b a) (bi : ∀ a b, adj a b = true → side a ≠ side b) (hv0 : v0 ∈ V) (hmin : ∀ v ∈ V, v ≠ v0 → v0 < v) (hc : Conn adj V v0) : ∃ c, Closed adj c ∧ c.Perm V := by
  have irr : ∀ a, adj a a = false := fun a => by
    cases h : adj a a with
    | false => rfl
    | true => exact absurd rfl (bi a a h)
  -- the lesser neighbour first
  have hnb : ∃ a b, a < b ∧ a ∈ V ∧ b ∈ V ∧ adj v0 a = true ∧ adj v0 b = true := by
    obtain ⟨a, b, hab, ha, hb, va, vb, _⟩ := T v0 hv0
    rcases Int.lt_trichotomy a b with h | h | h
    · exact ⟨a, b, h, ha, hb, va, vb⟩
    · exact absurd h hab
    · exact ⟨b, a, h, hb, ha, vb, va⟩
  obtain ⟨a, b, hab, ha, hb, va, vb⟩ := hnb
  have hva : v0 ≠ a := by rintro rfl; rw [irr] at va; cases va
  have P0 : Path adj V [v0, a] := by
    refine ⟨by simp [hva], fun v hv => ?_, fun i hi => ?_⟩
    · simp at hv; rcases hv with rfl | rfl <;> assumption
    · have : i = 0 := by simp at hi; omega
      subst this; exact va
  obtain ⟨e, P, h3, hcl⟩ := goes_round T sym irr V.length [v0, a] (by omega) (by simp) P0
  generalize hce : [v0, a] ++ e = c at P h3 hcl
  have c0 : at_ c 0 = v0 := by rw [← hce]; rfl
  have c1 : at_ c 1 = a := by rw [← hce]; rfl
  have nb := fun {i} (hi : i < c.length) {z} (hz : z ∈ V) (haz : adj (at_ c i) z = true) => round_nb T sym P h3 hcl hi hz haz
  have mem : ∀ {j}, j < c.length → at_ c j ∈ V := fun h => P.sub _ (at_mem h)
  have len4 : 4 ≤ c.length := by
    apply Classical.byContradiction
    intro hn
    have e3 : c.length = 3 := by omega
    rw [e3] at hcl
    have s0 := bi _ _ (P.nxt 0 (by omega))
    have s1 := bi _ _ (P.nxt 1 (by omega))
    have s2 := bi _ _ hcl
    revert s0 s1 s2
    simp only [Nat.reduceAdd, Nat.reduceSub]
    cases side (at_ c 0) <;> cases side (at_ c 1) <;> cases side (at_ c 2) <;> simp
  have hbl : b = at_ c (c.length - 1) := by
    have := (nb (i := 0) (by omega) hb (by rw [c0]; exact vb)).1 rfl
    rcases this with e | e
    · rw [c1] at e; omega
    · exact e
  have C : Closed adj c := by
    refine ⟨len4, P.nd, fun i h0 hi => ?_, P.nxt, hcl, fun i j hij hj hn => ?_, ?_⟩
    · rw [c0]
      exact hmin _ (mem hi) fun e => by rw [← c0] at e; have := at_inj P.nd hi (by omega) e; omega
    · cases h : adj (at_ c i) (at_ c j) with
      | false => rfl
      | true =>
        exfalso
        have n := nb (i := i) (by omega) (mem hj) h
        by_cases h0 : i = 0
        · rcases n.1 h0 with e | e
          · have := at_inj P.nd hj (by omega) e; omega
          · have := at_inj P.nd hj (by omega) e; exact hn ⟨h0, this⟩
        · rcases n.2.1 (by omega) (by omega) with e | e
          · have := at_inj P.nd hj (by omega) e; omega
          · have := at_inj P.nd hj (by omega) e; omega
    · rw [c1, ← hbl]; exact hab
  refine ⟨c, C, (List.perm_ext_iff_of_nodup P.nd nd).mpr fun v => ⟨fun h => P.sub v h, fun h => ?_⟩⟩
  refine hc (· ∈ c) (by rw [← c0]; exact at_mem (by omega)) (fun u hu v hv huc huv => ?_) v h
  obtain ⟨i, hi, rfl⟩ := mem_at huc
  have n := nb hi hv huv
  by_cases h0 : i = 0
  · rcases n.1 h0 with e | e <;> rw [e] <;> exact at_mem (by omega)
  · by_cases h1 : i + 1 < c.length
    · rcases n.2.1 (by omega) h1 with e | e <;> rw [e] <;> exact at_mem (by omega)
    · rcases n.2.2 (by omega) with e | e <;> rw [e] <;> exact at_mem (by omega)
/-- in a ring each place has just two -/
theorem closed_nb {c : List Int} (C : Closed adj c) (sym : ∀ a b, adj a b = adj b a) (irr : ∀ a, adj a a = false) {i : Nat} (hi : i < c.length) : ∃ a b, a ≠ b ∧ a ∈ c ∧ b ∈ c ∧ adj (at_ c i) a = true ∧ adj (at_ c i) b = true ∧ ∀ z ∈ c, adj (at_ c i) z = true → z = a ∨ z = b := by
  have h4 := C.len
  have ne : ∀ {j k}, j < c.length → k < c.length → j ≠ k → at_ c j ≠ at_ c k := fun h1 h2 h3 e => h3 (at_inj C.nd h1 h2 e)
  have key : ∀ {j}, j < c.length → adj (at_ c i) (at_ c j) = true → j = i + 1 ∨ i = j + 1 ∨ (i = 0 ∧ j = c.length - 1) ∨ (j = 0 ∧ i = c.length - 1) := fun {j} hj h => by
    apply Classical.byContradiction
    intro hn
    rcases Nat.lt_trichotomy i j with h1 | h1 | h1
    · have := C.no i j (by omega) hj (fun e => hn (.inr (.inr (.inl e))))
      rw [this] at h; cases h
    · subst h1; rw [irr] at h; cases h
    · have := C.no j i (by omega) hi (fun e => hn (.inr (.inr (.inr e))))
      rw [sym, this] at h; cases h
  by_cases h0 : i = 0
  · subst h0
    refine ⟨at_ c 1, at_ c (c.length - 1), ne (by omega) (by omega) (by omega), at_mem (by omega), at_mem (by omega), C.nxt 0 (by omega), by rw [sym]; exact C.cl, fun z hz haz => ?_⟩
    obtain ⟨j, hj, rfl⟩ := mem_at hz
    rcases key hj haz with e | e | e | e
    · subst e; exact .inl rfl
    · omega
    · rw [e.2]; exact .inr rfl
    · omega
  · have s1 : adj (at_ c i) (at_ c (i - 1)) = true := by
      have := C.nxt (i - 1) (by omega)
      rw [show i - 1 + 1 = i by omega, sym] at this; exact this
    by_cases h1 : i + 1 < c.length
    · refine ⟨at_ c (i - 1), at_ c (i + 1), ne (by omega) (by omega) (by omega), at_mem (by omega), at_mem (by omega), s1, C.nxt i h1, fun z hz haz => ?_⟩
      obtain ⟨j, hj, rfl⟩ := mem_at hz
      rcases key hj haz with e | e | e | e
      · subst e; exact .inr rfl
      · rw [show j = i - 1 by omega]; exact .inl rfl
      · omega
      · omega
    · have ei : i = c.length - 1 := by omega
      refine ⟨at_ c (i - 1), at_ c 0, ne (by omega) (by omega) (by omega), at_mem (by omega), at_mem (by omega), s1, by rw [ei]; exact C.cl, fun z hz haz => ?_⟩
      obtain ⟨j, hj, rfl⟩ := mem_at hz
      rcases key hj haz with e | e | e | e
      · omega
      · rw [show j = i - 1 by omega]; exact .inl rfl
      · omega
      · rw [e.1]; exact .inr rfl
theorem closed_two {c V : List Int} (C : Closed adj c) (sym : ∀ a b, adj a b = adj b a) (irr : ∀ a, adj a a = false) (hp : c.Perm V) : Two adj V := fun v hv => by
  obtain ⟨i, hi, rfl⟩ := mem_at (hp.mem_iff.mpr hv)
  obtain ⟨a, b, h1, h2, h3, h4, h5, h6⟩ := closed_nb C sym irr hi
  exact ⟨a, b, h1, hp.mem_iff.mp h2, hp.mem_iff.mp h3, h4, h5, fun z hz => h6 z (hp.mem_iff.mpr hz)⟩
theorem closed_conn {c V : List Int} (C : Closed adj c) (hp : c.Perm V) : Conn adj V (at_ c 0) := fun P h0 hs v hv => by
  obtain ⟨i, hi, rfl⟩ := mem_at (hp.mem_iff.mpr hv)
  clear hv
  induction i with
  | zero => exact h0
  | succ i ih =>
    exact hs _ (hp.mem_iff.mp (at_mem (by omega))) _ (hp.mem_iff.mp (at_mem hi)) (ih (by omega)) (C.nxt i hi)
theorem closed_min {c V : List Int} (C : Closed adj c) (hp : c.Perm V) : at_ c 0 ∈ V ∧ ∀ v ∈ V, v ≠ at_ c 0 → at_ c 0 < v := by
  have := C.len
  refine ⟨hp.mem_iff.mp (at_mem (by omega)), fun v hv hne => ?_⟩
  obtain ⟨i, hi, rfl⟩ := mem_at (hp.mem_iff.mpr hv)
  exact C.min i (Nat.pos_of_ne_zero (by rintro rfl; exact hne rfl)) hi
/-- sides alternate, so half of the places are on the first one's side -/
theorem closed_half {c : List Int} {side : Int → Bool} (C : Closed adj c) (bi : ∀ a b, adj a b = true → side a ≠ side b) : (c.filter fun v => side v == side (at_ c 0)).length * 2 = c.length := by
  have h4 := C.len
  have alt : ∀ i, i < c.length → (side (at_ c i) = side (at_ c 0) ↔ i % 2 = 0) := by
    intro i
    induction i with
    | zero => intro _; simp
    | succ i ih =>
      intro hi
      have h1 := ih (by omega)
      have h2 := bi _ _ (C.nxt i hi)
      by_cases h : side (at_ c i) = side (at_ c 0)
      · have := h1.mp h
        constructor
        · intro e; exact absurd (h.trans e.symm) h2
        · intro e; omega
      · have : ¬ i % 2 = 0 := fun e => h (h1.mpr e)
        constructor
        · intro _; omega
        · intro _
          revert h h2
          cases side (at_ c i) <;> cases side (at_ c 0) <;> cases side (at_ c (i + 1)) <;> simp
  have even : c.length % 2 = 0 := by
    have h1 := alt (c.length - 1) (by omega)
    have h2 := bi _ _ C.cl
    have : ¬ (c.length - 1) % 2 = 0 := fun e => h2 (h1.mpr e)
    omega
  have gen : ∀ (l : List Int) (b : Bool), (∀ i, i < l.length → (side (at_ l i) = b ↔ i % 2 = 0)) → (l.filter fun v => side v == b).length = (l.length + 1) / 2 ∧ (l.filter fun v => side v == !b).length = l.length / 2 := by
    intro l
    induction l with
    | nil => intro b _; simp
    | cons x l ih =>
      intro b h
      have hx : side x = b := (h 0 (by simp)).mpr rfl
      have hl := ih (!b) (fun i hi => by
        have h1 := h (i + 1) (by simp; omega)
        have e : at_ (x :: l) (i + 1) = at_ l i := by simp [at_]
        rw [e] at h1
        constructor
        · intro e
          have : ¬ (i + 1) % 2 = 0 := fun z => by have := h1.mpr z; rw [this] at e; cases b <;> simp at e
          omega
        · intro e
          have : ¬ side (at_ l i) = b := fun z => by have := h1.mp z; omega
          revert this
          cases side (at_ l i) <;> cases b <;> simp)
      rw [Bool.not_not] at hl
      constructor
      · rw [List.filter_cons, hx]; simp only [beq_self_eq_true, if_true, List.length_cons, hl.2]; omega
      · rw [List.filter_cons, hx]
        have : (b == !b) = false := by cases b <;> rfl
        simp only [this, Bool.false_eq_true, if_false, List.length_cons]
        exact hl.1
  have := (gen c (side (at_ c 0)) alt).1
  rw [this]; omega
end Rg
/-! # rings: the search with its dict -/
namespace Rg
open PySem PySem.W L2 Ev Bd Sp
/-! ascending lists below a number -/
def subs : Nat → Rw
  | 0 => [[]]
  | n + 1 => subs n ++ (subs n).map fun l => l ++ [(n : Int)]
theorem subs_len : ∀ n, (subs n).length = 2 ^ n
  | 0 => rfl
  | n + 1 => by simp only [subs, List.length_append, List.length_map, subs_len n]; omega
def Asc (l : List Int) : Prop := l.Pairwise (· < ·)
theorem mem_subs : ∀ {n : Nat} {l : List Int}, Asc l → (∀ x ∈ l, 0 ≤ x ∧ x < n) → l ∈ subs n
  | 0, l, _, h => by
    cases l with
    | nil => simp [subs]
    | cons x l => have := h x (List.mem_cons_self ..); omega
  | n + 1, l, ha, h => by
    unfold subs
    rw [List.mem_append]
    by_cases hn : (n : Int) ∈ l
    · right
      have hne : l ≠ [] := by rintro rfl; simp at hn
      have hl := List.dropLast_concat_getLast hne
      have ha' := ha
      rw [← hl] at ha'
      unfold Asc at ha'
      rw [List.pairwise_append] at ha'
      have hlast : l.getLast hne = n := by
        have h1 := h _ (List.getLast_mem hne)
        rw [← hl] at hn
        rcases List.mem_append.mp hn with h2 | h2
        · have := ha'.2.2 _ h2 _ (List.mem_singleton.mpr rfl); omega
        · exact (List.mem_singleton.mp h2).symm
      refine List.mem_map.mpr ⟨l.dropLast, mem_subs ha'.1 fun x hx => ?_, by rw [← hlast]; exact hl⟩
      have h1 := h x (List.dropLast_subset _ hx)
      have h2 := ha'.2.2 x hx _ (List.mem_singleton.mpr rfl)
      rw [hlast] at h2
      omega
    · left
      refine mem_subs ha fun x hx => ?_
      have := h x hx
      have : x ≠ n := by rintro rfl; exact hn hx
      omega
theorem srt_asc {l : List Int} (h : l.Nodup) : Asc (srt l) := by
  refine List.pairwise_iff_getElem.mpr fun i j hi hj hij => ?_
  have := srt_lt h hij hj
  simpa [List.getD_eq_getElem?_getD, hi, hj] using this
/-! small evaluations -/
section
variable {S : Store} {p : List Int} {δ : En}
theorem ix_last (h : 0 < p.length) : pIx (lI p) (.int (-1)) S = some (.int (at_ p (p.length - 1)), S) := by
  have e : atI (iD p) (-1) = some (.int (at_ p (p.length - 1))) := by
    unfold atI ixN
    rw [iD_len]
    have h1 : ¬ (0 : Int) ≤ -1 := by omega
    have h2 : ((-1 : Int) + (p.length : Int)).toNat = p.length - 1 := by omega
    have h3 : (0 : Int) ≤ -1 + (p.length : Int) := by omega
    have hl : p.length - 1 < p.length := by omega
    have h4 : (1 : Int) ≤ (p.length : Int) := by omega
    simp [h1, h2, h3, h4, iD, at_, List.getD_eq_getElem?_getD, hl]
  simp only [pIx, seqOf, lstOf, Option.bind_some, e, Option.map_some]
theorem cut_mid {mo : ME} (h : mo δ S = .ok (lI p) S) (hl : p.length ≤ 1000) : eCut mo (some (eC (.int 1))) (some (eUn pNeg (eC (.int 1)))) δ S = .ok (lI ((p.drop 1).take (p.length - 2))) S := by
  have e : cutD (iD p) (some 1) (some (-1)) = iD ((p.drop 1).take (p.length - 2)) := by
    unfold cutD
    have s1 : HT.sIx (iD p).length 0 (some 1) = min 1 p.length := by rw [iD_len]; exact HT.sIx_nat p.length 0 1
    have s2 : HT.sIx (iD p).length (iD p).length (some (-1)) = p.length - 1 := by
      rw [iD_len]
      unfold HT.sIx
      simp only [show (-1 : Int) < 0 by omega, if_true]
      omega
    rw [s1, s2]
    cases p with
    | nil => rfl
    | cons x p =>
      simp only [List.length_cons]
      rw [show min 1 (p.length + 1) = 1 by omega]
      simp [iD, List.map_take]
  have hl' : (iD ((p.drop 1).take (p.length - 2))).length ≤ sizeLine := by
    rw [iD_len]; exact small (by simp; omega)
  have e2 : pCut (lI p) (some 1) (some (-1)) S = some (lI ((p.drop 1).take (p.length - 2)), S) := by
    show ((lstOf S (lI p)).bind fun xs => newL (cutD xs (some 1) (some (-1))) S) = _
    rw [show lstOf S (lI p) = some (iD p) from rfl, Option.bind_some, e, newL_ev hl']
  have e3 : eUn pNeg (eC (.int 1)) δ S = .ok (.int (-1)) S := rfl
  simp only [eCut, M.bind, h, oPart, M.pure, lft, e3]
  show (match eC (.int 1) δ S with | _ => _) = _
  simp only [eC, M.pure, M.bind, e2]
end
theorem mem_mid {p : List Int} {x : Int} : x ∈ (p.drop 1).take (p.length - 2) ↔ ∃ i, 0 < i ∧ i + 1 < p.length ∧ at_ p i = x := by
  constructor
  · intro h
    obtain ⟨i, hi, e⟩ := List.mem_iff_getElem.mp h
    rw [List.length_take, List.length_drop] at hi
    refine ⟨i + 1, by omega, by omega, ?_⟩
    rw [List.getElem_take, List.getElem_drop] at e
    have : i + 1 < p.length := by omega
    rw [← e]
    simp [at_, List.getD_eq_getElem?_getD, this, Nat.add_comm]
  · rintro ⟨i, h0, h1, rfl⟩
    refine List.mem_iff_getElem.mpr ⟨i - 1, by rw [List.length_take, List.length_drop]; omega, ?_⟩
    rw [List.getElem_take, List.getElem_drop]
    have : i < p.length := by omega
    simp [at_, List.getD_eq_getElem?_getD, this, show 1 + (i - 1) = i by omega]
theorem putT_keys {kvs : List (List Int × D)} {k : List Int} {v : D} : (∀ z, z ∈ (putT kvs k v).map (·.1) ↔ z ∈ kvs.map (·.1) ∨ z = k) ∧ ((kvs.map (·.1)).Nodup → ((putT kvs k v).map (·.1)).Nodup) := by
  unfold putT
  by_cases h : (kvs.any fun kv => decide (kv.1 = k)) = true
  · have hm : k ∈ kvs.map (·.1) := by
      obtain ⟨kv, h1, h2⟩ := List.any_eq_true.mp h
      exact List.mem_map.mpr ⟨kv, h1, by simpa using h2⟩
    have e : (kvs.map (fun kv => if kv.1 = k then (kv.1, v) else kv)).map (·.1) = kvs.map (·.1) := by
      rw [List.map_map]
      refine List.map_congr_left fun kv _ => ?_
      simp only [Function.comp]
      split <;> rfl
    rw [if_pos h, e]
    refine ⟨fun z => ⟨.inl, fun hz => ?_⟩, id⟩
    rcases hz with hz | rfl
    · exact hz
    · exact hm
  · have hm : k ∉ kvs.map (·.1) := fun hm => h (by
      obtain ⟨kv, h1, h2⟩ := List.mem_map.mp hm
      exact List.any_eq_true.mpr ⟨kv, h1, by simpa using h2⟩)
    rw [if_neg h, List.map_append]
    refine ⟨fun z => by simp, fun nd => ?_⟩
    rw [List.nodup_append]
    exact ⟨nd, by simp, fun a ha b hb => by simp at hb; subst hb; rintro rfl; exact hm ha⟩
end Rg
/-! # rings: the search with its dict, walked -/
namespace Rg
open PySem PySem.W L2 Ev Bd Sp
theorem loop_ct {mg : TGM} {mb : MS} {d : D} {ds : List D} {δ δ1 δ2 : En} {S S1 S2 : Store} (h1 : mg d δ S = some (δ1, S1)) (h2 : mb δ1 S1 = .ct δ2 S2) : loopF mg mb (d :: ds) δ S = loopF mg mb ds δ2 S2 := by simp only [loopF, h1, h2]
theorem sSeq_ct {ms mt : MS} {δ δ1 : En} {S S1 : Store} (h : ms δ S = .ct δ1 S1) : sSeq ms mt δ S = .ct δ1 S1 := by simp only [sSeq, h]
abbrev Ks (kvs : List (List Int × D)) : Rw := kvs.map (·.1)
structure KOk (n : Nat) (kvs : List (List Int × D)) : Prop where
  nd : (Ks kvs).Nodup
  ok : ∀ k ∈ Ks kvs, Asc k ∧ ∀ x ∈ k, 0 ≤ x ∧ x < n
theorem KOk.len {n : Nat} {kvs : List (List Int × D)} (h : KOk n kvs) : kvs.length ≤ 2 ^ n := by
  have := nodup_le h.nd (m := subs n) fun k hk => mem_subs (h.ok k hk).1 (h.ok k hk).2
  rw [subs_len, List.length_map] at this
  exact this
/-- lists of neighbours -/
structure Spots (n : Nat) (sp : Rw) (adj : Int → Int → Bool) : Prop where
  len : sp.length = n
  n16 : n ≤ 16
  row : ∀ r ∈ sp, r.length ≤ 16
  mem : ∀ (a b : Int), 0 ≤ a → a < n → (adj a b = true ↔ b ∈ sp.getD a.toNat [])
  rg : ∀ (a b : Int), adj a b = true → (0 ≤ a ∧ a < n) ∧ (0 ≤ b ∧ b < n)
  sym : ∀ a b, adj a b = adj b a
theorem Spots.dec {n : Nat} {sp : Rw} {adj : Int → Int → Bool} (H : Spots n sp adj) {a b : Int} (h0 : 0 ≤ a) (h1 : a < n) : decide (b ∈ sp.getD a.toNat []) = adj a b := by
  cases h : adj a b with
  | true => exact decide_eq_true ((H.mem a b h0 h1).mp h)
  | false => exact decide_eq_false fun hm => by rw [(H.mem a b h0 h1).mpr hm] at h; cases h
def New (adj : Int → Int → Bool) (p : List Int) (x : Int) (k : List Int) : Prop := ∃ e, Closed adj (p ++ x :: e) ∧ k = srt (p ++ x :: e)
def GrS (n : Nat) (sp : Rw) (adj : Int → Int → Bool) (f : List D → M D) (p : List Int) : Prop :=
  ∀ (t : Nat) (S : Store) (kvs : List (List Int × D)), t < S.length → KOk n kvs → ∃ kvs', f [rowsL sp, lI p, .ref t] (S.set t (some (.dT kvs))) = .ok .non (S.set t (some (.dT kvs'))) ∧ KOk n kvs' ∧ ∀ k, k ∈ Ks kvs' ↔ k ∈ Ks kvs ∨ ∃ x, New adj p x k
def grBody (cal : Nat → List D → M D) : MS := (sSeq (sIf (tOrM (fun δ => asB (eOp pLe (eVar 3) (eOp pIx (eVar 1) (eC (.int 0))) δ)) (fun δ => asB (eOp pIn (eVar 3) (eVar 1) δ))) sCnt sNext)
    (sSeq (sAsg (eLc newL (iAny (eCut (eVar 1) (some (eC (.int 1))) (some (eUn pNeg (eC (.int 1)))))) (uNm 5) (fun δ => asB (eOp pIn (eVar 3) (eOp pIx (eVar 0) (eVar 5)) δ)) (eVar 5) [5]) (gNm 4))
    (sSeq (sIf (fun δ => tru ((eVar 4) δ)) sCnt sNext)
    (sSeq (sIf (tAndM (fun δ => asB (eOp pGt (eCallV (pLen) (aCons (eVar 1) aNil)) (eC (.int 1)) δ)) (fun δ => asB (eOp pIn (eOp pIx (eVar 1) (eC (.int 0))) (eOp pIx (eVar 0) (eVar 3)) δ))) (sSeq (sIf (tAndM (fun δ => asB (eOp pGt (eCallV (pLen) (aCons (eVar 1) aNil)) (eC (.int 2)) δ)) (fun δ => asB (eOp pLt (eOp pIx (eVar 1) (eC (.int 1))) (eVar 3) δ))) (sPutT (eC (.bl true)) (eVar 2) (eCallV (pSortD) (aCons (eLst (aStar (eVar 1) (aCons (eVar 3) aNil))) aNil))) sNext)
    sCnt) sNext)
    (sExpr (eCal (cal 62) (aCons (eVar 0) (aCons (eLst (aStar (eVar 1) (aCons (eVar 3) aNil))) (aCons (eVar 2) aNil)))))))))
theorem grown_eq {cal : Nat → List D → M D} : b_grown cal = sFor (iAny (eOp pIx (eVar 0) (eOp pIx (eVar 1) (eUn pNeg (eC (.int 1)))))) (gNm 3) (grBody cal) := rfl
theorem put_ok {mv mo me : ME} {δ : En} {S S1 S2 S3 : Store} {v : D} {t : Nat} {ks : List Int} {kvs : List (List Int × D)} (h1 : mv δ S = .ok v S1) (h2 : mo δ S1 = .ok (.ref t) S2) (h3 : me δ S2 = .ok (lI ks) S3) (hc : S3[t]? = some (some (.dT kvs))) (hl : kvs.length ≤ 100000) (hk : ks.length ≤ 1000) : sPutT mv mo me δ S = .nx δ (S3.set t (some (.dT (putT kvs ks v)))) := by
  have hh : kvs.length < sizeLine ∧ (iD ks).length ≤ sizeLine := ⟨Nat.lt_of_lt_of_le (show kvs.length < 1000000 by omega) (small (Nat.le_refl _)), by rw [iD_len]; exact small (by omega)⟩
  have e : putCell t (iD ks) v S3 = some (S3.set t (some (.dT (putT kvs ks v)))) := by
    simp only [putCell, hc, ints_iD, if_pos hh]
  simp only [sPutT, ofE, M.bind, h1, h2, h3, lstOf, e]
theorem body_ev {n : Nat} {sp : Rw} {adj : Int → Int → Bool} {cal : Nat → List D → M D} {p : List Int} (H : Spots n sp adj) (W : Walk adj p) (hp : ∀ v ∈ p, 0 ≤ v ∧ v < n)
    (hrec : ∀ x : Int, Walk adj (p ++ [x]) → GrS n sp adj (cal 62) (p ++ [x])) {x : Int} (hax : adj (at_ p (p.length - 1)) x = true) {t : Nat} {S : Store} {kvs : List (List Int × D)} (ht : t < S.length) (hk : KOk n kvs) (o4 : Option D) :
    ∃ kvs' o4', (grBody cal [some (rowsL sp), some (lI p), some (.ref t), some (.int x), o4, none] (S.set t (some (.dT kvs))) = .nx [some (rowsL sp), some (lI p), some (.ref t), some (.int x), o4', none] (S.set t (some (.dT kvs'))) ∨ grBody cal [some (rowsL sp), some (lI p), some (.ref t), some (.int x), o4, none] (S.set t (some (.dT kvs))) = .ct [some (rowsL sp), some (lI p), some (.ref t), some (.int x), o4', none] (S.set t (some (.dT kvs')))) ∧ KOk n kvs' ∧ ∀ k, k ∈ Ks kvs' ↔ k ∈ Ks kvs ∨ New adj p x k := by
  have hne := W.ne
  have hn := H.n16
  have hx := (H.rg _ _ hax).2
  have hpl : p.length ≤ 16 := by
    have := nodup_le W.nd (m := rng n) fun v hv => mem_rng.mpr (hp v hv)
    rw [rng_length] at this; omega
  obtain ⟨Sk, hS⟩ : ∃ Sk, S.set t (some (.dT kvs)) = Sk := ⟨_, rfl⟩
  rw [hS]
  have hcell : Sk[t]? = some (some (.dT kvs)) := by rw [← hS, List.getElem?_set_self ht]
  have spl : ∀ a : Int, 0 ≤ a → a < n → pIx (rowsL sp) (.int a) Sk = some (lI (sp.getD a.toNat []), Sk) := fun a h0 h1 => ix_rL h0 (by rw [H.len]; exact h1)
  have none_new : (∀ e, ¬ Closed adj (p ++ x :: e)) → ∀ k, k ∈ Ks kvs ↔ k ∈ Ks kvs ∨ New adj p x k := fun h k => ⟨.inl, fun z => z.elim id fun ⟨e, h1, _⟩ => absurd h1 (h e)⟩
  have ix0 : pIx (lI p) (.int 0) Sk = some (.int (at_ p 0), Sk) := ix_lI (by omega) (by omega)
  have ix1 : 1 < p.length → pIx (lI p) (.int 1) Sk = some (.int (at_ p 1), Sk) := fun h => ix_lI (by omega) (by omega)
  unfold grBody
  by_cases c1 : x ≤ at_ p 0 ∨ x ∈ p
  · -- not behind the first place, or there already
    have t0 : tOrM (fun δ => asB (eOp pLe (eVar 3) (eOp pIx (eVar 1) (eC (.int 0))) δ)) (fun δ => asB (eOp pIn (eVar 3) (eVar 1) δ)) [some (rowsL sp), some (lI p), some (.ref t), some (.int x), o4, none] Sk = .ok true Sk := by
      by_cases c : x ≤ at_ p 0
      · exact tOr_t (asB_ok (eOp_ok rfl (eOp_ok rfl rfl ix0) (by rw [pLe_ii, decide_eq_true c])))
      · exact tOr_f (asB_ok (eOp_ok rfl (eOp_ok rfl rfl ix0) (by rw [pLe_ii, decide_eq_false c]))) (asB_ok (eOp_ok rfl rfl (by rw [in_lI, decide_eq_true (c1.resolve_left c)])))
    refine ⟨kvs, o4, .inr (by rw [hS]; refine sSeq_ct (sIf_t ?_ rfl); exact t0), hk, none_new fun e C => ?_⟩
    · have nx := next_of hne C
      rcases c1 with c | c
      · have := nx.gt; omega
      · exact nx.nw c
  · have c1a : ¬ x ≤ at_ p 0 := fun h => c1 (.inl h)
    have c1b : x ∉ p := fun h => c1 (.inr h)
    have t1 : tOrM (fun δ => asB (eOp pLe (eVar 3) (eOp pIx (eVar 1) (eC (.int 0))) δ)) (fun δ => asB (eOp pIn (eVar 3) (eVar 1) δ)) [some (rowsL sp), some (lI p), some (.ref t), some (.int x), o4, none] Sk = .ok false Sk :=
      tOr_f (asB_ok (eOp_ok rfl (eOp_ok rfl rfl ix0) (by rw [pLe_ii, decide_eq_false c1a]))) (asB_ok (eOp_ok rfl rfl (by rw [in_lI, decide_eq_false c1b])))
    -- those next to it in the middle
    let near := (((p.drop 1).take (p.length - 2)).filter fun m => adj m x)
    have hml : ((p.drop 1).take (p.length - 2)).length ≤ 16 := by rw [List.length_take, List.length_drop]; omega
    have e4 := lc_filE (S := Sk) (mt := fun δ => asB (eOp pIn (eVar 3) (eOp pIx (eVar 0) (eVar 5)) δ)) (me := eVar 5) (δ0 := wipeD [some (rowsL sp), some (lI p), some (.ref t), some (.int x), o4, none] [5]) (k := 5) D.int D.int (fun m => adj m x) id (zs := (p.drop 1).take (p.length - 2)) (small (by omega)) (fun m hm => by
      obtain ⟨i, h0, h1, rfl⟩ := mem_mid.mp hm
      have hm := hp _ (at_mem (p := p) (i := i) (by omega))
      exact asB_ok (eOp_ok rfl (eOp_ok rfl rfl (spl _ hm.1 hm.2)) (by rw [in_lI, H.dec hm.1 hm.2]))) (fun m hm _ => rfl)
    rw [List.map_id] at e4
    have hnl : near.length ≤ 16 := Nat.le_trans (List.length_filter_le _ _) hml
    have a4 : sAsg (eLc newL (iAny (eCut (eVar 1) (some (eC (.int 1))) (some (eUn pNeg (eC (.int 1)))))) (uNm 5) (fun δ => asB (eOp pIn (eVar 3) (eOp pIx (eVar 0) (eVar 5)) δ)) (eVar 5) [5]) (gNm 4) [some (rowsL sp), some (lI p), some (.ref t), some (.int x), o4, none] Sk = .nx [some (rowsL sp), some (lI p), some (.ref t), some (.int x), some (lI near), none] Sk :=
      sAsg_ok (eLc_ok (iAny_ok (cut_mid rfl (by omega)) rfl) e4 (newL_ev (by rw [List.length_map]; exact small (Nat.le_trans hnl (by omega))))) rfl
    have tn : tru (eVar 4 [some (rowsL sp), some (lI p), some (.ref t), some (.int x), some (lI near), none]) Sk = .ok (!near.isEmpty) Sk := tru_ok rfl (by simp [truD, seqOf, lstOf, iD])
    have s1 : sIf (tOrM (fun δ => asB (eOp pLe (eVar 3) (eOp pIx (eVar 1) (eC (.int 0))) δ)) (fun δ => asB (eOp pIn (eVar 3) (eVar 1) δ))) sCnt sNext [some (rowsL sp), some (lI p), some (.ref t), some (.int x), o4, none] Sk = .nx [some (rowsL sp), some (lI p), some (.ref t), some (.int x), o4, none] Sk := sIf_f t1 rfl
    by_cases c2 : near = []
    · have hfar : ∀ i, 0 < i → i + 1 < p.length → adj (at_ p i) x = false := fun i h0 h1 => by
        cases h : adj (at_ p i) x with
        | false => rfl
        | true =>
          have : at_ p i ∈ near := List.mem_filter.mpr ⟨mem_mid.mpr ⟨i, h0, h1, rfl⟩, h⟩
          rw [c2] at this; simp at this
      have nx : Next p adj x := ⟨hax, by omega, c1b, hfar⟩
      have s3 : sIf (fun δ => tru ((eVar 4) δ)) sCnt sNext [some (rowsL sp), some (lI p), some (.ref t), some (.int x), some (lI near), none] Sk = .nx [some (rowsL sp), some (lI p), some (.ref t), some (.int x), some (lI near), none] Sk := sIf_f (tn.trans (by rw [c2]; rfl)) rfl
      have hlst : ∀ S', eLst (aStar (eVar 1) (aCons (eVar 3) aNil)) [some (rowsL sp), some (lI p), some (.ref t), some (.int x), some (lI near), none] S' = .ok (lI (p ++ [x])) S' := fun S' => by
        have := eLst_ok (S := S') (aStar_ok (ma := eVar 1) (mas := aCons (eVar 3) aNil) (δ := [some (rowsL sp), some (lI p), some (.ref t), some (.int x), some (lI near), none]) (S := S') (x := lI p) (xs := iD p) rfl rfl (aCons_ok rfl rfl)) (small (by rw [List.length_append, iD_len]; simp; omega))
        rw [this, show lI (p ++ [x]) = .lst (iD p ++ [.int x]) by rw [lI, iD_app]; rfl]
      have tlen : ∀ (m : Int) S', asB (eOp pGt (eCallV (pLen) (aCons (eVar 1) aNil)) (eC (.int m)) [some (rowsL sp), some (lI p), some (.ref t), some (.int x), some (lI near), none]) S' = .ok (decide (m < (p.length : Int))) S' := fun m S' => asB_ok (eOp_ok (eCallV_ok (aCons_ok rfl rfl) len_lI) rfl pGt_ii)
      have tback : asB (eOp pIn (eOp pIx (eVar 1) (eC (.int 0))) (eOp pIx (eVar 0) (eVar 3)) [some (rowsL sp), some (lI p), some (.ref t), some (.int x), some (lI near), none]) Sk = .ok (adj x (at_ p 0)) Sk := asB_ok (eOp_ok (eOp_ok rfl rfl ix0) (eOp_ok rfl rfl (spl x hx.1 hx.2)) (by rw [in_lI, H.dec hx.1 hx.2]))
      by_cases c3 : 1 < p.length ∧ adj x (at_ p 0) = true
      · have tc : tAndM (fun δ => asB (eOp pGt (eCallV (pLen) (aCons (eVar 1) aNil)) (eC (.int 1)) δ)) (fun δ => asB (eOp pIn (eOp pIx (eVar 1) (eC (.int 0))) (eOp pIx (eVar 0) (eVar 3)) δ)) [some (rowsL sp), some (lI p), some (.ref t), some (.int x), some (lI near), none] Sk = .ok true Sk := tAnd_t ((tlen 1 Sk).trans (by rw [decide_eq_true (by omega)])) (tback.trans (by rw [c3.2]))
        have only : ∀ e, Closed adj (p ++ x :: e) → e = [] := fun e C => by
          apply Classical.byContradiction
          intro he
          have := far_of H.sym c3.1 he C
          rw [c3.2] at this; cases this
        by_cases c4 : 2 < p.length ∧ at_ p 1 < x
        · have C := closed_of H.sym W nx c4.1 c3.2 c4.2
          have td : tAndM (fun δ => asB (eOp pGt (eCallV (pLen) (aCons (eVar 1) aNil)) (eC (.int 2)) δ)) (fun δ => asB (eOp pLt (eOp pIx (eVar 1) (eC (.int 1))) (eVar 3) δ)) [some (rowsL sp), some (lI p), some (.ref t), some (.int x), some (lI near), none] Sk = .ok true Sk := tAnd_t ((tlen 2 Sk).trans (by rw [decide_eq_true (by omega)])) (asB_ok (eOp_ok (eOp_ok rfl rfl (ix1 (by omega))) rfl (by rw [pLt_ii, decide_eq_true c4.2])))
          have hpk := put_ok (mv := eC (.bl true)) (mo := eVar 2) (me := eCallV (pSortD) (aCons (eLst (aStar (eVar 1) (aCons (eVar 3) aNil))) aNil)) (δ := [some (rowsL sp), some (lI p), some (.ref t), some (.int x), some (lI near), none]) (S := Sk) (S1 := Sk) (S2 := Sk) (S3 := Sk) (v := .bl true) (t := t) (ks := srt (p ++ [x])) rfl rfl (eCallV_ok (aCons_ok (hlst Sk) rfl) (sort_ints (by simp; omega))) hcell (Nat.le_trans hk.len (Nat.le_trans (Nat.pow_le_pow_right (by omega) hn) (by decide))) (by rw [srt_perm.length_eq]; simp; omega)
          have eset : Sk.set t (some (.dT (putT kvs (srt (p ++ [x])) (.bl true)))) = S.set t (some (.dT (putT kvs (srt (p ++ [x])) (.bl true)))) := by rw [← hS, List.set_set]
          rw [eset] at hpk
          have pk := putT_keys (kvs := kvs) (k := srt (p ++ [x])) (v := .bl true)
          refine ⟨putT kvs (srt (p ++ [x])) (.bl true), some (lI near), .inr (sSeq_nx s1 (sSeq_nx a4 (sSeq_nx s3 (sSeq_ct (sIf_t tc (sSeq_nx (sIf_t td hpk) rfl)))))), ⟨pk.2 hk.nd, fun k hkk => ?_⟩, fun k => ?_⟩
          · rcases (pk.1 k).mp hkk with h | rfl
            · exact hk.ok k h
            · refine ⟨srt_asc C.nd, fun v hv => ?_⟩
              rcases List.mem_append.mp (srt_perm.mem_iff.mp hv) with h | h
              · exact hp v h
              · rw [List.mem_singleton.mp h]; exact hx
          · rw [pk.1 k]
            refine or_congr Iff.rfl ⟨fun e => ⟨[], C, e⟩, fun ⟨e, Ce, ek⟩ => ?_⟩
            rw [only e Ce] at ek; exact ek
        · have td : tAndM (fun δ => asB (eOp pGt (eCallV (pLen) (aCons (eVar 1) aNil)) (eC (.int 2)) δ)) (fun δ => asB (eOp pLt (eOp pIx (eVar 1) (eC (.int 1))) (eVar 3) δ)) [some (rowsL sp), some (lI p), some (.ref t), some (.int x), some (lI near), none] Sk = .ok false Sk := by
            by_cases c5 : 2 < p.length
            · exact tAnd_t ((tlen 2 Sk).trans (by rw [decide_eq_true (by omega)])) (asB_ok (eOp_ok (eOp_ok rfl rfl (ix1 (by omega))) rfl (by rw [pLt_ii, decide_eq_false fun z => c4 ⟨c5, z⟩])))
            · exact tAnd_f ((tlen 2 Sk).trans (by rw [decide_eq_false (by omega)]))
          refine ⟨kvs, some (lI near), .inr (by rw [hS]; exact sSeq_nx s1 (sSeq_nx a4 (sSeq_nx s3 (sSeq_ct (sIf_t tc (sSeq_nx (sIf_f td rfl) rfl)))))), hk, none_new fun e C => ?_⟩
          rw [only e C] at C
          obtain ⟨l1, _, l3⟩ := last_of hne C
          exact c4 ⟨l1, l3⟩
      · have tc : tAndM (fun δ => asB (eOp pGt (eCallV (pLen) (aCons (eVar 1) aNil)) (eC (.int 1)) δ)) (fun δ => asB (eOp pIn (eOp pIx (eVar 1) (eC (.int 0))) (eOp pIx (eVar 0) (eVar 3)) δ)) [some (rowsL sp), some (lI p), some (.ref t), some (.int x), some (lI near), none] Sk = .ok false Sk := by
          by_cases c5 : 1 < p.length
          · exact tAnd_t ((tlen 1 Sk).trans (by rw [decide_eq_true (by omega)])) (tback.trans (by cases h : adj x (at_ p 0) with | false => rfl | true => exact absurd ⟨c5, h⟩ c3))
          · exact tAnd_f ((tlen 1 Sk).trans (by rw [decide_eq_false (by omega)]))
        have hW : Walk adj (p ++ [x]) := W.snoc H.sym nx (by
          by_cases c5 : 1 < p.length
          · right
            cases h : adj x (at_ p 0) with
            | false => rfl
            | true => exact absurd ⟨c5, h⟩ c3
          · left; omega)
        obtain ⟨kvs', r1, r2, r3⟩ := hrec x hW t S kvs ht hk
        rw [hS] at r1
        refine ⟨kvs', some (lI near), .inl (sSeq_nx s1 (sSeq_nx a4 (sSeq_nx s3 (sSeq_nx (sIf_f tc rfl) (sExpr_ok (eCal_ok (aCons_ok rfl (aCons_ok (hlst Sk) (aCons_ok rfl rfl))) r1)))))), r2, fun k => ?_⟩
        rw [r3 k]
        refine or_congr Iff.rfl ⟨fun ⟨y, e, C, ek⟩ => ?_, fun ⟨e, C, ek⟩ => ?_⟩
        · rw [List.append_assoc] at C ek
          exact ⟨y :: e, C, ek⟩
        · cases e with
          | nil =>
            obtain ⟨l1, l2, _⟩ := last_of hne C
            exact absurd ⟨by omega, l2⟩ c3
          | cons y e =>
            refine ⟨y, e, ?_, ?_⟩
            · rw [List.append_assoc]; exact C
            · rw [List.append_assoc]; exact ek
    · refine ⟨kvs, some (lI near), .inr (by rw [hS]; exact sSeq_nx s1 (sSeq_nx a4 (sSeq_ct (sIf_t (tn.trans (by cases h : near with | nil => exact absurd h c2 | cons _ _ => rfl)) rfl)))), hk, none_new fun e C => ?_⟩
      have nx := next_of hne C
      cases h : near with
      | nil => exact c2 h
      | cons m l =>
        have hm : m ∈ near := by rw [h]; exact List.mem_cons_self ..
        obtain ⟨h1, h2⟩ := List.mem_filter.mp hm
        obtain ⟨i, i0, i1, rfl⟩ := mem_mid.mp h1
        rw [nx.far i i0 i1] at h2; cases h2
theorem grown_ev {n : Nat} {sp : Rw} {adj : Int → Int → Bool} {cal : Nat → List D → M D} {p : List Int} (H : Spots n sp adj) (W : Walk adj p) (hp : ∀ v ∈ p, 0 ≤ v ∧ v < n)
    (hrec : ∀ x : Int, Walk adj (p ++ [x]) → GrS n sp adj (cal 62) (p ++ [x])) : GrS n sp adj (funM 6 3 (b_grown cal)) p := by
  intro t S kvs ht hk
  have hne := W.ne
  have hn := H.n16
  have hlast := hp _ (at_mem (p := p) (i := p.length - 1) (by omega))
  have key : ∀ (zs : List Int), (∀ x ∈ zs, adj (at_ p (p.length - 1)) x = true) → ∀ kvs, KOk n kvs → ∀ o3 o4, ∃ kvs' o3' o4', loopF (gNm 3) (grBody cal) (zs.map D.int) [some (rowsL sp), some (lI p), some (.ref t), o3, o4, none] (S.set t (some (.dT kvs))) = .nx [some (rowsL sp), some (lI p), some (.ref t), o3', o4', none] (S.set t (some (.dT kvs'))) ∧ KOk n kvs' ∧ ∀ k, k ∈ Ks kvs' ↔ k ∈ Ks kvs ∨ ∃ x ∈ zs, New adj p x k := by
    intro zs
    induction zs with
    | nil => intro _ kvs hk o3 o4; exact ⟨kvs, o3, o4, rfl, hk, fun k => by simp⟩
    | cons x zs ih =>
      intro hz kvs hk o3 o4
      obtain ⟨kvs1, o4', hb, hk1, h1⟩ := body_ev H W hp hrec (hz x (List.mem_cons_self ..)) ht hk o4
      obtain ⟨kvs2, o3'', o4'', hl, hk2, h2⟩ := ih (fun y hy => hz y (List.mem_cons_of_mem _ hy)) kvs1 hk1 (some (.int x)) o4'
      refine ⟨kvs2, o3'', o4'', ?_, hk2, fun k => ?_⟩
      · rw [List.map_cons]
        rcases hb with hb | hb
        · rw [loop_nx rfl hb]; exact hl
        · rw [loop_ct rfl hb]; exact hl
      · rw [h2 k, h1 k]
        constructor
        · rintro ((h | h) | ⟨y, hy, h⟩)
          · exact .inl h
          · exact .inr ⟨x, List.mem_cons_self .., h⟩
          · exact .inr ⟨y, List.mem_cons_of_mem _ hy, h⟩
        · rintro (h | ⟨y, hy, h⟩)
          · exact .inl (.inl h)
          · rcases List.mem_cons.mp hy with rfl | hy
            · exact .inl (.inr h)
            · exact .inr ⟨y, hy, h⟩
  obtain ⟨kvs', o3, o4, hl, hk', h⟩ := key (sp.getD (at_ p (p.length - 1)).toNat []) (fun x hx => (H.mem _ _ hlast.1 hlast.2).mpr hx) kvs hk none none
  refine ⟨kvs', ?_, hk', fun k => ?_⟩
  · rw [grown_eq]
    exact funM_nx rfl (sFor_ok (iAny_ok (eOp_ok rfl (eOp_ok rfl (eUn_ok rfl rfl) (ix_last hne)) (ix_rL hlast.1 (by rw [H.len]; exact hlast.2))) rfl) hl)
  · rw [h k]
    refine or_congr Iff.rfl ⟨fun ⟨x, _, h⟩ => ⟨x, h⟩, fun ⟨x, h⟩ => ⟨x, ?_, h⟩⟩
    obtain ⟨e, C, _⟩ := h
    exact (H.mem _ _ hlast.1 hlast.2).mp (next_of hne C).ad
end Rg
/-! # rings: places of a table -/
namespace Rg
open PySem PySem.W L2 Ev Bd Sp
def bit (R : Rw) (r c : Int) : Bool := (R.getD r.toNat []).getD c.toNat 0 == 1
def adjR (h w : Nat) (R : Rw) (a b : Int) : Bool :=
  (decide (0 ≤ a ∧ a < h ∧ (h : Int) ≤ b ∧ b < h + w) && bit R a (b - h)) || (decide (0 ≤ b ∧ b < h ∧ (h : Int) ≤ a ∧ a < h + w) && bit R b (a - h))
theorem adj_sym {h w : Nat} {R : Rw} (a b : Int) : adjR h w R a b = adjR h w R b a := by unfold adjR; rw [Bool.or_comm]
theorem adj_iff {h w : Nat} {R : Rw} {a b : Int} : adjR h w R a b = true ↔ (0 ≤ a ∧ a < h ∧ (h : Int) ≤ b ∧ b < h + w ∧ bit R a (b - h) = true) ∨ (0 ≤ b ∧ b < h ∧ (h : Int) ≤ a ∧ a < h + w ∧ bit R b (a - h) = true) := by
  unfold adjR
  simp only [Bool.or_eq_true, Bool.and_eq_true, decide_eq_true_eq, and_assoc]
def side (h : Nat) (a : Int) : Bool := decide (a < h)
theorem adj_side {h w : Nat} {R : Rw} (a b : Int) (e : adjR h w R a b = true) : side h a ≠ side h b := by
  unfold side
  rcases adj_iff.mp e with ⟨h1, h2, h3, h4, _⟩ | ⟨h1, h2, h3, h4, _⟩
  · rw [decide_eq_true h2, decide_eq_false (by omega)]; simp
  · rw [decide_eq_true h2, decide_eq_false (by omega)]; simp
theorem adj_irr {h w : Nat} {R : Rw} (a : Int) : adjR h w R a a = false := by
  cases e : adjR h w R a a with
  | false => rfl
  | true => exact absurd rfl (adj_side a a e)
def spotsL (h w : Nat) (R : Rw) : Rw := ((rng h).map fun r => ((rng w).filter fun c => bit R r c).map fun c => (h : Int) + c) ++ (rng w).map fun c => (rng h).filter fun r => bit R r c
theorem rng_at {n k : Nat} (h : k < n) : (rng n)[k]? = some (k : Int) := by simp [rng, h]
theorem spots_ok {h w : Nat} {R : Rw} (h8 : h ≤ 8) (w8 : w ≤ 8) : Spots (h + w) (spotsL h w R) (adjR h w R) := by
  refine ⟨by simp [spotsL, rng_length], by omega, fun r hr => ?_, fun a b h0 h1 => ?_, fun a b e => ?_, adj_sym⟩
  · rcases List.mem_append.mp hr with hr | hr
    · obtain ⟨x, _, rfl⟩ := List.mem_map.mp hr
      have := List.length_filter_le (fun c => bit R x c) (rng w)
      rw [rng_length] at this
      simp; omega
    · obtain ⟨x, _, rfl⟩ := List.mem_map.mp hr
      have := List.length_filter_le (fun r => bit R r x) (rng h)
      rw [rng_length] at this
      omega
  · rw [adj_iff, List.getD_eq_getElem?_getD]
    unfold spotsL
    by_cases ha : a < h
    · rw [List.getElem?_append_left (by simp [rng_length]; omega), List.getElem?_map, rng_at (by omega), Option.map_some, Option.getD_some, Int.toNat_of_nonneg h0]
      constructor
      · rintro (⟨_, _, h3, h4, h5⟩ | ⟨_, _, h3, _⟩)
        · exact List.mem_map.mpr ⟨b - h, List.mem_filter.mpr ⟨mem_rng.mpr (by omega), h5⟩, by omega⟩
        · omega
      · intro hm
        obtain ⟨c, hc, rfl⟩ := List.mem_map.mp hm
        obtain ⟨h2, h3⟩ := List.mem_filter.mp hc
        have := mem_rng.mp h2
        exact .inl ⟨h0, ha, by omega, by omega, by rw [show (h : Int) + c - h = c by omega]; exact h3⟩
    · have hal : ((rng h).map fun r => ((rng w).filter fun c => bit R r c).map fun c => (h : Int) + c).length = h := by simp [rng_length]
      rw [List.getElem?_append_right (by rw [hal]; omega), hal, List.getElem?_map, rng_at (by omega), Option.map_some, Option.getD_some, show ((a.toNat - h : Nat) : Int) = a - h by omega]
      constructor
      · rintro (⟨_, h2, _⟩ | ⟨h1, h2, h3, h4, h5⟩)
        · omega
        · exact List.mem_filter.mpr ⟨mem_rng.mpr ⟨h1, h2⟩, h5⟩
      · intro hm
        obtain ⟨h2, h3⟩ := List.mem_filter.mp hm
        have := mem_rng.mp h2
        exact .inr ⟨this.1, this.2, by omega, by omega, h3⟩
  · rcases adj_iff.mp e with ⟨h1, h2, h3, h4, _⟩ | ⟨h1, h2, h3, h4, _⟩ <;> omega
section
variable {cal : Nat → List D → M D} {S : Store}
theorem tru_bit {R : Rw} {w : Nat} (g : G01 w R) {r c : Int} (h0 : 0 ≤ r) (h1 : r < R.length) (c0 : 0 ≤ c) (c1 : c < w) {δ : En} {ma mb mc : ME} (ha : ma δ S = .ok (rowsT R) S) (hb : mb δ S = .ok (.int r) S) (hc : mc δ S = .ok (.int c) S) : tru (eOp pIx (eOp pIx ma mb) mc δ) S = .ok (bit R r c) S := by
  have hr : R.getD r.toNat [] ∈ R := by
    rw [List.getD_eq_getElem?_getD, List.getElem?_eq_getElem (show r.toNat < R.length by omega)]
    exact List.getElem_mem _
  have gr := g _ hr
  refine tru_ok (eOp_ok (eOp_ok ha hb (ix_rT h0 h1)) hc (ix_tI c0 (by rw [gr.1]; exact c1))) ?_
  have hv := gr.2 _ (gmem (l := R.getD r.toNat []) (k := c.toNat) (by rw [gr.1]; omega))
  unfold bit
  rcases hv with hv | hv <;> rw [hv] <;> rfl
theorem spots_ev {h w : Nat} {R : Rw} (F : Full h w R) : funM 6 1 (b_spots_of cal) [rowsT R] S = .ok (rowsL (spotsL h w R)) S := by
  have hh := F.len
  have h8 := F.h2
  have w8 := F.w2
  have hR0 : 0 < R.length := by rw [F.len]; exact F.h1
  have w0 : (R.getD 0 []).length = w := by
    rw [List.getD_eq_getElem?_getD, List.getElem?_eq_getElem hR0]
    exact (F.g _ (List.getElem_mem hR0)).1
  have e1 := lc_mapE (S := S) (me := eLc newL (iR1 (aCons (eVar 2) aNil)) (uNm 4) (fun δ => tru ((eOp pIx (eOp pIx (eVar 0) (eVar 5)) (eVar 4)) δ)) (eOp pAdd (eVar 1) (eVar 4)) [4]) (δ0 := wipeD [some (rowsT R), some (.int h), some (.int w), none, none, none] [5]) (k := 5) D.int lI (fun r => ((rng w).filter fun c => bit R r c).map fun c => (h : Int) + c) (zs := rng h) (by rw [rng_length]; exact small (by omega)) (fun r hr => by
    have hr := mem_rng.mp hr
    have e := lc_filE (S := S) (mt := fun δ => tru ((eOp pIx (eOp pIx (eVar 0) (eVar 5)) (eVar 4)) δ)) (me := eOp pAdd (eVar 1) (eVar 4)) (δ0 := wipeD [some (rowsT R), some (.int h), some (.int w), none, none, some (.int r)] [4]) (k := 4) D.int D.int (fun c => bit R r c) (fun c => (h : Int) + c) (zs := rng w) (by rw [rng_length]; exact small (by omega)) (fun c hc => by
      have hc := mem_rng.mp hc
      exact tru_bit F.g hr.1 (by omega) hc.1 hc.2 rfl rfl rfl) (fun c hc _ => eOp_ok rfl rfl pAdd_ii)
    rw [show (rng w).map D.int = rngD 0 w from rngD_eq.symm] at e
    have hl := List.length_filter_le (fun c => bit R r c) (rng w)
    rw [rng_length] at hl
    exact eLc_ok (iR1_ok (k := w) (aCons_ok rfl rfl) (by omega)) e (newL_ev (by rw [List.length_map, List.length_map]; exact small (by omega))))
  rw [show (rng h).map D.int = rngD 0 h from rngD_eq.symm] at e1
  have e2 := lc_mapE (S := S) (me := eLc newL (iR1 (aCons (eVar 1) aNil)) (uNm 5) (fun δ => tru ((eOp pIx (eOp pIx (eVar 0) (eVar 5)) (eVar 4)) δ)) (eVar 5) [5]) (δ0 := wipeD [some (rowsT R), some (.int h), some (.int w), some (rowsL ((rng h).map fun r => ((rng w).filter fun c => bit R r c).map fun c => (h : Int) + c)), none, none] [4]) (k := 4) D.int lI (fun c => (rng h).filter fun r => bit R r c) (zs := rng w) (by rw [rng_length]; exact small (by omega)) (fun c hc => by
    have hc := mem_rng.mp hc
    have e := lc_filE (S := S) (mt := fun δ => tru ((eOp pIx (eOp pIx (eVar 0) (eVar 5)) (eVar 4)) δ)) (me := eVar 5) (δ0 := wipeD [some (rowsT R), some (.int h), some (.int w), some (rowsL ((rng h).map fun r => ((rng w).filter fun c => bit R r c).map fun c => (h : Int) + c)), some (.int c), none] [5]) (k := 5) D.int D.int (fun r => bit R r c) id (zs := rng h) (by rw [rng_length]; exact small (by omega)) (fun r hr => by
      have hr := mem_rng.mp hr
      exact tru_bit F.g hr.1 (by omega) hc.1 hc.2 rfl rfl rfl) (fun r hr _ => rfl)
    rw [List.map_id, show (rng h).map D.int = rngD 0 h from rngD_eq.symm] at e
    have hl := List.length_filter_le (fun r => bit R r c) (rng h)
    rw [rng_length] at hl
    exact eLc_ok (iR1_ok (k := h) (aCons_ok rfl rfl) (by omega)) e (newL_ev (by rw [List.length_map]; exact small (by omega))))
  rw [show (rng w).map D.int = rngD 0 w from rngD_eq.symm] at e2
  unfold b_spots_of
  refine funM_rt rfl (sSeq_nx (sAsg_ok (eTup_ok (aCons_ok (eCallV_ok (aCons_ok rfl rfl) (by rw [len_rT, hh])) (aCons_ok (eCallV_ok (aCons_ok (eOp_ok rfl rfl (ix_rT (by omega) (by omega))) rfl) (by rw [show (0 : Int).toNat = 0 from rfl, len_tI, w0])) rfl)) (small (by simp))) (gTp2_ok rfl rfl)) (sSeq_nx (sAsg_ok (eLc_ok (iR1_ok (k := h) (aCons_ok rfl rfl) (by omega)) e1 (newL_ev (by rw [List.length_map, List.length_map, rng_length]; exact small (by omega)))) rfl) (sRet_ok (eOp_ok rfl (eLc_ok (iR1_ok (k := w) (aCons_ok rfl rfl) (by omega)) e2 (newL_ev (by rw [List.length_map, List.length_map, rng_length]; exact small (by omega)))) ?_))))
  rw [add_ll (by simp [rng_length]; exact small (by omega)), ← List.map_append]
  rfl
end
/-! ### what the search finds -/
/-- an odd ring, as a pair -/
structure Ring (h w : Nat) (R : Rw) (q : List Int × List Int) : Prop where
  eq : q.1.length = q.2.length
  odd : q.1.length % 2 = 1
  gt : 2 < q.1.length
  asc1 : Asc q.1
  asc2 : Asc q.2
  rg1 : ∀ i ∈ q.1, 0 ≤ i ∧ i < h
  rg2 : ∀ k ∈ q.2, 0 ≤ k ∧ k < w
  cyc : ∃ c, Closed (adjR h w R) c ∧ c.Perm (q.1 ++ q.2.map fun k => k + (h : Int))
def toRing (h : Nat) (k : List Int) : List Int × List Int := (k.take (k.length / 2), (k.drop (k.length / 2)).map fun x => x - (h : Int))
def oddK (k : List Int) : Bool := decide (2 < k.length / 2) && decide (k.length / 2 % 2 = 1)
theorem asc_nodup {l : List Int} (h : Asc l) : l.Nodup := List.Pairwise.imp (fun h e => by omega) h
theorem asc_perm {l m : List Int} (h1 : Asc l) (h2 : Asc m) (hp : l.Perm m) : l = m := by
  refine List.Perm.eq_of_pairwise (le := (· < ·)) (fun a b _ _ h1 h2 => by omega) h1 h2 hp
theorem asc_joined {h : Nat} {I J : List Int} (h1 : Asc I) (h2 : Asc J) (r1 : ∀ i ∈ I, 0 ≤ i ∧ i < h) (r2 : ∀ k ∈ J, 0 ≤ k) : Asc (I ++ J.map fun k => k + (h : Int)) := by
  unfold Asc
  rw [List.pairwise_append]
  refine ⟨h1, ?_, fun a ha b hb => ?_⟩
  · rw [List.pairwise_map]; exact List.Pairwise.imp (fun h => by omega) h2
  · obtain ⟨k, hk, rfl⟩ := List.mem_map.mp hb
    have := r1 a ha
    have := r2 k hk
    omega
/-- a sorted ring: rows first, half of it -/
theorem ring_of {h w : Nat} {R : Rw} {c : List Int} (C : Closed (adjR h w R) c) (hr : ∀ v ∈ c, 0 ≤ v ∧ v < h + w) (h0 : at_ c 0 < h) : (∀ i ∈ (toRing h (srt c)).1, 0 ≤ i ∧ i < h) ∧ (∀ k ∈ (toRing h (srt c)).2, 0 ≤ k ∧ k < w) ∧ Asc (toRing h (srt c)).1 ∧ Asc (toRing h (srt c)).2 ∧ (toRing h (srt c)).1.length = (toRing h (srt c)).2.length ∧ (toRing h (srt c)).1.length = c.length / 2 ∧ srt c = (toRing h (srt c)).1 ++ ((toRing h (srt c)).2.map fun k => k + (h : Int)) := by
  have hhalf := closed_half C (side := side h) adj_side
  have hs0 : side h (at_ c 0) = true := decide_eq_true h0
  rw [hs0] at hhalf
  have hasc := srt_asc C.nd
  -- the rows of the sorted ring are its first half
  have hcnt : ((srt c).filter fun v => decide (v < (h : Int))).length * 2 = (srt c).length := by
    rw [(srt_perm.filter _).length_eq, srt_perm.length_eq]
    have : (fun v : Int => side h v == true) = fun v => decide (v < (h : Int)) := by funext v; simp [side]
    rw [this] at hhalf; exact hhalf
  have split : ∀ (l : List Int), Asc l → l = (l.filter fun v => decide (v < (h : Int))) ++ l.filter fun v => !decide (v < (h : Int)) := by
    intro l
    induction l with
    | nil => intro _; rfl
    | cons x l ih =>
      intro ha
      have ha' := List.pairwise_cons.mp ha
      by_cases hx : x < (h : Int)
      · simp only [List.filter_cons, decide_eq_true hx, if_true, Bool.not_true, Bool.false_eq_true, if_false, List.cons_append]
        rw [← ih ha'.2]
      · have hall : ∀ y ∈ l, ¬ y < (h : Int) := fun y hy => by have := ha'.1 y hy; omega
        have e1 : (l.filter fun v => decide (v < (h : Int))) = [] := List.filter_eq_nil_iff.mpr fun y hy => by simp; have := hall y hy; omega
        have e2 : (l.filter fun v => !decide (v < (h : Int))) = l := List.filter_eq_self.mpr fun y hy => by simp; have := hall y hy; omega
        simp only [List.filter_cons, decide_eq_false hx, Bool.false_eq_true, if_false, Bool.not_false, if_true, e1, e2, List.nil_append]
  have hsp := split (srt c) hasc
  have htk : (srt c).take ((srt c).length / 2) = (srt c).filter fun v => decide (v < (h : Int)) := by
    have : (srt c).length / 2 = ((srt c).filter fun v => decide (v < (h : Int))).length := by omega
    rw [this]
    conv => lhs; rw [hsp]
    simp
  have hdr : (srt c).drop ((srt c).length / 2) = (srt c).filter fun v => !decide (v < (h : Int)) := by
    have : (srt c).length / 2 = ((srt c).filter fun v => decide (v < (h : Int))).length := by omega
    rw [this]
    conv => lhs; rw [hsp]
    simp
  have mem : ∀ v ∈ srt c, 0 ≤ v ∧ v < h + w := fun v hv => hr v (srt_perm.mem_iff.mp hv)
  have hlen : (srt c).length = c.length := srt_perm.length_eq
  refine ⟨fun i hi => ?_, fun k hk => ?_, ?_, ?_, ?_, ?_, ?_⟩
  · rw [toRing, htk] at hi
    obtain ⟨h1, h2⟩ := List.mem_filter.mp hi
    have := mem i h1
    simp at h2; omega
  · rw [toRing, hdr] at hk
    obtain ⟨x, hx, rfl⟩ := List.mem_map.mp hk
    obtain ⟨h1, h2⟩ := List.mem_filter.mp hx
    have := mem x h1
    simp at h2; omega
  · exact List.Pairwise.sublist (List.take_sublist _ _) hasc
  · show Asc (((srt c).drop _).map _)
    unfold Asc
    rw [List.pairwise_map]
    exact List.Pairwise.imp (fun h => by omega) (List.Pairwise.sublist (List.drop_sublist _ _) hasc)
  · simp only [toRing, List.length_take, List.length_map, List.length_drop]; omega
  · simp only [toRing, List.length_take]; omega
  · simp only [toRing, List.map_map]
    have : ((srt c).drop ((srt c).length / 2)).map ((fun k => k + (h : Int)) ∘ fun x => x - (h : Int)) = (srt c).drop ((srt c).length / 2) := by
      conv => rhs; rw [← List.map_id ((srt c).drop ((srt c).length / 2))]
      refine List.map_congr_left fun x _ => ?_
      simp
    rw [this, List.take_append_drop]
theorem closed_rg {h w : Nat} {R : Rw} {c : List Int} (C : Closed (adjR h w R) c) : (∀ v ∈ c, 0 ≤ v ∧ v < h + w) ∧ at_ c 0 < h := by
  have h4 := C.len
  have rg : ∀ {a b : Int}, adjR h w R a b = true → (0 ≤ a ∧ a < h + w) ∧ (0 ≤ b ∧ b < h + w) := fun e => by
    rcases adj_iff.mp e with ⟨h1, h2, h3, h4, _⟩ | ⟨h1, h2, h3, h4, _⟩ <;> omega
  refine ⟨fun v hv => ?_, ?_⟩
  · obtain ⟨i, hi, rfl⟩ := mem_at hv
    by_cases hi' : i + 1 < c.length
    · exact (rg (C.nxt i hi')).1
    · have := (rg (C.nxt (i - 1) (by omega))).2
      rwa [show i - 1 + 1 = i by omega] at this
  · have h1 := C.nxt 0 (by omega)
    have h2 := C.min 1 (by omega) (by omega)
    rcases adj_iff.mp h1 with ⟨_, h3, _⟩ | ⟨_, h3, h4, _⟩
    · exact h3
    · simp only [Nat.zero_add] at h3; omega
/-- the pairs of the keys are just the odd rings -/
theorem rings_mem {h w : Nat} {R : Rw} {q : List Int × List Int} : (∃ c, Closed (adjR h w R) c ∧ oddK (srt c) = true ∧ q = toRing h (srt c)) ↔ Ring h w R q := by
  constructor
  · rintro ⟨c, C, ho, rfl⟩
    obtain ⟨rg, r0⟩ := closed_rg C
    obtain ⟨t1, t2, t3, t4, t5, t6, t7⟩ := ring_of C rg r0
    unfold oddK at ho
    rw [srt_perm.length_eq] at ho
    simp only [Bool.and_eq_true, decide_eq_true_eq] at ho
    exact ⟨t5, by omega, by omega, t3, t4, t1, t2, c, C, by rw [← t7]; exact srt_perm.symm⟩
  · intro Q
    obtain ⟨c, C, hp⟩ := Q.cyc
    have hasc := asc_joined Q.asc1 Q.asc2 Q.rg1 fun k hk => (Q.rg2 k hk).1
    have e : srt c = q.1 ++ q.2.map fun k => k + (h : Int) := asc_perm (srt_asc C.nd) hasc (srt_perm.trans hp)
    have hl : (q.1 ++ q.2.map fun k => k + (h : Int)).length / 2 = q.1.length := by
      have := Q.eq
      simp; omega
    refine ⟨c, C, ?_, ?_⟩
    · unfold oddK
      rw [e, hl]
      have := Q.gt
      have := Q.odd
      simp; omega
    · unfold toRing
      rw [e, hl]
      refine Prod.ext ?_ ?_
      · simp
      · simp only [List.drop_left', List.map_map]
        conv => lhs; rw [← List.map_id q.2]
        refine List.map_congr_left fun x _ => ?_
        simp
end Rg
/-! # rings: order -/
namespace Rg
open PySem PySem.W PyProof.Rows L2 Ev Bd Sp
abbrev Pq := List Int × List Int
def ringD (q : Pq) : D := .tup [tI q.1, tI q.2]
def keyQ (q : Pq) : D := .tup [.int q.1.length, ringD q]
def pyT (l : List Int) : PyData := .tuple (l.map .int)
def keyP (q : Pq) : PyData := .tuple [.int q.1.length, .tuple [pyT q.1, pyT q.2]]
def LtQ (a b : Pq) : Prop := a.1.length < b.1.length ∨ (a.1.length = b.1.length ∧ (a.1 < b.1 ∨ (a.1 = b.1 ∧ a.2 < b.2)))
theorem alike_i : ∀ xs ys : List Int, alikeAll (xs.map .int) (ys.map .int) = true
  | [], _ => by simp [alikeAll]
  | _ :: _, [] => by simp [alikeAll]
  | x :: xs, y :: ys => by simp [alikeAll, alike, alike_i xs ys]
theorem alike_t (a b : List Int) : alike (pyT a) (pyT b) = true := by simp only [pyT, alike, alike_i]
theorem eqvAll_i : ∀ xs ys : List Int, PyData.eqvAll (xs.map .int) (ys.map .int) = decide (xs = ys)
  | [], [] => by simp [PyData.eqvAll]
  | [], _ :: _ => by simp [PyData.eqvAll]
  | _ :: _, [] => by simp [PyData.eqvAll]
  | x :: xs, y :: ys => by
    simp only [List.map_cons, PyData.eqvAll, PyData.eqv, eqvAll_i xs ys]
    by_cases h : x = y <;> by_cases h2 : xs = ys <;> simp [h, h2]
theorem eqv_t (a b : List Int) : PyData.eqv (pyT a) (pyT b) = decide (a = b) := by simp only [pyT, PyData.eqv, eqvAll_i]
theorem lt_t (a b : List Int) : dataLt (pyT a) (pyT b) = decide (a < b) := by
  unfold pyT
  rw [dataLt_tuple]
  exact dataLt_ints a b
theorem alike_q (a b : Pq) : alike (.tuple [pyT a.1, pyT a.2]) (.tuple [pyT b.1, pyT b.2]) = true := by
  simp [alike, alikeAll, alike_t]
theorem alike_k (a b : Pq) : alike (keyP a) (keyP b) = true := by
  simp [keyP, alike, alikeAll, alike_t]
theorem lt_q (a b : Pq) : dataLt (keyP a) (keyP b) = true ↔ LtQ a b := by
  unfold keyP LtQ
  rw [dataLt_pair (by simp [alike]) (alike_q a b), dataLt_pair (alike_t _ _) (alike_t _ _), dataLt_int, lt_t, lt_t]
  have e1 : PyData.eqv (.int (a.1.length : Int)) (.int (b.1.length : Int)) = decide (a.1.length = b.1.length) := by
    simp only [PyData.eqv]
    by_cases h : a.1.length = b.1.length
    · simp [h]
    · simp [h]; omega
  have e2 : PyData.eqv (.tuple [pyT a.1, pyT a.2]) (.tuple [pyT b.1, pyT b.2]) = (decide (a.1 = b.1) && decide (a.2 = b.2)) := by
    simp [PyData.eqv, PyData.eqvAll, eqv_t]
  rw [e1, e2, eqv_t, eqv_t]
  have hirr : ∀ l : List Int, ¬ l < l := fun l => List.lt_irrefl l
  by_cases h1 : a.1.length = b.1.length
  · by_cases h2 : a.1 = b.1
    · by_cases h3 : a.2 = b.2
      · simp [h2, h3, hirr]
      · simp [h2, h3, hirr]
    · simp [h1, h2]
  · have : (a.1.length : Int) < b.1.length ↔ a.1.length < b.1.length := by omega
    simp [h1, this]
def leR (a b : Pq) : Bool := dataLe false keyP a b
theorem le_q (a b : Pq) : leR a b = true ↔ ¬ LtQ b a := by
  unfold leR
  rw [dataLe_eq]
  simp only [cond_false]
  rw [← lt_q]
  cases dataLt (keyP b) (keyP a) <;> simp
theorem ltQ_asymm {a b : Pq} (h : LtQ a b) : ¬ LtQ b a := by
  unfold LtQ at *
  intro h'
  rcases h with h | ⟨h1, h | ⟨h2, h⟩⟩ <;> rcases h' with h' | ⟨h1', h' | ⟨h2', h'⟩⟩
  · omega
  · omega
  · omega
  · omega
  · exact List.lt_asymm h h'
  · rw [h2'] at h; exact List.lt_irrefl _ h
  · omega
  · rw [h2] at h'; exact List.lt_irrefl _ h'
  · exact List.lt_asymm h h'
theorem lst_tri (a b : List Int) : a < b ∨ a = b ∨ b < a := by
  by_cases h1 : a < b
  · exact .inl h1
  · by_cases h2 : b < a
    · exact .inr (.inr h2)
    · exact .inr (.inl (List.le_antisymm (List.not_lt.mp h2) (List.not_lt.mp h1)))
theorem q_eq {a b : Pq} (h1 : ¬ LtQ a b) (h2 : ¬ LtQ b a) : a = b := by
  unfold LtQ at *
  have hl : a.1.length = b.1.length := by omega
  have e1 : a.1 = b.1 := by
    rcases lst_tri a.1 b.1 with h | h | h
    · exact absurd (.inr ⟨hl, .inl h⟩) h1
    · exact h
    · exact absurd (.inr ⟨hl.symm, .inl h⟩) h2
  have e2 : a.2 = b.2 := by
    rcases lst_tri a.2 b.2 with h | h | h
    · exact absurd (.inr ⟨hl, .inr ⟨e1, h⟩⟩) h1
    · exact h
    · exact absurd (.inr ⟨hl.symm, .inr ⟨e1.symm, h⟩⟩) h2
  exact Prod.ext e1 e2
def srtR (L : List Pq) : List Pq := L.mergeSort leR
theorem srtR_perm {L : List Pq} : (srtR L).Perm L := List.mergeSort_perm _ _
theorem srtR_sorted {L : List Pq} : (srtR L).Pairwise fun a b => leR a b = true := by
  have T := sortLe_total (listOrd itemOrd) false (fun b : Pq => keyToks (keyP b))
  exact List.pairwise_mergeSort (fun a b c h1 h2 => T.trans a b c h1 h2) (fun a b => by simpa using T.total a b) L
/-- a list in order that has the same members is just the sorted one -/
theorem srtR_eq {L M : List Pq} (hL : L.Nodup) (hM : M.Pairwise LtQ) (hm : ∀ q, q ∈ L ↔ q ∈ M) : srtR L = M := by
  have hMn : M.Nodup := List.Pairwise.imp (fun h e => by subst e; exact ltQ_asymm h h) hM
  have hp : (srtR L).Perm M := srtR_perm.trans ((List.perm_ext_iff_of_nodup hL hMn).mpr hm)
  refine List.Perm.eq_of_pairwise (le := fun a b => leR a b = true) (fun a b _ _ h1 h2 => q_eq (fun h => (le_q b a).mp h2 h) fun h => (le_q a b).mp h1 h) srtR_sorted ?_ hp
  exact List.Pairwise.imp (fun h => (le_q _ _).mpr (ltQ_asymm h)) hM
end Rg
/-! # rings: rings_of walked -/
namespace Rg
open PySem PySem.W PyProof.Rows L2 Ev Bd Sp
/-- what was there stays -/
def Keep (S S' : Store) : Prop := S.length ≤ S'.length ∧ ∀ j, j < S.length → S'[j]? = S[j]?
theorem Keep.refl {S : Store} : Keep S S := ⟨Nat.le_refl _, fun _ _ => rfl⟩
theorem Keep.trans {S S1 S2 : Store} (h : Keep S S1) (h2 : Keep S1 S2) : Keep S S2 := ⟨Nat.le_trans h.1 h2.1, fun j hj => (h2.2 j (Nat.lt_of_lt_of_le hj h.1)).trans (h.2 j hj)⟩
theorem Keep.app {S X : Store} : Keep S (S ++ X) := ⟨by simp, fun j hj => List.getElem?_append_left hj⟩
theorem Keep.set {S S' : Store} {j : Nat} {x : Option Cell} (h : Keep S S') (hj : S.length ≤ j) : Keep S (S'.set j x) := ⟨by simpa using h.1, fun i hi => by rw [List.getElem?_set_ne (by omega)]; exact h.2 i hi⟩
theorem Keep.at {S S' : Store} {J : List D → Prop} {t : Nat} (h : Keep S S') (a : At J t S) : At J t S' := by
  obtain ⟨c, h1, h2⟩ := a
  exact ⟨c, by rw [h.2 t (List.getElem?_eq_some_iff.mp h1).1]; exact h1, h2⟩
section
variable {S S1 S2 : Store} {δ : En} {ma mo : ME} {m : Nat} {xs : List D}
theorem cut_takeT (h : mo δ S = .ok (.tup xs) S1) (h2 : ma δ S1 = .ok (.int m) S2) (hl : xs.length ≤ sizeLine) : eCut mo none (some ma) δ S = .ok (.tup (xs.take m)) S2 := by
  have hl' : (xs.take m).length ≤ sizeLine := Nat.le_trans (by simp; omega) hl
  simp only [eCut, M.bind, h, oPart, M.pure, h2, lft, pCut, cutD_take, newT_ev hl']
theorem cutD_drop : Ev.cutD xs (some (m : Int)) none = xs.drop m := by
  unfold Ev.cutD
  rw [HT.sIx_nat, HT.sIx_none]
  by_cases h : m ≤ xs.length
  · rw [Nat.min_eq_left h]
    exact List.take_of_length_le (by simp)
  · rw [Nat.min_eq_right (by omega), List.drop_length, List.drop_eq_nil_of_le (by omega)]; simp
theorem cut_dropT (h : mo δ S = .ok (.tup xs) S1) (h2 : ma δ S1 = .ok (.int m) S2) (hl : xs.length ≤ sizeLine) : eCut mo (some ma) none δ S = .ok (.tup (xs.drop m)) S2 := by
  have hl' : (xs.drop m).length ≤ sizeLine := Nat.le_trans (by simp) hl
  simp only [eCut, M.bind, h, oPart, M.pure, h2, lft, pCut, cutD_drop, newT_ev hl']
end
theorem toPs_t : ∀ l : List Pq, toPs (l.map keyQ) = some (l.map keyP)
  | [] => rfl
  | q :: l => by
    have e3 : toP (keyQ q) = some (keyP q) := by
      unfold keyQ ringD keyP pyT
      simp only [toP, toPs, toPs_ints, Option.bind_some, Option.map_some]
    simp only [List.map_cons, toPs, e3, toPs_t l, Option.bind_some, Option.map_some]
theorem sortOk_q (L : List Pq) : sortOk (L.map keyP) = true := by
  unfold sortOk
  simp only [Bool.and_eq_true, Bool.or_eq_true, List.all_eq_true]
  refine ⟨⟨fun p hp q hq => ?_, .inl fun p hp => ?_⟩, fun p hp => ?_⟩
  · obtain ⟨i, _, rfl⟩ := List.mem_map.mp hp
    obtain ⟨j, _, rfl⟩ := List.mem_map.mp hq
    exact alike_k i j
  · obtain ⟨i, _, rfl⟩ := List.mem_map.mp hp
    rfl
  · obtain ⟨i, _, rfl⟩ := List.mem_map.mp hp
    have d1 : ∀ l : List Int, (pyT l).depth ≤ 2 := fun l => by
      unfold pyT
      simp only [PyData.depth]
      have := depthAll_le (d := 1) (ps := l.map PyData.int) fun p hp => by
        obtain ⟨i, _, rfl⟩ := List.mem_map.mp hp
        simp [PyData.depth]
      omega
    have h1 := d1 i.1
    have h2 := d1 i.2
    have d2 : (keyP i).depth ≤ 60 := by
      unfold keyP
      simp only [PyData.depth, PyData.depthAll]
      omega
    exact decide_eq_true d2
theorem sortK_ev {m : List D → M D} {ma : ME} {δ : En} {S S1 : Store} {l : D} {L : List Pq} (h : ma δ S = .ok l S1) (hl : lstOf S1 l = some (L.map ringD)) (hn : L.length ≤ 1000000) (hm : ∀ q S, m [ringD q] S = .ok (keyQ q) S) : eSortK m ma δ S = .ok (.lst ((srtR L).map ringD)) S1 := by
  have hk : ∀ L : List Pq, keysM m (L.map ringD) S1 = .ok (L.map keyQ) S1 := by
    intro L
    induction L with
    | nil => rfl
    | cons q L ih => simp only [List.map_cons, keysM, M.bind, noX, hm, ih, M.pure]
  have hz : (L.map ringD).zip (L.map keyP) = L.map fun q => (ringD q, keyP q) := by
    clear hl hn
    induction L with
    | nil => rfl
    | cons q L ih => simp only [List.map_cons, List.zip_cons_cons, ih]
  have hs : sortBy ((L.map ringD).zip (L.map keyP)) = (srtR L).map ringD := by
    unfold sortBy srtR
    rw [hz]
    have e : (L.map fun q => (ringD q, keyP q)).mergeSort (dataLe false (·.2)) = (L.mergeSort leR).map fun q => (ringD q, keyP q) := by
      rw [List.map_mergeSort]
      intro a _ b _
      rfl
    rw [e, List.map_map]
    rfl
  have hc : sortOk (L.map keyP) = true ∧ (L.map ringD).length ≤ sizeLine := ⟨sortOk_q L, by rw [List.length_map]; exact small hn⟩
  simp only [eSortK, M.bind, h, sortKM, hl, hk, toPs_t]
  rw [if_pos hc, hs]
theorem length_first_ev {cal : Nat → List D → M D} {q : Pq} {S : Store} : funM 1 1 (b_length_first cal) [ringD q] S = .ok (keyQ q) S := by
  unfold b_length_first
  exact funM_rt rfl (sRet_ok (eTup_ok (aCons_ok (eCallV_ok (aCons_ok (eOp_ok (x := ringD q) rfl rfl (pIx_tup (k := 0) (xs := [tI q.1, tI q.2]) (by simp))) rfl) len_tI) (aCons_ok (x := ringD q) rfl rfl)) (small (by simp))))
def appBody : MS := (sSeq (sAsg (eOp pFdiv (eCallV (pLen) (aCons (eVar 6) aNil)) (eC (.int 2))) (gNm 7))
    (sIf (tAndM (fun δ => asB (eOp pGt (eVar 7) (eC (.int 2)) δ)) (fun δ => asB (eOp pEq (eOp pMod (eCallV pInt (aCons (eVar 7) aNil)) (eC (.int 2))) (eC (.int 1)) δ))) (sExpr (eMB "list" pAppend (eVar 5) (aCons (eTup (aCons (eCut (eVar 6) none (some (eVar 7))) (aCons (eCallV pTuple (aCons (eLc newL (iAny (eCut (eVar 6) (some (eVar 7)) none)) (uNm 8) tYesM (eOp pSub (eVar 8) (eVar 1)) [8]) aNil)) aNil))) aNil))) sNext))
theorem gTp3_ok {g1 g2 g3 : TGM} {a b c : D} {δ δ1 δ2 δ3 : En} {S S1 S2 S3 : Store} (h1 : g1 a δ S = some (δ1, S1)) (h2 : g2 b δ1 S1 = some (δ2, S2)) (h3 : g3 c δ2 S2 = some (δ3, S3)) : gTp 3 (gCs g1 (gCs g2 (gCs g3 gNl))) (.tup [a, b, c]) δ S = some (δ3, S3) := by
  simp [gTp, gCs, gNl, h1, h2, h3]
theorem keysV_ok {i n : Nat} {δ : En} {S : Store} {kvs : List (List Int × D)} (h1 : δ[i]? = some (some (.ref n))) (h2 : S[n]? = some (some (.dT kvs))) : iKeysV i δ S = .ok (kvs.map Ev.keyD) (S.set n none) := by simp only [iKeysV, h1, h2]
theorem rings_ev {cal : Nat → List D → M D} {h w : Nat} {R : Rw} {S : Store} (F : Full h w R) (h63 : ∀ S, cal 63 [rowsT R] S = .ok (rowsL (spotsL h w R)) S) (h62 : ∀ r : Int, 0 ≤ r → r < h → GrS (h + w) (spotsL h w R) (adjR h w R) (cal 62) [r]) (h61 : ∀ q S, cal 61 [ringD q] S = .ok (keyQ q) S) :
    ∃ L S', funM 9 1 (b_rings_of cal) [rowsT R] S = .ok (.lst ((srtR L).map ringD)) S' ∧ Keep S S' ∧ L.Nodup ∧ ∀ q, q ∈ L ↔ Ring h w R q := by
  have h8 := F.h2
  have w8 := F.w2
  let t := S.length
  let B : Store := S ++ [some (.dT [])]
  have hB : B.set t (some (.dT [])) = B := by simp [B, t]
  have htB : t < B.length := by simp [B, t]
  obtain ⟨δ1, S1, e1, ⟨o4, rfl⟩, kvs, rfl, hk, hm⟩ := loop_inv (mg := gNm 4) (mb := (sExpr (eCal (cal 62) (aCons (eVar 2) (aCons (eLst (aCons (eVar 4) aNil)) (aCons (eVar 3) aNil))))))
    (ds := rngD 0 h) (δ := [some (rowsT R), some (.int h), some (rowsL (spotsL h w R)), some (.ref t), none, none, none, none, none]) (S := B)
    (fun k δ S' => (∃ o4, δ = [some (rowsT R), some (.int h), some (rowsL (spotsL h w R)), some (.ref t), o4, none, none, none, none]) ∧ ∃ kvs, S' = B.set t (some (.dT kvs)) ∧ KOk (h + w) kvs ∧ ∀ z, z ∈ Ks kvs ↔ ∃ c, Closed (adjR h w R) c ∧ at_ c 0 < k ∧ z = srt c) (by
      rintro k δ S' hk ⟨⟨o4, rfl⟩, kvs, rfl, hok, hm⟩
      rw [rng_get]
      rw [rng_len] at hk
      refine ⟨_, _, rfl, ?_⟩
      obtain ⟨kvs', r1, r2, r3⟩ := h62 (k : Int) (by omega) (by omega) t B kvs htB hok
      refine ⟨_, _, sExpr_ok (eCal_ok (aCons_ok rfl (aCons_ok (eLst_ok (aCons_ok rfl rfl) (small (by simp))) (aCons_ok rfl rfl))) r1), ⟨_, rfl⟩, kvs', rfl, r2, fun z => ?_⟩
      rw [r3 z, hm z]
      constructor
      · rintro (⟨c, C, h0, rfl⟩ | ⟨x, e, C, rfl⟩)
        · exact ⟨c, C, by omega, rfl⟩
        · exact ⟨_, C, by simp [at_]; omega, rfl⟩
      · rintro ⟨c, C, h0, rfl⟩
        by_cases hc : at_ c 0 < (k : Int)
        · exact .inl ⟨c, C, hc, rfl⟩
        · right
          have e0 : at_ c 0 = k := by omega
          have h4 := C.len
          match c, h4, e0, C with
          | a :: x :: e, _, e0, C =>
            have : a = (k : Int) := e0
            subst this
            exact ⟨x, e, C, rfl⟩) ⟨⟨_, rfl⟩, [], hB.symm, ⟨by simp, fun k hk => by simp at hk⟩, fun z => ⟨fun hz => by simp at hz, fun ⟨c, C, h0, _⟩ => by
        have h4 := C.len
        have := (closed_rg C).1 _ (at_mem (p := c) (i := 0) (by omega))
        omega⟩⟩
  rw [rng_len] at hm
  have hm' : ∀ z, z ∈ Ks kvs ↔ ∃ c, Closed (adjR h w R) c ∧ z = srt c := fun z => (hm z).trans ⟨fun ⟨c, C, _, e⟩ => ⟨c, C, e⟩, fun ⟨c, C, e⟩ => ⟨c, C, (closed_rg C).2, e⟩⟩
  have hkl : kvs.length ≤ 65536 := Nat.le_trans hk.len (Nat.le_trans (Nat.pow_le_pow_right (by omega) (show h + w ≤ 16 by omega)) (by decide))
  let u := (B.set t (some (.dT kvs))).length
  let B2 : Store := (B.set t (some (.dT kvs)) ++ [some (Cell.lst [])]).set t none
  have hu : u = S.length + 1 := by simp [u, B]
  have hcellT : (B.set t (some (.dT kvs)) ++ [some (Cell.lst [])])[t]? = some (some (.dT kvs)) := by
    rw [List.getElem?_append_left (by simp [B, t]), List.getElem?_set_self htB]
  have hcellU : B2[u]? = some (some (.lst [])) := by
    show ((B.set t (some (.dT kvs)) ++ [some (Cell.lst [])]).set t none)[u]? = _
    rw [List.getElem?_set_ne (by rw [hu]; show S.length ≠ _; omega)]
    simp [u]
  have keepB : Keep S B2 := ((Keep.app.set (Nat.le_refl _)).trans Keep.app).set (Nat.le_refl _)
  obtain ⟨δ2, S2, e2, ⟨o6, o7, rfl⟩, hc2, hk2⟩ := loop_inv (mg := gNm 6) (mb := appBody)
    (ds := kvs.map Ev.keyD) (δ := [some (rowsT R), some (.int h), some (rowsL (spotsL h w R)), some (.ref t), o4, some (.ref u), none, none, none]) (S := B2)
    (fun k δ S' => (∃ o6 o7, δ = [some (rowsT R), some (.int h), some (rowsL (spotsL h w R)), some (.ref t), o4, some (.ref u), o6, o7, none]) ∧ S'[u]? = some (some (.lst (((((Ks kvs).take k).filter oddK).map (toRing h)).map ringD))) ∧ Keep S S') (by
      rintro k δ S' hkk ⟨⟨o6, o7, rfl⟩, hc, hkeep⟩
      rw [List.length_map] at hkk
      have hkey : (kvs.map Ev.keyD)[k]'(by rw [List.length_map]; exact hkk) = tI ((Ks kvs)[k]'(by rw [List.length_map]; exact hkk)) := by simp [Ev.keyD, iD]
      rw [hkey]
      generalize hz : (Ks kvs)[k]'(by rw [List.length_map]; exact hkk) = z
      have hzm : z ∈ Ks kvs := by rw [← hz]; exact List.getElem_mem _
      have hzl : z.length ≤ 16 := by
        have h1 := hk.ok z hzm
        have := nodup_le (asc_nodup h1.1) (m := rng (h + w)) fun v hv => mem_rng.mpr (h1.2 v hv)
        rw [rng_length] at this; omega
      refine ⟨_, _, rfl, ?_⟩
      have htake : (Ks kvs).take (k + 1) = (Ks kvs).take k ++ [z] := by rw [List.take_succ_eq_append_getElem (by rw [List.length_map]; exact hkk), hz]
      have a7 : sAsg (eOp pFdiv (eCallV (pLen) (aCons (eVar 6) aNil)) (eC (.int 2))) (gNm 7) [some (rowsT R), some (.int h), some (rowsL (spotsL h w R)), some (.ref t), o4, some (.ref u), some (tI z), o7, none] S' = .nx [some (rowsT R), some (.int h), some (rowsL (spotsL h w R)), some (.ref t), o4, some (.ref u), some (tI z), some (.int ((z.length / 2 : Nat) : Int)), none] S' :=
        sAsg_ok (eOp_ok (eCallV_ok (aCons_ok rfl rfl) len_tI) rfl (by rw [pFdiv_ii (by omega) (by omega)]; rfl)) rfl
      have tt : tAndM (fun δ => asB (eOp pGt (eVar 7) (eC (.int 2)) δ)) (fun δ => asB (eOp pEq (eOp pMod (eCallV pInt (aCons (eVar 7) aNil)) (eC (.int 2))) (eC (.int 1)) δ)) [some (rowsT R), some (.int h), some (rowsL (spotsL h w R)), some (.ref t), o4, some (.ref u), some (tI z), some (.int ((z.length / 2 : Nat) : Int)), none] S' = .ok (oddK z) S' := by
        rw [tand_b (asB_ok (eOp_ok rfl rfl pGt_ii)) (fun _ => asB_ok (eOp_ok (eOp_ok (eCallV_ok (aCons_ok rfl rfl) pInt_i) rfl (pMod_ii (by omega))) rfl pEq_ii))]
        congr 1
        unfold oddK
        congr 1
        · exact decide_eq_decide.mpr (by omega)
        · rw [Bool.eq_iff_iff]; simp only [beq_iff_eq, decide_eq_true_eq]; omega
      unfold appBody
      cases ho : oddK z with
      | false =>
        refine ⟨_, _, sSeq_nx a7 (sIf_f (tt.trans (by rw [ho])) rfl), ⟨_, _, rfl⟩, ?_, hkeep⟩
        rw [htake, List.filter_append, List.filter_cons, ho]
        simpa using hc
      | true =>
        have hd : (z.drop (z.length / 2)).length ≤ 16 := by simp; omega
        have e8 := lc_mapE (S := S') (me := eOp pSub (eVar 8) (eVar 1)) (δ0 := wipeD [some (rowsT R), some (.int h), some (rowsL (spotsL h w R)), some (.ref t), o4, some (.ref u), some (tI z), some (.int ((z.length / 2 : Nat) : Int)), none] [8]) (k := 8) D.int D.int (fun x => x - (h : Int)) (zs := z.drop (z.length / 2)) (small (by omega)) (fun x hx => eOp_ok rfl rfl pSub_ii)
        have ct := cut_takeT (mo := eVar 6) (ma := eVar 7) (m := z.length / 2) (xs := iD z) (δ := [some (rowsT R), some (.int h), some (rowsL (spotsL h w R)), some (.ref t), o4, some (.ref u), some (tI z), some (.int ((z.length / 2 : Nat) : Int)), none]) (S := S') rfl rfl (by rw [iD_len]; exact small (by omega))
        have cd := cut_dropT (mo := eVar 6) (ma := eVar 7) (m := z.length / 2) (xs := iD z) (δ := [some (rowsT R), some (.int h), some (rowsL (spotsL h w R)), some (.ref t), o4, some (.ref u), some (tI z), some (.int ((z.length / 2 : Nat) : Int)), none]) (S := S') rfl rfl (by rw [iD_len]; exact small (by omega))
        rw [show (iD z).take (z.length / 2) = iD (z.take (z.length / 2)) by simp [iD, List.map_take]] at ct
        rw [show (iD z).drop (z.length / 2) = iD (z.drop (z.length / 2)) by simp [iD, List.map_drop]] at cd
        have happ := app_ref (y := ringD (toRing h z)) hc (Nat.lt_of_lt_of_le (show _ < 1000000 by
          rw [List.length_map, List.length_map]
          have := List.length_filter_le oddK ((Ks kvs).take k)
          rw [List.length_take, List.length_map] at this
          omega) (small (Nat.le_refl _)))
        refine ⟨_, _, sSeq_nx a7 (sIf_t (tt.trans (by rw [ho])) (sExpr_ok (eMB_ok rfl (ty_ref hc) (aCons_ok (eTup_ok (aCons_ok ct (aCons_ok (eCallV_ok (aCons_ok (eLc_ok (iAny_ok cd rfl) e8 (newL_ev (by rw [List.length_map, List.length_map]; exact small (by omega)))) rfl) (tuple_lst (by rw [List.length_map, List.length_map]; exact small (by omega)))) rfl)) (small (by simp))) rfl) happ))), ⟨_, _, rfl⟩, ?_, hkeep.set (by rw [hu]; omega)⟩
        rw [set_get hc, htake, List.filter_append, List.filter_cons, ho]
        simp) ⟨⟨_, _, rfl⟩, by simpa using hcellU, keepB⟩
  rw [List.length_map, show kvs.length = (Ks kvs).length by simp, List.take_length] at hc2
  refine ⟨((Ks kvs).filter oddK).map (toRing h), S2, ?_, hk2, ?_, fun q => ?_⟩
  · unfold b_rings_of
    have hlen : (((Ks kvs).filter oddK).map (toRing h)).length ≤ 1000000 := by
      rw [List.length_map]
      have := List.length_filter_le oddK (Ks kvs)
      rw [List.length_map] at this
      omega
    refine funM_rt rfl (sSeq_nx (sAsg_ok (eTup_ok (aCons_ok (eCallV_ok (aCons_ok rfl rfl) (by rw [len_rT, F.len])) (aCons_ok (eCal_ok (aCons_ok rfl rfl) (h63 S)) (aCons_ok (show eDT _ S = .ok (.ref t) B from rfl) rfl))) (small (by simp))) (gTp3_ok rfl rfl rfl)) (sSeq_nx (sFor_ok (iR1_ok (k := h) (aCons_ok rfl rfl) (by omega)) e1) (sSeq_nx (sAsg_ok (eLstC_ok rfl (Nat.zero_le _)) rfl) (sSeq_nx (sFor_ok (ds := kvs.map Ev.keyD) (S1 := B2) ?_ e2) (sRet_ok (sortK_ev (S1 := S2) (l := .ref u) rfl ?_ hlen h61))))))
    · exact keysV_ok (n := t) rfl hcellT
    · simp only [lstOf, hc2]
  · have nd : ((Ks kvs).filter oddK).Nodup := List.Sublist.nodup List.filter_sublist hk.nd
    have inj : ∀ z ∈ (Ks kvs).filter oddK, z = (toRing h z).1 ++ ((toRing h z).2.map fun k => k + (h : Int)) := fun z hz => by
      obtain ⟨c, C, rfl⟩ := (hm' z).mp (List.mem_filter.mp hz).1
      obtain ⟨rg, r0⟩ := closed_rg C
      exact (ring_of C rg r0).2.2.2.2.2.2
    rw [List.Nodup, List.pairwise_map]
    exact List.Pairwise.imp_of_mem (fun ha hb hne e => hne (by rw [inj _ ha, inj _ hb, e])) nd
  · rw [← rings_mem, List.mem_map]
    constructor
    · rintro ⟨z, hz, rfl⟩
      obtain ⟨h1, h2⟩ := List.mem_filter.mp hz
      obtain ⟨c, C, rfl⟩ := (hm' z).mp h1
      exact ⟨c, C, h2, rfl⟩
    · rintro ⟨c, C, h2, rfl⟩
      exact ⟨srt c, List.mem_filter.mpr ⟨(hm' _).mpr ⟨c, C, rfl⟩, h2⟩, rfl⟩
end Rg
/-! # rings: by sums and hanging together -/
namespace Rg
open PySem PySem.W L2 Ev Bd Sp
def val (R : Rw) (j k : Int) : Int := (R.getD j.toNat []).getD k.toNat 0
theorem bit_val {R : Rw} {j k : Int} : bit R j k = (val R j k == 1) := rfl
theorem asc_at {l : List Int} (ha : Asc l) {i j : Nat} (hij : i < j) (hj : j < l.length) : at_ l i < at_ l j := by
  have := List.pairwise_iff_getElem.mp ha i j (by omega) hj hij
  have e1 : at_ l i = l[i] := by simp [at_, List.getD_eq_getElem?_getD, show i < l.length by omega]
  have e2 : at_ l j = l[j] := by simp [at_, List.getD_eq_getElem?_getD, hj]
  rw [e1, e2]; exact this
theorem val01 {R : Rw} {h w : Nat} (g : G01 w R) (hl : R.length = h) {j k : Int} (j0 : 0 ≤ j) (j1 : j < h) (k0 : 0 ≤ k) (k1 : k < w) : val R j k = 0 ∨ val R j k = 1 := by
  have hr : R.getD j.toNat [] ∈ R := by
    rw [List.getD_eq_getElem?_getD, List.getElem?_eq_getElem (show j.toNat < R.length by omega)]
    exact List.getElem_mem _
  exact (g _ hr).2 _ (gmem (by rw [(g _ hr).1]; omega))
theorem sum01 {α : Type} (f : α → Int) : ∀ {l : List α}, (∀ x ∈ l, f x = 0 ∨ f x = 1) → (l.map f).sum = ((l.filter fun x => f x == 1).length : Int)
  | [], _ => rfl
  | x :: l, h => by
    have ih := sum01 f (l := l) fun y hy => h y (List.mem_cons_of_mem _ hy)
    rw [List.map_cons, List.sum_cons, ih, List.filter_cons]
    rcases h x (List.mem_cons_self ..) with e | e <;> rw [e]
    · simp
    · simp; omega
theorem two_of_len {α : Type} {l : List α} (nd : l.Nodup) (h : l.length = 2) : ∃ a b, a ≠ b ∧ a ∈ l ∧ b ∈ l ∧ ∀ z ∈ l, z = a ∨ z = b := by
  match l, h with
  | [a, b], _ =>
    refine ⟨a, b, ?_, by simp, by simp, fun z hz => by simpa using hz⟩
    rintro rfl
    simp at nd
theorem len_of_two {α : Type} [DecidableEq α] {l : List α} (nd : l.Nodup) {a b : α} (hab : a ≠ b) (ha : a ∈ l) (hb : b ∈ l) (h : ∀ z ∈ l, z = a ∨ z = b) : l.length = 2 := by
  have h1 := nodup_le (l := l) (m := [a, b]) nd fun z hz => by simpa using h z hz
  have h2 := nodup_le (l := [a, b]) (m := l) (by simp [hab]) fun z hz => by
    simp at hz; rcases hz with rfl | rfl <;> assumption
  simp at h1 h2; omega
/-- rows hang together by columns -/
def Hang (R : Rw) (I J : List Int) : Prop := ∀ P : Int → Prop, P (at_ I 0) → (∀ i ∈ I, ∀ j ∈ I, ∀ k ∈ J, P i → bit R i k = true → bit R j k = true → P j) → ∀ j ∈ I, P j
/-- the law's own words: as many rows as columns, two ones in each, together -/
structure LawR (h w : Nat) (R : Rw) (q : Pq) : Prop where
  eq : q.1.length = q.2.length
  size : q.1.length = 3 ∨ q.1.length = 5 ∨ q.1.length = 7
  asc1 : Asc q.1
  asc2 : Asc q.2
  rg1 : ∀ i ∈ q.1, 0 ≤ i ∧ i < h
  rg2 : ∀ k ∈ q.2, 0 ≤ k ∧ k < w
  col : ∀ k ∈ q.2, (q.1.map fun j => val R j k).sum = 2
  row : ∀ j ∈ q.1, (q.2.map fun k => val R j k).sum = 2
  hang : Hang R q.1 q.2
theorem adj_rc {h w : Nat} {R : Rw} {i k : Int} (i0 : 0 ≤ i) (i1 : i < h) (k0 : 0 ≤ k) (k1 : k < w) : adjR h w R i (k + h) = bit R i k := by
  rw [Bool.eq_iff_iff, adj_iff, show k + (h : Int) - h = k by omega]
  constructor
  · rintro (⟨_, _, _, _, h5⟩ | ⟨_, h2, _⟩)
    · exact h5
    · omega
  · intro e
    exact .inl ⟨i0, i1, by omega, by omega, e⟩
theorem law_ring {h w : Nat} {R : Rw} {q : Pq} (hl : R.length = h) (h8 : h ≤ 8) (g : G01 w R) : LawR h w R q ↔ Ring h w R q := by
  constructor
  · intro Q
    have hm3 : 3 ≤ q.1.length := by have := Q.size; omega
    have fcol : ∀ k ∈ q.2, (q.1.filter fun j => bit R j k).length = 2 := fun k hk => by
      have e := Q.col k hk
      rw [sum01 _ fun j hj => val01 g hl (Q.rg1 j hj).1 (Q.rg1 j hj).2 (Q.rg2 k hk).1 (Q.rg2 k hk).2] at e
      have : (q.1.filter fun j => val R j k == 1).length = 2 := by omega
      exact this
    have frow : ∀ j ∈ q.1, (q.2.filter fun k => bit R j k).length = 2 := fun j hj => by
      have e := Q.row j hj
      rw [sum01 _ fun k hk => val01 g hl (Q.rg1 j hj).1 (Q.rg1 j hj).2 (Q.rg2 k hk).1 (Q.rg2 k hk).2] at e
      have : (q.2.filter fun k => val R j k == 1).length = 2 := by omega
      exact this
    have hV : Asc (q.1 ++ q.2.map fun k => k + (h : Int)) := asc_joined Q.asc1 Q.asc2 Q.rg1 fun k hk => (Q.rg2 k hk).1
    have T : Two (adjR h w R) (q.1 ++ q.2.map fun k => k + (h : Int)) := fun v hv => by
      rcases List.mem_append.mp hv with hv | hv
      · have rv := Q.rg1 v hv
        obtain ⟨a, b, hab, ha, hb, hz⟩ := two_of_len (List.Sublist.nodup List.filter_sublist (asc_nodup Q.asc2)) (frow v hv)
        obtain ⟨ha1, ha2⟩ := List.mem_filter.mp ha
        obtain ⟨hb1, hb2⟩ := List.mem_filter.mp hb
        have ra := Q.rg2 a ha1
        have rb := Q.rg2 b hb1
        refine ⟨a + h, b + h, by omega, List.mem_append_right _ (List.mem_map.mpr ⟨a, ha1, rfl⟩), List.mem_append_right _ (List.mem_map.mpr ⟨b, hb1, rfl⟩), by rw [adj_rc rv.1 rv.2 ra.1 ra.2]; exact ha2, by rw [adj_rc rv.1 rv.2 rb.1 rb.2]; exact hb2, fun z hzV hz' => ?_⟩
        rcases List.mem_append.mp hzV with hz1 | hz1
        · have := Q.rg1 z hz1
          have := adj_side _ _ hz'
          unfold side at this
          simp [rv.2] at this
          omega
        · obtain ⟨k, hk, rfl⟩ := List.mem_map.mp hz1
          have rk := Q.rg2 k hk
          rw [adj_rc rv.1 rv.2 rk.1 rk.2] at hz'
          rcases hz k (List.mem_filter.mpr ⟨hk, hz'⟩) with rfl | rfl
          · exact .inl rfl
          · exact .inr rfl
      · obtain ⟨k, hk, rfl⟩ := List.mem_map.mp hv
        have rk := Q.rg2 k hk
        obtain ⟨a, b, hab, ha, hb, hz⟩ := two_of_len (List.Sublist.nodup List.filter_sublist (asc_nodup Q.asc1)) (fcol k hk)
        obtain ⟨ha1, ha2⟩ := List.mem_filter.mp ha
        obtain ⟨hb1, hb2⟩ := List.mem_filter.mp hb
        have ra := Q.rg1 a ha1
        have rb := Q.rg1 b hb1
        refine ⟨a, b, hab, List.mem_append_left _ ha1, List.mem_append_left _ hb1, by rw [adj_sym, adj_rc ra.1 ra.2 rk.1 rk.2]; exact ha2, by rw [adj_sym, adj_rc rb.1 rb.2 rk.1 rk.2]; exact hb2, fun z hzV hz' => ?_⟩
        rcases List.mem_append.mp hzV with hz1 | hz1
        · have rz := Q.rg1 z hz1
          rw [adj_sym, adj_rc rz.1 rz.2 rk.1 rk.2] at hz'
          exact hz z (List.mem_filter.mpr ⟨hz1, hz'⟩)
        · obtain ⟨k', hk', rfl⟩ := List.mem_map.mp hz1
          have := Q.rg2 k' hk'
          have := adj_side _ _ hz'
          unfold side at this
          rw [decide_eq_false (by omega), decide_eq_false (by omega)] at this
          exact absurd rfl this
    have hI0 : at_ q.1 0 ∈ q.1 := at_mem (by omega)
    have hmin : ∀ v ∈ (q.1 ++ q.2.map fun k => k + (h : Int)), v ≠ at_ q.1 0 → at_ q.1 0 < v := fun v hv hne => by
      obtain ⟨i, hi, rfl⟩ := mem_at hv
      have e0 : at_ (q.1 ++ q.2.map fun k => k + (h : Int)) 0 = at_ q.1 0 := at_left (by omega)
      have hi0 : 0 < i := Nat.pos_of_ne_zero (by rintro rfl; exact hne e0)
      rw [← e0]
      exact asc_at hV hi0 hi
    have hconn : Conn (adjR h w R) (q.1 ++ q.2.map fun k => k + (h : Int)) (at_ q.1 0) := fun P h0 hs => by
      have rows : ∀ j ∈ q.1, P j := Q.hang P h0 fun i hi j hj k hk hPi b1 b2 => by
        have ri := Q.rg1 i hi
        have rj := Q.rg1 j hj
        have rk := Q.rg2 k hk
        have hk' : k + (h : Int) ∈ q.1 ++ q.2.map fun k => k + (h : Int) := List.mem_append_right _ (List.mem_map.mpr ⟨k, hk, rfl⟩)
        have hPk := hs i (List.mem_append_left _ hi) _ hk' hPi (by rw [adj_rc ri.1 ri.2 rk.1 rk.2]; exact b1)
        exact hs _ hk' j (List.mem_append_left _ hj) hPk (by rw [adj_sym, adj_rc rj.1 rj.2 rk.1 rk.2]; exact b2)
      intro v hv
      rcases List.mem_append.mp hv with hv' | hv'
      · exact rows v hv'
      · obtain ⟨k, hk, rfl⟩ := List.mem_map.mp hv'
        obtain ⟨a, b, hab, ha, hb, hz⟩ := two_of_len (List.Sublist.nodup List.filter_sublist (asc_nodup Q.asc1)) (fcol k hk)
        obtain ⟨ha1, ha2⟩ := List.mem_filter.mp ha
        have ra := Q.rg1 a ha1
        have rk := Q.rg2 k hk
        exact hs a (List.mem_append_left _ ha1) _ hv (rows a ha1) (by rw [adj_rc ra.1 ra.2 rk.1 rk.2]; exact ha2)
    exact ⟨Q.eq, by have := Q.size; omega, by omega, Q.asc1, Q.asc2, Q.rg1, Q.rg2, closed_cover (side := side h) (asc_nodup hV) T adj_sym adj_side (List.mem_append_left _ hI0) hmin hconn⟩
  · intro Q
    obtain ⟨c, C, hp⟩ := Q.cyc
    have T := closed_two C adj_sym adj_irr hp
    have hI8 : q.1.length ≤ 8 := by
      have := nodup_le (asc_nodup Q.asc1) (m := rng h) fun i hi => mem_rng.mpr (Q.rg1 i hi)
      rw [rng_length] at this; omega
    have hV : Asc (q.1 ++ q.2.map fun k => k + (h : Int)) := asc_joined Q.asc1 Q.asc2 Q.rg1 fun k hk => (Q.rg2 k hk).1
    have hgt := Q.gt
    refine ⟨Q.eq, by have := Q.odd; omega, Q.asc1, Q.asc2, Q.rg1, Q.rg2, fun k hk => ?_, fun j hj => ?_, fun P h0 hs => ?_⟩
    · have rk := Q.rg2 k hk
      rw [sum01 _ fun j hj => val01 g hl (Q.rg1 j hj).1 (Q.rg1 j hj).2 rk.1 rk.2]
      obtain ⟨a, b, hab, ha, hb, va, vb, hz⟩ := T (k + h) (List.mem_append_right _ (List.mem_map.mpr ⟨k, hk, rfl⟩))
      have row : ∀ a ∈ (q.1 ++ q.2.map fun k => k + (h : Int)), adjR h w R (k + h) a = true → a ∈ q.1.filter fun j => bit R j k := fun a ha va => by
        rcases List.mem_append.mp ha with h1 | h1
        · have ra := Q.rg1 a h1
          rw [adj_sym, adj_rc ra.1 ra.2 rk.1 rk.2] at va
          exact List.mem_filter.mpr ⟨h1, va⟩
        · obtain ⟨k', hk', rfl⟩ := List.mem_map.mp h1
          have := Q.rg2 k' hk'
          have := adj_side _ _ va
          unfold side at this
          rw [decide_eq_false (by omega), decide_eq_false (by omega)] at this
          exact absurd rfl this
      have := len_of_two (l := q.1.filter fun j => bit R j k) (List.Sublist.nodup List.filter_sublist (asc_nodup Q.asc1)) hab (row a ha va) (row b hb vb) fun z hzm => by
        obtain ⟨z1, z2⟩ := List.mem_filter.mp hzm
        have rz := Q.rg1 z z1
        exact hz z (List.mem_append_left _ z1) (by rw [adj_sym, adj_rc rz.1 rz.2 rk.1 rk.2]; exact z2)
      show (((q.1.filter fun j => bit R j k).length : Nat) : Int) = 2
      omega
    · have rj := Q.rg1 j hj
      rw [sum01 _ fun k hk => val01 g hl rj.1 rj.2 (Q.rg2 k hk).1 (Q.rg2 k hk).2]
      obtain ⟨a, b, hab, ha, hb, va, vb, hz⟩ := T j (List.mem_append_left _ hj)
      have colm : ∀ a ∈ (q.1 ++ q.2.map fun k => k + (h : Int)), adjR h w R j a = true → a - h ∈ q.2.filter fun k => bit R j k := fun a ha va => by
        rcases List.mem_append.mp ha with h1 | h1
        · have ra := Q.rg1 a h1
          have := adj_side _ _ va
          unfold side at this
          rw [decide_eq_true rj.2, decide_eq_true ra.2] at this
          exact absurd rfl this
        · obtain ⟨k', hk', rfl⟩ := List.mem_map.mp h1
          have rk := Q.rg2 k' hk'
          rw [adj_rc rj.1 rj.2 rk.1 rk.2] at va
          rw [show k' + (h : Int) - h = k' by omega]
          exact List.mem_filter.mpr ⟨hk', va⟩
      have := len_of_two (l := q.2.filter fun k => bit R j k) (List.Sublist.nodup List.filter_sublist (asc_nodup Q.asc2)) (a := a - h) (b := b - h) (by omega) (colm a ha va) (colm b hb vb) fun z hzm => by
        obtain ⟨z1, z2⟩ := List.mem_filter.mp hzm
        have rz := Q.rg2 z z1
        rcases hz (z + h) (List.mem_append_right _ (List.mem_map.mpr ⟨z, z1, rfl⟩)) (by rw [adj_rc rj.1 rj.2 rz.1 rz.2]; exact z2) with e | e
        · exact .inl (by omega)
        · exact .inr (by omega)
      show (((q.2.filter fun k => bit R j k).length : Nat) : Int) = 2
      omega
    · -- along the ring
      have e0 : at_ c 0 = at_ q.1 0 := by
        obtain ⟨m1, m2⟩ := closed_min C hp
        have hI0 : at_ q.1 0 ∈ q.1 ++ q.2.map fun k => k + (h : Int) := List.mem_append_left _ (at_mem (by omega))
        apply Classical.byContradiction
        intro hne
        have h1 := m2 _ hI0 fun e => hne e.symm
        obtain ⟨i, hi, ei⟩ := mem_at m1
        have e0 : at_ (q.1 ++ q.2.map fun k => k + (h : Int)) 0 = at_ q.1 0 := at_left (by omega)
        have hi0 : 0 < i := Nat.pos_of_ne_zero (by rintro rfl; rw [e0] at ei; exact hne ei.symm)
        have h3 : at_ q.1 0 < at_ c 0 := by
          rw [← ei, ← e0]
          exact asc_at hV hi0 hi
        omega
      have hc := closed_conn C hp
      rw [e0] at hc
      -- rows by P, columns by a row with P that has a one there
      have key := hc (fun v => (v < h → P v) ∧ ((h : Int) ≤ v → ∃ i ∈ q.1, P i ∧ bit R i (v - h) = true)) ⟨fun _ => h0, fun hh => by have := Q.rg1 _ (at_mem (p := q.1) (i := 0) (by omega)); omega⟩ (fun u hu v hv hPu huv => by
        rcases adj_iff.mp huv with ⟨u0, u1, v0, v1, b⟩ | ⟨v0, v1, u0, u1, b⟩
        · refine ⟨fun hh => by omega, fun _ => ⟨u, ?_, hPu.1 u1, b⟩⟩
          rcases List.mem_append.mp hu with h1 | h1
          · exact h1
          · obtain ⟨k', hk', rfl⟩ := List.mem_map.mp h1
            have := Q.rg2 k' hk'; omega
        · refine ⟨fun _ => ?_, fun hh => by omega⟩
          obtain ⟨i, hi, hPi, bi⟩ := hPu.2 u0
          have hvI : v ∈ q.1 := by
            rcases List.mem_append.mp hv with h1 | h1
            · exact h1
            · obtain ⟨k', hk', rfl⟩ := List.mem_map.mp h1
              have := Q.rg2 k' hk'; omega
          have huJ : u - h ∈ q.2 := by
            rcases List.mem_append.mp hu with h1 | h1
            · have := Q.rg1 u h1; omega
            · obtain ⟨k', hk', rfl⟩ := List.mem_map.mp h1
              rw [show k' + (h : Int) - h = k' by omega]; exact hk'
          exact hs i hi v hvI (u - h) huJ hPi bi b)
      intro j hj
      exact (key j (List.mem_append_left _ hj)).1 (Q.rg1 j hj).2
end Rg
/-! # rings: the law's own list -/
namespace Rg
open PySem PySem.W L2 Ev Bd Sp
def lastOk (e : List Int) (k : Int) : Bool := e.isEmpty || decide (at_ e (e.length - 1) < k)
def someL (n : Nat) : Nat → Rw
  | 0 => [[]]
  | s + 1 => (someL n s).flatMap fun e => ((rng n).filter (lastOk e)).map fun k => e ++ [k]
theorem asc_snoc {e : List Int} {k : Int} : Asc (e ++ [k]) ↔ Asc e ∧ lastOk e k = true := by
  unfold Asc lastOk
  rw [List.pairwise_append]
  constructor
  · rintro ⟨h1, _, h3⟩
    refine ⟨h1, ?_⟩
    cases e with
    | nil => rfl
    | cons x e =>
      rw [Bool.or_eq_true]
      right
      exact decide_eq_true (h3 _ (at_mem (p := x :: e) (i := (x :: e).length - 1) (by simp)) k (by simp))
  · rintro ⟨h1, h2⟩
    refine ⟨h1, by simp, fun a ha b hb => ?_⟩
    rw [List.mem_singleton.mp hb]
    rw [Bool.or_eq_true] at h2
    rcases h2 with h2 | h2
    · have : e = [] := List.isEmpty_iff.mp h2
      subst this; simp at ha
    · have h2 := of_decide_eq_true h2
      obtain ⟨i, hi, rfl⟩ := mem_at ha
      by_cases hl : i = e.length - 1
      · rw [hl]; exact h2
      · have := asc_at h1 (show i < e.length - 1 by omega) (by omega); omega
theorem mem_some {n : Nat} : ∀ {s : Nat} {e : List Int}, e ∈ someL n s ↔ Asc e ∧ (∀ x ∈ e, 0 ≤ x ∧ x < n) ∧ e.length = s
  | 0, e => by
    simp only [someL, List.mem_singleton]
    constructor
    · rintro rfl; exact ⟨List.Pairwise.nil, by simp, rfl⟩
    · rintro ⟨_, _, h⟩; exact List.length_eq_zero_iff.mp h
  | s + 1, e => by
    simp only [someL, List.mem_flatMap, List.mem_map]
    constructor
    · rintro ⟨f, hf, k, hk, rfl⟩
      obtain ⟨h1, h2, h3⟩ := mem_some.mp hf
      obtain ⟨k1, k2⟩ := List.mem_filter.mp hk
      refine ⟨asc_snoc.mpr ⟨h1, k2⟩, fun x hx => ?_, by simp [h3]⟩
      rcases List.mem_append.mp hx with hx | hx
      · exact h2 x hx
      · rw [List.mem_singleton.mp hx]; exact mem_rng.mp k1
    · rintro ⟨h1, h2, h3⟩
      have hne : e ≠ [] := by rintro rfl; simp at h3
      have hd := List.dropLast_concat_getLast hne
      rw [← hd] at h1
      obtain ⟨g1, g2⟩ := asc_snoc.mp h1
      exact ⟨e.dropLast, mem_some.mpr ⟨g1, fun x hx => h2 x (List.dropLast_subset _ hx), by simp [h3]⟩, e.getLast hne, List.mem_filter.mpr ⟨mem_rng.mpr (h2 _ (List.getLast_mem hne)), g2⟩, hd⟩
theorem lt_last {e : List Int} {a b : Int} (h : a < b) : e ++ [a] < e ++ [b] := by
  induction e with
  | nil => simpa [List.cons_lt_cons_iff] using h
  | cons x e ih => simpa [List.cons_lt_cons_iff] using ih
theorem lt_app : ∀ {e f x y : List Int}, e.length = f.length → e < f → e ++ x < f ++ y
  | [], [], x, y, _, h => absurd h (List.lt_irrefl _)
  | [], _ :: _, _, _, h, _ => by simp at h
  | _ :: _, [], _, _, h, _ => by simp at h
  | a :: e, b :: f, x, y, hl, h => by
    rw [List.cons_lt_cons_iff] at h
    rw [List.cons_append, List.cons_append, List.cons_lt_cons_iff]
    rcases h with h | ⟨rfl, h⟩
    · exact .inl h
    · exact .inr ⟨rfl, lt_app (by simpa using hl) h⟩
theorem rng_asc {n : Nat} : (rng n).Pairwise (· < ·) := by
  unfold rng
  rw [List.pairwise_map]
  exact List.Pairwise.imp (fun h => by omega) List.pairwise_lt_range
theorem some_sorted {n : Nat} : ∀ s, (someL n s).Pairwise (· < ·)
  | 0 => by simp [someL]
  | s + 1 => by
    unfold someL
    rw [List.pairwise_flatMap]
    refine ⟨fun e _ => ?_, ?_⟩
    · rw [List.pairwise_map]
      exact List.Pairwise.imp (fun h => lt_last h) (List.Pairwise.sublist List.filter_sublist rng_asc)
    · refine List.Pairwise.imp_of_mem (fun {e f} he hf h x hx y hy => ?_) (some_sorted s)
      obtain ⟨a, _, rfl⟩ := List.mem_map.mp hx
      obtain ⟨b, _, rfl⟩ := List.mem_map.mp hy
      exact lt_app (by rw [(mem_some.mp he).2.2, (mem_some.mp hf).2.2]) h
theorem some_len {n s : Nat} : (someL n s).length ≤ 2 ^ n := by
  have := nodup_le (l := someL n s) (m := subs n) (List.Pairwise.imp (fun h e => by subst e; exact List.lt_irrefl _ h) (some_sorted s)) fun e he => by
    obtain ⟨h1, h2, _⟩ := mem_some.mp he
    exact mem_subs h1 h2
  rwa [subs_len] at this
/-! by the places of an ascending list -/
theorem map_lt {f : Int → Int} {n : Nat} (hf : ∀ a b : Int, 0 ≤ a → a < b → b < n → f a < f b) : ∀ {P Q : List Int}, (∀ x ∈ P, 0 ≤ x ∧ x < n) → (∀ x ∈ Q, 0 ≤ x ∧ x < n) → P < Q → P.map f < Q.map f
  | [], [], _, _, h => absurd h (List.lt_irrefl _)
  | [], _ :: _, _, _, _ => by simp
  | _ :: _, [], _, _, h => by simp at h
  | a :: P, b :: Q, hP, hQ, h => by
    have ha := hP a (List.mem_cons_self ..)
    have hb := hQ b (List.mem_cons_self ..)
    rw [List.cons_lt_cons_iff] at h
    rw [List.map_cons, List.map_cons, List.cons_lt_cons_iff]
    rcases h with h | ⟨rfl, h⟩
    · exact .inl (hf a b ha.1 h hb.2)
    · exact .inr ⟨rfl, map_lt hf (fun x hx => hP x (List.mem_cons_of_mem _ hx)) (fun x hx => hQ x (List.mem_cons_of_mem _ hx)) h⟩
def pickT (T P : List Int) : List Int := P.map fun k => T.getD k.toNat 0
theorem pick_mono {T : List Int} (hT : Asc T) (a b : Int) (h0 : 0 ≤ a) (h1 : a < b) (h2 : b < T.length) : T.getD a.toNat 0 < T.getD b.toNat 0 := asc_at hT (by omega) (by omega)
theorem pick_asc {T P : List Int} (hT : Asc T) (hP : Asc P) (hr : ∀ x ∈ P, 0 ≤ x ∧ x < T.length) : Asc (pickT T P) := by
  unfold Asc pickT
  rw [List.pairwise_map]
  exact List.Pairwise.imp_of_mem (fun ha hb h => pick_mono hT _ _ (hr _ ha).1 h (hr _ hb).2) hP
theorem pick_mem {T P : List Int} (hr : ∀ x ∈ P, 0 ≤ x ∧ x < T.length) : ∀ k ∈ pickT T P, k ∈ T := fun k hk => by
  obtain ⟨x, hx, rfl⟩ := List.mem_map.mp hk
  have := hr x hx
  exact gmem (by omega)
theorem pick_ex {T J : List Int} (hT : Asc T) (hJ : Asc J) (hs : ∀ k ∈ J, k ∈ T) : ∃ P, Asc P ∧ (∀ x ∈ P, 0 ≤ x ∧ x < T.length) ∧ P.length = J.length ∧ pickT T P = J := by
  have hidx : ∀ k ∈ J, T.idxOf k < T.length ∧ T.getD (T.idxOf k) 0 = k := fun k hk => by
    have h1 := List.idxOf_lt_length_of_mem (hs k hk)
    refine ⟨h1, ?_⟩
    rw [List.getD_eq_getElem?_getD, List.getElem?_eq_getElem h1]
    simp
  refine ⟨J.map fun k => (T.idxOf k : Int), ?_, fun x hx => ?_, by simp, ?_⟩
  · unfold Asc
    rw [List.pairwise_map]
    refine List.Pairwise.imp_of_mem (fun {a b} ha hb h => ?_) hJ
    have h1 := hidx a ha
    have h2 := hidx b hb
    apply Classical.byContradiction
    intro hn
    by_cases he : T.idxOf a = T.idxOf b
    · have : a = b := by rw [← h1.2, ← h2.2, he]
      omega
    · have := asc_at hT (show T.idxOf b < T.idxOf a by omega) h1.1
      unfold at_ at this
      rw [h1.2, h2.2] at this
      omega
  · obtain ⟨k, hk, rfl⟩ := List.mem_map.mp hx
    have := (hidx k hk).1
    omega
  · unfold pickT
    rw [List.map_map]
    conv => rhs; rw [← List.map_id J]
    refine List.map_congr_left fun k hk => ?_
    simp only [Function.comp, Int.toNat_natCast, id]
    exact (hidx k hk).2
/-! the list -/
def twosL (R : Rw) (w : Nat) (I : List Int) : List Int := (rng w).filter fun k => (I.map fun j => val R j k).sum == 2
def tw (R : Rw) (w : Nat) (I : List Int) (s : Nat) : List Int := if (s : Int) ≤ (twosL R w I).length then twosL R w I else []
def candI (R : Rw) (w s : Nat) (I : List Int) : List Pq := (someL (tw R w I s).length s).map fun P => (I, pickT (tw R w I s) P)
def candS (R : Rw) (h w s : Nat) : List Pq := (someL h s).flatMap fun I => candI R w s I
def cand (R : Rw) (h w : Nat) : List Pq := [3, 5, 7].flatMap fun s => candS R h w s
open Classical in
noncomputable def okQ (R : Rw) (q : Pq) : Bool := decide (∀ j ∈ q.1, (q.2.map fun k => val R j k).sum = 2) && decide (Hang R q.1 q.2)
noncomputable def lawL (R : Rw) (h w : Nat) : List Pq := (cand R h w).filter (okQ R)
theorem tw_asc {R : Rw} {w s : Nat} {I : List Int} : Asc (tw R w I s) := by
  unfold tw
  split
  · exact List.Pairwise.sublist List.filter_sublist rng_asc
  · exact List.Pairwise.nil
theorem tw_mem {R : Rw} {w s : Nat} {I : List Int} {k : Int} (h : k ∈ tw R w I s) : (0 ≤ k ∧ k < w) ∧ (I.map fun j => val R j k).sum = 2 := by
  unfold tw at h
  split at h
  · obtain ⟨h1, h2⟩ := List.mem_filter.mp h
    exact ⟨mem_rng.mp h1, by simpa using h2⟩
  · simp at h
theorem mem_candS {R : Rw} {h w s : Nat} {q : Pq} (hs : 0 < s) : q ∈ candS R h w s ↔ q.1.length = s ∧ q.2.length = s ∧ Asc q.1 ∧ Asc q.2 ∧ (∀ i ∈ q.1, 0 ≤ i ∧ i < h) ∧ (∀ k ∈ q.2, 0 ≤ k ∧ k < w) ∧ ∀ k ∈ q.2, (q.1.map fun j => val R j k).sum = 2 := by
  unfold candS candI
  simp only [List.mem_flatMap, List.mem_map]
  constructor
  · rintro ⟨I, hI, P, hP, rfl⟩
    obtain ⟨i1, i2, i3⟩ := mem_some.mp hI
    obtain ⟨p1, p2, p3⟩ := mem_some.mp hP
    exact ⟨i3, by simp [pickT, p3], i1, pick_asc tw_asc p1 p2, i2, fun k hk => (tw_mem (pick_mem p2 k hk)).1, fun k hk => (tw_mem (pick_mem p2 k hk)).2⟩
  · rintro ⟨l1, l2, a1, a2, r1, r2, c⟩
    have hT : Asc (twosL R w q.1) := List.Pairwise.sublist List.filter_sublist rng_asc
    have hJ : ∀ k ∈ q.2, k ∈ twosL R w q.1 := fun k hk => List.mem_filter.mpr ⟨mem_rng.mpr (r2 k hk), by simpa using c k hk⟩
    have hle := nodup_le (asc_nodup a2) hJ
    have e : tw R w q.1 s = twosL R w q.1 := by unfold tw; rw [if_pos (by omega)]
    obtain ⟨P, p1, p2, p3, p4⟩ := pick_ex hT a2 hJ
    exact ⟨q.1, mem_some.mpr ⟨a1, r1, l1⟩, P, mem_some.mpr ⟨p1, by rw [e]; exact p2, by omega⟩, by rw [e, p4]⟩
theorem mem_lawL {R : Rw} {h w : Nat} {q : Pq} : q ∈ lawL R h w ↔ LawR h w R q := by
  unfold lawL cand okQ
  rw [List.mem_filter, List.mem_flatMap]
  simp only [Bool.and_eq_true, decide_eq_true_eq]
  constructor
  · rintro ⟨⟨s, hs, hq⟩, h1, h2⟩
    have hs' : s = 3 ∨ s = 5 ∨ s = 7 := by simpa using hs
    obtain ⟨l1, l2, a1, a2, r1, r2, c⟩ := (mem_candS (by omega)).mp hq
    exact ⟨by omega, by omega, a1, a2, r1, r2, c, h1, h2⟩
  · intro Q
    have hsz := Q.size
    refine ⟨⟨q.1.length, by simpa using hsz, (mem_candS (by omega)).mpr ⟨rfl, Q.eq.symm, Q.asc1, Q.asc2, Q.rg1, Q.rg2, Q.col⟩⟩, Q.row, Q.hang⟩
theorem candS_len {R : Rw} {h w s : Nat} {q : Pq} (hq : q ∈ candS R h w s) : q.1.length = s := by
  unfold candS candI at hq
  obtain ⟨I, hI, hq⟩ := List.mem_flatMap.mp hq
  obtain ⟨P, _, rfl⟩ := List.mem_map.mp hq
  exact (mem_some.mp hI).2.2
theorem lawL_sorted {R : Rw} {h w : Nat} : (lawL R h w).Pairwise LtQ := by
  refine List.Pairwise.sublist List.filter_sublist ?_
  unfold cand
  rw [List.pairwise_flatMap]
  refine ⟨fun s _ => ?_, ?_⟩
  · unfold candS
    rw [List.pairwise_flatMap]
    refine ⟨fun I _ => ?_, ?_⟩
    · unfold candI
      rw [List.pairwise_map]
      refine List.Pairwise.imp_of_mem (fun {P Q} hP hQ hlt => ?_) (some_sorted s)
      exact .inr ⟨rfl, .inr ⟨rfl, map_lt (n := (tw R w I s).length) (fun a b => pick_mono tw_asc a b) (mem_some.mp hP).2.1 (mem_some.mp hQ).2.1 hlt⟩⟩
    · refine List.Pairwise.imp_of_mem (fun {I K} hI hK hlt x hx y hy => ?_) (some_sorted s)
      obtain ⟨P, _, rfl⟩ := List.mem_map.mp hx
      obtain ⟨Q, _, rfl⟩ := List.mem_map.mp hy
      exact .inr ⟨by rw [(mem_some.mp hI).2.2, (mem_some.mp hK).2.2], .inl hlt⟩
  · have key : ∀ s t, s < t → ∀ x ∈ candS R h w s, ∀ y ∈ candS R h w t, LtQ x y := fun s t hst x hx y hy => .inl (by rw [candS_len hx, candS_len hy]; exact hst)
    simp only [List.pairwise_cons, List.mem_cons, List.not_mem_nil, or_false, forall_eq_or_imp, forall_eq]
    exact ⟨⟨key 3 5 (by omega), key 3 7 (by omega)⟩, key 5 7 (by omega), by simp⟩
/-- what the program tells is what the law finds -/
theorem rings_same {R : Rw} {h w : Nat} {L : List Pq} (hl : R.length = h) (h8 : h ≤ 8) (g : G01 w R) (nd : L.Nodup) (hm : ∀ q, q ∈ L ↔ Ring h w R q) : srtR L = lawL R h w :=
  srtR_eq nd lawL_sorted fun q => by rw [hm q, mem_lawL, law_ring hl h8 g]
end Rg
/-! # rings: the law's functions -/
namespace Rg
open PySem PySem.W L2 Ev Bd Sp
/-! hanging together, by sweeps -/
def nr (R : Rw) (J s : List Int) (j : Int) : Bool := J.any fun k => bit R j k && s.any fun i => bit R i k
def stp (R : Rw) (J s : List Int) (j : Int) : List Int := if j ∉ s ∧ nr R J s j = true then s ++ [j] else s
def swp (R : Rw) (I J s : List Int) : List Int := I.foldl (stp R J) s
def swps (R : Rw) (I J : List Int) : Nat → List Int
  | 0 => [at_ I 0]
  | n + 1 => swp R I J (swps R I J n)
section
variable {R : Rw} {I J s : List Int} {j : Int}
theorem stp_le : s.length ≤ (stp R J s j).length := by unfold stp; split <;> simp
theorem swp_le : ∀ {K s : List Int}, s.length ≤ (K.foldl (stp R J) s).length
  | [], s => Nat.le_refl _
  | j :: K, s => Nat.le_trans stp_le (swp_le (K := K) (s := stp R J s j))
theorem stp_inv (P : List Int → Prop) (h : ∀ s j, j ∈ I → P s → j ∉ s → nr R J s j = true → P (s ++ [j])) : ∀ {K s : List Int}, (∀ j ∈ K, j ∈ I) → P s → P (K.foldl (stp R J) s)
  | [], s, _, p => p
  | j :: K, s, hK, p => by
    refine stp_inv P h (K := K) (fun x hx => hK x (List.mem_cons_of_mem _ hx)) ?_
    unfold stp
    split
    · rename_i hc; exact h s j (hK j (List.mem_cons_self ..)) p hc.1 hc.2
    · exact p
theorem swps_inv (P : List Int → Prop) (h0 : P [at_ I 0]) (h : ∀ s j, j ∈ I → P s → j ∉ s → nr R J s j = true → P (s ++ [j])) : ∀ n, P (swps R I J n)
  | 0 => h0
  | n + 1 => stp_inv P h (fun _ h => h) (swps_inv P h0 h n)
theorem swp_fix : ∀ {K s : List Int}, K.foldl (stp R J) s = s → ∀ j ∈ K, ¬ (j ∉ s ∧ nr R J s j = true)
  | [], s, _, j, hj => by simp at hj
  | k :: K, s, e, j, hj => by
    rw [List.foldl_cons] at e
    have hk : ¬ (k ∉ s ∧ nr R J s k = true) := fun hc => by
      have h1 := swp_le (R := R) (J := J) (K := K) (s := stp R J s k)
      rw [e] at h1
      unfold stp at h1
      rw [if_pos hc] at h1
      simp only [List.length_append, List.length_singleton] at h1
      omega
    have e1 : stp R J s k = s := by unfold stp; rw [if_neg hk]
    rw [e1] at e
    rcases List.mem_cons.mp hj with rfl | hj
    · exact hk
    · exact swp_fix e j hj
theorem swps_grow : ∀ n, (∃ m, m < n ∧ swps R I J (m + 1) = swps R I J m) ∨ n < (swps R I J n).length
  | 0 => .inr (by simp [swps])
  | n + 1 => by
    rcases swps_grow n with ⟨m, h1, h2⟩ | h
    · exact .inl ⟨m, by omega, h2⟩
    · by_cases he : swps R I J (n + 1) = swps R I J n
      · exact .inl ⟨n, by omega, he⟩
      · right
        -- a step that changes something adds one at least
        have key : ∀ (K s : List Int), K.foldl (stp R J) s ≠ s → s.length < (K.foldl (stp R J) s).length := by
          intro K
          induction K with
          | nil => intro s h; exact absurd rfl h
          | cons j K ih =>
            intro s h
            rw [List.foldl_cons] at h ⊢
            by_cases hc : j ∉ s ∧ nr R J s j = true
            · have : s.length < (stp R J s j).length := by unfold stp; rw [if_pos hc]; simp
              exact Nat.lt_of_lt_of_le this swp_le
            · have e1 : stp R J s j = s := by unfold stp; rw [if_neg hc]
              rw [e1] at h ⊢
              exact ih s h
        have := key I (swps R I J n) he
        show n + 1 < (I.foldl (stp R J) (swps R I J n)).length
        omega
theorem swps_stay {m : Nat} (h : swps R I J (m + 1) = swps R I J m) : ∀ d, swps R I J (m + d) = swps R I J m
  | 0 => rfl
  | d + 1 => by
    show swp R I J (swps R I J (m + d)) = _
    rw [swps_stay h d]; exact h
theorem hang_iff (hI : 0 < I.length) (nd : I.Nodup) : (swps R I J I.length).length = I.length ↔ Hang R I J := by
  have sub : ∀ n, ∀ x ∈ swps R I J n, x ∈ I := fun n => swps_inv (fun s => ∀ x ∈ s, x ∈ I) (fun x hx => by rw [List.mem_singleton.mp hx]; exact at_mem hI) (fun s j hj p _ _ x hx => by
    rcases List.mem_append.mp hx with hx | hx
    · exact p x hx
    · rw [List.mem_singleton.mp hx]; exact hj) n
  have snd : ∀ n, (swps R I J n).Nodup := fun n => swps_inv (fun s => s.Nodup) (by simp) (fun s j hj p hn _ => by
    rw [List.nodup_append]
    exact ⟨p, by simp, fun a ha b hb => by rw [List.mem_singleton.mp hb]; rintro rfl; exact hn ha⟩) n
  constructor
  · intro hlen P h0 hs j hj
    have all : ∀ x ∈ swps R I J I.length, P x := swps_inv (fun s => (∀ x ∈ s, x ∈ I) ∧ ∀ x ∈ s, P x) ⟨fun x hx => by rw [List.mem_singleton.mp hx]; exact at_mem hI, fun x hx => by rw [List.mem_singleton.mp hx]; exact h0⟩ (fun s j hj p _ hn => by
      refine ⟨fun x hx => ?_, fun x hx => ?_⟩
      · rcases List.mem_append.mp hx with hx | hx
        · exact p.1 x hx
        · rw [List.mem_singleton.mp hx]; exact hj
      · rcases List.mem_append.mp hx with hx | hx
        · exact p.2 x hx
        · rw [List.mem_singleton.mp hx]
          unfold nr at hn
          obtain ⟨k, hk, hb⟩ := List.any_eq_true.mp hn
          rw [Bool.and_eq_true] at hb
          obtain ⟨i, hi, hb2⟩ := List.any_eq_true.mp hb.2
          exact hs i (p.1 i hi) j hj k hk (p.2 i hi) hb2 hb.1) I.length |>.2
    apply all
    apply Classical.byContradiction
    intro hn
    have := nodup_le (l := j :: swps R I J I.length) (m := I) (List.nodup_cons.mpr ⟨hn, snd _⟩) fun x hx => by
      rcases List.mem_cons.mp hx with rfl | hx
      · exact hj
      · exact sub _ x hx
    simp at this; omega
  · intro H
    have hle := nodup_le (snd I.length) (sub I.length)
    obtain ⟨m, hm, hfix⟩ : ∃ m, m < I.length ∧ swps R I J (m + 1) = swps R I J m := by
      rcases swps_grow (R := R) (I := I) (J := J) I.length with h | h
      · exact h
      · omega
    have hst : swps R I J I.length = swps R I J m := by
      obtain ⟨d, hd⟩ := Nat.exists_eq_add_of_le (Nat.le_of_lt hm)
      rw [hd]; exact swps_stay hfix d
    have h0 : at_ I 0 ∈ swps R I J m := swps_inv (fun s => at_ I 0 ∈ s) (by simp) (fun s j _ p _ _ => List.mem_append_left _ p) m
    have all := H (· ∈ swps R I J m) h0 fun i hi j hj k hk hiS b1 b2 => by
      apply Classical.byContradiction
      intro hn
      refine swp_fix hfix j hj ⟨hn, ?_⟩
      exact List.any_eq_true.mpr ⟨k, hk, by rw [b2]; exact List.any_eq_true.mpr ⟨i, hiS, b1⟩⟩
    have := nodup_le nd (m := swps R I J m) all
    rw [hst] at hle ⊢
    omega
end
/-! evaluations -/
section
variable {cal : Nat → List D → M D} {S : Store}
theorem eq_nilT {e : List Int} : pEq (tI e) (.tup []) S = some (.bl e.isEmpty, S) := by
  have hd : (PyData.tuple (e.map PyData.int)).depth ≤ 60 := by
    simp only [PyData.depth]
    have := depthAll_le (d := 1) (ps := e.map PyData.int) fun p hp => by
      obtain ⟨i, _, rfl⟩ := List.mem_map.mp hp
      simp [PyData.depth]
    omega
  have e2 : toPS S (.tup []) = some (.tuple []) := rfl
  have e3 : PyData.eqv (.tuple (e.map PyData.int)) (.tuple []) = e.isEmpty := by
    cases e with
    | nil => simp [PyData.eqv, PyData.eqvAll]
    | cons x e => simp [PyData.eqv, PyData.eqvAll]
  have e1 : toPS S (tI e) = some (.tuple (e.map PyData.int)) := by simp only [toPS, toPSs_ints, Option.map_some]
  simp only [pEq, eqD, e1, e2, hd, if_true, e3, Option.map_some]
theorem ix_lastT {p : List Int} (h : 0 < p.length) : pIx (tI p) (.int (-1)) S = some (.int (at_ p (p.length - 1)), S) := by
  have e : atI (iD p) (-1) = some (.int (at_ p (p.length - 1))) := by
    unfold atI ixN
    rw [iD_len]
    have h1 : ¬ (0 : Int) ≤ -1 := by omega
    have h2 : ((-1 : Int) + (p.length : Int)).toNat = p.length - 1 := by omega
    have h3 : (0 : Int) ≤ -1 + (p.length : Int) := by omega
    have hl : p.length - 1 < p.length := by omega
    have h4 : (1 : Int) ≤ (p.length : Int) := by omega
    simp [h1, h2, h3, h4, iD, at_, List.getD_eq_getElem?_getD, hl]
  simp only [pIx, seqOf, Option.bind_some, e, Option.map_some]
theorem some_ev {n s : Nat} (hn : n ≤ 8) (hs : s ≤ 8) : funM 7 2 (b__law_some cal) [.int n, .int s] S = .ok (lotsL (someL n s)) S := by
  have bnd : ∀ k, (someL n k).length ≤ 256 := fun k => Nat.le_trans some_len (Nat.le_trans (Nat.pow_le_pow_right (by omega) hn) (by decide))
  let δ0 : D → Option D → Option D → Option D → En := fun d2 o3 o4 o5 => [some (.int n), some (.int s), some d2, o3, o4, o5, none]
  let inner : MS := (sAsg (eOp pAdd (eVar 4) (eLc newL (iR1 (aCons (eVar 0) aNil)) (uNm 6) (tOrM (fun δ => asB (eOp pEq (eVar 5) (eTup aNil) δ)) (fun δ => asB (eOp pGt (eVar 6) (eOp pIx (eVar 5) (eUn pNeg (eC (.int 1)))) δ))) (eOp pAdd (eVar 5) (eTup (aCons (eVar 6) aNil))) [6])) (gNm 4))
  have hin : ∀ (d2 : D) o3 (acc : Rw) (e : List Int), acc.length ≤ 20000 → e.length ≤ 8 → inner (δ0 d2 o3 (some (lotsL acc)) (some (tI e))) S = .nx (δ0 d2 o3 (some (lotsL (acc ++ ((rng n).filter (lastOk e)).map fun k => e ++ [k]))) (some (tI e))) S := fun d2 o3 acc e ha he => by
    have ec := lc_filE (S := S) (mt := tOrM (fun δ => asB (eOp pEq (eVar 5) (eTup aNil) δ)) (fun δ => asB (eOp pGt (eVar 6) (eOp pIx (eVar 5) (eUn pNeg (eC (.int 1)))) δ))) (me := eOp pAdd (eVar 5) (eTup (aCons (eVar 6) aNil))) (δ0 := wipeD (δ0 d2 o3 (some (lotsL acc)) (some (tI e))) [6]) (k := 6) D.int tI (lastOk e) (fun k => e ++ [k]) (zs := rng n) (by rw [rng_length]; exact small (by omega)) (fun k hk => by
      cases e with
      | nil => exact tOr_t (asB_ok (eOp_ok rfl (eTup_ok rfl (small (by simp))) (eq_nilT (e := []))))
      | cons x e => exact tOr_f (asB_ok (eOp_ok rfl (eTup_ok rfl (small (by simp))) (eq_nilT (e := x :: e)))) (asB_ok (eOp_ok rfl (eOp_ok rfl (eUn_ok rfl rfl) (ix_lastT (by simp))) (by rw [pGt_ii]; simp [lastOk])))) (fun k hk _ => by
      refine eOp_ok rfl (eTup_ok (aCons_ok rfl rfl) (small (by simp))) ?_
      rw [show Sp.tI (e ++ [k]) = .tup (iD e ++ [.int k]) by rw [Sp.tI, iD_app]; rfl]
      exact add_tt (by rw [iD_len]; simp; exact small (by omega)))
    rw [show (rng n).map D.int = rngD 0 n from rngD_eq.symm] at ec
    have hfl := List.length_filter_le (lastOk e) (rng n)
    rw [rng_length] at hfl
    refine sAsg_ok (d := lotsL (acc ++ ((rng n).filter (lastOk e)).map fun k => e ++ [k])) (S1 := S) (eOp_ok rfl (eLc_ok (iR1_ok (k := n) (aCons_ok rfl rfl) (by omega)) ec (newL_ev (by rw [List.length_map, List.length_map]; exact small (by omega)))) ?_) rfl
    rw [add_ll (by simp; exact small (by omega)), lotsL, List.map_append]
  have hmid : ∀ k, k < 8 → ∀ o3 o5, ∃ o5', loopF (gNm 5) inner ((someL n k).map tI) (δ0 (lotsL (someL n k)) o3 (some (lotsL [])) o5) S = .nx (δ0 (lotsL (someL n k)) o3 (some (lotsL (someL n (k + 1)))) o5') S := fun k hk o3 o5 => by
    have hlen : ∀ f ∈ someL n k, f.length ≤ 8 := fun f hf => by have := (mem_some.mp hf).2.2; omega
    have bk := bnd k
    have key : ∀ (Z acc : Rw) o5, (∀ f ∈ Z, f.length ≤ 8) → acc.length + 8 * Z.length ≤ 20000 → ∃ o5', loopF (gNm 5) inner (Z.map tI) (δ0 (lotsL (someL n k)) o3 (some (lotsL acc)) o5) S = .nx (δ0 (lotsL (someL n k)) o3 (some (lotsL (acc ++ Z.flatMap fun e => ((rng n).filter (lastOk e)).map fun k => e ++ [k]))) o5') S := by
      intro Z
      induction Z with
      | nil => intro acc o5 _ _; exact ⟨o5, by simp [loopF]⟩
      | cons f Z ih =>
        intro acc o5 hz hl
        have hfl := List.length_filter_le (lastOk f) (rng n)
        rw [rng_length] at hfl
        simp only [List.length_cons] at hl
        obtain ⟨o, e⟩ := ih (acc ++ ((rng n).filter (lastOk f)).map fun k => f ++ [k]) (some (tI f)) (fun x hx => hz x (List.mem_cons_of_mem _ hx)) (by simp; omega)
        refine ⟨o, ?_⟩
        rw [List.map_cons, loop_nx rfl (hin _ _ _ _ (by omega) (hz f (List.mem_cons_self ..))), e]
        congr 3
        simp [List.flatMap_cons]
    obtain ⟨o, e⟩ := key (someL n k) [] o5 hlen (by simp; omega)
    rw [List.nil_append] at e
    exact ⟨o, e⟩
  obtain ⟨δ2, S2, e2, ⟨o3, o4, o5, rfl⟩, hS⟩ := loop_inv (mg := gNm 3) (mb := (sSeq (sAsg (eLst aNil) (gNm 4))
    (sSeq (sFor (iAny (eVar 2)) (gNm 5) inner)
    (sAsg (eVar 4) (gNm 2)))))
    (ds := rngD 0 s) (δ := δ0 (lotsL (someL n 0)) none none none) (S := S)
    (fun k δ S' => (∃ o3 o4 o5, δ = δ0 (lotsL (someL n k)) o3 o4 o5) ∧ S' = S) (by
      rintro k δ S' hk ⟨⟨o3, o4, o5, rfl⟩, hS'⟩
      rw [hS']
      rw [rng_get]
      rw [rng_len] at hk
      refine ⟨_, _, rfl, ?_⟩
      obtain ⟨o5', e⟩ := hmid k (by omega) (some (.int k)) o5
      exact ⟨_, _, sSeq_nx (sAsg_ok (eLst_ok rfl (small (by simp))) rfl) (sSeq_nx (sFor_ok (iAny_ok rfl rfl) e) (sAsg_ok rfl rfl)), ⟨_, _, _, rfl⟩, rfl⟩) ⟨⟨_, _, _, rfl⟩, rfl⟩
  rw [rng_len, hS] at e2
  unfold b__law_some
  exact funM_rt rfl (sSeq_nx (sAsg_ok (eLst_ok (aCons_ok (eTup_ok rfl (small (by simp))) rfl) (small (by simp))) rfl) (sSeq_nx (sFor_ok (iR1_ok (k := s) (aCons_ok rfl rfl) (by omega)) e2) (sRet_ok rfl)))
/-- a digit of a grid -/
theorem grid_at {R : Rw} {w : Nat} (g : G01 w R) {δ : En} {ma mb mc : ME} {j k : Int} (j0 : 0 ≤ j) (j1 : j < R.length) (k0 : 0 ≤ k) (k1 : k < w) (ha : ma δ S = .ok (rowsL R) S) (hb : mb δ S = .ok (.int j) S) (hc : mc δ S = .ok (.int k) S) : eOp pIx (eOp pIx ma mb) mc δ S = .ok (.int (val R j k)) S := by
  have hr : R.getD j.toNat [] ∈ R := by
    rw [List.getD_eq_getElem?_getD, List.getElem?_eq_getElem (show j.toNat < R.length by omega)]
    exact List.getElem_mem _
  exact eOp_ok (eOp_ok ha hb (ix_rL j0 j1)) hc (ix_lI k0 (by rw [(g _ hr).1]; exact k1))
theorem twos_ev {R : Rw} {h w s : Nat} {I : List Int} (hl : R.length = h) (h0 : 0 < h) (g : G01 w R) (w8 : w ≤ 8) (hI : ∀ i ∈ I, 0 ≤ i ∧ i < h) (hIl : I.length ≤ 8) : funM 6 3 (b__law_twos cal) [rowsL R, tI I, .int s] S = .ok (lI (tw R w I s)) S := by
  have w0 : (R.getD 0 []).length = w := by
    rw [List.getD_eq_getElem?_getD, List.getElem?_eq_getElem (show 0 < R.length by omega)]
    exact (g _ (List.getElem_mem _)).1
  have e1 := lc_filE (S := S) (mt := fun δ => asB (eOp pEq (eCallV (pSum) (aCons (eLc newL (iAny (eVar 1)) (uNm 5) tYesM (eOp pIx (eOp pIx (eVar 0) (eVar 5)) (eVar 4)) [5]) aNil)) (eC (.int 2)) δ)) (me := eVar 4) (δ0 := wipeD [some (rowsL R), some (tI I), some (.int s), none, none, none] [4]) (k := 4) D.int D.int (fun k => (I.map fun j => val R j k).sum == 2) id (zs := rng w) (by rw [rng_length]; exact small (by omega)) (fun k hk => by
    have hk := mem_rng.mp hk
    have e := lc_mapE (S := S) (me := eOp pIx (eOp pIx (eVar 0) (eVar 5)) (eVar 4)) (δ0 := wipeD [some (rowsL R), some (tI I), some (.int s), none, some (.int k), none] [5]) (k := 5) D.int D.int (fun j => val R j k) (zs := I) (small (by omega)) (fun j hj => grid_at g (hI j hj).1 (by have := (hI j hj).2; omega) hk.1 hk.2 rfl rfl rfl)
    exact asB_ok (eOp_ok (eCallV_ok (aCons_ok (eLc_ok (iAny_ok rfl rfl) e (newL_ev (by rw [List.length_map, List.length_map]; exact small (by omega)))) rfl) sum_lI) rfl pEq_ii)) (fun k hk _ => rfl)
  rw [List.map_id, show (rng w).map D.int = rngD 0 w from rngD_eq.symm] at e1
  have hfl := List.length_filter_le (fun k => (I.map fun j => val R j k).sum == 2) (rng w)
  rw [rng_length] at hfl
  unfold b__law_twos
  have hif : eIf (fun δ => asB (eOp pGe (eCallV (pLen) (aCons (eVar 3) aNil)) (eVar 2) δ)) (eVar 3) (eLst aNil) [some (rowsL R), some (tI I), some (.int s), some (lI (twosL R w I)), none, none] S = .ok (lI (tw R w I s)) S := by
    unfold tw
    by_cases hc : (s : Int) ≤ (twosL R w I).length
    · rw [if_pos hc]
      exact eIf_t (asB_ok (eOp_ok (eCallV_ok (aCons_ok rfl rfl) len_lI) rfl (by rw [pGe_ii, decide_eq_true hc]))) rfl
    · rw [if_neg hc]
      exact eIf_f (asB_ok (eOp_ok (eCallV_ok (aCons_ok rfl rfl) len_lI) rfl (by rw [pGe_ii, decide_eq_false hc]))) (eLst_ok rfl (Nat.zero_le _))
  exact funM_rt rfl (sSeq_nx (sAsg_ok (eLc_ok (iR1_ok (k := w) (aCons_ok (eCallV_ok (aCons_ok (eOp_ok rfl rfl (ix_rL (by omega) (by omega))) rfl) (by rw [show (0 : Int).toNat = 0 from rfl, len_lI, w0])) rfl) (by omega)) e1 (newL_ev (by rw [List.length_map]; exact small (by omega)))) rfl) (sRet_ok hif))
end
end Rg
/-! # rings: the law's search walked -/
namespace Rg
open PySem PySem.W L2 Ev Bd Sp
section
variable {cal : Nat → List D → M D} {S : Store}
theorem chk_ok {u : Nat} {ns : List Int} (h : S[u]? = some (some (.lst (iD ns)))) : chk u ns S = true := by
  unfold chk
  rw [h]
  exact decide_eq_true (ints_iD ns)
theorem lcR_filE {β : Type} {me : ME} {mt : MT} {δ0 : En} {k u : Nat} {ns : List Int} (hk : chk u ns S = true) (enc' : β → D) (q : Int → Bool) (g : Int → β) {zs : List Int} (hl : zs.length ≤ sizeLine) (h1 : ∀ x ∈ zs, mt (δ0.set k (some (.int x))) S = .ok (q x) S) (h : ∀ x ∈ zs, q x = true → me (δ0.set k (some (.int x))) S = .ok (enc' (g x)) S) :
    loopCR u ns (uNm k) mt me δ0 (zs.map D.int) [] S = .ok (((zs.filter q).map g).map enc') S := by
  have key : ∀ (zs : List Int) (acc : List D), acc.length + zs.length ≤ sizeLine → (∀ x ∈ zs, mt (δ0.set k (some (.int x))) S = .ok (q x) S) → (∀ x ∈ zs, q x = true → me (δ0.set k (some (.int x))) S = .ok (enc' (g x)) S) → loopCR u ns (uNm k) mt me δ0 (zs.map D.int) acc S = .ok (acc ++ ((zs.filter q).map g).map enc') S := by
    intro zs
    induction zs with
    | nil => intro acc _ _ _; simp [loopCR, hk]
    | cons x zs ih =>
      intro acc hl h1 h
      have e1 := h1 x (List.mem_cons_self ..)
      simp only [List.length_cons] at hl
      have ih2 := fun acc hl => ih acc hl (fun y hy => h1 y (List.mem_cons_of_mem _ hy)) fun y hy => h y (List.mem_cons_of_mem _ hy)
      cases hq : q x with
      | false =>
        rw [hq] at e1
        simp only [List.map_cons, loopCR, hk, if_true, uNm, setsD, M.bind, noX, e1, List.filter_cons, hq, Bool.false_eq_true, if_false]
        exact ih2 acc (by omega)
      | true =>
        rw [hq] at e1
        have e2 := h x (List.mem_cons_self ..) hq
        simp only [List.map_cons, loopCR, hk, if_true, uNm, setsD, M.bind, noX, e1, e2, List.filter_cons, hq]
        rw [if_pos (by omega), ih2 (acc ++ [enc' (g x)]) (by simp; omega)]
        simp
  have := key zs [] (by simpa using hl) h1 h
  simpa using this
theorem eLcR_ok {fin : List D → PO} {mi : ME} {up : UpD} {mt : MT} {me : ME} {vs : List Nat} {δ : En} {u : Nat} {ns : List Int} {ys : List D} {z : D} {S2 : Store} (h : mi δ S = .ok (.ref u) S) (hc : S[u]? = some (some (.lst (iD ns)))) (hl : loopCR u ns up mt me (wipeD δ vs) (ns.map D.int) [] S = .ok ys S) (hf : fin ys S = some (z, S2)) : eLcR fin mi up mt me vs δ S = .ok z S2 := by
  simp only [eLcR, M.bind, h, hc, ints_iD, hl, lft, hf]
theorem notin_refx {j : Nat} {r : List Int} {x : Int} (h : S[j]? = some (some (.lst (iD r)))) : pNotIn (.int x) (.ref j) S = some (.bl (!decide (x ∈ r)), S) := by
  simp only [pNotIn, inD, toPS_ref h]
  simp only [toPS, PyData.depth, Nat.zero_le, if_true, any_int, Option.map_some]
theorem eq_lI {a b : List Int} : pEq (lI a) (lI b) S = some (.bl (decide (a = b)), S) := by
  have hd : (PyData.list (a.map PyData.int)).depth ≤ 60 := by
    simp only [PyData.depth]
    have := depthAll_le (d := 1) (ps := a.map PyData.int) fun p hp => by
      obtain ⟨i, _, rfl⟩ := List.mem_map.mp hp
      simp [PyData.depth]
    omega
  have e1 : ∀ a : List Int, toPS S (lI a) = some (.list (a.map PyData.int)) := fun a => by simp only [toPS, toPSs_ints, Option.map_some]
  have e3 : PyData.eqv (.list (a.map PyData.int)) (.list (b.map PyData.int)) = decide (a = b) := by simp only [PyData.eqv, eqvAll_i]
  simp only [pEq, eqD, e1, hd, if_true, e3, Option.map_some]
theorem mul_rep {v : Int} {n : Nat} (hn : n ≤ 1000) : pMul (.lst [.int v]) (.int (n : Int)) S = some (lI (List.replicate n v), S) := by
  have e0 : (List.replicate n [D.int v]).flatten = iD (List.replicate n v) := by
    clear hn
    induction n with
    | zero => rfl
    | succ w ih => simp [List.replicate_succ, iD] at ih ⊢
  have hl : (iD (List.replicate n v)).length ≤ sizeLine := by rw [iD_len, List.length_replicate]; exact small (by omega)
  have hc : -(2 ^ 63) ≤ (n : Int) ∧ (n : Int) < 2 ^ 63 ∧ [D.int v].length * (n : Int).toNat ≤ sizeLine := by
    refine ⟨by omega, by omega, ?_⟩
    simp only [List.length_singleton, Nat.one_mul, Int.toNat_natCast]
    exact small (by omega)
  simp only [pMul, plstOf]
  rw [if_pos hc, Int.toNat_natCast, e0, newL_ev hl]
def orBody : MS := (sSeq (sAsg (eLc newL (iAny (eVar 2)) (uNm 7) (tAndM (fun δ => asB (eOp pEq (eOp pIx (eOp pIx (eVar 0) (eVar 5)) (eVar 7)) (eC (.int 1)) δ)) (fun δ => asB (eOp pNe (eLcR newL (eVar 3) (uNm 8) (fun δ => asB (eOp pEq (eOp pIx (eOp pIx (eVar 0) (eVar 8)) (eVar 7)) (eC (.int 1)) δ)) (eVar 8) [8]) (eLst aNil) δ))) (eVar 7) [7]) (gNm 6))
    (sIf (tAndM (fun δ => asB (eOp pNotIn (eVar 5) (eVar 3) δ)) (fun δ => asB (eOp pNe (eVar 6) (eLst aNil) δ))) (sExpr (eMB "list" pAppend (eVar 3) (aCons (eVar 5) aNil))) sNext))
theorem orBody_ev {R : Rw} {h w u : Nat} {I J s : List Int} {j : Int} {o4 o6 : Option D} (hl : R.length = h) (g : G01 w R) (hI : ∀ i ∈ I, 0 ≤ i ∧ i < h) (hJ : ∀ k ∈ J, 0 ≤ k ∧ k < w) (hJl : J.length ≤ 8) (hs : ∀ x ∈ s, x ∈ I) (hsl : s.length ≤ 1000) (hj : j ∈ I) (hc : S[u]? = some (some (.lst (iD s)))) :
    ∃ o6', orBody [some (rowsL R), some (tI I), some (tI J), some (.ref u), o4, some (.int j), o6, none, none] S = .nx [some (rowsL R), some (tI I), some (tI J), some (.ref u), o4, some (.int j), o6', none, none] (S.set u (some (.lst (iD (stp R J s j))))) := by
  have rj := hI j hj
  have hst : S.set u (some (.lst (iD s))) = S := by
    have hlt := (List.getElem?_eq_some_iff.mp hc).1
    apply List.ext_getElem?
    intro i
    by_cases hi : u = i
    · subst hi; rw [List.getElem?_set_self hlt, hc]
    · rw [List.getElem?_set_ne hi]
  let nl := J.filter fun k => bit R j k && s.any fun i => bit R i k
  have e6 := lc_filE (S := S) (mt := tAndM (fun δ => asB (eOp pEq (eOp pIx (eOp pIx (eVar 0) (eVar 5)) (eVar 7)) (eC (.int 1)) δ)) (fun δ => asB (eOp pNe (eLcR newL (eVar 3) (uNm 8) (fun δ => asB (eOp pEq (eOp pIx (eOp pIx (eVar 0) (eVar 8)) (eVar 7)) (eC (.int 1)) δ)) (eVar 8) [8]) (eLst aNil) δ))) (me := eVar 7) (δ0 := wipeD [some (rowsL R), some (tI I), some (tI J), some (.ref u), o4, some (.int j), o6, none, none] [7]) (k := 7) D.int D.int (fun k => bit R j k && s.any fun i => bit R i k) id (zs := J) (small (by omega)) (fun k hk => by
    have rk := hJ k hk
    refine tand_b (asB_ok (eOp_ok (grid_at g rj.1 (by omega) rk.1 rk.2 rfl rfl rfl) rfl pEq_ii)) (fun _ => ?_)
    have e8 := lcR_filE (S := S) (chk_ok hc) (mt := fun δ => asB (eOp pEq (eOp pIx (eOp pIx (eVar 0) (eVar 8)) (eVar 7)) (eC (.int 1)) δ)) (me := eVar 8) (δ0 := wipeD [some (rowsL R), some (tI I), some (tI J), some (.ref u), o4, some (.int j), o6, some (.int k), none] [8]) (k := 8) D.int (fun i => bit R i k) id (zs := s) (small (by omega)) (fun i hi => by
      have ri := hI i (hs i hi)
      exact asB_ok (eOp_ok (grid_at g ri.1 (by omega) rk.1 rk.2 rfl rfl rfl) rfl pEq_ii)) (fun i hi _ => rfl)
    rw [List.map_id] at e8
    have hfl := List.length_filter_le (fun i => bit R i k) s
    refine asB_ok (eOp_ok (eLcR_ok rfl hc e8 (newL_ev (by rw [List.length_map]; exact small (by omega)))) (eLst_ok rfl (Nat.zero_le _)) (ne_nilI.trans ?_))
    congr 3
    rw [Bool.eq_iff_iff]
    simp [List.isEmpty_iff, List.filter_eq_nil_iff]) (fun k hk _ => rfl)
  rw [List.map_id] at e6
  have hfl := List.length_filter_le (fun k => bit R j k && s.any fun i => bit R i k) J
  have a6 : sAsg (eLc newL (iAny (eVar 2)) (uNm 7) (tAndM (fun δ => asB (eOp pEq (eOp pIx (eOp pIx (eVar 0) (eVar 5)) (eVar 7)) (eC (.int 1)) δ)) (fun δ => asB (eOp pNe (eLcR newL (eVar 3) (uNm 8) (fun δ => asB (eOp pEq (eOp pIx (eOp pIx (eVar 0) (eVar 8)) (eVar 7)) (eC (.int 1)) δ)) (eVar 8) [8]) (eLst aNil) δ))) (eVar 7) [7]) (gNm 6) [some (rowsL R), some (tI I), some (tI J), some (.ref u), o4, some (.int j), o6, none, none] S = .nx [some (rowsL R), some (tI I), some (tI J), some (.ref u), o4, some (.int j), some (lI nl), none, none] S :=
    sAsg_ok (eLc_ok (iAny_ok rfl rfl) e6 (newL_ev (by rw [List.length_map]; exact small (by omega)))) rfl
  have hnr : (!nl.isEmpty) = nr R J s j := by
    unfold nr
    rw [Bool.eq_iff_iff]
    simp [nl, List.isEmpty_iff, List.filter_eq_nil_iff]
  have tt : tAndM (fun δ => asB (eOp pNotIn (eVar 5) (eVar 3) δ)) (fun δ => asB (eOp pNe (eVar 6) (eLst aNil) δ)) [some (rowsL R), some (tI I), some (tI J), some (.ref u), o4, some (.int j), some (lI nl), none, none] S = .ok (!decide (j ∈ s) && nr R J s j) S :=
    tand_b (asB_ok (eOp_ok rfl rfl (notin_refx hc))) (fun _ => asB_ok (eOp_ok rfl (eLst_ok rfl (Nat.zero_le _)) (ne_nilI.trans (by rw [hnr]))))
  refine ⟨some (lI nl), ?_⟩
  unfold orBody stp
  by_cases hcond : j ∉ s ∧ nr R J s j = true
  · rw [if_pos hcond]
    have happ := app_ref (y := .int j) hc (Nat.lt_of_lt_of_le (show (iD s).length < 1000000 by rw [iD_len]; omega) (small (Nat.le_refl _)))
    rw [show iD s ++ [D.int j] = iD (s ++ [j]) by rw [iD_app]; rfl] at happ
    exact sSeq_nx a6 (sIf_t (tt.trans (by simp [hcond.1, hcond.2])) (sExpr_ok (eMB_ok rfl (ty_ref hc) (aCons_ok rfl rfl) happ)))
  · rw [if_neg hcond, hst]
    refine sSeq_nx a6 (sIf_f (tt.trans ?_) rfl)
    congr 1
    by_cases h1 : j ∈ s
    · simp [h1]
    · cases h2 : nr R J s j with
      | false => simp
      | true => exact absurd ⟨h1, h2⟩ hcond
theorem stp_sub {R : Rw} {I J s : List Int} {j : Int} (hs : ∀ x ∈ s, x ∈ I) (hj : j ∈ I) : ∀ x ∈ stp R J s j, x ∈ I := fun x hx => by
  unfold stp at hx
  split at hx
  · rcases List.mem_append.mp hx with hx | hx
    · exact hs x hx
    · rw [List.mem_singleton.mp hx]; exact hj
  · exact hs x hx
theorem stp_len {R : Rw} {J s : List Int} {j : Int} : (stp R J s j).length ≤ s.length + 1 := by unfold stp; split <;> simp
theorem one_ring_ev {R : Rw} {h w : Nat} {I J : List Int} (hl : R.length = h) (g : G01 w R) (hI : ∀ i ∈ I, 0 ≤ i ∧ i < h) (hI0 : 0 < I.length) (hI8 : I.length ≤ 8) (hJ : ∀ k ∈ J, 0 ≤ k ∧ k < w) (hJl : J.length ≤ 8) :
    ∃ S', funM 9 3 (b__law_one_ring cal) [rowsL R, tI I, tI J] S = .ok (.bl (decide ((swps R I J I.length).length = I.length))) S' ∧ Keep S S' := by
  let u := S.length
  let δ0 : Option D → Option D → Option D → En := fun o4 o5 o6 => [some (rowsL R), some (tI I), some (tI J), some (.ref u), o4, o5, o6, none, none]
  -- one sweep
  have sweep : ∀ (K s : List Int) (S' : Store) o4 o5 o6, (∀ j ∈ K, j ∈ I) → (∀ x ∈ s, x ∈ I) → s.length + K.length ≤ 1000 → S'[u]? = some (some (.lst (iD s))) → ∃ o5' o6', loopF (gNm 5) orBody (K.map D.int) (δ0 o4 o5 o6) S' = .nx (δ0 o4 o5' o6') (S'.set u (some (.lst (iD (K.foldl (stp R J) s))))) := by
    intro K
    induction K with
    | nil =>
      intro s S' o4 o5 o6 _ _ _ hc
      refine ⟨o5, o6, ?_⟩
      have hst : S'.set u (some (.lst (iD s))) = S' := by
        have hlt := (List.getElem?_eq_some_iff.mp hc).1
        apply List.ext_getElem?
        intro i
        by_cases hi : u = i
        · subst hi; rw [List.getElem?_set_self hlt, hc]
        · rw [List.getElem?_set_ne hi]
      show Fl.nx _ S' = Fl.nx _ (S'.set u (some (.lst (iD s))))
      rw [hst]
    | cons j K ih =>
      intro s S' o4 o5 o6 hK hs hle hc
      simp only [List.length_cons] at hle
      have hjI := hK j (List.mem_cons_self ..)
      obtain ⟨o6', eb⟩ := orBody_ev (S := S') (o4 := o4) (o6 := o6) hl g hI hJ hJl hs (by omega) hjI hc
      have hlt := (List.getElem?_eq_some_iff.mp hc).1
      have h1 := stp_len (R := R) (J := J) (s := s) (j := j)
      obtain ⟨a, b, e⟩ := ih (stp R J s j) (S'.set u (some (.lst (iD (stp R J s j))))) o4 (some (.int j)) o6' (fun x hx => hK x (List.mem_cons_of_mem _ hx)) (stp_sub hs hjI) (by omega) (by rw [List.getElem?_set_self hlt])
      refine ⟨a, b, ?_⟩
      rw [List.map_cons, loop_nx rfl eb]
      refine e.trans ?_
      rw [List.set_set]
      rfl
  have sub : ∀ n, (∀ x ∈ swps R I J n, x ∈ I) ∧ (swps R I J n).length ≤ 1 + 8 * n := by
    intro n
    induction n with
    | zero => exact ⟨fun x hx => by rw [List.mem_singleton.mp hx]; exact at_mem hI0, by simp [swps]⟩
    | succ n ih =>
      have gl : ∀ (K s : List Int), (K.foldl (stp R J) s).length ≤ s.length + K.length := by
        intro K
        induction K with
        | nil => intro s; simp
        | cons j K ih => intro s; have := ih (stp R J s j); have := stp_len (R := R) (J := J) (s := s) (j := j); simp only [List.foldl_cons, List.length_cons]; omega
      refine ⟨stp_inv (fun s => ∀ x ∈ s, x ∈ I) (fun s j hj p _ _ x hx => ?_) (fun _ h => h) ih.1, ?_⟩
      · rcases List.mem_append.mp hx with hx | hx
        · exact p x hx
        · rw [List.mem_singleton.mp hx]; exact hj
      · have := gl I (swps R I J n)
        show (I.foldl (stp R J) (swps R I J n)).length ≤ _
        omega
  obtain ⟨δ2, S2, e2, ⟨o4, o5, o6, rfl⟩, hc2, hk2⟩ := loop_inv (mg := gNm 4) (mb := sFor (iAny (eVar 1)) (gNm 5) orBody) (ds := rngD 0 I.length) (δ := δ0 none none none) (S := S ++ [some (.lst (iD [at_ I 0]))])
    (fun n δ S' => (∃ o4 o5 o6, δ = δ0 o4 o5 o6) ∧ S'[u]? = some (some (.lst (iD (swps R I J n)))) ∧ Keep S S') (by
      rintro n δ S' hn ⟨⟨o4, o5, o6, rfl⟩, hc, hk⟩
      rw [rng_get]
      rw [rng_len] at hn
      refine ⟨_, _, rfl, ?_⟩
      have hb := sub n
      obtain ⟨a, b, e⟩ := sweep I (swps R I J n) S' (some (.int n)) o5 o6 (fun _ h => h) hb.1 (by omega) hc
      refine ⟨_, _, sFor_ok (iAny_ok rfl rfl) e, ⟨_, _, _, rfl⟩, ?_, hk.set (Nat.le_refl _)⟩
      rw [List.getElem?_set_self (List.getElem?_eq_some_iff.mp hc).1]
      rfl) ⟨⟨_, _, _, rfl⟩, by simp [u, swps], Keep.app⟩
  rw [rng_len] at hc2
  refine ⟨S2, ?_, hk2⟩
  unfold b__law_one_ring
  refine funM_rt rfl (sSeq_nx (sAsg_ok (eLstC_ok (aCons_ok (eOp_ok rfl rfl (ix_tI (by omega) (by omega))) rfl) (small (by simp))) rfl) (sSeq_nx (sFor_ok (iR1_ok (k := I.length) (aCons_ok (eCallV_ok (aCons_ok rfl rfl) len_tI) rfl) (by omega)) e2) (sRet_ok (eOp_ok (eCallV_ok (aCons_ok rfl rfl) (pLen_ref hc2)) (eCallV_ok (aCons_ok rfl rfl) len_tI) ?_))))
  rw [pEq_ii, iD_len]
  congr 3
  rw [Bool.eq_iff_iff]
  simp only [beq_iff_eq, decide_eq_true_eq]
  omega
end
end Rg
/-! # rings: the law's list walked -/
namespace Rg
open PySem PySem.W L2 Ev Bd Sp
def pBody (cal : Nat → List D → M D) : MS := (sSeq (sAsg (eCallV pTuple (aCons (eLc newL (iAny (eVar 5)) (uNm 7) tYesM (eOp pIx (eVar 4) (eVar 7)) [7]) aNil)) (gNm 6))
    (sSeq (sAsg (eLc newL (iAny (eVar 3)) (uNm 9) tYesM (eCallV (pSum) (aCons (eLc newL (iAny (eVar 6)) (uNm 7) tYesM (eOp pIx (eOp pIx (eVar 0) (eVar 9)) (eVar 7)) [7]) aNil)) [9]) (gNm 8))
    (sIf (tAndM (fun δ => asB (eOp pEq (eVar 8) (eOp pMul (eLst (aCons (eC (.int 2)) aNil)) (eVar 2)) δ)) (fun δ => tru ((eCal (cal 55) (aCons (eVar 0) (aCons (eVar 3) (aCons (eVar 6) aNil)))) δ))) (sExpr (eMB "list" pAppend (eVar 1) (aCons (eTup (aCons (eVar 3) (aCons (eVar 6) aNil))) aNil))) sNext)))
def iBody (cal : Nat → List D → M D) : MS := (sSeq (sAsg (eCal (cal 56) (aCons (eVar 0) (aCons (eVar 3) (aCons (eVar 2) aNil)))) (gNm 4))
    (sFor (iAny (eCal (cal 54) (aCons (eCallV (pLen) (aCons (eVar 4) aNil)) (aCons (eVar 2) aNil)))) (gNm 5) (pBody cal)))
theorem rings49_eq {cal : Nat → List D → M D} : b__law_rings cal = (sSeq (sAsg (eLstC aNil) (gNm 1))
    (sSeq (sFor (iAny (eLst (aCons (eC (.int 3)) (aCons (eC (.int 5)) (aCons (eC (.int 7)) aNil))))) (gNm 2) (sFor (iAny (eCal (cal 54) (aCons (eCallV (pLen) (aCons (eVar 0) aNil)) (aCons (eVar 2) aNil)))) (gNm 3) (iBody cal)))
    (sRet (eFrz (eVar 1))))) := rfl
structure CR (cal : Nat → List D → M D) (R : Rw) (h w : Nat) : Prop where
  some : ∀ (n s : Nat) S, n ≤ 8 → s ≤ 8 → cal 54 [.int n, .int s] S = .ok (lotsL (someL n s)) S
  twos : ∀ (I : List Int) (s : Nat) S, (∀ i ∈ I, 0 ≤ i ∧ i < h) → I.length ≤ 8 → cal 56 [rowsL R, tI I, .int s] S = .ok (lI (tw R w I s)) S
  one : ∀ (I J : List Int) S, (∀ i ∈ I, 0 ≤ i ∧ i < h) → 0 < I.length → I.length ≤ 8 → (∀ k ∈ J, 0 ≤ k ∧ k < w) → J.length ≤ 8 → ∃ S', cal 55 [rowsL R, tI I, tI J] S = .ok (.bl (decide ((swps R I J I.length).length = I.length))) S' ∧ Keep S S'
section
variable {cal : Nat → List D → M D}
theorem Keep.get {S S' : Store} (h : Keep S S') {j : Nat} {x : Option Cell} (hj : S[j]? = some x) : S'[j]? = some x := by
  rw [h.2 j (List.getElem?_eq_some_iff.mp hj).1]; exact hj
theorem pBody_ev {R : Rw} {h w s v : Nat} {I T P : List Int} {L : List Pq} {S S0 : Store} {o6 o8 : Option D} (C : CR cal R h w) (hl : R.length = h) (g : G01 w R) (hI : ∀ i ∈ I, 0 ≤ i ∧ i < h) (hIn : Asc I) (hIl : I.length = s) (s0 : 0 < s) (s8 : s ≤ 8) (hT : ∀ k ∈ T, 0 ≤ k ∧ k < w) (hTl : T.length ≤ 8) (hP : ∀ x ∈ P, 0 ≤ x ∧ x < T.length) (hPl : P.length = s)
    (hc : S[v]? = some (some (.lst (L.map ringD)))) (hLl : L.length ≤ 900000) (hk : Keep S0 S) (hv : S0.length ≤ v) :
    ∃ o6' o8' S', pBody cal [some (rowsL R), some (.ref v), some (.int s), some (tI I), some (lI T), some (tI P), o6, none, o8, none] S = .nx [some (rowsL R), some (.ref v), some (.int s), some (tI I), some (lI T), some (tI P), o6', none, o8', none] S' ∧ S'[v]? = some (some (.lst ((L ++ [(I, pickT T P)].filter (okQ R)).map ringD))) ∧ Keep S0 S' := by
  have e6 := lc_mapE (S := S) (me := eOp pIx (eVar 4) (eVar 7)) (δ0 := wipeD [some (rowsL R), some (.ref v), some (.int s), some (tI I), some (lI T), some (tI P), o6, none, o8, none] [7]) (k := 7) D.int D.int (fun k => T.getD k.toNat 0) (zs := P) (small (by omega)) (fun k hk => eOp_ok rfl rfl (ix_lI (hP k hk).1 (hP k hk).2))
  have hJl : (pickT T P).length = s := by simp [pickT, hPl]
  have hJ : ∀ k ∈ pickT T P, 0 ≤ k ∧ k < w := fun k hk => hT k (pick_mem hP k hk)
  have a6 : sAsg (eCallV pTuple (aCons (eLc newL (iAny (eVar 5)) (uNm 7) tYesM (eOp pIx (eVar 4) (eVar 7)) [7]) aNil)) (gNm 6) [some (rowsL R), some (.ref v), some (.int s), some (tI I), some (lI T), some (tI P), o6, none, o8, none] S = .nx [some (rowsL R), some (.ref v), some (.int s), some (tI I), some (lI T), some (tI P), some (tI (pickT T P)), none, o8, none] S :=
    sAsg_ok (eCallV_ok (aCons_ok (eLc_ok (iAny_ok rfl rfl) e6 (newL_ev (by rw [List.length_map, List.length_map]; exact small (by omega)))) rfl) (tuple_lst (by rw [List.length_map, List.length_map]; exact small (by omega)))) rfl
  have e8 := lc_mapE (S := S) (me := eCallV (pSum) (aCons (eLc newL (iAny (eVar 6)) (uNm 7) tYesM (eOp pIx (eOp pIx (eVar 0) (eVar 9)) (eVar 7)) [7]) aNil)) (δ0 := wipeD [some (rowsL R), some (.ref v), some (.int s), some (tI I), some (lI T), some (tI P), some (tI (pickT T P)), none, o8, none] [9]) (k := 9) D.int D.int (fun j => ((pickT T P).map fun k => val R j k).sum) (zs := I) (small (by omega)) (fun j hj => by
    have e := lc_mapE (S := S) (me := eOp pIx (eOp pIx (eVar 0) (eVar 9)) (eVar 7)) (δ0 := wipeD [some (rowsL R), some (.ref v), some (.int s), some (tI I), some (lI T), some (tI P), some (tI (pickT T P)), none, o8, some (.int j)] [7]) (k := 7) D.int D.int (fun k => val R j k) (zs := pickT T P) (small (by omega)) (fun k hk => grid_at g (hI j hj).1 (by have := (hI j hj).2; omega) (hJ k hk).1 (hJ k hk).2 rfl rfl rfl)
    exact eCallV_ok (aCons_ok (eLc_ok (iAny_ok rfl rfl) e (newL_ev (by rw [List.length_map, List.length_map]; exact small (by omega)))) rfl) sum_lI)
  let sums := I.map fun j => ((pickT T P).map fun k => val R j k).sum
  have a8 : sAsg (eLc newL (iAny (eVar 3)) (uNm 9) tYesM (eCallV (pSum) (aCons (eLc newL (iAny (eVar 6)) (uNm 7) tYesM (eOp pIx (eOp pIx (eVar 0) (eVar 9)) (eVar 7)) [7]) aNil)) [9]) (gNm 8) [some (rowsL R), some (.ref v), some (.int s), some (tI I), some (lI T), some (tI P), some (tI (pickT T P)), none, o8, none] S = .nx [some (rowsL R), some (.ref v), some (.int s), some (tI I), some (lI T), some (tI P), some (tI (pickT T P)), none, some (lI sums), none] S :=
    sAsg_ok (eLc_ok (iAny_ok rfl rfl) e8 (newL_ev (by rw [List.length_map, List.length_map]; exact small (by omega)))) rfl
  have hsums : sums = List.replicate s 2 ↔ ∀ j ∈ I, ((pickT T P).map fun k => val R j k).sum = 2 := by
    constructor
    · intro e j hj
      have : ((pickT T P).map fun k => val R j k).sum ∈ sums := List.mem_map.mpr ⟨j, hj, rfl⟩
      rw [e] at this
      exact List.eq_of_mem_replicate this
    · intro e
      refine List.eq_replicate_iff.mpr ⟨by simp [sums, hIl], fun b hb => ?_⟩
      obtain ⟨j, hj, rfl⟩ := List.mem_map.mp hb
      exact e j hj
  obtain ⟨S1, e1, k1⟩ := C.one I (pickT T P) S hI (by omega) (by omega) hJ (by omega)
  have hh := hang_iff (R := R) (I := I) (J := pickT T P) (by omega) (asc_nodup hIn)
  have teq : asB (eOp pEq (eVar 8) (eOp pMul (eLst (aCons (eC (.int 2)) aNil)) (eVar 2)) [some (rowsL R), some (.ref v), some (.int s), some (tI I), some (lI T), some (tI P), some (tI (pickT T P)), none, some (lI sums), none]) S = .ok (decide (sums = List.replicate s 2)) S :=
    asB_ok (eOp_ok rfl (eOp_ok (eLst_ok (aCons_ok rfl rfl) (small (by simp))) rfl (mul_rep (by omega))) eq_lI)
  unfold pBody
  by_cases hs : sums = List.replicate s 2
  · have hrow := hsums.mp hs
    by_cases hg : Hang R I (pickT T P)
    · have hok : okQ R (I, pickT T P) = true := by unfold okQ; simp only [Bool.and_eq_true, decide_eq_true_eq]; exact ⟨hrow, hg⟩
      have hc1 := k1.get hc
      have happ := app_ref (y := ringD (I, pickT T P)) hc1 (Nat.lt_of_lt_of_le (show (L.map ringD).length < 1000000 by rw [List.length_map]; omega) (small (Nat.le_refl _)))
      refine ⟨_, _, S1.set v (some (.lst (L.map ringD ++ [ringD (I, pickT T P)]))), sSeq_nx a6 (sSeq_nx a8 (sIf_t (tAnd_t (teq.trans (by rw [decide_eq_true hs])) (tru_ok (eCal_ok (aCons_ok rfl (aCons_ok rfl (aCons_ok rfl rfl))) e1) (by rw [decide_eq_true (hh.mpr hg)]; rfl))) (sExpr_ok (eMB_ok rfl (ty_ref hc1) (aCons_ok (eTup_ok (aCons_ok rfl (aCons_ok rfl rfl)) (small (by simp))) rfl) happ)))), ?_, (hk.trans k1).set hv⟩
      rw [set_get hc1, List.filter_cons, hok]
      simp
    · have hok : okQ R (I, pickT T P) = false := by unfold okQ; rw [Bool.and_eq_false_iff]; exact .inr (by simp [hg])
      refine ⟨_, _, S1, sSeq_nx a6 (sSeq_nx a8 (sIf_f (tAnd_t (teq.trans (by rw [decide_eq_true hs])) (tru_ok (eCal_ok (aCons_ok rfl (aCons_ok rfl (aCons_ok rfl rfl))) e1) (by rw [decide_eq_false fun z => hg (hh.mp z)]; rfl))) rfl)), ?_, hk.trans k1⟩
      rw [k1.get hc, List.filter_cons, hok]
      simp
  · have hok : okQ R (I, pickT T P) = false := by
      unfold okQ
      rw [Bool.and_eq_false_iff]
      exact .inl (decide_eq_false fun z => hs (hsums.mpr z))
    refine ⟨_, _, S, sSeq_nx a6 (sSeq_nx a8 (sIf_f (tAnd_f (teq.trans (by rw [decide_eq_false hs]))) rfl)), ?_, hk⟩
    rw [hc, List.filter_cons, hok]
    simp
theorem tw_len {R : Rw} {w s : Nat} {I : List Int} : (tw R w I s).length ≤ w := by
  unfold tw
  split
  · have := List.length_filter_le (fun k => (I.map fun j => val R j k).sum == 2) (rng w)
    rwa [rng_length] at this
  · simp
theorem iBody_ev {R : Rw} {h w s v : Nat} {I : List Int} {L : List Pq} {S S0 : Store} {o4 o5 o6 o8 : Option D} (C : CR cal R h w) (hl : R.length = h) (g : G01 w R) (w8 : w ≤ 8) (hI : ∀ i ∈ I, 0 ≤ i ∧ i < h) (hIn : Asc I) (hIl : I.length = s) (s0 : 0 < s) (s8 : s ≤ 8)
    (hc : S[v]? = some (some (.lst (L.map ringD)))) (hLl : L.length ≤ 800000) (hk : Keep S0 S) (hv : S0.length ≤ v) :
    ∃ o4' o5' o6' o8' S', iBody cal [some (rowsL R), some (.ref v), some (.int s), some (tI I), o4, o5, o6, none, o8, none] S = .nx [some (rowsL R), some (.ref v), some (.int s), some (tI I), o4', o5', o6', none, o8', none] S' ∧ S'[v]? = some (some (.lst ((L ++ (candI R w s I).filter (okQ R)).map ringD))) ∧ Keep S0 S' := by
  have tl := tw_len (R := R) (w := w) (s := s) (I := I)
  have key : ∀ (Ps : Rw), (∀ P ∈ Ps, (∀ x ∈ P, 0 ≤ x ∧ x < (tw R w I s).length) ∧ P.length = s) → ∀ (L : List Pq) (S : Store) o5 o6 o8, S[v]? = some (some (.lst (L.map ringD))) → L.length + Ps.length ≤ 900000 → Keep S0 S →
      ∃ o5' o6' o8' S', loopF (gNm 5) (pBody cal) (Ps.map tI) [some (rowsL R), some (.ref v), some (.int s), some (tI I), some (lI (tw R w I s)), o5, o6, none, o8, none] S = .nx [some (rowsL R), some (.ref v), some (.int s), some (tI I), some (lI (tw R w I s)), o5', o6', none, o8', none] S' ∧ S'[v]? = some (some (.lst ((L ++ (Ps.map fun P => (I, pickT (tw R w I s) P)).filter (okQ R)).map ringD))) ∧ Keep S0 S' := by
    intro Ps
    induction Ps with
    | nil => intro _ L S o5 o6 o8 hc _ hk; exact ⟨o5, o6, o8, S, rfl, by simpa using hc, hk⟩
    | cons P Ps ih =>
      intro hP L S o5 o6 o8 hc hle hk
      simp only [List.length_cons] at hle
      have h1 := hP P (List.mem_cons_self ..)
      obtain ⟨a, b, S1, e1, c1, k1⟩ := pBody_ev (o6 := o6) (o8 := o8) C hl g hI hIn hIl s0 s8 (fun k hk => (tw_mem hk).1) (by omega) h1.1 h1.2 hc (by omega) hk hv
      have hfl := List.length_filter_le (okQ R) [(I, pickT (tw R w I s) P)]
      obtain ⟨a', b', c', S2, e2, c2, k2⟩ := ih (fun x hx => hP x (List.mem_cons_of_mem _ hx)) _ S1 (some (tI P)) a b c1 (by rw [List.length_append]; simp at hfl ⊢; omega) k1
      refine ⟨a', b', c', S2, ?_, ?_, k2⟩
      · rw [List.map_cons, loop_nx rfl e1]; exact e2
      · rw [c2, List.append_assoc, ← List.filter_append]; rfl
  have hsl : (someL (tw R w I s).length s).length ≤ 256 := Nat.le_trans some_len (Nat.le_trans (Nat.pow_le_pow_right (by omega) (show (tw R w I s).length ≤ 8 by omega)) (by decide))
  obtain ⟨a, b, c, S', e, h1, h2⟩ := key (someL (tw R w I s).length s) (fun P hP => ⟨(mem_some.mp hP).2.1, (mem_some.mp hP).2.2⟩) L S o5 o6 o8 hc (by omega) hk
  refine ⟨some (lI (tw R w I s)), a, b, c, S', ?_, h1, h2⟩
  unfold iBody
  exact sSeq_nx (sAsg_ok (eCal_ok (aCons_ok rfl (aCons_ok rfl (aCons_ok rfl rfl))) (C.twos I s S hI (by omega))) rfl) (sFor_ok (iAny_ok (eCal_ok (aCons_ok (eCallV_ok (aCons_ok rfl rfl) len_lI) (aCons_ok rfl rfl)) (C.some _ s S (by omega) s8)) rfl) e)
theorem frz_ring {n : Nat} {q : Pq} {S : Store} : frzD (n + 2) (ringD q) S = some (ringD q, S) := by
  unfold ringD
  simp only [frzD]
  rw [frzDs_id fun x hx S => by
    simp at hx
    rcases hx with rfl | rfl <;> exact frz_tI]
  rfl
theorem rings49_ev {R : Rw} {h w : Nat} {S : Store} (C : CR cal R h w) (hl : R.length = h) (h8 : h ≤ 8) (g : G01 w R) (w8 : w ≤ 8) : ∃ S', funM 10 1 (b__law_rings cal) [rowsL R] S = .ok (.lst ((lawL R h w).map ringD)) S' ∧ Keep S S' := by
  let v := S.length
  have inner : ∀ (s : Nat), 0 < s → s ≤ 8 → ∀ (Is : Rw), (∀ I ∈ Is, Asc I ∧ (∀ i ∈ I, 0 ≤ i ∧ i < h) ∧ I.length = s) → ∀ (L : List Pq) (S' : Store) o3 o4 o5 o6 o8, S'[v]? = some (some (.lst (L.map ringD))) → L.length + 256 * Is.length ≤ 800000 → Keep S S' →
      ∃ o3' o4' o5' o6' o8' S2, loopF (gNm 3) (iBody cal) (Is.map tI) [some (rowsL R), some (.ref v), some (.int s), o3, o4, o5, o6, none, o8, none] S' = .nx [some (rowsL R), some (.ref v), some (.int s), o3', o4', o5', o6', none, o8', none] S2 ∧ S2[v]? = some (some (.lst ((L ++ (Is.flatMap fun I => candI R w s I).filter (okQ R)).map ringD))) ∧ Keep S S2 := by
    intro s s0 s8 Is
    induction Is with
    | nil => intro _ L S' o3 o4 o5 o6 o8 hc _ hk; exact ⟨o3, o4, o5, o6, o8, S', rfl, by simpa using hc, hk⟩
    | cons I Is ih =>
      intro hI L S' o3 o4 o5 o6 o8 hc hle hk
      simp only [List.length_cons] at hle
      obtain ⟨i1, i2, i3⟩ := hI I (List.mem_cons_self ..)
      obtain ⟨a, b, c, d, S1, e1, c1, k1⟩ := iBody_ev (o4 := o4) (o5 := o5) (o6 := o6) (o8 := o8) C hl g w8 i2 i1 i3 s0 s8 hc (by omega) hk (Nat.le_refl _)
      have hcl : ((candI R w s I).filter (okQ R)).length ≤ 256 := by
        refine Nat.le_trans (List.length_filter_le _ _) ?_
        unfold candI
        rw [List.length_map]
        have tl := tw_len (R := R) (w := w) (s := s) (I := I)
        exact Nat.le_trans some_len (Nat.le_trans (Nat.pow_le_pow_right (by omega) (show (tw R w I s).length ≤ 8 by omega)) (by decide))
      obtain ⟨a', b', c', d', f', S2, e2, c2, k2⟩ := ih (fun x hx => hI x (List.mem_cons_of_mem _ hx)) _ S1 (some (tI I)) a b c d c1 (by rw [List.length_append]; omega) k1
      refine ⟨a', b', c', d', f', S2, ?_, ?_, k2⟩
      · rw [List.map_cons, loop_nx rfl e1]; exact e2
      · rw [c2, List.append_assoc, ← List.filter_append, List.flatMap_cons]
  have outer : ∀ (ss : List Nat), (∀ s ∈ ss, 0 < s ∧ s ≤ 8) → ∀ (L : List Pq) (S' : Store) o2 o3 o4 o5 o6 o8, S'[v]? = some (some (.lst (L.map ringD))) → L.length + 65536 * ss.length ≤ 700000 → Keep S S' →
      ∃ o2' o3' o4' o5' o6' o8' S2, loopF (gNm 2) (sFor (iAny (eCal (cal 54) (aCons (eCallV (pLen) (aCons (eVar 0) aNil)) (aCons (eVar 2) aNil)))) (gNm 3) (iBody cal)) (ss.map fun (s : Nat) => D.int (s : Int)) [some (rowsL R), some (.ref v), o2, o3, o4, o5, o6, none, o8, none] S' = .nx [some (rowsL R), some (.ref v), o2', o3', o4', o5', o6', none, o8', none] S2 ∧ S2[v]? = some (some (.lst ((L ++ (ss.flatMap fun s => candS R h w s).filter (okQ R)).map ringD))) ∧ Keep S S2 := by
    intro ss
    induction ss with
    | nil => intro _ L S' o2 o3 o4 o5 o6 o8 hc _ hk; exact ⟨o2, o3, o4, o5, o6, o8, S', rfl, by simpa using hc, hk⟩
    | cons s ss ih =>
      intro hs L S' o2 o3 o4 o5 o6 o8 hc hle hk
      simp only [List.length_cons] at hle
      have h1 := hs s (List.mem_cons_self ..)
      have hsl : (someL h s).length ≤ 256 := Nat.le_trans some_len (Nat.le_trans (Nat.pow_le_pow_right (by omega) h8) (by decide))
      obtain ⟨a, b, c, d, f, S1, e1, c1, k1⟩ := inner s h1.1 h1.2 (someL h s) (fun I hI => ⟨(mem_some.mp hI).1, (mem_some.mp hI).2.1, (mem_some.mp hI).2.2⟩) L S' o3 o4 o5 o6 o8 hc (by omega) hk
      have hcl : ((candS R h w s).filter (okQ R)).length ≤ 65536 := by
        refine Nat.le_trans (List.length_filter_le _ _) ?_
        have gen : ∀ (Is : Rw), (Is.flatMap fun I => candI R w s I).length ≤ 256 * Is.length := by
          intro Is
          induction Is with
          | nil => simp
          | cons I Is ih =>
            rw [List.flatMap_cons, List.length_append, List.length_cons]
            have : (candI R w s I).length ≤ 256 := by
              unfold candI
              rw [List.length_map]
              have tl := tw_len (R := R) (w := w) (s := s) (I := I)
              exact Nat.le_trans some_len (Nat.le_trans (Nat.pow_le_pow_right (by omega) (show (tw R w I s).length ≤ 8 by omega)) (by decide))
            omega
        have := gen (someL h s)
        unfold candS
        omega
      obtain ⟨a', b', c', d', f', g', S2, e2, c2, k2⟩ := ih (fun x hx => hs x (List.mem_cons_of_mem _ hx)) _ S1 (some (.int (s : Int))) a b c d f c1 (by
        rw [List.length_append]
        show L.length + ((candS R h w s).filter (okQ R)).length + _ ≤ _
        omega) k1
      refine ⟨a', b', c', d', f', g', S2, ?_, ?_, k2⟩
      · rw [List.map_cons, loop_nx rfl (sFor_ok (iAny_ok (eCal_ok (aCons_ok (eCallV_ok (aCons_ok rfl rfl) len_rL) (aCons_ok rfl rfl)) (by rw [hl]; exact C.some h s S' h8 h1.2)) rfl) e1)]
        exact e2
      · rw [c2, List.append_assoc, ← List.filter_append, List.flatMap_cons]
        rfl
  obtain ⟨a, b, c, d, e, f, S2, e2, c2, k2⟩ := outer [3, 5, 7] (by simp) [] (S ++ [some (.lst [])]) none none none none none none (by simp [v]) (by simp) Keep.app
  rw [List.nil_append] at c2
  have fz : frzD 4 (.ref v) S2 = some (.lst ((lawL R h w).map ringD), S2.set v none) := by
    simp only [frzD, c2]
    rw [frzDs_id fun x hx S => by
      obtain ⟨q, _, rfl⟩ := List.mem_map.mp hx
      exact frz_ring]
    rfl
  refine ⟨S2.set v none, ?_, k2.set (Nat.le_refl _)⟩
  rw [rings49_eq]
  exact funM_rt rfl (sSeq_nx (sAsg_ok (eLstC_ok rfl (Nat.zero_le _)) rfl) (sSeq_nx (sFor_ok (iAny_ok (eLst_ok (aCons_ok rfl (aCons_ok rfl (aCons_ok rfl rfl))) (small (by simp))) rfl) e2) (sRet_ok (eFrz_ok (S1 := S2) rfl fz))))
end
end Rg
/-! # rings: law k17's run; repr of plain data -/
namespace Rg
open PySem PySem.W L2 Ev Bd Sp
structure Fine (p : PyData) (wt dp : Nat) : Prop where
  sh : p.showable = true
  ish : p.intsShort 13 = true
  lay : p.canLay0 = true
  wt : p.weight ≤ wt
  dp : p.depth ≤ dp
theorem fine_int {i : Int} (h : 0 ≤ i) (h2 : i ≤ 8) : Fine (.int i) 4 0 := by
  have : i = 0 ∨ i = 1 ∨ i = 2 ∨ i = 3 ∨ i = 4 ∨ i = 5 ∨ i = 6 ∨ i = 7 ∨ i = 8 := by omega
  rcases this with rfl | rfl | rfl | rfl | rfl | rfl | rfl | rfl | rfl <;> exact ⟨by decide +kernel, by decide +kernel, by decide +kernel, by decide +kernel, by decide +kernel⟩
theorem fine_bool {b : Bool} : Fine (.bool b) 4 0 := by
  cases b <;> exact ⟨by decide +kernel, by decide +kernel, by decide +kernel, by decide +kernel, by decide +kernel⟩
theorem fine_none : Fine .none 4 0 := ⟨by decide +kernel, by decide +kernel, by decide +kernel, by decide +kernel, by decide +kernel⟩
theorem Fine.mono {p : PyData} {a b c d : Nat} (h : Fine p a b) (h1 : a ≤ c) (h2 : b ≤ d) : Fine p c d := ⟨h.sh, h.ish, h.lay, Nat.le_trans h.wt h1, Nat.le_trans h.dp h2⟩
theorem fine_all {wt dp : Nat} : ∀ {ps : List PyData}, (∀ p ∈ ps, Fine p wt dp) → PyData.showableAll ps = true ∧ PyData.intsShortAll 13 ps = true ∧ PyData.weightAll ps ≤ (wt + 1) * ps.length ∧ PyData.canLayAll0 ps = true ∧ PyData.depthAll ps ≤ dp
  | [], _ => ⟨rfl, rfl, Nat.le_refl _, rfl, Nat.zero_le _⟩
  | p :: ps, h => by
    obtain ⟨a, b, c, d, e⟩ := fine_all (wt := wt) (dp := dp) fun q hq => h q (List.mem_cons_of_mem _ hq)
    have f := h p (List.mem_cons_self ..)
    have f1 := f.wt
    have f2 := f.dp
    refine ⟨?_, ?_, ?_, ?_, ?_⟩
    · simp only [PyData.showableAll, f.sh, a, Bool.and_self]
    · simp only [PyData.intsShortAll, f.ish, b, Bool.and_self]
    · simp only [PyData.weightAll, List.length_cons, Nat.mul_succ]; omega
    · simp only [PyData.canLayAll0, f.lay, d, Bool.and_self]
    · simp only [PyData.depthAll]; omega
theorem fine_tuple {ps : List PyData} {wt dp n : Nat} (h : ∀ p ∈ ps, Fine p wt dp) (hn : ps.length ≤ n) : Fine (.tuple ps) ((wt + 1) * n) (dp + 1) := by
  obtain ⟨a, b, c, d, e⟩ := fine_all h
  have := Nat.mul_le_mul_left (wt + 1) hn
  refine ⟨?_, ?_, ?_, ?_, ?_⟩
  · simp only [PyData.showable, a]
  · simp only [PyData.intsShort, b]
  · simp only [PyData.canLay0, d]
  · simp only [PyData.weight]; omega
  · simp only [PyData.depth]; omega
theorem fine_list {ps : List PyData} {wt dp n : Nat} (h : ∀ p ∈ ps, Fine p wt dp) (hn : ps.length ≤ n) : Fine (.list ps) ((wt + 1) * n) (dp + 1) := by
  obtain ⟨a, b, c, d, e⟩ := fine_all h
  have := Nat.mul_le_mul_left (wt + 1) hn
  refine ⟨?_, ?_, ?_, ?_, ?_⟩
  · simp only [PyData.showable, a]
  · simp only [PyData.intsShort, b]
  · simp only [PyData.canLay0, d]
  · simp only [PyData.weight]; omega
  · simp only [PyData.depth]; omega
theorem repr_list {S : Store} {x : D} {ps : List PyData} {wt dp : Nat} (h : toPS S x = some (.list ps)) (f : Fine (.list ps) wt dp) (hw : wt ≤ 2 ^ 20) (hd : dp ≤ 60) : pRepr [x] S = some (.str (PyData.list ps).shown, S) := by
  have h1 := f.wt
  have h2 := f.dp
  have lay : PyData.layable0 (.list ps) = true := by
    simp only [PyData.layable0, f.lay, Bool.true_and, Bool.and_eq_true, decide_eq_true_eq]
    exact ⟨by omega, by omega⟩
  have len : (PyData.list ps).shown.length ≤ sizeLine := Nat.le_trans (PyProof.Rows.shown_le13 lay f.ish) (by decide)
  have cond : (PyData.list ps).showable = true ∧ (PyData.list ps).shown.length ≤ sizeLine ∧ (PyData.list ps).depth ≤ 60 := ⟨f.sh, len, by omega⟩
  simp only [pRepr, h, cond, and_self, if_true]
def ringP (q : Pq) : PyData := .tuple [pyT q.1, pyT q.2]
theorem toPS_ring {S : Store} {q : Pq} : toPS S (ringD q) = some (ringP q) := by
  unfold ringD ringP pyT
  simp only [toPS, toPSs, toPSs_ints, Option.map_some, Option.bind_some]
theorem toPSs_rings {S : Store} : ∀ L : List Pq, toPSs S (L.map ringD) = some (L.map ringP)
  | [] => rfl
  | q :: L => by simp only [List.map_cons, toPSs, toPS_ring, toPSs_rings L, Option.map_some, Option.bind_some]
theorem fine_T {l : List Int} (h : ∀ i ∈ l, 0 ≤ i ∧ i ≤ 8) (hl : l.length ≤ 8) : Fine (pyT l) 40 1 := by
  unfold pyT
  exact fine_tuple (wt := 4) (dp := 0) (n := 8) (fun p hp => by
    obtain ⟨i, hi, rfl⟩ := List.mem_map.mp hp
    exact fine_int (h i hi).1 (h i hi).2) (by simpa using hl)
theorem fine_ring {q : Pq} (h1 : ∀ i ∈ q.1, 0 ≤ i ∧ i ≤ 8) (l1 : q.1.length ≤ 8) (h2 : ∀ i ∈ q.2, 0 ≤ i ∧ i ≤ 8) (l2 : q.2.length ≤ 8) : Fine (ringP q) 82 2 := by
  unfold ringP
  exact fine_tuple (wt := 40) (dp := 1) (n := 2) (fun p hp => by
    simp at hp
    rcases hp with rfl | rfl
    · exact fine_T h1 l1
    · exact fine_T h2 l2) (by simp)
theorem law_fine {R : Rw} {h w : Nat} (h8 : h ≤ 8) (w8 : w ≤ 8) {q : Pq} (hq : q ∈ lawL R h w) : Fine (ringP q) 82 2 := by
  have Q := mem_lawL.mp hq
  have hs := Q.size
  have he := Q.eq
  exact fine_ring (fun i hi => by have := Q.rg1 i hi; omega) (by omega) (fun k hk => by have := Q.rg2 k hk; omega) (by omega)
theorem some_cnt : ∀ n, n ≤ 7 → (someL n 3).length ≤ 35 ∧ (someL n 5).length ≤ 21 ∧ (someL n 7).length ≤ 1 := by
  intro n hn
  have : n = 0 ∨ n = 1 ∨ n = 2 ∨ n = 3 ∨ n = 4 ∨ n = 5 ∨ n = 6 ∨ n = 7 := by omega
  rcases this with rfl | rfl | rfl | rfl | rfl | rfl | rfl | rfl <;> decide +kernel
theorem cand_len {R : Rw} {w s c : Nat} (hc : ∀ n, n ≤ 7 → (someL n s).length ≤ c) (w7 : w ≤ 7) : ∀ Is : Rw, (Is.flatMap fun I => candI R w s I).length ≤ c * Is.length := by
  intro Is
  induction Is with
  | nil => simp
  | cons I Is ih =>
    rw [List.flatMap_cons, List.length_append, List.length_cons, Nat.mul_succ]
    have : (candI R w s I).length ≤ c := by
      unfold candI
      rw [List.length_map]
      have tl := tw_len (R := R) (w := w) (s := s) (I := I)
      exact hc _ (by omega)
    omega
theorem law_len {R : Rw} {h w : Nat} (h7 : h ≤ 7) (w7 : w ≤ 7) : (lawL R h w).length ≤ 1667 := by
  refine Nat.le_trans (List.length_filter_le _ _) ?_
  have c := some_cnt h h7
  have a := cand_len (R := R) (w := w) (s := 3) (c := 35) (fun n hn => (some_cnt n hn).1) w7 (someL h 3)
  have b := cand_len (R := R) (w := w) (s := 5) (c := 21) (fun n hn => (some_cnt n hn).2.1) w7 (someL h 5)
  have d := cand_len (R := R) (w := w) (s := 7) (c := 1) (fun n hn => (some_cnt n hn).2.2) w7 (someL h 7)
  unfold cand candS
  simp only [List.flatMap_cons, List.flatMap_nil, List.length_append, List.length_nil]
  omega
theorem law_le {R : Rw} {h w : Nat} (h8 : h ≤ 8) (w8 : w ≤ 8) : (lawL R h w).length ≤ 65536 := by
  have nd : (lawL R h w).Nodup := List.Pairwise.imp (fun h e => by subst e; exact ltQ_asymm h h) lawL_sorted
  have key : ((lawL R h w).map fun q => q.1 ++ q.2.map fun k => k + (h : Int)).Nodup := by
    rw [List.Nodup, List.pairwise_map]
    refine List.Pairwise.imp_of_mem (fun {a b} ha hb hne e => hne ?_) nd
    have A := mem_lawL.mp ha
    have B := mem_lawL.mp hb
    have hl : a.1.length = b.1.length := by
      have := congrArg List.length e
      have h1 := A.eq
      have h2 := B.eq
      simp at this; omega
    obtain ⟨e1, e2⟩ := List.append_inj e hl
    refine Prod.ext e1 (List.map_inj_right (f := fun k => k + (h : Int)) (fun x y hxy => by simpa using hxy) |>.mp e2)
  have := nodup_le key (m := subs (h + w)) fun l hl => by
    obtain ⟨q, hq, rfl⟩ := List.mem_map.mp hl
    have Q := mem_lawL.mp hq
    refine mem_subs (asc_joined Q.asc1 Q.asc2 Q.rg1 fun k hk => (Q.rg2 k hk).1) fun x hx => ?_
    rcases List.mem_append.mp hx with hx | hx
    · have := Q.rg1 x hx; omega
    · obtain ⟨k, hk, rfl⟩ := List.mem_map.mp hx
      have := Q.rg2 k hk; omega
  rw [List.length_map, subs_len] at this
  exact Nat.le_trans this (Nat.le_trans (Nat.pow_le_pow_right (by omega) (show h + w ≤ 16 by omega)) (by decide))
section
variable {cal : Nat → List D → M D} {S : Store} {h w : Nat} {R : Rw} {Q : List Pq}
theorem odd_rings_ev (hQ : Q.length ≤ 1000000) (h1 : ∀ S, cal 23 [tabD h w R] S = .ok .non S) (h2 : ∀ S, ∃ S', cal 53 [rowsT R] S = .ok (.lst (Q.map ringD)) S' ∧ Keep S S') : ∃ S', funM 1 1 (b_odd_rings cal) [tabD h w R] S = .ok (.tup (Q.map ringD)) S' ∧ Keep S S' := by
  obtain ⟨S1, e1, k1⟩ := h2 S
  unfold b_odd_rings
  exact ⟨S1, funM_rt rfl (sSeq_nx (sExpr_ok (eCal_ok (aCons_ok rfl rfl) (h1 S))) (sRet_ok (eCallV_ok (aCons_ok (eCal_ok (aCons_ok (eFld_ok rfl rfl rfl rfl) rfl) e1) rfl) (tuple_lst (by rw [List.length_map]; exact small hQ))))), k1⟩
theorem is_even_ev (h1 : ∀ S, cal 23 [tabD h w R] S = .ok .non S) (h2 : ∀ S, ∃ S', cal 53 [rowsT R] S = .ok (.lst (Q.map ringD)) S' ∧ Keep S S') : ∃ S', funM 1 1 (b_is_even cal) [tabD h w R] S = .ok (.bl Q.isEmpty) S' ∧ Keep S S' := by
  obtain ⟨S1, e1, k1⟩ := h2 S
  unfold b_is_even
  refine ⟨S1, funM_rt rfl (sSeq_nx (sExpr_ok (eCal_ok (aCons_ok rfl rfl) (h1 S))) (sRet_ok ((eNot_ok (b := !Q.isEmpty) (eCal_ok (aCons_ok (eFld_ok rfl rfl rfl rfl) rfl) e1) ?_).trans (by rw [Bool.not_not])))), k1⟩
  simp [truD, seqOf, lstOf]
def firstD (Q : List Pq) : D := match Q with
  | [] => .non
  | q :: _ => ringD q
theorem first_of_ev (h2 : ∀ S, ∃ S', cal 53 [rowsT R] S = .ok (.lst (Q.map ringD)) S' ∧ Keep S S') : ∃ S', funM 2 1 (b_first_of cal) [rowsT R] S = .ok (firstD Q) S' ∧ Keep S S' := by
  obtain ⟨S1, e1, k1⟩ := h2 S
  unfold b_first_of
  refine ⟨S1, funM_rt rfl (sSeq_nx (sAsg_ok (eCal_ok (aCons_ok rfl rfl) e1) rfl) (sRet_ok ?_)), k1⟩
  cases Q with
  | nil => exact eIf_f (tru_ok rfl (by simp [truD, seqOf, lstOf])) rfl
  | cons q Q => exact eIf_t (tru_ok rfl (by simp [truD, seqOf, lstOf])) (eOp_ok rfl rfl (pIx_lst (k := 0) (xs := (q :: Q).map ringD) (by simp)))
theorem first_ring_ev (h1 : ∀ S, cal 23 [tabD h w R] S = .ok .non S) (h2 : ∀ S, ∃ S', cal 52 [rowsT R] S = .ok (firstD Q) S' ∧ Keep S S') : ∃ S', funM 1 1 (b_first_ring cal) [tabD h w R] S = .ok (firstD Q) S' ∧ Keep S S' := by
  obtain ⟨S1, e1, k1⟩ := h2 S
  unfold b_first_ring
  exact ⟨S1, funM_rt rfl (sSeq_nx (sExpr_ok (eCal_ok (aCons_ok rfl rfl) (h1 S))) (sRet_ok (eCal_ok (aCons_ok (eFld_ok rfl rfl rfl rfl) rfl) e1))), k1⟩
end
structure C17 (cal : Nat → List D → M D) : Prop where
  grid : GridF ReedJ (cal 51)
  full : ∀ (R : Rw) (most : Nat) S, Grid most R → most ≤ 8 → ∃ b, cal 50 [rowsL R] S = .ok (.bl b) S ∧ (b = true → ∃ h w, Full h w R ∧ h ≤ most ∧ w ≤ most)
  text : ∀ h w R S, Full h w R → cal 2 [rowsL R] S = .ok (.str (txt R)) S
  tab : ∀ h w R S, Full h w R → cal 1 [.str (txt R)] S = .ok (tabD h w R) S
  mine : ∀ h w R S, Full h w R → ∃ S', cal 49 [rowsL R] S = .ok (.lst ((lawL R h w).map ringD)) S' ∧ Keep S S'
  odd : ∀ h w R S, Full h w R → ∃ S', cal 48 [tabD h w R] S = .ok (.tup ((lawL R h w).map ringD)) S' ∧ Keep S S'
  even : ∀ h w R S, Full h w R → ∃ S', cal 47 [tabD h w R] S = .ok (.bl (lawL R h w).isEmpty) S' ∧ Keep S S'
  first : ∀ h w R S, Full h w R → ∃ S', cal 46 [tabD h w R] S = .ok (firstD (lawL R h w)) S' ∧ Keep S S'
theorem eq_rings_nil {S : Store} {Q : List Pq} : pEq (.tup (Q.map ringD)) (.tup []) S = some (.bl Q.isEmpty, S) := by
  have e1 : toPS S (.tup (Q.map ringD)) = some (.tuple (Q.map ringP)) := by simp only [toPS, toPSs_rings, Option.map_some]
  have e2 : toPS S (.tup []) = some (.tuple []) := rfl
  have hd : (PyData.tuple (Q.map ringP)).depth ≤ 60 := by
    simp only [PyData.depth]
    have d1 : ∀ l : List Int, (pyT l).depth ≤ 2 := fun l => by
      unfold pyT
      simp only [PyData.depth]
      have := depthAll_le (d := 1) (ps := l.map PyData.int) fun p hp => by
        obtain ⟨i, _, rfl⟩ := List.mem_map.mp hp
        simp [PyData.depth]
      omega
    have := depthAll_le (d := 3) (ps := Q.map ringP) fun p hp => by
      obtain ⟨q, _, rfl⟩ := List.mem_map.mp hp
      have h1 := d1 q.1
      have h2 := d1 q.2
      unfold ringP
      simp only [PyData.depth, PyData.depthAll]
      omega
    omega
  have e3 : PyData.eqv (.tuple (Q.map ringP)) (.tuple []) = Q.isEmpty := by
    cases Q with
    | nil => simp [PyData.eqv, PyData.eqvAll]
    | cons x e => simp [PyData.eqv, PyData.eqvAll]
  simp only [pEq, eqD, e1, e2, hd, if_true, e3, Option.map_some]
def round17 (cal : Nat → List D → M D) : MS := (sSeq (sAsg (eCal (cal 51) (aCons (eVar 0) (aCons (eC (.int 7)) aNil))) (gNm 2))
    (sSeq (sIf (tNotM (fun δ => tru ((eCal (cal 50) (aCons (eVar 2) aNil)) δ))) sCnt sNext)
    (sSeq (sPar2 3 4 (aCons (eCal (cal 1) (aCons (eCal (cal 2) (aCons (eVar 2) aNil)) aNil)) (aCons (eCallV pTuple (aCons (eCal (cal 49) (aCons (eVar 2) aNil)) aNil)) aNil)))
    (sSeq (sIf (fun δ => asB (eOp pNe (eCallV (pRepr) (aCons (eLst (aCons (eCal (cal 48) (aCons (eVar 3) aNil)) (aCons (eCal (cal 48) (aCons (eVar 3) aNil)) aNil))) aNil)) (eCallV (pRepr) (aCons (eLst (aCons (eVar 4) (aCons (eVar 4) aNil))) aNil)) δ)) (sRet (eC (.bl false))) sNext)
    (sSeq (sAsg (eLst (aCons (eCal (cal 47) (aCons (eVar 3) aNil)) (aCons (eCal (cal 47) (aCons (eVar 3) aNil)) (aCons (eCal (cal 46) (aCons (eVar 3) aNil)) (aCons (eCal (cal 46) (aCons (eVar 3) aNil)) aNil))))) (gNm 5))
    (sSeq (sAsg (eIf (fun δ => asB (eOp pEq (eVar 4) (eTup aNil) δ)) (eC .non) (eOp pIx (eVar 4) (eC (.int 0)))) (gNm 6))
    (sIf (fun δ => asB (eOp pNe (eCallV (pRepr) (aCons (eVar 5) aNil)) (eCallV (pRepr) (aCons (eLst (aCons (eOp pEq (eVar 4) (eTup aNil)) (aCons (eOp pEq (eVar 4) (eTup aNil)) (aCons (eVar 6) (aCons (eVar 6) aNil))))) aNil)) δ)) (sRet (eC (.bl false))) sNext)))))))
theorem right17_eq {cal : Nat → List D → M D} : b__law_right_v2 cal = sSeq (sFor (iR1 (aCons (eC (.int 4)) aNil)) (gNm 1) (round17 cal)) (sRet (eC (.bl true))) := rfl
def firstP (Q : List Pq) : PyData := match Q with
  | [] => .none
  | q :: _ => ringP q
theorem toPS_first {Q : List Pq} {S : Store} : toPS S (firstD Q) = some (firstP Q) := by
  cases Q with
  | nil => rfl
  | cons q Q => exact toPS_ring
theorem fine_first {Q : List Pq} (h : ∀ q ∈ Q, Fine (ringP q) 82 2) : Fine (firstP Q) 82 2 := by
  cases Q with
  | nil => exact fine_none.mono (by omega) (by omega)
  | cons q Q => exact h q (List.mem_cons_self ..)
theorem firstD_var {Q : List Pq} {S : Store} {δ : En} {k : Nat} (h : δ[k]? = some (some (firstD Q))) : eVar k δ S = .ok (firstD Q) S := eVarR h (by cases Q <;> simp [firstD, ringD])
theorem round17_ev {cal : Nat → List D → M D} (C : C17 cal) {t : Nat} {S : Store} {d1 d2 d3 d4 d5 d6 : Option D} (ht : At ReedJ t S) :
    ∃ δ' S', (round17 cal [some (.ref t), d1, d2, d3, d4, d5, d6] S = .nx δ' S' ∨ round17 cal [some (.ref t), d1, d2, d3, d4, d5, d6] S = .ct δ' S') ∧ (∃ d1 d2 d3 d4 d5 d6, δ' = [some (.ref t), d1, d2, d3, d4, d5, d6]) ∧ At ReedJ t S' := by
  obtain ⟨R, S1, e1, G, a1, f1⟩ := C.grid.go t 7 S ht (by omega) (by omega)
  obtain ⟨b, eb, hb⟩ := C.full R 7 S1 G (by omega)
  unfold round17
  cases b with
  | false => exact ⟨_, _, .inr (sSeq_nx (sAsg_ok (eCal_ok (aCons_ok rfl (aCons_ok rfl rfl)) e1) rfl) (sSeq_ct (sIf_t (tNot_ok (b := false) (tru_ok (eCal_ok (aCons_ok rfl rfl) eb) rfl)) rfl))), ⟨_, _, _, _, _, _, rfl⟩, a1⟩
  | true =>
    obtain ⟨h, w, F, h7, w7⟩ := hb rfl
    let Q := lawL R h w
    have hQ : Q.length ≤ 1667 := law_len h7 w7
    obtain ⟨S2, e2, k2⟩ := C.mine h w R S1 F
    obtain ⟨S3, e3, k3⟩ := C.odd h w R S2 F
    obtain ⟨S4, e4, k4⟩ := C.odd h w R S3 F
    obtain ⟨S5, e5, k5⟩ := C.even h w R S4 F
    obtain ⟨S6, e6, k6⟩ := C.even h w R S5 F
    obtain ⟨S7, e7, k7⟩ := C.first h w R S6 F
    obtain ⟨S8, e8, k8⟩ := C.first h w R S7 F
    have kk := ((((((k2.trans k3).trans k4).trans k5).trans k6).trans k7).trans k8)
    have fT : Fine (.tuple (Q.map ringP)) (83 * 1667) 3 := fine_tuple (wt := 82) (dp := 2) (fun p hp => by
      obtain ⟨q, hq, rfl⟩ := List.mem_map.mp hp
      exact law_fine (by omega) (by omega) hq) (by simpa using hQ)
    have rp : ∀ S, pRepr [.lst [.tup (Q.map ringD), .tup (Q.map ringD)]] S = some (.str (PyData.list [.tuple (Q.map ringP), .tuple (Q.map ringP)]).shown, S) := fun S => by
      refine repr_list (wt := (83 * 1667 + 1) * 2) (dp := 4) ?_ (fine_list (wt := 83 * 1667) (dp := 3) (n := 2) (fun p hp => ?_) (by simp)) (by decide) (by decide)
      · simp only [toPS, toPSs, toPSs_rings, Option.map_some, Option.bind_some]
      · simp at hp
        rw [hp]; exact fT
    have ff : Fine (firstP Q) 82 2 := fine_first fun q hq => law_fine (by omega) (by omega) hq
    have rp2 : ∀ S, pRepr [.lst [.bl Q.isEmpty, .bl Q.isEmpty, firstD Q, firstD Q]] S = some (.str (PyData.list [.bool Q.isEmpty, .bool Q.isEmpty, firstP Q, firstP Q]).shown, S) := fun S => by
      refine repr_list (wt := 83 * 4) (dp := 3) ?_ (fine_list (wt := 82) (dp := 2) (n := 4) (fun p hp => ?_) (by simp)) (by decide) (by decide)
      · simp only [toPS, toPSs, toPS_first, Option.map_some, Option.bind_some]
      · simp at hp
        rcases hp with rfl | rfl
        · exact fine_bool.mono (by omega) (by omega)
        · exact ff
    have same : ∀ (z : Str) S, pNe (.str z) (.str z) S = some (.bl false, S) := fun z S => by rw [pNe_ss]; simp
    have c1 : sIf (fun δ => asB (eOp pNe (eCallV (pRepr) (aCons (eLst (aCons (eCal (cal 48) (aCons (eVar 3) aNil)) (aCons (eCal (cal 48) (aCons (eVar 3) aNil)) aNil))) aNil)) (eCallV (pRepr) (aCons (eLst (aCons (eVar 4) (aCons (eVar 4) aNil))) aNil)) δ)) (sRet (eC (.bl false))) sNext [some (.ref t), d1, some (rowsL R), some (tabD h w R), some (.tup (Q.map ringD)), d5, d6] S2 = .nx [some (.ref t), d1, some (rowsL R), some (tabD h w R), some (.tup (Q.map ringD)), d5, d6] S4 :=
      sIf_f (asB_ok (eOp_ok (eCallV_ok (aCons_ok (eLst_ok (aCons_ok (eCal_ok (aCons_ok rfl rfl) e3) (aCons_ok (eCal_ok (aCons_ok rfl rfl) e4) rfl)) (small (by simp))) rfl) (rp S4)) (eCallV_ok (aCons_ok (eLst_ok (aCons_ok rfl (aCons_ok rfl rfl)) (small (by simp))) rfl) (rp S4)) (same _ S4))) rfl
    have a5 : sAsg (eLst (aCons (eCal (cal 47) (aCons (eVar 3) aNil)) (aCons (eCal (cal 47) (aCons (eVar 3) aNil)) (aCons (eCal (cal 46) (aCons (eVar 3) aNil)) (aCons (eCal (cal 46) (aCons (eVar 3) aNil)) aNil))))) (gNm 5) [some (.ref t), d1, some (rowsL R), some (tabD h w R), some (.tup (Q.map ringD)), d5, d6] S4 = .nx [some (.ref t), d1, some (rowsL R), some (tabD h w R), some (.tup (Q.map ringD)), some (.lst [.bl Q.isEmpty, .bl Q.isEmpty, firstD Q, firstD Q]), d6] S8 :=
      sAsg_ok (eLst_ok (aCons_ok (eCal_ok (aCons_ok rfl rfl) e5) (aCons_ok (eCal_ok (aCons_ok rfl rfl) e6) (aCons_ok (eCal_ok (aCons_ok rfl rfl) e7) (aCons_ok (eCal_ok (aCons_ok rfl rfl) e8) rfl)))) (small (by simp))) rfl
    have a6 : sAsg (eIf (fun δ => asB (eOp pEq (eVar 4) (eTup aNil) δ)) (eC .non) (eOp pIx (eVar 4) (eC (.int 0)))) (gNm 6) [some (.ref t), d1, some (rowsL R), some (tabD h w R), some (.tup (Q.map ringD)), some (.lst [.bl Q.isEmpty, .bl Q.isEmpty, firstD Q, firstD Q]), d6] S8 = .nx [some (.ref t), d1, some (rowsL R), some (tabD h w R), some (.tup (Q.map ringD)), some (.lst [.bl Q.isEmpty, .bl Q.isEmpty, firstD Q, firstD Q]), some (firstD Q)] S8 := by
      refine sAsg_ok (d := firstD Q) (S1 := S8) ?_ rfl
      generalize Q = Q'
      cases Q' with
      | nil => exact eIf_t (asB_ok (eOp_ok rfl (eTup_ok rfl (Nat.zero_le _)) (eq_rings_nil (Q := [])))) rfl
      | cons q Q => exact eIf_f (asB_ok (eOp_ok rfl (eTup_ok rfl (Nat.zero_le _)) (eq_rings_nil (Q := q :: Q)))) (eOp_ok rfl rfl (pIx_tup (k := 0) (xs := (q :: Q).map ringD) (by simp)))
    have c2 : sIf (fun δ => asB (eOp pNe (eCallV (pRepr) (aCons (eVar 5) aNil)) (eCallV (pRepr) (aCons (eLst (aCons (eOp pEq (eVar 4) (eTup aNil)) (aCons (eOp pEq (eVar 4) (eTup aNil)) (aCons (eVar 6) (aCons (eVar 6) aNil))))) aNil)) δ)) (sRet (eC (.bl false))) sNext [some (.ref t), d1, some (rowsL R), some (tabD h w R), some (.tup (Q.map ringD)), some (.lst [.bl Q.isEmpty, .bl Q.isEmpty, firstD Q, firstD Q]), some (firstD Q)] S8 = .nx [some (.ref t), d1, some (rowsL R), some (tabD h w R), some (.tup (Q.map ringD)), some (.lst [.bl Q.isEmpty, .bl Q.isEmpty, firstD Q, firstD Q]), some (firstD Q)] S8 :=
      sIf_f (asB_ok (eOp_ok (eCallV_ok (aCons_ok rfl rfl) (rp2 S8)) (eCallV_ok (aCons_ok (eLst_ok (aCons_ok (eOp_ok rfl (eTup_ok rfl (Nat.zero_le _)) eq_rings_nil) (aCons_ok (eOp_ok rfl (eTup_ok rfl (Nat.zero_le _)) eq_rings_nil) (aCons_ok (firstD_var rfl) (aCons_ok (firstD_var rfl) rfl)))) (small (by simp))) rfl) (rp2 S8)) (same _ S8))) rfl
    refine ⟨_, S8, .inl (sSeq_nx (sAsg_ok (eCal_ok (aCons_ok rfl (aCons_ok rfl rfl)) e1) rfl) (sSeq_nx (sIf_f (tNot_ok (b := true) (tru_ok (eCal_ok (aCons_ok rfl rfl) eb) rfl)) rfl) (sSeq_nx (sPar2_ok (aCons_ok (eCal_ok (aCons_ok (eCal_ok (aCons_ok rfl rfl) (C.text h w R S1 F)) rfl) (C.tab h w R S1 F)) (aCons_ok (eCallV_ok (aCons_ok (eCal_ok (aCons_ok rfl rfl) e2) rfl) (tuple_lst (by rw [List.length_map]; exact small (by have : (lawL R h w).length ≤ 1667 := hQ; omega)))) rfl))) (sSeq_nx c1 (sSeq_nx a5 (sSeq_nx a6 c2)))))), ⟨_, _, _, _, _, _, rfl⟩, kk.at a1⟩
theorem right17_ev {cal : Nat → List D → M D} (C : C17 cal) {t : Nat} {S : Store} (ht : At ReedJ t S) : ∃ S', funM 7 1 (b__law_right_v2 cal) [.ref t] S = .ok (.bl true) S' := by
  rw [right17_eq]
  obtain ⟨δ2, S2, e2, _⟩ := loop_invC (mg := gNm 1) (mb := round17 cal) (ds := rngD 0 4) (δ := [some (.ref t), none, none, none, none, none, none]) (S := S)
    (fun k δ S' => (∃ d1 d2 d3 d4 d5 d6, δ = [some (.ref t), d1, d2, d3, d4, d5, d6]) ∧ At ReedJ t S') (by
      rintro k δ S' hk ⟨⟨d1, d2, d3, d4, d5, d6, rfl⟩, a⟩
      rw [rng_get]
      obtain ⟨δ', S1, e1, h1, a1⟩ := round17_ev C (d1 := some (.int k)) (d2 := d2) (d3 := d3) (d4 := d4) (d5 := d5) (d6 := d6) a
      exact ⟨_, _, rfl, δ', S1, e1, h1, a1⟩) ⟨⟨_, _, _, _, _, _, rfl⟩, ht⟩
  exact ⟨S2, funM_rt rfl (sSeq_nx (sFor_ok (iR1_ok (k := 4) (aCons_ok rfl rfl) (by omega)) e2) (sRet_ok rfl))⟩
theorem law17_ev {cal : Nat → List D → M D} {ns : List Int} {S : Store} (hr : ∀ (k : Nat) S, k ≤ 1000 → ∃ c, ReedJ c ∧ cal 44 [.scr ns, .int k] S = .ok (.ref S.length) (S ++ [some (.lst c)])) (hg : ∀ t S, At ReedJ t S → ∃ S', cal 45 [.ref t] S = .ok (.bl true) S') : ∃ S', funM 2 1 (b_law_v3 cal) [.scr ns] S = .ok (.bl true) S' := by
  obtain ⟨ys, S2, e, h1⟩ := lc_inv (up := uNm 1) (mt := tYesM) (me := eCal (cal 45) (aCons (eCal (cal 44) (aCons (eVar 0) (aCons (eVar 1) aNil))) aNil)) (δ0 := wipeD [some (.scr ns), none] [1]) (ds := rngD 0 3) (S := S) (fun n acc S' => acc = List.replicate n (.bl true)) (by
    rintro n acc S' hn rfl
    rw [rng_get]
    rw [rng_len] at hn
    obtain ⟨c, hc, e1⟩ := hr n S' (by omega)
    obtain ⟨S3, e3⟩ := hg S'.length (S' ++ [some (.lst c)]) ⟨c, by simp, hc⟩
    refine ⟨_, rfl, .inr ⟨S', rfl, .bl true, S3, eCal_ok (aCons_ok (eCal_ok (aCons_ok rfl (aCons_ok rfl rfl)) e1) rfl) e3, ?_, ?_⟩⟩
    · rw [List.length_replicate]
      exact Nat.lt_of_lt_of_le (show n < 1000000 by omega) (small (Nat.le_refl _))
    · rw [List.replicate_succ']) rfl
  rw [rng_len] at h1
  unfold b_law_v3
  exact ⟨S2, funM_rt rfl (sRet_ok (eCallV_ok (aCons_ok (eLc_ok (iR1_ok (k := 3) (aCons_ok rfl rfl) (by omega)) e (newL_ev (by rw [h1]; simp; exact small (by omega)))) rfl) (by rw [h1]; rfl)))⟩
end Rg
/-! # rings of some rows of a table -/
namespace Rg
open PySem PySem.W L2 Ev Bd Sp
section
variable {R R' : Rw} {T P J : List Int} {h w : Nat}
theorem pick_at {k : Nat} (hk : k < P.length) : at_ (pickT T P) k = T.getD (at_ P k).toNat 0 := by
  simp [at_, pickT, List.getD_eq_getElem?_getD, hk]
theorem pick_inj (hT : Asc T) {a b : Int} (ha : 0 ≤ a ∧ a < T.length) (hb : 0 ≤ b ∧ b < T.length) (e : T.getD a.toNat 0 = T.getD b.toNat 0) : a = b := by
  have := at_inj (asc_nodup hT) (i := a.toNat) (j := b.toNat) (by omega) (by omega) e
  omega
theorem hang_pick (hT : Asc T) (hv : ∀ j k : Int, 0 ≤ j → j < T.length → val R' j k = val R (T.getD j.toNat 0) k) (hP : ∀ x ∈ P, 0 ≤ x ∧ x < T.length) (h0 : 0 < P.length) : Hang R' P J ↔ Hang R (pickT T P) J := by
  have hb : ∀ j ∈ P, ∀ k, bit R' j k = bit R (T.getD j.toNat 0) k := fun j hj k => by rw [bit_val, bit_val, hv j k (hP j hj).1 (hP j hj).2]
  constructor
  · intro H P0 p0 hs i hi
    obtain ⟨j, hj, rfl⟩ := List.mem_map.mp hi
    rw [pick_at h0] at p0
    refine H (fun j => P0 (T.getD j.toNat 0)) p0 (fun a ha b hb' k hk hPa b1 b2 => ?_) j hj
    rw [hb a ha] at b1
    rw [hb b hb'] at b2
    exact hs _ (List.mem_map.mpr ⟨a, ha, rfl⟩) _ (List.mem_map.mpr ⟨b, hb', rfl⟩) k hk hPa b1 b2
  · intro H P1 p1 hs j hj
    have := H (fun i => ∃ a ∈ P, T.getD a.toNat 0 = i ∧ P1 a) ⟨at_ P 0, at_mem h0, (pick_at h0).symm, p1⟩ (fun i hi i2 hi2 k hk hPi b1 b2 => by
      obtain ⟨a, ha, rfl, hPa⟩ := hPi
      obtain ⟨b, hb', rfl⟩ := List.mem_map.mp hi2
      refine ⟨b, hb', rfl, hs a ha b hb' k hk hPa ?_ ?_⟩
      · rw [hb a ha]; exact b1
      · rw [hb b hb']; exact b2) _ (List.mem_map.mpr ⟨j, hj, rfl⟩)
    obtain ⟨a, ha, e, hPa⟩ := this
    rw [← pick_inj hT (hP a ha) (hP j hj) e]; exact hPa
theorem lawR_pick (hT : Asc T) (hTr : ∀ x ∈ T, 0 ≤ x ∧ x < h) (hv : ∀ j k : Int, 0 ≤ j → j < T.length → val R' j k = val R (T.getD j.toNat 0) k) (hP : ∀ x ∈ P, 0 ≤ x ∧ x < T.length) (hPa : Asc P) : LawR T.length w R' (P, J) ↔ LawR h w R (pickT T P, J) := by
  have hl : (pickT T P).length = P.length := by simp [pickT]
  have hcol : ∀ k, ((pickT T P).map fun j => val R j k).sum = (P.map fun j => val R' j k).sum := fun k => by
    unfold pickT
    rw [List.map_map]
    congr 1
    refine List.map_congr_left fun j hj => ?_
    exact (hv j k (hP j hj).1 (hP j hj).2).symm
  have hrow : ∀ j ∈ P, (J.map fun k => val R' j k) = J.map fun k => val R (T.getD j.toNat 0) k := fun j hj => List.map_congr_left fun k _ => hv j k (hP j hj).1 (hP j hj).2
  constructor
  · intro Q
    have h0 : 0 < P.length := by have : P.length = 3 ∨ P.length = 5 ∨ P.length = 7 := Q.size; omega
    refine ⟨hl.trans Q.eq, by rw [hl]; exact Q.size, pick_asc hT hPa hP, Q.asc2, fun i hi => hTr i (pick_mem hP i hi), Q.rg2, fun k hk => (hcol k).trans (Q.col k hk), fun i hi => ?_, (hang_pick hT hv hP h0).mp Q.hang⟩
    obtain ⟨j, hj, rfl⟩ := List.mem_map.mp hi
    have := Q.row j hj
    rw [show (P, J).2 = J from rfl, hrow j hj] at this
    exact this
  · intro Q
    have h0 : 0 < P.length := by have : (pickT T P).length = 3 ∨ (pickT T P).length = 5 ∨ (pickT T P).length = 7 := Q.size; omega
    refine ⟨hl.symm.trans Q.eq, by have := Q.size; rw [hl] at this; exact this, hPa, Q.asc2, hP, Q.rg2, fun k hk => (hcol k).symm.trans (Q.col k hk), fun j hj => ?_, (hang_pick hT hv hP h0).mpr Q.hang⟩
    rw [show (P, J).2 = J from rfl, hrow j hj]
    exact Q.row _ (List.mem_map.mpr ⟨j, hj, rfl⟩)
end
/-- the rows that are left -/
def restL (h : Nat) (lot : List Int) : List Int := (rng h).filter fun j => !decide (j ∈ lot)
def leftR (R : Rw) (h : Nat) (lot : List Int) : Rw := (restL h lot).map fun j => R.getD j.toNat []
def hits (Q : List Pq) (lot : List Int) : Bool := Q.all fun q => q.1.any fun i => decide (i ∈ lot)
theorem left_val {R : Rw} {h : Nat} {lot : List Int} {j k : Int} (j0 : 0 ≤ j) (j1 : j < (restL h lot).length) : val (leftR R h lot) j k = val R ((restL h lot).getD j.toNat 0) k := by
  have hj : j.toNat < (restL h lot).length := by omega
  simp [val, leftR, List.getD_eq_getElem?_getD, hj]
theorem rest_asc {h : Nat} {lot : List Int} : Asc (restL h lot) := List.Pairwise.sublist List.filter_sublist rng_asc
/-- no ring is left exactly if the lot hits them all -/
theorem left_none {R : Rw} {h w : Nat} {lot : List Int} : lawL (leftR R h lot) (restL h lot).length w = [] ↔ hits (lawL R h w) lot = true := by
  unfold hits
  rw [List.all_eq_true]
  constructor
  · intro he q hq
    apply Classical.byContradiction
    intro hn
    have Q := mem_lawL.mp hq
    have hsub : ∀ i ∈ q.1, i ∈ restL h lot := fun i hi => List.mem_filter.mpr ⟨mem_rng.mpr (Q.rg1 i hi), by
      cases hd : decide (i ∈ lot) with
      | false => rfl
      | true => exact absurd (List.any_eq_true.mpr ⟨i, hi, hd⟩) hn⟩
    obtain ⟨P, p1, p2, p3, p4⟩ := pick_ex rest_asc Q.asc1 hsub
    have := (lawR_pick (R := R) (R' := leftR R h lot) (J := q.2) (h := h) (w := w) rest_asc (fun x hx => mem_rng.mp (List.mem_filter.mp hx).1) (fun j k j0 j1 => left_val j0 j1) p2 p1).mpr (by rw [p4]; exact Q)
    have hm := mem_lawL.mpr this
    rw [he] at hm
    simp at hm
  · intro ha
    apply Classical.byContradiction
    intro hne
    obtain ⟨q, hq⟩ := List.exists_mem_of_ne_nil _ hne
    have Q := mem_lawL.mp hq
    have := (lawR_pick (R := R) (R' := leftR R h lot) (P := q.1) (J := q.2) (h := h) (w := w) rest_asc (fun x hx => mem_rng.mp (List.mem_filter.mp hx).1) (fun j k j0 j1 => left_val j0 j1) Q.rg1 Q.asc1).mp Q
    have h1 := ha _ (mem_lawL.mpr this)
    obtain ⟨i, hi, hd⟩ := List.any_eq_true.mp h1
    have h2 := (List.mem_filter.mp (pick_mem Q.rg1 i hi)).2
    rw [hd] at h2
    cases h2
end Rg
/-! # least lots of rows -/
namespace Rg
open PySem PySem.W PyProof.Rows L2 Ev Bd Sp
/-! lots in order -/
def keyL (l : List Int) : D := .tup [.int l.length, Sp.tI l]
def keyLP (l : List Int) : PyData := .tuple [.int l.length, pyT l]
def LtL (a b : List Int) : Prop := a.length < b.length ∨ (a.length = b.length ∧ a < b)
theorem alike_kl (a b : List Int) : alike (keyLP a) (keyLP b) = true := by simp [keyLP, alike, alikeAll, alike_t]
theorem lt_l (a b : List Int) : dataLt (keyLP a) (keyLP b) = true ↔ LtL a b := by
  unfold keyLP LtL
  rw [dataLt_pair (by simp [alike]) (alike_t _ _), dataLt_int, lt_t, eqv_t]
  have e1 : PyData.eqv (.int (a.length : Int)) (.int (b.length : Int)) = decide (a.length = b.length) := by
    simp only [PyData.eqv]
    by_cases h : a.length = b.length
    · simp [h]
    · simp [h]; omega
  rw [e1]
  have hirr : ∀ l : List Int, ¬ l < l := fun l => List.lt_irrefl l
  by_cases h1 : a.length = b.length
  · by_cases h2 : a = b
    · simp [h2, hirr]
    · simp [h1, h2]
  · have : (a.length : Int) < b.length ↔ a.length < b.length := by omega
    simp [h1, this]
def leL (a b : List Int) : Bool := dataLe false keyLP a b
theorem le_l (a b : List Int) : leL a b = true ↔ ¬ LtL b a := by
  unfold leL
  rw [dataLe_eq]
  simp only [cond_false]
  rw [← lt_l]
  cases dataLt (keyLP b) (keyLP a) <;> simp
theorem ltL_asymm {a b : List Int} (h : LtL a b) : ¬ LtL b a := by
  unfold LtL at *
  intro h'
  rcases h with h | ⟨h1, h⟩ <;> rcases h' with h' | ⟨h1', h'⟩
  · omega
  · omega
  · omega
  · exact List.lt_asymm h h'
theorem l_eq {a b : List Int} (h1 : ¬ LtL a b) (h2 : ¬ LtL b a) : a = b := by
  unfold LtL at *
  have hl : a.length = b.length := by omega
  rcases lst_tri a b with h | h | h
  · exact absurd (.inr ⟨hl, h⟩) h1
  · exact h
  · exact absurd (.inr ⟨hl.symm, h⟩) h2
theorem srtL_eq {L M : Rw} (hL : L.Nodup) (hM : M.Pairwise LtL) (hm : ∀ q, q ∈ L ↔ q ∈ M) : L.mergeSort leL = M := by
  have hMn : M.Nodup := List.Pairwise.imp (fun h e => by subst e; exact ltL_asymm h h) hM
  have hp : (L.mergeSort leL).Perm M := (List.mergeSort_perm _ _).trans ((List.perm_ext_iff_of_nodup hL hMn).mpr hm)
  have T := sortLe_total (listOrd itemOrd) false (fun b : List Int => keyToks (keyLP b))
  have hs : (L.mergeSort leL).Pairwise fun a b => leL a b = true := List.pairwise_mergeSort (fun a b c h1 h2 => T.trans a b c h1 h2) (fun a b => by simpa using T.total a b) L
  refine List.Perm.eq_of_pairwise (le := fun a b => leL a b = true) (fun a b _ _ h1 h2 => l_eq (fun h => (le_l b a).mp h2 h) fun h => (le_l a b).mp h1 h) hs ?_ hp
  exact List.Pairwise.imp (fun h => (le_l _ _).mpr (ltL_asymm h)) hM
theorem subs_mem : ∀ {n : Nat} {l : List Int}, l ∈ subs n → Asc l ∧ ∀ x ∈ l, 0 ≤ x ∧ x < n
  | 0, l, h => by
    simp [subs] at h
    subst h
    exact ⟨List.Pairwise.nil, by simp⟩
  | n + 1, l, h => by
    unfold subs at h
    rcases List.mem_append.mp h with h | h
    · obtain ⟨h1, h2⟩ := subs_mem h
      exact ⟨h1, fun x hx => by have := h2 x hx; omega⟩
    · obtain ⟨m, hm, rfl⟩ := List.mem_map.mp h
      obtain ⟨h1, h2⟩ := subs_mem hm
      refine ⟨?_, fun x hx => ?_⟩
      · unfold Asc
        rw [List.pairwise_append]
        exact ⟨h1, by simp, fun a ha b hb => by rw [List.mem_singleton.mp hb]; exact (h2 a ha).2⟩
      · rcases List.mem_append.mp hx with hx | hx
        · have := h2 x hx; omega
        · rw [List.mem_singleton.mp hx]; omega
theorem subs_nodup : ∀ n, (subs n).Nodup
  | 0 => by simp [subs]
  | n + 1 => by
    unfold subs
    rw [List.nodup_append]
    refine ⟨subs_nodup n, ?_, fun a ha b hb e => ?_⟩
    · rw [List.Nodup, List.pairwise_map]
      exact List.Pairwise.imp (fun h e => h (by simpa using e)) (subs_nodup n)
    · obtain ⟨m, hm, rfl⟩ := List.mem_map.mp hb
      have := (subs_mem ha).2 (n : Int) (by rw [e]; simp)
      omega
theorem subs_head : ∀ n, ∃ l, subs n = [] :: l
  | 0 => ⟨[], rfl⟩
  | n + 1 => by
    obtain ⟨l, e⟩ := subs_head n
    exact ⟨l ++ ([] :: l).map fun l => l ++ [(n : Int)], by
      show subs n ++ (subs n).map (fun l => l ++ [(n : Int)]) = _
      rw [e]; rfl⟩
def allLots (h : Nat) : Rw := (List.range h).flatMap fun s => someL h (s + 1)
theorem lots_sorted (h : Nat) (ss : List Nat) (hs : ss.Pairwise (· < ·)) : (ss.flatMap fun s => someL h s).Pairwise LtL := by
  rw [List.pairwise_flatMap]
  refine ⟨fun s _ => ?_, ?_⟩
  · refine List.Pairwise.imp_of_mem (fun {a b} ha hb hlt => .inr ⟨?_, hlt⟩) (some_sorted s)
    rw [(mem_some.mp ha).2.2, (mem_some.mp hb).2.2]
  · refine List.Pairwise.imp (fun {s t} hst x hx y hy => .inl ?_) hs
    rw [(mem_some.mp hx).2.2, (mem_some.mp hy).2.2]; exact hst
theorem allLots_eq (h : Nat) : allLots h = ((List.range h).map (· + 1)).flatMap fun s => someL h s := by
  unfold allLots
  rw [List.flatMap_map]
theorem allLots_srt (h : Nat) : ((subs h).drop 1).mergeSort leL = allLots h := by
  have nd : ((subs h).drop 1).Nodup := List.Sublist.nodup (List.drop_sublist _ _) (subs_nodup h)
  refine srtL_eq nd ?_ fun l => ?_
  · rw [allLots_eq]
    refine lots_sorted h _ ?_
    rw [List.pairwise_map]
    exact List.Pairwise.imp (fun h => by omega) List.pairwise_lt_range
  · obtain ⟨t, e⟩ := subs_head h
    have hd : l ∈ (subs h).drop 1 ↔ l ∈ subs h ∧ l ≠ [] := by
      have nd := subs_nodup h
      rw [e] at nd ⊢
      rw [List.nodup_cons] at nd
      simp only [List.drop_succ_cons, List.drop_zero, List.mem_cons]
      constructor
      · intro hl; exact ⟨.inr hl, by rintro rfl; exact nd.1 hl⟩
      · rintro ⟨h1 | h1, h2⟩
        · exact absurd h1 h2
        · exact h1
    rw [hd]
    unfold allLots
    rw [List.mem_flatMap]
    constructor
    · rintro ⟨h1, h2⟩
      obtain ⟨a1, a2⟩ := subs_mem h1
      have hl0 : 0 < l.length := List.length_pos_iff.mpr h2
      have hle := nodup_le (asc_nodup a1) (m := rng h) fun x hx => mem_rng.mpr (a2 x hx)
      rw [rng_length] at hle
      exact ⟨l.length - 1, List.mem_range.mpr (by omega), mem_some.mpr ⟨a1, a2, by omega⟩⟩
    · rintro ⟨s, _, hl⟩
      obtain ⟨a1, a2, a3⟩ := mem_some.mp hl
      exact ⟨mem_subs a1 a2, by rintro rfl; simp at a3⟩
/-! walked -/
section
variable {cal : Nat → List D → M D} {S : Store}
theorem toPs_l : ∀ l : Rw, toPs (l.map keyL) = some (l.map keyLP)
  | [] => rfl
  | q :: l => by
    have e3 : toP (keyL q) = some (keyLP q) := by
      unfold keyL keyLP pyT
      simp only [toP, toPs, toPs_ints, Option.bind_some, Option.map_some]
    simp only [List.map_cons, toPs, e3, toPs_l l, Option.bind_some, Option.map_some]
theorem sortOk_l (L : Rw) : sortOk (L.map keyLP) = true := by
  unfold sortOk
  simp only [Bool.and_eq_true, Bool.or_eq_true, List.all_eq_true]
  refine ⟨⟨fun p hp q hq => ?_, .inl fun p hp => ?_⟩, fun p hp => ?_⟩
  · obtain ⟨i, _, rfl⟩ := List.mem_map.mp hp
    obtain ⟨j, _, rfl⟩ := List.mem_map.mp hq
    exact alike_kl i j
  · obtain ⟨i, _, rfl⟩ := List.mem_map.mp hp
    rfl
  · obtain ⟨i, _, rfl⟩ := List.mem_map.mp hp
    have d1 : (pyT i).depth ≤ 2 := by
      unfold pyT
      simp only [PyData.depth]
      have := depthAll_le (d := 1) (ps := i.map PyData.int) fun p hp => by
        obtain ⟨i, _, rfl⟩ := List.mem_map.mp hp
        simp [PyData.depth]
      omega
    have d2 : (keyLP i).depth ≤ 60 := by
      unfold keyLP
      simp only [PyData.depth, PyData.depthAll]
      omega
    exact decide_eq_true d2
theorem sortL_ev {m : List D → M D} {ma : ME} {δ : En} {S1 : Store} {l : D} {L : Rw} (h : ma δ S = .ok l S1) (hl : lstOf S1 l = some (L.map Sp.tI)) (hn : L.length ≤ 1000000) (hm : ∀ q S, m [Sp.tI q] S = .ok (keyL q) S) : eSortK m ma δ S = .ok (lotsL (L.mergeSort leL)) S1 := by
  have hk : ∀ L : Rw, keysM m (L.map Sp.tI) S1 = .ok (L.map keyL) S1 := by
    intro L
    induction L with
    | nil => rfl
    | cons q L ih => simp only [List.map_cons, keysM, M.bind, noX, hm, ih, M.pure]
  have hz : (L.map Sp.tI).zip (L.map keyLP) = L.map fun q => (Sp.tI q, keyLP q) := by
    clear hl hn
    induction L with
    | nil => rfl
    | cons q L ih => simp only [List.map_cons, List.zip_cons_cons, ih]
  have hs : sortBy ((L.map Sp.tI).zip (L.map keyLP)) = (L.mergeSort leL).map Sp.tI := by
    unfold sortBy
    rw [hz]
    have e : (L.map fun q => (Sp.tI q, keyLP q)).mergeSort (dataLe false (·.2)) = (L.mergeSort leL).map fun q => (Sp.tI q, keyLP q) := by
      rw [List.map_mergeSort]
      intro a _ b _
      rfl
    rw [e, List.map_map]
    rfl
  have hc : sortOk (L.map keyLP) = true ∧ (L.map Sp.tI).length ≤ sizeLine := ⟨sortOk_l L, by rw [List.length_map]; exact small hn⟩
  simp only [eSortK, M.bind, h, sortKM, hl, hk, toPs_l]
  rw [if_pos hc, hs]
theorem size_first_ev {l : List Int} : funM 1 1 (b_size_first cal) [Sp.tI l] S = .ok (keyL l) S := by
  unfold b_size_first
  exact funM_rt rfl (sRet_ok (eTup_ok (aCons_ok (eCallV_ok (aCons_ok rfl rfl) len_tI) (aCons_ok rfl rfl)) (small (by simp))))
theorem cut_dropL {ma mo : ME} {δ : En} {S1 S2 : Store} {m : Nat} {xs : List D} (h : mo δ S = .ok (.lst xs) S1) (h2 : ma δ S1 = .ok (.int m) S2) (hl : xs.length ≤ sizeLine) : eCut mo (some ma) none δ S = .ok (.lst (xs.drop m)) S2 := by
  have hl' : (xs.drop m).length ≤ sizeLine := Nat.le_trans (by simp) hl
  simp only [eCut, M.bind, h, oPart, M.pure, h2, lft, pCut, lstOf, Option.bind_some, cutD_drop, newL_ev hl']
theorem lots_below_ev {h : Nat} (h8 : h ≤ 8) (hm : ∀ q S, cal 85 [Sp.tI q] S = .ok (keyL q) S) : funM 4 1 (b_lots_below cal) [.int h] S = .ok (lotsL (allLots h)) S := by
  have bnd : ∀ k, k ≤ 8 → (subs k).length ≤ 256 := fun k hk => by rw [subs_len]; exact Nat.le_trans (Nat.pow_le_pow_right (by omega) hk) (by decide)
  obtain ⟨δ2, S2, e2, ⟨o2, rfl⟩, hS⟩ := loop_inv (mg := gNm 2) (mb := (sAsg (eOp pAdd (eVar 1) (eLc newL (iAny (eVar 1)) (uNm 3) tYesM (eTup (aStar (eVar 3) (aCons (eVar 2) aNil))) [3])) (gNm 1)))
    (ds := rngD 0 h) (δ := [some (.int h), some (lotsL (subs 0)), none, none]) (S := S)
    (fun k δ S' => (∃ o2, δ = [some (.int h), some (lotsL (subs k)), o2, none]) ∧ S' = S) (by
      rintro k δ S' hk ⟨⟨o2, rfl⟩, hS'⟩
      rw [hS', rng_get]
      rw [rng_len] at hk
      refine ⟨_, _, rfl, ?_⟩
      have b := bnd k (by omega)
      have e := lc_mapE (S := S) (me := eTup (aStar (eVar 3) (aCons (eVar 2) aNil))) (δ0 := wipeD [some (.int h), some (lotsL (subs k)), some (.int k), none] [3]) (k := 3) Sp.tI Sp.tI (fun l => l ++ [(k : Int)]) (zs := subs k) (small (by omega)) (fun l hl => by
        have hll : l.length ≤ k := by
          obtain ⟨h1, h2⟩ := subs_mem hl
          have := nodup_le (asc_nodup h1) (m := rng k) fun x hx => mem_rng.mpr (h2 x hx)
          rwa [rng_length] at this
        have := eTup_ok (S := S) (aStar_ok (ma := eVar 3) (mas := aCons (eVar 2) aNil) (δ := (wipeD [some (.int h), some (lotsL (subs k)), some (.int k), none] [3]).set 3 (some (Sp.tI l))) (S := S) (x := Sp.tI l) (xs := iD l) rfl rfl (aCons_ok rfl rfl)) (small (by rw [List.length_append, iD_len]; simp; omega))
        rw [this, show Sp.tI (l ++ [(k : Int)]) = .tup (iD l ++ [.int k]) by rw [Sp.tI, iD_app]; rfl])
      refine ⟨_, _, sAsg_ok (d := lotsL (subs (k + 1))) (S1 := S) (eOp_ok rfl (eLc_ok (iAny_ok rfl rfl) e (newL_ev (by rw [List.length_map, List.length_map]; exact small (by omega)))) ?_) rfl, ⟨_, rfl⟩, rfl⟩
      rw [add_ll (by simp; exact small (by omega)), ← List.map_append]
      rfl) ⟨⟨_, rfl⟩, rfl⟩
  rw [rng_len, hS] at e2
  have b := bnd h h8
  unfold b_lots_below
  have ec := cut_dropL (mo := eVar 1) (ma := eC (.int 1)) (m := 1) (xs := (subs h).map Sp.tI) (δ := [some (.int h), some (lotsL (subs h)), o2, none]) (S := S) rfl rfl (by rw [List.length_map]; exact small (by omega))
  have es := sortL_ev (L := (subs h).drop 1) ec (by rw [← List.map_drop]; rfl) (by simp; omega) hm
  rw [allLots_srt] at es
  exact funM_rt rfl (sSeq_nx (sAsg_ok (eLst_ok (aCons_ok (eTup_ok rfl (Nat.zero_le _)) rfl) (small (by simp))) rfl) (sSeq_nx (sFor_ok (iR1_ok (k := h) (aCons_ok rfl rfl) (by omega)) e2) (sRet_ok es)))
end
end Rg
/-! # least lots of rows: law k55 -/
namespace Rg
open PySem PySem.W L2 Ev Bd Sp
/-! the plain law -/
def hitS (Q : List Pq) (h s : Nat) : Rw := (someL h s).filter (hits Q)
def due (Q : List Pq) (h : Nat) : List Nat → Rw
  | [] => []
  | s :: ss => if hitS Q h s = [] then due Q h ss else hitS Q h s
def stops (F : Rw) (l : List Int) : Bool := !F.isEmpty && decide (((F.getD 0 []).length : Int) < (l.length : Int))
def run (Q : List Pq) : Rw → Rw → Rw
  | [], F => F
  | l :: ls, F => if stops F l = true then F else run Q ls (if hits Q l = true then F ++ [l] else F)
theorem run_block {Q : List Pq} {s : Nat} {rest : Rw} : ∀ {B F : Rw}, (∀ l ∈ B, l.length = s) → (∀ l ∈ F, l.length = s) → run Q (B ++ rest) F = run Q rest (F ++ B.filter (hits Q))
  | [], F, _, _ => by simp
  | l :: B, F, hB, hF => by
    have hl := hB l (List.mem_cons_self ..)
    have hst : stops F l = false := by
      unfold stops
      cases F with
      | nil => rfl
      | cons f F =>
        have := hF f (List.mem_cons_self ..)
        simp [hl, this]
    rw [List.cons_append, run, hst, if_neg Bool.false_ne_true, List.filter_cons]
    cases hh : hits Q l with
    | true =>
      rw [if_pos rfl, if_pos rfl, run_block (fun x hx => hB x (List.mem_cons_of_mem _ hx)) (fun x hx => by
        rcases List.mem_append.mp hx with hx | hx
        · exact hF x hx
        · rw [List.mem_singleton.mp hx]; exact hl)]
      simp
    | false =>
      rw [if_neg Bool.false_ne_true, if_neg Bool.false_ne_true]
      exact run_block (fun x hx => hB x (List.mem_cons_of_mem _ hx)) hF
theorem run_end {Q : List Pq} {h s : Nat} {F : Rw} (hF : F ≠ []) (hs : ∀ l ∈ F, l.length = s) : ∀ ss : List Nat, (∀ t ∈ ss, s < t) → run Q (ss.flatMap fun s => someL h s) F = F
  | [], _ => rfl
  | t :: ss, ht => by
    rw [List.flatMap_cons]
    cases hB : someL h t with
    | nil => rw [List.nil_append]; exact run_end hF hs ss fun x hx => ht x (List.mem_cons_of_mem _ hx)
    | cons l B =>
      have hl : l.length = t := (mem_some.mp (by rw [hB]; exact List.mem_cons_self .. : l ∈ someL h t)).2.2
      have hst : stops F l = true := by
        unfold stops
        cases F with
        | nil => exact absurd rfl hF
        | cons f F =>
          have h1 := hs f (List.mem_cons_self ..)
          have h2 := ht t (List.mem_cons_self ..)
          simp [hl, h1]; omega
      rw [List.cons_append, run, if_pos hst]
theorem run_due {Q : List Pq} {h : Nat} : ∀ ss : List Nat, ss.Pairwise (· < ·) → run Q (ss.flatMap fun s => someL h s) [] = due Q h ss
  | [], _ => rfl
  | s :: ss, hp => by
    rw [List.pairwise_cons] at hp
    rw [List.flatMap_cons, run_block (s := s) (fun l hl => (mem_some.mp hl).2.2) (by simp), List.nil_append]
    show run Q _ (hitS Q h s) = _
    unfold due
    by_cases he : hitS Q h s = []
    · rw [if_pos he, he]; exact run_due ss hp.2
    · rw [if_neg he]
      exact run_end he (fun l hl => (mem_some.mp (List.mem_filter.mp hl).1).2.2) ss hp.1
theorem due_mem {Q : List Pq} {h : Nat} : ∀ {ss : List Nat}, (due Q h ss).length ≤ 2 ^ h ∧ ∀ l ∈ due Q h ss, Asc l ∧ ∀ x ∈ l, 0 ≤ x ∧ x < h
  | [] => ⟨by simp [due], by simp [due]⟩
  | s :: ss => by
    unfold due
    split
    · exact due_mem
    · exact ⟨Nat.le_trans (List.length_filter_le _ _) some_len, fun l hl => ⟨(mem_some.mp (List.mem_filter.mp hl).1).1, (mem_some.mp (List.mem_filter.mp hl).1).2.1⟩⟩
theorem due_zero {Q : List Pq} {h : Nat} {ss : List Nat} (hQ : ∀ q ∈ Q, True) : due Q h (0 :: ss) = if Q = [] then [[]] else due Q h ss := by
  have e : hitS Q h 0 = if Q = [] then [[]] else [] := by
    unfold hitS hits
    cases Q with
    | nil => rfl
    | cons q Q => simp [someL]
  show (if hitS Q h 0 = [] then due Q h ss else hitS Q h 0) = _
  rw [e]
  by_cases h0 : Q = [] <;> simp [h0]
/-! walked -/
section
variable {cal : Nat → List D → M D} {S : Store}
def lrBody : MS := (sSeq (sIf (tAndM (fun δ => tru ((eVar 2) δ)) (fun δ => asB (eOp pGt (eCallV (pLen) (aCons (eVar 3) aNil)) (eCallV (pLen) (aCons (eOp pIx (eVar 2) (eC (.int 0))) aNil)) δ))) (sRet (eCallV pTuple (aCons (eVar 2) aNil))) sNext)
    (sIf (fun δ => tru ((eCallV (pAll true) (aCons (eLc newL (iAny (eVar 1)) (uNm 5) tYesM (eCallV (pAll false) (aCons (eLc newL (iAny (eOp pIx (eVar 5) (eC (.int 0)))) (uNm 4) tYesM (eOp pIn (eVar 4) (eVar 3)) [4]) aNil)) [5]) aNil)) δ)) (sExpr (eMB "list" pAppend (eVar 2) (aCons (eVar 3) aNil))) sNext))
theorem lrBody_ev {Q : List Pq} {F : Rw} {l : List Int} {d0 : Option D} {u : Nat} (hQl : Q.length ≤ 100000) (hq : ∀ q ∈ Q, q.1.length ≤ 1000) (hFl : F.length ≤ 100000) (hc : S[u]? = some (some (.lst (F.map Sp.tI)))) :
    (stops F l = true → lrBody [d0, some (.lst (Q.map ringD)), some (.ref u), some (Sp.tI l), none, none] S = .rt (.tup (F.map Sp.tI)) S) ∧
    (stops F l = false → lrBody [d0, some (.lst (Q.map ringD)), some (.ref u), some (Sp.tI l), none, none] S = .nx [d0, some (.lst (Q.map ringD)), some (.ref u), some (Sp.tI l), none, none] (S.set u (some (.lst ((if hits Q l = true then F ++ [l] else F).map Sp.tI))))) := by
  have hst : S.set u (some (.lst (F.map Sp.tI))) = S := by
    have hlt := (List.getElem?_eq_some_iff.mp hc).1
    apply List.ext_getElem?
    intro i
    by_cases hi : u = i
    · subst hi; rw [List.getElem?_set_self hlt, hc]
    · rw [List.getElem?_set_ne hi]
  have t1 : tAndM (fun δ => tru ((eVar 2) δ)) (fun δ => asB (eOp pGt (eCallV (pLen) (aCons (eVar 3) aNil)) (eCallV (pLen) (aCons (eOp pIx (eVar 2) (eC (.int 0))) aNil)) δ)) [d0, some (.lst (Q.map ringD)), some (.ref u), some (Sp.tI l), none, none] S = .ok (stops F l) S := by
    refine tand_b (a := !F.isEmpty) (tru_ok rfl (by simp [truD, seqOf, lstOf, hc])) (fun hne => ?_)
    have h0 : 0 < (F.map Sp.tI).length := by cases F with | nil => cases hne | cons _ _ => simp
    refine asB_ok (eOp_ok (eCallV_ok (aCons_ok rfl rfl) len_tI) (eCallV_ok (z := .int ((F.getD 0 []).length : Int)) (S2 := S) (aCons_ok (eOp_ok rfl rfl (pIx_ref (k := 0) hc h0)) rfl) ?_) pGt_ii)
    cases F with
    | nil => simp at h0
    | cons f F => exact len_tI
  have e5 := lc_mapE (S := S) (me := eCallV (pAll false) (aCons (eLc newL (iAny (eOp pIx (eVar 5) (eC (.int 0)))) (uNm 4) tYesM (eOp pIn (eVar 4) (eVar 3)) [4]) aNil)) (δ0 := wipeD [d0, some (.lst (Q.map ringD)), some (.ref u), some (Sp.tI l), none, none] [5]) (k := 5) ringD D.bl (fun q => q.1.any fun i => decide (i ∈ l)) (zs := Q) (small (by omega)) (fun q hqm => by
    have hql := hq q hqm
    have e4 := lc_mapE (S := S) (me := eOp pIn (eVar 4) (eVar 3)) (δ0 := wipeD [d0, some (.lst (Q.map ringD)), some (.ref u), some (Sp.tI l), none, some (ringD q)] [4]) (k := 4) D.int D.bl (fun i => decide (i ∈ l)) (zs := q.1) (small (by omega)) (fun i hi => eOp_ok rfl rfl in_tI)
    refine (eCallV_ok (z := .bl ((q.1.map fun i => decide (i ∈ l)).any id)) (S2 := S) (aCons_ok (eLc_ok (iAny_ok (eOp_ok (x := ringD q) rfl rfl (pIx_tup (k := 0) (xs := [Sp.tI q.1, Sp.tI q.2]) (by simp))) rfl) e4 (newL_ev (by rw [List.length_map, List.length_map]; exact small (by omega)))) rfl) any_ok).trans ?_
    simp [List.any_map, Function.comp_def])
  have t2 : tru ((eCallV (pAll true) (aCons (eLc newL (iAny (eVar 1)) (uNm 5) tYesM (eCallV (pAll false) (aCons (eLc newL (iAny (eOp pIx (eVar 5) (eC (.int 0)))) (uNm 4) tYesM (eOp pIn (eVar 4) (eVar 3)) [4]) aNil)) [5]) aNil)) [d0, some (.lst (Q.map ringD)), some (.ref u), some (Sp.tI l), none, none]) S = .ok (hits Q l) S := by
    refine tru_ok (eCallV_ok (aCons_ok (eLc_ok (iAny_ok rfl rfl) e5 (newL_ev (by rw [List.length_map, List.length_map]; exact small (by omega)))) rfl) all_ok) ?_
    rw [all_map_id]
    rfl
  unfold lrBody
  constructor
  · intro hs
    exact sSeq_rt (sIf_t (t1.trans (by rw [hs])) (sRet_ok (eCallV_ok (aCons_ok rfl rfl) (by simp only [pTuple, lstOf, hc, Option.bind_some]; exact newT_ev (by rw [List.length_map]; exact small (by omega))))))
  · intro hs
    refine sSeq_nx (sIf_f (t1.trans (by rw [hs])) rfl) ?_
    cases hh : hits Q l with
    | true =>
      have happ := app_ref (y := Sp.tI l) hc (Nat.lt_of_lt_of_le (show (F.map Sp.tI).length < 1000000 by rw [List.length_map]; omega) (small (Nat.le_refl _)))
      rw [if_pos rfl, List.map_append]
      exact sIf_t (t2.trans (by rw [hh])) (sExpr_ok (eMB_ok rfl (ty_ref hc) (aCons_ok rfl rfl) happ))
    | false =>
      rw [if_neg Bool.false_ne_true, hst]
      exact sIf_f (t2.trans (by rw [hh])) rfl
theorem tuple_ref {u : Nat} {F : Rw} (hc : S[u]? = some (some (.lst (F.map Sp.tI)))) (hFl : F.length ≤ 1000000) : pTuple [.ref u] S = some (.tup (F.map Sp.tI), S) := by
  simp only [pTuple, lstOf, hc, Option.bind_some]
  exact newT_ev (by rw [List.length_map]; exact small hFl)
theorem least_rows_ev {h w : Nat} {R : Rw} {Q : List Pq} (h8 : h ≤ 8) (hQl : Q.length ≤ 100000) (hq : ∀ q ∈ Q, q.1.length ≤ 1000) (h1 : ∀ S, cal 23 [tabD h w R] S = .ok .non S) (h2 : ∀ S, ∃ S', cal 53 [rowsT R] S = .ok (.lst (Q.map ringD)) S' ∧ Keep S S') (h3 : ∀ S, cal 84 [.int h] S = .ok (lotsL (allLots h)) S) :
    ∃ S', funM 6 1 (b_least_rows cal) [tabD h w R] S = .ok (.tup ((due Q h (0 :: (List.range h).map (· + 1))).map Sp.tI)) S' ∧ Keep S S' := by
  obtain ⟨S1, e1, k1⟩ := h2 S
  rw [due_zero (fun _ _ => trivial)]
  have hb : b_least_rows cal = (sSeq (sExpr (eCal (cal 23) (aCons (eVar 0) aNil)))
    (sSeq (sAsg (eCal (cal 53) (aCons (eFld ok_rows "rows" (eVar 0)) aNil)) (gNm 1))
    (sSeq (sIf (tNotM (fun δ => tru ((eVar 1) δ))) (sRet (eTup (aCons (eTup aNil) aNil))) sNext)
    (sSeq (sAsg (eLstC aNil) (gNm 2))
    (sSeq (sFor (iAny (eCal (cal 84) (aCons (eFld ok_height "height" (eVar 0)) aNil))) (gNm 3) lrBody)
    (sRet (eCallV pTuple (aCons (eVar 2) aNil)))))))) := rfl
  rw [hb]
  by_cases h0 : Q = []
  · subst h0
    refine ⟨S1, ?_, k1⟩
    exact funM_rt rfl (sSeq_nx (sExpr_ok (eCal_ok (aCons_ok rfl rfl) (h1 S))) (sSeq_nx (sAsg_ok (eCal_ok (aCons_ok (eFld_ok rfl rfl rfl rfl) rfl) e1) rfl) (sSeq_rt (sIf_t (tNot_ok (b := false) (tru_ok rfl rfl)) (sRet_ok (eTup_ok (aCons_ok (eTup_ok rfl (Nat.zero_le _)) rfl) (small (by simp))))))))
  · rw [if_neg h0]
    let u := S1.length
    have tne : tNotM (fun δ => tru ((eVar 1) δ)) [some (tabD h w R), some (.lst (Q.map ringD)), none, none, none, none] S1 = .ok false S1 := by
      refine tNot_ok (b := true) (tru_ok rfl ?_)
      cases Q with
      | nil => exact absurd rfl h0
      | cons q Q => simp [truD, seqOf, lstOf]
    have key : ∀ (ls F : Rw) (S' : Store) o3, F.length + ls.length ≤ 100000 → S'[u]? = some (some (.lst (F.map Sp.tI))) → Keep S1 S' →
        (∃ S2, loopF (gNm 3) lrBody (ls.map Sp.tI) [some (tabD h w R), some (.lst (Q.map ringD)), some (.ref u), o3, none, none] S' = .rt (.tup ((run Q ls F).map Sp.tI)) S2 ∧ Keep S1 S2) ∨
        (∃ S2 o3', loopF (gNm 3) lrBody (ls.map Sp.tI) [some (tabD h w R), some (.lst (Q.map ringD)), some (.ref u), o3, none, none] S' = .nx [some (tabD h w R), some (.lst (Q.map ringD)), some (.ref u), o3', none, none] S2 ∧ S2[u]? = some (some (.lst ((run Q ls F).map Sp.tI))) ∧ (run Q ls F).length ≤ 100000 ∧ Keep S1 S2) := by
      intro ls
      induction ls with
      | nil => intro F S' o3 hl hc hk; exact .inr ⟨S', o3, rfl, hc, by simp at hl; exact hl, hk⟩
      | cons l ls ih =>
        intro F S' o3 hl hc hk
        simp only [List.length_cons] at hl
        obtain ⟨b1, b2⟩ := lrBody_ev (S := S') (d0 := some (tabD h w R)) (l := l) hQl hq (by omega) hc
        rw [List.map_cons]
        unfold run
        cases hs : stops F l with
        | true =>
          rw [if_pos rfl]
          exact .inl ⟨S', loop_rt rfl (b1 hs), hk⟩
        | false =>
          rw [if_neg Bool.false_ne_true, loop_nx rfl (b2 hs)]
          have hlt := (List.getElem?_eq_some_iff.mp hc).1
          exact ih _ _ (some (Sp.tI l)) (by cases hits Q l <;> simp <;> omega) (by rw [List.getElem?_set_self hlt]) (hk.set (Nat.le_refl _))
    have hal : (allLots h).length ≤ 256 := by
      have := congrArg List.length (allLots_srt h)
      rw [List.length_mergeSort, List.length_drop, subs_len] at this
      have h2 : 2 ^ h ≤ 256 := Nat.le_trans (Nat.pow_le_pow_right (by omega) h8) (by decide)
      omega
    have hrun : run Q (allLots h) [] = due Q h ((List.range h).map (· + 1)) := by
      rw [allLots_eq]
      refine run_due _ ?_
      rw [List.pairwise_map]
      exact List.Pairwise.imp (fun h => by omega) List.pairwise_lt_range
    have hk := key (allLots h) [] (S1 ++ [some (.lst [])]) none (by simp; omega) (by simp [u]) Keep.app
    rw [hrun] at hk
    rcases hk with ⟨S2, e2, k2⟩ | ⟨S2, o3, e2, c2, l2, k2⟩
    · refine ⟨S2, ?_, k1.trans k2⟩
      exact funM_rt rfl (sSeq_nx (sExpr_ok (eCal_ok (aCons_ok rfl rfl) (h1 S))) (sSeq_nx (sAsg_ok (eCal_ok (aCons_ok (eFld_ok rfl rfl rfl rfl) rfl) e1) rfl) (sSeq_nx (sIf_f tne rfl) (sSeq_nx (sAsg_ok (eLstC_ok rfl (Nat.zero_le _)) rfl) (sSeq_rt (sFor_ok (iAny_ok (eCal_ok (aCons_ok (eFld_ok rfl rfl rfl rfl) rfl) (h3 _)) rfl) e2))))))
    · refine ⟨S2, ?_, k1.trans k2⟩
      exact funM_rt rfl (sSeq_nx (sExpr_ok (eCal_ok (aCons_ok rfl rfl) (h1 S))) (sSeq_nx (sAsg_ok (eCal_ok (aCons_ok (eFld_ok rfl rfl rfl rfl) rfl) e1) rfl) (sSeq_nx (sIf_f tne rfl) (sSeq_nx (sAsg_ok (eLstC_ok rfl (Nat.zero_le _)) rfl) (sSeq_nx (sFor_ok (iAny_ok (eCal_ok (aCons_ok (eFld_ok rfl rfl rfl rfl) rfl) (h3 _)) rfl) e2) (sRet_ok (eCallV_ok (aCons_ok rfl rfl) (tuple_ref c2 (by omega)))))))))
end
end Rg
/-! # least lots of rows: the law's own, law k55's run -/
namespace Rg
open PySem PySem.W L2 Ev Bd Sp
section
variable {cal : Nat → List D → M D} {S : Store}
theorem eqv_nil (ps : List PyData) : PyData.eqv (.list ps) (.list []) = ps.isEmpty := by
  cases ps with
  | nil => simp [PyData.eqv, PyData.eqvAll]
  | cons x e => simp [PyData.eqv, PyData.eqvAll]
theorem toPS_nil {n : Nat} (hn : S[n]? = some (some (.lst []))) : toPS S (.ref n) = some (.list []) := by
  simp [toPS, plstOf, hn, toPs]
theorem eq_nil_ref {x : D} {ps : List PyData} {n : Nat} (hn : S[n]? = some (some (.lst []))) (h : toPS S x = some (.list ps)) (hd : PyData.depthAll ps ≤ 50) : pEq x (.ref n) S = some (.bl ps.isEmpty, S) := by
  have hd2 : (PyData.list ps).depth ≤ 60 := by simp only [PyData.depth]; omega
  simp only [pEq, eqD, h, toPS_nil hn, hd2, if_true, eqv_nil, Option.map_some]
theorem ne_nil_ref {x : D} {ps : List PyData} {n : Nat} (hn : S[n]? = some (some (.lst []))) (h : toPS S x = some (.list ps)) (hd : PyData.depthAll ps ≤ 50) : pNe x (.ref n) S = some (.bl (!ps.isEmpty), S) := by
  have hd2 : (PyData.list ps).depth ≤ 60 := by simp only [PyData.depth]; omega
  simp only [pNe, eqD, h, toPS_nil hn, hd2, if_true, eqv_nil, Option.map_some]
theorem depth_ints (r : List Int) : PyData.depthAll (r.map PyData.int) ≤ 1 := depthAll_le fun p hp => by
  obtain ⟨i, _, rfl⟩ := List.mem_map.mp hp
  simp [PyData.depth]
theorem toPSs_rowsL : ∀ R : Rw, toPSs S (R.map lI) = some (R.map fun r => .list (r.map .int))
  | [] => rfl
  | r :: R => by simp only [List.map_cons, toPSs, toPS, toPSs_ints, Option.map_some, Option.bind_some, toPSs_rowsL R]
theorem toPs_lots : ∀ R : Rw, toPs (R.map Sp.tI) = some (R.map fun r => .tuple (r.map .int))
  | [] => rfl
  | r :: R => by simp only [List.map_cons, toPs, toP, toPs_ints, Option.map_some, Option.bind_some, toPs_lots R]
theorem rest_nil_law {R : Rw} {w : Nat} : lawL R 0 w = [] := by
  have : cand R 0 w = [] := by
    simp [cand, candS, someL, rng]
  unfold lawL
  rw [this]; rfl
def dBody (cal : Nat → List D → M D) : MS := (sSeq (sAsg (eLc newL (iR1 (aCons (eCallV (pLen) (aCons (eVar 0) aNil)) aNil)) (uNm 5) (fun δ => asB (eOp pNotIn (eVar 5) (eVar 3) δ)) (eOp pIx (eVar 0) (eVar 5)) [5]) (gNm 4))
    (sIf (tOrM (fun δ => asB (eOp pEq (eVar 4) (eLstC aNil) δ)) (fun δ => asB (eOp pEq (eCal (cal 49) (aCons (eVar 4) aNil)) (eLstC aNil) δ))) (sExpr (eMB "list" pAppend (eVar 2) (aCons (eVar 3) aNil))) sNext))
theorem app_get {S : Store} {x : Option Cell} : (S ++ [x])[S.length]? = some x := by simp
theorem dBody_ev {R : Rw} {h w u : Nat} {F : Rw} {lot : List Int} {S0 : Store} {o1 o4 : Option D} (hl : R.length = h) (h8 : h ≤ 8) (g : G01 w R) (w8 : w ≤ 8)
    (h49 : ∀ (R' : Rw) (h' : Nat) S, R'.length = h' → 0 < h' → h' ≤ 8 → G01 w R' → ∃ S', cal 49 [rowsL R'] S = .ok (.lst ((lawL R' h' w).map ringD)) S' ∧ Keep S S')
    (hc : S[u]? = some (some (.lst (F.map Sp.tI)))) (hF : F.length ≤ 100000) (hk : Keep S0 S) (hu : S0.length ≤ u) :
    ∃ o4' S', dBody cal [some (rowsL R), o1, some (.ref u), some (Sp.tI lot), o4, none] S = .nx [some (rowsL R), o1, some (.ref u), some (Sp.tI lot), o4', none] S' ∧ S'[u]? = some (some (.lst ((if hits (lawL R h w) lot = true then F ++ [lot] else F).map Sp.tI))) ∧ Keep S0 S' := by
  have e4 := lc_filE (S := S) (mt := fun δ => asB (eOp pNotIn (eVar 5) (eVar 3) δ)) (me := eOp pIx (eVar 0) (eVar 5)) (δ0 := wipeD [some (rowsL R), o1, some (.ref u), some (Sp.tI lot), o4, none] [5]) (k := 5) D.int lI (fun j => !decide (j ∈ lot)) (fun j => R.getD j.toNat []) (zs := rng h) (by rw [rng_length]; exact small (by omega)) (fun j hj => asB_ok (eOp_ok rfl rfl notin_tI)) (fun j hj _ => by
    have := mem_rng.mp hj
    exact eOp_ok rfl rfl (ix_rL this.1 (by omega)))
  rw [show (rng h).map D.int = rngD 0 h from rngD_eq.symm] at e4
  have hrl : (restL h lot).length ≤ h := by
    have := List.length_filter_le (fun j => !decide (j ∈ lot)) (rng h)
    rwa [rng_length] at this
  have a4 : sAsg (eLc newL (iR1 (aCons (eCallV (pLen) (aCons (eVar 0) aNil)) aNil)) (uNm 5) (fun δ => asB (eOp pNotIn (eVar 5) (eVar 3) δ)) (eOp pIx (eVar 0) (eVar 5)) [5]) (gNm 4) [some (rowsL R), o1, some (.ref u), some (Sp.tI lot), o4, none] S = .nx [some (rowsL R), o1, some (.ref u), some (Sp.tI lot), some (rowsL (leftR R h lot)), none] S :=
    sAsg_ok (eLc_ok (iR1_ok (k := h) (aCons_ok (eCallV_ok (aCons_ok rfl rfl) (by rw [len_rL, hl])) rfl) (by omega)) e4 (newL_ev (by rw [List.length_map, List.length_map]; exact small (by have : (restL h lot).length ≤ h := hrl; unfold restL at this; omega)))) rfl
  have hleft : (leftR R h lot).length = (restL h lot).length := by simp [leftR]
  have gl : G01 w (leftR R h lot) := fun r hr => by
    obtain ⟨j, hj, rfl⟩ := List.mem_map.mp hr
    have := mem_rng.mp (List.mem_filter.mp hj).1
    have hm : R.getD j.toNat [] ∈ R := by
      rw [List.getD_eq_getElem?_getD, List.getElem?_eq_getElem (show j.toNat < R.length by omega)]
      exact List.getElem_mem _
    exact g _ hm
  -- the test
  have test : ∃ S1, tOrM (fun δ => asB (eOp pEq (eVar 4) (eLstC aNil) δ)) (fun δ => asB (eOp pEq (eCal (cal 49) (aCons (eVar 4) aNil)) (eLstC aNil) δ)) [some (rowsL R), o1, some (.ref u), some (Sp.tI lot), some (rowsL (leftR R h lot)), none] S = .ok (hits (lawL R h w) lot) S1 ∧ Keep S S1 := by
    have d1 : PyData.depthAll ((leftR R h lot).map fun r => PyData.list (r.map .int)) ≤ 50 := depthAll_le fun p hp => by
      obtain ⟨r, _, rfl⟩ := List.mem_map.mp hp
      have := depth_ints r
      simp only [PyData.depth]; omega
    have t1 : asB (eOp pEq (eVar 4) (eLstC aNil) [some (rowsL R), o1, some (.ref u), some (Sp.tI lot), some (rowsL (leftR R h lot)), none]) S = .ok (leftR R h lot).isEmpty (S ++ [some (.lst [])]) := by
      refine asB_ok (eOp_ok rfl (eLstC_ok rfl (Nat.zero_le _)) ((eq_nil_ref app_get (ps := (leftR R h lot).map fun r => .list (r.map .int)) ?_ d1).trans ?_))
      · simp only [toPS, toPSs_rowsL, Option.map_some]
      · simp
    by_cases he : leftR R h lot = []
    · have hr0 : (restL h lot).length = 0 := by rw [← hleft, he]; rfl
      have hh : hits (lawL R h w) lot = true := left_none.mp (by rw [hr0]; exact rest_nil_law)
      rw [hh]
      exact ⟨_, tOr_t (t1.trans (by rw [he]; rfl)), Keep.app⟩
    · have hr0 : 0 < (restL h lot).length := by
        rw [← hleft]; exact List.length_pos_iff.mpr he
      obtain ⟨S2, e2, k2⟩ := h49 (leftR R h lot) (restL h lot).length (S ++ [some (.lst [])]) hleft hr0 (by omega) gl
      have t1' : asB (eOp pEq (eVar 4) (eLstC aNil) [some (rowsL R), o1, some (.ref u), some (Sp.tI lot), some (rowsL (leftR R h lot)), none]) S = .ok false (S ++ [some (.lst [])]) := t1.trans (by
        cases hx : leftR R h lot with
        | nil => exact absurd hx he
        | cons _ _ => rfl)
      have d2 : PyData.depthAll ((lawL (leftR R h lot) (restL h lot).length w).map ringP) ≤ 50 := depthAll_le fun p hp => by
        obtain ⟨q, _, rfl⟩ := List.mem_map.mp hp
        have h1 := depth_ints q.1
        have h2 := depth_ints q.2
        unfold ringP pyT
        simp only [PyData.depth, PyData.depthAll]; omega
      have hb : ((lawL (leftR R h lot) (restL h lot).length w).map ringP).isEmpty = hits (lawL R h w) lot := by
        rw [Bool.eq_iff_iff, ← left_none, List.isEmpty_iff, List.map_eq_nil_iff]
      refine ⟨S2 ++ [some (.lst [])], tOr_f t1' (asB_ok (eOp_ok (eCal_ok (aCons_ok rfl rfl) e2) (eLstC_ok rfl (Nat.zero_le _)) ((eq_nil_ref app_get (ps := (lawL (leftR R h lot) (restL h lot).length w).map ringP) ?_ d2).trans ?_))), (Keep.app.trans k2).trans Keep.app⟩
      · simp only [toPS, toPSs_rings, Option.map_some]
      · rw [hb]
  obtain ⟨S1, et, k1⟩ := test
  have hc1 := k1.get hc
  refine ⟨some (rowsL (leftR R h lot)), ?_⟩
  unfold dBody
  cases hh : hits (lawL R h w) lot with
  | true =>
    rw [hh] at et
    have happ := app_ref (y := Sp.tI lot) hc1 (Nat.lt_of_lt_of_le (show (F.map Sp.tI).length < 1000000 by rw [List.length_map]; omega) (small (Nat.le_refl _)))
    refine ⟨_, sSeq_nx a4 (sIf_t et (sExpr_ok (eMB_ok rfl (ty_ref hc1) (aCons_ok rfl rfl) happ))), ?_, (hk.trans k1).set hu⟩
    rw [set_get hc1, if_pos rfl, List.map_append]
    rfl
  | false =>
    rw [hh] at et
    exact ⟨S1, sSeq_nx a4 (sIf_f et rfl), by rw [if_neg Bool.false_ne_true]; exact hc1, hk.trans k1⟩
theorem due_ev {R : Rw} {h w : Nat} (hl : R.length = h) (h8 : h ≤ 8) (g : G01 w R) (w8 : w ≤ 8) (h54 : ∀ (n s : Nat) S, n ≤ 8 → s ≤ 8 → cal 54 [.int n, .int s] S = .ok (lotsL (someL n s)) S)
    (h49 : ∀ (R' : Rw) (h' : Nat) S, R'.length = h' → 0 < h' → h' ≤ 8 → G01 w R' → ∃ S', cal 49 [rowsL R'] S = .ok (.lst ((lawL R' h' w).map ringD)) S' ∧ Keep S S') :
    ∃ S', funM 6 1 (b__law_due cal) [rowsL R] S = .ok (.tup ((due (lawL R h w) h (List.range (h + 1))).map Sp.tI)) S' ∧ Keep S S' := by
  have inner : ∀ (u : Nat) (S0 : Store), S0.length ≤ u → ∀ (ls F : Rw) (S' : Store) o1 o3 o4, F.length + ls.length ≤ 100000 → S'[u]? = some (some (.lst (F.map Sp.tI))) → Keep S0 S' →
      ∃ o3' o4' S2, loopF (gNm 3) (dBody cal) (ls.map Sp.tI) [some (rowsL R), o1, some (.ref u), o3, o4, none] S' = .nx [some (rowsL R), o1, some (.ref u), o3', o4', none] S2 ∧ S2[u]? = some (some (.lst ((F ++ ls.filter (hits (lawL R h w))).map Sp.tI))) ∧ Keep S0 S2 := by
    intro u S0 hu ls
    induction ls with
    | nil => intro F S' o1 o3 o4 _ hc hk; exact ⟨o3, o4, S', rfl, by simpa using hc, hk⟩
    | cons l ls ih =>
      intro F S' o1 o3 o4 hle hc hk
      simp only [List.length_cons] at hle
      obtain ⟨a, S1, e1, c1, k1⟩ := dBody_ev (S := S') (lot := l) (o1 := o1) (o4 := o4) hl h8 g w8 h49 hc (by omega) hk hu
      obtain ⟨a', b', S2, e2, c2, k2⟩ := ih _ S1 o1 (some (Sp.tI l)) a (by cases hits (lawL R h w) l <;> simp <;> omega) c1 k1
      refine ⟨a', b', S2, ?_, ?_, k2⟩
      · rw [List.map_cons, loop_nx rfl e1]; exact e2
      · rw [c2, List.filter_cons]
        cases hits (lawL R h w) l <;> simp
  let obody : MS := (sSeq (sAsg (eLstC aNil) (gNm 2))
    (sSeq (sFor (iAny (eCal (cal 54) (aCons (eCallV (pLen) (aCons (eVar 0) aNil)) (aCons (eVar 1) aNil)))) (gNm 3) (dBody cal))
    (sIf (fun δ => asB (eOp pNe (eVar 2) (eLstC aNil) δ)) (sRet (eCallV pTuple (aCons (eVar 2) aNil))) sNext)))
  have outer : ∀ (ss : List Nat), (∀ s ∈ ss, s ≤ 8) → ∀ (S' : Store) o1 o2 o3 o4, Keep S S' →
      (∃ S2, loopF (gNm 1) obody (ss.map fun (s : Nat) => D.int (s : Int)) [some (rowsL R), o1, o2, o3, o4, none] S' = .rt (.tup ((due (lawL R h w) h ss).map Sp.tI)) S2 ∧ Keep S S2) ∨
      (due (lawL R h w) h ss = [] ∧ ∃ o1' o2' o3' o4' S2, loopF (gNm 1) obody (ss.map fun (s : Nat) => D.int (s : Int)) [some (rowsL R), o1, o2, o3, o4, none] S' = .nx [some (rowsL R), o1', o2', o3', o4', none] S2 ∧ Keep S S2) := by
    intro ss
    induction ss with
    | nil => intro _ S' o1 o2 o3 o4 hk; exact .inr ⟨rfl, o1, o2, o3, o4, S', rfl, hk⟩
    | cons s ss ih =>
      intro hs S' o1 o2 o3 o4 hk
      have s8 := hs s (List.mem_cons_self ..)
      have hsl : (someL h s).length ≤ 256 := Nat.le_trans some_len (Nat.le_trans (Nat.pow_le_pow_right (by omega) h8) (by decide))
      obtain ⟨a, b, S1, e1, c1, k1⟩ := inner S'.length S hk.1 (someL h s) [] (S' ++ [some (.lst [])]) (some (.int (s : Int))) o3 o4 (by simp; omega) (by simp) (hk.trans Keep.app)
      rw [List.nil_append] at c1
      have hfl : ((someL h s).filter (hits (lawL R h w))).length ≤ 256 := Nat.le_trans (List.length_filter_le _ _) hsl
      have c1' : (S1 ++ [some (.lst [])])[S'.length]? = some (some (.lst ((hitS (lawL R h w) h s).map Sp.tI))) := Keep.app.get c1
      have tt : asB (eOp pNe (eVar 2) (eLstC aNil) [some (rowsL R), some (.int (s : Int)), some (.ref S'.length), a, b, none]) S1 = .ok (!(hitS (lawL R h w) h s).isEmpty) (S1 ++ [some (.lst [])]) := by
        refine asB_ok (eOp_ok rfl (eLstC_ok rfl (Nat.zero_le _)) ((ne_nil_ref app_get (ps := (hitS (lawL R h w) h s).map fun r => .tuple (r.map .int)) ?_ ?_).trans ?_))
        · simp only [toPS, plstOf, c1', Option.bind_some, toPs_lots, Option.map_some]
        · exact depthAll_le fun p hp => by
            obtain ⟨r, _, rfl⟩ := List.mem_map.mp hp
            have := depth_ints r
            simp only [PyData.depth]; omega
        · simp
      have pre : ∀ rf, sIf (fun δ => asB (eOp pNe (eVar 2) (eLstC aNil) δ)) (sRet (eCallV pTuple (aCons (eVar 2) aNil))) sNext [some (rowsL R), some (.int (s : Int)), some (.ref S'.length), a, b, none] S1 = rf → obody [some (rowsL R), some (.int (s : Int)), o2, o3, o4, none] S' = rf := fun rf he =>
        sSeq_nx (sAsg_ok (eLstC_ok rfl (Nat.zero_le _)) rfl) (sSeq_nx (sFor_ok (iAny_ok (eCal_ok (aCons_ok (eCallV_ok (aCons_ok rfl rfl) len_rL) (aCons_ok rfl rfl)) (by rw [hl]; exact h54 h s _ h8 s8)) rfl) e1) he)
      rw [List.map_cons]
      unfold due
      by_cases he : hitS (lawL R h w) h s = []
      · rw [if_pos he]
        have hb := pre _ (sIf_f (tt.trans (by rw [he]; rfl)) rfl)
        rw [loop_nx rfl hb]
        exact ih (fun x hx => hs x (List.mem_cons_of_mem _ hx)) _ _ _ _ _ (k1.trans Keep.app)
      · rw [if_neg he]
        refine .inl ⟨S1 ++ [some (.lst [])], loop_rt rfl (pre _ (sIf_t (tt.trans ?_) (sRet_ok (eCallV_ok (aCons_ok rfl rfl) (tuple_ref c1' (by show (hitS (lawL R h w) h s).length ≤ _; unfold hitS; omega)))))), k1.trans Keep.app⟩
        cases hx : hitS (lawL R h w) h s with
        | nil => exact absurd hx he
        | cons _ _ => rfl
  have hb : b__law_due cal = (sSeq (sFor (iR1 (aCons (eOp pAdd (eCallV (pLen) (aCons (eVar 0) aNil)) (eC (.int 1))) aNil)) (gNm 1) obody) (sRet (eTup aNil))) := rfl
  rw [hb]
  have hi : iR1 (aCons (eOp pAdd (eCallV (pLen) (aCons (eVar 0) aNil)) (eC (.int 1))) aNil) [some (rowsL R), none, none, none, none, none] S = .ok ((List.range (h + 1)).map fun (s : Nat) => D.int (s : Int)) S := by
    rw [← rng_map]
    exact iR1_ok (k := h + 1) (aCons_ok (eOp_ok (eCallV_ok (aCons_ok rfl rfl) (by rw [len_rL, hl])) rfl (by rw [pAdd_ii]; rfl)) rfl) (by omega)
  rcases outer (List.range (h + 1)) (fun s hs => by have := List.mem_range.mp hs; omega) S none none none none Keep.refl with ⟨S2, e2, k2⟩ | ⟨h0, a, b, c, d, S2, e2, k2⟩
  · exact ⟨S2, funM_rt rfl (sSeq_rt (sFor_ok hi e2)), k2⟩
  · rw [h0]
    exact ⟨S2, funM_rt rfl (sSeq_nx (sFor_ok hi e2) (sRet_ok (eTup_ok rfl (Nat.zero_le _)))), k2⟩
end
structure C55 (cal : Nat → List D → M D) : Prop where
  grid : GridF ReedJ (cal 51)
  full : ∀ (R : Rw) (most : Nat) S, Grid most R → most ≤ 8 → ∃ b, cal 50 [rowsL R] S = .ok (.bl b) S ∧ (b = true → ∃ h w, Full h w R ∧ h ≤ most ∧ w ≤ most)
  text : ∀ h w R S, Full h w R → cal 2 [rowsL R] S = .ok (.str (txt R)) S
  tab : ∀ h w R S, Full h w R → cal 1 [.str (txt R)] S = .ok (tabD h w R) S
  mine : ∀ h w R S, Full h w R → ∃ S', cal 83 [rowsL R] S = .ok (.tup ((due (lawL R h w) h (List.range (h + 1))).map Sp.tI)) S' ∧ Keep S S'
  least : ∀ h w R S, Full h w R → ∃ S', cal 82 [tabD h w R] S = .ok (.tup ((due (lawL R h w) h (List.range (h + 1))).map Sp.tI)) S' ∧ Keep S S'
def round55 (cal : Nat → List D → M D) : MS := (sSeq (sAsg (eCal (cal 51) (aCons (eVar 0) (aCons (eC (.int 7)) aNil))) (gNm 2))
    (sSeq (sIf (tNotM (fun δ => tru ((eCal (cal 50) (aCons (eVar 2) aNil)) δ))) sCnt sNext)
    (sSeq (sPar2 3 4 (aCons (eCal (cal 1) (aCons (eCal (cal 2) (aCons (eVar 2) aNil)) aNil)) (aCons (eCal (cal 83) (aCons (eVar 2) aNil)) aNil)))
    (sIf (fun δ => asB (eOp pNe (eCallV (pRepr) (aCons (eLst (aCons (eCal (cal 82) (aCons (eVar 3) aNil)) (aCons (eCal (cal 82) (aCons (eVar 3) aNil)) aNil))) aNil)) (eCallV (pRepr) (aCons (eLst (aCons (eVar 4) (aCons (eVar 4) aNil))) aNil)) δ)) (sRet (eC (.bl false))) sNext))))
theorem right55_eq {cal : Nat → List D → M D} : b__law_right_v4 cal = sSeq (sFor (iR1 (aCons (eC (.int 4)) aNil)) (gNm 1) (round55 cal)) (sRet (eC (.bl true))) := rfl
theorem toPSs_lots2 {S : Store} : ∀ R : Rw, toPSs S (R.map Sp.tI) = some (R.map pyT)
  | [] => rfl
  | r :: R => by
    have := toPSs_lots2 (S := S) R
    simp only [List.map_cons, toPSs, toPS, toPSs_ints, Option.map_some, Option.bind_some, this]
    rfl
theorem round55_ev {cal : Nat → List D → M D} (C : C55 cal) {t : Nat} {S : Store} {d1 d2 d3 d4 : Option D} (ht : At ReedJ t S) :
    ∃ δ' S', (round55 cal [some (.ref t), d1, d2, d3, d4] S = .nx δ' S' ∨ round55 cal [some (.ref t), d1, d2, d3, d4] S = .ct δ' S') ∧ (∃ d1 d2 d3 d4, δ' = [some (.ref t), d1, d2, d3, d4]) ∧ At ReedJ t S' := by
  obtain ⟨R, S1, e1, G, a1, f1⟩ := C.grid.go t 7 S ht (by omega) (by omega)
  obtain ⟨b, eb, hb⟩ := C.full R 7 S1 G (by omega)
  unfold round55
  cases b with
  | false => exact ⟨_, _, .inr (sSeq_nx (sAsg_ok (eCal_ok (aCons_ok rfl (aCons_ok rfl rfl)) e1) rfl) (sSeq_ct (sIf_t (tNot_ok (b := false) (tru_ok (eCal_ok (aCons_ok rfl rfl) eb) rfl)) rfl))), ⟨_, _, _, _, rfl⟩, a1⟩
  | true =>
    obtain ⟨h, w, F, h7, w7⟩ := hb rfl
    let Q := due (lawL R h w) h (List.range (h + 1))
    obtain ⟨q1, q2⟩ := due_mem (Q := lawL R h w) (h := h) (ss := List.range (h + 1))
    have hQ : Q.length ≤ 256 := Nat.le_trans q1 (Nat.le_trans (Nat.pow_le_pow_right (by omega) (show h ≤ 8 by omega)) (by decide))
    obtain ⟨S2, e2, k2⟩ := C.mine h w R S1 F
    obtain ⟨S3, e3, k3⟩ := C.least h w R S2 F
    obtain ⟨S4, e4, k4⟩ := C.least h w R S3 F
    have kk := (k2.trans k3).trans k4
    have fT : Fine (.tuple (Q.map pyT)) (41 * 256) 2 := fine_tuple (wt := 40) (dp := 1) (fun p hp => by
      obtain ⟨q, hq, rfl⟩ := List.mem_map.mp hp
      obtain ⟨r1, r2⟩ := q2 q hq
      have hlq := nodup_le (asc_nodup r1) (m := rng h) fun x hx => mem_rng.mpr (r2 x hx)
      rw [rng_length] at hlq
      exact fine_T (fun i hi => by have := r2 i hi; omega) (by omega)) (by simpa using hQ)
    have rp : ∀ S, pRepr [.lst [.tup (Q.map Sp.tI), .tup (Q.map Sp.tI)]] S = some (.str (PyData.list [.tuple (Q.map pyT), .tuple (Q.map pyT)]).shown, S) := fun S => by
      refine repr_list (wt := (41 * 256 + 1) * 2) (dp := 3) ?_ (fine_list (wt := 41 * 256) (dp := 2) (n := 2) (fun p hp => ?_) (by simp)) (by decide) (by decide)
      · simp only [toPS, toPSs, toPSs_lots2, Option.map_some, Option.bind_some]
      · simp at hp
        rw [hp]; exact fT
    have same : ∀ (z : Str) S, pNe (.str z) (.str z) S = some (.bl false, S) := fun z S => by rw [pNe_ss]; simp
    refine ⟨_, S4, .inl (sSeq_nx (sAsg_ok (eCal_ok (aCons_ok rfl (aCons_ok rfl rfl)) e1) rfl) (sSeq_nx (sIf_f (tNot_ok (b := true) (tru_ok (eCal_ok (aCons_ok rfl rfl) eb) rfl)) rfl) (sSeq_nx (sPar2_ok (aCons_ok (eCal_ok (aCons_ok (eCal_ok (aCons_ok rfl rfl) (C.text h w R S1 F)) rfl) (C.tab h w R S1 F)) (aCons_ok (eCal_ok (aCons_ok rfl rfl) e2) rfl))) (sIf_f (asB_ok (eOp_ok (eCallV_ok (aCons_ok (eLst_ok (aCons_ok (eCal_ok (aCons_ok rfl rfl) e3) (aCons_ok (eCal_ok (aCons_ok rfl rfl) e4) rfl)) (small (by simp))) rfl) (rp S4)) (eCallV_ok (aCons_ok (eLst_ok (aCons_ok rfl (aCons_ok rfl rfl)) (small (by simp))) rfl) (rp S4)) (same _ S4))) rfl)))), ⟨_, _, _, _, rfl⟩, kk.at a1⟩
theorem right55_ev {cal : Nat → List D → M D} (C : C55 cal) {t : Nat} {S : Store} (ht : At ReedJ t S) : ∃ S', funM 5 1 (b__law_right_v4 cal) [.ref t] S = .ok (.bl true) S' := by
  rw [right55_eq]
  obtain ⟨δ2, S2, e2, _⟩ := loop_invC (mg := gNm 1) (mb := round55 cal) (ds := rngD 0 4) (δ := [some (.ref t), none, none, none, none]) (S := S)
    (fun k δ S' => (∃ d1 d2 d3 d4, δ = [some (.ref t), d1, d2, d3, d4]) ∧ At ReedJ t S') (by
      rintro k δ S' hk ⟨⟨d1, d2, d3, d4, rfl⟩, a⟩
      rw [rng_get]
      obtain ⟨δ', S1, e1, h1, a1⟩ := round55_ev C (d1 := some (.int k)) (d2 := d2) (d3 := d3) (d4 := d4) a
      exact ⟨_, _, rfl, δ', S1, e1, h1, a1⟩) ⟨⟨_, _, _, _, rfl⟩, ht⟩
  exact ⟨S2, funM_rt rfl (sSeq_nx (sFor_ok (iR1_ok (k := 4) (aCons_ok rfl rfl) (by omega)) e2) (sRet_ok rfl))⟩
theorem law55_ev {cal : Nat → List D → M D} {ns : List Int} {S : Store} (hr : ∀ (k : Nat) S, k ≤ 1000 → ∃ c, ReedJ c ∧ cal 44 [.scr ns, .int k] S = .ok (.ref S.length) (S ++ [some (.lst c)])) (hg : ∀ t S, At ReedJ t S → ∃ S', cal 81 [.ref t] S = .ok (.bl true) S') : ∃ S', funM 2 1 (b_law_v5 cal) [.scr ns] S = .ok (.bl true) S' := by
  obtain ⟨ys, S2, e, h1⟩ := lc_inv (up := uNm 1) (mt := tYesM) (me := eCal (cal 81) (aCons (eCal (cal 44) (aCons (eVar 0) (aCons (eVar 1) aNil))) aNil)) (δ0 := wipeD [some (.scr ns), none] [1]) (ds := rngD 0 3) (S := S) (fun n acc S' => acc = List.replicate n (.bl true)) (by
    rintro n acc S' hn rfl
    rw [rng_get]
    rw [rng_len] at hn
    obtain ⟨c, hc, e1⟩ := hr n S' (by omega)
    obtain ⟨S3, e3⟩ := hg S'.length (S' ++ [some (.lst c)]) ⟨c, by simp, hc⟩
    refine ⟨_, rfl, .inr ⟨S', rfl, .bl true, S3, eCal_ok (aCons_ok (eCal_ok (aCons_ok rfl (aCons_ok rfl rfl)) e1) rfl) e3, ?_, ?_⟩⟩
    · rw [List.length_replicate]
      exact Nat.lt_of_lt_of_le (show n < 1000000 by omega) (small (Nat.le_refl _))
    · rw [List.replicate_succ']) rfl
  rw [rng_len] at h1
  unfold b_law_v5
  exact ⟨S2, funM_rt rfl (sRet_ok (eCallV_ok (aCons_ok (eLc_ok (iR1_ok (k := 3) (aCons_ok rfl rfl) (by omega)) e (newL_ev (by rw [h1]; simp; exact small (by omega)))) rfl) (by rw [h1]; rfl)))⟩
end Rg
namespace Lw
open PySem PySem.Spec PySem.SeqAt PyProof.Rows L2 Ev Bd
def top (i : Nat) : Stmt := PySem.Challenge.pw_oddrings_k55_whole_least_rows.main.body.getD i (.Pass ⟨0, 0, 0, 0⟩)
def calF (cal : Nat → List D → M D) (i : Nat) : List D → M D :=
  if i = 86 then funM 2 1 (b_law_v5 cal) else
  if i = 81 then funM 5 1 (b__law_right_v4 cal) else
  if i = 44 then funM 5 2 (b__law_reed cal) else
  if i = 82 then funM 6 1 (b_least_rows cal) else
  if i = 83 then funM 6 1 (b__law_due cal) else
  if i = 1 then (fun ds => M.bind (initM 3 1 (b_Table cal) ds) fun fs => M.pure (.ins "Table" fs)) else
  if i = 2 then funM 3 1 (b__law_text cal) else
  if i = 50 then funM 2 1 (b__law_full cal) else
  if i = 51 then funM 6 2 (b__law_grid_v2 cal) else
  if i = 84 then funM 4 1 (b_lots_below cal) else
  if i = 53 then funM 9 1 (b_rings_of cal) else
  if i = 23 then funM 1 1 (b_check_table cal) else
  if i = 54 then funM 7 2 (b__law_some cal) else
  if i = 49 then funM 10 1 (b__law_rings cal) else
  if i = 7 then funM 5 1 (b_read_rows cal) else
  if i = 6 then funM 1 1 (b_Table___str__ cal) else
  if i = 36 then funM 3 1 (b__law_turned cal) else
  if i = 57 then funM 9 4 (b__law_ringed cal) else
  if i = 58 then funM 8 3 (b__law_any cal) else
  if i = 59 then funM 5 2 (b__law_even cal) else
  if i = 60 then funM 3 2 (b__law_dip cal) else
  if i = 85 then funM 1 1 (b_size_first cal) else
  if i = 61 then funM 1 1 (b_length_first cal) else
  if i = 62 then funM 6 3 (b_grown cal) else
  if i = 63 then funM 6 1 (b_spots_of cal) else
  if i = 55 then funM 9 3 (b__law_one_ring cal) else
  if i = 56 then funM 6 3 (b__law_twos cal) else
  if i = 9 then funM 3 1 (b_is_full cal) else
  if i = 64 then funM 5 2 (b__law_mixed_v2 cal) else
  if i = 65 then funM 9 3 (b__law_runs cal) else
  fun _ _ => .bad
def callN : Nat → Nat → List D → M D
  | 0 => fun _ _ _ => .bad
  | n + 1 => calF (callN n)
theorem c_law_v5 (n : Nat) : callN (n + 1) 86 = funM 2 1 (b_law_v5 (callN n)) := rfl
theorem c__law_right_v4 (n : Nat) : callN (n + 1) 81 = funM 5 1 (b__law_right_v4 (callN n)) := rfl
theorem c__law_reed (n : Nat) : callN (n + 1) 44 = funM 5 2 (b__law_reed (callN n)) := rfl
theorem c_least_rows (n : Nat) : callN (n + 1) 82 = funM 6 1 (b_least_rows (callN n)) := rfl
theorem c__law_due (n : Nat) : callN (n + 1) 83 = funM 6 1 (b__law_due (callN n)) := rfl
theorem c_Table (n : Nat) : callN (n + 1) 1 = fun ds => M.bind (initM 3 1 (b_Table (callN n)) ds) fun fs => M.pure (.ins "Table" fs) := rfl
theorem c__law_text (n : Nat) : callN (n + 1) 2 = funM 3 1 (b__law_text (callN n)) := rfl
theorem c__law_full (n : Nat) : callN (n + 1) 50 = funM 2 1 (b__law_full (callN n)) := rfl
theorem c__law_grid_v2 (n : Nat) : callN (n + 1) 51 = funM 6 2 (b__law_grid_v2 (callN n)) := rfl
theorem c_lots_below (n : Nat) : callN (n + 1) 84 = funM 4 1 (b_lots_below (callN n)) := rfl
theorem c_rings_of (n : Nat) : callN (n + 1) 53 = funM 9 1 (b_rings_of (callN n)) := rfl
theorem c_check_table (n : Nat) : callN (n + 1) 23 = funM 1 1 (b_check_table (callN n)) := rfl
theorem c__law_some (n : Nat) : callN (n + 1) 54 = funM 7 2 (b__law_some (callN n)) := rfl
theorem c__law_rings (n : Nat) : callN (n + 1) 49 = funM 10 1 (b__law_rings (callN n)) := rfl
theorem c_read_rows (n : Nat) : callN (n + 1) 7 = funM 5 1 (b_read_rows (callN n)) := rfl
theorem c_Table___str__ (n : Nat) : callN (n + 1) 6 = funM 1 1 (b_Table___str__ (callN n)) := rfl
theorem c__law_turned (n : Nat) : callN (n + 1) 36 = funM 3 1 (b__law_turned (callN n)) := rfl
theorem c__law_ringed (n : Nat) : callN (n + 1) 57 = funM 9 4 (b__law_ringed (callN n)) := rfl
theorem c__law_any (n : Nat) : callN (n + 1) 58 = funM 8 3 (b__law_any (callN n)) := rfl
theorem c__law_even (n : Nat) : callN (n + 1) 59 = funM 5 2 (b__law_even (callN n)) := rfl
theorem c__law_dip (n : Nat) : callN (n + 1) 60 = funM 3 2 (b__law_dip (callN n)) := rfl
theorem c_size_first (n : Nat) : callN (n + 1) 85 = funM 1 1 (b_size_first (callN n)) := rfl
theorem c_length_first (n : Nat) : callN (n + 1) 61 = funM 1 1 (b_length_first (callN n)) := rfl
theorem c_grown (n : Nat) : callN (n + 1) 62 = funM 6 3 (b_grown (callN n)) := rfl
theorem c_spots_of (n : Nat) : callN (n + 1) 63 = funM 6 1 (b_spots_of (callN n)) := rfl
theorem c__law_one_ring (n : Nat) : callN (n + 1) 55 = funM 9 3 (b__law_one_ring (callN n)) := rfl
theorem c__law_twos (n : Nat) : callN (n + 1) 56 = funM 6 3 (b__law_twos (callN n)) := rfl
theorem c_is_full (n : Nat) : callN (n + 1) 9 = funM 3 1 (b_is_full (callN n)) := rfl
theorem c__law_mixed_v2 (n : Nat) : callN (n + 1) 64 = funM 5 2 (b__law_mixed_v2 (callN n)) := rfl
theorem c__law_runs (n : Nat) : callN (n + 1) 65 = funM 9 3 (b__law_runs (callN n)) := rfl
/-- what the module holds -/
structure Fc (K : PySem.W.Frag) (mg : Str → Option Value) : Prop where
  b_abs : mg "abs" = none
  b_all : mg "all" = none
  b_any : mg "any" = none
  b_divmod : mg "divmod" = none
  b_int : mg "int" = none
  b_isinstance : mg "isinstance" = none
  b_len : mg "len" = none
  b_list : mg "list" = none
  b_max : mg "max" = none
  b_min : mg "min" = none
  b_range : mg "range" = none
  b_repr : mg "repr" = none
  b_sorted : mg "sorted" = none
  b_str : mg "str" = none
  b_sum : mg "sum" = none
  b_tuple : mg "tuple" = none
  b_zip : mg "zip" = none
  c_MOST_COLUMNS : ∃ t, mg "MOST_COLUMNS" = some (.int 8 t)
  c_MOST_ROWS : ∃ t, mg "MOST_ROWS" = some (.int 8 t)
  g_law : mg "law" = some (.ref (He.ga K "law"))
  k_law : PySem.W.keepIn K (.ref (He.ga K "law")) = true
  g__law_right : mg "_law_right" = some (.ref (He.ga K "_law_right"))
  k__law_right : PySem.W.keepIn K (.ref (He.ga K "_law_right")) = true
  g__law_reed : mg "_law_reed" = some (.ref (He.ga K "_law_reed"))
  k__law_reed : PySem.W.keepIn K (.ref (He.ga K "_law_reed")) = true
  g_least_rows : mg "least_rows" = some (.ref (He.ga K "least_rows"))
  k_least_rows : PySem.W.keepIn K (.ref (He.ga K "least_rows")) = true
  g__law_due : mg "_law_due" = some (.ref (He.ga K "_law_due"))
  k__law_due : PySem.W.keepIn K (.ref (He.ga K "_law_due")) = true
  g_Table : mg "Table" = some (.ref (He.ga K "Table"))
  k_Table : PySem.W.keepIn K (.ref (He.ga K "Table")) = true
  mk_Table : Mk K (He.ga K "Table") (He.ma K (He.ga K "Table") "__init__")
  cls_Table : Cls K (He.ga K "Table")
  g__law_text : mg "_law_text" = some (.ref (He.ga K "_law_text"))
  k__law_text : PySem.W.keepIn K (.ref (He.ga K "_law_text")) = true
  g__law_full : mg "_law_full" = some (.ref (He.ga K "_law_full"))
  k__law_full : PySem.W.keepIn K (.ref (He.ga K "_law_full")) = true
  g__law_grid : mg "_law_grid" = some (.ref (He.ga K "_law_grid"))
  k__law_grid : PySem.W.keepIn K (.ref (He.ga K "_law_grid")) = true
  g_lots_below : mg "lots_below" = some (.ref (He.ga K "lots_below"))
  k_lots_below : PySem.W.keepIn K (.ref (He.ga K "lots_below")) = true
  g_rings_of : mg "rings_of" = some (.ref (He.ga K "rings_of"))
  k_rings_of : PySem.W.keepIn K (.ref (He.ga K "rings_of")) = true
  g_check_table : mg "check_table" = some (.ref (He.ga K "check_table"))
  k_check_table : PySem.W.keepIn K (.ref (He.ga K "check_table")) = true
  g__law_some : mg "_law_some" = some (.ref (He.ga K "_law_some"))
  k__law_some : PySem.W.keepIn K (.ref (He.ga K "_law_some")) = true
  g__law_rings : mg "_law_rings" = some (.ref (He.ga K "_law_rings"))
  k__law_rings : PySem.W.keepIn K (.ref (He.ga K "_law_rings")) = true
  g_read_rows : mg "read_rows" = some (.ref (He.ga K "read_rows"))
  k_read_rows : PySem.W.keepIn K (.ref (He.ga K "read_rows")) = true
  g__law_turned : mg "_law_turned" = some (.ref (He.ga K "_law_turned"))
  k__law_turned : PySem.W.keepIn K (.ref (He.ga K "_law_turned")) = true
  g__law_ringed : mg "_law_ringed" = some (.ref (He.ga K "_law_ringed"))
  k__law_ringed : PySem.W.keepIn K (.ref (He.ga K "_law_ringed")) = true
  g__law_any : mg "_law_any" = some (.ref (He.ga K "_law_any"))
  k__law_any : PySem.W.keepIn K (.ref (He.ga K "_law_any")) = true
  g__law_even : mg "_law_even" = some (.ref (He.ga K "_law_even"))
  k__law_even : PySem.W.keepIn K (.ref (He.ga K "_law_even")) = true
  g__law_dip : mg "_law_dip" = some (.ref (He.ga K "_law_dip"))
  k__law_dip : PySem.W.keepIn K (.ref (He.ga K "_law_dip")) = true
  g_size_first : mg "size_first" = some (.ref (He.ga K "size_first"))
  k_size_first : PySem.W.keepIn K (.ref (He.ga K "size_first")) = true
  g_length_first : mg "length_first" = some (.ref (He.ga K "length_first"))
  k_length_first : PySem.W.keepIn K (.ref (He.ga K "length_first")) = true
  g_grown : mg "grown" = some (.ref (He.ga K "grown"))
  k_grown : PySem.W.keepIn K (.ref (He.ga K "grown")) = true
  g_spots_of : mg "spots_of" = some (.ref (He.ga K "spots_of"))
  k_spots_of : PySem.W.keepIn K (.ref (He.ga K "spots_of")) = true
  g__law_one_ring : mg "_law_one_ring" = some (.ref (He.ga K "_law_one_ring"))
  k__law_one_ring : PySem.W.keepIn K (.ref (He.ga K "_law_one_ring")) = true
  g__law_twos : mg "_law_twos" = some (.ref (He.ga K "_law_twos"))
  k__law_twos : PySem.W.keepIn K (.ref (He.ga K "_law_twos")) = true
  g_is_full : mg "is_full" = some (.ref (He.ga K "is_full"))
  k_is_full : PySem.W.keepIn K (.ref (He.ga K "is_full")) = true
  g__law_mixed : mg "_law_mixed" = some (.ref (He.ga K "_law_mixed"))
  k__law_mixed : PySem.W.keepIn K (.ref (He.ga K "_law_mixed")) = true
  g__law_runs : mg "_law_runs" = some (.ref (He.ga K "_law_runs"))
  k__law_runs : PySem.W.keepIn K (.ref (He.ga K "_law_runs")) = true
  ok_height : ∀ c, ok_height c = true → Cls K (He.ga K c) ∧ NoAttr K (He.ga K c) "height"
  ok_rows : ∀ c, ok_rows c = true → Cls K (He.ga K c) ∧ NoAttr K (He.ga K c) "rows"
  ok_text : ∀ c, ok_text c = true → Cls K (He.ga K c) ∧ NoAttr K (He.ga K c) "text"
  ok_width : ∀ c, ok_width c = true → Cls K (He.ga K c) ∧ NoAttr K (He.ga K c) "width"
  isi : IsiOk K (isiT isi)
  me_Table___str__ : Meth K (He.ga K "Table") "__str__" (He.ma K (He.ga K "Table") "__str__")
  d_law : ∃ fd, FunD K "law" "law" (defArgs (top 40)) (defBody (top 40)) (defScope (top 40)) [] [] (He.ga K "law") fd
  d__law_right : ∃ fd, FunD K "_law_right" "_law_right" (defArgs (top 39)) (defBody (top 39)) (defScope (top 39)) [] [] (He.ga K "_law_right") fd
  d__law_reed : ∃ fd, FunD K "_law_reed" "_law_reed" (defArgs (top 23)) (defBody (top 23)) (defScope (top 23)) [] [] (He.ga K "_law_reed") fd
  d_least_rows : ∃ fd, FunD K "least_rows" "least_rows" (defArgs (top 21)) (defBody (top 21)) (defScope (top 21)) [] [] (He.ga K "least_rows") fd
  d__law_due : ∃ fd, FunD K "_law_due" "_law_due" (defArgs (top 38)) (defBody (top 38)) (defScope (top 38)) [] [] (He.ga K "_law_due") fd
  d_Table : ∃ fd, FunD K "__init__" "Table.__init__" (defArgs (inClass (top 10) 0)) (defBody (inClass (top 10) 0)) (defScope (inClass (top 10) 0)) [] [] (He.ma K (He.ga K "Table") "__init__") fd
  d__law_text : ∃ fd, FunD K "_law_text" "_law_text" (defArgs (top 33)) (defBody (top 33)) (defScope (top 33)) [] [] (He.ga K "_law_text") fd
  d__law_full : ∃ fd, FunD K "_law_full" "_law_full" (defArgs (top 32)) (defBody (top 32)) (defScope (top 32)) [] [] (He.ga K "_law_full") fd
  d__law_grid : ∃ fd, FunD K "_law_grid" "_law_grid" (defArgs (top 31)) (defBody (top 31)) (defScope (top 31)) [] [] (He.ga K "_law_grid") fd
  d_lots_below : ∃ fd, FunD K "lots_below" "lots_below" (defArgs (top 18)) (defBody (top 18)) (defScope (top 18)) [] [] (He.ga K "lots_below") fd
  d_rings_of : ∃ fd, FunD K "rings_of" "rings_of" (defArgs (top 15)) (defBody (top 15)) (defScope (top 15)) [] [] (He.ga K "rings_of") fd
  d_check_table : ∃ fd, FunD K "check_table" "check_table" (defArgs (top 11)) (defBody (top 11)) (defScope (top 11)) [] [] (He.ga K "check_table") fd
  d__law_some : ∃ fd, FunD K "_law_some" "_law_some" (defArgs (top 34)) (defBody (top 34)) (defScope (top 34)) [] [] (He.ga K "_law_some") fd
  d__law_rings : ∃ fd, FunD K "_law_rings" "_law_rings" (defArgs (top 37)) (defBody (top 37)) (defScope (top 37)) [] [] (He.ga K "_law_rings") fd
  d_read_rows : ∃ fd, FunD K "read_rows" "read_rows" (defArgs (top 9)) (defBody (top 9)) (defScope (top 9)) [] [] (He.ga K "read_rows") fd
  d_Table___str__ : ∃ fd, FunD K "__str__" "Table.__str__" (defArgs (inClass (top 10) 2)) (defBody (inClass (top 10) 2)) (defScope (inClass (top 10) 2)) [] [] (He.ma K (He.ga K "Table") "__str__") fd
  d__law_turned : ∃ fd, FunD K "_law_turned" "_law_turned" (defArgs (top 29)) (defBody (top 29)) (defScope (top 29)) [] [] (He.ga K "_law_turned") fd
  d__law_ringed : ∃ fd, FunD K "_law_ringed" "_law_ringed" (defArgs (top 27)) (defBody (top 27)) (defScope (top 27)) [] [] (He.ga K "_law_ringed") fd
  d__law_any : ∃ fd, FunD K "_law_any" "_law_any" (defArgs (top 26)) (defBody (top 26)) (defScope (top 26)) [] [] (He.ga K "_law_any") fd
  d__law_even : ∃ fd, FunD K "_law_even" "_law_even" (defArgs (top 30)) (defBody (top 30)) (defScope (top 30)) [] [] (He.ga K "_law_even") fd
  d__law_dip : ∃ fd, FunD K "_law_dip" "_law_dip" (defArgs (top 24)) (defBody (top 24)) (defScope (top 24)) [] [] (He.ga K "_law_dip") fd
  d_size_first : ∃ fd, FunD K "size_first" "size_first" (defArgs (top 19)) (defBody (top 19)) (defScope (top 19)) [] [] (He.ga K "size_first") fd
  d_length_first : ∃ fd, FunD K "length_first" "length_first" (defArgs (top 16)) (defBody (top 16)) (defScope (top 16)) [] [] (He.ga K "length_first") fd
  d_grown : ∃ fd, FunD K "grown" "grown" (defArgs (top 14)) (defBody (top 14)) (defScope (top 14)) [] [] (He.ga K "grown") fd
  d_spots_of : ∃ fd, FunD K "spots_of" "spots_of" (defArgs (top 13)) (defBody (top 13)) (defScope (top 13)) [] [] (He.ga K "spots_of") fd
  d__law_one_ring : ∃ fd, FunD K "_law_one_ring" "_law_one_ring" (defArgs (top 36)) (defBody (top 36)) (defScope (top 36)) [] [] (He.ga K "_law_one_ring") fd
  d__law_twos : ∃ fd, FunD K "_law_twos" "_law_twos" (defArgs (top 35)) (defBody (top 35)) (defScope (top 35)) [] [] (He.ga K "_law_twos") fd
  d_is_full : ∃ fd, FunD K "is_full" "is_full" (defArgs (top 8)) (defBody (top 8)) (defScope (top 8)) [] [] (He.ga K "is_full") fd
  d__law_mixed : ∃ fd, FunD K "_law_mixed" "_law_mixed" (defArgs (top 25)) (defBody (top 25)) (defScope (top 25)) [] [] (He.ga K "_law_mixed") fd
  d__law_runs : ∃ fd, FunD K "_law_runs" "_law_runs" (defArgs (top 28)) (defBody (top 28)) (defScope (top 28)) [] [] (He.ga K "_law_runs") fd
/-- what may be called -/
structure Tab (P : Program) (w : World) (K : PySem.W.Frag) (mg : Str → Option Value) (base : Heap) (k : Nat) (cal : Nat → List D → M D) : Prop where
  trv : True
  t__law_right : CalG P w K mg base (k + 2) (He.ga K "_law_right") [] (cal 81)
  t__law_reed : CalG P w K mg base (k + 2) (He.ga K "_law_reed") [] (cal 44)
  t_least_rows : CalG P w K mg base (k + 2) (He.ga K "least_rows") [] (cal 82)
  t_least_rows_table : CalG P w K mg base (k + 2) (He.ga K "least_rows") ["table"] (cal 82)
  t__law_due : CalG P w K mg base (k + 2) (He.ga K "_law_due") [] (cal 83)
  t_Table : CalG P w K mg base (k + 2) (He.ga K "Table") [] (cal 1)
  t__law_text : CalG P w K mg base (k + 2) (He.ga K "_law_text") [] (cal 2)
  t__law_full : CalG P w K mg base (k + 2) (He.ga K "_law_full") [] (cal 50)
  t__law_grid : CalG P w K mg base (k + 2) (He.ga K "_law_grid") [] (cal 51)
  t_lots_below : CalG P w K mg base (k + 2) (He.ga K "lots_below") [] (cal 84)
  t_rings_of : CalG P w K mg base (k + 2) (He.ga K "rings_of") [] (cal 53)
  t_check_table : CalG P w K mg base (k + 2) (He.ga K "check_table") [] (cal 23)
  t__law_some : CalG P w K mg base (k + 2) (He.ga K "_law_some") [] (cal 54)
  t__law_rings : CalG P w K mg base (k + 2) (He.ga K "_law_rings") [] (cal 49)
  t_read_rows : CalG P w K mg base (k + 2) (He.ga K "read_rows") [] (cal 7)
  t__law_turned : CalG P w K mg base (k + 2) (He.ga K "_law_turned") [] (cal 36)
  t__law_ringed : CalG P w K mg base (k + 2) (He.ga K "_law_ringed") [] (cal 57)
  t__law_any : CalG P w K mg base (k + 2) (He.ga K "_law_any") [] (cal 58)
  t__law_even : CalG P w K mg base (k + 2) (He.ga K "_law_even") [] (cal 59)
  t__law_dip : CalG P w K mg base (k + 2) (He.ga K "_law_dip") [] (cal 60)
  t_grown : CalG P w K mg base (k + 2) (He.ga K "grown") [] (cal 62)
  t_spots_of : CalG P w K mg base (k + 2) (He.ga K "spots_of") [] (cal 63)
  t__law_one_ring : CalG P w K mg base (k + 2) (He.ga K "_law_one_ring") [] (cal 55)
  t__law_twos : CalG P w K mg base (k + 2) (He.ga K "_law_twos") [] (cal 56)
  t_is_full : CalG P w K mg base (k + 2) (He.ga K "is_full") [] (cal 9)
  t__law_mixed : CalG P w K mg base (k + 2) (He.ga K "_law_mixed") [] (cal 64)
  t__law_runs : CalG P w K mg base (k + 2) (He.ga K "_law_runs") [] (cal 65)
  k_length_first : KeyG P w K mg base k (He.ga K "length_first") (cal 61)
  k_size_first : KeyG P w K mg base k (He.ga K "size_first") (cal 85)
  str : StrG P w K mg base k (strT cal)
section
variable {P : Program} {w : World} {K : PySem.W.Frag} {mg : Str → Option Value} {base : Heap} {k : Nat} {cal : Nat → List D → M D}
theorem sc_law : FnScope ["_law_cells", "_law_turn"] ["_law_cells"] (defScope (top 40)) := ⟨rfl, rfl, rfl, by decide +kernel, rfl, by decide +kernel, by decide +kernel⟩
theorem fb_law (F : Fc K mg) (T : Tab P w K mg base k cal) : FB P w K mg base (k + 2) ["_law_cells", "_law_turn"] "law" (defScope (top 40)) (defBody (top 40)) (b_law_v5 cal) := by
  intro f cdv A outer s H E hg hr
  have C := ct_of (P := P) (w := w) (K := K) (mg := mg) (base := base) (k := k + 2) (N := ["_law_cells", "_law_turn"]) (qual := "law") (scope := defScope (top 40)) (f := f) (cdv := cdv) (A := A) (outer := outer) (s := s) (H := H) (E := E) hg hr
  have nd := sc_law.nd
  exact (sb_one (ss_ret (nB (cr_pAll C.calm) F.b_all bt_all (nCons (nLc [("_law_turn", 1)] C fin_newL nd (nR1 F.b_range (nCons se_int sa_nil)) (blkOk_by (by kernel_rfl)) (fun _ _ _ _ _ => (uName 1 nd)) (fun _ _ _ _ _ => ptsNil) (fun _ _ _ _ _ => (nCal C.blk T.t__law_right F.g__law_right F.k__law_right (nCons (nCal C.blk T.t__law_reed F.g__law_reed F.k__law_reed (nCons (nVar 0) (nCons (nVar 1) sa_nil))) sa_nil))) upNm) sa_nil))))
theorem sc__law_right : FnScope ["_law_reed_here", "_law_turn", "_law_grid_here", "_law_mine", "_law_due_here"] ["_law_reed_here"] (defScope (top 39)) := ⟨rfl, rfl, rfl, by decide +kernel, rfl, by decide +kernel, by decide +kernel⟩
theorem fb__law_right (F : Fc K mg) (T : Tab P w K mg base k cal) : FB P w K mg base (k + 2) ["_law_reed_here", "_law_turn", "_law_grid_here", "_law_mine", "_law_due_here"] "_law_right" (defScope (top 39)) (defBody (top 39)) (b__law_right_v4 cal) := by
  intro f cdv A outer s H E hg hr
  have C := ct_of (P := P) (w := w) (K := K) (mg := mg) (base := base) (k := k + 2) (N := ["_law_reed_here", "_law_turn", "_law_grid_here", "_law_mine", "_law_due_here"]) (qual := "_law_right") (scope := defScope (top 39)) (f := f) (cdv := cdv) (A := A) (outer := outer) (s := s) (H := H) (E := E) hg hr
  have nd := sc__law_right.nd
  exact (sb_cons (nFor C po_of (nR1 F.b_range (nCons se_int sa_nil)) (gName 1 nd) (sb_cons (nSet 2 (nCal C T.t__law_grid F.g__law_grid F.k__law_grid (nCons (nVar 0) (nCons se_int sa_nil))) nd)
    (sb_cons (ss_if (st_not (nTru (nCal C T.t__law_full F.g__law_full F.k__law_full (nCons (nVar 2) sa_nil)))) (sb_one ss_continue) sb_nil)
    (sb_cons (nPar2 3 4 C nd (nCons (nCal C T.t_Table F.g_Table F.k_Table (nCons (nCal C T.t__law_text F.g__law_text F.k__law_text (nCons (nVar 2) sa_nil)) sa_nil)) (nCons (nCal C T.t__law_due F.g__law_due F.k__law_due (nCons (nVar 2) sa_nil)) sa_nil)))
    (sb_one (ss_if (nCmpT (op_pNe C.hu) (nB (cr_pRepr C.gd C.hu) F.b_repr bt_repr (nCons (se_lst (nCons (nCal C T.t_least_rows F.g_least_rows F.k_least_rows (nCons (nVar 3) sa_nil)) (nCons (nCalK0 C T.t_least_rows_table F.g_least_rows F.k_least_rows (sk_cons (nVar 3) sk_nil) (aCons_len aNil_len)) sa_nil))) sa_nil)) (nB (cr_pRepr C.gd C.hu) F.b_repr bt_repr (nCons (se_lst (nCons (nVar 4) (nCons (nVar 4) sa_nil))) sa_nil))) (sb_one (ss_ret se_bl)) sb_nil))))))
    (sb_one (ss_ret se_bl)))
theorem sc__law_reed : FnScope ["_law_cells", "_law_turn", "_law_mixed_here", "_law_cell", "_law_own"] ["_law_cells", "_law_turn"] (defScope (top 23)) := ⟨rfl, rfl, rfl, by decide +kernel, rfl, by decide +kernel, by decide +kernel⟩
theorem fb__law_reed (F : Fc K mg) (T : Tab P w K mg base k cal) : FB P w K mg base (k + 2) ["_law_cells", "_law_turn", "_law_mixed_here", "_law_cell", "_law_own"] "_law_reed" (defScope (top 23)) (defBody (top 23)) (b__law_reed cal) := by
  intro f cdv A outer s H E hg hr
  have C := ct_of (P := P) (w := w) (K := K) (mg := mg) (base := base) (k := k + 2) (N := ["_law_cells", "_law_turn", "_law_mixed_here", "_law_cell", "_law_own"]) (qual := "_law_reed") (scope := defScope (top 23)) (f := f) (cdv := cdv) (A := A) (outer := outer) (s := s) (H := H) (E := E) hg hr
  have nd := sc__law_reed.nd
  exact (sb_cons (nSet 2 (se_op op_pAdd se_int (se_op op_pMul se_int (nVar 1))) nd)
    (sb_cons (nFor C po_of (si_any (se_cut (nVar 0) so_none (so_some se_int))) (gName 3 nd) (sb_one (nSet 2 (se_op op_pMod (nT cr_pInt F.b_int bt_int (nCons (se_op op_pAdd (se_op op_pAdd (se_op op_pMul (nVar 2) se_int) (nVar 3)) se_int) sa_nil)) se_int) nd)))
    (sb_cons (nSet 4 (se_if (nCmpT op_pLt (nVar 1) (nB cr_pLen F.b_len bt_len (nCons (nVar 0) sa_nil))) (nIx (nVar 0) (nVar 1)) se_int) nd)
    (sb_one (ss_ret (se_lstC (nCons (se_op op_pMod (nT cr_pInt F.b_int bt_int (nCons (se_op op_pAdd (se_op op_pMul (nVar 2) se_int) (nVar 4)) sa_nil)) se_int) (nCons (se_if (nCmpT op_pGe (nB cr_pAbs F.b_abs bt_abs (nCons (nVar 4) sa_nil)) (se_op op_pPow se_int se_int)) (nB cr_pAbs F.b_abs bt_abs (nCons (nVar 4) sa_nil)) se_int) sa_nil))))))))
theorem sc_least_rows : FnScope ["table", "rings", "found", "lot", "row", "ring"] ["table"] (defScope (top 21)) := ⟨rfl, rfl, rfl, by decide +kernel, rfl, by decide +kernel, by decide +kernel⟩
theorem fb_least_rows (F : Fc K mg) (T : Tab P w K mg base k cal) : FB P w K mg base (k + 2) ["table", "rings", "found", "lot", "row", "ring"] "least_rows" (defScope (top 21)) (defBody (top 21)) (b_least_rows cal) := by
  intro f cdv A outer s H E hg hr
  have C := ct_of (P := P) (w := w) (K := K) (mg := mg) (base := base) (k := k + 2) (N := ["table", "rings", "found", "lot", "row", "ring"]) (qual := "least_rows") (scope := defScope (top 21)) (f := f) (cdv := cdv) (A := A) (outer := outer) (s := s) (H := H) (E := E) hg hr
  have nd := sc_least_rows.nd
  exact (sb_cons (nExpr (nCal C T.t_check_table F.g_check_table F.k_check_table (nCons (nVar 0) sa_nil)))
    (sb_cons (nSet 1 (nCal C T.t_rings_of F.g_rings_of F.k_rings_of (nCons (nFld F.ok_rows (nVar 0)) sa_nil)) nd)
    (sb_cons (ss_if (st_not (nTru (nVar 1))) (sb_one (ss_ret (se_tup (nCons (se_tup sa_nil) sa_nil)))) sb_nil)
    (sb_cons (nSet 2 (se_lstC sa_nil) nd)
    (sb_cons (nFor C po_of (si_any (nCal C T.t_lots_below F.g_lots_below F.k_lots_below (nCons (nFld F.ok_height (nVar 0)) sa_nil))) (gName 3 nd) (sb_cons (ss_if (sw_st (sw_and (nTru (nVar 2)) (sw_and1 (nCmpT op_pGt (nB cr_pLen F.b_len bt_len (nCons (nVar 3) sa_nil)) (nB cr_pLen F.b_len bt_len (nCons (nIx (nVar 2) se_int) sa_nil)))))) (sb_one (ss_ret (nT cr_pTuple F.b_tuple bt_tuple (nCons (nVar 2) sa_nil)))) sb_nil)
    (sb_one (ss_if (nTru (nB (cr_pAll C.calm) F.b_all bt_all (nCons (nLc [("ring", 5)] C fin_newL nd (si_any (nVar 1)) (blkOk_by (by kernel_rfl)) (fun _ _ _ _ _ => (uName 5 nd)) (fun _ _ _ _ _ => ptsNil) (fun _ _ _ _ _ => (nB (cr_pAny C.blk.calm) F.b_any bt_any (nCons (nLc [("row", 4)] C.blk fin_newL nd (si_any (nIx (nVar 5) se_int)) (blkOk_by (by kernel_rfl)) (fun _ _ _ _ _ => (uName 4 nd)) (fun _ _ _ _ _ => ptsNil) (fun _ _ _ _ _ => (nCmp (op_pIn C.blk.blk.hu) (nVar 4) (nVar 3))) upNm) sa_nil))) upNm) sa_nil))) (sb_one (nExpr (nMb PySem.F.plainAttrs_list PySem.F.slot_list_append PySem.F.type_list_append mt_pAppend (nVar 2) (nCons (nVar 3) sa_nil)))) sb_nil))))
    (sb_one (ss_ret (nT cr_pTuple F.b_tuple bt_tuple (nCons (nVar 2) sa_nil)))))))))
theorem sc__law_due : FnScope ["_law_grid_here", "_law_size", "_law_found", "_law_lot", "_law_left", "_law_j"] ["_law_grid_here"] (defScope (top 38)) := ⟨rfl, rfl, rfl, by decide +kernel, rfl, by decide +kernel, by decide +kernel⟩
theorem fb__law_due (F : Fc K mg) (T : Tab P w K mg base k cal) : FB P w K mg base (k + 2) ["_law_grid_here", "_law_size", "_law_found", "_law_lot", "_law_left", "_law_j"] "_law_due" (defScope (top 38)) (defBody (top 38)) (b__law_due cal) := by
  intro f cdv A outer s H E hg hr
  have C := ct_of (P := P) (w := w) (K := K) (mg := mg) (base := base) (k := k + 2) (N := ["_law_grid_here", "_law_size", "_law_found", "_law_lot", "_law_left", "_law_j"]) (qual := "_law_due") (scope := defScope (top 38)) (f := f) (cdv := cdv) (A := A) (outer := outer) (s := s) (H := H) (E := E) hg hr
  have nd := sc__law_due.nd
  exact (sb_cons (nFor C po_of (nR1 F.b_range (nCons (se_op op_pAdd (nB cr_pLen F.b_len bt_len (nCons (nVar 0) sa_nil)) se_int) sa_nil)) (gName 1 nd) (sb_cons (nSet 2 (se_lstC sa_nil) nd)
    (sb_cons (nFor C po_of (si_any (nCal C T.t__law_some F.g__law_some F.k__law_some (nCons (nB cr_pLen F.b_len bt_len (nCons (nVar 0) sa_nil)) (nCons (nVar 1) sa_nil)))) (gName 3 nd) (sb_cons (nSetLc 4 [("_law_j", 5)] C fin_newL nd (nR1 F.b_range (nCons (nB cr_pLen F.b_len bt_len (nCons (nVar 0) sa_nil)) sa_nil)) (blkOk_by (by kernel_rfl)) (fun _ _ _ _ _ => (uName 5 nd)) (fun _ _ _ _ _ => (ptsOne (nCmpT (op_pNotIn C.blk.hu) (nVar 5) (nVar 3)))) (fun _ _ _ _ _ => (nIx (nVar 0) (nVar 5))) upNm)
    (sb_one (ss_if (sw_st (sw_or (nCmpT (op_pEq C.hu) (nVar 4) (se_lstC sa_nil)) (sw_or1 (nCmpT (op_pEq C.hu) (nCal C T.t__law_rings F.g__law_rings F.k__law_rings (nCons (nVar 4) sa_nil)) (se_lstC sa_nil))))) (sb_one (nExpr (nMb PySem.F.plainAttrs_list PySem.F.slot_list_append PySem.F.type_list_append mt_pAppend (nVar 2) (nCons (nVar 3) sa_nil)))) sb_nil))))
    (sb_one (ss_if (nCmpT (op_pNe C.hu) (nVar 2) (se_lstC sa_nil)) (sb_one (ss_ret (nT cr_pTuple F.b_tuple bt_tuple (nCons (nVar 2) sa_nil)))) sb_nil)))))
    (sb_one (ss_ret (se_tup sa_nil))))
theorem sc_Table : FnScope ["self", "text", "rows"] ["self", "text"] (defScope (inClass (top 10) 0)) := ⟨rfl, rfl, rfl, by decide +kernel, rfl, by decide +kernel, by decide +kernel⟩
theorem fb_Table (F : Fc K mg) (T : Tab P w K mg base k cal) : FBI P w K mg base (k + 2) ["self", "text", "rows"] "Table.__init__" (defScope (inClass (top 10) 0)) "Table" (defBody (inClass (top 10) 0)) (b_Table cal) := by
  intro f cdv A outer s H E hg hr
  have C := ct_of (P := P) (w := w) (K := K) (mg := mg) (base := base) (k := k + 2) (N := ["self", "text", "rows"]) (qual := "Table.__init__") (scope := defScope (inClass (top 10) 0)) (f := f) (cdv := cdv) (A := A) (outer := outer) (s := s) (H := H) (E := E) hg hr
  have nd := sc_Table.nd
  exact (sbi_ord (nSet 2 (nCal C T.t_read_rows F.g_read_rows F.k_read_rows (nCons (nVar 1) sa_nil)) nd)
    (sbi_ord (ss_if (nCmpT op_pIs (nVar 2) se_non) (sb_one ss_bad) sb_nil)
    (iMany C (se_tup (nCons (nVar 1) (nCons (nVar 2) sa_nil))) (iCs (iSelf (F.ok_text "Table" rfl)) (iCs (iSelf (F.ok_rows "Table" rfl)) sgis_nil)) (iMany C (se_tup (nCons (nB cr_pLen F.b_len bt_len (nCons (nVar 2) sa_nil)) (nCons (nB cr_pLen F.b_len bt_len (nCons (nIx (nVar 2) se_int) sa_nil)) sa_nil))) (iCs (iSelf (F.ok_height "Table" rfl)) (iCs (iSelf (F.ok_width "Table" rfl)) sgis_nil)) sbi_nil))))
theorem sc__law_text : FnScope ["_law_grid_here", "_law_digit", "_law_row"] ["_law_grid_here"] (defScope (top 33)) := ⟨rfl, rfl, rfl, by decide +kernel, rfl, by decide +kernel, by decide +kernel⟩
theorem fb__law_text (F : Fc K mg) (T : Tab P w K mg base k cal) : FB P w K mg base (k + 2) ["_law_grid_here", "_law_digit", "_law_row"] "_law_text" (defScope (top 33)) (defBody (top 33)) (b__law_text cal) := by
  intro f cdv A outer s H E hg hr
  have C := ct_of (P := P) (w := w) (K := K) (mg := mg) (base := base) (k := k + 2) (N := ["_law_grid_here", "_law_digit", "_law_row"]) (qual := "_law_text") (scope := defScope (top 33)) (f := f) (cdv := cdv) (A := A) (outer := outer) (s := s) (H := H) (E := E) hg hr
  have nd := sc__law_text.nd
  exact (sb_one (ss_ret (nMb PySem.F.plainAttrs_str PySem.F.slot_str_join PySem.F.type_str_join mt_pJoin se_str (nCons (nLc [("_law_row", 2)] C fin_newL nd (si_any (nVar 0)) (blkOk_by (by kernel_rfl)) (fun _ _ _ _ _ => (uName 2 nd)) (fun _ _ _ _ _ => ptsNil) (fun _ _ _ _ _ => (nMb PySem.F.plainAttrs_str PySem.F.slot_str_join PySem.F.type_str_join mt_pJoin se_str (nCons (nLc [("_law_digit", 1)] C.blk fin_newL nd (si_any (nVar 2)) (blkOk_by (by kernel_rfl)) (fun _ _ _ _ _ => (uName 1 nd)) (fun _ _ _ _ _ => ptsNil) (fun _ _ _ _ _ => (nT (cr_pStrI (k := k) T.str (C.blk.blk.room.mono (by omega)) C.blk.blk.gd) F.b_str bt_str (nCons (nVar 1) sa_nil))) upNm) sa_nil))) upNm) sa_nil))))
theorem sc__law_full : FnScope ["_law_grid_here", "_law_row"] ["_law_grid_here"] (defScope (top 32)) := ⟨rfl, rfl, rfl, by decide +kernel, rfl, by decide +kernel, by decide +kernel⟩
theorem fb__law_full (F : Fc K mg) (T : Tab P w K mg base k cal) : FB P w K mg base (k + 2) ["_law_grid_here", "_law_row"] "_law_full" (defScope (top 32)) (defBody (top 32)) (b__law_full cal) := by
  intro f cdv A outer s H E hg hr
  have C := ct_of (P := P) (w := w) (K := K) (mg := mg) (base := base) (k := k + 2) (N := ["_law_grid_here", "_law_row"]) (qual := "_law_full") (scope := defScope (top 32)) (f := f) (cdv := cdv) (A := A) (outer := outer) (s := s) (H := H) (E := E) hg hr
  have nd := sc__law_full.nd
  exact (sb_one (ss_ret (se_and (nCmp (op_pNotIn C.hu) se_int (nLc [("_law_row", 1)] C fin_newL nd (si_any (nVar 0)) (blkOk_by (by kernel_rfl)) (fun _ _ _ _ _ => (uName 1 nd)) (fun _ _ _ _ _ => ptsNil) (fun _ _ _ _ _ => (nB (cr_pMax C.blk.calm) F.b_max bt_max (nCons (nVar 1) sa_nil))) upNm)) (and1 (nCmp (op_pNotIn C.hu) se_int (nLc [("_law_row", 1)] C fin_newL nd (si_any (nCal C T.t__law_turned F.g__law_turned F.k__law_turned (nCons (nVar 0) sa_nil))) (blkOk_by (by kernel_rfl)) (fun _ _ _ _ _ => (uName 1 nd)) (fun _ _ _ _ _ => ptsNil) (fun _ _ _ _ _ => (nB (cr_pMax C.blk.calm) F.b_max bt_max (nCons (nVar 1) sa_nil))) upNm))))))
theorem sc__law_grid : FnScope ["_law_reed_here", "_law_most", "_law_tall", "_law_wide", "_law_way", "_law_odd"] ["_law_reed_here", "_law_most"] (defScope (top 31)) := ⟨rfl, rfl, rfl, by decide +kernel, rfl, by decide +kernel, by decide +kernel⟩
theorem fb__law_grid (F : Fc K mg) (T : Tab P w K mg base k cal) : FB P w K mg base (k + 2) ["_law_reed_here", "_law_most", "_law_tall", "_law_wide", "_law_way", "_law_odd"] "_law_grid" (defScope (top 31)) (defBody (top 31)) (b__law_grid_v2 cal) := by
  intro f cdv A outer s H E hg hr
  have C := ct_of (P := P) (w := w) (K := K) (mg := mg) (base := base) (k := k + 2) (N := ["_law_reed_here", "_law_most", "_law_tall", "_law_wide", "_law_way", "_law_odd"]) (qual := "_law_grid") (scope := defScope (top 31)) (f := f) (cdv := cdv) (A := A) (outer := outer) (s := s) (H := H) (E := E) hg hr
  have nd := sc__law_grid.nd
  exact (sb_cons (nPar3 2 3 4 C nd (nCons (se_op op_pAdd se_int (nCal C T.t__law_dip F.g__law_dip F.k__law_dip (nCons (nVar 0) (nCons (nVar 1) sa_nil)))) (nCons (se_op op_pAdd se_int (nCal C T.t__law_dip F.g__law_dip F.k__law_dip (nCons (nVar 0) (nCons (nVar 1) sa_nil)))) (nCons (nCal C T.t__law_dip F.g__law_dip F.k__law_dip (nCons (nVar 0) (nCons se_int sa_nil))) sa_nil))))
    (sb_cons (ss_if (nCmpT (op_pEq C.hu) (nVar 4) se_int) (sb_one (ss_ret (nCal C T.t__law_even F.g__law_even F.k__law_even (nCons (nVar 0) (nCons (nVar 1) sa_nil))))) sb_nil)
    (sb_cons (nSet 5 (se_if (sw_st (sw_and (nCmpT (op_pEq C.hu) (nVar 4) se_int) (sw_and1 (nCmpT op_pGt (nB (cr_pMin C.calm) F.b_min bt_min (nCons (nVar 2) (nCons (nVar 3) sa_nil))) se_int)))) se_int se_int) nd)
    (sb_one (ss_ret (se_if (sw_st (sw_and (nCmpT op_pGt (nVar 4) se_int) (sw_and1 (nCmpT op_pGt (nB (cr_pMin C.calm) F.b_min bt_min (nCons (nVar 2) (nCons (nVar 3) sa_nil))) se_int)))) (nCal C T.t__law_ringed F.g__law_ringed F.k__law_ringed (nCons (nVar 0) (nCons (nVar 2) (nCons (nVar 3) (nCons (nVar 5) sa_nil))))) (se_frz (nCal C T.t__law_any F.g__law_any F.k__law_any (nCons (nVar 0) (nCons (nVar 2) (nCons (nVar 3) sa_nil)))))))))))
theorem sc_lots_below : FnScope ["many", "found", "index", "lot"] ["many"] (defScope (top 18)) := ⟨rfl, rfl, rfl, by decide +kernel, rfl, by decide +kernel, by decide +kernel⟩
theorem fb_lots_below (F : Fc K mg) (T : Tab P w K mg base k cal) : FB P w K mg base (k + 2) ["many", "found", "index", "lot"] "lots_below" (defScope (top 18)) (defBody (top 18)) (b_lots_below cal) := by
  intro f cdv A outer s H E hg hr
  have C := ct_of (P := P) (w := w) (K := K) (mg := mg) (base := base) (k := k + 2) (N := ["many", "found", "index", "lot"]) (qual := "lots_below") (scope := defScope (top 18)) (f := f) (cdv := cdv) (A := A) (outer := outer) (s := s) (H := H) (E := E) hg hr
  have nd := sc_lots_below.nd
  exact (sb_cons (nSet 1 (se_lst (nCons (se_tup sa_nil) sa_nil)) nd)
    (sb_cons (nFor C po_of (nR1 F.b_range (nCons (nVar 0) sa_nil)) (gName 2 nd) (sb_one (nSet 1 (se_op op_pAdd (nVar 1) (nLc [("lot", 3)] C fin_newL nd (si_any (nVar 1)) (blkOk_by (by kernel_rfl)) (fun _ _ _ _ _ => (uName 3 nd)) (fun _ _ _ _ _ => ptsNil) (fun _ _ _ _ _ => (se_tup (sa_star (nVar 3) (nCons (nVar 2) sa_nil)))) upNm)) nd)))
    (sb_one (ss_ret (nSortK C T.k_size_first F.b_sorted F.g_size_first (se_cut (nVar 1) (so_some se_int) so_none))))))
theorem sc_rings_of : FnScope ["rows", "height", "spots", "found", "row", "rings", "places", "many", "place"] ["rows"] (defScope (top 15)) := ⟨rfl, rfl, rfl, by decide +kernel, rfl, by decide +kernel, by decide +kernel⟩
theorem fb_rings_of (F : Fc K mg) (T : Tab P w K mg base k cal) : FB P w K mg base (k + 2) ["rows", "height", "spots", "found", "row", "rings", "places", "many", "place"] "rings_of" (defScope (top 15)) (defBody (top 15)) (b_rings_of cal) := by
  intro f cdv A outer s H E hg hr
  have C := ct_of (P := P) (w := w) (K := K) (mg := mg) (base := base) (k := k + 2) (N := ["rows", "height", "spots", "found", "row", "rings", "places", "many", "place"]) (qual := "rings_of") (scope := defScope (top 15)) (f := f) (cdv := cdv) (A := A) (outer := outer) (s := s) (H := H) (E := E) hg hr
  have nd := sc_rings_of.nd
  exact (sb_cons (nAsg (se_tup (nCons (nB cr_pLen F.b_len bt_len (nCons (nVar 0) sa_nil)) (nCons (nCal C T.t_spots_of F.g_spots_of F.k_spots_of (nCons (nVar 0) sa_nil)) (nCons se_dT sa_nil)))) (gTup C (gCons (gName 1 nd) (gCons (gName 2 nd) (gCons (gName 3 nd) sgs_nil)))))
    (sb_cons (nFor C po_of (nR1 F.b_range (nCons (nVar 1) sa_nil)) (gName 4 nd) (sb_one (nExpr (nCal C T.t_grown F.g_grown F.k_grown (nCons (nVar 2) (nCons (se_lst (nCons (nVar 4) sa_nil)) (nCons (nVar 3) sa_nil)))))))
    (sb_cons (nSet 5 (se_lstC sa_nil) nd)
    (sb_cons (nFor C po_of (nKeysV 3) (gName 6 nd) (sb_cons (nSet 7 (se_op op_pFdiv (nB cr_pLen F.b_len bt_len (nCons (nVar 6) sa_nil)) se_int) nd)
    (sb_one (ss_if (sw_st (sw_and (nCmpT op_pGt (nVar 7) se_int) (sw_and1 (nCmpT (op_pEq C.hu) (se_op op_pMod (nT cr_pInt F.b_int bt_int (nCons (nVar 7) sa_nil)) se_int) se_int)))) (sb_one (nExpr (nMb PySem.F.plainAttrs_list PySem.F.slot_list_append PySem.F.type_list_append mt_pAppend (nVar 5) (nCons (se_tup (nCons (se_cut (nVar 6) so_none (so_some (nVar 7))) (nCons (nT cr_pTuple F.b_tuple bt_tuple (nCons (nLc [("place", 8)] C fin_newL nd (si_any (se_cut (nVar 6) (so_some (nVar 7)) so_none)) (blkOk_by (by kernel_rfl)) (fun _ _ _ _ _ => (uName 8 nd)) (fun _ _ _ _ _ => ptsNil) (fun _ _ _ _ _ => (se_op op_pSub (nVar 8) (nVar 1))) upNm) sa_nil)) sa_nil))) sa_nil)))) sb_nil))))
    (sb_one (ss_ret (nSortK C T.k_length_first F.b_sorted F.g_length_first (nVar 5))))))))
theorem sc_check_table : FnScope ["value"] ["value"] (defScope (top 11)) := ⟨rfl, rfl, rfl, by decide +kernel, rfl, by decide +kernel, by decide +kernel⟩
theorem fb_check_table (F : Fc K mg) (T : Tab P w K mg base k cal) : FB P w K mg base (k + 2) ["value"] "check_table" (defScope (top 11)) (defBody (top 11)) (b_check_table cal) := by
  intro f cdv A outer s H E hg hr
  have C := ct_of (P := P) (w := w) (K := K) (mg := mg) (base := base) (k := k + 2) (N := ["value"]) (qual := "check_table") (scope := defScope (top 11)) (f := f) (cdv := cdv) (A := A) (outer := outer) (s := s) (H := H) (E := E) hg hr
  have nd := sc_check_table.nd
  exact (sb_one (ss_if (st_not (nTru (nIsi (p2 := ⟨0, 0, 0, 0⟩) (c := .own "Table") F.isi (nVar 0) (pe_glob (v := .ref (He.ga K "Table")) rfl F.g_Table rfl) (.own _) F.b_isinstance))) (sb_one ss_bad) sb_nil))
theorem sc__law_some : FnScope ["_law_many", "_law_size", "_law_found", "_law_turn", "_law_later", "_law_each", "_law_k"] ["_law_many", "_law_size"] (defScope (top 34)) := ⟨rfl, rfl, rfl, by decide +kernel, rfl, by decide +kernel, by decide +kernel⟩
theorem fb__law_some (F : Fc K mg) (T : Tab P w K mg base k cal) : FB P w K mg base (k + 2) ["_law_many", "_law_size", "_law_found", "_law_turn", "_law_later", "_law_each", "_law_k"] "_law_some" (defScope (top 34)) (defBody (top 34)) (b__law_some cal) := by
  intro f cdv A outer s H E hg hr
  have C := ct_of (P := P) (w := w) (K := K) (mg := mg) (base := base) (k := k + 2) (N := ["_law_many", "_law_size", "_law_found", "_law_turn", "_law_later", "_law_each", "_law_k"]) (qual := "_law_some") (scope := defScope (top 34)) (f := f) (cdv := cdv) (A := A) (outer := outer) (s := s) (H := H) (E := E) hg hr
  have nd := sc__law_some.nd
  exact (sb_cons (nSet 2 (se_lst (nCons (se_tup sa_nil) sa_nil)) nd)
    (sb_cons (nFor C po_of (nR1 F.b_range (nCons (nVar 1) sa_nil)) (gName 3 nd) (sb_cons (nSet 4 (se_lst sa_nil) nd)
    (sb_cons (nFor C po_of (si_any (nVar 2)) (gName 5 nd) (sb_one (nSet 4 (se_op op_pAdd (nVar 4) (nLc [("_law_k", 6)] C fin_newL nd (nR1 F.b_range (nCons (nVar 0) sa_nil)) (blkOk_by (by kernel_rfl)) (fun _ _ _ _ _ => (uName 6 nd)) (fun _ _ _ _ _ => (ptsOne (sw_st (sw_or (nCmpT (op_pEq C.blk.hu) (nVar 5) (se_tup sa_nil)) (sw_or1 (nCmpT op_pGt (nVar 6) (nIx (nVar 5) (se_un un_pNeg se_int)))))))) (fun _ _ _ _ _ => (se_op op_pAdd (nVar 5) (se_tup (nCons (nVar 6) sa_nil)))) upNm)) nd)))
    (sb_one (nSet 2 (nVar 4) nd)))))
    (sb_one (ss_ret (nVar 2)))))
theorem sc__law_rings : FnScope ["_law_grid_here", "_law_found", "_law_size", "_law_lot", "_law_spots", "_law_places_here", "_law_columns_here", "_law_k", "_law_sums", "_law_j"] ["_law_grid_here"] (defScope (top 37)) := ⟨rfl, rfl, rfl, by decide +kernel, rfl, by decide +kernel, by decide +kernel⟩
theorem fb__law_rings (F : Fc K mg) (T : Tab P w K mg base k cal) : FB P w K mg base (k + 2) ["_law_grid_here", "_law_found", "_law_size", "_law_lot", "_law_spots", "_law_places_here", "_law_columns_here", "_law_k", "_law_sums", "_law_j"] "_law_rings" (defScope (top 37)) (defBody (top 37)) (b__law_rings cal) := by
  intro f cdv A outer s H E hg hr
  have C := ct_of (P := P) (w := w) (K := K) (mg := mg) (base := base) (k := k + 2) (N := ["_law_grid_here", "_law_found", "_law_size", "_law_lot", "_law_spots", "_law_places_here", "_law_columns_here", "_law_k", "_law_sums", "_law_j"]) (qual := "_law_rings") (scope := defScope (top 37)) (f := f) (cdv := cdv) (A := A) (outer := outer) (s := s) (H := H) (E := E) hg hr
  have nd := sc__law_rings.nd
  exact (sb_cons (nSet 1 (se_lstC sa_nil) nd)
    (sb_cons (nFor C po_of (si_any (se_lst (nCons se_int (nCons se_int (nCons se_int sa_nil))))) (gName 2 nd) (sb_one (nFor C po_of (si_any (nCal C T.t__law_some F.g__law_some F.k__law_some (nCons (nB cr_pLen F.b_len bt_len (nCons (nVar 0) sa_nil)) (nCons (nVar 2) sa_nil)))) (gName 3 nd) (sb_cons (nSet 4 (nCal C T.t__law_twos F.g__law_twos F.k__law_twos (nCons (nVar 0) (nCons (nVar 3) (nCons (nVar 2) sa_nil)))) nd)
    (sb_one (nFor C po_of (si_any (nCal C T.t__law_some F.g__law_some F.k__law_some (nCons (nB cr_pLen F.b_len bt_len (nCons (nVar 4) sa_nil)) (nCons (nVar 2) sa_nil)))) (gName 5 nd) (sb_cons (nSet 6 (nT cr_pTuple F.b_tuple bt_tuple (nCons (nLc [("_law_k", 7)] C fin_newL nd (si_any (nVar 5)) (blkOk_by (by kernel_rfl)) (fun _ _ _ _ _ => (uName 7 nd)) (fun _ _ _ _ _ => ptsNil) (fun _ _ _ _ _ => (nIx (nVar 4) (nVar 7))) upNm) sa_nil)) nd)
    (sb_cons (nSetLc 8 [("_law_j", 9)] C fin_newL nd (si_any (nVar 3)) (blkOk_by (by kernel_rfl)) (fun _ _ _ _ _ => (uName 9 nd)) (fun _ _ _ _ _ => ptsNil) (fun _ _ _ _ _ => (nB (cr_pSum C.blk.calm) F.b_sum bt_sum (nCons (nLc [("_law_k", 7)] C.blk fin_newL nd (si_any (nVar 6)) (blkOk_by (by kernel_rfl)) (fun _ _ _ _ _ => (uName 7 nd)) (fun _ _ _ _ _ => ptsNil) (fun _ _ _ _ _ => (nIx (nIx (nVar 0) (nVar 9)) (nVar 7))) upNm) sa_nil))) upNm)
    (sb_one (ss_if (sw_st (sw_and (nCmpT (op_pEq C.hu) (nVar 8) (se_op op_pMul (se_lst (nCons se_int sa_nil)) (nVar 2))) (sw_and1 (nTru (nCal C T.t__law_one_ring F.g__law_one_ring F.k__law_one_ring (nCons (nVar 0) (nCons (nVar 3) (nCons (nVar 6) sa_nil)))))))) (sb_one (nExpr (nMb PySem.F.plainAttrs_list PySem.F.slot_list_append PySem.F.type_list_append mt_pAppend (nVar 1) (nCons (se_tup (nCons (nVar 3) (nCons (nVar 6) sa_nil))) sa_nil)))) sb_nil))))))))))
    (sb_one (ss_ret (se_frz (nVar 1))))))
theorem sc_read_rows : FnScope ["text", "lines", "sign", "line", "rows"] ["text"] (defScope (top 9)) := ⟨rfl, rfl, rfl, by decide +kernel, rfl, by decide +kernel, by decide +kernel⟩
theorem fb_read_rows (F : Fc K mg) (T : Tab P w K mg base k cal) : FB P w K mg base (k + 2) ["text", "lines", "sign", "line", "rows"] "read_rows" (defScope (top 9)) (defBody (top 9)) (b_read_rows cal) := by
  intro f cdv A outer s H E hg hr
  have C := ct_of (P := P) (w := w) (K := K) (mg := mg) (base := base) (k := k + 2) (N := ["text", "lines", "sign", "line", "rows"]) (qual := "read_rows") (scope := defScope (top 9)) (f := f) (cdv := cdv) (A := A) (outer := outer) (s := s) (H := H) (E := E) hg hr
  have nd := sc_read_rows.nd
  exact (sb_cons (ss_if (st_not (nTru (nIsi (p2 := ⟨0, 0, 0, 0⟩) (c := .blt "str") F.isi (nVar 0) (pe_bltn (v := .ty "str") rfl F.b_str bt_str rfl) (.ty _) F.b_isinstance))) (sb_one (ss_ret se_non)) sb_nil)
    (sb_cons (nSet 1 (nMb PySem.F.plainAttrs_str PySem.F.slot_str_split PySem.F.type_str_split mt_pSplit (nVar 0) (nCons se_str sa_nil)) nd)
    (sb_cons (ss_if (sw_st (sw_or (nCmpT op_pGt (nB cr_pLen F.b_len bt_len (nCons (nVar 1) sa_nil)) (nInt F.c_MOST_ROWS)) (sw_or1 (st_not (nChT op_pLe op_pLe se_int (nB cr_pLen F.b_len bt_len (nCons (nIx (nVar 1) se_int) sa_nil)) (nInt F.c_MOST_COLUMNS)))))) (sb_one (ss_ret se_non)) sb_nil)
    (sb_cons (ss_if (st_not (nTru (nB (cr_pAll C.calm) F.b_all bt_all (nCons (nLc [("line", 3)] C fin_newL nd (si_any (nVar 1)) (blkOk_by (by kernel_rfl)) (fun _ _ _ _ _ => (uName 3 nd)) (fun _ _ _ _ _ => ptsNil) (fun _ _ _ _ _ => (se_and (nCmp (op_pEq C.blk.hu) (nB cr_pLen F.b_len bt_len (nCons (nVar 3) sa_nil)) (nB cr_pLen F.b_len bt_len (nCons (nIx (nVar 1) se_int) sa_nil))) (and1 (nB (cr_pAll C.blk.calm) F.b_all bt_all (nCons (nLc [("sign", 2)] C.blk fin_newL nd (si_any (nVar 3)) (blkOk_by (by kernel_rfl)) (fun _ _ _ _ _ => (uName 2 nd)) (fun _ _ _ _ _ => ptsNil) (fun _ _ _ _ _ => (nCmp (op_pIn C.blk.blk.hu) (nVar 2) se_str)) upNm) sa_nil))))) upNm) sa_nil)))) (sb_one (ss_ret se_non)) sb_nil)
    (sb_cons (nSet 4 (nT cr_pTuple F.b_tuple bt_tuple (nCons (nLc [("line", 3)] C fin_newL nd (si_any (nVar 1)) (blkOk_by (by kernel_rfl)) (fun _ _ _ _ _ => (uName 3 nd)) (fun _ _ _ _ _ => ptsNil) (fun _ _ _ _ _ => (nT cr_pTuple F.b_tuple bt_tuple (nCons (nLc [("sign", 2)] C.blk fin_newL nd (si_any (nVar 3)) (blkOk_by (by kernel_rfl)) (fun _ _ _ _ _ => (uName 2 nd)) (fun _ _ _ _ _ => ptsNil) (fun _ _ _ _ _ => (nT cr_pInt F.b_int bt_int (nCons (nVar 2) sa_nil))) upNm) sa_nil))) upNm) sa_nil)) nd)
    (sb_one (ss_ret (se_if (nTru (nCal C T.t_is_full F.g_is_full F.k_is_full (nCons (nVar 4) sa_nil))) (nVar 4) se_non))))))))
theorem sc_Table___str__ : FnScope ["self"] ["self"] (defScope (inClass (top 10) 2)) := ⟨rfl, rfl, rfl, by decide +kernel, rfl, by decide +kernel, by decide +kernel⟩
theorem fb_Table___str__ (F : Fc K mg) (T : Tab P w K mg base k cal) : FB P w K mg base (k + 2) ["self"] "Table.__str__" (defScope (inClass (top 10) 2)) (defBody (inClass (top 10) 2)) (b_Table___str__ cal) := by
  intro f cdv A outer s H E hg hr
  have C := ct_of (P := P) (w := w) (K := K) (mg := mg) (base := base) (k := k + 2) (N := ["self"]) (qual := "Table.__str__") (scope := defScope (inClass (top 10) 2)) (f := f) (cdv := cdv) (A := A) (outer := outer) (s := s) (H := H) (E := E) hg hr
  have nd := sc_Table___str__.nd
  exact (sb_one (ss_ret (nT (cr_pStrI (k := k) T.str (C.room.mono (by omega)) C.gd) F.b_str bt_str (nCons (nFld F.ok_text (nVar 0)) sa_nil))))
theorem sc__law_turned : FnScope ["_law_grid_here", "_law_row", "_law_k"] ["_law_grid_here"] (defScope (top 29)) := ⟨rfl, rfl, rfl, by decide +kernel, rfl, by decide +kernel, by decide +kernel⟩
theorem fb__law_turned (F : Fc K mg) (T : Tab P w K mg base k cal) : FB P w K mg base (k + 2) ["_law_grid_here", "_law_row", "_law_k"] "_law_turned" (defScope (top 29)) (defBody (top 29)) (b__law_turned cal) := by
  intro f cdv A outer s H E hg hr
  have C := ct_of (P := P) (w := w) (K := K) (mg := mg) (base := base) (k := k + 2) (N := ["_law_grid_here", "_law_row", "_law_k"]) (qual := "_law_turned") (scope := defScope (top 29)) (f := f) (cdv := cdv) (A := A) (outer := outer) (s := s) (H := H) (E := E) hg hr
  have nd := sc__law_turned.nd
  exact (sb_one (ss_ret (nLc [("_law_k", 2)] C fin_newL nd (nR1 F.b_range (nCons (nB cr_pLen F.b_len bt_len (nCons (nIx (nVar 0) se_int) sa_nil)) sa_nil)) (blkOk_by (by kernel_rfl)) (fun _ _ _ _ _ => (uName 2 nd)) (fun _ _ _ _ _ => ptsNil) (fun _ _ _ _ _ => (nLc [("_law_row", 1)] C.blk fin_newL nd (si_any (nVar 0)) (blkOk_by (by kernel_rfl)) (fun _ _ _ _ _ => (uName 1 nd)) (fun _ _ _ _ _ => ptsNil) (fun _ _ _ _ _ => (nIx (nVar 1) (nVar 2))) upNm)) upNm)))
theorem sc__law_ringed : FnScope ["_law_reed_here", "_law_tall", "_law_wide", "_law_many", "_law_grid_here", "_law_places_here", "_law_spots", "_law_j", "_law_k"] ["_law_reed_here", "_law_tall", "_law_wide", "_law_many"] (defScope (top 27)) := ⟨rfl, rfl, rfl, by decide +kernel, rfl, by decide +kernel, by decide +kernel⟩
theorem fb__law_ringed (F : Fc K mg) (T : Tab P w K mg base k cal) : FB P w K mg base (k + 2) ["_law_reed_here", "_law_tall", "_law_wide", "_law_many", "_law_grid_here", "_law_places_here", "_law_spots", "_law_j", "_law_k"] "_law_ringed" (defScope (top 27)) (defBody (top 27)) (b__law_ringed cal) := by
  intro f cdv A outer s H E hg hr
  have C := ct_of (P := P) (w := w) (K := K) (mg := mg) (base := base) (k := k + 2) (N := ["_law_reed_here", "_law_tall", "_law_wide", "_law_many", "_law_grid_here", "_law_places_here", "_law_spots", "_law_j", "_law_k"]) (qual := "_law_ringed") (scope := defScope (top 27)) (f := f) (cdv := cdv) (A := A) (outer := outer) (s := s) (H := H) (E := E) hg hr
  have nd := sc__law_ringed.nd
  exact (sb_cons (nPar2 4 5 C nd (nCons (nCal C T.t__law_any F.g__law_any F.k__law_any (nCons (nVar 0) (nCons (nVar 1) (nCons (nVar 2) sa_nil)))) (nCons (se_cut (nCal C T.t__law_mixed F.g__law_mixed F.k__law_mixed (nCons (nVar 0) (nCons (nListRg1 C newL_ok F.b_list F.b_range (nVar 1)) sa_nil))) so_none (so_some (nVar 3))) sa_nil)))
    (sb_cons (nSet 6 (se_cut (nCal C T.t__law_mixed F.g__law_mixed F.k__law_mixed (nCons (nVar 0) (nCons (nListRg1 C newL_ok F.b_list F.b_range (nVar 2)) sa_nil))) so_none (so_some (nVar 3))) nd)
    (sb_cons (nFor C po_of (nR1 F.b_range (nCons (nVar 3) sa_nil)) (gName 7 nd) (sb_one (nFor C po_of (nR1 F.b_range (nCons (nVar 3) sa_nil)) (gName 8 nd) (sb_one (nAsg (nT cr_pInt F.b_int bt_int (nCons (nCmp (op_pIn C.hu) (nVar 8) (se_lst (nCons (nVar 7) (nCons (se_op op_pMod (nT cr_pInt F.b_int bt_int (nCons (se_op op_pAdd (nVar 7) se_int) sa_nil)) (nVar 3)) sa_nil)))) sa_nil)) (gSub (fun cls d _ H' => E cls d H') (nIx (nVar 4) (nIx (nVar 5) (nVar 7))) (nIx (nVar 6) (nVar 8)) set_pStore))))))
    (sb_one (ss_ret (se_frz (nVar 4)))))))
theorem sc__law_any : FnScope ["_law_reed_here", "_law_tall", "_law_wide", "_law_some_here", "_law_grid_here", "_law_k", "_law_j", "_law_row"] ["_law_reed_here", "_law_tall", "_law_wide"] (defScope (top 26)) := ⟨rfl, rfl, rfl, by decide +kernel, rfl, by decide +kernel, by decide +kernel⟩
theorem fb__law_any (F : Fc K mg) (T : Tab P w K mg base k cal) : FB P w K mg base (k + 2) ["_law_reed_here", "_law_tall", "_law_wide", "_law_some_here", "_law_grid_here", "_law_k", "_law_j", "_law_row"] "_law_any" (defScope (top 26)) (defBody (top 26)) (b__law_any cal) := by
  intro f cdv A outer s H E hg hr
  have C := ct_of (P := P) (w := w) (K := K) (mg := mg) (base := base) (k := k + 2) (N := ["_law_reed_here", "_law_tall", "_law_wide", "_law_some_here", "_law_grid_here", "_law_k", "_law_j", "_law_row"]) (qual := "_law_any") (scope := defScope (top 26)) (f := f) (cdv := cdv) (A := A) (outer := outer) (s := s) (H := H) (E := E) hg hr
  have nd := sc__law_any.nd
  exact (sb_cons (nSet 3 (se_op op_pAdd se_int (nCal C T.t__law_dip F.g__law_dip F.k__law_dip (nCons (nVar 0) (nCons se_int sa_nil)))) nd)
    (sb_cons (nSetLc 4 [("_law_j", 6)] C fin_newL nd (nR1 F.b_range (nCons (nVar 1) sa_nil)) (blkOk_by (by kernel_rfl)) (fun _ _ _ _ _ => (uName 6 nd)) (fun _ _ _ _ _ => ptsNil) (fun _ _ _ _ _ => (nLc [("_law_k", 5)] C.blk fin_newC nd (nR1 F.b_range (nCons (nVar 2) sa_nil)) (blkOk_by (by kernel_rfl)) (fun _ _ _ _ _ => (uName 5 nd)) (fun _ _ _ _ _ => ptsNil) (fun _ _ _ _ _ => (nT cr_pInt F.b_int bt_int (nCons (nCmp (op_pEq C.blk.blk.hu) (nCal C.blk.blk T.t__law_dip F.g__law_dip F.k__law_dip (nCons (nVar 0) (nCons (nVar 3) sa_nil))) se_int) sa_nil))) upNm)) upNm)
    (sb_cons (nFor C po_of (nR1 F.b_range (nCons (nVar 1) sa_nil)) (gName 6 nd) (sb_one (ss_if (nCmpT (op_pNotIn C.hu) se_int (nIx (nVar 4) (nVar 6))) (sb_one (nAsg se_int (gSub (fun cls d _ H' => E cls d H') (nIx (nVar 4) (nVar 6)) (nCal C T.t__law_dip F.g__law_dip F.k__law_dip (nCons (nVar 0) (nCons (nVar 2) sa_nil))) set_pStore))) sb_nil)))
    (sb_cons (nFor C po_of (nR1 F.b_range (nCons (nVar 2) sa_nil)) (gName 5 nd) (sb_one (ss_if (nCmpT (op_pNotIn C.hu) se_int (nLc [("_law_row", 7)] C fin_newL nd (si_any (nVar 4)) (blkOk_by (by kernel_rfl)) (fun _ _ _ _ _ => (uName 7 nd)) (fun _ _ _ _ _ => ptsNil) (fun _ _ _ _ _ => (nIx (nVar 7) (nVar 5))) upNm)) (sb_one (nAsg se_int (gSub (fun cls d _ H' => E cls d H') (nIx (nVar 4) (nCal C T.t__law_dip F.g__law_dip F.k__law_dip (nCons (nVar 0) (nCons (nVar 1) sa_nil)))) (nVar 5) set_pStore))) sb_nil)))
    (sb_one (ss_ret (nVar 4)))))))
theorem sc__law_even : FnScope ["_law_reed_here", "_law_most", "_law_tall", "_law_wide", "_law_grid_here"] ["_law_reed_here", "_law_most"] (defScope (top 30)) := ⟨rfl, rfl, rfl, by decide +kernel, rfl, by decide +kernel, by decide +kernel⟩
theorem fb__law_even (F : Fc K mg) (T : Tab P w K mg base k cal) : FB P w K mg base (k + 2) ["_law_reed_here", "_law_most", "_law_tall", "_law_wide", "_law_grid_here"] "_law_even" (defScope (top 30)) (defBody (top 30)) (b__law_even cal) := by
  intro f cdv A outer s H E hg hr
  have C := ct_of (P := P) (w := w) (K := K) (mg := mg) (base := base) (k := k + 2) (N := ["_law_reed_here", "_law_most", "_law_tall", "_law_wide", "_law_grid_here"]) (qual := "_law_even") (scope := defScope (top 30)) (f := f) (cdv := cdv) (A := A) (outer := outer) (s := s) (H := H) (E := E) hg hr
  have nd := sc__law_even.nd
  exact (sb_cons (nPar2 2 3 C nd (nCons (se_op op_pAdd se_int (nCal C T.t__law_dip F.g__law_dip F.k__law_dip (nCons (nVar 0) (nCons (nVar 1) sa_nil)))) (nCons (se_op op_pAdd se_int (nCal C T.t__law_dip F.g__law_dip F.k__law_dip (nCons (nVar 0) (nCons (nVar 1) sa_nil)))) sa_nil)))
    (sb_cons (nSet 4 (nCal C T.t__law_runs F.g__law_runs F.k__law_runs (nCons (nVar 0) (nCons (nVar 2) (nCons (nVar 3) sa_nil)))) nd)
    (sb_one (ss_ret (se_if (nCmpT (op_pEq C.hu) (nCal C T.t__law_dip F.g__law_dip F.k__law_dip (nCons (nVar 0) (nCons se_int sa_nil))) se_int) (nCal C T.t__law_turned F.g__law_turned F.k__law_turned (nCons (nVar 4) sa_nil)) (nVar 4))))))
theorem sc__law_dip : FnScope ["_law_reed_here", "_law_amount", "_law_figure"] ["_law_reed_here", "_law_amount"] (defScope (top 24)) := ⟨rfl, rfl, rfl, by decide +kernel, rfl, by decide +kernel, by decide +kernel⟩
theorem fb__law_dip (F : Fc K mg) (T : Tab P w K mg base k cal) : FB P w K mg base (k + 2) ["_law_reed_here", "_law_amount", "_law_figure"] "_law_dip" (defScope (top 24)) (defBody (top 24)) (b__law_dip cal) := by
  intro f cdv A outer s H E hg hr
  have C := ct_of (P := P) (w := w) (K := K) (mg := mg) (base := base) (k := k + 2) (N := ["_law_reed_here", "_law_amount", "_law_figure"]) (qual := "_law_dip") (scope := defScope (top 24)) (f := f) (cdv := cdv) (A := A) (outer := outer) (s := s) (H := H) (E := E) hg hr
  have nd := sc__law_dip.nd
  exact (sb_cons (ss_if (nCmpT op_pGt (nIx (nVar 0) se_int) se_int) (sb_cons (nAsg (nB cr_pDivmod F.b_divmod bt_divmod (nCons (nIx (nVar 0) se_int) (nCons (nVar 1) sa_nil))) (gTup C (gCons (gSub (fun cls d _ H' => E cls d H') (nVar 0) se_int set_pStore) (gCons (gName 2 nd) sgs_nil))))
    (sb_one (ss_ret (nVar 2)))) sb_nil)
    (sb_cons (nAsg (se_op op_pMod (nT cr_pInt F.b_int bt_int (nCons (se_op op_pAdd (se_op op_pMul (nIx (nVar 0) se_int) se_int) se_int) sa_nil)) se_int) (gSub (fun cls d _ H' => E cls d H') (nVar 0) se_int set_pStore))
    (sb_one (ss_ret (se_op op_pMod (nT cr_pInt F.b_int bt_int (nCons (se_op op_pFdiv (nIx (nVar 0) se_int) se_int) sa_nil)) (nVar 1))))))
theorem sc_size_first : FnScope ["lot"] ["lot"] (defScope (top 19)) := ⟨rfl, rfl, rfl, by decide +kernel, rfl, by decide +kernel, by decide +kernel⟩
theorem fb_size_first (F : Fc K mg) (T : Tab P w K mg base k cal) : FB P w K mg base (k + 2) ["lot"] "size_first" (defScope (top 19)) (defBody (top 19)) (b_size_first cal) := by
  intro f cdv A outer s H E hg hr
  have C := ct_of (P := P) (w := w) (K := K) (mg := mg) (base := base) (k := k + 2) (N := ["lot"]) (qual := "size_first") (scope := defScope (top 19)) (f := f) (cdv := cdv) (A := A) (outer := outer) (s := s) (H := H) (E := E) hg hr
  have nd := sc_size_first.nd
  exact (sb_one (ss_ret (se_tup (nCons (nB cr_pLen F.b_len bt_len (nCons (nVar 0) sa_nil)) (nCons (nVar 0) sa_nil)))))
theorem sc_length_first : FnScope ["ring"] ["ring"] (defScope (top 16)) := ⟨rfl, rfl, rfl, by decide +kernel, rfl, by decide +kernel, by decide +kernel⟩
theorem fb_length_first (F : Fc K mg) (T : Tab P w K mg base k cal) : FB P w K mg base (k + 2) ["ring"] "length_first" (defScope (top 16)) (defBody (top 16)) (b_length_first cal) := by
  intro f cdv A outer s H E hg hr
  have C := ct_of (P := P) (w := w) (K := K) (mg := mg) (base := base) (k := k + 2) (N := ["ring"]) (qual := "length_first") (scope := defScope (top 16)) (f := f) (cdv := cdv) (A := A) (outer := outer) (s := s) (H := H) (E := E) hg hr
  have nd := sc_length_first.nd
  exact (sb_one (ss_ret (se_tup (nCons (nB cr_pLen F.b_len bt_len (nCons (nIx (nVar 0) se_int) sa_nil)) (nCons (nVar 0) sa_nil)))))
theorem sc_grown : FnScope ["spots", "walk", "found", "place", "near", "mate"] ["spots", "walk", "found"] (defScope (top 14)) := ⟨rfl, rfl, rfl, by decide +kernel, rfl, by decide +kernel, by decide +kernel⟩
theorem fb_grown (F : Fc K mg) (T : Tab P w K mg base k cal) : FB P w K mg base (k + 2) ["spots", "walk", "found", "place", "near", "mate"] "grown" (defScope (top 14)) (defBody (top 14)) (b_grown cal) := by
  intro f cdv A outer s H E hg hr
  have C := ct_of (P := P) (w := w) (K := K) (mg := mg) (base := base) (k := k + 2) (N := ["spots", "walk", "found", "place", "near", "mate"]) (qual := "grown") (scope := defScope (top 14)) (f := f) (cdv := cdv) (A := A) (outer := outer) (s := s) (H := H) (E := E) hg hr
  have nd := sc_grown.nd
  exact (sb_one (nFor C po_of (si_any (nIx (nVar 0) (nIx (nVar 1) (se_un un_pNeg se_int)))) (gName 3 nd) (sb_cons (ss_if (sw_st (sw_or (nCmpT op_pLe (nVar 3) (nIx (nVar 1) se_int)) (sw_or1 (nCmpT (op_pIn C.hu) (nVar 3) (nVar 1))))) (sb_one ss_continue) sb_nil)
    (sb_cons (nSetLc 4 [("mate", 5)] C fin_newL nd (si_any (se_cut (nVar 1) (so_some se_int) (so_some (se_un un_pNeg se_int)))) (blkOk_by (by kernel_rfl)) (fun _ _ _ _ _ => (uName 5 nd)) (fun _ _ _ _ _ => (ptsOne (nCmpT (op_pIn C.blk.hu) (nVar 3) (nIx (nVar 0) (nVar 5))))) (fun _ _ _ _ _ => (nVar 5)) upNm)
    (sb_cons (ss_if (nTru (nVar 4)) (sb_one ss_continue) sb_nil)
    (sb_cons (ss_if (sw_st (sw_and (nCmpT op_pGt (nB cr_pLen F.b_len bt_len (nCons (nVar 1) sa_nil)) se_int) (sw_and1 (nCmpT (op_pIn C.hu) (nIx (nVar 1) se_int) (nIx (nVar 0) (nVar 3)))))) (sb_cons (ss_if (sw_st (sw_and (nCmpT op_pGt (nB cr_pLen F.b_len bt_len (nCons (nVar 1) sa_nil)) se_int) (sw_and1 (nCmpT op_pLt (nIx (nVar 1) se_int) (nVar 3))))) (sb_one (nPutT C F.b_tuple (nVar 2) (nB (cr_pSortD C.hu) F.b_sorted (by decide +kernel) (nCons (se_lst (sa_star (nVar 1) (nCons (nVar 3) sa_nil))) sa_nil)) se_bl)) sb_nil)
    (sb_one ss_continue)) sb_nil)
    (sb_one (nExpr (nCal C T.t_grown F.g_grown F.k_grown (nCons (nVar 0) (nCons (se_lst (sa_star (nVar 1) (nCons (nVar 3) sa_nil))) (nCons (nVar 2) sa_nil))))))))))))
theorem sc_spots_of : FnScope ["rows", "height", "width", "found", "column", "row"] ["rows"] (defScope (top 13)) := ⟨rfl, rfl, rfl, by decide +kernel, rfl, by decide +kernel, by decide +kernel⟩
theorem fb_spots_of (F : Fc K mg) (T : Tab P w K mg base k cal) : FB P w K mg base (k + 2) ["rows", "height", "width", "found", "column", "row"] "spots_of" (defScope (top 13)) (defBody (top 13)) (b_spots_of cal) := by
  intro f cdv A outer s H E hg hr
  have C := ct_of (P := P) (w := w) (K := K) (mg := mg) (base := base) (k := k + 2) (N := ["rows", "height", "width", "found", "column", "row"]) (qual := "spots_of") (scope := defScope (top 13)) (f := f) (cdv := cdv) (A := A) (outer := outer) (s := s) (H := H) (E := E) hg hr
  have nd := sc_spots_of.nd
  exact (sb_cons (nAsg (se_tup (nCons (nB cr_pLen F.b_len bt_len (nCons (nVar 0) sa_nil)) (nCons (nB cr_pLen F.b_len bt_len (nCons (nIx (nVar 0) se_int) sa_nil)) sa_nil))) (gTup C (gCons (gName 1 nd) (gCons (gName 2 nd) sgs_nil))))
    (sb_cons (nSetLc 3 [("row", 5)] C fin_newL nd (nR1 F.b_range (nCons (nVar 1) sa_nil)) (blkOk_by (by kernel_rfl)) (fun _ _ _ _ _ => (uName 5 nd)) (fun _ _ _ _ _ => ptsNil) (fun _ _ _ _ _ => (nLc [("column", 4)] C.blk fin_newL nd (nR1 F.b_range (nCons (nVar 2) sa_nil)) (blkOk_by (by kernel_rfl)) (fun _ _ _ _ _ => (uName 4 nd)) (fun _ _ _ _ _ => (ptsOne (nTru (nIx (nIx (nVar 0) (nVar 5)) (nVar 4))))) (fun _ _ _ _ _ => (se_op op_pAdd (nVar 1) (nVar 4))) upNm)) upNm)
    (sb_one (ss_ret (se_op op_pAdd (nVar 3) (nLc [("column", 4)] C fin_newL nd (nR1 F.b_range (nCons (nVar 2) sa_nil)) (blkOk_by (by kernel_rfl)) (fun _ _ _ _ _ => (uName 4 nd)) (fun _ _ _ _ _ => ptsNil) (fun _ _ _ _ _ => (nLc [("row", 5)] C.blk fin_newL nd (nR1 F.b_range (nCons (nVar 1) sa_nil)) (blkOk_by (by kernel_rfl)) (fun _ _ _ _ _ => (uName 5 nd)) (fun _ _ _ _ _ => (ptsOne (nTru (nIx (nIx (nVar 0) (nVar 5)) (nVar 4))))) (fun _ _ _ _ _ => (nVar 5)) upNm)) upNm))))))
theorem sc__law_one_ring : FnScope ["_law_grid_here", "_law_lot", "_law_columns_here", "_law_seen", "_law_turn", "_law_j", "_law_near", "_law_k", "_law_i"] ["_law_grid_here", "_law_lot", "_law_columns_here"] (defScope (top 36)) := ⟨rfl, rfl, rfl, by decide +kernel, rfl, by decide +kernel, by decide +kernel⟩
theorem fb__law_one_ring (F : Fc K mg) (T : Tab P w K mg base k cal) : FB P w K mg base (k + 2) ["_law_grid_here", "_law_lot", "_law_columns_here", "_law_seen", "_law_turn", "_law_j", "_law_near", "_law_k", "_law_i"] "_law_one_ring" (defScope (top 36)) (defBody (top 36)) (b__law_one_ring cal) := by
  intro f cdv A outer s H E hg hr
  have C := ct_of (P := P) (w := w) (K := K) (mg := mg) (base := base) (k := k + 2) (N := ["_law_grid_here", "_law_lot", "_law_columns_here", "_law_seen", "_law_turn", "_law_j", "_law_near", "_law_k", "_law_i"]) (qual := "_law_one_ring") (scope := defScope (top 36)) (f := f) (cdv := cdv) (A := A) (outer := outer) (s := s) (H := H) (E := E) hg hr
  have nd := sc__law_one_ring.nd
  exact (sb_cons (nSet 3 (se_lstC (nCons (nIx (nVar 1) se_int) sa_nil)) nd)
    (sb_cons (nFor C po_of (nR1 F.b_range (nCons (nB cr_pLen F.b_len bt_len (nCons (nVar 1) sa_nil)) sa_nil)) (gName 4 nd) (sb_one (nFor C po_of (si_any (nVar 1)) (gName 5 nd) (sb_cons (nSetLc 6 [("_law_k", 7)] C fin_newL nd (si_any (nVar 2)) (blkOk_by (by kernel_rfl)) (fun _ _ _ _ _ => (uName 7 nd)) (fun _ _ _ _ _ => (ptsOne (sw_st (sw_and (nCmpT (op_pEq C.blk.hu) (nIx (nIx (nVar 0) (nVar 5)) (nVar 7)) se_int) (sw_and1 (nCmpT (op_pNe C.blk.hu) (nLcR [("_law_i", 8)] C.blk fin_newL nd (nVar 3) (blkOk_by (by kernel_rfl)) (fun _ _ _ _ _ => (uName 8 nd)) (fun _ _ _ _ _ => (ptsOne (nCmpT (op_pEq C.blk.blk.hu) (nIx (nIx (nVar 0) (nVar 8)) (nVar 7)) se_int))) (fun _ _ _ _ _ => (nVar 8)) upNm) (se_lst sa_nil))))))) (fun _ _ _ _ _ => (nVar 7)) upNm)
    (sb_one (ss_if (sw_st (sw_and (nCmpT (op_pNotIn C.hu) (nVar 5) (nVar 3)) (sw_and1 (nCmpT (op_pNe C.hu) (nVar 6) (se_lst sa_nil))))) (sb_one (nExpr (nMb PySem.F.plainAttrs_list PySem.F.slot_list_append PySem.F.type_list_append mt_pAppend (nVar 3) (nCons (nVar 5) sa_nil)))) sb_nil))))))
    (sb_one (ss_ret (nCmp (op_pEq C.hu) (nB cr_pLen F.b_len bt_len (nCons (nVar 3) sa_nil)) (nB cr_pLen F.b_len bt_len (nCons (nVar 1) sa_nil)))))))
theorem sc__law_twos : FnScope ["_law_grid_here", "_law_lot", "_law_size", "_law_found", "_law_k", "_law_j"] ["_law_grid_here", "_law_lot", "_law_size"] (defScope (top 35)) := ⟨rfl, rfl, rfl, by decide +kernel, rfl, by decide +kernel, by decide +kernel⟩
theorem fb__law_twos (F : Fc K mg) (T : Tab P w K mg base k cal) : FB P w K mg base (k + 2) ["_law_grid_here", "_law_lot", "_law_size", "_law_found", "_law_k", "_law_j"] "_law_twos" (defScope (top 35)) (defBody (top 35)) (b__law_twos cal) := by
  intro f cdv A outer s H E hg hr
  have C := ct_of (P := P) (w := w) (K := K) (mg := mg) (base := base) (k := k + 2) (N := ["_law_grid_here", "_law_lot", "_law_size", "_law_found", "_law_k", "_law_j"]) (qual := "_law_twos") (scope := defScope (top 35)) (f := f) (cdv := cdv) (A := A) (outer := outer) (s := s) (H := H) (E := E) hg hr
  have nd := sc__law_twos.nd
  exact (sb_cons (nSetLc 3 [("_law_k", 4)] C fin_newL nd (nR1 F.b_range (nCons (nB cr_pLen F.b_len bt_len (nCons (nIx (nVar 0) se_int) sa_nil)) sa_nil)) (blkOk_by (by kernel_rfl)) (fun _ _ _ _ _ => (uName 4 nd)) (fun _ _ _ _ _ => (ptsOne (nCmpT (op_pEq C.blk.hu) (nB (cr_pSum C.blk.calm) F.b_sum bt_sum (nCons (nLc [("_law_j", 5)] C.blk fin_newL nd (si_any (nVar 1)) (blkOk_by (by kernel_rfl)) (fun _ _ _ _ _ => (uName 5 nd)) (fun _ _ _ _ _ => ptsNil) (fun _ _ _ _ _ => (nIx (nIx (nVar 0) (nVar 5)) (nVar 4))) upNm) sa_nil)) se_int))) (fun _ _ _ _ _ => (nVar 4)) upNm)
    (sb_one (ss_ret (se_if (nCmpT op_pGe (nB cr_pLen F.b_len bt_len (nCons (nVar 3) sa_nil)) (nVar 2)) (nVar 3) (se_lst sa_nil)))))
theorem sc_is_full : FnScope ["rows", "row", "column"] ["rows"] (defScope (top 8)) := ⟨rfl, rfl, rfl, by decide +kernel, rfl, by decide +kernel, by decide +kernel⟩
theorem fb_is_full (F : Fc K mg) (T : Tab P w K mg base k cal) : FB P w K mg base (k + 2) ["rows", "row", "column"] "is_full" (defScope (top 8)) (defBody (top 8)) (b_is_full cal) := by
  intro f cdv A outer s H E hg hr
  have C := ct_of (P := P) (w := w) (K := K) (mg := mg) (base := base) (k := k + 2) (N := ["rows", "row", "column"]) (qual := "is_full") (scope := defScope (top 8)) (f := f) (cdv := cdv) (A := A) (outer := outer) (s := s) (H := H) (E := E) hg hr
  have nd := sc_is_full.nd
  exact (sb_one (ss_ret (se_and (nCmp op_pGt (nB cr_pLen F.b_len bt_len (nCons (nVar 0) sa_nil)) se_int) (se_and (nB (cr_pAll C.calm) F.b_all bt_all (nCons (nLc [("row", 1)] C fin_newL nd (si_any (nVar 0)) (blkOk_by (by kernel_rfl)) (fun _ _ _ _ _ => (uName 1 nd)) (fun _ _ _ _ _ => ptsNil) (fun _ _ _ _ _ => (nCmp (op_pIn C.blk.hu) se_int (nVar 1))) upNm) sa_nil)) (and1 (nB (cr_pAll C.calm) F.b_all bt_all (nCons (nLc [("column", 2)] C fin_newL nd (nZipS F.b_zip (nVar 0)) (blkOk_by (by kernel_rfl)) (fun _ _ _ _ _ => (uName 2 nd)) (fun _ _ _ _ _ => ptsNil) (fun _ _ _ _ _ => (nCmp (op_pIn C.blk.hu) se_int (nVar 2))) upNm) sa_nil)))))))
theorem sc__law_mixed : FnScope ["_law_reed_here", "_law_things", "_law_left", "_law_found", "_law_turn"] ["_law_reed_here", "_law_things"] (defScope (top 25)) := ⟨rfl, rfl, rfl, by decide +kernel, rfl, by decide +kernel, by decide +kernel⟩
theorem fb__law_mixed (F : Fc K mg) (T : Tab P w K mg base k cal) : FB P w K mg base (k + 2) ["_law_reed_here", "_law_things", "_law_left", "_law_found", "_law_turn"] "_law_mixed" (defScope (top 25)) (defBody (top 25)) (b__law_mixed_v2 cal) := by
  intro f cdv A outer s H E hg hr
  have C := ct_of (P := P) (w := w) (K := K) (mg := mg) (base := base) (k := k + 2) (N := ["_law_reed_here", "_law_things", "_law_left", "_law_found", "_law_turn"]) (qual := "_law_mixed") (scope := defScope (top 25)) (f := f) (cdv := cdv) (A := A) (outer := outer) (s := s) (H := H) (E := E) hg hr
  have nd := sc__law_mixed.nd
  exact (sb_cons (nPar2 2 3 C nd (nCons (nT (cr_pList newC_ok) F.b_list bt_list (nCons (nVar 1) sa_nil)) (nCons (se_lstC sa_nil) sa_nil)))
    (sb_cons (nFor C po_of (nR1 F.b_range (nCons (nB cr_pLen F.b_len bt_len (nCons (nVar 1) sa_nil)) sa_nil)) (gName 4 nd) (sb_one (nExpr (nMb PySem.F.plainAttrs_list PySem.F.slot_list_append PySem.F.type_list_append mt_pAppend (nVar 3) (nCons (nMb PySem.F.plainAttrs_list PySem.F.slot_list_pop PySem.F.type_list_pop mt_pPop (nVar 2) (nCons (nCal C T.t__law_dip F.g__law_dip F.k__law_dip (nCons (nVar 0) (nCons (nB cr_pLen F.b_len bt_len (nCons (nVar 2) sa_nil)) sa_nil))) sa_nil)) sa_nil)))))
    (sb_one (ss_ret (se_frz (nVar 3))))))
theorem sc__law_runs : FnScope ["_law_reed_here", "_law_tall", "_law_wide", "_law_order_here", "_law_grid_here", "_law_j", "_law_near", "_law_far", "_law_k"] ["_law_reed_here", "_law_tall", "_law_wide"] (defScope (top 28)) := ⟨rfl, rfl, rfl, by decide +kernel, rfl, by decide +kernel, by decide +kernel⟩
theorem fb__law_runs (F : Fc K mg) (T : Tab P w K mg base k cal) : FB P w K mg base (k + 2) ["_law_reed_here", "_law_tall", "_law_wide", "_law_order_here", "_law_grid_here", "_law_j", "_law_near", "_law_far", "_law_k"] "_law_runs" (defScope (top 28)) (defBody (top 28)) (b__law_runs cal) := by
  intro f cdv A outer s H E hg hr
  have C := ct_of (P := P) (w := w) (K := K) (mg := mg) (base := base) (k := k + 2) (N := ["_law_reed_here", "_law_tall", "_law_wide", "_law_order_here", "_law_grid_here", "_law_j", "_law_near", "_law_far", "_law_k"]) (qual := "_law_runs") (scope := defScope (top 28)) (f := f) (cdv := cdv) (A := A) (outer := outer) (s := s) (H := H) (E := E) hg hr
  have nd := sc__law_runs.nd
  exact (sb_cons (nAsg (se_tup (nCons (nCal C T.t__law_mixed F.g__law_mixed F.k__law_mixed (nCons (nVar 0) (nCons (nListRg1 C newL_ok F.b_list F.b_range (nVar 2)) sa_nil))) (nCons (se_lstC sa_nil) sa_nil))) (gTup C (gCons (gName 3 nd) (gCons (gName 4 nd) sgs_nil))))
    (sb_cons (nFor C po_of (nR1 F.b_range (nCons (nVar 1) sa_nil)) (gName 5 nd) (sb_cons (nAsg (se_tup (nCons (nCal C T.t__law_dip F.g__law_dip F.k__law_dip (nCons (nVar 0) (nCons (nVar 2) sa_nil))) (nCons (nCal C T.t__law_dip F.g__law_dip F.k__law_dip (nCons (nVar 0) (nCons (nVar 2) sa_nil))) sa_nil))) (gTup C (gCons (gName 6 nd) (gCons (gName 7 nd) sgs_nil))))
    (sb_one (nExpr (nMb PySem.F.plainAttrs_list PySem.F.slot_list_append PySem.F.type_list_append mt_pAppend (nVar 4) (nCons (nLc [("_law_k", 8)] C fin_newL nd (nR1 F.b_range (nCons (nVar 2) sa_nil)) (blkOk_by (by kernel_rfl)) (fun _ _ _ _ _ => (uName 8 nd)) (fun _ _ _ _ _ => ptsNil) (fun _ _ _ _ _ => (nT cr_pInt F.b_int bt_int (nCons (nCh op_pLe op_pLe (nB (cr_pMin C.blk.calm) F.b_min bt_min (nCons (nVar 6) (nCons (nVar 7) sa_nil))) (nIx (nVar 3) (nVar 8)) (nB (cr_pMax C.blk.calm) F.b_max bt_max (nCons (nVar 6) (nCons (nVar 7) sa_nil)))) sa_nil))) upNm) sa_nil))))))
    (sb_cons (nAsg (se_op op_pMul (se_lst (nCons se_int sa_nil)) (nVar 2)) (gSub (fun cls d _ H' => E cls d H') (nVar 4) (nCal C T.t__law_dip F.g__law_dip F.k__law_dip (nCons (nVar 0) (nCons (nVar 1) sa_nil))) set_pStore))
    (sb_one (ss_ret (se_frz (nVar 4)))))))
theorem tab0 (F : Fc K mg) : Tab P w K mg base 0 (callN 0) where
  trv := trivial
  t__law_right := CalG.bad
  t__law_reed := CalG.bad
  t_least_rows := CalG.bad
  t_least_rows_table := CalG.bad
  t__law_due := CalG.bad
  t_Table := CalG.bad
  t__law_text := CalG.bad
  t__law_full := CalG.bad
  t__law_grid := CalG.bad
  t_lots_below := CalG.bad
  t_rings_of := CalG.bad
  t_check_table := CalG.bad
  t__law_some := CalG.bad
  t__law_rings := CalG.bad
  t_read_rows := CalG.bad
  t__law_turned := CalG.bad
  t__law_ringed := CalG.bad
  t__law_any := CalG.bad
  t__law_even := CalG.bad
  t__law_dip := CalG.bad
  t_grown := CalG.bad
  t_spots_of := CalG.bad
  t__law_one_ring := CalG.bad
  t__law_twos := CalG.bad
  t_is_full := CalG.bad
  t__law_mixed := CalG.bad
  t__law_runs := CalG.bad
  k_length_first := by
    obtain ⟨fd, D⟩ := F.d_length_first
    exact KeyG.bad (bindK_of (ks := []) (ps := ["ring"]) D (fun _ _ _ _ _ _ us ws h1 h2 => match us, ws, h1, h2 with | [_], [], _, _ => rfl))
  k_size_first := by
    obtain ⟨fd, D⟩ := F.d_size_first
    exact KeyG.bad (bindK_of (ks := []) (ps := ["lot"]) D (fun _ _ _ _ _ _ us ws h1 h2 => match us, ws, h1, h2 with | [_], [], _, _ => rfl))
  str := by
    intro c m e
    unfold strT at e
    split at e
    · rename_i h
      subst h
      cases e
      obtain ⟨fd, D⟩ := F.d_Table___str__
      exact ⟨_, fd, F.me_Table___str__.at_, F.me_Table___str__.fn, FnG.bad, bindK_of D (fun _ _ _ _ _ _ us ws h1 h2 => match us, ws, h1, h2 with | [_], [], _, _ => rfl)⟩
    · cases e
theorem tabS {n : Nat} (F : Fc K mg) (T : Tab P w K mg base k (callN n)) : Tab P w K mg base (k + 3) (callN (n + 1)) where
  trv := trivial
  t__law_right := (by
    obtain ⟨fd, D⟩ := F.d__law_right
    exact CalG.mono (calG_fn (m := funM 5 1 (b__law_right_v4 (callN n))) (fnG_body D sc__law_right (fb__law_right F T)) (bindK_of D (fun _ _ _ _ _ _ us ws h1 h2 => match us, ws, h1, h2 with | [_], [], _, _ => rfl)) rfl funM_len) (by omega))
  t__law_reed := (by
    obtain ⟨fd, D⟩ := F.d__law_reed
    exact CalG.mono (calG_fn (m := funM 5 2 (b__law_reed (callN n))) (fnG_body D sc__law_reed (fb__law_reed F T)) (bindK_of D (fun _ _ _ _ _ _ us ws h1 h2 => match us, ws, h1, h2 with | [_, _], [], _, _ => rfl)) rfl funM_len) (by omega))
  t_least_rows := (by
    obtain ⟨fd, D⟩ := F.d_least_rows
    exact CalG.mono (calG_fn (m := funM 6 1 (b_least_rows (callN n))) (fnG_body D sc_least_rows (fb_least_rows F T)) (bindK_of D (fun _ _ _ _ _ _ us ws h1 h2 => match us, ws, h1, h2 with | [_], [], _, _ => rfl)) rfl funM_len) (by omega))
  t_least_rows_table := (by
    obtain ⟨fd, D⟩ := F.d_least_rows
    exact CalG.mono (calG_fn (m := funM 6 1 (b_least_rows (callN n))) (fnG_body D sc_least_rows (fb_least_rows F T)) (bindK_of D (fun _ _ _ _ _ _ us ws h1 h2 => match us, ws, h1, h2 with | [], [_], _, _ => rfl)) rfl funM_len) (by omega))
  t__law_due := (by
    obtain ⟨fd, D⟩ := F.d__law_due
    exact CalG.mono (calG_fn (m := funM 6 1 (b__law_due (callN n))) (fnG_body D sc__law_due (fb__law_due F T)) (bindK_of D (fun _ _ _ _ _ _ us ws h1 h2 => match us, ws, h1, h2 with | [_], [], _, _ => rfl)) rfl funM_len) (by omega))
  t_Table := (by
    obtain ⟨fd, D⟩ := F.d_Table
    exact CalG.mono (calG_cls (m := initM 3 1 (b_Table (callN n))) F.mk_Table (fnG_init (n := 1) rfl D sc_Table (fb_Table F T)) (bindK_of D (fun _ _ _ _ _ _ us ws h1 h2 => match us, ws, h1, h2 with | [_, _], [], _, _ => rfl)) rfl initM_len) (by omega))
  t__law_text := (by
    obtain ⟨fd, D⟩ := F.d__law_text
    exact CalG.mono (calG_fn (m := funM 3 1 (b__law_text (callN n))) (fnG_body D sc__law_text (fb__law_text F T)) (bindK_of D (fun _ _ _ _ _ _ us ws h1 h2 => match us, ws, h1, h2 with | [_], [], _, _ => rfl)) rfl funM_len) (by omega))
  t__law_full := (by
    obtain ⟨fd, D⟩ := F.d__law_full
    exact CalG.mono (calG_fn (m := funM 2 1 (b__law_full (callN n))) (fnG_body D sc__law_full (fb__law_full F T)) (bindK_of D (fun _ _ _ _ _ _ us ws h1 h2 => match us, ws, h1, h2 with | [_], [], _, _ => rfl)) rfl funM_len) (by omega))
  t__law_grid := (by
    obtain ⟨fd, D⟩ := F.d__law_grid
    exact CalG.mono (calG_fn (m := funM 6 2 (b__law_grid_v2 (callN n))) (fnG_body D sc__law_grid (fb__law_grid F T)) (bindK_of D (fun _ _ _ _ _ _ us ws h1 h2 => match us, ws, h1, h2 with | [_, _], [], _, _ => rfl)) rfl funM_len) (by omega))
  t_lots_below := (by
    obtain ⟨fd, D⟩ := F.d_lots_below
    exact CalG.mono (calG_fn (m := funM 4 1 (b_lots_below (callN n))) (fnG_body D sc_lots_below (fb_lots_below F T)) (bindK_of D (fun _ _ _ _ _ _ us ws h1 h2 => match us, ws, h1, h2 with | [_], [], _, _ => rfl)) rfl funM_len) (by omega))
  t_rings_of := (by
    obtain ⟨fd, D⟩ := F.d_rings_of
    exact CalG.mono (calG_fn (m := funM 9 1 (b_rings_of (callN n))) (fnG_body D sc_rings_of (fb_rings_of F T)) (bindK_of D (fun _ _ _ _ _ _ us ws h1 h2 => match us, ws, h1, h2 with | [_], [], _, _ => rfl)) rfl funM_len) (by omega))
  t_check_table := (by
    obtain ⟨fd, D⟩ := F.d_check_table
    exact CalG.mono (calG_fn (m := funM 1 1 (b_check_table (callN n))) (fnG_body D sc_check_table (fb_check_table F T)) (bindK_of D (fun _ _ _ _ _ _ us ws h1 h2 => match us, ws, h1, h2 with | [_], [], _, _ => rfl)) rfl funM_len) (by omega))
  t__law_some := (by
    obtain ⟨fd, D⟩ := F.d__law_some
    exact CalG.mono (calG_fn (m := funM 7 2 (b__law_some (callN n))) (fnG_body D sc__law_some (fb__law_some F T)) (bindK_of D (fun _ _ _ _ _ _ us ws h1 h2 => match us, ws, h1, h2 with | [_, _], [], _, _ => rfl)) rfl funM_len) (by omega))
  t__law_rings := (by
    obtain ⟨fd, D⟩ := F.d__law_rings
    exact CalG.mono (calG_fn (m := funM 10 1 (b__law_rings (callN n))) (fnG_body D sc__law_rings (fb__law_rings F T)) (bindK_of D (fun _ _ _ _ _ _ us ws h1 h2 => match us, ws, h1, h2 with | [_], [], _, _ => rfl)) rfl funM_len) (by omega))
  t_read_rows := (by
    obtain ⟨fd, D⟩ := F.d_read_rows
    exact CalG.mono (calG_fn (m := funM 5 1 (b_read_rows (callN n))) (fnG_body D sc_read_rows (fb_read_rows F T)) (bindK_of D (fun _ _ _ _ _ _ us ws h1 h2 => match us, ws, h1, h2 with | [_], [], _, _ => rfl)) rfl funM_len) (by omega))
  t__law_turned := (by
    obtain ⟨fd, D⟩ := F.d__law_turned
    exact CalG.mono (calG_fn (m := funM 3 1 (b__law_turned (callN n))) (fnG_body D sc__law_turned (fb__law_turned F T)) (bindK_of D (fun _ _ _ _ _ _ us ws h1 h2 => match us, ws, h1, h2 with | [_], [], _, _ => rfl)) rfl funM_len) (by omega))
  t__law_ringed := (by
    obtain ⟨fd, D⟩ := F.d__law_ringed
    exact CalG.mono (calG_fn (m := funM 9 4 (b__law_ringed (callN n))) (fnG_body D sc__law_ringed (fb__law_ringed F T)) (bindK_of D (fun _ _ _ _ _ _ us ws h1 h2 => match us, ws, h1, h2 with | [_, _, _, _], [], _, _ => rfl)) rfl funM_len) (by omega))
  t__law_any := (by
    obtain ⟨fd, D⟩ := F.d__law_any
    exact CalG.mono (calG_fn (m := funM 8 3 (b__law_any (callN n))) (fnG_body D sc__law_any (fb__law_any F T)) (bindK_of D (fun _ _ _ _ _ _ us ws h1 h2 => match us, ws, h1, h2 with | [_, _, _], [], _, _ => rfl)) rfl funM_len) (by omega))
  t__law_even := (by
    obtain ⟨fd, D⟩ := F.d__law_even
    exact CalG.mono (calG_fn (m := funM 5 2 (b__law_even (callN n))) (fnG_body D sc__law_even (fb__law_even F T)) (bindK_of D (fun _ _ _ _ _ _ us ws h1 h2 => match us, ws, h1, h2 with | [_, _], [], _, _ => rfl)) rfl funM_len) (by omega))
  t__law_dip := (by
    obtain ⟨fd, D⟩ := F.d__law_dip
    exact CalG.mono (calG_fn (m := funM 3 2 (b__law_dip (callN n))) (fnG_body D sc__law_dip (fb__law_dip F T)) (bindK_of D (fun _ _ _ _ _ _ us ws h1 h2 => match us, ws, h1, h2 with | [_, _], [], _, _ => rfl)) rfl funM_len) (by omega))
  t_grown := (by
    obtain ⟨fd, D⟩ := F.d_grown
    exact CalG.mono (calG_fn (m := funM 6 3 (b_grown (callN n))) (fnG_body D sc_grown (fb_grown F T)) (bindK_of D (fun _ _ _ _ _ _ us ws h1 h2 => match us, ws, h1, h2 with | [_, _, _], [], _, _ => rfl)) rfl funM_len) (by omega))
  t_spots_of := (by
    obtain ⟨fd, D⟩ := F.d_spots_of
    exact CalG.mono (calG_fn (m := funM 6 1 (b_spots_of (callN n))) (fnG_body D sc_spots_of (fb_spots_of F T)) (bindK_of D (fun _ _ _ _ _ _ us ws h1 h2 => match us, ws, h1, h2 with | [_], [], _, _ => rfl)) rfl funM_len) (by omega))
  t__law_one_ring := (by
    obtain ⟨fd, D⟩ := F.d__law_one_ring
    exact CalG.mono (calG_fn (m := funM 9 3 (b__law_one_ring (callN n))) (fnG_body D sc__law_one_ring (fb__law_one_ring F T)) (bindK_of D (fun _ _ _ _ _ _ us ws h1 h2 => match us, ws, h1, h2 with | [_, _, _], [], _, _ => rfl)) rfl funM_len) (by omega))
  t__law_twos := (by
    obtain ⟨fd, D⟩ := F.d__law_twos
    exact CalG.mono (calG_fn (m := funM 6 3 (b__law_twos (callN n))) (fnG_body D sc__law_twos (fb__law_twos F T)) (bindK_of D (fun _ _ _ _ _ _ us ws h1 h2 => match us, ws, h1, h2 with | [_, _, _], [], _, _ => rfl)) rfl funM_len) (by omega))
  t_is_full := (by
    obtain ⟨fd, D⟩ := F.d_is_full
    exact CalG.mono (calG_fn (m := funM 3 1 (b_is_full (callN n))) (fnG_body D sc_is_full (fb_is_full F T)) (bindK_of D (fun _ _ _ _ _ _ us ws h1 h2 => match us, ws, h1, h2 with | [_], [], _, _ => rfl)) rfl funM_len) (by omega))
  t__law_mixed := (by
    obtain ⟨fd, D⟩ := F.d__law_mixed
    exact CalG.mono (calG_fn (m := funM 5 2 (b__law_mixed_v2 (callN n))) (fnG_body D sc__law_mixed (fb__law_mixed F T)) (bindK_of D (fun _ _ _ _ _ _ us ws h1 h2 => match us, ws, h1, h2 with | [_, _], [], _, _ => rfl)) rfl funM_len) (by omega))
  t__law_runs := (by
    obtain ⟨fd, D⟩ := F.d__law_runs
    exact CalG.mono (calG_fn (m := funM 9 3 (b__law_runs (callN n))) (fnG_body D sc__law_runs (fb__law_runs F T)) (bindK_of D (fun _ _ _ _ _ _ us ws h1 h2 => match us, ws, h1, h2 with | [_, _, _], [], _, _ => rfl)) rfl funM_len) (by omega))
  k_length_first := by
    obtain ⟨fd, D⟩ := F.d_length_first
    exact KeyG.mono ⟨fd, "ring", fnG_body D sc_length_first (fb_length_first F T), bindK_of (ks := []) (ps := ["ring"]) D (fun _ _ _ _ _ _ us ws h1 h2 => match us, ws, h1, h2 with | [_], [], _, _ => rfl)⟩ (by omega)
  k_size_first := by
    obtain ⟨fd, D⟩ := F.d_size_first
    exact KeyG.mono ⟨fd, "lot", fnG_body D sc_size_first (fb_size_first F T), bindK_of (ks := []) (ps := ["lot"]) D (fun _ _ _ _ _ _ us ws h1 h2 => match us, ws, h1, h2 with | [_], [], _, _ => rfl)⟩ (by omega)
  str := by
    intro c m e
    unfold strT at e
    split at e
    · rename_i h
      subst h
      cases e
      obtain ⟨fd, D⟩ := F.d_Table___str__
      exact ⟨_, fd, F.me_Table___str__.at_, F.me_Table___str__.fn, fnG_body D sc_Table___str__ (fb_Table___str__ F T), bindK_of D (fun _ _ _ _ _ _ us ws h1 h2 => match us, ws, h1, h2 with | [_], [], _, _ => rfl)⟩
    · cases e
theorem tabN (F : Fc K mg) : ∀ n : Nat, Tab P w K mg base (3 * n) (callN n)
  | 0 => tab0 F
  | n + 1 => tabS F (tabN F n)
theorem law_b {fd : FuncData} (D : FunD K "law" "law" (defArgs (top 40)) (defBody (top 40)) (defScope (top 40)) [] [] (He.ga K "law") fd) (s : Shared) (u : Value) : BindsTo s fd ⟨[u], []⟩ [("_law_cells", u)] := bindK_of (ks := []) (ps := ["_law_cells"]) D (fun _ _ _ _ _ _ us ws h1 h2 => match us, ws, h1, h2 with | [_], [], _, _ => rfl) s [u] [] rfl rfl
theorem law_f (F : Fc K mg) (n : Nat) {fd : FuncData} (D : FunD K "law" "law" (defArgs (top 40)) (defBody (top 40)) (defScope (top 40)) [] [] (He.ga K "law") fd) : FnG P w K mg base (3 * n + 3) (He.ga K "law") fd ["_law_cells"] (spM K 1 (funM 2 1 (b_law_v5 (callN n)))) := fnG_body D sc_law (fb_law F (tabN F n))
end
def dd_law : He.DefD := ⟨("law", none), "law", "law", defArgs (top 40), defBody (top 40), defScope (top 40), [], []⟩
def dd__law_right : He.DefD := ⟨("_law_right", none), "_law_right", "_law_right", defArgs (top 39), defBody (top 39), defScope (top 39), [], []⟩
def dd__law_reed : He.DefD := ⟨("_law_reed", none), "_law_reed", "_law_reed", defArgs (top 23), defBody (top 23), defScope (top 23), [], []⟩
def dd_least_rows : He.DefD := ⟨("least_rows", none), "least_rows", "least_rows", defArgs (top 21), defBody (top 21), defScope (top 21), [], []⟩
def dd__law_due : He.DefD := ⟨("_law_due", none), "_law_due", "_law_due", defArgs (top 38), defBody (top 38), defScope (top 38), [], []⟩
def dd_Table : He.DefD := ⟨("Table", some "__init__"), "__init__", "Table.__init__", defArgs (inClass (top 10) 0), defBody (inClass (top 10) 0), defScope (inClass (top 10) 0), [], []⟩
def dd__law_text : He.DefD := ⟨("_law_text", none), "_law_text", "_law_text", defArgs (top 33), defBody (top 33), defScope (top 33), [], []⟩
def dd__law_full : He.DefD := ⟨("_law_full", none), "_law_full", "_law_full", defArgs (top 32), defBody (top 32), defScope (top 32), [], []⟩
def dd__law_grid : He.DefD := ⟨("_law_grid", none), "_law_grid", "_law_grid", defArgs (top 31), defBody (top 31), defScope (top 31), [], []⟩
def dd_lots_below : He.DefD := ⟨("lots_below", none), "lots_below", "lots_below", defArgs (top 18), defBody (top 18), defScope (top 18), [], []⟩
def dd_rings_of : He.DefD := ⟨("rings_of", none), "rings_of", "rings_of", defArgs (top 15), defBody (top 15), defScope (top 15), [], []⟩
def dd_check_table : He.DefD := ⟨("check_table", none), "check_table", "check_table", defArgs (top 11), defBody (top 11), defScope (top 11), [], []⟩
def dd__law_some : He.DefD := ⟨("_law_some", none), "_law_some", "_law_some", defArgs (top 34), defBody (top 34), defScope (top 34), [], []⟩
def dd__law_rings : He.DefD := ⟨("_law_rings", none), "_law_rings", "_law_rings", defArgs (top 37), defBody (top 37), defScope (top 37), [], []⟩
def dd_read_rows : He.DefD := ⟨("read_rows", none), "read_rows", "read_rows", defArgs (top 9), defBody (top 9), defScope (top 9), [], []⟩
def dd_Table___str__ : He.DefD := ⟨("Table", some "__str__"), "__str__", "Table.__str__", defArgs (inClass (top 10) 2), defBody (inClass (top 10) 2), defScope (inClass (top 10) 2), [], []⟩
def dd__law_turned : He.DefD := ⟨("_law_turned", none), "_law_turned", "_law_turned", defArgs (top 29), defBody (top 29), defScope (top 29), [], []⟩
def dd__law_ringed : He.DefD := ⟨("_law_ringed", none), "_law_ringed", "_law_ringed", defArgs (top 27), defBody (top 27), defScope (top 27), [], []⟩
def dd__law_any : He.DefD := ⟨("_law_any", none), "_law_any", "_law_any", defArgs (top 26), defBody (top 26), defScope (top 26), [], []⟩
def dd__law_even : He.DefD := ⟨("_law_even", none), "_law_even", "_law_even", defArgs (top 30), defBody (top 30), defScope (top 30), [], []⟩
def dd__law_dip : He.DefD := ⟨("_law_dip", none), "_law_dip", "_law_dip", defArgs (top 24), defBody (top 24), defScope (top 24), [], []⟩
def dd_size_first : He.DefD := ⟨("size_first", none), "size_first", "size_first", defArgs (top 19), defBody (top 19), defScope (top 19), [], []⟩
def dd_length_first : He.DefD := ⟨("length_first", none), "length_first", "length_first", defArgs (top 16), defBody (top 16), defScope (top 16), [], []⟩
def dd_grown : He.DefD := ⟨("grown", none), "grown", "grown", defArgs (top 14), defBody (top 14), defScope (top 14), [], []⟩
def dd_spots_of : He.DefD := ⟨("spots_of", none), "spots_of", "spots_of", defArgs (top 13), defBody (top 13), defScope (top 13), [], []⟩
def dd__law_one_ring : He.DefD := ⟨("_law_one_ring", none), "_law_one_ring", "_law_one_ring", defArgs (top 36), defBody (top 36), defScope (top 36), [], []⟩
def dd__law_twos : He.DefD := ⟨("_law_twos", none), "_law_twos", "_law_twos", defArgs (top 35), defBody (top 35), defScope (top 35), [], []⟩
def dd_is_full : He.DefD := ⟨("is_full", none), "is_full", "is_full", defArgs (top 8), defBody (top 8), defScope (top 8), [], []⟩
def dd__law_mixed : He.DefD := ⟨("_law_mixed", none), "_law_mixed", "_law_mixed", defArgs (top 25), defBody (top 25), defScope (top 25), [], []⟩
def dd__law_runs : He.DefD := ⟨("_law_runs", none), "_law_runs", "_law_runs", defArgs (top 28), defBody (top 28), defScope (top 28), [], []⟩
def fn : List He.DefD := dd_law :: dd__law_right :: dd__law_reed :: dd_least_rows :: dd__law_due :: dd_Table :: dd__law_text :: dd__law_full :: dd__law_grid :: dd_lots_below :: dd_rings_of :: dd_check_table :: dd__law_some :: dd__law_rings :: dd_read_rows :: dd_Table___str__ :: dd__law_turned :: dd__law_ringed :: dd__law_any :: dd__law_even :: dd__law_dip :: dd_size_first :: dd_length_first :: dd_grown :: dd_spots_of :: dd__law_one_ring :: dd__law_twos :: dd_is_full :: dd__law_mixed :: dd__law_runs :: []
def fa : List He.Fa := .free "abs" :: .free "all" :: .free "any" :: .free "divmod" :: .free "int" :: .free "isinstance" :: .free "len" :: .free "list" :: .free "max" :: .free "min" :: .free "range" :: .free "repr" :: .free "sorted" :: .free "str" :: .free "sum" :: .free "tuple" :: .free "zip" :: .int "MOST_COLUMNS" 8 :: .int "MOST_ROWS" 8 :: .glo "law" :: .keep "law" :: .glo "_law_right" :: .keep "_law_right" :: .glo "_law_reed" :: .keep "_law_reed" :: .glo "least_rows" :: .keep "least_rows" :: .glo "_law_due" :: .keep "_law_due" :: .glo "Table" :: .keep "Table" :: .mkr "Table" :: .cls "Table" :: .glo "_law_text" :: .keep "_law_text" :: .glo "_law_full" :: .keep "_law_full" :: .glo "_law_grid" :: .keep "_law_grid" :: .glo "lots_below" :: .keep "lots_below" :: .glo "rings_of" :: .keep "rings_of" :: .glo "check_table" :: .keep "check_table" :: .glo "_law_some" :: .keep "_law_some" :: .glo "_law_rings" :: .keep "_law_rings" :: .glo "read_rows" :: .keep "read_rows" :: .glo "_law_turned" :: .keep "_law_turned" :: .glo "_law_ringed" :: .keep "_law_ringed" :: .glo "_law_any" :: .keep "_law_any" :: .glo "_law_even" :: .keep "_law_even" :: .glo "_law_dip" :: .keep "_law_dip" :: .glo "size_first" :: .keep "size_first" :: .glo "length_first" :: .keep "length_first" :: .glo "grown" :: .keep "grown" :: .glo "spots_of" :: .keep "spots_of" :: .glo "_law_one_ring" :: .keep "_law_one_ring" :: .glo "_law_twos" :: .keep "_law_twos" :: .glo "is_full" :: .keep "is_full" :: .glo "_law_mixed" :: .keep "_law_mixed" :: .glo "_law_runs" :: .keep "_law_runs" :: .noat "Table" "height" :: .noat "Table" "rows" :: .noat "Table" "text" :: .noat "Table" "width" :: .meth "Table" "__str__" :: []
def ex : List Ex := [kitB isi, ownB ["Table"]]
theorem facts {K : PySem.W.Frag} {h : Heap} {mg : Str → Option Value} (X : K.In h) (G : h.Ns mainGlobals mg) (c : He.SaysD fa fn K) (xx : (ex.all fun f => f K) = true) : Fc K mg := by
  have cc := c
  exact {
    b_abs := He.free_ok X G (c.fact 0 (f := .free "abs") rfl),
    b_all := He.free_ok X G (c.fact 1 (f := .free "all") rfl),
    b_any := He.free_ok X G (c.fact 2 (f := .free "any") rfl),
    b_divmod := He.free_ok X G (c.fact 3 (f := .free "divmod") rfl),
    b_int := He.free_ok X G (c.fact 4 (f := .free "int") rfl),
    b_isinstance := He.free_ok X G (c.fact 5 (f := .free "isinstance") rfl),
    b_len := He.free_ok X G (c.fact 6 (f := .free "len") rfl),
    b_list := He.free_ok X G (c.fact 7 (f := .free "list") rfl),
    b_max := He.free_ok X G (c.fact 8 (f := .free "max") rfl),
    b_min := He.free_ok X G (c.fact 9 (f := .free "min") rfl),
    b_range := He.free_ok X G (c.fact 10 (f := .free "range") rfl),
    b_repr := He.free_ok X G (c.fact 11 (f := .free "repr") rfl),
    b_sorted := He.free_ok X G (c.fact 12 (f := .free "sorted") rfl),
    b_str := He.free_ok X G (c.fact 13 (f := .free "str") rfl),
    b_sum := He.free_ok X G (c.fact 14 (f := .free "sum") rfl),
    b_tuple := He.free_ok X G (c.fact 15 (f := .free "tuple") rfl),
    b_zip := He.free_ok X G (c.fact 16 (f := .free "zip") rfl),
    c_MOST_COLUMNS := He.int_ok X G (c.fact 17 (f := .int "MOST_COLUMNS" 8) rfl),
    c_MOST_ROWS := He.int_ok X G (c.fact 18 (f := .int "MOST_ROWS" 8) rfl),
    g_law := He.glo_ok X G (c.fact 19 (f := .glo "law") rfl),
    k_law := He.keep_ok (c.fact 20 (f := .keep "law") rfl),
    g__law_right := He.glo_ok X G (c.fact 21 (f := .glo "_law_right") rfl),
    k__law_right := He.keep_ok (c.fact 22 (f := .keep "_law_right") rfl),
    g__law_reed := He.glo_ok X G (c.fact 23 (f := .glo "_law_reed") rfl),
    k__law_reed := He.keep_ok (c.fact 24 (f := .keep "_law_reed") rfl),
    g_least_rows := He.glo_ok X G (c.fact 25 (f := .glo "least_rows") rfl),
    k_least_rows := He.keep_ok (c.fact 26 (f := .keep "least_rows") rfl),
    g__law_due := He.glo_ok X G (c.fact 27 (f := .glo "_law_due") rfl),
    k__law_due := He.keep_ok (c.fact 28 (f := .keep "_law_due") rfl),
    g_Table := He.glo_ok X G (c.fact 29 (f := .glo "Table") rfl),
    k_Table := He.keep_ok (c.fact 30 (f := .keep "Table") rfl),
    mk_Table := He.mkr_ok (c.fact 31 (f := .mkr "Table") rfl),
    cls_Table := He.cls_ok (c.fact 32 (f := .cls "Table") rfl),
    g__law_text := He.glo_ok X G (c.fact 33 (f := .glo "_law_text") rfl),
    k__law_text := He.keep_ok (c.fact 34 (f := .keep "_law_text") rfl),
    g__law_full := He.glo_ok X G (c.fact 35 (f := .glo "_law_full") rfl),
    k__law_full := He.keep_ok (c.fact 36 (f := .keep "_law_full") rfl),
    g__law_grid := He.glo_ok X G (c.fact 37 (f := .glo "_law_grid") rfl),
    k__law_grid := He.keep_ok (c.fact 38 (f := .keep "_law_grid") rfl),
    g_lots_below := He.glo_ok X G (c.fact 39 (f := .glo "lots_below") rfl),
    k_lots_below := He.keep_ok (c.fact 40 (f := .keep "lots_below") rfl),
    g_rings_of := He.glo_ok X G (c.fact 41 (f := .glo "rings_of") rfl),
    k_rings_of := He.keep_ok (c.fact 42 (f := .keep "rings_of") rfl),
    g_check_table := He.glo_ok X G (c.fact 43 (f := .glo "check_table") rfl),
    k_check_table := He.keep_ok (c.fact 44 (f := .keep "check_table") rfl),
    g__law_some := He.glo_ok X G (c.fact 45 (f := .glo "_law_some") rfl),
    k__law_some := He.keep_ok (c.fact 46 (f := .keep "_law_some") rfl),
    g__law_rings := He.glo_ok X G (c.fact 47 (f := .glo "_law_rings") rfl),
    k__law_rings := He.keep_ok (c.fact 48 (f := .keep "_law_rings") rfl),
    g_read_rows := He.glo_ok X G (c.fact 49 (f := .glo "read_rows") rfl),
    k_read_rows := He.keep_ok (c.fact 50 (f := .keep "read_rows") rfl),
    g__law_turned := He.glo_ok X G (c.fact 51 (f := .glo "_law_turned") rfl),
    k__law_turned := He.keep_ok (c.fact 52 (f := .keep "_law_turned") rfl),
    g__law_ringed := He.glo_ok X G (c.fact 53 (f := .glo "_law_ringed") rfl),
    k__law_ringed := He.keep_ok (c.fact 54 (f := .keep "_law_ringed") rfl),
    g__law_any := He.glo_ok X G (c.fact 55 (f := .glo "_law_any") rfl),
    k__law_any := He.keep_ok (c.fact 56 (f := .keep "_law_any") rfl),
    g__law_even := He.glo_ok X G (c.fact 57 (f := .glo "_law_even") rfl),
    k__law_even := He.keep_ok (c.fact 58 (f := .keep "_law_even") rfl),
    g__law_dip := He.glo_ok X G (c.fact 59 (f := .glo "_law_dip") rfl),
    k__law_dip := He.keep_ok (c.fact 60 (f := .keep "_law_dip") rfl),
    g_size_first := He.glo_ok X G (c.fact 61 (f := .glo "size_first") rfl),
    k_size_first := He.keep_ok (c.fact 62 (f := .keep "size_first") rfl),
    g_length_first := He.glo_ok X G (c.fact 63 (f := .glo "length_first") rfl),
    k_length_first := He.keep_ok (c.fact 64 (f := .keep "length_first") rfl),
    g_grown := He.glo_ok X G (c.fact 65 (f := .glo "grown") rfl),
    k_grown := He.keep_ok (c.fact 66 (f := .keep "grown") rfl),
    g_spots_of := He.glo_ok X G (c.fact 67 (f := .glo "spots_of") rfl),
    k_spots_of := He.keep_ok (c.fact 68 (f := .keep "spots_of") rfl),
    g__law_one_ring := He.glo_ok X G (c.fact 69 (f := .glo "_law_one_ring") rfl),
    k__law_one_ring := He.keep_ok (c.fact 70 (f := .keep "_law_one_ring") rfl),
    g__law_twos := He.glo_ok X G (c.fact 71 (f := .glo "_law_twos") rfl),
    k__law_twos := He.keep_ok (c.fact 72 (f := .keep "_law_twos") rfl),
    g_is_full := He.glo_ok X G (c.fact 73 (f := .glo "is_full") rfl),
    k_is_full := He.keep_ok (c.fact 74 (f := .keep "is_full") rfl),
    g__law_mixed := He.glo_ok X G (c.fact 75 (f := .glo "_law_mixed") rfl),
    k__law_mixed := He.keep_ok (c.fact 76 (f := .keep "_law_mixed") rfl),
    g__law_runs := He.glo_ok X G (c.fact 77 (f := .glo "_law_runs") rfl),
    k__law_runs := He.keep_ok (c.fact 78 (f := .keep "_law_runs") rfl),
    ok_height := (fun c e => by
    have e : c = "Table" := by simpa [ok_height] using e
    rcases e with rfl
    · exact ⟨He.cls_ok (cc.fact 32 (f := .cls "Table") rfl), He.noat_ok (cc.fact 79 (f := .noat "Table" "height") rfl)⟩),
    ok_rows := (fun c e => by
    have e : c = "Table" := by simpa [ok_rows] using e
    rcases e with rfl
    · exact ⟨He.cls_ok (cc.fact 32 (f := .cls "Table") rfl), He.noat_ok (cc.fact 80 (f := .noat "Table" "rows") rfl)⟩),
    ok_text := (fun c e => by
    have e : c = "Table" := by simpa [ok_text] using e
    rcases e with rfl
    · exact ⟨He.cls_ok (cc.fact 32 (f := .cls "Table") rfl), He.noat_ok (cc.fact 81 (f := .noat "Table" "text") rfl)⟩),
    ok_width := (fun c e => by
    have e : c = "Table" := by simpa [ok_width] using e
    rcases e with rfl
    · exact ⟨He.cls_ok (cc.fact 32 (f := .cls "Table") rfl), He.noat_ok (cc.fact 82 (f := .noat "Table" "width") rfl)⟩),
    isi := isi_ok (cs := ["Table"]) (ex_at xx 0) (ex_at xx 1) (by decide +kernel),
    me_Table___str__ := He.meth_ok (c.fact 83 (f := .meth "Table" "__str__") rfl),
    d_law := c.def_ 0 (d := dd_law) rfl,
    d__law_right := c.def_ 1 (d := dd__law_right) rfl,
    d__law_reed := c.def_ 2 (d := dd__law_reed) rfl,
    d_least_rows := c.def_ 3 (d := dd_least_rows) rfl,
    d__law_due := c.def_ 4 (d := dd__law_due) rfl,
    d_Table := c.def_ 5 (d := dd_Table) rfl,
    d__law_text := c.def_ 6 (d := dd__law_text) rfl,
    d__law_full := c.def_ 7 (d := dd__law_full) rfl,
    d__law_grid := c.def_ 8 (d := dd__law_grid) rfl,
    d_lots_below := c.def_ 9 (d := dd_lots_below) rfl,
    d_rings_of := c.def_ 10 (d := dd_rings_of) rfl,
    d_check_table := c.def_ 11 (d := dd_check_table) rfl,
    d__law_some := c.def_ 12 (d := dd__law_some) rfl,
    d__law_rings := c.def_ 13 (d := dd__law_rings) rfl,
    d_read_rows := c.def_ 14 (d := dd_read_rows) rfl,
    d_Table___str__ := c.def_ 15 (d := dd_Table___str__) rfl,
    d__law_turned := c.def_ 16 (d := dd__law_turned) rfl,
    d__law_ringed := c.def_ 17 (d := dd__law_ringed) rfl,
    d__law_any := c.def_ 18 (d := dd__law_any) rfl,
    d__law_even := c.def_ 19 (d := dd__law_even) rfl,
    d__law_dip := c.def_ 20 (d := dd__law_dip) rfl,
    d_size_first := c.def_ 21 (d := dd_size_first) rfl,
    d_length_first := c.def_ 22 (d := dd_length_first) rfl,
    d_grown := c.def_ 23 (d := dd_grown) rfl,
    d_spots_of := c.def_ 24 (d := dd_spots_of) rfl,
    d__law_one_ring := c.def_ 25 (d := dd__law_one_ring) rfl,
    d__law_twos := c.def_ 26 (d := dd__law_twos) rfl,
    d_is_full := c.def_ 27 (d := dd_is_full) rfl,
    d__law_mixed := c.def_ 28 (d := dd__law_mixed) rfl,
    d__law_runs := c.def_ 29 (d := dd__law_runs) rfl }
def names : List PySem.Str := "_wall" :: "BadValue" :: "InvalidText" :: "NotATable" :: "MOST_ROWS" :: "MOST_COLUMNS" :: "is_full" :: "read_rows" :: "Table" :: "check_table" :: "spots_of" :: "grown" :: "rings_of" :: "length_first" :: "lots_below" :: "size_first" :: "least_rows" :: "_law_reed" :: "_law_dip" :: "_law_mixed" :: "_law_any" :: "_law_ringed" :: "_law_runs" :: "_law_turned" :: "_law_even" :: "_law_grid" :: "_law_full" :: "_law_text" :: "_law_some" :: "_law_twos" :: "_law_one_ring" :: "_law_rings" :: "_law_due" :: "_law_right" :: []
abbrev R : PySem.W.OpenRow := PySem.W.OpenLaw.row PySem.Challenge.rw_oddrings_k55_whole_least_rows
abbrev hk : PySem.W.Hook := hookX 4 fa fn ex
def ob (s : PySem.W.SharedT) : AlX := obsX 4 fa fn ex (HandSHeadRun.getT s)
theorem ob_eq (s : PySem.W.SharedT) : ob s = hk.obs s.abs := obsX_eq (HandSHeadRun.getT_eq s)
theorem run (w : World) : HandSHeadRun.RunEq R (PySem.W.view R.prog [40]) hk ob 40000 names w := by
  intro os
  kernel_rfl
/-- the law, from the evaluator's answer -/
theorem holds (n : Nat) (hn : n ≤ 60) (h : ∀ ns : List Int, ns.length ≤ 63 → (∀ i ∈ ns, Builtin.Int.intBits i ≤ 1048576) → ∃ S, funM 2 1 (b_law_v5 (callN n)) [.scr ns] [] = .ok (.bl true) S) : PySem.Challenge.rw_oddrings_k55_whole_least_rows.Holds := by
  w_on; o_law
  refine HandSHeadRun.head_any (r := PySem.W.OpenLaw.row PySem.Challenge.rw_oddrings_k55_whole_least_rows) (q := PySem.W.view (PySem.W.OpenLaw.row PySem.Challenge.rw_oddrings_k55_whole_least_rows).prog [40]) (H := hk) (ob := ob) (M := 40000) (loose := names) (d := HandSHeadRun.topDef (PySem.W.OpenLaw.row PySem.Challenge.rw_oddrings_k55_whole_least_rows).prog 40) (kwd := []) ob_eq
    (by kernel_rfl) (fun s => by kernel_rfl) run (by kernel_rfl) (by kernel_rfl) (by kernel_rfl) (by rfl) (by first | assumption | decide +kernel) (by decide +kernel) ⟨rfl, rfl, rfl, rfl, rfl, by decide +kernel⟩ ?hw ?hc
  case hw => w_witness2
  case hc =>
    refine walk_ev (l := PySem.Challenge.rw_oddrings_k55_whole_least_rows) (n := 63) (k := 3 * n + 3) (x := "_law_cells") rfl (by decide) (by kernel_rfl) ⟨rfl, ?_, ?_⟩ ?F h
    · show 1 + claimMargin + 3 * (3 * n + 3) + 5 < recursionLimit
      have e : 1 + claimMargin + 3 * (3 * 60 + 3) + 5 < recursionLimit := by decide
      omega
    · show 4 + 16 * (3 * n + 3) + 200 < cLine
      have e : 4 + 16 * (3 * 60 + 3) + 200 < cLine := by decide
      omega
    intro w mg fa h Y G hmg0
    obtain ⟨K, KX, c, xx⟩ := Y
    have hmg : mg ("law" : PySem.Str) = some (.ref fa) := by
      have e : (HandSHeadRun.topDef (PySem.W.OpenLaw.row PySem.Challenge.rw_oddrings_k55_whole_least_rows).prog 40).name = ("law" : PySem.Str) := by kernel_rfl
      rw [← e]
      exact hmg0
    have F := facts KX G c xx
    have e := hmg.symm.trans F.g_law
    cases e
    obtain ⟨fd, D⟩ := F.d_law
    exact ⟨K, fd, KX, law_b D, fun base _ _ => law_f F n D⟩

end Lw
namespace Lw
open PySem L2 Ev Bd Sp Rg
theorem dipD (n : Nat) : Drw ReedJ (callN (n + 1) 60) := by rw [c__law_dip]; exact dip_drw
theorem mixD (n : Nat) : Mix ReedJ (callN (n + 2) 64) := ⟨fun t S ns a h => by rw [c__law_mixed_v2, mixed_v2]; exact mixed_ints (dipD n) a h⟩
theorem anyD (n : Nat) : AnyF ReedJ (callN (n + 2) 58) := ⟨fun t h w S a h1 h2 w1 w2 => by rw [c__law_any]; exact any_ev (dipD n) a h1 h2 w1 w2⟩
theorem ringedD (n : Nat) : RingedF ReedJ (callN (n + 3) 57) := ⟨fun t h w m S a h2 w2 m0 m1 m2 => by rw [c__law_ringed]; exact ringed_ev (dipD (n + 1)) (mixD n) a h2 w2 m0 m1 m2 fun S a => (anyD n).go t h w S a (by omega) h2 (by omega) w2⟩
theorem turnedD (n : Nat) : TurnF (callN (n + 1) 36) := ⟨fun R w S h1 h2 h3 h4 => by rw [c__law_turned]; exact turned_ev h1 h2 h3 h4⟩
theorem runsD (n : Nat) : RowsF ReedJ (callN (n + 3) 65) := ⟨fun t h w S a h1 h2 w1 w2 => by rw [c__law_runs]; exact runs_ev (dipD (n + 1)) (mixD n) a h1 h2 w1 w2⟩
theorem evenD (n : Nat) : GridF ReedJ (callN (n + 4) 59) := ⟨fun t most S a m1 m2 => by rw [c__law_even]; exact even_ev (dipD (n + 2)) a m1 m2 (fun h w S a => (runsD n).go t h w S a) fun R w S => (turnedD (n + 2)).go R w S⟩
theorem gridD (n : Nat) : GridF ReedJ (callN (n + 5) 51) := by rw [c__law_grid_v2]; exact grid_ev (dipD (n + 3)) (evenD n) (ringedD (n + 1)) (anyD (n + 2))
theorem fullD (n : Nat) (R : Rw) (most : Nat) (S : Store) (g : Grid most R) (hm : most ≤ 8) : ∃ b, callN (n + 2) 50 [rowsL R] S = .ok (.bl b) S ∧ (b = true → ∃ h w, Full h w R ∧ h ≤ most ∧ w ≤ most) := by rw [c__law_full]; exact fulls_ev (turnedD n) g hm
theorem textD (n h w : Nat) (R : Rw) (S : Store) (F : Full h w R) : callN (n + 1) 2 [rowsL R] S = .ok (.str (txt R)) S := by rw [c__law_text]; exact text_ev F
theorem readD (n h w : Nat) (R : Rw) (S : Store) (F : Full h w R) : callN (n + 2) 7 [.str (txt R)] S = .ok (rowsT R) S := by rw [c_read_rows]; exact read_ev F (by rw [c_is_full]; exact full_ev F)
theorem tabDD (n h w : Nat) (R : Rw) (S : Store) (F : Full h w R) : callN (n + 3) 1 [.str (txt R)] S = .ok (tabD h w R) S := by rw [c_Table]; exact table_ev F (readD n h w R S F)
theorem grownD {h w : Nat} {R : Rw} (h8 : h ≤ 8) (w8 : w ≤ 8) : ∀ d m, d ≤ m → ∀ p, p.length + d = h + w → Rg.Walk (adjR h w R) p → (∀ v ∈ p, 0 ≤ v ∧ v < (h + w : Nat)) → GrS (h + w) (spotsL h w R) (adjR h w R) (callN (m + 2) 62) p := by
  have H := spots_ok (R := R) h8 w8
  have hle : ∀ {p : List Int}, Rg.Walk (adjR h w R) p → (∀ v ∈ p, 0 ≤ v ∧ v < (h + w : Nat)) → p.length ≤ h + w := fun W hp => by
    have := nodup_le W.nd (m := rng (h + w)) fun v hv => mem_rng.mpr (hp v hv)
    rwa [rng_length] at this
  have hrg : ∀ {p : List Int} {x : Int}, Rg.Walk (adjR h w R) (p ++ [x]) → 0 < p.length → (∀ v ∈ p, 0 ≤ v ∧ v < (h + w : Nat)) → ∀ v ∈ p ++ [x], 0 ≤ v ∧ v < (h + w : Nat) := fun {p x} W h0 hp v hv => by
    rcases List.mem_append.mp hv with hv | hv
    · exact hp v hv
    · rw [List.mem_singleton.mp hv]
      have := W.nxt (p.length - 1) (by simp; omega)
      rw [show p.length - 1 + 1 = p.length by omega, at_mid] at this
      exact (H.rg _ _ this).2
  intro d
  induction d with
  | zero =>
    intro m _ p e W hp
    rw [c_grown]
    refine grown_ev H W hp fun x Wx => ?_
    have h1 := hle Wx (hrg Wx W.ne hp)
    simp at h1; omega
  | succ d ih =>
    intro m hm p e W hp
    rw [c_grown]
    obtain ⟨m, rfl⟩ : ∃ m', m = m' + 1 := ⟨m - 1, by omega⟩
    exact grown_ev H W hp fun x Wx => ih m (by omega) (p ++ [x]) (by simp; omega) Wx (hrg Wx W.ne hp)
theorem ringsD (n h w : Nat) (R : Rw) (S : Store) (F : Full h w R) : ∃ S', callN (n + 20) 53 [rowsT R] S = .ok (.lst ((lawL R h w).map ringD)) S' ∧ Keep S S' := by
  have h8 := F.h2
  have w8 := F.w2
  have h1 := F.h1
  obtain ⟨L, S', e, k, nd, hm⟩ := rings_ev (cal := callN (n + 19)) (S := S) F (fun S => by rw [c_spots_of]; exact spots_ev F) (fun r r0 r1 => grownD h8 w8 (h + w - 1) (n + 17) (by omega) [r] (by simp; omega) Walk.one (fun v hv => by rw [List.mem_singleton.mp hv]; omega)) (fun q S => by rw [c_length_first]; exact length_first_ev)
  rw [rings_same F.len h8 F.g nd hm] at e
  exact ⟨S', by rw [c_rings_of]; exact e, k⟩
theorem cr' (n h w : Nat) (R : Rw) (hl : R.length = h) (h0 : 0 < h) (g : G01 w R) (w8 : w ≤ 8) : CR (callN (n + 1)) R h w := ⟨fun m s S hm hs => by rw [c__law_some]; exact some_ev hm hs, fun I s S hI hl' => by rw [c__law_twos]; exact twos_ev hl h0 g w8 hI hl', fun I J S hI h0 h8 hJ j8 => by rw [c__law_one_ring]; exact one_ring_ev hl g hI h0 h8 hJ j8⟩
theorem c55 (n : Nat) : C55 (callN (n + 22)) := ⟨gridD (n + 17), fun R most S => fullD (n + 20) R most S, fun h w R S => textD (n + 21) h w R S, fun h w R S => tabDD (n + 19) h w R S,
  fun h w R S F => by
    rw [c__law_due]
    refine due_ev F.len F.h2 F.g F.w2 (fun m s S hm hs => by rw [c__law_some]; exact some_ev hm hs) fun R' h' S hl h0 h8 g => ?_
    rw [c__law_rings]
    exact rings49_ev (cr' (n + 19) h' w R' hl h0 g F.w2) hl h8 g F.w2,
  fun h w R S F => by
    rw [c_least_rows, List.range_succ_eq_map]
    refine least_rows_ev F.h2 ?_ ?_ (fun S => by rw [c_check_table]; exact check_table_ev) (fun S => ringsD (n + 1) h w R S F) fun S => by rw [c_lots_below]; exact lots_below_ev F.h2 fun q S => by rw [c_size_first]; exact size_first_ev
    · have := law_le (R := R) F.h2 F.w2
      omega
    · intro q hq
      have := (mem_lawL.mp hq).size
      omega⟩
theorem law_ev {ns : List Int} : ∃ S, funM 2 1 (b_law_v5 (callN 23)) [.scr ns] [] = .ok (.bl true) S :=
  law55_ev (fun k S hk => by rw [c__law_reed 22]; exact reed_ev hk) fun t S a => by rw [c__law_right_v4 22]; exact right55_ev (c55 0) a
end Lw
theorem PySem.Challenge.cw_oddrings_k55_whole_least_rows_holds : PySem.Challenge.rw_oddrings_k55_whole_least_rows.Holds :=
  Lw.holds 23 (by decide) fun ns _ _ => Lw.law_ev
