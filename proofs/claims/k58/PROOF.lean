import PyProof.Rows.All
import Wide.All
import OpenK.AllK
import Wide.FinOn
import HandS.ForMost
import HandS.ForExc
import HandS.Walk
import HandS.Flow
import HandS.Defaults
import HandS.HeadHook2
import HandS.Lambda
import HandS.ExcCtx
import HandS.HotCalls
import KE.DataEq
import KE.DataAny
import HandS.Star
import HandS.Style
import HandS.TupAny
import HandS.IsInst
import HandS.RaiseMore
import PyProof.ReprReads
import HandS.MakeKw
import PyProof.ReprRoads
import HandS.Small
import HandS.Zip
import KE.KDictZip
import KE.GoesMore
import KE.KCallOwn
import HandS.Ends
import HandS.HeadEnd
import HandS.EndBits
import HandS.Head0
import HandS.Head1
import HandS.Head2
import HandS.More
import HandS.Text
import PyProof.Rows.RegFStrParts
import HandS.Conv
import KE.GoesEnum
import HandS.SortKw
import KE.SortKeyHeap
import HandS.ExcValue
import HandS.Dict
import HandS.Iter
import HandS.Sort
import KE.KTupSum
import KE.KRevSl
import HandS.TupMul
import HandS.HeadHook3
import HandS.ExcInit
import KE.KExcInit
import KE.KTryMore
import HandS.ExcField
import KE.KExcIs
import HandS.EndTab
import KE.KNestM
import PyProof.Rows.Nodes
import PyProof.StrOps2
import KE.KStateDown
import HandS.HeadHook1
import PySem.Challenge.RW_oddrings_k58_rows_added_to_full_tables
set_option Elab.async false
set_option linter.all false
set_option maxRecDepth 100000
set_option maxHeartbeats 0
namespace Ev
open PySem L2

/-- data as trees; ref: a mutable cell of the store -/
inductive D where
  | non | bl (b : Bool) | int (i : Int) | str (s : Str)
  | tup (xs : List D) | lst (xs : List D)
  | ins (c : Str) (fs : List (Str × D))
  | ref (i : Nat)
  | fn (x : Str)
  | scr (ns : List Int)
  | slf
  | dic (kvs : List (Key × D))
  /-- an exception in hand: where it stands, its dict, its class, its attributes -/
  | exn (a : Addr) (d : Option Addr) (c : Str) (fs : List (Str × D))
  /-- a lambda: where it stands, its code; what it captured -/
  | lam (f c : Addr) (q : Str) (vs : List V) (ds : List D)
  deriving Inhabited

inductive Cell where
  | lst (xs : List D)
  | ins (c : Str) (fs : List (Str × D))
  | dT (kvs : List (List Int × D))
  | dK (kvs : List (Key × D))
  /-- the table of lambdas of the module's def x -/
  | tab (x : Str)
  deriving Inhabited

abbrev Store := List (Option Cell)
abbrev En := List (Option D)
/-- an exception: its class, its attributes -/
structure Xc where
  cls : Str
  fs : List (Str × D)

inductive Res (α : Type) where
  | ok (a : α) (S : Store)
  | exc (x : Xc) (S : Store)
  | bad

abbrev M (α : Type) := Store → Res α
@[reducible] def M.pure {α : Type} (a : α) : M α := fun S => .ok a S
def M.bind {α β : Type} (m : M α) (f : α → M β) : M β := fun S => match m S with
  | .ok a S' => f a S'
  | .exc x S' => .exc x S'
  | .bad => .bad
def M.bad {α : Type} : M α := fun _ => .bad
instance : Monad M where
  pure := M.pure
  bind := M.bind

abbrev ME := En → M D
abbrev MT := En → M Bool
abbrev MA := En → M (List D)

inductive Fl where
  | nx (δ : En) (S : Store)
  | rt (d : D) (S : Store)
  | bk (δ : En) (S : Store)
  | ct (δ : En) (S : Store)
  | exc (x : Xc) (δ : En) (S : Store)
  | bad
abbrev MS := En → Store → Fl
/-- F: what is frozen; m: where the cells stand; P: what is private, kept as it is by all else; sf: the instance that an __init__ is filling -/
structure Wd where
  F : Hp
  m : List Addr
  P : Hp
  sf : Option Addr
structure Wd.lf (W W' : Wd) : Prop where
  f : ∀ a o, W.F a = some o → W'.F a = some o
  sq : W'.sf = W.sf
  mm : ∃ t, W'.m = W.m ++ t
structure Wd.le (W W' : Wd) : Prop extends toLf : Wd.lf W W' where
  pp : W'.P = W.P
instance {W W' : Wd} : CoeOut (W.le W') (W.lf W') := ⟨fun h => h.toLf⟩
theorem Wd.le_refl (W : Wd) : W.le W := ⟨⟨fun _ _ h => h, rfl, [], by simp⟩, rfl⟩
theorem Wd.lf.trans {A B C : Wd} (h : A.lf B) (g : B.lf C) : A.lf C := by
  obtain ⟨h1, h0, t, h2⟩ := h
  obtain ⟨g1, g0, u, g2⟩ := g
  exact ⟨fun a o e => g1 a o (h1 a o e), g0.trans h0, t ++ u, by rw [g2, h2, List.append_assoc]⟩
theorem Wd.le.trans {A B C : Wd} (h : A.le B) (g : B.le C) : A.le C := ⟨h.toLf.trans g.toLf, g.pp.trans h.pp⟩
theorem Wd.lf.get {A B : Wd} (h : A.lf B) {i : Nat} {a : Addr} (e : A.m[i]? = some a) : B.m[i]? = some a := by
  obtain ⟨_, _, t, h2⟩ := h
  rw [h2, List.getElem?_append_left (List.getElem?_eq_some_iff.mp e).1]
  exact e

mutual
inductive Rep (K : PySem.W.Frag) (W : Wd) : D → V → Prop where
  | non : Rep K W .non .non
  | bl (b : Bool) : Rep K W (.bl b) (.bl b)
  | int (i : Int) : Rep K W (.int i) (.int i)
  | str (x : Str) : Rep K W (.str x) (.str x)
  | tup {a : Addr} {vs : List V} {ds : List D} : SqT K W.F a vs → Reps K W ds vs → Rep K W (.tup ds) (.ref a)
  | lst {a : Addr} {vs : List V} {ds : List D} : W.F a = some (.lst vs) → Reps K W ds vs → Rep K W (.lst ds) (.ref a)
  | ins {a dx : Addr} {c : Str} {vfs : List (Str × V)} {fs : List (Str × D)} : W.F a = some (.ins (He.ga K c) dx vfs) → vfs.map (·.1) = fs.map (·.1) → Reps K W (fs.map (·.2)) (vfs.map (·.2)) → Rep K W (.ins c fs) (.ref a)
  | ref {i : Nat} {a : Addr} : W.m[i]? = some a → Rep K W (.ref i) (.ref a)
  | fn (x : Str) : Rep K W (.fn x) (.ref (He.ga K x))
  | scr {a : Addr} {ns : List Int} : SqL K W.F a (ns.map V.int) → Rep K W (.scr ns) (.ref a)
  | dic {a : Addr} {vk : List (Key × V)} {kvs : List (Key × D)} : W.F a = some (.dK vk) → vk.map (·.1) = kvs.map (·.1) → Reps K W (kvs.map (·.2)) (vk.map (·.2)) → Rep K W (.dic kvs) (.ref a)
  | exn0 {a : Addr} {c : Str} : Rep K W (.exn a none c []) (.ref a)
  | exn1 {a d : Addr} {c : Str} {vfs : List (Str × V)} {fs : List (Str × D)} : W.F d = some (.xd vfs) → vfs.map (·.1) = fs.map (·.1) → Reps K W (fs.map (·.2)) (vfs.map (·.2)) → Rep K W (.exn a (some d) c fs) (.ref a)
  | lam {f c : Addr} {q : Str} {vs : List V} {ds : List D} : W.F c = some (LamX.CodeO c q) → Reps K W ds vs → Rep K W (.lam f c q vs ds) (.ref f)
inductive Reps (K : PySem.W.Frag) (W : Wd) : List D → List V → Prop where
  | nil : Reps K W [] []
  | cons {d : D} {v : V} {ds : List D} {vs : List V} : Rep K W d v → Reps K W ds vs → Reps K W (d :: ds) (v :: vs)
end

section
variable {K : PySem.W.Frag} {W W' : Wd}
theorem rd_mono (h : W.lf W') {a : Addr} {u : HO} (r : Rd W.F a u) : Rd W'.F a u := by
  rcases r with r | ⟨o, r⟩
  · exact .inl (h.f _ _ r)
  · exact .inr ⟨o, h.f _ _ r⟩
theorem sqL_mono (h : W.lf W') {a : Addr} {xs : List V} (r : SqL K W.F a xs) : SqL K W'.F a xs := by
  rcases r with r | r
  · exact .inl (rd_mono h r)
  · exact .inr r
theorem sqT_mono (h : W.lf W') {a : Addr} {xs : List V} (r : SqT K W.F a xs) : SqT K W'.F a xs := by
  rcases r with r | r
  · exact .inl (rd_mono h r)
  · exact .inr r
mutual
theorem Rep.mono (h : W.lf W') : ∀ {d : D} {v : V}, Rep K W d v → Rep K W' d v
  | _, _, .non => .non
  | _, _, .bl b => .bl b
  | _, _, .int i => .int i
  | _, _, .str x => .str x
  | _, _, .tup q r => .tup (sqT_mono h q) (Reps.mono h r)
  | _, _, .lst q r => .lst (h.f _ _ q) (Reps.mono h r)
  | _, _, .scr q => .scr (sqL_mono h q)
  | _, _, .ins e k r => .ins (h.f _ _ e) k (Reps.mono h r)
  | _, _, .ref e => .ref (h.get e)
  | _, _, .fn x => .fn x
  | _, _, .dic e k r => .dic (h.f _ _ e) k (Reps.mono h r)
  | _, _, .exn0 => .exn0
  | _, _, .exn1 e k r => .exn1 (h.f _ _ e) k (Reps.mono h r)
  | _, _, .lam e r => .lam (h.f _ _ e) (Reps.mono h r)
theorem Reps.mono (h : W.lf W') : ∀ {ds : List D} {vs : List V}, Reps K W ds vs → Reps K W' ds vs
  | _, _, .nil => .nil
  | _, _, .cons r t => .cons (Rep.mono h r) (Reps.mono h t)
end
theorem Reps.length : ∀ {ds : List D} {vs : List V}, Reps K W ds vs → ds.length = vs.length
  | _, _, .nil => rfl
  | _, _, .cons _ t => congrArg Nat.succ (Reps.length t)
theorem Reps.get : ∀ {ds : List D} {vs : List V} {i : Nat} {d : D}, Reps K W ds vs → ds[i]? = some d → ∃ v, vs[i]? = some v ∧ Rep K W d v
  | _, _, _, _, .nil, e => by simp at e
  | _, _, 0, _, .cons r _, e => by simp at e; subst e; exact ⟨_, rfl, r⟩
  | _, _, i + 1, _, .cons _ t, e => by
    obtain ⟨v, e1, r⟩ := Reps.get (i := i) t (by simpa using e)
    exact ⟨v, by simpa using e1, r⟩
theorem Reps.get' : ∀ {ds : List D} {vs : List V} {i : Nat} {v : V}, Reps K W ds vs → vs[i]? = some v → ∃ d, ds[i]? = some d ∧ Rep K W d v
  | _, _, _, _, .nil, e => by simp at e
  | _, _, 0, _, .cons r _, e => by simp at e; subst e; exact ⟨_, rfl, r⟩
  | _, _, i + 1, _, .cons _ t, e => by
    obtain ⟨v, e1, r⟩ := Reps.get' (i := i) t (by simpa using e)
    exact ⟨v, by simpa using e1, r⟩
theorem Reps.append : ∀ {ds es : List D} {vs us : List V}, Reps K W ds vs → Reps K W es us → Reps K W (ds ++ es) (vs ++ us)
  | _, _, _, _, .nil, s => s
  | _, _, _, _, .cons r t, s => .cons r (Reps.append t s)
theorem Reps.set {d : D} {v : V} (r : Rep K W d v) : ∀ {ds : List D} {vs : List V} (i : Nat), Reps K W ds vs → Reps K W (ds.set i d) (vs.set i v)
  | _, _, _, .nil => .nil
  | _, _, 0, .cons _ t => .cons r t
  | _, _, i + 1, .cons q t => .cons q (Reps.set r i t)
theorem Reps.take : ∀ {ds : List D} {vs : List V} (n : Nat), Reps K W ds vs → Reps K W (ds.take n) (vs.take n)
  | _, _, 0, _ => .nil
  | _, _, _ + 1, .nil => .nil
  | _, _, n + 1, .cons r t => .cons r (Reps.take n t)
theorem Reps.drop : ∀ {ds : List D} {vs : List V} (n : Nat), Reps K W ds vs → Reps K W (ds.drop n) (vs.drop n)
  | _, _, 0, r => r
  | _, _, _ + 1, .nil => .nil
  | _, _, n + 1, .cons _ t => Reps.drop n t
end

/-- the code object of the module's def x, its table -/
def tabK (K : PySem.W.Frag) (x : Str) : Addr × Addr := (PySem.W.tabIn K x).getD (0, 0)
/-- how the lambdas in the def x are named -/
def lamQ (x : Str) : Str := (x ++ ".<locals>.") ++ "<lambda>"
/-- what stands at a cell's address -/
def CellAt (K : PySem.W.Frag) (W : Wd) (H : Hp) (a : Addr) : Cell → Prop
  | .lst ds => ∃ vs, H a = some (.lst vs) ∧ Reps K W ds vs
  | .ins c fs => ∃ dx vfs, H a = some (.ins (He.ga K c) dx vfs) ∧ vfs.map (·.1) = fs.map (·.1) ∧ Reps K W (fs.map (·.2)) (vfs.map (·.2))
  | .dT kvs => ∃ vkvs : List (List Key × V), H a = some (.dT vkvs) ∧ vkvs.map (·.1) = kvs.map (fun p => p.1.map Sum.inl) ∧ Reps K W (kvs.map (·.2)) (vkvs.map (·.2))
  | .dK kvs => ∃ vkvs : List (Key × V), H a = some (.dK vkvs) ∧ vkvs.map (·.1) = kvs.map (·.1) ∧ Reps K W (kvs.map (·.2)) (vkvs.map (·.2))
  | .tab x => ∃ ps : Array Value, H a = some (.tbl ps) ∧ (a = (tabK K x).2 ∧ PySem.TriplesOk ps.toList) ∧ ∀ (pos : Pos) (cv : Value), codeAmong pos ps.toList = some cv → ∃ c, cv = .ref c ∧ W.F c = some (LamX.CodeO c (lamQ x))
theorem CellAt.mono {K : PySem.W.Frag} {W W' : Wd} {H : Hp} {a : Addr} (h : W.lf W') : ∀ {c : Cell}, CellAt K W H a c → CellAt K W' H a c
  | .lst _, ⟨vs, e, r⟩ => ⟨vs, e, r.mono h⟩
  | .ins _ _, ⟨dx, vfs, e, k, r⟩ => ⟨dx, vfs, e, k, r.mono h⟩
  | .dT _, ⟨vk, e, k, r⟩ => ⟨vk, e, k, r.mono h⟩
  | .dK _, ⟨vk, e, k, r⟩ => ⟨vk, e, k, r.mono h⟩
  | .tab _, ⟨ps, e, k, r⟩ => ⟨ps, e, k, fun p v z => (r p v z).imp fun c ⟨z1, z2⟩ => ⟨z1, h.f _ _ z2⟩⟩
theorem CellAt.there {K : PySem.W.Frag} {W : Wd} {H : Hp} {a : Addr} : ∀ {c : Cell}, CellAt K W H a c → ∃ o, H a = some o
  | .lst _, ⟨vs, e, r⟩ => ⟨_, e⟩
  | .ins _ _, ⟨dx, vfs, e, k, r⟩ => ⟨_, e⟩
  | .dT _, ⟨vk, e, k, r⟩ => ⟨_, e⟩
  | .dK _, ⟨vk, e, k, r⟩ => ⟨_, e⟩
  | .tab _, ⟨ps, e, k, r⟩ => ⟨_, e⟩
theorem CellAt.notup {K : PySem.W.Frag} {W : Wd} {H : Hp} {a : Addr} {xs : List V} (h : H a = some (.tup xs)) : ∀ {c : Cell}, ¬ CellAt K W H a c
  | .lst _, ⟨vs, e, r⟩ => by rw [h] at e; cases e
  | .ins _ _, ⟨dx, vfs, e, k, r⟩ => by rw [h] at e; cases e
  | .dT _, ⟨vk, e, k, r⟩ => by rw [h] at e; cases e
  | .dK _, ⟨vk, e, k, r⟩ => by rw [h] at e; cases e
  | .tab _, ⟨ps, e, k, r⟩ => by rw [h] at e; cases e
theorem CellAt.eqH {K : PySem.W.Frag} {W : Wd} {H H' : Hp} {a : Addr} (h : H' a = H a) : ∀ {c : Cell}, CellAt K W H a c → CellAt K W H' a c
  | .lst _, ⟨vs, e, r⟩ => ⟨vs, h.trans e, r⟩
  | .ins _ _, ⟨dx, vfs, e, k, r⟩ => ⟨dx, vfs, h.trans e, k, r⟩
  | .dT _, ⟨vk, e, k, r⟩ => ⟨vk, h.trans e, k, r⟩
  | .dK _, ⟨vk, e, k, r⟩ => ⟨vk, h.trans e, k, r⟩
  | .tab _, ⟨ps, e, k, r⟩ => ⟨ps, h.trans e, k, r⟩

structure Good (K : PySem.W.Frag) (W : Wd) (S : Store) (H : Hp) : Prop where
  sub : ∀ a o, W.F a = some o → H a = some o
  len : W.m.length = S.length
  cell : ∀ (i : Nat) (c : Cell), S[i]? = some (some c) → ∃ a, W.m[i]? = some a ∧ W.F a = none ∧ W.P a = none ∧ CellAt K W H a c
  inj : ∀ (i j : Nat) (a : Addr) (c c' : Cell), S[i]? = some (some c) → S[j]? = some (some c') → W.m[i]? = some a → W.m[j]? = some a → i = j
  prv : ∀ a o, W.P a = some o → H a = some o ∧ W.F a = none
  ptup : ∀ a xs, W.P a ≠ some (.tup xs)

section
variable {K : PySem.W.Frag} {W : Wd} {S : Store} {H : Hp}
theorem rd_sub {F H : Hp} (s : ∀ a o, F a = some o → H a = some o) {a : Addr} {u : HO} (r : Rd F a u) : Rd H a u := by
  rcases r with r | ⟨o, r⟩
  · exact .inl (s _ _ r)
  · exact .inr ⟨o, s _ _ r⟩
theorem Good.sqL (g : Good K W S H) {a : Addr} {xs : List V} (r : SqL K W.F a xs) : SqL K H a xs := by
  rcases r with r | r
  · exact .inl (rd_sub g.sub r)
  · exact .inr r
theorem Good.sqT (g : Good K W S H) {a : Addr} {xs : List V} (r : SqT K W.F a xs) : SqT K H a xs := by
  rcases r with r | r
  · exact .inl (rd_sub g.sub r)
  · exact .inr r
/-- a new frozen object -/
def Wd.add (W : Wd) (p : Addr) (o : HO) : Wd := ⟨upd W.F p o, W.m, W.P, W.sf⟩
theorem Good.free (g : Good K W S H) {p : Addr} (n : H p = none) : W.F p = none := by
  cases e : W.F p with
  | none => rfl
  | some o => rw [g.sub p o e] at n; cases n
theorem Good.freeP (g : Good K W S H) {p : Addr} (n : H p = none) : W.P p = none := by
  cases e : W.P p with
  | none => rfl
  | some o => rw [(g.prv p o e).1] at n; cases n
theorem Good.add_le (g : Good K W S H) {p : Addr} {o : HO} (n : H p = none) : W.le (W.add p o) :=
  ⟨⟨fun a u e => by show upd W.F p o a = _; rw [upd_ne (ne_of_none e (g.free n))]; exact e, rfl, [], by simp [Wd.add]⟩, rfl⟩
theorem Good.add (g : Good K W S H) {p : Addr} {o : HO} (n : H p = none) : Good K (W.add p o) S (upd H p o) where
  sub := fun a u e => by
    have e1 : upd W.F p o a = some u := e
    by_cases h : a = p
    · subst h; rw [upd_same] at e1 ⊢; exact e1
    · rw [upd_ne h] at e1 ⊢; exact g.sub a u e1
  len := g.len
  cell := fun i c e => by
    obtain ⟨a, e1, e2, e2', e3⟩ := g.cell i c e
    obtain ⟨u, e4⟩ := e3.there
    have ne : a ≠ p := ne_of_none e4 n
    exact ⟨a, e1, by show upd W.F p o a = _; rw [upd_ne ne]; exact e2, e2', (e3.eqH (upd_ne ne)).mono (g.add_le n).toLf⟩
  inj := g.inj
  prv := fun a u e => by
    obtain ⟨h1, h2⟩ := g.prv a u e
    have ne : a ≠ p := ne_of_none h1 n
    exact ⟨by rw [upd_ne ne]; exact h1, by show upd W.F p o a = _; rw [upd_ne ne]; exact h2⟩
  ptup := g.ptup
/-- a new cell -/
def Wd.addC (W : Wd) (p : Addr) : Wd := ⟨W.F, W.m ++ [p], W.P, W.sf⟩
theorem Wd.addC_le (W : Wd) (p : Addr) : W.le (W.addC p) := ⟨⟨fun _ _ h => h, rfl, [p], rfl⟩, rfl⟩
theorem Good.addC (g : Good K W S H) {p : Addr} {o : HO} {c : Cell} (n : H p = none) (hc : CellAt K (W.addC p) (upd H p o) p c) : Good K (W.addC p) (S ++ [some c]) (upd H p o) where
  sub := fun a u e => by
    rw [upd_ne (ne_of_none (g.sub a u e) n)]
    exact g.sub a u e
  len := by simp [Wd.addC, g.len]
  cell := fun i c' e => by
    by_cases h : i < S.length
    · rw [List.getElem?_append_left h] at e
      obtain ⟨a, e1, e2, e2', e3⟩ := g.cell i c' e
      obtain ⟨u, e4⟩ := e3.there
      exact ⟨a, (Wd.addC_le W p).get e1, e2, e2', (e3.eqH (upd_ne (ne_of_none e4 n))).mono (Wd.addC_le W p).toLf⟩
    · have hi : i = S.length := by
        have := (List.getElem?_eq_some_iff.mp e).1
        simp at this; omega
      subst hi
      simp at e
      subst e
      exact ⟨p, by simp [Wd.addC, ← g.len], g.free n, g.freeP n, hc⟩
  inj := fun i j a c1 c2 e1 e2 h1 h2 => by
    have old : ∀ {i : Nat} {a : Addr} {c' : Cell}, i < S.length → (S ++ [some c])[i]? = some (some c') → (W.addC p).m[i]? = some a → W.m[i]? = some a ∧ S[i]? = some (some c') ∧ a ≠ p := fun {i a c'} hi e h => by
      rw [List.getElem?_append_left hi] at e
      obtain ⟨a', q1, q2, _, q3⟩ := g.cell i _ e
      have : (W.addC p).m[i]? = some a' := (Wd.addC_le W p).get q1
      rw [h] at this
      cases this
      obtain ⟨u, q4⟩ := q3.there
      exact ⟨q1, e, ne_of_none q4 n⟩
    have last : ∀ {i : Nat} {a : Addr} {c' : Cell}, ¬ i < S.length → (S ++ [some c])[i]? = some (some c') → (W.addC p).m[i]? = some a → i = S.length ∧ a = p := fun {i a c'} hi e h => by
      have hi' : i = S.length := by
        have := (List.getElem?_eq_some_iff.mp e).1
        simp at this; omega
      subst hi'
      refine ⟨rfl, ?_⟩
      simp [Wd.addC, ← g.len] at h
      exact h.symm
    by_cases hi : i < S.length
    · obtain ⟨a1, a2, a3⟩ := old hi e1 h1
      by_cases hj : j < S.length
      · obtain ⟨b1, b2, b3⟩ := old hj e2 h2
        exact g.inj i j a _ _ a2 b2 a1 b1
      · obtain ⟨b1, b2⟩ := last hj e2 h2
        exact absurd b2 a3
    · obtain ⟨a1, a2⟩ := last hi e1 h1
      by_cases hj : j < S.length
      · obtain ⟨b1, b2, b3⟩ := old hj e2 h2
        exact absurd a2 b3
      · obtain ⟨b1, b2⟩ := last hj e2 h2
        rw [a1, b1]
  prv := fun a u e => by
    obtain ⟨h1, h2⟩ := g.prv a u e
    exact ⟨by rw [upd_ne (ne_of_none h1 n)]; exact h1, h2⟩
  ptup := g.ptup
/-- a cell is written -/
theorem Good.put (g : Good K W S H) {i : Nat} {a : Addr} {c c' : Cell} {o : HO} (e : S[i]? = some (some c)) (h : W.m[i]? = some a) (hc : CellAt K W (upd H a o) a c') : Good K W (S.set i (some c')) (upd H a o) := by
  obtain ⟨a', z1, z2, z3, z4⟩ := g.cell i c e
  rw [h] at z1; cases z1
  refine ⟨fun b u q => ?_, by rw [List.length_set]; exact g.len, fun j c1 q => ?_, fun j k b c1 c2 q1 q2 h1 h2 => ?_, fun b u q => ?_, g.ptup⟩
  · have ne : b ≠ a := fun z => by subst z; rw [q] at z2; cases z2
    rw [upd_ne ne]
    exact g.sub b u q
  · by_cases hj : i = j
    · subst hj
      rw [List.getElem?_set_self (List.getElem?_eq_some_iff.mp e).1] at q
      cases q
      exact ⟨a, h, z2, z3, hc⟩
    · rw [List.getElem?_set_ne hj] at q
      obtain ⟨b, q1, q2, q2', q3⟩ := g.cell j c1 q
      have ne : b ≠ a := fun z => by subst z; exact hj (g.inj i j b _ _ e q h q1)
      exact ⟨b, q1, q2, q2', q3.eqH (upd_ne ne)⟩
  · have old : ∀ {j : Nat} {c1 : Cell}, (S.set i (some c'))[j]? = some (some c1) → ∃ c2, S[j]? = some (some c2) := fun {j c1} q => by
      by_cases hj : i = j
      · subst hj; exact ⟨c, e⟩
      · rw [List.getElem?_set_ne hj] at q; exact ⟨_, q⟩
    obtain ⟨d1, p1⟩ := old q1
    obtain ⟨d2, p2⟩ := old q2
    exact g.inj j k b d1 d2 p1 p2 h1 h2
  · have ne : b ≠ a := fun z => by subst z; rw [q] at z3; cases z3
    obtain ⟨h1, h2⟩ := g.prv b u q
    exact ⟨by rw [upd_ne ne]; exact h1, h2⟩
/-- a cell is frozen -/
theorem Good.freeze (g : Good K W S H) {i : Nat} {a : Addr} {c : Cell} {o : HO} (e : S[i]? = some (some c)) (h : W.m[i]? = some a) (ho : H a = some o) : Good K (W.add a o) (S.set i none) H ∧ W.le (W.add a o) := by
  obtain ⟨a', q1, fa, pa, q3⟩ := g.cell i c e
  rw [h] at q1; cases q1
  have le : W.le (W.add a o) := ⟨⟨fun b u q => by
    have ne : b ≠ a := fun z => by subst z; rw [q] at fa; cases fa
    show upd W.F a o b = _
    rw [upd_ne ne]; exact q, rfl, [], by simp [Wd.add]⟩, rfl⟩
  have old : ∀ {j : Nat} {c1 : Cell}, (S.set i none)[j]? = some (some c1) → i ≠ j ∧ S[j]? = some (some c1) := fun {j c1} q => by
    by_cases hj : i = j
    · subst hj
      rw [List.getElem?_set_self (List.getElem?_eq_some_iff.mp e).1] at q
      cases q
    · rw [List.getElem?_set_ne hj] at q; exact ⟨hj, q⟩
  refine ⟨⟨fun b u q => ?_, by rw [List.length_set]; exact g.len, fun j c1 q => ?_, fun j k b c1 c2 q1 q2 h1 h2 => ?_, fun b u q => ?_, g.ptup⟩, le⟩
  · have q' : upd W.F a o b = some u := q
    by_cases hb : b = a
    · subst hb; rw [upd_same] at q'; cases q'; exact ho
    · rw [upd_ne hb] at q'; exact g.sub b u q'
  · obtain ⟨hj, q'⟩ := old q
    obtain ⟨b, p1, p2, p2', p3⟩ := g.cell j c1 q'
    have ne : b ≠ a := fun z => by subst z; exact hj (g.inj i j b _ _ e q' h p1)
    exact ⟨b, p1, by show upd W.F a o b = _; rw [upd_ne ne]; exact p2, p2', p3.mono le.toLf⟩
  · exact g.inj j k b c1 c2 (old q1).2 (old q2).2 h1 h2
  · have ne : b ≠ a := fun z => by subst z; have q' : W.P b = some u := q; rw [q'] at pa; cases pa
    obtain ⟨h1, h2⟩ := g.prv b u q
    exact ⟨h1, by show upd W.F a o b = _; rw [upd_ne ne]; exact h2⟩
/-- something private is laid, or changed -/
def Wd.prv (W : Wd) (p : Addr) (o : HO) : Wd := ⟨W.F, W.m, upd W.P p o, W.sf⟩
theorem Wd.prv_lf (W : Wd) (p : Addr) (o : HO) : W.lf (W.prv p o) := ⟨fun _ _ h => h, rfl, [], by simp [Wd.prv]⟩
theorem Good.toPrv (g : Good K W S H) {p : Addr} {o : HO} (hf : W.F p = none) (hxt : ∀ xs, o ≠ .tup xs) (hm : ∀ (i : Nat) c, S[i]? = some (some c) → W.m[i]? ≠ some p) : Good K (W.prv p o) S (upd H p o) where
  sub := fun a u e => by
    have ne : a ≠ p := fun z => by subst z; have e' : W.F a = some u := e; rw [e'] at hf; cases hf
    rw [upd_ne ne]; exact g.sub a u e
  len := g.len
  cell := fun i c e => by
    obtain ⟨a, e1, e2, e3, e4⟩ := g.cell i c e
    have ne : a ≠ p := fun z => by subst z; exact hm i c e e1
    exact ⟨a, e1, e2, by show upd W.P p o a = _; rw [upd_ne ne]; exact e3, (e4.eqH (upd_ne ne)).mono (W.prv_lf p o)⟩
  inj := g.inj
  prv := fun a u e => by
    have e' : upd W.P p o a = some u := e
    by_cases h : a = p
    · subst h; rw [upd_same] at e'; cases e'; exact ⟨upd_same, hf⟩
    · rw [upd_ne h] at e' ⊢; exact g.prv a u e'
  ptup := fun a xs e => by
    have e' : upd W.P p o a = some (.tup xs) := e
    by_cases h : a = p
    · subst h; rw [upd_same] at e'; cases e'; exact hxt _ rfl
    · rw [upd_ne h] at e'; exact g.ptup a xs e'
theorem Good.newPrv (g : Good K W S H) {p : Addr} {o : HO} (n : H p = none) (hxt : ∀ xs, o ≠ .tup xs := by intro xs z; cases z) : Good K (W.prv p o) S (upd H p o) := g.toPrv (g.free n) hxt fun i c e h => by
  obtain ⟨a, e1, _, _, e4⟩ := g.cell i c e
  rw [h] at e1; cases e1
  obtain ⟨u, q⟩ := e4.there
  rw [n] at q; cases q
theorem Good.updPrv (g : Good K W S H) {p : Addr} {o u : HO} (n : W.P p = some u) (hxt : ∀ xs, o ≠ .tup xs := by intro xs z; cases z) : Good K (W.prv p o) S (upd H p o) := g.toPrv (g.prv p u n).2 hxt fun i c e h => by
  obtain ⟨a, e1, _, e3, _⟩ := g.cell i c e
  rw [h] at e1; cases e1
  rw [n] at e3; cases e3
theorem Good.unPrv_lf (g : Good K W S H) {p : Addr} {o : HO} {P : Hp} (e : W.P = upd P p o) : W.lf ⟨upd W.F p o, W.m, P, W.sf⟩ := ⟨fun b u q => by
    have nb : b ≠ p := fun z => by subst z; rw [(g.prv b _ (by rw [e, upd_same])).2] at q; cases q
    show upd W.F p o b = _; rw [upd_ne nb]; exact q, rfl, [], by simp⟩
/-- what was private is frozen; P: the privacy around it -/
theorem Good.unPrv (g : Good K W S H) {p : Addr} {o : HO} {P : Hp} (e : W.P = upd P p o) (n : P p = none) : Good K ⟨upd W.F p o, W.m, P, W.sf⟩ S H where
  sub := fun a u q => by
    have q' : upd W.F p o a = some u := q
    by_cases h : a = p
    · subst h; rw [upd_same] at q'; cases q'; exact (g.prv a _ (by rw [e, upd_same])).1
    · rw [upd_ne h] at q'; exact g.sub a u q'
  len := g.len
  cell := fun i c q => by
    obtain ⟨a, e1, e2, e3, e4⟩ := g.cell i c q
    have ne : a ≠ p := fun z => by subst z; rw [e, upd_same] at e3; cases e3
    rw [e, upd_ne ne] at e3
    exact ⟨a, e1, by show upd W.F p o a = _; rw [upd_ne ne]; exact e2, e3, e4.mono (g.unPrv_lf e)⟩
  inj := g.inj
  prv := fun a u q => by
    have ne : a ≠ p := fun z => by subst z; have q' : P a = some u := q; rw [q'] at n; cases n
    obtain ⟨h1, h2⟩ := g.prv a u (by rw [e, upd_ne ne]; exact q)
    exact ⟨h1, by show upd W.F p o a = _; rw [upd_ne ne]; exact h2⟩
  ptup := fun a xs q => by
    have q' : P a = some (.tup xs) := q
    have ne : a ≠ p := fun z => by subst z; rw [q'] at n; cases n
    exact g.ptup a xs (by rw [e, upd_ne ne]; exact q')
/-- a tuple that stands is frozen -/
theorem Good.addOld (g : Good K W S H) {q : Addr} {xs : List V} (hq : H q = some (.tup xs)) (hf : W.F q = none) : Good K (W.add q (.tup xs)) S H ∧ W.le (W.add q (.tup xs)) := by
  have hp : W.P q = none := by
    cases e : W.P q with
    | none => rfl
    | some o =>
      have h1 := (g.prv q o e).1
      rw [hq] at h1; cases h1
      exact absurd e (g.ptup q xs)
  have le : W.le (W.add q (.tup xs)) := ⟨⟨fun b u e => by
    have ne : b ≠ q := fun z => by subst z; rw [e] at hf; cases hf
    show upd W.F q (.tup xs) b = _
    rw [upd_ne ne]; exact e, rfl, [], by simp [Wd.add]⟩, rfl⟩
  refine ⟨⟨fun b u e => ?_, g.len, fun i c e => ?_, g.inj, fun b u e => ?_, g.ptup⟩, le⟩
  · have e' : upd W.F q (.tup xs) b = some u := e
    by_cases hb : b = q
    · subst hb; rw [upd_same] at e'; cases e'; exact hq
    · rw [upd_ne hb] at e'; exact g.sub b u e'
  · obtain ⟨a, e1, e2, e3, e4⟩ := g.cell i c e
    have ne : a ≠ q := fun z => by subst z; exact CellAt.notup hq e4
    exact ⟨a, e1, by show upd W.F q (.tup xs) a = _; rw [upd_ne ne]; exact e2, e3, e4.mono le.toLf⟩
  · have ne : b ≠ q := fun z => by subst z; have e' : W.P b = some u := e; rw [hp] at e'; cases e'
    obtain ⟨h1, h2⟩ := g.prv b u e
    exact ⟨h1, by show upd W.F q (.tup xs) b = _; rw [upd_ne ne]; exact h2⟩
/-- a cell is locked for good -/
theorem Good.lockC (g : Good K W S H) {i : Nat} {a : Addr} {c : Cell} {o : HO} (e : S[i]? = some (some c)) (h : W.m[i]? = some a) : Good K (W.add a o) (S.set i none) (upd H a o) ∧ W.le (W.add a o) := by
  obtain ⟨a', q1, fa, pa, q3⟩ := g.cell i c e
  rw [h] at q1; cases q1
  have le : W.le (W.add a o) := ⟨⟨fun b u q => by
    have ne : b ≠ a := fun z => by subst z; rw [q] at fa; cases fa
    show upd W.F a o b = _
    rw [upd_ne ne]; exact q, rfl, [], by simp [Wd.add]⟩, rfl⟩
  have old : ∀ {j : Nat} {c1 : Cell}, (S.set i none)[j]? = some (some c1) → i ≠ j ∧ S[j]? = some (some c1) := fun {j c1} q => by
    by_cases hj : i = j
    · subst hj
      rw [List.getElem?_set_self (List.getElem?_eq_some_iff.mp e).1] at q
      cases q
    · rw [List.getElem?_set_ne hj] at q; exact ⟨hj, q⟩
  refine ⟨⟨fun b u q => ?_, by rw [List.length_set]; exact g.len, fun j c1 q => ?_, fun j k b c1 c2 q1 q2 h1 h2 => ?_, fun b u q => ?_, g.ptup⟩, le⟩
  · have q' : upd W.F a o b = some u := q
    by_cases hb : b = a
    · subst hb; rw [upd_same] at q' ⊢; exact q'
    · rw [upd_ne hb] at q' ⊢; exact g.sub b u q'
  · obtain ⟨hj, q'⟩ := old q
    obtain ⟨b, p1, p2, p2', p3⟩ := g.cell j c1 q'
    have ne : b ≠ a := fun z => by subst z; exact hj (g.inj i j b _ _ e q' h p1)
    exact ⟨b, p1, by show upd W.F a o b = _; rw [upd_ne ne]; exact p2, p2', (p3.eqH (upd_ne ne)).mono le.toLf⟩
  · exact g.inj j k b c1 c2 (old q1).2 (old q2).2 h1 h2
  · have ne : b ≠ a := fun z => by subst z; have q' : W.P b = some u := q; rw [q'] at pa; cases pa
    obtain ⟨h1, h2⟩ := g.prv b u q
    exact ⟨by rw [upd_ne ne]; exact h1, by show upd W.F a o b = _; rw [upd_ne ne]; exact h2⟩
end

/-- what a slot holds -/
def Slt (K : PySem.W.Frag) (W : Wd) (d : D) (v : V) : Prop := Rep K W d v ∨ (d = .slf ∧ ∃ a, W.sf = some a ∧ v = .ref a)
theorem Slt.mono {K : PySem.W.Frag} {W W' : Wd} {d : D} {v : V} (h : W.lf W') (r : Slt K W d v) : Slt K W' d v := by
  rcases r with r | ⟨e, a, h1, h2⟩
  · exact .inl (r.mono h)
  · exact .inr ⟨e, a, h.sq.trans h1, h2⟩
def REnv (K : PySem.W.Frag) (W : Wd) (δ : En) (σ : St) : Prop := δ.length = σ.length ∧ ∀ (i : Nat) (d : D), δ[i]? = some (some d) → ∃ v, σ[i]? = some (some v) ∧ Slt K W d v
theorem REnv.mono {K : PySem.W.Frag} {W W' : Wd} {δ : En} {σ : St} (h : W.lf W') (r : REnv K W δ σ) : REnv K W' δ σ := ⟨r.1, fun i d e => by
  obtain ⟨v, e1, e2⟩ := r.2 i d e
  exact ⟨v, e1, e2.mono h⟩⟩
theorem REnv.set {K : PySem.W.Frag} {W : Wd} {δ : En} {σ : St} {d : D} {v : V} (r : REnv K W δ σ) (i : Nat) (q : Rep K W d v) : REnv K W (δ.set i (some d)) (σ.set i (some v)) := by
  refine ⟨by simp [r.1], fun j d' e => ?_⟩
  by_cases hj : i = j
  · subst hj
    have hi : i < δ.length := by
      have := (List.getElem?_eq_some_iff.mp e).1
      simpa using this
    rw [List.getElem?_set_self hi] at e
    cases e
    exact ⟨v, List.getElem?_set_self (by rw [← r.1]; exact hi), .inl q⟩
  · rw [List.getElem?_set_ne hj] at e
    obtain ⟨v', e1, e2⟩ := r.2 j d' e
    exact ⟨v', by rw [List.getElem?_set_ne hj]; exact e1, e2⟩

/-- how an exception lies: its class, its own dict -/
def XRep (K : PySem.W.Frag) (W : Wd) (x : Xc) (cls : Value) (d : Option Addr) : Prop :=
  cls = .ref (He.ga K x.cls) ∧ ((x.fs = [] ∧ d = none) ∨ ∃ a vfs, d = some a ∧ W.F a = some (.xd vfs) ∧ vfs.map (·.1) = x.fs.map (·.1) ∧ Reps K W (x.fs.map (·.2)) (vfs.map (·.2)))

def okP {α β : Type} (K : PySem.W.Frag) (R : Wd → α → β → Prop) (W : Wd) (r : Res α) (σ : St) (Wx : WX) (Q : β → Hp → Prop) : Prop := match r with
  | .ok d S' => ∀ W' H' v, W.le W' → Good K W' S' H' → R W' d v → Q v H'
  | .exc x S' => ∀ W' H' cls d, W.le W' → Good K W' S' H' → XRep K W' x cls d → Wx cls d σ H'
  | .bad => False
theorem okP.mono {α β : Type} {K : PySem.W.Frag} {R : Wd → α → β → Prop} {W W1 : Wd} {r : Res α} {σ : St} {Wx : WX} {Q : β → Hp → Prop} (h : W.le W1) (p : okP K R W r σ Wx Q) : okP K R W1 r σ Wx Q := by
  cases r with
  | ok d S' => exact fun W' H' v l => p W' H' v (h.trans l)
  | exc x S' => exact fun W' H' cls d l => p W' H' cls d (h.trans l)
  | bad => exact p
/-- readings of expressions, tests, argument lists -/
def tD (K : PySem.W.Frag) (Wx : WX) (m : ME) : TE := fun σ H Q => ∃ W S δ, Good K W S H ∧ REnv K W δ σ ∧ okP K (Rep K) W (m δ S) σ Wx Q
def tDT (K : PySem.W.Frag) (Wx : WX) (m : MT) : TT := fun σ H Q => ∃ W S δ, Good K W S H ∧ REnv K W δ σ ∧ okP K (fun _ (b c : Bool) => b = c) W (m δ S) σ Wx Q
def tDA (K : PySem.W.Frag) (Wx : WX) (m : MA) : TA := fun σ H Q => ∃ W S δ, Good K W S H ∧ REnv K W δ σ ∧ okP K (Reps K) W (m δ S) σ Wx Q
def flP (K : PySem.W.Frag) (W : Wd) (r : Fl) (Wx : WX) (E : Ends) : Prop := match r with
  | .nx δ S => ∀ W' H' σ, W.le W' → Good K W' S H' → REnv K W' δ σ → E.nx σ H'
  | .rt d S => ∀ W' H' v, W.le W' → Good K W' S H' → Rep K W' d v → E.rt v H'
  | .bk δ S => ∀ W' H' σ, W.le W' → Good K W' S H' → REnv K W' δ σ → E.bk σ H'
  | .ct δ S => ∀ W' H' σ, W.le W' → Good K W' S H' → REnv K W' δ σ → E.ct σ H'
  | .exc x δ S => ∀ W' H' σ cls d, W.le W' → Good K W' S H' → REnv K W' δ σ → XRep K W' x cls d → Wx cls d σ H'
  | .bad => False
theorem flP.mono {K : PySem.W.Frag} {W W1 : Wd} {r : Fl} {Wx : WX} {E : Ends} (h : W.le W1) (p : flP K W r Wx E) : flP K W1 r Wx E := by
  cases r with
  | nx δ S => exact fun W' H' σ l => p W' H' σ (h.trans l)
  | rt d S => exact fun W' H' σ l => p W' H' σ (h.trans l)
  | bk δ S => exact fun W' H' σ l => p W' H' σ (h.trans l)
  | ct δ S => exact fun W' H' σ l => p W' H' σ (h.trans l)
  | exc x δ S => exact fun W' H' σ cls d l => p W' H' σ cls d (h.trans l)
  | bad => exact p
def tDS (K : PySem.W.Frag) (Wx : WX) (m : MS) : TS := fun E σ H => ∃ W S δ, Good K W S H ∧ REnv K W δ σ ∧ flP K W (m δ S) Wx E

theorem PE.imp {X : Cx} {e : Expr} {t t' : TE} (p : PE X e t) (h : ∀ σ H Q, t' σ H Q → t σ H Q) : PE X e t' := ⟨fun pins s σ H Q I q => p.run pins s σ H Q I (h σ H Q q)⟩
theorem PT.imp {X : Cx} {e : Expr} {t t' : TT} (p : PT X e t) (h : ∀ σ H Q, t' σ H Q → t σ H Q) : PT X e t' := ⟨fun pins s σ H Q I q => p.run pins s σ H Q I (h σ H Q q)⟩
theorem PW.imp {X : Cx} {e : Expr} {t t' : TT} (p : PW X e t) (h : ∀ σ H Q, t' σ H Q → t σ H Q) : PW X e t' := ⟨fun w pins s σ H Q I q => p.run w pins s σ H Q I (h σ H Q q)⟩
theorem PA.imp {X : Cx} {e : List Expr} {t t' : TA} (p : PA X e t) (h : ∀ σ H Q, t' σ H Q → t σ H Q) : PA X e t' := ⟨fun pos pins s σ H Q I q => p.run pos pins s σ H Q I (h σ H Q q)⟩
theorem PS.imp {X : Cx} {e : Stmt} {t t' : TS} (p : PS X e t) (h : ∀ D σ H, t' D σ H → t D σ H) : PS X e t' := ⟨fun pins s σ H D I q => p.run pins s σ H D I (h D σ H q)⟩
theorem PSs.imp {X : Cx} {e : List Stmt} {t t' : TS} (p : PSs X e t) (h : ∀ D σ H, t' D σ H → t D σ H) : PSs X e t' := ⟨fun pins s σ H D I q => p.run pins s σ H D I (h D σ H q)⟩
theorem PG.imp {X : Cx} {e : Expr} {t t' : TG} (p : PG X e t) (h : ∀ v σ H Q, t' v σ H Q → t v σ H Q) : PG X e t' := ⟨fun pins s σ H v u Q I r q => p.run pins s σ H v u Q I r (h v σ H Q q)⟩
end Ev
namespace Ev
open PySem L2

theorem okP.imp {α β : Type} {K : PySem.W.Frag} {R : Wd → α → β → Prop} {W : Wd} {r : Res α} {σ : St} {Wx : WX} {Q Q' : β → Hp → Prop} (p : okP K R W r σ Wx Q) (h : ∀ v H, Q v H → Q' v H) : okP K R W r σ Wx Q' := by
  cases r with
  | ok d S' => exact fun W' H' v l g r => h _ _ (p W' H' v l g r)
  | exc x S' => exact p
  | bad => exact p
theorem okP.bind {α β γ ε : Type} {K : PySem.W.Frag} {R : Wd → α → β → Prop} {R' : Wd → γ → ε → Prop} {W : Wd} {m : M α} {f : α → M γ} {S : Store} {σ : St} {Wx : WX} {Q : ε → Hp → Prop}
    (h : okP K R' W (M.bind m f S) σ Wx Q) : okP K R W (m S) σ Wx (fun v H' => ∃ W' S' a, W.le W' ∧ Good K W' S' H' ∧ R W' a v ∧ okP K R' W' (f a S') σ Wx Q) := by
  unfold M.bind at h
  cases e : m S with
  | ok a S' =>
    rw [e] at h
    exact fun W' H' v l g r => ⟨W', S', a, l, g, r, h.mono l⟩
  | exc x S' =>
    rw [e] at h
    exact h
  | bad =>
    rw [e] at h
    exact h
theorem okP.pure {α β : Type} {K : PySem.W.Frag} {R : Wd → α → β → Prop} {W : Wd} {a : α} {S : Store} {σ : St} {Wx : WX} {Q : β → Hp → Prop} {H : Hp} {v : β} (h : okP K R W (M.pure a S) σ Wx Q) (g : Good K W S H) (r : R W a v) : Q v H := h W H v W.le_refl g r

/-- a primitive operation: no exception -/
abbrev PO := Store → Option (D × Store)
def lft (p : PO) : M D := fun S => match p S with
  | some (d, S') => .ok d S'
  | none => .bad
def oV (K : PySem.W.Frag) (W : Wd) (r : Option (D × Store)) (Q : VK) : Prop := match r with
  | some (d, S') => ∀ W' H' v, W.le W' → Good K W' S' H' → Rep K W' d v → Q v H'
  | none => False
theorem okP.lft {K : PySem.W.Frag} {W : Wd} {p : PO} {S : Store} {σ : St} {Wx : WX} {Q : VK} (h : okP K (Rep K) W (lft p S) σ Wx Q) : oV K W (p S) Q := by
  unfold Ev.lft at h
  cases e : p S with
  | none =>
    rw [e] at h
    exact h
  | some r =>
    rw [e] at h
    exact h
theorem oV.val {K : PySem.W.Frag} {W : Wd} {S : Store} {d : D} {Q : VK} {H : Hp} {v : V} (h : oV K W (some (d, S)) Q) (g : Good K W S H) (r : Rep K W d v) : Q v H := h W H v W.le_refl g r
/-- a new frozen object -/
theorem oV.new {K : PySem.W.Frag} {W : Wd} {S : Store} {d : D} {Q : VK} {H : Hp} {p : Addr} {o : HO} (h : oV K W (some (d, S)) Q) (g : Good K W S H) (n : H p = none) (r : Rep K (W.add p o) d (.ref p)) : Q (.ref p) (upd H p o) :=
  h _ _ _ (g.add_le n) (g.add n) r

def rD2 (K : PySem.W.Frag) (f : D → D → PO) : R2 := fun x y H Q => ∃ W S dx dy, Good K W S H ∧ Rep K W dx x ∧ Rep K W dy y ∧ oV K W (f dx dy S) Q
def rD1 (K : PySem.W.Frag) (f : D → PO) : V → Hp → VK → Prop := fun x H Q => ∃ W S dx, Good K W S H ∧ Rep K W dx x ∧ oV K W (f dx S) Q
def rDC (K : PySem.W.Frag) (f : List D → PO) : List V → Hp → VK → Prop := fun xs H Q => ∃ W S ds, Good K W S H ∧ Reps K W ds xs ∧ oV K W (f ds S) Q

section
variable {X : Cx} {Wx : WX} {a b c e : Expr} {ma mb mc m : ME} {pos : Pos}
abbrev SE (X : Cx) (Wx : WX) (e : Expr) (m : ME) : Prop := PE X e (tD X.K Wx m)
abbrev ST (X : Cx) (Wx : WX) (e : Expr) (m : MT) : Prop := PT X e (tDT X.K Wx m)
abbrev SW (X : Cx) (Wx : WX) (e : Expr) (m : MT) : Prop := PW X e (tDT X.K Wx m)
abbrev SA (X : Cx) (Wx : WX) (e : List Expr) (m : MA) : Prop := PA X e (tDA X.K Wx m)
abbrev SS (X : Cx) (Wx : WX) (e : Stmt) (m : MS) : Prop := PS X e (tDS X.K Wx m)
abbrev SB (X : Cx) (Wx : WX) (e : List Stmt) (m : MS) : Prop := PSs X e (tDS X.K Wx m)

theorem ss_bad {st : Stmt} : SS X Wx st (fun _ _ => .bad) := ⟨fun _ _ _ _ _ _ h => by obtain ⟨_, _, _, _, _, z⟩ := h; exact z.elim⟩
def eVar (i : Nat) : ME := fun δ => match δ[i]? with
  | some (some .slf) => M.bad
  | some (some d) => M.pure d
  | _ => M.bad
theorem se_var {i : Nat} {x : Str} (hN : X.N[i]? = some x) (hv : Vis X.env.scope x) (hd : (x == ("__debug__" : Str)) = false) (hcd : (x == ("__classdict__" : Str)) = false) : SE X Wx (.Name x pos) (eVar i) :=
  PE.imp (pe_var hN hv hd hcd) fun σ H Q ⟨W, S, δ, g, r, p⟩ => by
    unfold eVar at p
    cases q : δ[i]? with
    | none => rw [q] at p; exact p.elim
    | some o =>
      cases o with
      | none => rw [q] at p; exact p.elim
      | some d =>
        rw [q] at p
        obtain ⟨v, e1, e2⟩ := r.2 i d q
        rcases e2 with e2 | ⟨rfl, _⟩
        · exact ⟨v, e1, okP.pure (a := d) (by cases d <;> first | exact p | exact p.elim) g e2⟩
        · exact p.elim
def eC (d : D) : ME := fun _ => M.pure d
theorem se_c {d : D} {v : V} (h : PE X e (tC v)) (r : ∀ W, Rep X.K W d v) : SE X Wx e (eC d) := PE.imp h fun σ H Q ⟨W, S, δ, g, q, p⟩ => okP.pure p g (r W)
theorem se_int {i j} : SE X Wx (.Constant (.int i) j pos) (eC (.int i)) := se_c pe_int fun _ => .int i
theorem se_bl {i j} : SE X Wx (.Constant (.bool i) j pos) (eC (.bl i)) := se_c pe_bl fun _ => .bl i
theorem se_non {j} : SE X Wx (.Constant .none j pos) (eC .non) := se_c pe_non fun _ => .non
theorem se_str {i j} : SE X Wx (.Constant (.str i) j pos) (eC (.str i)) := se_c pe_str fun _ => .str i

def eOp (f : D → D → PO) (ma mb : ME) : ME := fun δ => M.bind (ma δ) fun x => M.bind (mb δ) fun y => lft (f x y)
theorem tOp_of {f : D → D → PO} (σ : St) (H : Hp) (Q : VK) (h : tD X.K Wx (eOp f ma mb) σ H Q) : tOp (rD2 X.K f) (tD X.K Wx ma) (tD X.K Wx mb) σ H Q := by
  obtain ⟨W, S, δ, g, r, p⟩ := h
  refine ⟨W, S, δ, g, r, p.bind.imp fun v H1 ⟨W1, S1, x, l1, g1, r1, p1⟩ => ⟨W1, S1, δ, g1, r.mono l1, p1.bind.imp fun v2 H2 ⟨W2, S2, y, l2, g2, r2, p2⟩ => ⟨W2, S2, x, y, g2, r1.mono l2, r2, p2.lft⟩⟩⟩
theorem se_op {op : Operator} {f : D → D → PO} (ho : OpR X (binaryOp op) (rD2 X.K f)) (ha : SE X Wx a ma) (hb : SE X Wx b mb) : SE X Wx (.BinOp a op b pos) (eOp f ma mb) := PE.imp (pe_op ho ha hb) tOp_of
theorem se_cmp {op : CmpOp} {f : D → D → PO} (ho : OpR X (compareOp op) (rD2 X.K f)) (ha : SE X Wx a ma) (hb : SE X Wx b mb) (hm : behindInMarks op b = false) : SE X Wx (.Compare a [op] [b] pos) (eOp f ma mb) := PE.imp (pe_cmpR ho ha hb hm) tOp_of
/-- a value that is a truth -/
def asB (m : M D) : M Bool := M.bind m fun d => match d with
  | .bl b => M.pure b
  | _ => M.bad
theorem okP.asB {K : PySem.W.Frag} {W : Wd} {S : Store} {m : M D} {σ : St} {Q : Bool → Hp → Prop} (h : okP K (fun _ (b c : Bool) => b = c) W (asB m S) σ Wx Q) : okP K (Rep K) W (m S) σ Wx (fun v H' => ∃ k, v = .bl k ∧ Q k H') :=
  (okP.bind (R := Rep K) h).imp fun v H1 ⟨W1, S1, d, l1, g1, r1, p1⟩ => by
    cases r1 with
    | bl b => exact ⟨b, rfl, okP.pure p1 g1 rfl⟩
    | _ => exact p1.elim
theorem okP.assoc {α β γ δ' : Type} {K : PySem.W.Frag} {R : Wd → γ → δ' → Prop} {W : Wd} {S : Store} {m : M α} {f : α → M β} {g : β → M γ} {σ : St} {Q : δ' → Hp → Prop} (h : okP K R W (M.bind (M.bind m f) g S) σ Wx Q) : okP K R W (M.bind m (fun a => M.bind (f a) g) S) σ Wx Q := by
  unfold M.bind at h ⊢
  cases e : m S with
  | ok a S' => rw [e] at h; exact h
  | exc x S' => rw [e] at h; exact h
  | bad => rw [e] at h; exact h
theorem st_cmp {op : CmpOp} {f : D → D → PO} (ho : OpR X (compareOp op) (rD2 X.K f)) (ha : SE X Wx a ma) (hb : SE X Wx b mb) (hm : behindInMarks op b = false) : ST X Wx (.Compare a [op] [b] pos) (fun δ => asB (eOp f ma mb δ)) :=
  PT.imp (pt_cmpR ho ha hb hm) fun σ H Q ⟨W, S, δ, g, r, p⟩ => tOp_of σ H _ ⟨W, S, δ, g, r, p.asB⟩

def eChain (f f' : D → D → PO) (ma mb mc : ME) : ME := fun δ => M.bind (ma δ) fun x => M.bind (mb δ) fun y => M.bind (lft (f x y)) fun z => match z with
  | .bl true => M.bind (mc δ) fun w => lft (f' y w)
  | .bl false => M.pure (.bl false)
  | _ => M.bad
theorem tChain_of {f f' : D → D → PO} (σ : St) (H : Hp) (Q : VK) (h : tD X.K Wx (eChain f f' ma mb mc) σ H Q) : tChain (rD2 X.K f) (rD2 X.K f') (tD X.K Wx ma) (tD X.K Wx mb) (tD X.K Wx mc) σ H Q := by
  obtain ⟨W, S, δ, g, r, p⟩ := h
  refine ⟨W, S, δ, g, r, p.bind.imp fun v H1 ⟨W1, S1, x, l1, g1, r1, p1⟩ => ⟨W1, S1, δ, g1, r.mono l1, p1.bind.imp fun v2 H2 ⟨W2, S2, y, l2, g2, r2, p2⟩ => ⟨W2, S2, x, y, g2, r1.mono l2, r2, ?_⟩⟩⟩
  have p3 := (okP.bind (R := Rep X.K) p2).lft
  cases e : f x y S2 with
  | none => rw [e] at p3; exact p3
  | some q =>
    obtain ⟨d, S3⟩ := q
    rw [e] at p3
    intro W3 H3 v3 l3 g3 r3
    obtain ⟨W4, S4, d4, l4, g4, r4, p4⟩ := p3 W3 H3 v3 l3 g3 r3
    cases r4 with
    | bl k =>
      refine ⟨k, rfl, ?_⟩
      cases k with
      | false =>
        rw [if_neg Bool.false_ne_true]
        exact okP.pure p4 g4 (.bl false)
      | true =>
        rw [if_pos rfl]
        have l04 := (l1.trans l2).trans l4
        refine ⟨W4, S4, δ, g4, r.mono l04, (okP.bind (R := Rep X.K) p4).imp fun v5 H5 ⟨W5, S5, d5, l5, g5, r5, p5⟩ => ⟨W5, S5, y, d5, g5, r2.mono (l4.trans l5), r5, p5.lft⟩⟩
    | _ => exact p4.elim
theorem reps_ints {K : PySem.W.Frag} {W : Wd} : ∀ ns : List Int, Reps K W (ns.map D.int) (ns.map V.int)
  | [] => .nil
  | n :: ns => .cons (.int n) (reps_ints ns)
/-- the items of a list that may be changed or added to another -/
def plstOf (S : Store) (d : D) : Option (List D) := match d with
  | .lst ds => some ds
  | .ref i => (match S[i]? with
    | some (some (.lst ds)) => some ds
    | _ => none)
  | _ => none
theorem plstOf_ok {K : PySem.W.Frag} {W : Wd} {S : Store} {H : Hp} {d : D} {v : V} {ds : List D} (e : plstOf S d = some ds) (g : Good K W S H) (r : Rep K W d v) : ∃ a vs, v = .ref a ∧ H a = some (.lst vs) ∧ Reps K W ds vs := by
  cases r with
  | lst q r =>
    cases e
    exact ⟨_, _, rfl, g.sub _ _ q, r⟩
  | @ref i a h =>
    simp only [plstOf] at e
    split at e
    · rename_i c hc
      cases e
      obtain ⟨a', e1, e2, _, vs, e3, e4⟩ := g.cell i _ hc
      rw [h] at e1; cases e1
      exact ⟨a, vs, rfl, e3, e4⟩
    · cases e
  | _ => cases e
def lstOf (S : Store) (d : D) : Option (List D) := match d with
  | .lst ds => some ds
  | .scr ns => some (ns.map D.int)
  | .ref i => (match S[i]? with
    | some (some (.lst ds)) => some ds
    | _ => none)
  | _ => none
theorem lstOf_ok {K : PySem.W.Frag} {W : Wd} {S : Store} {H : Hp} {d : D} {v : V} {ds : List D} (e : lstOf S d = some ds) (g : Good K W S H) (r : Rep K W d v) : ∃ a vs, v = .ref a ∧ SqL K H a vs ∧ Reps K W ds vs := by
  cases r with
  | lst q r =>
    cases e
    exact ⟨_, _, rfl, SqL.of (g.sub _ _ q), r⟩
  | scr q =>
    cases e
    exact ⟨_, _, rfl, g.sqL q, reps_ints _⟩
  | @ref i a h =>
    simp only [lstOf] at e
    split at e
    · rename_i c hc
      cases e
      obtain ⟨a', e1, e2, _, vs, e3, e4⟩ := g.cell i _ hc
      rw [h] at e1; cases e1
      exact ⟨a, vs, rfl, SqL.of e3, e4⟩
    · cases e
  | _ => cases e
/-- the items of a list, a tuple, a list cell -/
def seqOf (S : Store) (d : D) : Option (List D) := match d with
  | .tup ds => some ds
  | d => lstOf S d
theorem seqOf_ok {K : PySem.W.Frag} {W : Wd} {S : Store} {H : Hp} {d : D} {v : V} {ds : List D} (e : seqOf S d = some ds) (g : Good K W S H) (r : Rep K W d v) : ∃ a vs, v = .ref a ∧ (SqL K H a vs ∨ SqT K H a vs) ∧ Reps K W ds vs := by
  cases d with
  | tup xs =>
    cases r with
    | tup q r =>
      cases e
      exact ⟨_, _, rfl, .inr (g.sqT q), r⟩
  | lst xs => obtain ⟨a, vs, h1, h2, h3⟩ := lstOf_ok (show lstOf S (.lst xs) = some ds from e) g r; exact ⟨a, vs, h1, .inl h2, h3⟩
  | ref i => obtain ⟨a, vs, h1, h2, h3⟩ := lstOf_ok (show lstOf S (.ref i) = some ds from e) g r; exact ⟨a, vs, h1, .inl h2, h3⟩
  | scr ns => obtain ⟨a, vs, h1, h2, h3⟩ := lstOf_ok (show lstOf S (.scr ns) = some ds from e) g r; exact ⟨a, vs, h1, .inl h2, h3⟩
  | _ => cases e
def truD (S : Store) : D → Option Bool
  | .non => some false
  | .bl b => some b
  | .int i => some (i != 0)
  | .str x => if x.length ≤ sizeLine then some ((x.length : Int) != 0) else none
  | d => (seqOf S d).map fun ds => !ds.isEmpty
theorem reps_empty {K : PySem.W.Frag} {W : Wd} {ds : List D} {vs : List V} (r : Reps K W ds vs) : ds.isEmpty = vs.isEmpty := by
  cases r <;> rfl
theorem truD_ok {K : PySem.W.Frag} {W : Wd} {S : Store} {H : Hp} {d : D} {v : V} {k : Bool} (e : truD S d = some k) (g : Good K W S H) (r : Rep K W d v) : TruV K v H k := by
  have seq : ∀ {d : D}, (seqOf S d).map (fun ds => !ds.isEmpty) = some k → Rep K W d v → TruV K v H k := fun {d} e r => by
    obtain ⟨ds, e1, e2⟩ := Option.map_eq_some_iff.mp e
    obtain ⟨a, vs, rfl, h2, h3⟩ := seqOf_ok e1 g r
    rcases h2 with h2 | h2
    · exact .inl ⟨vs, h2, by rw [← reps_empty h3]; exact e2.symm⟩
    · exact .inr (.inl ⟨vs, h2, by rw [← reps_empty h3]; exact e2.symm⟩)
  cases r with
  | non => cases e; rfl
  | bl b => cases e; rfl
  | int i => cases e; rfl
  | str x =>
    simp only [truD] at e
    split at e
    · cases e; exact ⟨by assumption, rfl⟩
    · cases e
  | tup q r => exact seq (by rw [← e]; rfl) (.tup q r)
  | lst q r => exact seq (by rw [← e]; rfl) (.lst q r)
  | ref h => exact seq (by rw [← e]; rfl) (.ref h)
  | ins h1 h2 h3 => cases e
  | fn x => cases e
  | dic _ _ _ => cases e
  | exn0 => cases e
  | exn1 _ _ _ => cases e
  | lam _ _ => cases e
  | scr h => exact seq (by rw [← e]; rfl) (.scr h)
/-- a value's truth -/
def tru (m : M D) : M Bool := M.bind m fun d S => match truD S d with
  | some b => .ok b S
  | none => .bad
theorem okP.tru {K : PySem.W.Frag} {W : Wd} {S : Store} {m : M D} {σ : St} {Q : Bool → Hp → Prop} (h : okP K (fun _ (b c : Bool) => b = c) W (tru m S) σ Wx Q) : okP K (Rep K) W (m S) σ Wx (fun v H' => ∃ k, TruV K v H' k ∧ Q k H') :=
  (okP.bind (R := Rep K) h).imp fun v H1 ⟨W1, S1, d, l1, g1, r1, p1⟩ => by
    cases e : truD S1 d with
    | none => rw [e] at p1; exact p1.elim
    | some k => rw [e] at p1; exact ⟨k, truD_ok e g1 r1, p1 W1 H1 k W1.le_refl g1 rfl⟩
theorem st_truth (ha : SE X Wx a ma) (he : ∀ whole, isTrue a X.env whole = (do let v ← whole; standAt a.pos; holding [v] (truthy v))) : ST X Wx a (fun δ => tru (ma δ)) :=
  PT.imp (pt_truth ha he) fun σ H Q ⟨W, S, δ, g, r, p⟩ => ⟨W, S, δ, g, r, p.tru⟩
theorem st_chain {op op' : CmpOp} {f f' : D → D → PO} (ho : OpR X (compareOp op) (rD2 X.K f)) (ho' : OpR X (compareOp op') (rD2 X.K f')) (ha : SE X Wx a ma) (hb : SE X Wx b mb) (hc : SE X Wx c mc) (hm : lastMarks [op, op'] [b, c] = false) : ST X Wx (.Compare a [op, op'] [b, c] pos) (fun δ => asB (eChain f f' ma mb mc δ)) :=
  PT.imp (pt_chain ho ho' ha hb hc hm) fun σ H Q ⟨W, S, δ, g, r, p⟩ => tChain_of σ H _ ⟨W, S, δ, g, r, p.asB⟩
end
end Ev
namespace Ev
open PySem L2
section
variable {X : Cx} {Wx : WX} {a b c e : Expr} {ma mb mc m : ME} {pos : Pos} {rest : List Expr}

def eAnd (ma mb : ME) : ME := fun δ => M.bind (ma δ) fun x S => match truD S x with
  | some true => mb δ S
  | some false => .ok x S
  | none => .bad
def eOr (ma mb : ME) : ME := fun δ => M.bind (ma δ) fun x S => match truD S x with
  | some true => .ok x S
  | some false => mb δ S
  | none => .bad
theorem se_and (ha : SE X Wx a ma) (hb : SE X Wx (.BoolOp .And (b :: rest) pos) mb) : SE X Wx (.BoolOp .And (a :: b :: rest) pos) (eAnd ma mb) :=
  PE.imp (pe_andT ha hb) fun σ H Q ⟨W, S, δ, g, r, p⟩ => ⟨W, S, δ, g, r, (okP.bind (R := Rep X.K) p).imp fun v H1 ⟨W1, S1, x, l1, g1, r1, p1⟩ => by
    cases e : truD S1 x with
    | none => rw [e] at p1; exact p1.elim
    | some k =>
      rw [e] at p1
      refine ⟨k, truD_ok e g1 r1, ?_⟩
      cases k with
      | true => rw [if_pos rfl]; exact ⟨W1, S1, δ, g1, r.mono l1, p1⟩
      | false => rw [if_neg Bool.false_ne_true]; exact p1 W1 H1 v W1.le_refl g1 r1⟩
theorem se_or (ha : SE X Wx a ma) (hb : SE X Wx (.BoolOp .Or (b :: rest) pos) mb) : SE X Wx (.BoolOp .Or (a :: b :: rest) pos) (eOr ma mb) :=
  PE.imp (pe_orT ha hb) fun σ H Q ⟨W, S, δ, g, r, p⟩ => ⟨W, S, δ, g, r, (okP.bind (R := Rep X.K) p).imp fun v H1 ⟨W1, S1, x, l1, g1, r1, p1⟩ => by
    cases e : truD S1 x with
    | none => rw [e] at p1; exact p1.elim
    | some k =>
      rw [e] at p1
      refine ⟨k, truD_ok e g1 r1, ?_⟩
      cases k with
      | false => rw [if_neg Bool.false_ne_true]; exact ⟨W1, S1, δ, g1, r.mono l1, p1⟩
      | true => rw [if_pos rfl]; exact p1 W1 H1 v W1.le_refl g1 r1⟩
def eNot (ma : ME) : ME := fun δ => M.bind (tru (ma δ)) fun k => M.pure (.bl (!k))
theorem se_not (ha : SE X Wx a ma) : SE X Wx (.UnaryOp .Not a pos) (eNot ma) :=
  PE.imp (pe_notT ha) fun σ H Q ⟨W, S, δ, g, r, p⟩ => ⟨W, S, δ, g, r, (okP.bind (R := fun _ (b c : Bool) => b = c) p).tru.imp fun v H1 ⟨k, tk, W1, S1, k', l1, g1, ek, p1⟩ => by
    subst ek
    exact ⟨k', tk, okP.pure p1 g1 (.bl _)⟩⟩
variable {ta tb tc : MT}
def tAndM (ta tb : MT) : MT := fun δ => M.bind (ta δ) fun c => cond c (tb δ) (M.pure false)
def tOrM (ta tb : MT) : MT := fun δ => M.bind (ta δ) fun c => cond c (M.pure true) (tb δ)
def tNotM (ta : MT) : MT := fun δ => M.bind (ta δ) fun c => M.pure (!c)
theorem sw_and1 (ha : ST X Wx a ta) : SW X Wx (.BoolOp .And [a] pos) ta := pw_and1 ha
theorem sw_or1 (ha : ST X Wx a ta) : SW X Wx (.BoolOp .Or [a] pos) ta := pw_or1 ha
theorem sw_and (ha : ST X Wx a ta) (hb : SW X Wx (.BoolOp .And (b :: rest) pos) tb) : SW X Wx (.BoolOp .And (a :: b :: rest) pos) (tAndM ta tb) :=
  PW.imp (pw_and ha hb) fun σ H Q ⟨W, S, δ, g, r, p⟩ => ⟨W, S, δ, g, r, (okP.bind (R := fun _ (b c : Bool) => b = c) p).imp fun v H1 ⟨W1, S1, k, l1, g1, ek, p1⟩ => by
    subst ek
    cases k with
    | true => rw [if_pos rfl]; exact ⟨W1, S1, δ, g1, r.mono l1, p1⟩
    | false => rw [if_neg Bool.false_ne_true]; exact okP.pure p1 g1 rfl⟩
theorem sw_or (ha : ST X Wx a ta) (hb : SW X Wx (.BoolOp .Or (b :: rest) pos) tb) : SW X Wx (.BoolOp .Or (a :: b :: rest) pos) (tOrM ta tb) :=
  PW.imp (pw_or ha hb) fun σ H Q ⟨W, S, δ, g, r, p⟩ => ⟨W, S, δ, g, r, (okP.bind (R := fun _ (b c : Bool) => b = c) p).imp fun v H1 ⟨W1, S1, k, l1, g1, ek, p1⟩ => by
    subst ek
    cases k with
    | false => rw [if_neg Bool.false_ne_true]; exact ⟨W1, S1, δ, g1, r.mono l1, p1⟩
    | true => rw [if_pos rfl]; exact okP.pure p1 g1 rfl⟩
theorem st_not (ha : ST X Wx a ta) : ST X Wx (.UnaryOp .Not a pos) (tNotM ta) :=
  PT.imp (pt_not ha) fun σ H Q ⟨W, S, δ, g, r, p⟩ => ⟨W, S, δ, g, r, (okP.bind (R := fun _ (b c : Bool) => b = c) p).imp fun v H1 ⟨W1, S1, k, l1, g1, ek, p1⟩ => by
    subst ek
    exact okP.pure p1 g1 rfl⟩
def eIf (tc : MT) (ma mb : ME) : ME := fun δ => M.bind (tc δ) fun k => cond k (ma δ) (mb δ)
theorem se_if (hc : ST X Wx c tc) (ha : SE X Wx a ma) (hb : SE X Wx b mb) : SE X Wx (.IfExp c a b pos) (eIf tc ma mb) :=
  PE.imp (pe_ifExp hc ha hb) fun σ H Q ⟨W, S, δ, g, r, p⟩ => ⟨W, S, δ, g, r, (okP.bind (R := fun _ (b c : Bool) => b = c) p).imp fun v H1 ⟨W1, S1, k, l1, g1, ek, p1⟩ => by
    subst ek
    cases k with
    | true => rw [if_pos rfl]; exact ⟨W1, S1, δ, g1, r.mono l1, p1⟩
    | false => rw [if_neg Bool.false_ne_true]; exact ⟨W1, S1, δ, g1, r.mono l1, p1⟩⟩
def eUn (f : D → PO) (ma : ME) : ME := fun δ => M.bind (ma δ) fun x => lft (f x)
theorem se_un {op : UnaryOp} {f : D → PO} (ho : UnR X (unaryOp op) (rD1 X.K f)) (ha : SE X Wx a ma) : SE X Wx (.UnaryOp op a pos) (eUn f ma) :=
  PE.imp (pe_un ho ha) fun σ H Q ⟨W, S, δ, g, r, p⟩ => ⟨W, S, δ, g, r, (okP.bind (R := Rep X.K) p).imp fun v H1 ⟨W1, S1, x, l1, g1, r1, p1⟩ => ⟨W1, S1, x, g1, r1, p1.lft⟩⟩

variable {es : List Expr} {mas : MA}
def aNil : MA := fun _ => M.pure []
def aCons (ma : ME) (mas : MA) : MA := fun δ => M.bind (ma δ) fun x => M.bind (mas δ) fun xs => M.pure (x :: xs)
def aStar (ma : ME) (mas : MA) : MA := fun δ => M.bind (ma δ) fun x S => match seqOf S x with
  | some xs => M.bind (mas δ) (fun ys => M.pure (xs ++ ys)) S
  | none => .bad
theorem sa_nil : SA X Wx [] aNil := PA.imp pa_nil fun σ H Q ⟨W, S, δ, g, r, p⟩ => okP.pure p g .nil
theorem sa_cons (ha : SE X Wx e ma) (hr : SA X Wx es mas) (hs : starEach (e :: es) X.env = (false, eval e X.env) :: starEach es X.env) : SA X Wx (e :: es) (aCons ma mas) :=
  PA.imp (pa_cons ha hr hs) fun σ H Q ⟨W, S, δ, g, r, p⟩ => ⟨W, S, δ, g, r, (okP.bind (R := Rep X.K) p).imp fun v H1 ⟨W1, S1, x, l1, g1, r1, p1⟩ =>
    ⟨W1, S1, δ, g1, r.mono l1, (okP.bind (R := Reps X.K) p1).imp fun vs H2 ⟨W2, S2, xs, l2, g2, r2, p2⟩ => okP.pure p2 g2 (.cons (r1.mono l2) r2)⟩⟩
theorem sa_star {q : Pos} (ha : SE X Wx e ma) (hr : SA X Wx es mas) : SA X Wx (.Starred e q :: es) (aStar ma mas) :=
  PA.imp (StX.pa_star ha hr) fun σ H Q ⟨W, S, δ, g, r, p⟩ => ⟨W, S, δ, g, r, (okP.bind (R := Rep X.K) p).imp fun v H1 ⟨W1, S1, x, l1, g1, r1, p1⟩ => by
    cases e : seqOf S1 x with
    | none => rw [e] at p1; exact p1.elim
    | some xs =>
      rw [e] at p1
      obtain ⟨a, vs, rfl, h2, h3⟩ := seqOf_ok e g1 r1
      exact ⟨a, vs, rfl, h2.symm, W1, S1, δ, g1, r.mono l1, (okP.bind (R := Reps X.K) p1).imp fun us H2 ⟨W2, S2, ys, l2, g2, r2, p2⟩ => okP.pure p2 g2 ((h3.mono l2).append r2)⟩⟩
/-- a new frozen list, tuple; a new list cell -/
def newT (xs : List D) : PO := fun S => if xs.length ≤ sizeLine then some (.tup xs, S) else none
def newL (xs : List D) : PO := fun S => if xs.length ≤ sizeLine then some (.lst xs, S) else none
def newC (xs : List D) : PO := fun S => if xs.length ≤ sizeLine then some (.ref S.length, S ++ [some (.lst xs)]) else none
theorem newT_ok {K : PySem.W.Frag} {W : Wd} {S : Store} {H : Hp} {xs : List D} {vs : List V} {Q : VK} (p : oV K W (newT xs S) Q) (g : Good K W S H) (r : Reps K W xs vs) : vs.length ≤ sizeLine ∧ ∀ a, H a = none → Q (.ref a) (upd H a (.tup vs)) := by
  unfold newT at p
  split at p
  · rename_i hl
    exact ⟨by rw [← r.length]; exact hl, fun a n => p.new g n (.tup (SqT.of upd_same) (r.mono (g.add_le n).toLf))⟩
  · exact p.elim
theorem newL_ok {K : PySem.W.Frag} {W : Wd} {S : Store} {H : Hp} {xs : List D} {vs : List V} {Q : VK} (p : oV K W (newL xs S) Q) (g : Good K W S H) (r : Reps K W xs vs) : vs.length ≤ sizeLine ∧ ∀ a, H a = none → Q (.ref a) (upd H a (.lst vs)) := by
  unfold newL at p
  split at p
  · rename_i hl
    exact ⟨by rw [← r.length]; exact hl, fun a n => p.new g n (.lst upd_same (r.mono (g.add_le n).toLf))⟩
  · exact p.elim
theorem newC_ok {K : PySem.W.Frag} {W : Wd} {S : Store} {H : Hp} {xs : List D} {vs : List V} {Q : VK} (p : oV K W (newC xs S) Q) (g : Good K W S H) (r : Reps K W xs vs) : vs.length ≤ sizeLine ∧ ∀ a, H a = none → Q (.ref a) (upd H a (.lst vs)) := by
  unfold newC at p
  split at p
  · rename_i hl
    refine ⟨by rw [← r.length]; exact hl, fun a n => p _ _ _ (Wd.addC_le W a) (g.addC n ⟨vs, upd_same, r.mono (Wd.addC_le W a)⟩) (.ref ?_)⟩
    simp [Wd.addC, ← g.len]
  · exact p.elim
def eTup (mas : MA) : ME := fun δ => M.bind (mas δ) fun xs => lft (newT xs)
def eLst (mas : MA) : ME := fun δ => M.bind (mas δ) fun xs => lft (newL xs)
def eLstC (mas : MA) : ME := fun δ => M.bind (mas δ) fun xs => lft (newC xs)
theorem se_tup {k : Nat} (h : SA X Wx es mas) : SE X Wx (.Tuple es k pos) (eTup mas) :=
  PE.imp (pe_tup h) fun σ H Q ⟨W, S, δ, g, r, p⟩ => ⟨W, S, δ, g, r, (okP.bind (R := Reps X.K) p).imp fun vs H1 ⟨W1, S1, xs, l1, g1, r1, p1⟩ => newT_ok p1.lft g1 r1⟩
theorem se_lst (h : SA X Wx es mas) : SE X Wx (.List es pos) (eLst mas) :=
  PE.imp (pe_lst h) fun σ H Q ⟨W, S, δ, g, r, p⟩ => ⟨W, S, δ, g, r, (okP.bind (R := Reps X.K) p).imp fun vs H1 ⟨W1, S1, xs, l1, g1, r1, p1⟩ => newL_ok p1.lft g1 r1⟩
theorem se_lstC (h : SA X Wx es mas) : SE X Wx (.List es pos) (eLstC mas) :=
  PE.imp (pe_lst h) fun σ H Q ⟨W, S, δ, g, r, p⟩ => ⟨W, S, δ, g, r, (okP.bind (R := Reps X.K) p).imp fun vs H1 ⟨W1, S1, xs, l1, g1, r1, p1⟩ => newC_ok p1.lft g1 r1⟩

def eCallV (f : List D → PO) (mas : MA) : ME := fun δ => M.bind (mas δ) fun xs => lft (f xs)
theorem tCB_of {f : List D → PO} (σ : St) (H : Hp) (Q : VK) (h : tD X.K Wx (eCallV f mas) σ H Q) : tCB (rDC X.K f) (tDA X.K Wx mas) σ H Q := by
  obtain ⟨W, S, δ, g, r, p⟩ := h
  exact ⟨W, S, δ, g, r, (okP.bind (R := Reps X.K) p).imp fun vs H1 ⟨W1, S1, xs, l1, g1, r1, p1⟩ => ⟨W1, S1, xs, g1, r1, p1.lft⟩⟩

variable {st : Stmt} {sts : List Stmt} {ms mt : MS}
def sNext : MS := fun δ S => .nx δ S
def sSeq (ms mt : MS) : MS := fun δ S => match ms δ S with
  | .nx δ' S' => mt δ' S'
  | r => r
theorem sb_nil : SB X Wx [] sNext := PSs.imp pss_nil fun D σ H ⟨W, S, δ, g, r, p⟩ => p W H σ W.le_refl g r
theorem flP_seq {K : PySem.W.Frag} {W : Wd} {δ : En} {S : Store} {D : Ends} (p : flP K W (sSeq ms mt δ S) Wx D) : flP K W (ms δ S) Wx { D with nx := tDS K Wx mt D } := by
  unfold sSeq at p
  cases e : ms δ S with
  | nx δ' S' =>
    rw [e] at p
    exact fun W' H' σ' l g' r' => ⟨W', S', δ', g', r', p.mono l⟩
  | rt d S' => rw [e] at p; exact p
  | bk δ' S' => rw [e] at p; exact p
  | ct δ' S' => rw [e] at p; exact p
  | exc x δ' S' => rw [e] at p; exact p
  | bad => rw [e] at p; exact p
theorem sb_cons (h1 : SS X Wx st ms) (h2 : SB X Wx sts mt) : SB X Wx (st :: sts) (sSeq ms mt) :=
  PSs.imp (pss_cons h1 h2) fun D σ H ⟨W, S, δ, g, r, p⟩ => ⟨W, S, δ, g, r, flP_seq p⟩
theorem sb_one (h1 : SS X Wx st ms) : SB X Wx [st] ms := pss_one h1
def ofE {α : Type} (m : M α) (δ : En) (k : α → Store → Fl) (S : Store) : Fl := match m S with
  | .ok a S' => k a S'
  | .exc x S' => .exc x δ S'
  | .bad => .bad
theorem flP_ofE {α β : Type} {K : PySem.W.Frag} {R : Wd → α → β → Prop} {W : Wd} {m : M α} {δ : En} {S : Store} {k : α → Store → Fl} {D : Ends} {σ : St} (r : REnv K W δ σ) (p : flP K W (ofE m δ k S) Wx D) :
    okP K R W (m S) σ Wx (fun v H' => ∃ W' S' a, W.le W' ∧ Good K W' S' H' ∧ R W' a v ∧ flP K W' (k a S') Wx D) := by
  unfold ofE at p
  cases e : m S with
  | ok a S' =>
    rw [e] at p
    exact fun W' H' v l g' r' => ⟨W', S', a, l, g', r', p.mono l⟩
  | exc x S' =>
    rw [e] at p
    exact fun W' H' cls d l g' x' => p W' H' σ cls d l g' (r.mono l) x'
  | bad => rw [e] at p; exact p
def sExpr (m : ME) : MS := fun δ => ofE (m δ) δ fun _ S => .nx δ S
theorem ss_expr (he : SE X Wx e m) (hs : swapsWith e none pos.line X.env = pure false) : SS X Wx (.Expr e pos) (sExpr m) :=
  PS.imp (ps_expr he hs) fun D σ H ⟨W, S, δ, g, r, p⟩ => ⟨W, S, δ, g, r, (flP_ofE (R := Rep X.K) r p).imp fun v H1 ⟨W1, S1, x, l1, g1, r1, p1⟩ => p1 W1 H1 σ W1.le_refl g1 (r.mono l1)⟩
def sRet (m : ME) : MS := fun δ => ofE (m δ) δ fun d S => .rt d S
theorem ss_ret (he : SE X Wx e m) : SS X Wx (.Return (some e) pos) (sRet m) :=
  PS.imp (ps_ret he) fun D σ H ⟨W, S, δ, g, r, p⟩ => ⟨W, S, δ, g, r, (flP_ofE (R := Rep X.K) r p).imp fun v H1 ⟨W1, S1, x, l1, g1, r1, p1⟩ => p1 W1 H1 v W1.le_refl g1 r1⟩
def sRetN : MS := fun _ S => .rt .non S
def sBrk : MS := fun δ S => .bk δ S
def sCnt : MS := fun δ S => .ct δ S
theorem ss_continue : SS X Wx (.Continue pos) sCnt := PS.imp ps_continue fun D σ H ⟨W, S, δ, g, r, p⟩ => p W H σ W.le_refl g r
def sIf (tc : MT) (ms mt : MS) : MS := fun δ => ofE (tc δ) δ fun k S => cond k (ms δ S) (mt δ S)
theorem ss_if {sts' : List Stmt} (hc : ST X Wx c tc) (h1 : SB X Wx sts ms) (h2 : SB X Wx sts' mt) : SS X Wx (.If c sts sts' pos) (sIf tc ms mt) :=
  PS.imp (ps_if hc h1 h2) fun D σ H ⟨W, S, δ, g, r, p⟩ => ⟨W, S, δ, g, r, (flP_ofE (R := fun _ (b c : Bool) => b = c) r p).imp fun v H1 ⟨W1, S1, k, l1, g1, ek, p1⟩ => by
    subst ek
    cases k with
    | true => rw [if_pos rfl]; exact ⟨W1, S1, δ, g1, r.mono l1, p1⟩
    | false => rw [if_neg Bool.false_ne_true]; exact ⟨W1, S1, δ, g1, r.mono l1, p1⟩⟩

abbrev TGM := D → En → Store → Option (En × Store)
abbrev TGMs := List D → En → Store → Option (En × Store)
def oG (K : PySem.W.Frag) (W : Wd) (r : Option (En × Store)) (Q : St → Hp → Prop) : Prop := match r with
  | some (δ, S) => ∀ W' H' σ, W.le W' → Good K W' S H' → REnv K W' δ σ → Q σ H'
  | none => False
theorem oG.mono {K : PySem.W.Frag} {W W1 : Wd} {r : Option (En × Store)} {Q : St → Hp → Prop} (h : W.le W1) (p : oG K W r Q) : oG K W1 r Q := by
  cases r with
  | none => exact p
  | some q => exact fun W' H' σ l => p W' H' σ (h.trans l)
def tDG (K : PySem.W.Frag) (mg : TGM) : TG := fun v σ H Q => ∃ W S δ d, Good K W S H ∧ REnv K W δ σ ∧ Rep K W d v ∧ oG K W (mg d δ S) Q
def tDGs (K : PySem.W.Frag) (mg : TGMs) : TGs := fun vs σ H Q => ∃ W S δ ds, Good K W S H ∧ REnv K W δ σ ∧ Reps K W ds vs ∧ oG K W (mg ds δ S) Q
abbrev SG (X : Cx) (e : Expr) (m : TGM) : Prop := PG X e (tDG X.K m)
abbrev SGs (X : Cx) (e : List Expr) (m : TGMs) : Prop := PGs X e (tDGs X.K m)
theorem PGs.imp {X : Cx} {e : List Expr} {t t' : TGs} (p : PGs X e t) (h : ∀ v σ H Q, t' v σ H Q → t v σ H Q) : PGs X e t' := ⟨fun pins s σ H v u Q I r q => p.run pins s σ H v u Q I r (h v σ H Q q)⟩
def gNm (i : Nat) : TGM := fun d δ S => some (δ.set i (some d), S)
theorem sg_name {i : Nat} {x : Str} (hN : X.N.Nodup) (hi : X.N[i]? = some x) (hx : Loc X.env.scope x) (hf : X.fn x = true ∨ X.env.scope.names.lookup x = some .local) : SG X (.Name x pos) (gNm i) :=
  PG.imp (pg_name hN hi hx hf) fun v σ H Q ⟨W, S, δ, d, g, r, q, p⟩ => p W H _ W.le_refl g (r.set i q)
def gNl : TGMs := fun ds δ S => match ds with
  | [] => some (δ, S)
  | _ => none
def gCs (m : TGM) (ms : TGMs) : TGMs := fun ds δ S => match ds with
  | d :: ds => (m d δ S).bind fun r => ms ds r.1 r.2
  | [] => none
theorem sgs_nil : SGs X [] gNl := PGs.imp pgs_nil fun v σ H Q ⟨W, S, δ, ds, g, r, q, p⟩ => by
  cases q with
  | nil => exact ⟨rfl, p W H σ W.le_refl g r⟩
  | cons _ _ => exact p.elim
theorem sgs_cons {m : TGM} {ms : TGMs} (h1 : SG X e m) (h2 : SGs X es ms) (hs : (assignEach (e :: es) X.env).map (·.2) = assign e X.env :: (assignEach es X.env).map (·.2)) : SGs X (e :: es) (gCs m ms) :=
  PGs.imp (pgs_cons h1 h2 hs) fun v σ H Q ⟨W, S, δ, ds, g, r, q, p⟩ => by
    cases q with
    | nil => exact p.elim
    | @cons d v ds vs q1 q2 =>
      refine ⟨v, vs, rfl, W, S, δ, d, g, r, q1, ?_⟩
      have p' : oG X.K W ((m d δ S).bind fun r => ms ds r.1 r.2) Q := p
      cases e1 : m d δ S with
      | none => rw [e1] at p'; exact p'.elim
      | some z =>
        rw [e1] at p'
        exact fun W1 H1 σ1 l1 g1 r1 => ⟨W1, z.2, z.1, ds, g1, r1, q2.mono l1, p'.mono l1⟩
/-- (a, b, ..) = a tuple -/
def gTp (n : Nat) (ms : TGMs) : TGM := fun d δ S => match d with
  | .tup ds => if ds.length = n then ms ds δ S else none
  | _ => none
theorem sg_tup {k n : Nat} {ms : TGMs} (hc : X.calm = true) (h : SGs X es ms) (hn : (assignEach es X.env).length = n) (hst : (assignEach es X.env).findIdx? (·.1) = none) : SG X (.Tuple es k pos) (gTp n ms) :=
  PG.imp (pg_tup hc h hn hst) fun v σ H Q ⟨W, S, δ, d, g, r, q, p⟩ => by
    cases q with
    | @tup a vs ds q1 q2 =>
      have p' : oG X.K W (if ds.length = n then ms ds δ S else none) Q := p
      split at p'
      · rename_i hl
        exact ⟨a, vs, rfl, g.sqT q1, by rw [← q2.length]; exact hl, W, S, δ, ds, g, r, q2, p'⟩
      · exact p'.elim
    | _ => exact p.elim
def toO {α : Type} (m : M α) (S : Store) : Option (α × Store) := match m S with
  | .ok a S' => some (a, S')
  | _ => none
/-- o[i] = v by values -/
abbrev PSt := D → D → D → Store → Option Store
def tDSet (K : PySem.W.Frag) (f : PSt) : TSet := fun o i v H Q => ∃ W S do_ di dv, Good K W S H ∧ Rep K W do_ o ∧ Rep K W di i ∧ Rep K W dv v ∧ (match f do_ di dv S with
  | some S' => ∀ W' H', W.le W' → Good K W' S' H' → Q H'
  | none => False)
def gSb (f : PSt) (mo mi : ME) : TGM := fun d δ S => (toO (mo δ) S).bind fun o => (toO (mi δ) o.2).bind fun i => (f o.1 i.1 d i.2).map fun S' => (δ, S')
theorem toO_ok {α β γ : Type} {K : PySem.W.Frag} {R : Wd → α → β → Prop} {W : Wd} {m : M α} {S : Store} {σ : St} {f : α × Store → Option γ} {P : Option γ → Prop} {Q : β → Hp → Prop} (h0 : P none → False) (p : P ((toO m S).bind f))
    (k : ∀ a S', P (f (a, S')) → ∀ W' H' v, W.le W' → Good K W' S' H' → R W' a v → Q v H') : okP K R W (m S) σ Wx Q := by
  unfold toO at p
  cases e : m S with
  | ok a S' =>
    rw [e] at p
    exact fun W' H' v l g r => k a S' p W' H' v l g r
  | exc x S' => rw [e] at p; exact (h0 p).elim
  | bad => rw [e] at p; exact h0 p
theorem sg_sub {o i : Expr} {mo mi : ME} {f : PSt} (ho : SE X Wx o mo) (hi : SE X Wx i mi) (hs : PSet X (tDSet X.K f))
    (ha : ∀ v, assign (.Subscript o i pos) X.env v = (do
      let ov ← holding [v] (eval o X.env)
      let iv ← holding [v, ov] (eval i X.env)
      standAt pos
      holding [v, ov, iv] (setItem ov iv v)
      release [v, ov, iv] [])) : SG X (.Subscript o i pos) (gSb f mo mi) :=
  PG.imp (pg_sub ho hi hs ha) fun v σ H Q ⟨W, S, δ, d, g, r, q, p⟩ => by
    refine ⟨W, S, δ, g, r, toO_ok (P := fun r => oG X.K W r Q) (fun z => z) p fun o1 S1 p1 W1 H1 v1 l1 g1 r1 => ?_⟩
    refine ⟨W1, S1, δ, g1, r.mono l1, toO_ok (P := fun r => oG X.K W r Q) (fun z => z) p1 fun i1 S2 p2 W2 H2 v2 l2 g2 r2 => ?_⟩
    refine ⟨W2, S2, o1, i1, d, g2, r1.mono l2, r2, q.mono (l1.trans l2), ?_⟩
    have p3 : oG X.K W ((f o1 i1 d S2).map fun S' => (δ, S')) Q := p2
    cases e1 : f o1 i1 d S2 with
    | none => rw [e1] at p3; exact p3.elim
    | some S' =>
      rw [e1] at p3
      exact fun W3 H3 l3 g3 => p3 W3 H3 σ ((l1.trans l2).trans l3) g3 (r.mono ((l1.trans l2).trans l3))
def sAsg (m : ME) (mg : TGM) : MS := fun δ => ofE (m δ) δ fun d S => match mg d δ S with
  | some (δ', S') => .nx δ' S'
  | none => .bad
theorem flP_oG {K : PySem.W.Frag} {W : Wd} {r : Option (En × Store)} {D : Ends} (p : flP K W (match r with
  | some (δ', S') => .nx δ' S'
  | none => .bad) Wx D) : oG K W r D.nx := by
  cases r with
  | none => exact p
  | some q => exact p
theorem tAsg_of {mg : TGM} (D : Ends) (σ : St) (H : Hp) (h : tDS X.K Wx (sAsg m mg) D σ H) : tAsg (tD X.K Wx m) (tDG X.K mg) D σ H := by
  obtain ⟨W, S, δ, g, r, p⟩ := h
  exact ⟨W, S, δ, g, r, (flP_ofE (R := Rep X.K) r p).imp fun v H1 ⟨W1, S1, d, l1, g1, r1, p1⟩ => ⟨W1, S1, δ, d, g1, r.mono l1, r1, flP_oG p1⟩⟩
theorem ss_asg {tg : Expr} {mg : TGM} (he : SE X Wx e m) (hg : SG X tg mg) (hs : swapsWithSole [tg] e pos.line X.env = pure false) (hw : swappedStores [tg] e X.env = pure none) (h1 : (assignEach [tg] X.env).map (·.2) = [assign tg X.env]) : SS X Wx (.Assign [tg] e pos) (sAsg m mg) :=
  PS.imp (ps_asg he hg hs hw h1) tAsg_of
theorem ss_set {i : Nat} {x : Str} {pos' : Pos} (hN : X.N.Nodup) (hi : X.N[i]? = some x) (hx : Loc X.env.scope x) (he : SE X Wx e m) (hs : swapsWith e (some (.Name x pos')) pos.line X.env = pure false) (hf : X.fn x = true ∨ X.env.scope.names.lookup x = some .local) : SS X Wx (.Assign [.Name x pos'] e pos) (sAsg m (gNm i)) :=
  PS.imp (ps_set hN hi hx he hs hf) fun D σ H ⟨W, S, δ, g, r, p⟩ => ⟨W, S, δ, g, r, (flP_ofE (R := Rep X.K) r p).imp fun v H1 ⟨W1, S1, d, l1, g1, r1, p1⟩ => p1 W1 H1 _ W1.le_refl g1 ((r.mono l1).set i r1)⟩
/-- a, b = x, y of names stored the other way round -/
def sPar2 (i j : Nat) (mas : MA) : MS := fun δ => ofE (mas δ) δ fun ds S => match ds with
  | [x, y] => .nx ((δ.set i (some x)).set j (some y)) S
  | _ => .bad
theorem ss_par2 {i j : Nat} {x y : Str} {px py pt : Pos} {kt k2 : Nat} {pt2 : Pos} (hc : X.calm = true) (hN : X.N.Nodup) (hi : X.N[i]? = some x) (hj : X.N[j]? = some y) (hij : i ≠ j)
    (hx : X.env.scope.names.lookup x = some .local) (hy : X.env.scope.names.lookup y = some .local) (ha : SA X Wx [a, b] mas)
    (hw : swappedStores [.Tuple [.Name x px, .Name y py] kt pt] (.Tuple [a, b] k2 pt2) X.env = pure (some [x, y])) :
    SS X Wx (.Assign [.Tuple [.Name x px, .Name y py] kt pt] (.Tuple [a, b] k2 pt2) pos) (sPar2 i j mas) :=
  PS.imp (ps_par hc hN hi hj hij hx hy ha hw) fun D σ H ⟨W, S, δ, g, r, p⟩ => ⟨W, S, δ, g, r, (flP_ofE (R := Reps X.K) r p).imp fun vs H1 ⟨W1, S1, ds, l1, g1, r1, p1⟩ => by
    cases r1 with
    | nil => exact p1.elim
    | cons q1 r1 =>
      cases r1 with
      | nil => exact p1.elim
      | cons q2 r1 =>
        cases r1 with
        | nil => exact ⟨_, _, rfl, p1 W1 H1 _ W1.le_refl g1 (((r.mono l1).set i q1).set j q2)⟩
        | cons _ _ => exact p1.elim⟩
end
end Ev
namespace Ev
open PySem L2
/-- J walks the items ds, while what W has frozen stands -/
def WalkD (K : PySem.W.Frag) (W : Wd) (ds : List D) (J : It) : Prop :=
  Walk J ds.length (fun H => ∀ a o, W.F a = some o → H a = some o) (fun i H x H' => ∀ d, ds[i]? = some d → ∀ W2 S2, W.lf W2 → Good K W2 S2 H → ∃ W3, W2.le W3 ∧ Good K W3 S2 H' ∧ Rep K W3 d x)
def tDI (K : PySem.W.Frag) (Wx : WX) (mi : MA) : TI := fun σ H R => ∃ W S δ, Good K W S H ∧ REnv K W δ σ ∧ okP K (WalkD K) W (mi δ S) σ Wx R
abbrev SI (X : Cx) (Wx : WX) (tg e : Expr) (m : MA) : Prop := PI X tg e (tDI X.K Wx m)
theorem PI.imp {X : Cx} {tg e : Expr} {t t' : TI} (p : PI X tg e t) (h : ∀ σ H R, t' σ H R → t σ H R) : PI X tg e t' := ⟨fun pins s σ H R I q => p.run pins s σ H R I (h σ H R q)⟩
section
variable {X : Cx} {Wx : WX} {a b c e tg : Expr} {ma mb mc m : ME} {pos : Pos} {K : PySem.W.Frag} {W : Wd}
/-- one value after another, the heap as it is -/
theorem walkD_at {J : It} {ds : List D} {vs : List V} (r : Reps K W ds vs) (w : Walk J ds.length (fun H => ∀ a o, W.F a = some o → H a = some o) (YAt vs)) : WalkD K W ds J :=
  w.mono (fun _ h => h) fun i H x H' hi hG y d hd W2 S2 l g => by
    obtain ⟨rfl, hx⟩ := y
    obtain ⟨v, e1, e2⟩ := r.get hd
    rw [hx] at e1; cases e1
    exact ⟨W2, W2.le_refl, g, e2.mono l⟩
def signs (z : Str) : List D := z.cps.toList.map fun c => .str ⟨#[c]⟩
/-- a for over one of the three, by what the value is -/
theorem PI.or {t t' : TI} (h1 : PI X tg e t) (h2 : PI X tg e t') : PI X tg e (fun σ H R => t σ H R ∨ t' σ H R) := ⟨fun pins s σ H R I q => by
  rcases q with q | q
  · exact h1.run pins s σ H R I q
  · exact h2.run pins s σ H R I q⟩
def rngD (lo : Int) (n : Nat) : List D := (List.range n).map fun (i : Nat) => .int (lo + i)
theorem walkD_range (lo : Int) (n : Nat) : WalkD K W (rngD lo n) (Itr lo n) := by
  have w := walk_range (lo := lo) (n := n)
  have e : (rngD lo n).length = n := by simp [rngD]
  unfold WalkD
  rw [e]
  refine w.mono (fun _ _ => trivial) fun i H x H' hi hG y d hd W2 S2 l g => ?_
  obtain ⟨rfl, rfl⟩ := y
  refine ⟨W2, W2.le_refl, g, ?_⟩
  simp [rngD, hi] at hd
  subst hd
  exact .int _
theorem si_range1 {mas : MA} {p : Pos} (hg : Gl X "range") (hm : X.mg "range" = none) (ha : SA X Wx [a] mas) (hs : starEach [a] X.env = [(false, eval a X.env)]) : SI X Wx tg (.Call (.Name "range" p) [a] [] pos) (fun δ => M.bind (mas δ) fun ds => match ds with
    | [.int j] => if -(2 ^ 62) ≤ j ∧ j < 2 ^ 62 then M.pure (rngD 0 j.toNat) else M.bad
    | _ => M.bad) :=
  PI.imp (pi_range1 hg hm ha hs) fun σ H R ⟨W, S, δ, g, r, p⟩ => ⟨W, S, δ, g, r, (okP.bind (R := Reps X.K) p).imp fun v H1 ⟨W1, S1, ds, l1, g1, r1, p1⟩ => by
    cases r1 with
    | nil => exact p1.elim
    | cons q r1 =>
      cases r1 with
      | cons _ _ => cases q <;> exact p1.elim
      | nil =>
        cases q with
        | int j =>
          dsimp only at p1
          split at p1
          · rename_i h
            exact ⟨j, rfl, h.1, h.2, okP.pure p1 g1 (walkD_range 0 _)⟩
          · exact p1.elim
        | _ => exact p1.elim⟩
def loopF (mg : TGM) (mb : MS) : List D → MS
  | [] => fun δ S => .nx δ S
  | d :: ds => fun δ S => match mg d δ S with
    | none => .bad
    | some (δ', S') => match mb δ' S' with
      | .nx δ2 S2 => loopF mg mb ds δ2 S2
      | .ct δ2 S2 => loopF mg mb ds δ2 S2
      | .bk δ2 S2 => .nx δ2 S2
      | r => r
def sFor (mi : MA) (mg : TGM) (mb : MS) : MS := fun δ => ofE (mi δ) δ fun ds S => loopF mg mb ds δ S
theorem ss_for {iter : Expr} {body : List Stmt} {mi : MA} {mg : TGM} {mb : MS} (hp : PassesOwn (model X.prog X.w) X.A X.env X.xe) (hc : X.calm = true) (hi : SI X Wx tg iter mi) (hg : SG X tg mg) (hb : SB X Wx body mb)
    (hs : ∀ x, foldedSetIterable iter X.env x = pure x) : SS X Wx (.For tg iter body [] pos) (sFor mi mg mb) :=
  PS.imp (ps_for hp hc hi hg hb hs) fun E σ H ⟨W, S, δ, g, r, p⟩ => ⟨W, S, δ, g, r, (flP_ofE (R := WalkD X.K) r p).imp fun J H1 ⟨W1, S1, ds, l1, g1, w1, p1⟩ => by
    refine for_it (w1 : Walk J ds.length _ _) (fun i σ2 H2 => ∃ W2 S2 δ2, W1.le W2 ∧ Good X.K W2 S2 H2 ∧ REnv X.K W2 δ2 σ2 ∧ flP X.K W2 (loopF mg mb (ds.drop i) δ2 S2) Wx E) ⟨W1, S1, δ, W1.le_refl, g1, r.mono l1, p1⟩ ?_ ?_ ?_
    · rintro i σ2 H2 _ ⟨W2, S2, δ2, l2, g2, _, _⟩ a o ha
      exact g2.sub a o (l2.f a o ha)
    · rintro i x σ2 H2 H3 hi ⟨W2, S2, δ2, l2, g2, r2, p2⟩ y
      have hd : ds[i]? = some ds[i] := by simp [hi]
      obtain ⟨W3, l3, g3, q3⟩ := y ds[i] hd W2 S2 l2 g2
      rw [List.drop_eq_getElem_cons hi] at p2
      refine ⟨W3, S2, δ2, ds[i], g3, r2.mono l3, q3, ?_⟩
      simp only [loopF] at p2
      cases e1 : mg ds[i] δ2 S2 with
      | none => rw [e1] at p2; exact p2.elim
      | some z =>
        obtain ⟨δ4, S4⟩ := z
        rw [e1] at p2
        intro W4 H4 σ4 l4 g4 r4
        refine ⟨W4, S4, δ4, g4, r4, ?_⟩
        have l24 := l3.trans l4
        dsimp only at p2
        cases e2 : mb δ4 S4 with
        | nx δ5 S5 =>
          rw [e2] at p2
          exact fun W5 H5 σ5 l5 g5 r5 => ⟨W5, S5, δ5, (l2.trans l24).trans l5, g5, r5, p2.mono (l24.trans l5)⟩
        | ct δ5 S5 =>
          rw [e2] at p2
          exact fun W5 H5 σ5 l5 g5 r5 => ⟨W5, S5, δ5, (l2.trans l24).trans l5, g5, r5, p2.mono (l24.trans l5)⟩
        | bk δ5 S5 =>
          rw [e2] at p2
          exact fun W5 H5 σ5 l5 g5 r5 => p2 W5 H5 σ5 (l24.trans l5) g5 r5
        | rt d5 S5 =>
          rw [e2] at p2
          exact fun W5 H5 σ5 l5 g5 r5 => p2 W5 H5 σ5 (l24.trans l5) g5 r5
        | exc x5 δ5 S5 =>
          rw [e2] at p2
          exact fun W5 H5 σ5 cls dd l5 g5 r5 x6 => p2 W5 H5 σ5 cls dd (l24.trans l5) g5 r5 x6
        | bad => rw [e2] at p2; exact p2
    · rintro σ2 H2 ⟨W2, S2, δ2, l2, g2, r2, p2⟩
      rw [List.drop_length] at p2
      exact p2 W2 H2 σ2 W2.le_refl g2 r2⟩

end
end Ev
namespace Ev
open PySem L2
def noX {α : Type} (m : M α) : M α := fun S => match m S with
  | .ok a S' => .ok a S'
  | _ => .bad
theorem okP.bindN {α β γ ε : Type} {K : PySem.W.Frag} {R : Wd → α → β → Prop} {R' : Wd → γ → ε → Prop} {W : Wd} {m : M α} {f : α → M γ} {S : Store} {σ : St} {Wx : WX} {Q : ε → Hp → Prop}
    (h : okP K R' W (M.bind (noX m) f S) σ Wx Q) (W0 : Wd) (σ' : St) (Wx' : WX) : okP K R W0 (m S) σ' Wx' (fun v H' => ∃ W' S' a, W0.le W' ∧ Good K W' S' H' ∧ R W' a v ∧ okP K R' W (f a S') σ Wx Q) := by
  unfold M.bind noX at h
  cases e : m S with
  | ok a S' =>
    rw [e] at h
    exact fun W' H' v l g r => ⟨W', S', a, l, g, r, h⟩
  | exc x S' =>
    rw [e] at h
    exact h.elim
  | bad =>
    rw [e] at h
    exact h
abbrev UpD := D → Option (List (Nat × D))
def setsV : St → List (Nat × V) → St
  | σ, [] => σ
  | σ, (i, v) :: r => setsV (σ.set i (some v)) r
def setsD : En → List (Nat × D) → En
  | δ, [] => δ
  | δ, (i, v) :: r => setsD (δ.set i (some v)) r
theorem REnv.sets {K : PySem.W.Frag} {W : Wd} : ∀ {us : List (Nat × D)} {us' : List (Nat × V)} {δ : En} {σ : St}, REnv K W δ σ → us'.map (·.1) = us.map (·.1) → Reps K W (us.map (·.2)) (us'.map (·.2)) → REnv K W (setsD δ us) (setsV σ us')
  | [], [], _, _, r, _, _ => r
  | [], _ :: _, _, _, _, e, _ => by cases e
  | _ :: _, [], _, _, _, e, _ => by cases e
  | (i, d) :: us, (j, v) :: us', δ, σ, r, e, q => by
    simp only [List.map_cons, List.cons.injEq] at e
    obtain ⟨rfl, e⟩ := e
    cases q with
    | cons q1 q2 => exact REnv.sets (us := us) (us' := us') (δ := δ.set j (some d)) (σ := σ.set j (some v)) (r.set j q1) e q2
theorem wipe_get (σ : St) (j : Nat) : ∀ vs : List Nat, (wipe σ vs)[j]? = if j ∈ vs then (if j < σ.length then some none else none) else σ[j]?
  | [] => by simp [wipe]
  | v :: vs => by
    unfold wipe
    rw [List.getElem?_set, wipe_get σ j vs, wipe_length]
    by_cases h1 : v = j
    · subst h1; simp
    · rw [if_neg h1]
      have : (j ∈ v :: vs) ↔ j ∈ vs := by simp [Ne.symm h1]
      simp only [this]
theorem wipe_set {σ : St} {i : Nat} {x : Option V} {vs : List Nat} (h : i ∈ vs) : wipe (σ.set i x) vs = wipe σ vs := by
  apply List.ext_getElem?
  intro j
  rw [wipe_get, wipe_get]
  by_cases hj : j ∈ vs
  · rw [if_pos hj, if_pos hj, List.length_set]
  · rw [if_neg hj, if_neg hj, List.getElem?_set_ne]
    rintro rfl
    exact hj h
theorem wipe_sets : ∀ {us : List (Nat × V)} {σ : St} {vs : List Nat}, (∀ p ∈ us, p.1 ∈ vs) → wipe (setsV σ us) vs = wipe σ vs
  | [], _, _, _ => rfl
  | (i, v) :: r, σ, vs, h => by
    show wipe (setsV (σ.set i (some v)) r) vs = _
    rw [wipe_sets fun p hp => h p (List.mem_cons_of_mem _ hp)]
    exact wipe_set (h (i, v) List.mem_cons_self)
theorem wipe_wipe (σ : St) (vs : List Nat) : wipe (wipe σ vs) vs = wipe σ vs := by
  apply List.ext_getElem?
  intro j
  rw [wipe_get, wipe_get, wipe_length]
  by_cases hj : j ∈ vs
  · rw [if_pos hj, if_pos hj]
  · rw [if_neg hj, if_neg hj]
def wipeD (δ : En) : List Nat → En
  | [] => δ
  | v :: vs => (wipeD δ vs).set v none
theorem REnv.wipe {K : PySem.W.Frag} {W : Wd} {δ : En} {σ : St} (r : REnv K W δ σ) : ∀ vs : List Nat, REnv K W (wipeD δ vs) (L2.wipe σ vs)
  | [] => r
  | v :: vs => by
    have ih := REnv.wipe r vs
    refine ⟨by simp [wipeD, L2.wipe, ih.1], fun i d e => ?_⟩
    simp only [wipeD, L2.wipe] at e ⊢
    by_cases h : v = i
    · subst h
      by_cases hv : v < (wipeD δ vs).length
      · rw [List.getElem?_set_self hv] at e; cases e
      · rw [List.getElem?_eq_none (by simpa using hv)] at e; cases e
    · rw [List.getElem?_set_ne h] at e ⊢
      exact ih.2 i d e
def tDU (K : PySem.W.Frag) (up : UpD) : TG := fun v σ H Q => ∃ W S d, Good K W S H ∧ Rep K W d v ∧ (match up d with
  | some us => ∀ us' : List (Nat × V), us'.map (·.1) = us.map (·.1) → Reps K W (us.map (·.2)) (us'.map (·.2)) → Q (setsV σ us') H
  | none => False)
section
variable {X : Cx} {Wx : WX} {a b c e tg : Expr} {es : List Expr} {ma mb mc m : ME} {pos : Pos}
def uNm (i : Nat) : UpD := fun d => some [(i, d)]
theorem su_name {i : Nat} {x : Str} (hN : X.N.Nodup) (hi : X.N[i]? = some x) (hx : Loc X.env.scope x) (hf : X.fn x = true ∨ X.env.scope.names.lookup x = some .local) : PG X (.Name x pos) (tDU X.K (uNm i)) :=
  PG.imp (pg_name hN hi hx hf) fun v σ H Q ⟨W, S, d, g, r, p⟩ => p [(i, v)] rfl (.cons r .nil)
def loopC (up : UpD) (mt : MT) (me : ME) (δ0 : En) : List D → List D → M (List D)
  | [], acc => M.pure acc
  | d :: ds, acc => match up d with
    | none => M.bad
    | some us => M.bind (noX (mt (setsD δ0 us))) fun k => match k with
      | false => loopC up mt me δ0 ds acc
      | true => M.bind (noX (me (setsD δ0 us))) fun y => if acc.length < sizeLine then loopC up mt me δ0 ds (acc ++ [y]) else M.bad
def eLc (fin : List D → PO) (mi : MA) (up : UpD) (mt : MT) (me : ME) (vs : List Nat) : ME := fun δ => M.bind (mi δ) fun ds => M.bind (loopC up mt me (wipeD δ vs) ds []) fun ys => lft (fin ys)
/-- how the new list at p ends: frozen, or a cell -/
def FinOk (K : PySem.W.Frag) (fin : List D → PO) : Prop := ∀ (W : Wd) (S : Store) (H : Hp) (p : Addr) (P : Hp) (acc : List D) (vacc : List V) (Q : VK), Good K W S H → W.P = upd P p (.lst vacc) → P p = none → Reps K W acc vacc → oV K ⟨W.F, W.m, P, W.sf⟩ (fin acc S) Q → Q (.ref p) H
theorem fin_newL {K : PySem.W.Frag} : FinOk K newL := fun W S H p P acc vacc Q g e n r o => by
  unfold newL at o
  split at o
  · refine o _ _ _ ⟨⟨(g.unPrv_lf e).f, rfl, [], by simp⟩, rfl⟩ (g.unPrv e n) (.lst upd_same (r.mono (g.unPrv_lf e)))
  · exact o.elim
theorem Good.prvToC {K : PySem.W.Frag} {W : Wd} {S : Store} {H : Hp} (g : Good K W S H) {p : Addr} {P : Hp} {acc : List D} {vacc : List V} (e : W.P = upd P p (.lst vacc)) (n : P p = none) (r : Reps K W acc vacc) :
    Good K ⟨W.F, W.m ++ [p], P, W.sf⟩ (S ++ [some (.lst acc)]) H := by
  have hp := g.prv p _ (by rw [e, upd_same])
  have lf : W.lf ⟨W.F, W.m ++ [p], P, W.sf⟩ := ⟨fun _ _ h => h, rfl, [p], rfl⟩
  have ne : ∀ (i : Nat) c a, S[i]? = some (some c) → W.m[i]? = some a → a ≠ p := fun i c a h1 h2 z => by
    subst z
    obtain ⟨a', e1, _, e3, _⟩ := g.cell i c h1
    rw [h2] at e1; cases e1
    rw [e, upd_same] at e3; cases e3
  refine ⟨g.sub, by simp [g.len], fun i c h => ?_, fun i j a c1 c2 h1 h2 h3 h4 => ?_, fun a u h => ?_, fun a xs h => g.ptup a xs (by
    have h' : P a = some (.tup xs) := h
    have na : a ≠ p := fun z => by subst z; rw [h'] at n; cases n
    rw [e, upd_ne na]; exact h')⟩
  · by_cases hi : i < S.length
    · rw [List.getElem?_append_left hi] at h
      obtain ⟨a, e1, e2, e3, e4⟩ := g.cell i c h
      have na := ne i c a h e1
      rw [e, upd_ne na] at e3
      exact ⟨a, lf.get e1, e2, e3, e4.mono lf⟩
    · have hi' : i = S.length := by
        have := (List.getElem?_eq_some_iff.mp h).1
        simp at this; omega
      subst hi'
      simp at h
      subst h
      exact ⟨p, by simp [← g.len], hp.2, n, vacc, hp.1, r.mono lf⟩
  · have old : ∀ {i : Nat} {a : Addr} {c' : Cell}, i < S.length → (S ++ [some (Cell.lst acc)])[i]? = some (some c') → (W.m ++ [p])[i]? = some a → W.m[i]? = some a ∧ S[i]? = some (some c') ∧ a ≠ p := fun {i a c'} hi e h => by
      rw [List.getElem?_append_left hi] at e
      rw [List.getElem?_append_left (by rw [g.len]; exact hi)] at h
      exact ⟨h, e, ne i _ a e h⟩
    have last : ∀ {i : Nat} {a : Addr} {c' : Cell}, ¬ i < S.length → (S ++ [some (Cell.lst acc)])[i]? = some (some c') → (W.m ++ [p])[i]? = some a → i = S.length ∧ a = p := fun {i a c'} hi e h => by
      have hi' : i = S.length := by
        have := (List.getElem?_eq_some_iff.mp e).1
        simp at this; omega
      subst hi'
      refine ⟨rfl, ?_⟩
      simp [← g.len] at h
      exact h.symm
    by_cases hi : i < S.length
    · obtain ⟨a1, a2, a3⟩ := old hi h1 h3
      by_cases hj : j < S.length
      · obtain ⟨b1, b2, b3⟩ := old hj h2 h4
        exact g.inj i j a _ _ a2 b2 a1 b1
      · exact absurd (last hj h2 h4).2 a3
    · obtain ⟨a1, a2⟩ := last hi h1 h3
      by_cases hj : j < S.length
      · exact absurd a2 (old hj h2 h4).2.2
      · rw [a1, (last hj h2 h4).1]
  · have na : a ≠ p := fun z => by subst z; have h' : P a = some u := h; rw [h'] at n; cases n
    exact g.prv a u (by rw [e, upd_ne na]; exact h)
theorem fin_newC {K : PySem.W.Frag} : FinOk K newC := fun W S H p P acc vacc Q g e n r o => by
  unfold newC at o
  split at o
  · exact o ⟨W.F, W.m ++ [p], P, W.sf⟩ H (.ref p) ⟨⟨fun _ _ h => h, rfl, [p], rfl⟩, rfl⟩ (g.prvToC e n r) (.ref (by simp [← g.len]))
  · exact o.elim
theorem tLc_of {mi : MA} {up : UpD} {mt : MT} {me : ME} {vs : List Nat} {fin : List D → PO} (hf : FinOk X.K fin) (hu : ∀ d us, up d = some us → ∀ p ∈ us, p.1 ∈ vs) (σ : St) (H : Hp) (Q : VK) (h : tD X.K Wx (eLc fin mi up mt me vs) σ H Q) :
    tLc (tDI X.K Wx mi) (tDU X.K up) (tDT X.K (fun _ _ _ _ => False) mt) (tD X.K (fun _ _ _ _ => False) me) vs σ H Q := by
  obtain ⟨W, S, δ, g, r, p⟩ := h
  refine ⟨W, S, δ, g, r, (okP.bind (R := WalkD X.K) p).imp fun J H1 ⟨W1, S1, ds, l1, g1, w1, p1⟩ => fun Dd nD => ?_⟩
  have pD : W1.P Dd = none := g1.freeP nD
  refine lc_it (w1 : Walk J ds.length _ _) (fun i H2 => ∃ W2 S2 acc vacc, W1.lf W2 ∧ W2.P = upd W1.P Dd (.lst vacc) ∧ Good X.K W2 S2 H2 ∧ Reps X.K W2 acc vacc ∧
    okP X.K (Rep X.K) ⟨W2.F, W2.m, W1.P, W2.sf⟩ (M.bind (loopC up mt me (wipeD δ vs) (ds.drop i) acc) (fun ys => lft (fin ys)) S2) σ Wx Q) ?_ ?_ ?_ ?_
  · exact ⟨W1.prv Dd (.lst []), S1, [], [], W1.prv_lf _ _, rfl, g1.newPrv nD, .nil, p1⟩
  · rintro i H2 _ ⟨W2, S2, acc, vacc, l2, _, g2, _⟩ a o ha
    exact g2.sub a o (l2.f a o ha)
  · rintro i x H2 H3 hi ⟨W2, S2, acc, vacc, l2, e2, g2, ra, p2⟩ y
    have hd : ds[i]? = some ds[i] := by simp [hi]
    obtain ⟨W3, l3, g3, q3⟩ := y ds[i] hd W2 S2 l2 g2
    rw [List.drop_eq_getElem_cons hi] at p2
    refine ⟨W3, S2, ds[i], g3, q3, ?_⟩
    simp only [loopC] at p2
    cases e1 : up ds[i] with
    | none => rw [e1] at p2; exact p2.elim
    | some us =>
      rw [e1] at p2
      intro us' k1 r1
      have hus : ∀ p ∈ us', p.1 ∈ vs := fun p hp => by
        have : p.1 ∈ us'.map (·.1) := List.mem_map_of_mem hp
        rw [k1] at this
        obtain ⟨q, hq, eq⟩ := List.mem_map.mp this
        rw [← eq]
        exact hu _ _ e1 q hq
      refine ⟨by rw [wipe_sets hus, wipe_wipe], ?_⟩
      have rE : REnv X.K W3 (setsD (wipeD δ vs) us) (setsV (wipe σ vs) us') := ((r.mono (l1.toLf.trans (l2.trans l3))).wipe vs).sets k1 r1
      have p3 := okP.assoc p2
      refine ⟨W3, S2, setsD (wipeD δ vs) us, g3, rE, (okP.bindN p3 W3 _ _).imp fun k H4 ⟨W4, S4, k', l4, g4, ek, p4⟩ => ?_⟩
      subst ek
      cases k' with
      | false =>
        rw [if_neg Bool.false_ne_true]
        refine ⟨W4, S4, acc, vacc, l2.trans (l3.trans l4), by rw [l4.pp, l3.pp, e2], g4, ra.mono (l3.trans l4), ?_⟩
        exact okP.mono (W := ⟨W2.F, W2.m, W1.P, W2.sf⟩) ⟨⟨(l3.trans l4).f, (l3.trans l4).sq, (l3.trans l4).mm⟩, rfl⟩ p4
      | true =>
        rw [if_pos rfl]
        have p5 := okP.assoc p4
        refine ⟨W4, S4, setsD (wipeD δ vs) us, g4, rE.mono l4, (okP.bindN p5 W4 _ _).imp fun yv H5 ⟨W5, S5, y5, l5, g5, r5, p6⟩ => ?_⟩
        have eP : W5.P = upd W1.P Dd (.lst vacc) := by rw [l5.pp, l4.pp, l3.pp, e2]
        have hD : W5.P Dd = some (.lst vacc) := by rw [eP, upd_same]
        have l35 := (l3.trans l4).trans l5
        by_cases hz : acc.length < sizeLine
        · rw [if_pos hz] at p6
          refine ⟨vacc, (g5.prv Dd _ hD).1, by rw [← ra.length]; exact hz, W5.prv Dd (.lst (vacc ++ [yv])), S5, acc ++ [y5], vacc ++ [yv], l2.trans (l35.toLf.trans (W5.prv_lf _ _)), by show upd W5.P Dd _ = _; rw [eP, upd_upd], g5.updPrv hD, ?_, ?_⟩
          · exact ((ra.mono l35).append (.cons r5 .nil)).mono (W5.prv_lf _ _)
          · exact okP.mono (W := ⟨W2.F, W2.m, W1.P, W2.sf⟩) ⟨⟨l35.f, l35.sq, l35.mm⟩, rfl⟩ p6
        · rw [if_neg hz] at p6; exact p6.elim
  · rintro H2 ⟨W2, S2, acc, vacc, l2, e2, g2, ra, p2⟩
    rw [List.drop_length] at p2
    exact hf W2 S2 H2 Dd W1.P acc vacc Q g2 e2 pD ra (okP.lft p2)
theorem se_lc {elt tg iter : Expr} {ifs : List Expr} {scope : Scope} {own : List (Str × Nat)} {mi : MA} {up : UpD} {mt : MT} {me : ME} {fin : List D → PO} (hf : FinOk X.K fin) (hu : ∀ d us, up d = some us → ∀ p ∈ us, p.1 ∈ own.map (·.2))
    (hc : X.calm = true) (hN : X.N.Nodup) (hi : SI X Wx tg iter mi) (ok : BlkOk X.N X.env.scope scope own)
    (hg : ∀ (s : Shared) (H : Hp) (C : Addr) (cl : List (Str × Addr)) (fp : List Addr), PG (X.blk s H scope (compEnvC scope cl C X.env) fp) tg (tDU X.K up)) (ht : ∀ (s : Shared) (H : Hp) (C : Addr) (cl : List (Str × Addr)) (fp : List Addr), PTs (X.blk s H scope (compEnvC scope cl C X.env) fp) ifs (tDT X.K (fun _ _ _ _ => False) mt))
    (he : ∀ (s : Shared) (H : Hp) (C : Addr) (cl : List (Str × Addr)) (fp : List Addr), SE (X.blk s H scope (compEnvC scope cl C X.env) fp) (fun _ _ _ _ => False) elt me) (hs : ∀ x, foldedSetIterable iter X.env x = pure x) :
    SE X Wx (.ListComp elt [⟨tg, iter, ifs, 0⟩] scope pos) (eLc fin mi up mt me (own.map (·.2))) :=
  PE.imp (pe_lc hc hN hi ok hg ht he hs) (tLc_of hf hu)
theorem ss_setLc {i : Nat} {y : Str} {py spos : Pos} {elt tg iter : Expr} {ifs : List Expr} {scope : Scope} {own : List (Str × Nat)} {mi : MA} {up : UpD} {mt : MT} {me : ME} {fin : List D → PO} (hf : FinOk X.K fin) (hu : ∀ d us, up d = some us → ∀ p ∈ us, p.1 ∈ own.map (·.2))
    (hc : X.calm = true) (hN : X.N.Nodup) (hy : X.N[i]? = some y) (hyl : X.env.scope.names.lookup y = some .local)
    (hsw : swapsWith (.ListComp elt [⟨tg, iter, ifs, 0⟩] scope pos) (some (.Name y py)) spos.line X.env = pure true) (hi : SI X Wx tg iter mi) (ok : BlkOk X.N X.env.scope scope own)
    (hg : ∀ (s : Shared) (H : Hp) (C : Addr) (cl : List (Str × Addr)) (fp : List Addr), PG (X.blk s H scope (compEnvC scope cl C X.env) fp) tg (tDU X.K up)) (ht : ∀ (s : Shared) (H : Hp) (C : Addr) (cl : List (Str × Addr)) (fp : List Addr), PTs (X.blk s H scope (compEnvC scope cl C X.env) fp) ifs (tDT X.K (fun _ _ _ _ => False) mt))
    (he : ∀ (s : Shared) (H : Hp) (C : Addr) (cl : List (Str × Addr)) (fp : List Addr), SE (X.blk s H scope (compEnvC scope cl C X.env) fp) (fun _ _ _ _ => False) elt me) (hs : ∀ x, foldedSetIterable iter X.env x = pure x) :
    SS X Wx (.Assign [.Name y py] (.ListComp elt [⟨tg, iter, ifs, 0⟩] scope pos) spos) (sAsg (eLc fin mi up mt me (own.map (·.2))) (gNm i)) :=
  PS.imp (ps_setLc hc hN hy hyl hsw hi ok hg ht he hs) fun D σ H ⟨W, S, δ, g, r, p⟩ => tLc_of hf hu σ H _ ⟨W, S, δ, g, r, (flP_ofE (R := Rep X.K) r p).imp fun v H1 ⟨W1, S1, d, l1, g1, r1, p1⟩ => p1 W1 H1 _ W1.le_refl g1 ((r.mono l1).set i r1)⟩
end
end Ev
namespace Ev
open PySem PySem.SeqAt L2 PyProof.Rows
mutual
def toP : D → Option PyData
  | .non => some .none
  | .bl b => some (.bool b)
  | .int i => some (.int i)
  | .str s => some (.str s)
  | .tup xs => (toPs xs).map .tuple
  | .lst xs => (toPs xs).map .list
  | .ins _ _ => none
  | .ref _ => none
  | .fn _ => none
  | .scr _ => none
  | .slf => none
  | .dic _ => none
  | .exn _ _ _ _ => none
  | .lam _ _ _ _ _ => none
def toPs : List D → Option (List PyData)
  | [] => some []
  | x :: xs => (toP x).bind fun a => (toPs xs).map fun b => a :: b
end
mutual
def toPS (S : Store) : D → Option PyData
  | .non => some .none
  | .bl b => some (.bool b)
  | .int i => some (.int i)
  | .str s => some (.str s)
  | .tup xs => (toPSs S xs).map .tuple
  | .lst xs => (toPSs S xs).map .list
  | .ref i => (plstOf S (.ref i)).bind fun ds => (toPs ds).map .list
  | .ins _ _ => none
  | .fn _ => none
  | .scr _ => none
  | .slf => none
  | .dic _ => none
  | .exn _ _ _ _ => none
  | .lam _ _ _ _ _ => none
def toPSs (S : Store) : List D → Option (List PyData)
  | [] => some []
  | x :: xs => (toPS S x).bind fun a => (toPSs S xs).map fun b => a :: b
end
section
variable {X : Cx} {pins : List (Addr × Obj)} {σ : L2.St} {H : Hp} {s : Shared} {W : Wd} {S : Store}
mutual
theorem reads_of' (I : Inv X pins σ H s) (g : Good X.K W S H) : ∀ (d : D) (v : V) (u : Value) (p : PyData), toP d = some p → Rep X.K W d v → RelV v u → p.plain = true ∧ ∃ as, Reads s.heap u p as
  | .non, v, u, p, e, q, r => by cases e; cases q; cases r; exact ⟨rfl, _, .none⟩
  | .bl b, v, u, p, e, q, r => by cases e; cases q; cases r; exact ⟨rfl, _, .bool b⟩
  | .int i, v, u, p, e, q, r => by cases e; cases q; obtain ⟨t, rfl⟩ := r; exact ⟨rfl, _, .int i t⟩
  | .str i, v, u, p, e, q, r => by cases e; cases q; obtain ⟨t, rfl⟩ := r; exact ⟨rfl, _, .str i t⟩
  | .tup ds, v, u, p, e, q, r => by
    simp only [toP] at e
    obtain ⟨ps, e1, rfl⟩ := Option.map_eq_some_iff.mp e
    cases q with
    | tup q r' =>
      cases r
      obtain ⟨its, rv, ⟨o, ho, hc, n, hd⟩, hz⟩ := I.tuple (g.sqT q)
      obtain ⟨pl, as, ra⟩ := readsAll_of' I g ds _ _ _ e1 r' rv
      exact ⟨pl, as, .tuple ho hc hd (by simpa using ra)⟩
  | .lst ds, v, u, p, e, q, r => by
    simp only [toP] at e
    obtain ⟨ps, e1, rfl⟩ := Option.map_eq_some_iff.mp e
    cases q with
    | lst q r' =>
      cases r
      obtain ⟨its, rv, ⟨o, n, ho, hc, _, hd⟩, hz⟩ := I.list (SqL.of (K := X.K) (g.sub _ _ q))
      obtain ⟨pl, as, ra⟩ := readsAll_of' I g ds _ _ _ e1 r' rv
      exact ⟨pl, _, .list ho hc hd (by simpa using ra)⟩
  | .ins _ _, v, u, p, e, q, r => by cases e
  | .ref _, v, u, p, e, q, r => by cases e
  | .fn _, v, u, p, e, q, r => by cases e
  | .scr _, v, u, p, e, q, r => by cases e
  | .slf, v, u, p, e, q, r => by cases e
  | .dic _, v, u, p, e, q, r => by cases e
  | .exn _ _ _ _, v, u, p, e, q, r => by cases e
  | .lam _ _ _ _ _, v, u, p, e, q, r => by cases e
theorem readsAll_of' (I : Inv X pins σ H s) (g : Good X.K W S H) : ∀ (ds : List D) (vs : List V) (us : List Value) (ps : List PyData), toPs ds = some ps → Reps X.K W ds vs → Vals vs us → PyData.plainAll ps = true ∧ ∃ as, ReadsAll s.heap us ps as
  | [], vs, us, ps, e, q, r => by cases e; cases q; cases r; exact ⟨rfl, _, .nil⟩
  | d :: ds, vs, us, ps, e, q, r => by
    simp only [toPs] at e
    obtain ⟨p1, e1, e2⟩ := Option.bind_eq_some_iff.mp e
    obtain ⟨p2, e3, rfl⟩ := Option.map_eq_some_iff.mp e2
    cases q with
    | cons q r' =>
      cases r with
      | cons ra rb =>
        obtain ⟨pl, as, h1⟩ := reads_of' I g d _ _ _ e1 q ra
        obtain ⟨pl2, bs, h2⟩ := readsAll_of' I g ds _ _ _ e3 r' rb
        exact ⟨by simp [PyData.plainAll, pl, pl2], _, .cons h1 h2⟩
end
theorem reads_of (I : Inv X pins σ H s) (g : Good X.K W S H) {d : D} {v : V} {u : Value} {p : PyData} (e : toP d = some p) (q : Rep X.K W d v) (r : RelV v u) : p.plain = true ∧ ∃ as, Reads s.heap u p as := reads_of' I g d v u p e q r
theorem readsAll_of (I : Inv X pins σ H s) (g : Good X.K W S H) {ds : List D} {vs : List V} {us : List Value} {ps : List PyData} (e : toPs ds = some ps) (q : Reps X.K W ds vs) (r : Vals vs us) : PyData.plainAll ps = true ∧ ∃ as, ReadsAll s.heap us ps as := readsAll_of' I g ds vs us ps e q r
mutual
theorem reads_ofS' (I : Inv X pins σ H s) (g : Good X.K W S H) : ∀ (d : D) (v : V) (u : Value) (p : PyData), toPS S d = some p → Rep X.K W d v → RelV v u → p.plain = true ∧ ∃ as, Reads s.heap u p as
  | .non, v, u, p, e, q, r => by simp only [toPS] at e; cases e; cases q; cases r; exact ⟨rfl, _, .none⟩
  | .bl b, v, u, p, e, q, r => by simp only [toPS] at e; cases e; cases q; cases r; exact ⟨rfl, _, .bool b⟩
  | .int i, v, u, p, e, q, r => by simp only [toPS] at e; cases e; cases q; obtain ⟨t, rfl⟩ := r; exact ⟨rfl, _, .int i t⟩
  | .str i, v, u, p, e, q, r => by simp only [toPS] at e; cases e; cases q; obtain ⟨t, rfl⟩ := r; exact ⟨rfl, _, .str i t⟩
  | .tup ds, v, u, p, e, q, r => by
    simp only [toPS] at e
    obtain ⟨ps, e1, rfl⟩ := Option.map_eq_some_iff.mp e
    cases q with
    | tup q r' =>
      cases r
      obtain ⟨its, rv, ⟨o, ho, hc, n, hd⟩, hz⟩ := I.tuple (g.sqT q)
      obtain ⟨pl, as, ra⟩ := readsAll_ofS' I g ds _ _ _ e1 r' rv
      exact ⟨pl, as, .tuple ho hc hd (by simpa using ra)⟩
  | .lst ds, v, u, p, e, q, r => by
    simp only [toPS] at e
    obtain ⟨ps, e1, rfl⟩ := Option.map_eq_some_iff.mp e
    cases q with
    | lst q r' =>
      cases r
      obtain ⟨its, rv, ⟨o, n, ho, hc, _, hd⟩, hz⟩ := I.list (SqL.of (K := X.K) (g.sub _ _ q))
      obtain ⟨pl, as, ra⟩ := readsAll_ofS' I g ds _ _ _ e1 r' rv
      exact ⟨pl, _, .list ho hc hd (by simpa using ra)⟩
  | .ref i, v, u, p, e, q, r => by
    simp only [toPS] at e
    obtain ⟨ds, e1, e2⟩ := Option.bind_eq_some_iff.mp e
    obtain ⟨ps, e3, rfl⟩ := Option.map_eq_some_iff.mp e2
    obtain ⟨a, vs, rfl, h1, h2⟩ := plstOf_ok e1 g q
    cases r
    obtain ⟨its, rv, ⟨o, n, ho, hc, _, hd⟩, hz⟩ := I.list (SqL.of (K := X.K) h1)
    obtain ⟨pl, as, ra⟩ := readsAll_of I g e3 h2 rv
    exact ⟨pl, _, .list ho hc hd (by simpa using ra)⟩
  | .ins _ _, v, u, p, e, q, r => by simp only [toPS] at e; cases e
  | .fn _, v, u, p, e, q, r => by simp only [toPS] at e; cases e
  | .scr _, v, u, p, e, q, r => by simp only [toPS] at e; cases e
  | .slf, v, u, p, e, q, r => by simp only [toPS] at e; cases e
  | .dic _, v, u, p, e, q, r => by simp only [toPS] at e; cases e
  | .exn _ _ _ _, v, u, p, e, q, r => by simp only [toPS] at e; cases e
  | .lam _ _ _ _ _, v, u, p, e, q, r => by simp only [toPS] at e; cases e
theorem readsAll_ofS' (I : Inv X pins σ H s) (g : Good X.K W S H) : ∀ (ds : List D) (vs : List V) (us : List Value) (ps : List PyData), toPSs S ds = some ps → Reps X.K W ds vs → Vals vs us → PyData.plainAll ps = true ∧ ∃ as, ReadsAll s.heap us ps as
  | [], vs, us, ps, e, q, r => by simp only [toPSs] at e; cases e; cases q; cases r; exact ⟨rfl, _, .nil⟩
  | d :: ds, vs, us, ps, e, q, r => by
    simp only [toPSs] at e
    obtain ⟨p1, e1, e2⟩ := Option.bind_eq_some_iff.mp e
    obtain ⟨p2, e3, rfl⟩ := Option.map_eq_some_iff.mp e2
    cases q with
    | cons q r' =>
      cases r with
      | cons ra rb =>
        obtain ⟨pl, as, h1⟩ := reads_ofS' I g d _ _ _ e1 q ra
        obtain ⟨pl2, bs, h2⟩ := readsAll_ofS' I g ds _ _ _ e3 r' rb
        exact ⟨by simp [PyData.plainAll, pl, pl2], _, .cons h1 h2⟩
end
theorem reads_ofS (I : Inv X pins σ H s) (g : Good X.K W S H) {d : D} {v : V} {u : Value} {p : PyData} (e : toPS S d = some p) (q : Rep X.K W d v) (r : RelV v u) : p.plain = true ∧ ∃ as, Reads s.heap u p as := reads_ofS' I g d v u p e q r
end
section
variable {X : Cx}
theorem op_of {f : Value → Value → Sem Value} {r : R2} {g : D → D → PO} (h : OpR X f r) (k : ∀ W S H x y dx dy Q, Good X.K W S H → Rep X.K W dx x → Rep X.K W dy y → oV X.K W (g dx dy S) Q → r x y H Q) : OpR X f (rD2 X.K g) :=
  fun pins s σ H x y v u Q I rx ry ⟨W, S, dx, dy, gd, r1, r2, p⟩ => h pins s σ H x y v u Q I rx ry (k W S H x y dx dy Q gd r1 r2 p)
def pInt2 (ok : Int → Int → Bool) (f : Int → Int → D) : D → D → PO := fun x y S => match x, y with
  | .int i, .int j => if ok i j = true then some (f i j, S) else none
  | _, _ => none
theorem pInt2_inv {ok : Int → Int → Bool} {f : Int → Int → D} {K : PySem.W.Frag} {W : Wd} {S : Store} {x y : V} {dx dy : D} {Q : VK} (r1 : Rep K W dx x) (r2 : Rep K W dy y) (p : oV K W (pInt2 ok f dx dy S) Q) :
    ∃ i j, x = .int i ∧ y = .int j ∧ ok i j = true ∧ oV K W (some (f i j, S)) Q := by
  cases r1 with
  | int i =>
    cases r2 with
    | int j =>
      simp only [pInt2] at p
      split at p
      · exact ⟨i, j, rfl, rfl, by assumption, p⟩
      · exact p.elim
    | _ => exact p.elim
  | _ => cases r2 <;> exact p.elim
def pSub : D → D → PO := pInt2 (fun _ _ => true) fun i j => .int (i - j)
theorem op_pSub : OpR X (binaryOp .Sub) (rD2 X.K pSub) := op_of op_sub fun W S H x y dx dy Q g r1 r2 p => by
  obtain ⟨i, j, rfl, rfl, _, o⟩ := pInt2_inv r1 r2 p
  exact ⟨i, j, rfl, rfl, o.val g (.int _)⟩
def mulOk (i j : Int) : Bool := decide (-(2 ^ 64) < i ∧ i < 2 ^ 64) || decide (-(2 ^ 64) < j ∧ j < 2 ^ 64)
theorem op_mulI : OpR X (binaryOp .Mult) (rD2 X.K (pInt2 mulOk fun i j => .int (i * j))) := op_of op_mul fun W S H x y dx dy Q g r1 r2 p => by
  obtain ⟨i, j, rfl, rfl, h, o⟩ := pInt2_inv r1 r2 p
  refine ⟨i, j, rfl, rfl, ?_, o.val g (.int _)⟩
  simp only [mulOk, Bool.or_eq_true, decide_eq_true_eq] at h
  exact h
def pFdiv : D → D → PO := pInt2 (fun _ j => decide (0 < j ∧ j < 1073741824)) fun i j => .int (i / j)
theorem op_pFdiv : OpR X (binaryOp .FloorDiv) (rD2 X.K pFdiv) := op_of op_fdiv fun W S H x y dx dy Q g r1 r2 p => by
  obtain ⟨i, j, rfl, rfl, h, o⟩ := pInt2_inv r1 r2 p
  exact ⟨i, j, rfl, rfl, of_decide_eq_true (p := 0 < j ∧ j < 1073741824) h, o.val g (.int _)⟩
def pMod : D → D → PO := pInt2 (fun _ j => decide (0 < j)) fun i j => .int (i % j)
theorem op_pMod : OpR X (binaryOp .Mod) (rD2 X.K pMod) := op_of op_mod fun W S H x y dx dy Q g r1 r2 p => by
  obtain ⟨i, j, rfl, rfl, h, o⟩ := pInt2_inv r1 r2 p
  exact ⟨i, j, rfl, rfl, of_decide_eq_true h, o.val g (.int _)⟩
def pPow : D → D → PO := pInt2 (fun i j => decide (0 ≤ j ∧ j ≤ 1000000 ∧ i.natAbs < 2 ^ 64)) fun i j => .int (i ^ j.toNat)
theorem op_pPow : OpR X (binaryOp .Pow) (rD2 X.K pPow) := op_of op_pow fun W S H x y dx dy Q g r1 r2 p => by
  obtain ⟨i, j, rfl, rfl, h, o⟩ := pInt2_inv r1 r2 p
  exact ⟨i, j, rfl, rfl, of_decide_eq_true (p := 0 ≤ j ∧ j ≤ 1000000 ∧ i.natAbs < 2 ^ 64) h, o.val g (.int _)⟩
def pNeg : D → PO := fun x S => match x with
  | .int i => some (.int (-i), S)
  | _ => none
theorem un_pNeg : UnR X (unaryOp .USub) (rD1 X.K pNeg) := fun pins s σ H x v Q I rx ⟨W, S, dx, g, r1, p⟩ => by
  cases r1 with
  | int i => exact un_neg pins s σ H _ v Q I rx ⟨i, rfl, p.val g (.int _)⟩
  | _ => exact p.elim
/-- a * b: ints; a list so many times -/
def pMul : D → D → PO := fun x y S => match x, y with
  | .int i, .int j => if mulOk i j = true then some (.int (i * j), S) else none
  | x, .int k => (match plstOf S x with
    | some xs => if -(2 ^ 63) ≤ k ∧ k < 2 ^ 63 ∧ xs.length * k.toNat ≤ sizeLine then newL (List.replicate k.toNat xs).flatten S else none
    | none => none)
  | _, _ => none
theorem reps_repl {K : PySem.W.Frag} {W : Wd} {xs : List D} {vs : List V} (r : Reps K W xs vs) : ∀ n : Nat, Reps K W (List.replicate n xs).flatten (List.replicate n vs).flatten
  | 0 => .nil
  | n + 1 => by
    simp only [List.replicate_succ, List.flatten_cons]
    exact r.append (reps_repl r n)
theorem op_pMul : OpR X (binaryOp .Mult) (rD2 X.K pMul) := fun pins s σ H x y v u Q I rx ry ⟨W, S, dx, dy, g, r1, r2, p⟩ => by
  have lst : ∀ {k : Int} {xs : List D}, plstOf S dx = some xs → y = .int k → oV X.K W (if -(2 ^ 63) ≤ k ∧ k < 2 ^ 63 ∧ xs.length * k.toNat ≤ sizeLine then newL (List.replicate k.toNat xs).flatten S else none) Q → wpAny (model X.prog X.w) X.A (binaryOp .Mult v u) (EP X pins σ Q) X.xe s := by
    intro k xs e ey p
    subst ey
    split at p
    · rename_i h
      obtain ⟨a, vs, rfl, h1, h2⟩ := plstOf_ok e g r1
      refine op_rep pins s σ H _ _ v u Q I rx ry ⟨a, k, vs, rfl, rfl, h1, h.1, h.2.1, by rw [← h2.length]; exact h.2.2, (newL_ok p g (reps_repl h2 k.toNat)).2⟩
    · exact p.elim
  cases r2 with
  | int k =>
    cases r1 with
    | int i =>
      refine op_mulI pins s σ H _ _ v u Q I rx ry ⟨W, S, .int i, .int k, g, .int i, .int k, p⟩
    | lst q r => exact lst rfl rfl p
    | ref h =>
      simp only [pMul] at p
      split at p
      · rename_i xs e
        exact lst e rfl p
      · exact p.elim
    | _ => exact p.elim
  | _ => cases r1 <;> exact p.elim
/-- a + b: ints, texts, tuples, lists -/
def pAdd : D → D → PO := fun x y S => match x, y with
  | .int i, .int j => some (.int (i + j), S)
  | .str a, .str b => if a.length + b.length ≤ sizeLine then some (.str (a ++ b), S) else none
  | .tup a, .tup b => newT (a ++ b) S
  | x, y => (match plstOf S x, plstOf S y with
    | some a, some b => newL (a ++ b) S
    | _, _ => none)
theorem op_pAdd : OpR X (binaryOp .Add) (rD2 X.K pAdd) := fun pins s σ H x y v u Q I rx ry ⟨W, S, dx, dy, g, r1, r2, p⟩ => by
  have lst : ∀ {xs ys : List D}, plstOf S dx = some xs → plstOf S dy = some ys → oV X.K W (newL (xs ++ ys) S) Q → wpAny (model X.prog X.w) X.A (binaryOp .Add v u) (EP X pins σ Q) X.xe s := by
    intro xs ys e1 e2 p
    obtain ⟨a, vs, rfl, h1, h2⟩ := plstOf_ok e1 g r1
    obtain ⟨b, us, rfl, h3, h4⟩ := plstOf_ok e2 g r2
    obtain ⟨hl, k⟩ := newL_ok p g (h2.append h4)
    exact op_cat pins s σ H _ _ v u Q I rx ry ⟨a, b, vs, us, rfl, rfl, h1, h3, by rw [← List.length_append]; exact hl, k⟩
  cases r1 with
  | int i =>
    cases r2 with
    | int j => exact op_add pins s σ H _ _ v u Q I rx ry ⟨i, j, rfl, rfl, p.val g (.int _)⟩
    | _ => simp [pAdd, plstOf] at p; exact p.elim
  | str a =>
    cases r2 with
    | str b =>
      simp only [pAdd] at p
      split at p
      · exact op_add_str pins s σ H _ _ v u Q I rx ry ⟨a, b, rfl, rfl, by assumption, p.val g (.str _)⟩
      · exact p.elim
    | _ => simp [pAdd, plstOf] at p; exact p.elim
  | @tup a vs ds q r =>
    cases r2 with
    | @tup b us es q2 r2 =>
      simp only [pAdd] at p
      have hp := p
      unfold newT at hp
      split at hp
      · rename_i hl
        refine op_catA pins s σ H _ _ v u Q I rx ry ⟨a, b, vs, us, rfl, rfl, g.sqT q, g.sqT q2, by rw [← r.length, ← r2.length, ← List.length_append]; exact hl, ?_⟩
        have el : es.length = us.length := r2.length
        have dl : ds.length = vs.length := r.length
        refine ⟨fun z => ?_, fun z z2 => ?_, fun z z2 => (newT_ok p g (r.append r2)).2⟩
        · subst z
          have : ds = [] := List.eq_nil_of_length_eq_zero (by rw [dl]; rfl)
          subst this
          exact hp.val g (.tup q2 r2)
        · subst z2
          have : es = [] := List.eq_nil_of_length_eq_zero (by rw [el]; rfl)
          subst this
          rw [List.append_nil] at hp
          exact hp.val g (.tup q r)
      · exact hp.elim
    | _ => simp [pAdd, plstOf] at p; exact p.elim
  | lst q r =>
    simp only [pAdd] at p
    split at p
    · rename_i e1 e2; exact lst e1 e2 p
    · exact p.elim
  | ref h =>
    simp only [pAdd] at p
    split at p
    · rename_i e1 e2; exact lst e1 e2 p
    · exact p.elim
  | _ => cases r2 <;> (simp [pAdd, plstOf] at p; exact p.elim)

def pLt : D → D → PO := pInt2 (fun _ _ => true) fun i j => .bl (decide (i < j))
def pLe : D → D → PO := pInt2 (fun _ _ => true) fun i j => .bl (decide (i ≤ j))
def pGt : D → D → PO := pInt2 (fun _ _ => true) fun i j => .bl (decide (j < i))
def pGe : D → D → PO := pInt2 (fun _ _ => true) fun i j => .bl (decide (j ≤ i))
theorem op_pLt : OpR X (compareOp .Lt) (rD2 X.K pLt) := op_of op_lt fun W S H x y dx dy Q g r1 r2 p => by
  obtain ⟨i, j, rfl, rfl, _, o⟩ := pInt2_inv r1 r2 p
  exact ⟨i, j, rfl, rfl, o.val g (.bl _)⟩
theorem op_pLe : OpR X (compareOp .LtE) (rD2 X.K pLe) := op_of op_le fun W S H x y dx dy Q g r1 r2 p => by
  obtain ⟨i, j, rfl, rfl, _, o⟩ := pInt2_inv r1 r2 p
  exact ⟨i, j, rfl, rfl, o.val g (.bl _)⟩
theorem op_pGt : OpR X (compareOp .Gt) (rD2 X.K pGt) := op_of op_gt fun W S H x y dx dy Q g r1 r2 p => by
  obtain ⟨i, j, rfl, rfl, _, o⟩ := pInt2_inv r1 r2 p
  exact ⟨i, j, rfl, rfl, o.val g (.bl _)⟩
theorem op_pGe : OpR X (compareOp .GtE) (rD2 X.K pGe) := op_of op_ge fun W S H x y dx dy Q g r1 r2 p => by
  obtain ⟨i, j, rfl, rfl, _, o⟩ := pInt2_inv r1 r2 p
  exact ⟨i, j, rfl, rfl, o.val g (.bl _)⟩
def eqD (S : Store) (x y : D) : Option Bool := match toPS S x, toPS S y with
  | some a, some b => if a.depth ≤ 60 then some (PyData.eqv a b) else none
  | _, _ => none
def pEq : D → D → PO := fun x y S => (eqD S x y).map fun b => (.bl b, S)
def pNe : D → D → PO := fun x y S => (eqD S x y).map fun b => (.bl (!b), S)
theorem eqD_inv {S : Store} {x y : D} {b : Bool} (h : eqD S x y = some b) : ∃ p q, toPS S x = some p ∧ toPS S y = some q ∧ p.depth ≤ 60 ∧ PyData.eqv p q = b := by
  unfold eqD at h
  cases e1 : toPS S x with
  | none => rw [e1] at h; cases h
  | some p =>
    cases e2 : toPS S y with
    | none => rw [e1, e2] at h; cases h
    | some q =>
      rw [e1, e2] at h
      simp only at h
      split at h
      · exact ⟨p, q, rfl, rfl, by assumption, Option.some.inj h⟩
      · cases h
theorem op_pEq (hu : X.A.units + 64 < cLine) : OpR X (compareOp .Eq) (rD2 X.K pEq) := fun pins s σ H x y v u Q I rx ry ⟨W, S, dx, dy, g, r1, r2, p⟩ => by
  unfold pEq at p
  cases e : eqD S dx dy with
  | none => rw [e] at p; exact p.elim
  | some b =>
    rw [e] at p
    obtain ⟨a, c, e1, e2, hd, rfl⟩ := eqD_inv e
    obtain ⟨p1, as, ra⟩ := reads_ofS I g e1 r1 rx
    obtain ⟨p2, bs, rb⟩ := reads_ofS I g e2 r2 ry
    exact eq_plain ra rb p1 p2 (by omega) ⟨.bl _, H, I, rfl, p.val g (.bl _)⟩
theorem op_pNe (hu : X.A.units + 64 < cLine) : OpR X (compareOp .NotEq) (rD2 X.K pNe) := fun pins s σ H x y v u Q I rx ry ⟨W, S, dx, dy, g, r1, r2, p⟩ => by
  unfold pNe at p
  cases e : eqD S dx dy with
  | none => rw [e] at p; exact p.elim
  | some b =>
    rw [e] at p
    obtain ⟨a, c, e1, e2, hd, rfl⟩ := eqD_inv e
    obtain ⟨p1, as, ra⟩ := reads_ofS I g e1 r1 rx
    obtain ⟨p2, bs, rb⟩ := reads_ofS I g e2 r2 ry
    exact ne_plain ra rb p1 p2 (by omega) ⟨.bl _, H, I, rfl, p.val g (.bl _)⟩
/-- x in y -/
def inD (S : Store) (x y : D) : Option Bool := match y with
  | .str z => (match x with
    | .str w => if w.length = 1 then some (decide (w.cps.getD 0 0 ∈ z.cps.toList)) else none
    | _ => none)
  | y => (match toPS S x, toPS S y with
    | some a, some (.list bs) => if a.depth ≤ 60 then some (bs.any fun b => PyData.eqv b a) else none
    | some a, some (.tuple bs) => if a.depth ≤ 60 then some (bs.any fun b => PyData.eqv b a) else none
    | _, _ => none)
def pIn : D → D → PO := fun x y S => (inD S x y).map fun b => (.bl b, S)
def pNotIn : D → D → PO := fun x y S => (inD S x y).map fun b => (.bl (!b), S)
theorem inD_inv {S : Store} {x y : D} {b : Bool} (h : inD S x y = some b) : (∃ (c : Nat) (z : Str), x = .str ⟨#[c]⟩ ∧ y = .str z ∧ b = decide (c ∈ z.cps.toList)) ∨
    ∃ a bs, toPS S x = some a ∧ (toPS S y = some (.list bs) ∨ toPS S y = some (.tuple bs)) ∧ a.depth ≤ 60 ∧ b = bs.any fun b => PyData.eqv b a := by
  have dat : ∀ {y : D}, (match toPS S x, toPS S y with
    | some a, some (.list bs) => if a.depth ≤ 60 then some (bs.any fun b => PyData.eqv b a) else none
    | some a, some (.tuple bs) => if a.depth ≤ 60 then some (bs.any fun b => PyData.eqv b a) else none
    | _, _ => none) = some b → ∃ a bs, toPS S x = some a ∧ (toPS S y = some (.list bs) ∨ toPS S y = some (.tuple bs)) ∧ a.depth ≤ 60 ∧ b = bs.any fun b => PyData.eqv b a := by
    intro y h
    split at h
    · rename_i a bs e1 e2
      split at h
      · exact ⟨a, bs, e1, .inl e2, by assumption, (Option.some.inj h).symm⟩
      · cases h
    · rename_i a bs e1 e2
      split at h
      · exact ⟨a, bs, e1, .inr e2, by assumption, (Option.some.inj h).symm⟩
      · cases h
    · cases h
  cases y with
  | str z =>
    simp only [inD] at h
    split at h
    · rename_i w
      split at h
      · rename_i hw
        left
        obtain ⟨⟨l⟩⟩ := w
        match l, hw with
        | [c], _ => exact ⟨c, z, rfl, rfl, by simpa using (Option.some.inj h).symm⟩
      · cases h
    · cases h
  | _ => exact .inr (dat h)
theorem op_pIn (hu : X.A.units + 64 < cLine) : OpR X (compareOp .In) (rD2 X.K pIn) := fun pins s σ H x y v u Q I rx ry ⟨W, S, dx, dy, g, r1, r2, p⟩ => by
  unfold pIn at p
  cases e : inD S dx dy with
  | none => rw [e] at p; exact p.elim
  | some b =>
    rw [e] at p
    rcases inD_inv e with ⟨c, z, rfl, rfl, rfl⟩ | ⟨a, bs, e1, e2, hd, rfl⟩
    · cases r1; cases r2
      exact op_in_sign pins s σ H _ _ v u Q I rx ry ⟨c, z, rfl, rfl, p.val g (.bl _)⟩
    · obtain ⟨p1, as, ra⟩ := reads_ofS I g e1 r1 rx
      rcases e2 with e2 | e2
      · obtain ⟨p2, bs', rb⟩ := reads_ofS I g e2 r2 ry
        exact in_list_data rb ra (by simpa [PyData.plain] using p2) p1 (by omega) ⟨.bl _, H, I, rfl, p.val g (.bl _)⟩
      · obtain ⟨p2, bs', rb⟩ := reads_ofS I g e2 r2 ry
        exact in_tuple_data rb ra (by simpa [PyData.plain] using p2) p1 (by omega) ⟨.bl _, H, I, rfl, p.val g (.bl _)⟩
theorem op_pNotIn (hu : X.A.units + 64 < cLine) : OpR X (compareOp .NotIn) (rD2 X.K pNotIn) := fun pins s σ H x y v u Q I rx ry ⟨W, S, dx, dy, g, r1, r2, p⟩ => by
  unfold pNotIn at p
  cases e : inD S dx dy with
  | none => rw [e] at p; exact p.elim
  | some b =>
    rw [e] at p
    rcases inD_inv e with ⟨c, z, rfl, rfl, rfl⟩ | ⟨a, bs, e1, e2, hd, rfl⟩
    · cases r1; cases r2
      exact op_notIn_sign pins s σ H _ _ v u Q I rx ry ⟨c, z, rfl, rfl, p.val g (.bl _)⟩
    · obtain ⟨p1, as, ra⟩ := reads_ofS I g e1 r1 rx
      rcases e2 with e2 | e2
      · obtain ⟨p2, bs', rb⟩ := reads_ofS I g e2 r2 ry
        exact notIn_list_data rb ra (by simpa [PyData.plain] using p2) p1 (by omega) ⟨.bl _, H, I, rfl, p.val g (.bl _)⟩
      · obtain ⟨p2, bs', rb⟩ := reads_ofS I g e2 r2 ry
        exact notIn_tuple_data rb ra (by simpa [PyData.plain] using p2) p1 (by omega) ⟨.bl _, H, I, rfl, p.val g (.bl _)⟩
/-- is None -/
def isNon : D → Bool
  | .non => true
  | _ => false
theorem isNon_ok {K : PySem.W.Frag} {W : Wd} {d : D} {v : V} (r : Rep K W d v) : isNon d = decide (v = .non) := by
  cases r <;> simp [isNon]
def pIs : D → D → PO := fun x y S => match y with
  | .non => some (.bl (isNon x), S)
  | _ => none
theorem op_pIs : OpR X (compareOp .Is) (rD2 X.K pIs) := op_of op_isN fun W S H x y dx dy Q g r1 r2 p => by
  cases r2 with
  | non => exact ⟨rfl, by rw [← isNon_ok r1]; exact p.val g (.bl _)⟩
  | _ => exact p.elim
def pIx : D → D → PO := fun x y S => match x, y with
  | .str z, .int i => if z.length ≤ sizeLine then (atI z.cps.toList i).map fun c => (.str ⟨#[c]⟩, S) else none
  | x, .int i => (seqOf S x).bind fun xs => (atI xs i).map fun d => (d, S)
  | _, _ => none
theorem atI_reps {K : PySem.W.Frag} {W : Wd} {ds : List D} {vs : List V} {i : Int} {d : D} (r : Reps K W ds vs) (e : atI ds i = some d) : ∃ v, atI vs i = some v ∧ Rep K W d v := by
  unfold atI at e ⊢
  rw [← r.length]
  obtain ⟨j, e1, e2⟩ := Option.bind_eq_some_iff.mp e
  obtain ⟨v, h1, h2⟩ := r.get e2
  exact ⟨v, Option.bind_eq_some_iff.mpr ⟨j, e1, h1⟩, h2⟩
theorem ix_pIx : IxR X (rD2 X.K pIx) := fun value slice pins s σ H x y v u Q I rx ry ⟨W, S, dx, dy, g, r1, r2, p⟩ hs => by
  have sq : ∀ {i : Int}, y = .int i → oV X.K W ((seqOf S dx).bind fun xs => (atI xs i).map fun d => (d, S)) Q → wpAny (model X.prog X.w) X.A (subscriptTail value slice v u) (EP X pins σ Q) X.xe s := by
    intro i ey p
    subst ey
    cases e : seqOf S dx with
    | none => rw [e] at p; exact p.elim
    | some xs =>
      rw [e] at p
      simp only [Option.bind_some] at p
      cases e2 : atI xs i with
      | none => rw [e2] at p; exact p.elim
      | some d =>
        rw [e2] at p
        obtain ⟨a, vs, rfl, h2, h3⟩ := seqOf_ok e g r1
        obtain ⟨w, h4, h5⟩ := atI_reps h3 e2
        refine ix_seq value slice pins s σ H _ _ v u Q I rx ry ?_ hs
        rcases h2 with h2 | h2
        · exact .inl ⟨a, vs, i, w, rfl, rfl, h2, h4, p.val g h5⟩
        · exact .inr (.inl ⟨a, vs, i, w, rfl, rfl, h2, h4, p.val g h5⟩)
  cases r2 with
  | int i =>
    cases r1 with
    | str z =>
      simp only [pIx] at p
      split at p
      · rename_i hl
        cases e : atI z.cps.toList i with
        | none => rw [e] at p; exact p.elim
        | some c =>
          rw [e] at p
          exact ix_seq value slice pins s σ H _ _ v u Q I rx ry (.inr (.inr ⟨z, i, c, rfl, rfl, hl, e, p.val g (.str _)⟩)) hs
      · exact p.elim
    | _ => exact sq rfl p
  | _ => cases r1 <;> exact p.elim
end
end Ev
namespace Ev
open PySem PySem.Spec PySem.SeqAt L2 PyProof.Rows
/-- a def's promise, asked only where no repr is under way -/
structure FnG (P : Program) (w : World) (K : PySem.W.Frag) (mg : Str → Option Value) (base : Heap) (k : Nat) (f : Addr) (fd : FuncData) (ps : List Str) (sp : Sp) : Prop where
  len : ∀ vs H Q E, sp vs H Q E → vs.length = ps.length
  run : ∀ (A : Around), A.guards = some [] → ∀ (outer : List Env) (s : Shared) (H : Hp) (args : Args) (us : List Value) (vs : List V) (Q : VK) (E : XK),
    Room k A → Env0 P w K mg base A outer s H → BindsTo s fd args (ps.zip us) → Vals vs us → sp vs H Q E →
    codeAny (model P w) A (.call (.ref f) args) (CR (L2N.CX P w) outer P w H s Q E) s
theorem FnG.mono {P : Program} {w : World} {K : PySem.W.Frag} {mg : Str → Option Value} {base : Heap} {j k : Nat} {f : Addr} {fd : FuncData} {ps : List Str} {sp : Sp} (F : FnG P w K mg base j f fd ps sp) (h : j ≤ k) : FnG P w K mg base k f fd ps sp :=
  ⟨F.len, fun A hg outer s H args us vs Q E r => F.run A hg outer s H args us vs Q E (r.mono h)⟩
/-- from the body's reading -/
theorem fnG_of {P : Program} {w : World} {K : PySem.W.Frag} {mg : Str → Option Value} {base : Heap} {k : Nat} {f : Addr} {name qual : Str} {params : Arguments} {body : List Stmt} {scope : Scope} {dvs : List V} {kws : List (Str × V)} {fd : FuncData} {N ps : List Str} {sp : Sp}
    (F : FunD K name qual params body scope dvs kws f fd) (Sc : FnScope N ps scope) (len : ∀ vs H Q E, sp vs H Q E → vs.length = ps.length)
    (bd : ∀ (cdv : Value) (A : Around) (outer : List Env) (s : Shared) (H : Hp) (vs : List V) (Q : VK) (E : XK), A.guards = some [] → Room k (A.deeper (envOfC qual scope s.heap.objs.size f cdv)) → sp vs H Q E →
      ∃ t, PSs (cxOf (L2N.CX P w) P w K mg base N qual scope f cdv A outer s H E) body t ∧ t { nx := fun _ H' => Q .non H', rt := Q } (start N vs) H) : FnG P w K mg base (k + 1) f fd ps sp := by
  obtain ⟨oc, od, dV, kV, doc, pm, an, cdv, ct, osl, rfl, lk, hcd, _, _⟩ := F.ex
  refine ⟨len, fun A hg outer s H args us vs Q E room e0 hb rel want => ?_⟩
  have eqn := len _ _ _ _ want
  have KX : K.In s.heap := e0.mod.kin.keeps (fun b o e => (e0.bs b o e).left)
  have lim : s.heap.NoLimit := e0.mod.nolimit.keeps (fun b o e => (e0.bs b o e).left)
  refine codeAny_call_function room.depth (KX _ _ lk) rfl Sc.co Sc.gen rfl (PySem.W.codeRec_of KX hcd) (hb _ _ _ _ ?_)
  refine wpAny_newFunctionEnv_cells Sc.kind (fun ⟨n, v⟩ hy => ?_) (fun env he s1 x => ?_)
  · rcases Sc.par n (List.of_mem_zip hy).left with q | q
    · exact Or.inl q
    · exact Or.inr ⟨q, PySem.W.cellsFrom_some _ _ _ (Or.inl q)⟩
  · subst he
    refine ⟨lim.keeps x.toInCall.keep, codeAny_func ?_⟩
    obtain ⟨t, ht, hq⟩ := bd cdv A outer s H vs Q E hg (room.deeper _) want
    have J := inv_start (CX := L2N.CX P w) (E := E) Sc room.hd e0 eqn rel x
    refine wpAny_mono (ht.run [] s1 (start N vs) H _ J hq) (fun fl s' hs => ?_) (fun _ _ hs => hs)
    cases fl with
    | ret u =>
      obtain ⟨v, _, H', J2, rv, q⟩ := hs
      exact ⟨v, H', J2.os, J2.bare, J2.base, J2.hok, rv, q⟩
    | next =>
      obtain ⟨_, H', J2, q⟩ := hs
      exact ⟨.non, H', J2.os, J2.bare, J2.base, J2.hok, rfl, q⟩
    | brk =>
      obtain ⟨_, _, _, q⟩ := hs
      exact q.elim
    | cont =>
      obtain ⟨_, _, _, q⟩ := hs
      exact q.elim

/-- the promise: what the evaluator's function says -/
def spM (K : PySem.W.Frag) (n : Nat) (m : List D → M D) : Sp := fun vs H Q E => vs.length = n ∧ ∃ W S ds, Good K W S H ∧ Reps K W ds vs ∧ okP K (Rep K) W (m ds S) [] (fun cls d _ H' => E cls d H') Q
/-- a value that may be called: what comes of it, by place and by name -/
def CallF (X : Cx) (Wx : WX) (f : Value) (ks : List Str) (m : List D → List D → M D) : Prop :=
  ∀ (pins : List (Addr × Obj)) (s : Shared) (σ : L2.St) (H : Hp) (vs zs : List V) (us ws : List Value) (Q : VK), Inv X pins σ H s → Vals vs us → Vals zs ws → zs.length = ks.length →
    (∃ W S ds es, Good X.K W S H ∧ Reps X.K W ds vs ∧ Reps X.K W es zs ∧ okP X.K (Rep X.K) W (m ds es S) σ Wx Q) → wpAny (model X.prog X.w) X.A (call f us (ks.zip ws)) (EP X pins σ Q) X.xe s
/-- how arguments come to parameters -/
structure BindG (K : PySem.W.Frag) (fd : FuncData) (ps ks : List Str) (pick : {α : Type} → List α → List α → Option (List α)) : Prop where
  to : ∀ (s : Shared) (us ws as : List Value), K.In s.heap → pick us ws = some as → as.length = ps.length → ws.length = ks.length → BindsTo s fd ⟨us, ks.zip ws⟩ (ps.zip as)
  rel : ∀ {α β : Type} {F : α → β → Prop} {xs ys : List α} {us ws : List β} {as : List α}, Paired F xs us → Paired F ys ws → pick xs ys = some as → ∃ bs, pick us ws = some bs ∧ Paired F as bs
section
variable {X : Cx} {Wx : WX}
variable {x nm : Str} {p pos apos : Pos} {e o : Expr} {es : List Expr} {kws : List Keyword} {ks : List Str} {mas mks : MA} {mo : ME} {m : List D → List D → M D} {f : Addr}
def eCallF (m : List D → List D → M D) (mas mks : MA) : ME := fun δ => M.bind (mas δ) fun xs => M.bind (mks δ) fun ys => m xs ys
/-- f(e, ..) -/
theorem se_call (hf : CallF X Wx (.ref f) [] m) (hgl : Gl X x) (hm : X.mg x = some (.ref f)) (hk : PySem.W.keepIn X.K (.ref f) = true) (hdb : (x == ("__debug__" : Str)) = false) (ha : SA X Wx (e :: es) mas)
    (he : starEach (e :: es) X.env = (false, eval e X.env) :: starEach es X.env) (hpl : (backTo pos (starEach es X.env)).any (·.1) = false) : SE X Wx (.Call (.Name x p) (e :: es) [] pos) (eCallF m mas aNil) :=
  ⟨fun pins s σ H Q I ⟨W, S, δ, g, r, pp⟩ => by
    refine wpAny_Call_Name_kw (ld_glob I hgl hm ?_ hdb)
    refine PySem.W.callWith_K (h₀ := X.base) I.ok.mod.kin hk (thn (ha.run pos pins s σ H _ I ⟨W, S, δ, g, r, okP.bind (R := Reps X.K) pp⟩) fun us s1 ⟨vs, H1, I1, rv, W1, S1, ds, l1, g1, r1, p1⟩ => ⟨I1.kIn, ?_⟩) he hpl
    exact hf pins s1 σ H1 vs [] us [] Q I1 rv .nil rfl ⟨W1, S1, ds, [], g1, r1, .nil, p1⟩⟩
def clsOf (S : Store) : D → Option (Str × List (Str × D))
  | .ins c fs => some (c, fs)
  | .ref i => (match S[i]? with
    | some (some (.ins c fs)) => some (c, fs)
    | _ => none)
  | _ => none
theorem lookup_reps {K : PySem.W.Frag} {W : Wd} {x : Str} {d : D} : ∀ {fs : List (Str × D)} {gs : List (Str × V)}, gs.map (·.1) = fs.map (·.1) → Reps K W (fs.map (·.2)) (gs.map (·.2)) → fs.lookup x = some d → ∃ v, gs.lookup x = some v ∧ Rep K W d v
  | [], _, _, _, h => by cases h
  | _ :: _, [], e, _, _ => by cases e
  | (a, d1) :: fs, (b, v1) :: gs, e, r, h => by
    simp only [List.map_cons, List.cons.injEq] at e
    obtain ⟨rfl, e⟩ := e
    cases r with
    | cons r1 r2 =>
      simp only [List.lookup_cons] at h ⊢
      cases q : x == b with
      | true => rw [q] at h; cases h; exact ⟨v1, rfl, r1⟩
      | false => rw [q] at h; exact lookup_reps e r2 h
theorem clsOf_ok {K : PySem.W.Frag} {W : Wd} {S : Store} {H : Hp} {d : D} {v : V} {c : Str} {fs : List (Str × D)} (e : clsOf S d = some (c, fs)) (g : Good K W S H) (r : Rep K W d v) :
    ∃ a dx vfs, v = .ref a ∧ H a = some (.ins (He.ga K c) dx vfs) ∧ vfs.map (·.1) = fs.map (·.1) ∧ Reps K W (fs.map (·.2)) (vfs.map (·.2)) := by
  cases r with
  | @ins a dx c' vfs fs' h1 h2 h3 =>
    cases e
    exact ⟨a, dx, vfs, rfl, g.sub _ _ h1, h2, h3⟩
  | @ref i a h =>
    simp only [clsOf] at e
    split at e
    · rename_i c' fs' hc
      cases e
      obtain ⟨a', e1, e2, _, dx, vfs, e3, e4, e5⟩ := g.cell i _ hc
      rw [h] at e1; cases e1
      exact ⟨a, dx, vfs, rfl, e3, e4, e5⟩
    · cases e
  | _ => cases e
/-- o.f: an attribute that the instance has -/
def eFld (ok : Str → Bool) (f : Str) (mo : ME) : ME := fun δ => M.bind (mo δ) fun x S => match clsOf S x with
  | some (c, fs) => if ok c = true then (match fs.lookup f with
    | some d => .ok d S
    | none => .bad) else .bad
  | none => .bad
theorem se_fld {ok : Str → Bool} {fl : Str} (ho : SE X Wx o mo) (hcls : ∀ c, ok c = true → Cls X.K (He.ga X.K c) ∧ NoAttr X.K (He.ga X.K c) fl) (hb : attributeBase o fl X.env (eval o X.env) = eval o X.env) : SE X Wx (.Attribute o fl pos) (eFld ok fl mo) :=
  PE.imp (pe_fld ho hb) fun σ H Q ⟨W, S, δ, g, r, p⟩ => ⟨W, S, δ, g, r, (okP.bind (R := Rep X.K) p).imp fun v H1 ⟨W1, S1, d, l1, g1, r1, p1⟩ => by
    cases e : clsOf S1 d with
    | none => rw [e] at p1; exact p1.elim
    | some q =>
      obtain ⟨c, fs⟩ := q
      rw [e] at p1
      dsimp only at p1
      split at p1
      · rename_i hok
        cases e2 : fs.lookup fl with
        | none => rw [e2] at p1; exact p1.elim
        | some d2 =>
          rw [e2] at p1
          obtain ⟨a, dx, vfs, rfl, h1, h2, h3⟩ := clsOf_ok e g1 r1
          obtain ⟨v2, h4, h5⟩ := lookup_reps h2 h3 e2
          exact ⟨a, _, dx, vfs, v2, rfl, h1, (hcls c hok).1, (hcls c hok).2, h4, p1 W1 H1 v2 W1.le_refl g1 h5⟩
      · exact p1.elim⟩
end
end Ev
namespace Ev
open PySem PySem.Spec PySem.SeqAt L2 PyProof.Rows
section
variable {X : Cx}
theorem call_of {f : Value} {r : List V → Hp → VK → Prop} {g : List D → PO} (h : CallR X f r) (k : ∀ W S H vs ds Q, Good X.K W S H → Reps X.K W ds vs → oV X.K W (g ds S) Q → r vs H Q) : CallR X f (rDC X.K g) :=
  fun pins s σ H vs us Q I rv ⟨W, S, ds, gd, r1, p⟩ => h pins s σ H vs us Q I rv (k W S H vs ds Q gd r1 p)
theorem reps1 {K : PySem.W.Frag} {W : Wd} {d : D} {vs : List V} (r : Reps K W [d] vs) : ∃ v, vs = [v] ∧ Rep K W d v := by
  cases r with
  | cons r t => cases t; exact ⟨_, rfl, r⟩
theorem reps2 {K : PySem.W.Frag} {W : Wd} {d e : D} {vs : List V} (r : Reps K W [d, e] vs) : ∃ v u, vs = [v, u] ∧ Rep K W d v ∧ Rep K W e u := by
  cases r with
  | cons r t =>
    obtain ⟨u, rfl, q⟩ := reps1 t
    exact ⟨_, u, rfl, r, q⟩
def intsOf : List D → Option (List Int)
  | [] => some []
  | .int i :: ds => (intsOf ds).map fun l => i :: l
  | _ :: _ => none
theorem intsOf_ok {K : PySem.W.Frag} {W : Wd} : ∀ {ds : List D} {vs : List V} {ns : List Int}, intsOf ds = some ns → Reps K W ds vs → ds = ns.map D.int ∧ vs = ns.map V.int
  | [], _, _, e, .nil => by cases e; exact ⟨rfl, rfl⟩
  | .int i :: ds, _, _, e, .cons r t => by
    simp only [intsOf] at e
    obtain ⟨l, e1, rfl⟩ := Option.map_eq_some_iff.mp e
    cases r
    obtain ⟨h1, h2⟩ := intsOf_ok e1 t
    exact ⟨by rw [h1]; rfl, by rw [h2]; rfl⟩
  | .non :: _, _, _, e, _ | .bl _ :: _, _, _, e, _ | .str _ :: _, _, _, e, _ | .tup _ :: _, _, _, e, _ | .lst _ :: _, _, _, e, _ | .ins _ _ :: _, _, _, e, _ | .ref _ :: _, _, _, e, _ | .fn _ :: _, _, _, e, _ | .scr _ :: _, _, _, e, _ | .slf :: _, _, _, e, _ | .dic _ :: _, _, _, e, _ => by cases e
def blsOf : List D → Option (List Bool)
  | [] => some []
  | .bl i :: ds => (blsOf ds).map fun l => i :: l
  | _ :: _ => none
theorem blsOf_ok {K : PySem.W.Frag} {W : Wd} : ∀ {ds : List D} {vs : List V} {ns : List Bool}, blsOf ds = some ns → Reps K W ds vs → ds = ns.map D.bl ∧ vs = ns.map V.bl
  | [], _, _, e, .nil => by cases e; exact ⟨rfl, rfl⟩
  | .bl i :: ds, _, _, e, .cons r t => by
    simp only [blsOf] at e
    obtain ⟨l, e1, rfl⟩ := Option.map_eq_some_iff.mp e
    cases r
    obtain ⟨h1, h2⟩ := blsOf_ok e1 t
    exact ⟨by rw [h1]; rfl, by rw [h2]; rfl⟩
  | .non :: _, _, _, e, _ | .int _ :: _, _, _, e, _ | .str _ :: _, _, _, e, _ | .tup _ :: _, _, _, e, _ | .lst _ :: _, _, _, e, _ | .ins _ _ :: _, _, _, e, _ | .ref _ :: _, _, _, e, _ | .fn _ :: _, _, _, e, _ | .scr _ :: _, _, _, e, _ | .slf :: _, _, _, e, _ | .dic _ :: _, _, _, e, _ => by cases e
def strsOf : List D → Option (List Str)
  | [] => some []
  | .str i :: ds => (strsOf ds).map fun l => i :: l
  | _ :: _ => none
theorem strsOf_ok {K : PySem.W.Frag} {W : Wd} : ∀ {ds : List D} {vs : List V} {ns : List Str}, strsOf ds = some ns → Reps K W ds vs → ds = ns.map D.str ∧ vs = ns.map V.str
  | [], _, _, e, .nil => by cases e; exact ⟨rfl, rfl⟩
  | .str i :: ds, _, _, e, .cons r t => by
    simp only [strsOf] at e
    obtain ⟨l, e1, rfl⟩ := Option.map_eq_some_iff.mp e
    cases r
    obtain ⟨h1, h2⟩ := strsOf_ok e1 t
    exact ⟨by rw [h1]; rfl, by rw [h2]; rfl⟩
  | .non :: _, _, _, e, _ | .int _ :: _, _, _, e, _ | .bl _ :: _, _, _, e, _ | .tup _ :: _, _, _, e, _ | .lst _ :: _, _, _, e, _ | .ins _ _ :: _, _, _, e, _ | .ref _ :: _, _, _, e, _ | .fn _ :: _, _, _, e, _ | .scr _ :: _, _, _, e, _ | .slf :: _, _, _, e, _ | .dic _ :: _, _, _, e, _ => by cases e
theorem reps_strs {K : PySem.W.Frag} {W : Wd} : ∀ ns : List Str, Reps K W (ns.map D.str) (ns.map V.str)
  | [] => .nil
  | n :: ns => .cons (.str n) (reps_strs ns)
def pLen : List D → PO := fun ds S => match ds with
  | [.str z] => if z.length ≤ sizeLine then some (.int z.length, S) else none
  | [x] => (seqOf S x).map fun xs => (.int xs.length, S)
  | _ => none
theorem cr_pLen : CallR X (.builtin "len") (rDC X.K pLen) := call_of call_len fun W S H vs ds Q g r p => by
  match ds, r, p with
  | [], _, p => exact p.elim
  | [d], r, p =>
    obtain ⟨v, rfl, q⟩ := reps1 r
    have sq : oV X.K W ((seqOf S d).map fun xs => (.int xs.length, S)) Q → ∃ x n, [v] = [x] ∧ LenV X.K x H n ∧ Q (.int n) H := fun p => by
      cases e : seqOf S d with
      | none => rw [e] at p; exact p.elim
      | some xs =>
        rw [e] at p
        obtain ⟨a, us, rfl, h2, h3⟩ := seqOf_ok e g q
        refine ⟨_, xs.length, rfl, ?_, p.val g (.int _)⟩
        rcases h2 with h2 | h2
        · exact .inl ⟨us, h2, h3.length⟩
        · exact .inr ⟨us, h2, h3.length⟩
    cases q with
    | str z =>
      simp only [pLen] at p
      split at p
      · exact ⟨_, z.length, rfl, ⟨by assumption, rfl⟩, p.val g (.int _)⟩
      · exact p.elim
    | _ => exact sq p
  | a :: _ :: _, _, p => cases a <;> exact p.elim
def pAbs : List D → PO := fun ds S => match ds with
  | [.int i] => some (.int (if i < 0 then -i else i), S)
  | _ => none
theorem cr_pAbs : CallR X (.builtin "abs") (rDC X.K pAbs) := call_of call_abs fun W S H vs ds Q g r p => by
  match ds, r, p with
  | [.int i], r, p =>
    obtain ⟨v, rfl, q⟩ := reps1 r
    cases q
    exact ⟨i, rfl, p.val g (.int _)⟩
def minL : List Int → Int
  | [] => 0
  | [x] => x
  | x :: y :: r => if x ≤ minL (y :: r) then x else minL (y :: r)
def maxL : List Int → Int
  | [] => 0
  | [x] => x
  | x :: y :: r => if maxL (y :: r) ≤ x then x else maxL (y :: r)
theorem maxL_ok : ∀ l : List Int, l ≠ [] → maxL l ∈ l ∧ ∀ y ∈ l, y ≤ maxL l
  | [], h => (h rfl).elim
  | [x], _ => ⟨by simp [maxL], by simp [maxL]⟩
  | x :: y :: r, _ => by
    obtain ⟨h1, h2⟩ := maxL_ok (y :: r) (by simp)
    unfold maxL
    split
    · rename_i h
      refine ⟨by simp, fun z hz => ?_⟩
      rcases List.mem_cons.mp hz with rfl | hz
      · exact Int.le_refl _
      · exact Int.le_trans (h2 z hz) h
    · rename_i h
      refine ⟨List.mem_cons_of_mem _ h1, fun z hz => ?_⟩
      rcases List.mem_cons.mp hz with rfl | hz
      · omega
      · exact h2 z hz
def pMax : List D → PO := fun ds S => match ds with
  | [x, y] => (match x, y with
    | .int i, .int j => some (.int (if j > i then j else i), S)
    | _, _ => none)
  | [x] => ((lstOf S x).bind intsOf).bind fun ns => if ns = [] then none else some (.int (maxL ns), S)
  | _ => none
theorem ints_of_lst {W : Wd} {S : Store} {H : Hp} {d : D} {v : V} {ns : List Int} (g : Good X.K W S H) (q : Rep X.K W d v) (e : (lstOf S d).bind intsOf = some ns) : ∃ a, v = .ref a ∧ SqL X.K H a (ns.map V.int) := by
  obtain ⟨xs, e1, e2⟩ := Option.bind_eq_some_iff.mp e
  obtain ⟨a, us, rfl, h2, h3⟩ := lstOf_ok e1 g q
  obtain ⟨rfl, rfl⟩ := intsOf_ok e2 h3
  exact ⟨a, rfl, h2⟩
theorem cr_pMax (hc : X.calm = true) : CallR X (.builtin "max") (rDC X.K pMax) := fun pins s σ H vs us Q I rv ⟨W, S, ds, g, r, p⟩ => by
  have one : ∀ {d : D}, ds = [d] → oV X.K W (((lstOf S d).bind intsOf).bind fun ns => if ns = [] then none else some (.int (maxL ns), S)) Q → wpAny (model X.prog X.w) X.A (call (.builtin "max") us) (EP X pins σ Q) X.xe s := by
    intro d ed p'
    clear p
    subst ed
    obtain ⟨v, rfl, q⟩ := reps1 r
    cases e : (lstOf S d).bind intsOf with
    | none => rw [e] at p'; exact p'.elim
    | some ns =>
      rw [e] at p'
      simp only [Option.bind_some] at p'
      split at p'
      · exact p'.elim
      · rename_i hn
        obtain ⟨a, rfl, h⟩ := ints_of_lst g q e
        obtain ⟨m1, m2⟩ := maxL_ok ns hn
        refine cr_max hc pins s σ H _ us Q I rv ⟨a, ns, rfl, h, List.length_pos_iff.mpr hn, fun m h1 h2 => ?_⟩
        have : m = maxL ns := Int.le_antisymm (m2 _ h1) (h2 _ m1)
        rw [this]
        exact p'.val g (.int _)
  match ds, r, p, @one with
  | [], _, p, _ => exact p.elim
  | [d], _, p, one => exact @one d rfl p
  | [d, e], r, p, _ =>
    obtain ⟨v, u, rfl, q1, q2⟩ := reps2 r
    cases q1 with
    | int i =>
      cases q2 with
      | int j => exact call_max2 hc pins s σ H _ us Q I rv ⟨i, j, rfl, p.val g (.int _)⟩
      | _ => exact p.elim
    | _ => cases q2 <;> exact p.elim
  | _ :: _ :: _ :: _, _, p, _ => exact p.elim
def pSum : List D → PO := fun ds S => match ds with
  | [x] => ((lstOf S x).bind intsOf).map fun ns => (.int ns.sum, S)
  | _ => none
def pAll (b : Bool) : List D → PO := fun ds S => match ds with
  | [x] => ((lstOf S x).bind blsOf).map fun ns => (.bl (if b then ns.all id else ns.any id), S)
  | _ => none
theorem bls_of_lst {W : Wd} {S : Store} {H : Hp} {d : D} {v : V} {ns : List Bool} (g : Good X.K W S H) (q : Rep X.K W d v) (e : (lstOf S d).bind blsOf = some ns) : ∃ a, v = .ref a ∧ SqL X.K H a (ns.map V.bl) := by
  obtain ⟨xs, e1, e2⟩ := Option.bind_eq_some_iff.mp e
  obtain ⟨a, us, rfl, h2, h3⟩ := lstOf_ok e1 g q
  obtain ⟨rfl, rfl⟩ := blsOf_ok e2 h3
  exact ⟨a, rfl, h2⟩
theorem cr_pAll (hc : X.calm = true) : CallR X (.builtin "all") (rDC X.K (pAll true)) := call_of (cr_all hc) fun W S H vs ds Q g r p => by
  match ds, r, p with
  | [d], r, p =>
    obtain ⟨v, rfl, q⟩ := reps1 r
    simp only [pAll] at p
    cases e : (lstOf S d).bind blsOf with
    | none => rw [e] at p; exact p.elim
    | some ns =>
      rw [e] at p
      obtain ⟨a, rfl, h⟩ := bls_of_lst g q e
      exact ⟨a, ns, rfl, h, p.val g (.bl _)⟩
theorem cr_pAny (hc : X.calm = true) : CallR X (.builtin "any") (rDC X.K (pAll false)) := call_of (cr_any hc) fun W S H vs ds Q g r p => by
  match ds, r, p with
  | [d], r, p =>
    obtain ⟨v, rfl, q⟩ := reps1 r
    simp only [pAll] at p
    cases e : (lstOf S d).bind blsOf with
    | none => rw [e] at p; exact p.elim
    | some ns =>
      rw [e] at p
      obtain ⟨a, rfl, h⟩ := bls_of_lst g q e
      exact ⟨a, ns, rfl, h, p.val g (.bl _)⟩
def pDivmod : List D → PO := fun ds S => match ds with
  | [.int i, .int j] => if 0 < j ∧ j < 1073741824 then some (.tup [.int (i / j), .int (i % j)], S) else none
  | _ => none
theorem cr_pDivmod : CallR X (.builtin "divmod") (rDC X.K pDivmod) := call_of call_divmod fun W S H vs ds Q g r p => by
  match ds, r, p with
  | [.int i, .int j], r, p =>
    obtain ⟨v, u, rfl, q1, q2⟩ := reps2 r
    cases q1; cases q2
    simp only [pDivmod] at p
    split at p
    · rename_i h
      exact ⟨i, j, rfl, h, fun a n => p.new g n (.tup (SqT.of upd_same) (.cons (.int _) (.cons (.int _) .nil)))⟩
    · exact p.elim
def pInt : List D → PO := fun ds S => match ds with
  | [.int i] => some (.int i, S)
  | [.bl b] => some (.int (if b then 1 else 0), S)
  | [.str a] => if a.length ≤ 640 then (PySem.intText? a).map fun n => (.int n, S) else none
  | _ => none
theorem cr_pInt : CallR X (.type "int") (rDC X.K pInt) := fun pins s σ H vs us Q I rv ⟨W, S, ds, g, r, p⟩ => by
  match ds, r, p with
  | [.int i], r, p =>
    obtain ⟨v, rfl, q⟩ := reps1 r
    cases q
    exact call_int1 pins s σ H _ us Q I rv (.inl ⟨i, rfl, p.val g (.int _)⟩)
  | [.bl i], r, p =>
    obtain ⟨v, rfl, q⟩ := reps1 r
    cases q
    exact call_int1 pins s σ H _ us Q I rv (.inr ⟨i, rfl, p.val g (.int _)⟩)
  | [.str a], r, p =>
    obtain ⟨v, rfl, q⟩ := reps1 r
    cases q
    simp only [pInt] at p
    split at p
    · rename_i h
      cases e : PySem.intText? a with
      | none => rw [e] at p; exact p.elim
      | some n =>
        rw [e] at p
        exact call_int_str pins s σ H _ us Q I rv ⟨a, n, rfl, e, h, p.val g (.int _)⟩
    · exact p.elim
def pStr : List D → PO := fun ds S => match ds with
  | [.int i] => if i.natAbs.log2 < 1920 then some (.str (toString i), S) else none
  | [.str a] => some (.str a, S)
  | _ => none
theorem cr_pStr : CallR X (.type "str") (rDC X.K pStr) := fun pins s σ H vs us Q I rv ⟨W, S, ds, g, r, p⟩ => by
  match ds, r, p with
  | [.int i], r, p =>
    obtain ⟨v, rfl, q⟩ := reps1 r
    cases q
    simp only [pStr] at p
    split at p
    · exact call_str_int pins s σ H _ us Q I rv ⟨i, rfl, by assumption, p.val g (.str _)⟩
    · exact p.elim
  | [.str a], r, p =>
    obtain ⟨v, rfl, q⟩ := reps1 r
    cases q
    exact SkE.call_str_str pins s σ H _ us Q I rv ⟨a, rfl, p.val g (.str _)⟩
def pList (fin : List D → PO) : List D → PO := fun ds S => match ds with
  | [x] => (seqOf S x).bind fun xs => fin xs S
  | _ => none
theorem cr_pList {fin : List D → PO} (hf : ∀ {W : Wd} {S : Store} {H : Hp} {xs : List D} {vs : List V} {Q : VK}, oV X.K W (fin xs S) Q → Good X.K W S H → Reps X.K W xs vs → vs.length ≤ sizeLine ∧ ∀ a, H a = none → Q (.ref a) (upd H a (.lst vs))) :
    CallR X (.type "list") (rDC X.K (pList fin)) := call_of call_list_of fun W S H vs ds Q g r p => by
  match ds, r, p with
  | [d], r, p =>
    obtain ⟨v, rfl, q⟩ := reps1 r
    simp only [pList] at p
    cases e : seqOf S d with
    | none => rw [e] at p; exact p.elim
    | some xs =>
      rw [e] at p
      obtain ⟨a, us, rfl, h2, h3⟩ := seqOf_ok e g q
      exact ⟨a, us, rfl, h2, (hf p g h3).2⟩
def pTuple : List D → PO := fun ds S => match ds with
  | [.tup xs] => some (.tup xs, S)
  | [x] => (lstOf S x).bind fun xs => newT xs S
  | _ => none
theorem cr_pTuple : CallR X (.type "tuple") (rDC X.K pTuple) := call_of call_tuple_of fun W S H vs ds Q g r p => by
  match ds, r, p with
  | [], _, p => exact p.elim
  | a :: _ :: _, _, p => cases a <;> exact p.elim
  | [d], r, p =>
    obtain ⟨v, rfl, q⟩ := reps1 r
    have ls : oV X.K W ((lstOf S d).bind fun xs => newT xs S) Q → ∃ p ys, [v] = [.ref p] ∧ ((SqL X.K H p ys ∧ ∀ l, H l = none → Q (.ref l) (upd H l (.tup ys))) ∨ (SqT X.K H p ys ∧ Q (.ref p) H)) := fun p => by
      cases e : lstOf S d with
      | none => rw [e] at p; exact p.elim
      | some xs =>
        rw [e] at p
        obtain ⟨a, us, rfl, h2, h3⟩ := lstOf_ok e g q
        exact ⟨a, us, rfl, .inl ⟨h2, (newT_ok p g h3).2⟩⟩
    cases q with
    | @tup a us ds q r' => exact ⟨a, us, rfl, .inr ⟨g.sqT q, p.val g (.tup q r')⟩⟩
    | _ => exact ls p
mutual
theorem plain_hasDict : ∀ p : PyData, p.plain = true → p.hasDict = false
  | .none, _ => rfl
  | .bool _, _ => rfl
  | .int _, _ => rfl
  | .str _, _ => rfl
  | .list xs, h => by simp only [PyData.hasDict]; exact plain_hasDictAll xs (by simpa [PyData.plain] using h)
  | .tuple xs, h => by simp only [PyData.hasDict]; exact plain_hasDictAll xs (by simpa [PyData.plain] using h)
  | .dict _, h => by cases h
theorem plain_hasDictAll : ∀ ps : List PyData, PyData.plainAll ps = true → PyData.hasDictAll ps = false
  | [], _ => rfl
  | p :: ps, h => by
    simp only [PyData.plainAll, Bool.and_eq_true] at h
    simp only [PyData.hasDictAll, Bool.or_eq_false_iff]
    exact ⟨plain_hasDict p h.1, plain_hasDictAll ps h.2⟩
end
end
end Ev
namespace Ev
open PySem PySem.Spec PySem.SeqAt L2 PyProof.Rows
section
variable {X : Cx} {Wx : WX} {o e : Expr} {es : List Expr} {mo : ME} {mas : MA} {nm : Str} {apos cpos pos : Pos} {T id : String}
def rDM (K : PySem.W.Frag) (f : D → List D → PO) : V → List V → Hp → VK → Prop := fun x xs H Q => ∃ W S d ds, Good K W S H ∧ Rep K W d x ∧ Reps K W ds xs ∧ oV K W (f d ds S) Q
def tyD (T : String) (S : Store) : D → Bool
  | .str _ => T == "str"
  | d => T == "list" && (lstOf S d).isSome
theorem tyD_ok {K : PySem.W.Frag} {W : Wd} {S : Store} {H : Hp} {d : D} {v : V} (h : tyD T S d = true) (g : Good K W S H) (r : Rep K W d v) : tyV K T v H := by
  have ls : (T == "list" && (lstOf S d).isSome) = true → tyV K T v H := fun h => by
    simp only [Bool.and_eq_true, beq_iff_eq] at h
    obtain ⟨xs, e⟩ := Option.isSome_iff_exists.mp h.2
    obtain ⟨a, vs, rfl, h1, h2⟩ := lstOf_ok e g r
    exact .inl ⟨h.1, vs, h1⟩
  cases r with
  | str x => exact beq_iff_eq.mp h
  | _ => exact ls h
def eMB (T : String) (f : D → List D → PO) (mo : ME) (mas : MA) : ME := fun δ => M.bind (mo δ) fun x S => if tyD T S x = true then M.bind (mas δ) (fun xs => lft (f x xs)) S else .bad
theorem se_mb {f : D → List D → PO} (pa : PlainAttrs T) (slot : Slot T nm id) (hty : typeOf (.builtin id) = pure (.type "method_descriptor")) (hm : MtR X id (rDM X.K f)) (ho : SE X Wx o mo) (ha : SA X Wx (e :: es) mas)
    (hbase : attributeBase o nm X.env (eval o X.env) = eval o X.env)
    (hfew : ((backTo cpos (starEach (e :: es) X.env)).all (fun x => !x.1) && (backToKw cpos (keywordEach [] X.env)).all (fun x => x.1.isSome)
      && decide ((e :: es).length + ([] : List Keyword).length + (if ([] : List Keyword).isEmpty then 0 else 1) < 30)) = true)
    (hline : (apos.endLine == cpos.line) = true) (hs : starEach (e :: es) X.env = (false, eval e X.env) :: starEach es X.env) (hpl : (backTo cpos (starEach es X.env)).any (·.1) = false) :
    SE X Wx (.Call (.Attribute o nm apos) (e :: es) [] cpos) (eMB T f mo mas) :=
  PE.imp (pe_bm pa slot hty hm ho ha hbase hfew hline hs hpl) fun σ H Q ⟨W, S, δ, g, r, p⟩ => ⟨W, S, δ, g, r, (okP.bind (R := Rep X.K) p).imp fun v H1 ⟨W1, S1, x, l1, g1, r1, p1⟩ => by
    by_cases ht : tyD T S1 x = true
    · rw [if_pos ht] at p1
      exact ⟨tyD_ok ht g1 r1, W1, S1, δ, g1, r.mono l1, (okP.bind (R := Reps X.K) p1).imp fun vs H2 ⟨W2, S2, xs, l2, g2, r2, p2⟩ => ⟨W2, S2, x, xs, g2, r1.mono l2, r2, p2.lft⟩⟩
    · rw [if_neg ht] at p1; exact p1.elim⟩
def pSplit : D → List D → PO := fun x ds S => match x, ds with
  | .str a, [.str b] => if (b.length == 0) = false ∧ a.length + 2 ≤ sizeLine then newL ((Txt.split a b).map D.str) S else none
  | _, _ => none
theorem mt_pSplit : MtR X "str.split" (rDM X.K pSplit) := fun pins s σ H x xs v us Q I rx rv ⟨W, S, d, ds, g, r1, r2, p⟩ => by
  cases r1 with
  | str a =>
    match ds, r2, p with
    | [.str b], r2, p =>
      obtain ⟨w, rfl, q⟩ := reps1 r2
      cases q
      simp only [pSplit] at p
      split at p
      · rename_i h
        exact mt_split pins s σ H _ _ v us Q I rx rv ⟨a, b, rfl, rfl, h.1, h.2, fun p0 n => (newL_ok p g (reps_strs _)).2 p0 n⟩
      · exact p.elim
  | _ => cases ds with
    | nil => exact p.elim
    | cons d ds => cases d <;> cases ds <;> exact p.elim
def pJoin : D → List D → PO := fun x ds S => match x, ds with
  | .str a, [y] => ((seqOf S y).bind strsOf).bind fun ys => if (ys.map (·.length)).sum + ys.length * a.length ≤ 16777216 then some (.str (Txt.join a ys), S) else none
  | _, _ => none
theorem mt_pJoin : MtR X "str.join" (rDM X.K pJoin) := fun pins s σ H x xs v us Q I rx rv ⟨W, S, d, ds, g, r1, r2, p⟩ => by
  cases r1 with
  | str a =>
    match ds, r2, p with
    | [y], r2, p =>
      obtain ⟨w, rfl, q⟩ := reps1 r2
      simp only [pJoin] at p
      cases e : (seqOf S y).bind strsOf with
      | none => rw [e] at p; exact p.elim
      | some ys =>
        rw [e] at p
        simp only [Option.bind_some] at p
        split at p
        · rename_i h
          obtain ⟨zs, e1, e2⟩ := Option.bind_eq_some_iff.mp e
          obtain ⟨b, vs, rfl, h2, h3⟩ := seqOf_ok e1 g q
          obtain ⟨rfl, rfl⟩ := strsOf_ok e2 h3
          exact mt_join pins s σ H _ _ v us Q I rx rv ⟨a, b, ys, rfl, rfl, h2, h, p.val g (.str _)⟩
        · exact p.elim
  | _ => cases ds with
    | nil => exact p.elim
    | cons d ds => cases ds <;> exact p.elim
def pAppend : D → List D → PO := fun x ds S => match x, ds with
  | .ref i, [y] => (match S[i]? with
    | some (some (.lst xs)) => if xs.length < sizeLine then some (.non, S.set i (some (.lst (xs ++ [y])))) else none
    | _ => none)
  | _, _ => none
theorem mt_pAppend : MtR X "list.append" (rDM X.K pAppend) := fun pins s σ H x xs v us Q I rx rv ⟨W, S, d, ds, g, r1, r2, p⟩ => by
  cases r1 with
  | @ref i a h =>
    match ds, r2, p with
    | [y], r2, p =>
      obtain ⟨w, rfl, q⟩ := reps1 r2
      simp only [pAppend] at p
      split at p
      · rename_i zs hc
        split at p
        · rename_i hl
          obtain ⟨a', e1, e2, _, vs, e3, e4⟩ := g.cell i _ hc
          rw [h] at e1; cases e1
          exact mt_append pins s σ H _ _ v us Q I rx rv ⟨a, vs, w, rfl, rfl, e3, by rw [← e4.length]; exact hl, p W _ _ W.le_refl (g.put hc h ⟨_, upd_same, e4.append (.cons q .nil)⟩) .non⟩
        · exact p.elim
      · exact p.elim
  | _ => cases ds with
    | nil => exact p.elim
    | cons d ds => cases ds <;> exact p.elim
/-- o[i] = v -/
def pStore : PSt := fun o i v S => match o, i with
  | .ref n, .int k => (match S[n]? with
    | some (some (.lst xs)) => (ixN xs.length k).map fun j => S.set n (some (.lst (xs.set j v)))
    | _ => none)
  | _, _ => none
theorem set_pStore : PSet X (tDSet X.K pStore) := fun pins s σ H o i v ov iv u Q I r1 r2 r3 ⟨W, S, do_, di, dv, g, q1, q2, q3, p⟩ => by
  cases q1 with
  | @ref n a h =>
    cases q2 with
    | int k =>
      simp only [pStore] at p
      cases e : S[n]? with
      | none => rw [e] at p; exact p.elim
      | some c =>
        rw [e] at p
        match c, e, p with
        | some (.lst xs), e, p =>
          dsimp only at p
          cases e2 : ixN xs.length k with
          | none => rw [e2] at p; exact p.elim
          | some j =>
            rw [e2] at p
            obtain ⟨a', e1, _, _, vs, e3, e4⟩ := g.cell n _ e
            rw [h] at e1; cases e1
            exact set_list pins s σ H _ _ _ ov iv u Q I r1 r2 r3 ⟨a, vs, k, j, rfl, rfl, e3, by rw [← e4.length]; exact e2, p W _ W.le_refl (g.put e h ⟨_, upd_same, e4.set q3 j⟩)⟩
    | _ => exact p.elim
  | _ => cases q2 <;> exact p.elim
def oPart (m : Option ME) (δ : En) : M (Option Int) := match m with
  | none => M.pure none
  | some m => M.bind (m δ) fun d => match d with
    | .int i => M.pure (some i)
    | _ => M.bad
def tDO (K : PySem.W.Frag) (Wx : WX) (m : En → M (Option Int)) : TO := fun σ H Q => ∃ W S δ, Good K W S H ∧ REnv K W δ σ ∧ okP K (fun _ (a b : Option Int) => a = b) W (m δ S) σ Wx Q
theorem so_none : L2.PO X none (tDO X.K Wx (oPart none)) := ⟨fun pins s σ H Q I ⟨W, S, δ, g, r, p⟩ => (po_none (X := X)).run pins s σ H Q I (okP.pure (R := fun _ (a b : Option Int) => a = b) p g rfl)⟩
theorem so_some {m : ME} (h : SE X Wx e m) : L2.PO X (some e) (tDO X.K Wx (oPart (some m))) := ⟨fun pins s σ H Q I ⟨W, S, δ, g, r, p⟩ => (po_some h).run pins s σ H Q I ⟨W, S, δ, g, r, (okP.bind (R := Rep X.K) p).imp fun v H1 ⟨W1, S1, d, l1, g1, r1, p1⟩ => by
  cases r1 with
  | int i => exact ⟨i, rfl, okP.pure (R := fun _ (a b : Option Int) => a = b) p1 g1 rfl⟩
  | _ => exact p1.elim⟩⟩
def cutD (xs : List D) (lo hi : Option Int) : List D := (xs.drop (HT.sIx xs.length 0 lo)).take (HT.sIx xs.length xs.length hi - HT.sIx xs.length 0 lo)
theorem cutD_reps {K : PySem.W.Frag} {W : Wd} {xs : List D} {vs : List V} (r : Reps K W xs vs) (lo hi : Option Int) : Reps K W (cutD xs lo hi) (cutV vs lo hi) := by
  unfold cutD cutV
  rw [← r.length]
  exact (r.drop _).take _
def pCut : D → Option Int → Option Int → PO := fun x lo hi S => match x with
  | .str z => if z.length ≤ sizeLine then some (.str (cutS z lo hi), S) else none
  | .tup xs => newT (cutD xs lo hi) S
  | x => (lstOf S x).bind fun xs => newL (cutD xs lo hi) S
def rDSl (K : PySem.W.Frag) (f : D → Option Int → Option Int → PO) : V → Option Int → Option Int → Hp → VK → Prop := fun x lo hi H Q => ∃ W S d, Good K W S H ∧ Rep K W d x ∧ oV K W (f d lo hi S) Q
theorem sl_pCut : SlR X (rDSl X.K pCut) := fun pins s σ H x v vl vu lo hi sl Q I rx hs pl pu ⟨W, S, d, g, r1, p⟩ => by
  have ls : oV X.K W ((lstOf S d).bind fun xs => newL (cutD xs lo hi) S) Q → ∃ T id, typeLookup (.type T) "__getitem__" = pure (some (.builtin id)) ∧ s.TypeIs v T ∧ wpAny (model X.prog X.w) X.A (getItem v (.ref sl)) (EP X pins σ Q) X.xe s := fun p => by
    cases e : lstOf S d with
    | none => rw [e] at p; exact p.elim
    | some xs =>
      rw [e] at p
      obtain ⟨a, vs, rfl, h1, h2⟩ := lstOf_ok e g r1
      exact sl_list pins s σ H _ v vl vu lo hi sl Q I rx hs pl pu ⟨a, vs, rfl, h1, (newL_ok p g (cutD_reps h2 lo hi)).2⟩
  cases r1 with
  | str z =>
    simp only [pCut] at p
    split at p
    · exact sl_str pins s σ H _ v vl vu lo hi sl Q I rx hs pl pu ⟨z, rfl, by assumption, p.val g (.str _)⟩
    · exact p.elim
  | @tup a vs ds q r =>
    simp only [pCut] at p
    refine sl_tupA pins s σ H _ v vl vu lo hi sl Q I rx hs pl pu ⟨a, vs, rfl, g.sqT q, fun h => ?_, fun h => (newT_ok p g (cutD_reps r lo hi)).2⟩
    have ec : cutD ds lo hi = ds := by
      unfold cutD
      rw [r.length, h.1, h.2]
      simp [← r.length]
    rw [ec] at p
    unfold newT at p
    split at p
    · exact p.val g (.tup q r)
    · exact p.elim
  | _ => exact ls p
def eCut (mo : ME) (ml mh : Option ME) : ME := fun δ => M.bind (mo δ) fun x => M.bind (oPart ml δ) fun lo => M.bind (oPart mh δ) fun hi => lft (pCut x lo hi)
theorem se_cut {lo hi : Option Expr} {ml mh : Option ME} {p2 : Pos} (ho : SE X Wx o mo) (hl : L2.PO X lo (tDO X.K Wx (oPart ml))) (hh : L2.PO X hi (tDO X.K Wx (oPart mh))) : SE X Wx (.Subscript o (.Slice lo hi none p2) pos) (eCut mo ml mh) :=
  PE.imp (pe_slice sl_pCut ho hl hh) fun σ H Q ⟨W, S, δ, g, r, p⟩ => ⟨W, S, δ, g, r, (okP.bind (R := Rep X.K) p).imp fun v H1 ⟨W1, S1, x, l1, g1, r1, p1⟩ =>
    ⟨W1, S1, δ, g1, r.mono l1, (okP.bind (R := fun _ (a b : Option Int) => a = b) p1).imp fun a H2 ⟨W2, S2, a', l2, g2, ea, p2⟩ => by
      subst ea
      exact ⟨W2, S2, δ, g2, r.mono (l1.trans l2), (okP.bind (R := fun _ (a b : Option Int) => a = b) p2).imp fun b H3 ⟨W3, S3, b', l3, g3, eb, p3⟩ => by
        subst eb
        exact ⟨W3, S3, x, g3, r1.mono (l2.trans l3), p3.lft⟩⟩⟩⟩
theorem se_ix {i : Expr} {mi : ME} (ho : SE X Wx o mo) (hi : SE X Wx i mi) (hs : PlainIx i) : SE X Wx (.Subscript o i pos) (eOp pIx mo mi) := PE.imp (pe_ix ix_pIx ho hi hs) tOp_of
/-- a type: a built-in one, a class of the text -/
inductive Ty where
  | blt (n : String) | own (c : Str)
  deriving DecidableEq
def Ty.val (K : PySem.W.Frag) : Ty → Value
  | .blt n => .type n
  | .own c => .ref (He.ga K c)
def tyOf (S : Store) : D → Option Ty
  | .non => some (.blt "NoneType")
  | .bl _ => some (.blt "bool")
  | .int _ => some (.blt "int")
  | .str _ => some (.blt "str")
  | .tup _ => some (.blt "tuple")
  | .lst _ => some (.blt "list")
  | .ins c _ => some (.own c)
  | .ref i => (match S[i]? with
    | some (some (.lst _)) => some (.blt "list")
    | some (some (.ins c _)) => some (.own c)
    | some (some (.dT _)) => some (.blt "dict")
    | some (some (.dK _)) => some (.blt "dict")
    | _ => none)
  | .dic _ => some (.blt "dict")
  | _ => none
/-- what is known of the types -/
structure IsiOk (K : PySem.W.Frag) (isi : Ty → Ty → Option Bool) : Prop where
  kit : ∀ t c b, isi t c = some b → PySem.W.kitOne K (t.val K) (c.val K) = some b
  own : ∀ c d b, isi (.own c) d = some b → Cls K (He.ga K c) ∧ PySem.W.findIn K (.ref (He.ga K c)) "__class__" = some (some (.builtin "object.__class__")) ∧
    PySem.W.specialIn K (.builtin "object.__class__") "__get__" = some (some (.builtin "getset_descriptor.__get__")) ∧ PySem.W.takesIn K (.builtin "object.__class__") = some true ∧ PySem.W.mroIn K (He.ga K c) (.type "object") = some true
theorem tyOf_ok {K : PySem.W.Frag} {isi : Ty → Ty → Option Bool} {W : Wd} {S : Store} {H : Hp} {d : D} {v : V} {t c : Ty} {b : Bool} (k : IsiOk K isi) (e : tyOf S d = some t) (eb : isi t c = some b) (g : Good K W S H) (r : Rep K W d v) : TyX K H v (t.val K) := by
  have ins : ∀ {a dx : Addr} {c' : Str} {vfs : List (Str × V)}, H a = some (.ins (He.ga K c') dx vfs) → t = .own c' → v = .ref a → TyX K H v (t.val K) := fun {a dx c' vfs} h et ev => by
    subst et ev
    obtain ⟨h1, h2, h3, h4, h5⟩ := k.own c' c b eb
    exact .base (.ins h h1 h2 h3 h4 h5)
  cases r with
  | non => cases e; exact .base .non
  | bl x => cases e; exact .base (.bl x)
  | int x => cases e; exact .base (.int x)
  | str x => cases e; exact .base (.str x)
  | @tup a vs ds q r =>
    cases e
    rcases g.sqT q with q | ⟨o, its, n, hk, hc, _⟩
    · rcases q with q | ⟨ob, q⟩
      · exact .base (.tup q)
      · exact .fTuple q
    · exact .kTuple hk hc
  | lst q r => cases e; exact .base (.lst (g.sub _ _ q))
  | ins h1 h2 h3 => cases e; exact ins (g.sub _ _ h1) rfl rfl
  | @ref i a h =>
    simp only [tyOf] at e
    split at e
    · rename_i xs hc
      cases e
      obtain ⟨a', e1, _, _, vs, e3, e4⟩ := g.cell i _ hc
      rw [h] at e1; cases e1
      exact .base (.lst e3)
    · rename_i c' fs hc
      cases e
      obtain ⟨a', e1, _, _, dx, vfs, e3, e4, e5⟩ := g.cell i _ hc
      rw [h] at e1; cases e1
      exact ins e3 rfl rfl
    · rename_i kvs hc
      cases e
      obtain ⟨a', e1, _, _, vk, e3, e4⟩ := g.cell i _ hc
      rw [h] at e1; cases e1
      exact .base (.dT e3)
    · rename_i kvs hc
      cases e
      obtain ⟨a', e1, _, _, vk, e3, e4⟩ := g.cell i _ hc
      rw [h] at e1; cases e1
      exact .base (.dK e3)
    · cases e
  | dic q1 q2 q3 => cases e; exact .base (.dK (g.sub _ _ q1))
  | _ => cases e
def eIsi (isi : Ty → Ty → Option Bool) (c : Ty) (mo : ME) : ME := fun δ => M.bind (mo δ) fun x S => match (tyOf S x).bind fun t => isi t c with
  | some b => .ok (.bl b) S
  | none => .bad
theorem se_isi {isi : Ty → Ty → Option Bool} {p p2 : Pos} {c : Ty} {ce : Expr} {cv : V} (k : IsiOk X.K isi) (ho : SE X Wx o mo) (hc : PE X ce (tC cv)) (hcv : ClsV cv (c.val X.K)) (hgl : Gl X "isinstance") (hm : X.mg "isinstance" = none)
    (h1 : starEach [o, ce] X.env = (false, eval o X.env) :: starEach [ce] X.env) (h2 : starEach [ce] X.env = (false, eval ce X.env) :: starEach [] X.env) :
    SE X Wx (.Call (.Name "isinstance" p) [o, ce] [] pos) (eIsi isi c mo) :=
  PE.imp (pe_callB call_isi hgl hm (by decide +kernel) (pa_cons ho (pa_cons hc pa_nil h2) h1) (by decide) (by decide) h1 (by rw [h2]; rfl)) fun σ H Q ⟨W, S, δ, g, r, p⟩ => ⟨W, S, δ, g, r, (okP.bind (R := Rep X.K) p).imp fun v H1 ⟨W1, S1, d, l1, g1, r1, p1⟩ => by
    cases e : tyOf S1 d with
    | none => rw [e] at p1; exact p1.elim
    | some t =>
      rw [e] at p1
      simp only [Option.bind_some] at p1
      cases e2 : isi t c with
      | none => rw [e2] at p1; exact p1.elim
      | some b =>
        rw [e2] at p1
        exact ⟨v, cv, t.val X.K, c.val X.K, b, rfl, hcv, tyOf_ok k e e2 g1 r1, k.kit t c b e2, p1 W1 H1 _ W1.le_refl g1 (.bl b)⟩⟩
end
end Ev
namespace Ev
open PySem PySem.Spec PySem.SeqAt L2 PyProof.Rows
section
variable {K : PySem.W.Frag} {W W' : Wd}
mutual
theorem Rep.mono0 (hf : ∀ a o, W.F a = some o → W'.F a = some o) (hm : ∀ (i : Nat) a, W.m[i]? = some a → W'.m[i]? = some a) : ∀ {d : D} {v : V}, Rep K W d v → Rep K W' d v
  | _, _, .non => .non
  | _, _, .bl b => .bl b
  | _, _, .int i => .int i
  | _, _, .str x => .str x
  | _, _, .tup q r => .tup (by
      rcases q with q | q
      · exact .inl (rd_sub hf q)
      · exact .inr q) (Reps.mono0 hf hm r)
  | _, _, .lst q r => .lst (hf _ _ q) (Reps.mono0 hf hm r)
  | _, _, .scr q => .scr (by
      rcases q with q | q
      · exact .inl (rd_sub hf q)
      · exact .inr q)
  | _, _, .ins e k r => .ins (hf _ _ e) k (Reps.mono0 hf hm r)
  | _, _, .ref e => .ref (hm _ _ e)
  | _, _, .fn x => .fn x
  | _, _, .dic e k r => .dic (hf _ _ e) k (Reps.mono0 hf hm r)
  | _, _, .exn0 => .exn0
  | _, _, .exn1 e k r => .exn1 (hf _ _ e) k (Reps.mono0 hf hm r)
  | _, _, .lam e r => .lam (hf _ _ e) (Reps.mono0 hf hm r)
theorem Reps.mono0 (hf : ∀ a o, W.F a = some o → W'.F a = some o) (hm : ∀ (i : Nat) a, W.m[i]? = some a → W'.m[i]? = some a) : ∀ {ds : List D} {vs : List V}, Reps K W ds vs → Reps K W' ds vs
  | _, _, .nil => .nil
  | _, _, .cons r t => .cons (Rep.mono0 hf hm r) (Reps.mono0 hf hm t)
end
theorem CellAt.mono0 {H : Hp} {a : Addr} (hf : ∀ a o, W.F a = some o → W'.F a = some o) (hm : ∀ (i : Nat) a, W.m[i]? = some a → W'.m[i]? = some a) : ∀ {c : Cell}, CellAt K W H a c → CellAt K W' H a c
  | .lst _, ⟨vs, e, r⟩ => ⟨vs, e, r.mono0 hf hm⟩
  | .ins _ _, ⟨dx, vfs, e, k, r⟩ => ⟨dx, vfs, e, k, r.mono0 hf hm⟩
  | .dT _, ⟨vk, e, k, r⟩ => ⟨vk, e, k, r.mono0 hf hm⟩
  | .dK _, ⟨vk, e, k, r⟩ => ⟨vk, e, k, r.mono0 hf hm⟩
  | .tab _, ⟨ps, e, k, r⟩ => ⟨ps, e, k, fun p v z => (r p v z).imp fun c ⟨z1, z2⟩ => ⟨z1, hf _ _ z2⟩⟩
variable {S : Store} {H : Hp}
/-- another self; less privacy -/
theorem Good.other (g : Good K W S H) {P : Hp} {sf : Option Addr} (h : ∀ a o, P a = some o → W.P a = some o) : Good K ⟨W.F, W.m, P, sf⟩ S H where
  sub := g.sub
  len := g.len
  cell := fun i c e => by
    obtain ⟨a, e1, e2, e3, e4⟩ := g.cell i c e
    refine ⟨a, e1, e2, ?_, CellAt.mono0 (W := W) (W' := ⟨W.F, W.m, P, sf⟩) (fun _ _ h => h) (fun _ _ h => h) e4⟩
    show P a = none
    cases q : P a with
    | none => rfl
    | some o => rw [h a o q] at e3; cases e3
  inj := g.inj
  prv := fun a o e => g.prv a o (h a o e)
  ptup := fun a xs e => g.ptup a xs (h a _ e)
/-- a new object that nothing speaks of -/
theorem Good.skip (g : Good K W S H) {p : Addr} {o : HO} (n : H p = none) : Good K W S (upd H p o) where
  sub := fun a u e => by rw [upd_ne (ne_of_none (g.sub a u e) n)]; exact g.sub a u e
  len := g.len
  cell := fun i c e => by
    obtain ⟨a, e1, e2, e3, e4⟩ := g.cell i c e
    obtain ⟨u, q⟩ := e4.there
    exact ⟨a, e1, e2, e3, e4.eqH (upd_ne (ne_of_none q n))⟩
  inj := g.inj
  prv := fun a u e => by
    obtain ⟨h1, h2⟩ := g.prv a u e
    exact ⟨by rw [upd_ne (ne_of_none h1 n)]; exact h1, h2⟩
  ptup := g.ptup
end
/-- the instance that is being filled -/
structure Ini (K : PySem.W.Frag) (c : Str) (W : Wd) (fs : List (Str × D)) (P0 : Hp) (a dx : Addr) : Prop where
  sf : W.sf = some a
  n : P0 a = none
  p : ∃ vfs, W.P = upd P0 a (.ins (He.ga K c) dx vfs) ∧ vfs.map (·.1) = fs.map (·.1) ∧ Reps K W (fs.map (·.2)) (vfs.map (·.2))
theorem Ini.mono {K : PySem.W.Frag} {c : Str} {W W' : Wd} {fs : List (Str × D)} {P0 : Hp} {a dx : Addr} (i : Ini K c W fs P0 a dx) (l : W.le W') : Ini K c W' fs P0 a dx := by
  obtain ⟨vfs, h1, h2, h3⟩ := i.p
  exact ⟨l.sq.trans i.sf, i.n, vfs, l.pp.trans h1, h2, h3.mono l⟩
inductive FlI where
  | nx (δ : En) (fs : List (Str × D)) (S : Store)
  | exc (x : Xc) (S : Store)
  | bad
abbrev MI := En → List (Str × D) → Store → FlI
def iP (K : PySem.W.Frag) (c : Str) (P0 : Hp) (a dx : Addr) (W : Wd) (r : FlI) (Wx : WX) (E : Ends) : Prop := match r with
  | .nx δ fs S => ∀ W' H' σ, W.lf W' → Good K W' S H' → REnv K W' δ σ → Ini K c W' fs P0 a dx → E.nx σ H'
  | .exc x S => ∀ W' H' σ cls d, W.lf W' → Good K W' S H' → (∃ o, W'.P = upd P0 a o) → XRep K W' x cls d → Wx cls d σ H'
  | .bad => False
theorem iP.mono {K : PySem.W.Frag} {c : Str} {P0 : Hp} {a dx : Addr} {W W1 : Wd} {r : FlI} {Wx : WX} {E : Ends} (h : W.lf W1) (p : iP K c P0 a dx W r Wx E) : iP K c P0 a dx W1 r Wx E := by
  cases r with
  | nx δ fs S => exact fun W' H' σ l => p W' H' σ (h.trans l)
  | exc x S => exact fun W' H' σ cls d l => p W' H' σ cls d (h.trans l)
  | bad => exact p
def tI (K : PySem.W.Frag) (Wx : WX) (c : Str) (m : MI) : TS := fun E σ H => ∃ W S δ a dx fs P0, Good K W S H ∧ REnv K W δ σ ∧ Ini K c W fs P0 a dx ∧ iP K c P0 a dx W (m δ fs S) Wx E
abbrev SBI (X : Cx) (Wx : WX) (c : Str) (body : List Stmt) (m : MI) : Prop := PSs X body (tI X.K Wx c m)
section
variable {X : Cx} {Wx : WX} {c : Str} {st : Stmt} {sts : List Stmt} {ms : MS} {mi : MI} {e o : Expr} {m : ME} {pos : Pos}
def iEnd : MI := fun δ fs S => .nx δ fs S
def iOrd (ms : MS) (mi : MI) : MI := fun δ fs S => match ms δ S with
  | .nx δ' S' => mi δ' fs S'
  | .exc x _ S' => .exc x S'
  | _ => .bad
theorem sbi_nil : SBI X Wx c [] iEnd := PSs.imp pss_nil fun E σ H ⟨W, S, δ, a, dx, fs, P0, g, r, i, p⟩ => p W H σ W.le_refl.toLf g r i
theorem sbi_ord (h1 : SS X Wx st ms) (h2 : SBI X Wx c sts mi) : SBI X Wx c (st :: sts) (iOrd ms mi) :=
  PSs.imp (pss_cons h1 h2) fun E σ H ⟨W, S, δ, a, dx, fs, P0, g, r, i, p⟩ => ⟨W, S, δ, g, r, by
    unfold iOrd at p
    cases e : ms δ S with
    | nx δ' S' =>
      rw [e] at p
      exact fun W' H' σ' l g' r' => ⟨W', S', δ', a, dx, fs, P0, g', r', i.mono l, p.mono l⟩
    | exc x δ' S' =>
      rw [e] at p
      intro W' H' σ' cls d l g' r' x'
      obtain ⟨vfs, h1, _⟩ := i.p
      exact p W' H' σ' cls d l g' ⟨_, l.pp.trans h1⟩ x'
    | rt d S' => rw [e] at p; exact p.elim
    | bk δ' S' => rw [e] at p; exact p.elim
    | ct δ' S' => rw [e] at p; exact p.elim
    | bad => rw [e] at p; exact p.elim⟩
/-- o.f as a target -/
theorem pg_fld {f : Str} {ta : TE} (ha : PE X o ta) : PG X (.Attribute o f pos) (fun v σ H Q => ta σ H fun x H1 => ∃ a C dx fs, x = .ref a ∧ H1 a = some (.ins C dx fs) ∧ Cls X.K C ∧ NoAttr X.K C f ∧ fs.length < 1000 ∧ Q σ (upd H1 a (.ins C dx (putF f v fs)))) := by
  refine ⟨fun pins s σ H v u Q I r h => ?_⟩
  rw [assign_Attribute]
  refine wpAny_bind (wpAny_holding (thn (ha.run pins s σ H _ I h) fun ov s1 ⟨x, H1, I1, rx, a, C, dx, fs, ex, ea, c, n, l, q⟩ => ?_))
  subst ex
  obtain rfl : ov = Value.ref a := rx
  refine wpAny_bind (wpAny_standAt (wpAny_bind (wpAny_holding (setattr_ok I1 ea c n l r fun s3 I3 => wpAny_release ⟨σ, _, I3, q⟩))))
def putD (f : Str) (v : D) : List (Str × D) → List (Str × D)
  | [] => [(f, v)]
  | (g, x) :: r => if g = f then (g, v) :: r else (g, x) :: putD f v r
theorem put_reps {K : PySem.W.Frag} {W : Wd} {f : Str} {d : D} {v : V} (q : Rep K W d v) : ∀ {fs : List (Str × D)} {vfs : List (Str × V)}, vfs.map (·.1) = fs.map (·.1) → Reps K W (fs.map (·.2)) (vfs.map (·.2)) → (putF f v vfs).map (·.1) = (putD f d fs).map (·.1) ∧ Reps K W ((putD f d fs).map (·.2)) ((putF f v vfs).map (·.2))
  | [], [], _, _ => ⟨rfl, .cons q .nil⟩
  | [], _ :: _, e, _ => by cases e
  | _ :: _, [], e, _ => by cases e
  | (x, dx) :: fs, (y, vy) :: vfs, e, r => by
    simp only [List.map_cons, List.cons.injEq] at e
    obtain ⟨rfl, e⟩ := e
    cases r with
    | cons r1 r2 =>
      simp only [putD, putF]
      split
      · exact ⟨by simp [e], .cons q r2⟩
      · obtain ⟨h1, h2⟩ := put_reps q e r2
        exact ⟨by simp [h1], .cons r1 h2⟩
/-- the attributes ps set to ds -/
def putAll : List Str → List D → List (Str × D) → Option (List (Str × D))
  | [], [], fs => some fs
  | p :: ps, d :: ds, fs => if fs.length < 1000 then putAll ps ds (putD p d fs) else none
  | _, _, _ => none
def oI (K : PySem.W.Frag) (c : Str) (P0 : Hp) (a dx : Addr) (W : Wd) (δ : En) (S : Store) (r : Option (List (Str × D))) (Q : L2.St → Hp → Prop) : Prop := match r with
  | some fs => ∀ W' H' σ, W.lf W' → Good K W' S H' → REnv K W' δ σ → Ini K c W' fs P0 a dx → Q σ H'
  | none => False
theorem oI.mono {K : PySem.W.Frag} {P0 : Hp} {a dx : Addr} {W W1 : Wd} {δ : En} {S : Store} {r : Option (List (Str × D))} {Q : L2.St → Hp → Prop} (h : W.lf W1) (p : oI K c P0 a dx W δ S r Q) : oI K c P0 a dx W1 δ S r Q := by
  cases r with
  | none => exact p
  | some fs => exact fun W' H' σ l => p W' H' σ (h.trans l)
def tGI (K : PySem.W.Frag) (c f : Str) : TG := fun v σ H Q => ∃ W S δ a dx fs P0 d, Good K W S H ∧ REnv K W δ σ ∧ δ[0]? = some (some .slf) ∧ Ini K c W fs P0 a dx ∧ Rep K W d v ∧ fs.length < 1000 ∧ oI K c P0 a dx W δ S (some (putD f d fs)) Q
def tGIs (K : PySem.W.Frag) (c : Str) (ps : List Str) : TGs := fun vs σ H Q => ∃ W S δ a dx fs P0 ds, Good K W S H ∧ REnv K W δ σ ∧ δ[0]? = some (some .slf) ∧ Ini K c W fs P0 a dx ∧ Reps K W ds vs ∧ oI K c P0 a dx W δ S (putAll ps ds fs) Q
/-- self.f -/
theorem sgi {x f : Str} {px : Pos} (hN : X.N[0]? = some x) (hv : Vis X.env.scope x) (hd : (x == ("__debug__" : Str)) = false) (hcd : (x == ("__classdict__" : Str)) = false) (hc : Cls X.K (He.ga X.K c) ∧ NoAttr X.K (He.ga X.K c) f) : PG X (.Attribute (.Name x px) f pos) (tGI X.K c f) :=
  PG.imp (pg_fld (pe_var hN hv hd hcd)) fun v σ H Q ⟨W, S, δ, a, dx, fs, P0, d, g, r, e0, i, q, hl, p⟩ => by
    obtain ⟨v0, h0, s0⟩ := r.2 0 _ e0
    rcases s0 with s0 | ⟨_, a', ha, rfl⟩
    · cases s0
    · rw [i.sf] at ha; cases ha
      obtain ⟨vfs, h1, h2, h3⟩ := i.p
      have hP : W.P a = some (.ins (He.ga X.K c) dx vfs) := by rw [h1, upd_same]
      have hH := (g.prv a _ hP).1
      obtain ⟨k1, k2⟩ := put_reps (f := f) q h2 h3
      refine ⟨.ref a, h0, a, _, dx, vfs, rfl, hH, hc.1, hc.2, by have := congrArg List.length h2; simp at this; omega, ?_⟩
      have l : W.lf (W.prv a (.ins (He.ga X.K c) dx (putF f v vfs))) := W.prv_lf _ _
      refine p _ _ σ l (g.updPrv hP) (r.mono l) ⟨i.sf, i.n, _, ?_, k1, k2.mono l⟩
      show upd W.P a _ = upd P0 a _
      rw [h1]
      funext b
      by_cases hb : b = a
      · subst hb; rw [upd_same, upd_same]
      · rw [upd_ne hb, upd_ne hb, upd_ne hb]
theorem sgis_nil : PGs X [] (tGIs X.K c []) := PGs.imp pgs_nil fun v σ H Q ⟨W, S, δ, a, dx, fs, P0, ds, g, r, e0, i, q, p⟩ => by
  cases q with
  | nil => exact ⟨rfl, p W H σ W.le_refl.toLf g r i⟩
  | cons _ _ => exact p.elim
theorem sgis_cons {es : List Expr} {f : Str} {ps : List Str} (h1 : PG X e (tGI X.K c f)) (h2 : PGs X es (tGIs X.K c ps)) (hs : (assignEach (e :: es) X.env).map (·.2) = assign e X.env :: (assignEach es X.env).map (·.2)) : PGs X (e :: es) (tGIs X.K c (f :: ps)) :=
  PGs.imp (pgs_cons h1 h2 hs) fun v σ H Q ⟨W, S, δ, a, dx, fs, P0, ds, g, r, e0, i, q, p⟩ => by
    cases q with
    | nil => exact p.elim
    | @cons d v ds vs q1 q2 =>
      simp only [putAll] at p
      split at p
      · rename_i hl
        exact ⟨v, vs, rfl, W, S, δ, a, dx, fs, P0, d, g, r, e0, i, q1, hl, fun W' H' σ' l g' r' i' => ⟨W', S, δ, a, dx, _, P0, ds, g', r', e0, i', q2.mono l, p.mono l⟩⟩
      · exact p.elim
/-- self.f = e -/
def isSlf : En → Bool
  | some D.slf :: _ => true
  | _ => false
theorem isSlf_of {δ : En} (h : isSlf δ = true) : δ[0]? = some (some D.slf) := by
  unfold isSlf at h
  split at h
  · rfl
  · cases h
def iSets (m : ME) (ps : List Str) (mi : MI) : MI := fun δ fs S => match m δ S with
  | .ok (D.tup ds) S' => if isSlf δ then (match putAll ps ds fs with
    | some fs' => mi δ fs' S'
    | none => .bad) else .bad
  | .exc x S' => .exc x S'
  | _ => .bad
theorem putAll_len : ∀ {ps : List Str} {ds : List D} {fs fs' : List (Str × D)}, putAll ps ds fs = some fs' → ds.length = ps.length
  | [], [], _, _, _ => rfl
  | _ :: _, _ :: _, fs, _, e => by
    simp only [putAll] at e
    split at e
    · simp [putAll_len e]
    · cases e
  | [], _ :: _, _, _, e => by simp [putAll] at e
  | _ :: _, [], _, _, e => by simp [putAll] at e
theorem sbi_sets {ps : List Str} {es : List Expr} {k n : Nat} {pt : Pos} (hc : X.calm = true) (he : SE X Wx e m) (hg : PGs X es (tGIs X.K c ps)) (h2 : SBI X Wx c sts mi) (hn : (assignEach es X.env).length = ps.length) (hst : (assignEach es X.env).findIdx? (·.1) = none)
    (hs : swapsWithSole [.Tuple es k pt] e pos.line X.env = pure false) (hw : swappedStores [.Tuple es k pt] e X.env = pure none) (h1 : (assignEach [.Tuple es k pt] X.env).map (·.2) = [assign (.Tuple es k pt) X.env]) :
    SBI X Wx c (.Assign [.Tuple es k pt] e pos :: sts) (iSets m ps mi) :=
  PSs.imp (pss_cons (ps_asg he (pg_tup hc hg hn hst) hs hw h1) h2) fun E σ H ⟨W, S, δ, a, dx, fs, P0, g, r, i, p⟩ => ⟨W, S, δ, g, r, by
    unfold iSets at p
    cases e1 : m δ S with
    | bad => rw [e1] at p; exact p.elim
    | exc x S' =>
      rw [e1] at p
      intro W' H' cls d l g' x'
      obtain ⟨vfs, h1, _⟩ := i.p
      exact p W' H' σ cls d l g' ⟨_, l.pp.trans h1⟩ x'
    | ok d S' =>
      rw [e1] at p
      cases d with
      | tup ds =>
        dsimp only at p
        split at p
        · rename_i hs
          have hs := isSlf_of hs
          cases e2 : putAll ps ds fs with
          | none => rw [e2] at p; exact p.elim
          | some fs' =>
            rw [e2] at p
            intro W' H' v l g' q
            cases q with
            | @tup a2 vs ds q1 q2 =>
              exact ⟨a2, vs, rfl, g'.sqT q1, by rw [← q2.length]; exact putAll_len e2, W', S', δ, a, dx, fs, P0, ds, g', r.mono l, hs, i.mono l, q2, by
                rw [e2]
                exact fun W2 H2 σ2 l2 g2 r2 i2 => ⟨W2, S', δ, a, dx, _, P0, g2, r2, i2, p.mono (l.toLf.trans l2)⟩⟩
        · exact p.elim
      | _ => exact p.elim⟩
end
end Ev
namespace EvZ
open PySem PySem.Spec PySem.SeqAt L2 PyProof.Rows
section
variable {prog : Program} {w : World} {A : Around} {E : Value → Shared → Prop} {s : Shared}
/-- a source: is it a tuple; its iterator; the sequence; its items -/
structure Sr where
  tp : Bool
  it : Addr
  l : Addr
  xs : List Value
def ItAt (h : Heap) (k : Nat) (r : Sr) : Prop := match r.tp with
  | true => h.IsTupleIter r.it r.l k
  | false => h.IsListIter r.it r.l k
def SqAt (h : Heap) (r : Sr) : Prop := match r.tp with
  | true => h.IsTuple r.l r.xs.toArray
  | false => h.IsList r.l r.xs.toArray
theorem ItAt.at {h h' : Heap} {k : Nat} {r : Sr} (x : ItAt h k r) (e : ∀ o, h.get? r.it = some o → h'.get? r.it = some o) : ItAt h' k r := by
  obtain ⟨tp, it, l, xs⟩ := r
  cases tp with
  | true => obtain ⟨o, h1, h2⟩ := x; exact ⟨o, e o h1, h2⟩
  | false => obtain ⟨o, h1, h2⟩ := x; exact ⟨o, e o h1, h2⟩
theorem SqAt.at {h h' : Heap} {r : Sr} (x : SqAt h r) (e : ∀ o, h.get? r.l = some o → h'.get? r.l = some o) : SqAt h' r := by
  obtain ⟨tp, it, l, xs⟩ := r
  cases tp with
  | true => obtain ⟨o, h1, h2⟩ := x; exact ⟨o, e o h1, h2⟩
  | false => obtain ⟨o, h1, h2⟩ := x; exact ⟨o, e o h1, h2⟩
theorem ItAt.there {h : Heap} {k : Nat} {r : Sr} (x : ItAt h k r) : ∃ o, h.get? r.it = some o ∧ ∀ v, o.data ≠ .cell v := by
  obtain ⟨tp, it, l, xs⟩ := r
  cases tp with
  | true => obtain ⟨o, h1, h2, h3⟩ := x; exact ⟨o, h1, fun v z => by rw [h3] at z; cases z⟩
  | false => obtain ⟨o, h1, h2, h3⟩ := x; exact ⟨o, h1, fun v z => by rw [h3] at z; cases z⟩
theorem next_item {r : Sr} {k : Nat} {x : Value} {Q : Value → Shared → Prop} (hi : ItAt s.heap k r) (hs : SqAt s.heap r) (hx : r.xs[k]? = some x)
    (hQ : ∀ h', ItAt h' (k + 1) r → Heap.SameBut r.it s.heap h' → Q x { s with heap := h' }) : wpAny (model prog w) A (Builtin.SmallTypes.nextOf (.ref r.it)) Q E s := by
  obtain ⟨tp, it, l, xs⟩ := r
  cases tp with
  | true => exact wpAny_nextOf_tuple_item hi hs (by simpa using hx) hQ
  | false => exact wpAny_nextOf_list_item hi hs (by simpa using hx) hQ
theorem next_end {r : Sr} {k : Nat} {Q : Value → Shared → Prop} (hh : A.handled = none) (hi : ItAt s.heap k r) (hs : SqAt s.heap r) (hx : r.xs[k]? = none)
    (hE : ∀ h' e, Heap.ExtBut r.it s.heap h' → (∃ o, h'.get? e = some o ∧ o.cls = .type "StopIteration") → E (.ref e) { s with heap := h' }) : wpAny (model prog w) A (Builtin.SmallTypes.nextOf (.ref r.it)) Q E s := by
  obtain ⟨tp, it, l, xs⟩ := r
  cases tp with
  | true => exact wpAny_nextOf_tuple_end hh hi hs (by simpa using hx) hE
  | false => exact wpAny_nextOf_list_end hh hi hs (by simpa using hx) hE
abbrev Zp (h : Heap) (z TI TO : Addr) (f0 f1 : Value) : Prop := h.get? z = some { cls := .type "zip", dict := none, data := .fields #[f0, f1, .bool false, .ref TI, .ref TO], slots := #[] }
abbrev Tp (h : Heap) (T : Addr) (xs : List Value) : Prop := h.get? T = some { cls := .type "tuple", data := .seq xs.toArray }
/-- nothing stands in the way of another -/
structure Apart (z TI TO : Addr) (rs : List Sr) : Prop where
  TIz : TI ≠ z
  TOz : TO ≠ z
  TT : TI ≠ TO
  iz : ∀ r ∈ rs, r.it ≠ z ∧ r.it ≠ TI ∧ r.it ≠ TO
  lz : ∀ r ∈ rs, r.l ≠ z ∧ r.l ≠ TO ∧ ∀ q ∈ rs, r.l ≠ q.it
  nd : (rs.map (·.it)).Nodup
theorem Apart.inj {z TI TO : Addr} {rs : List Sr} (D : Apart z TI TO rs) {i j : Nat} {r q : Sr} (hi : rs[i]? = some r) (hj : rs[j]? = some q) (e : r.it = q.it) : i = j := by
  have h1 : (rs.map (·.it))[i]? = some r.it := by simp [hi]
  have h2 : (rs.map (·.it))[j]? = some q.it := by simp [hj]
  obtain ⟨a1, b1⟩ := List.getElem?_eq_some_iff.mp h1
  obtain ⟨a2, b2⟩ := List.getElem?_eq_some_iff.mp h2
  exact (List.getElem_inj D.nd).mp (b1.trans (e.trans b2.symm))
/-- the items of turn k -/
def row (rs : List Sr) (k : Nat) : List Value := rs.map fun r => r.xs.getD k .none
theorem free_none {z TI TO : Addr} {f0 f1 : Value} {Q : Bool → Shared → Prop} (hz : Zp s.heap z TI TO f0 f1) (h0 : f0 = .none ∨ ∃ T : Addr, f0 = rawInt T) (hf : f1 = .bool true ∨ f1 = .bool false)
    (hq : Q true s) (hq2 : ∀ h', Zp h' z TI TO f0 (.bool true) → Heap.SameBut z s.heap h' → Q false { s with heap := h' }) : wpAny (model prog w) A (Builtin.SmallTypes.ownedTupleIsFree (.ref z)) Q E s := by
  unfold Builtin.SmallTypes.ownedTupleIsFree
  refine wpAny_bind (wpAny_field hz rfl (x := f0) rfl ?_)
  rcases h0 with rfl | ⟨T, rfl⟩
  · exact wpAny_pure hq
  · show wpAny _ _ (loadIfAlive ((T : Int).toNat) >>= _) _ _ _
    rw [Int.toNat_natCast]
    refine wpAny_bind (show wpAny _ _ (loadIfAlive T) _ _ _ from fun _ _ _ => ?_)
    show wpAny _ _ (if (s.heap.get? T).isNone = true then _ else _) _ _ _
    cases e : s.heap.get? T with
    | none =>
      simp only [Option.isNone_none, if_true]
      exact wpAny_pure hq
    | some o =>
      simp only [Option.isNone_some, Bool.false_eq_true, if_false]
      refine wpAny_bind (wpAny_field hz rfl (x := f1) rfl ?_)
      rcases hf with rfl | rfl
      · rw [if_neg (show ¬ ((Value.bool true != Value.bool true) = true) from Bool.false_ne_true)]
        exact wpAny_pure (hq2 s.heap hz (Heap.SameBut.refl _ _))
      · rw [if_pos (show (Value.bool false != Value.bool true) = true from rfl)]
        exact wpAny_bind (wpAny_setField_rec hz (by simp) fun h₁ hz₁ hs₁ => wpAny_pure (hq2 h₁ hz₁ hs₁))
/-- what stands between two draws of one turn -/
structure Mid (h0 h : Heap) (z TI TO : Addr) (rs pre post : List Sr) (k : Nat) (f0 f1 : Value) : Prop where
  zp : Zp h z TI TO f0 f1
  pr : ∀ r ∈ pre, ItAt h (k + 1) r
  po : ∀ r ∈ post, ItAt h k r
  sz : h.objs.size = h0.objs.size
  fr : ∀ c o, c ≠ z → c ≠ TO → (∀ r ∈ rs, c ≠ r.it) → h0.get? c = some o → h.get? c = some o
theorem Mid.sq {h0 h : Heap} {z TI TO : Addr} {rs pre post : List Sr} {k : Nat} {f0 f1 : Value} (M : Mid h0 h z TI TO rs pre post k f0 f1) (D : Apart z TI TO rs) {r : Sr} (hr : r ∈ rs) (hs : SqAt h0 r) : SqAt h r :=
  hs.at fun o e => M.fr _ _ (D.lz r hr).1 (D.lz r hr).2.1 (D.lz r hr).2.2 e
theorem Mid.step {h0 h h' : Heap} {z TI TO : Addr} {rs pre post : List Sr} {r : Sr} {k : Nat} {f0 f1 : Value} (M : Mid h0 h z TI TO rs pre (r :: post) k f0 f1) (D : Apart z TI TO rs) (er : rs = pre ++ r :: post)
    (hi : ItAt h' (k + 1) r) (sb : Heap.SameBut r.it h h') : Mid h0 h' z TI TO rs (pre ++ [r]) post k f0 f1 := by
  have hr : r ∈ rs := by rw [er]; simp
  have nd := D.nd
  rw [er] at nd
  simp only [List.map_append, List.map_cons, List.nodup_append, List.nodup_cons, List.mem_map, List.mem_cons] at nd
  refine ⟨sb.extBut _ _ (D.iz r hr).1.symm M.zp, fun q hq => ?_, fun q hq => ?_, sb.1.trans M.sz, fun c o c1 c2 c3 e => sb.extBut _ _ (c3 r hr) (M.fr c o c1 c2 c3 e)⟩
  · rcases List.mem_append.mp hq with hq | hq
    · exact (M.pr q hq).at fun o e => sb.extBut _ _ (fun z => nd.2.2 q.it ⟨q, hq, rfl⟩ r.it (.inl rfl) z) e
    · obtain rfl := List.mem_singleton.mp hq
      exact hi
  · exact (M.po q (List.mem_cons_of_mem _ hq)).at fun o e => sb.extBut _ _ (fun z => nd.2.1.1 ⟨q, hq, z⟩) e
theorem Mid.put {h0 h h' : Heap} {z TI TO : Addr} {rs pre post : List Sr} {k : Nat} {f0 f1 : Value} (M : Mid h0 h z TI TO rs pre post k f0 f1) (D : Apart z TI TO rs) (er : rs = pre ++ post) (sb : Heap.SameBut TO h h') : Mid h0 h' z TI TO rs pre post k f0 f1 := by
  refine ⟨sb.extBut _ _ D.TOz.symm M.zp, fun q hq => (M.pr q hq).at fun o e => sb.extBut _ _ (D.iz q (by rw [er]; simp [hq])).2.2 e, fun q hq => (M.po q hq).at fun o e => sb.extBut _ _ (D.iz q (by rw [er]; simp [hq])).2.2 e, sb.1.trans M.sz,
    fun c o c1 c2 c3 e => sb.extBut _ _ c2 (M.fr c o c1 c2 c3 e)⟩
theorem Mid.ref {h0 : Heap} {z TI TO : Addr} {rs : List Sr} {k : Nat} {f0 f1 g0 g1 : Value} {h : Heap} (D : Apart z TI TO rs) (hz : Zp h z TI TO g0 g1) (sb : Heap.SameBut z h0 h) (hi : ∀ r ∈ rs, ItAt h0 k r) : Mid h0 h z TI TO rs [] rs k g0 g1 :=
  ⟨hz, (fun _ q => nomatch q), fun r hr => (hi r hr).at fun o e => sb.extBut _ _ (D.iz r hr).1 e, sb.1, fun c o c1 _ _ e => sb.extBut _ _ c1 e⟩
theorem upd_tup {T : Addr} {arr : List Value} {x : Value} {k : Nat} {Q : Unit → Shared → Prop} (hn : arr.length ≤ sizeLine) (hT : Tp s.heap T arr)
    (h : ∀ h', Tp h' T (arr.set k x) → Heap.SameBut T s.heap h' → Q () { s with heap := h' }) :
    wpAny (model prog w) A (updateSeq T (·.setIfInBounds k x)) Q E s := by
  refine wpAny_updateSeq (hz := by simpa using hn) (_hz' := by simpa using Nat.le_succ_of_le hn) hT rfl (h _ ?_ (Heap.SameBut.update ..))
  show Heap.get? _ _ = _
  rw [Heap.get?_update_self _ hT rfl]
  simp [Obj.mapSeq]
theorem zip_item {z TI TO : Addr} {rs : List Sr} {f0 f1 : Value} {arr : List Value} {k : Nat} {Q : Value → Shared → Prop} (D : Apart z TI TO rs) (hn : rs.length ≤ sizeLine) (hne : rs ≠ []) (hz : Zp s.heap z TI TO f0 f1) (h0 : f0 = .none ∨ ∃ T : Addr, f0 = rawInt T) (hf : f1 = .bool true ∨ f1 = .bool false)
    (hTI : Tp s.heap TI (rs.map fun r => .ref r.it)) (hTO : Tp s.heap TO arr) (ha : arr.length = rs.length) (hi : ∀ r ∈ rs, ItAt s.heap k r) (hs : ∀ r ∈ rs, SqAt s.heap r) (hk : ∀ r ∈ rs, k < r.xs.length)
    (hQ : ∀ h' g0 g1 arr', Zp h' z TI TO g0 g1 → (g0 = .none ∨ ∃ T : Addr, g0 = rawInt T) → (g1 = .bool true ∨ g1 = .bool false) → Tp h' TO arr' → arr'.length = rs.length → (∀ r ∈ rs, ItAt h' (k + 1) r) → Tp h' s.heap.objs.size (row rs k) → h'.objs.size = s.heap.objs.size + 1 →
      (∀ c o, c ≠ z → c ≠ TO → (∀ r ∈ rs, c ≠ r.it) → s.heap.get? c = some o → h'.get? c = some o) → Q (.ref s.heap.objs.size) { s with heap := h' }) :
    wpAny (model prog w) A (Builtin.«zip.__next__» ⟨[.ref z], []⟩) (fun fin s' => ∃ v, fin = .done (.ret v) ∧ Q v s') E s := by
  show wpAny _ _ (field (.ref z) 2 >>= _) _ _ _
  refine wpAny_bind (wpAny_field hz rfl (x := .bool false) rfl ?_)
  show wpAny _ _ (field (.ref z) 3 >>= _) _ _ _
  refine wpAny_bind (wpAny_field hz rfl (x := .ref TI) rfl ?_)
  refine wpAny_bind (wpAny_seqItems hTI rfl ?_)
  have hemp : (rs.map fun r => Value.ref r.it).toArray.isEmpty = false := by
    cases rs with
    | nil => exact absurd rfl hne
    | cons _ _ => simp
  have gk : ∀ r ∈ rs, r.xs[k]? = some (r.xs.getD k .none) := fun r hr => by
    rw [List.getD_eq_getElem?_getD, List.getElem?_eq_getElem (hk r hr)]; rfl
  simp only [hemp, Bool.false_eq_true, if_false, pure_bind]
  refine wpAny_bind (free_none hz h0 hf ?_ fun h₁ hz₁ hs₁ => ?_)
  · simp only [if_true]
    refine wpAny_bind (wpAny_rule ?_)
    refine wpAny_bind (wpAny_field hz rfl (x := .ref TO) rfl ?_)
    refine wpAny_bind (wpAny_setField_rec hz (by simp) fun h₁ hz₁ hs₁ => ?_)
    replace hz₁ : Zp h₁ z TI TO .ellipsis f1 := hz₁
    refine wpAny_bind ?_
    refine wpAny_forIn_list _ (fun rest b s' => ∃ pre post h arr', rs = pre ++ post ∧ rest = (post.map fun r => Value.ref r.it).zipIdx pre.length ∧ b = (none, ()) ∧ s' = { s with heap := h } ∧ Mid s.heap h z TI TO rs pre post k .ellipsis f1 ∧ Tp h TO (row pre k ++ arr') ∧ arr'.length = post.length) _ ?_ ?_ _ _
      ⟨[], rs, h₁, arr, rfl, rfl, rfl, rfl, .ref (h0 := s.heap) (f0 := f0) (f1 := f1) D hz₁ hs₁ hi, hs₁.extBut _ _ D.TOz hTO, ha⟩
    · rintro ⟨x, j⟩ rest b s' ⟨pre, post, h, arr', er, hrest, rfl, rfl, M, hT, hl⟩
      cases post with
      | nil => simp at hrest
      | cons r post =>
        have hr : r ∈ rs := by rw [er]; simp
        simp only [List.map_cons, List.zipIdx_cons, List.cons.injEq, Prod.mk.injEq] at hrest
        obtain ⟨⟨rfl, rfl⟩, rfl⟩ := hrest
        cases arr' with
        | nil => simp at hl
        | cons a0 arr' =>
          refine wpAny_bind (wpAny_onRaise ?_)
          show wpAny _ _ (Builtin.SmallTypes.nextOf (.ref r.it) >>= _) _ _ _
          refine wpAny_bind (next_item (s := { s with heap := h }) (M.po r (List.mem_cons_self ..)) (M.sq D hr (hs r hr)) (gk r hr) fun h₂ hi₂ sb₂ => wpAny_pure ?_)
          have M2 := M.step D er hi₂ sb₂
          have hT2 : Tp h₂ TO (row pre k ++ a0 :: arr') := sb₂.extBut _ _ (D.iz r hr).2.2.symm hT
          refine wpAny_bind (wpAny_seqItems (s := { s with heap := h₂ }) hT2 rfl ?_)
          refine wpAny_bind (upd_tup (s := { s with heap := h₂ }) (by rw [er] at hn; simp [row] at hn hl ⊢; omega) hT2 fun h₃ hT₃ sb₃ => ?_)
          refine wpAny_bind (wpAny_letGo (wpAny_pure ?_))
          have er' : rs = (pre ++ [r]) ++ post := by rw [er]; simp
          refine ⟨pre ++ [r], post, h₃, arr', er', by simp, rfl, rfl, M2.put D er' sb₃, ?_, by simpa using hl⟩
          have e : (row pre k ++ a0 :: arr').set pre.length (r.xs.getD k .none) = row (pre ++ [r]) k ++ arr' := by
            rw [List.set_append_right _ _ (by simp [row])]
            simp [row]
          rw [e] at hT₃
          exact hT₃
    · rintro b s' ⟨pre, post, h, arr', er, hrest, rfl, rfl, M, hT, hl⟩
      cases post with
      | cons r post => simp at hrest
      | nil =>
        cases arr' with
        | cons _ _ => simp at hl
        | nil =>
          have er' : pre = rs := by rw [er]; simp
          subst er'
          simp only [List.append_nil] at hT
          refine wpAny_bind (wpAny_seqItems (s := { s with heap := h }) hT rfl ?_)
          refine wpAny_bind (wpAny_newTuple (hsz := by simpa [row] using hn) ?_)
          refine wpAny_bind ?_
          show wpAny _ _ (Builtin.SmallTypes.ownedTupleHandOut (.ref z) (.ref h.objs.size)) _ _ _
          unfold Builtin.SmallTypes.ownedTupleHandOut
          have hzlt : z < h.objs.size := Heap.lt_size M.zp
          have up0 : ∀ c o, h.get? c = some o → (h.push { cls := .type "tuple", data := .seq (row pre k).toArray }).get? c = some o := fun c o e => Heap.get?_push_of_some _ e
          refine wpAny_bind (wpAny_setField_rec (up0 _ _ M.zp) (by simp) fun h₇ hz₇ hs₇ => ?_)
          replace hz₇ : Zp h₇ z TI TO (rawInt h.objs.size) f1 := hz₇
          refine wpAny_setField_rec hz₇ (by simp) fun h₈ hz₈ hs₈ => ?_
          replace hz₈ : Zp h₈ z TI TO (rawInt h.objs.size) (.bool false) := hz₈
          replace hs₇ : Heap.SameBut z (h.push { cls := .type "tuple", data := .seq (row pre k).toArray }) h₇ := hs₇
          replace hs₈ : Heap.SameBut z h₇ h₈ := hs₈
          have up : ∀ c o, c ≠ z → h.get? c = some o → h₈.get? c = some o := fun c o c1 e => hs₈.extBut _ _ c1 (hs₇.extBut _ _ c1 (up0 _ _ e))
          have hT₈ : Tp h₈ h.objs.size (row pre k) := hs₈.extBut _ _ (Nat.ne_of_gt hzlt) (hs₇.extBut _ _ (Nat.ne_of_gt hzlt) (Heap.get?_push_size _ rfl))
          have hz8 : h₈.objs.size = h.objs.size + 1 := by rw [hs₈.1, hs₇.1, Heap.size_push]
          refine wpAny_pure ⟨_, rfl, ?_⟩
          show Q (.ref h.objs.size) { s with heap := h₈ }
          rw [M.sz] at hT₈ hz8 ⊢
          exact hQ h₈ _ _ _ hz₈ (.inr ⟨_, rfl⟩) (.inr rfl) (up _ _ D.TOz hT) (by simp [row]) (fun r hr => (M.pr r hr).at fun o e => up _ _ (D.iz r hr).1 e) hT₈ hz8 fun c o c1 c2 c3 e => up _ _ c1 (M.fr c o c1 c2 c3 e)
  · simp only [Bool.false_eq_true, if_false]
    refine wpAny_bind ?_
    rw [← Array.forIn_toList]
    refine wpAny_forIn_list _ (fun rest b s' => ∃ pre post h, rs = pre ++ post ∧ rest = (post.map fun r => Value.ref r.it) ∧ b = (none, (row pre k).toArray) ∧ s' = { s with heap := h } ∧ Mid s.heap h z TI TO rs pre post k f0 (.bool true) ∧ Tp h TO arr) _ ?_ ?_ _ _
      ⟨[], rs, h₁, rfl, by simp, rfl, rfl, .ref (h0 := s.heap) (f0 := f0) (f1 := f1) D hz₁ hs₁ hi, hs₁.extBut _ _ D.TOz hTO⟩
    · rintro x rest b s' ⟨pre, post, h, er, hrest, rfl, rfl, M, hT⟩
      cases post with
      | nil => simp at hrest
      | cons r post =>
        have hr : r ∈ rs := by rw [er]; simp
        simp only [List.map_cons, List.cons.injEq] at hrest
        obtain ⟨rfl, rfl⟩ := hrest
        refine wpAny_bind (wpAny_holding ?_)
        show wpAny _ _ (Builtin.SmallTypes.nextOf (.ref r.it) >>= _) _ _ _
        refine wpAny_bind (next_item (s := { s with heap := h }) (M.po r (List.mem_cons_self ..)) (M.sq D hr (hs r hr)) (gk r hr) fun h₂ hi₂ sb₂ => wpAny_pure (wpAny_pure ?_))
        have er' : rs = (pre ++ [r]) ++ post := by rw [er]; simp
        exact ⟨pre ++ [r], post, h₂, er', rfl, by simp [row], rfl, M.step D er hi₂ sb₂, sb₂.extBut _ _ (D.iz r hr).2.2.symm hT⟩
    · rintro b s' ⟨pre, post, h, er, hrest, rfl, rfl, M, hT⟩
      cases post with
      | cons r post => simp at hrest
      | nil =>
        have er' : pre = rs := by rw [er]; simp
        subst er'
        show wpAny _ _ (newTuple (row pre k) >>= _) _ _ _
        refine wpAny_bind (wpAny_newTuple (hsz := by simpa [row] using hn) (wpAny_pure ⟨_, rfl, ?_⟩))
        have up : ∀ c o, h.get? c = some o → (h.push { cls := .type "tuple", data := .seq (row pre k).toArray }).get? c = some o := fun c o e => Heap.get?_push_of_some _ e
        have hT₈ : Tp (h.push { cls := .type "tuple", data := .seq (row pre k).toArray }) h.objs.size (row pre k) := Heap.get?_push_size _ rfl
        have hz8 : (h.push { cls := .type "tuple", data := .seq (row pre k).toArray }).objs.size = h.objs.size + 1 := Heap.size_push ..
        show Q (.ref h.objs.size) { s with heap := h.push { cls := .type "tuple", data := .seq (row pre k).toArray } }
        rw [M.sz] at hT₈ hz8 ⊢
        exact hQ _ _ _ _ (up _ _ M.zp) h0 (.inl rfl) (up _ _ hT) ha (fun r hr => (M.pr r hr).at fun o e => up _ _ e) hT₈ hz8 fun c o c1 c2 c3 e => up _ _ (M.fr c o c1 c2 c3 e)
end
end EvZ
namespace EvZ
open PySem PySem.Spec PySem.SeqAt L2 PyProof.Rows
theorem typeCall_zip (args : List Value) : checkTypeCall "zip" ⟨args, []⟩ = pure () := by kernel_rfl
theorem newCall_zip : ∀ (args : List Value), args.length ≤ 9 → checkBuiltinCall "zip.__new__" ⟨.type "zip" :: args, []⟩ = pure ()
  | [], _ => by kernel_rfl
  | [_], _ => by kernel_rfl
  | [_, _], _ => by kernel_rfl
  | [_, _, _], _ => by kernel_rfl
  | [_, _, _, _], _ => by kernel_rfl
  | [_, _, _, _, _], _ => by kernel_rfl
  | [_, _, _, _, _, _], _ => by kernel_rfl
  | [_, _, _, _, _, _, _], _ => by kernel_rfl
  | [_, _, _, _, _, _, _, _], _ => by kernel_rfl
  | [_, _, _, _, _, _, _, _, _], _ => by kernel_rfl
  | _ :: _ :: _ :: _ :: _ :: _ :: _ :: _ :: _ :: _ :: _, h => by simp at h
theorem init_zip (obj : Value) (args : List Value) : argsOk "object.__init__" ⟨obj :: args, []⟩ := by
  unfold argsOk; kernel_rfl
section
variable {prog : Program} {w : World} {A : Around} {E : Value → Shared → Prop} {s : Shared}
/-- new iterators over the sources -/
theorem iterAll_zip {rs0 : List Sr} {Q : List Value → Shared → Prop} (hs : ∀ r ∈ rs0, SqAt s.heap r)
    (hQ : ∀ (h' : Heap) (rs : List Sr), rs.map (fun r => (r.tp, r.l, r.xs)) = rs0.map (fun r => (r.tp, r.l, r.xs)) → (∀ r ∈ rs, ItAt h' 0 r) → rs.map (·.it) = List.range' s.heap.objs.size rs0.length → h'.objs.size = s.heap.objs.size + rs0.length → (∀ c o, s.heap.get? c = some o → h'.get? c = some o) →
      Q (rs.map fun r => .ref r.it) { s with heap := h' }) :
    wpAny (model prog w) A (Builtin.SmallTypes.iterAll (rs0.map fun r => .ref r.l)) Q E s := by
  unfold Builtin.SmallTypes.iterAll
  refine wpAny_bind ?_
  refine wpAny_forIn_list _ (fun rest b s' => ∃ (pre : List Sr) (pre0 post : List Sr) (h : Heap), rs0 = pre0 ++ post ∧ pre.map (fun r => (r.tp, r.l, r.xs)) = pre0.map (fun r => (r.tp, r.l, r.xs)) ∧ rest = (post.map fun r => Value.ref r.l) ∧ b = (pre.map fun r => Value.ref r.it).toArray ∧ s' = { s with heap := h } ∧ (∀ r ∈ pre, ItAt h 0 r) ∧
    pre.map (·.it) = List.range' s.heap.objs.size pre0.length ∧ h.objs.size = s.heap.objs.size + pre0.length ∧ ∀ c o, s.heap.get? c = some o → h.get? c = some o) _ ?_ ?_ _ _
    ⟨[], [], rs0, s.heap, rfl, rfl, rfl, rfl, rfl, (fun _ q => nomatch q), rfl, rfl, fun _ _ e => e⟩
  · rintro x rest b s' ⟨pre, pre0, post, h, er, em, hrest, rfl, rfl, hi, hr, hz, hk⟩
    cases post with
    | nil => simp at hrest
    | cons r post =>
      simp only [List.map_cons, List.cons.injEq] at hrest
      obtain ⟨rfl, rfl⟩ := hrest
      have hsq : SqAt h r := (hs r (by rw [er]; simp)).at fun o e => hk _ _ e
      refine wpAny_bind (wpAny_holding ?_)
      have key : ∀ o, (∀ hn : Heap, hn.get? h.objs.size = some o → ItAt hn 0 { r with it := h.objs.size }) → o.isFreed = false → wpAny (model prog w) A (pure (ForInStep.yield ((pre.map fun r => Value.ref r.it).toArray.push (Value.ref h.objs.size)))) (fun r s' => match r with
          | .yield b' => ∃ (pre : List Sr) (pre0 post_1 : List Sr) (h : Heap), rs0 = pre0 ++ post_1 ∧ pre.map (fun r => (r.tp, r.l, r.xs)) = pre0.map (fun r => (r.tp, r.l, r.xs)) ∧ (post.map fun r => Value.ref r.l) = (post_1.map fun r => Value.ref r.l) ∧ b' = (pre.map fun r => Value.ref r.it).toArray ∧ s' = { s with heap := h } ∧ (∀ r ∈ pre, ItAt h 0 r) ∧
            pre.map (·.it) = List.range' s.heap.objs.size pre0.length ∧ h.objs.size = s.heap.objs.size + pre0.length ∧ ∀ c o, s.heap.get? c = some o → h.get? c = some o
          | .done b' => wpAny (model prog w) A (pure b'.toList) Q E s') E { s with heap := h.push o } := fun o h1 h2 => by
        refine wpAny_pure ⟨pre ++ [{ r with it := h.objs.size }], pre0 ++ [r], post, h.push o, by rw [er]; simp, by simp [em], rfl, by simp, rfl, fun q hq => ?_, ?_, by rw [Heap.size_push, hz]; simp; omega, fun c o e => Heap.get?_push_of_some _ (hk c o e)⟩
        · rcases List.mem_append.mp hq with hq | hq
          · exact (hi q hq).at fun o e => Heap.get?_push_of_some _ e
          · obtain rfl := List.mem_singleton.mp hq
            exact h1 _ (Heap.get?_push_size _ h2)
        · simp [hr, List.range'_concat, hz]
      obtain ⟨tp, it, l, xs⟩ := r
      cases tp with
      | true => exact wpAny_pyIter_tuple (s := { s with heap := h }) hsq (key _ (fun hn e => ⟨_, e, rfl, rfl⟩) rfl)
      | false => exact wpAny_pyIter_list (s := { s with heap := h }) hsq (key _ (fun hn e => ⟨_, e, rfl, rfl⟩) rfl)
  · rintro b s' ⟨pre, pre0, post, h, er, em, hrest, rfl, rfl, hi, hr, hz, hk⟩
    cases post with
    | cons r post => simp at hrest
    | nil =>
      have er' : pre0 = rs0 := by rw [er]; simp
      subst er'
      exact wpAny_pure (hQ h pre em hi hr hz hk)
def ZipMade (rs0 : List Sr) (s : Shared) (Q : Value → Shared → Prop) : Prop :=
  ∀ (h' : Heap) (rs : List Sr), rs.map (fun r => (r.tp, r.l, r.xs)) = rs0.map (fun r => (r.tp, r.l, r.xs)) → (∀ r ∈ rs, ItAt h' 0 r) → rs.map (·.it) = List.range' s.heap.objs.size rs0.length → h'.objs.size = s.heap.objs.size + rs0.length + 3 → (∀ c o, s.heap.get? c = some o → h'.get? c = some o) →
      Zp h' (s.heap.objs.size + rs0.length + 2) (s.heap.objs.size + rs0.length) (s.heap.objs.size + rs0.length + 1) .none (.bool false) → Tp h' (s.heap.objs.size + rs0.length) (rs.map fun r => .ref r.it) → Tp h' (s.heap.objs.size + rs0.length + 1) (rs.map fun _ => .none) →
      Q (.ref (s.heap.objs.size + rs0.length + 2)) { s with heap := h' }
theorem meets_zip (rs0 : List Sr) (hn : rs0.length ≤ 9) : Meets (Builtin.«zip.__new__» ⟨.type "zip" :: (rs0.map fun r => .ref r.l), []⟩) (fun _ R s => (∀ r ∈ rs0, SqAt s.heap r) ∧ ZipMade rs0 s fun v s' => R (.ok (.ret v)) s') :=
  .of_wp fun prog w A R s ⟨hs, h⟩ => by
    unfold Builtin.«zip.__new__»
    refine wpAny_bind (m := Builtin.SmallTypes.newClass "zip" _) ?_
    unfold Builtin.SmallTypes.newClass
    show wpAny _ _ (isType (.type "zip") >>= _) _ _ _
    refine wpAny_bind (wpAny_pure ?_)
    simp only [Bool.not_true, Bool.false_eq_true, if_false, pure_bind]
    rw [sub_zip]
    simp only [pure_bind, Bool.not_true, Bool.false_eq_true, if_false]
    refine wpAny_pure ?_
    simp only [List.length_nil, gt_iff_lt, Nat.not_lt_zero, if_false, pure_bind]
    refine wpAny_bind (iterAll_zip hs fun h1 rs e1 e2 e3 e4 e5 => ?_)
    have el : rs.length = rs0.length := by simpa using congrArg List.length e1
    have en : rs.length ≤ sizeLine := by rw [el]; exact Nat.le_trans hn (by decide)
    refine wpAny_bind (wpAny_newTuple (hsz := by simpa using en) ?_)
    refine wpAny_bind (wpAny_newTuple (hsz := by simpa using en) ?_)
    generalize eh2 : h1.push { cls := Value.type "tuple", data := Data.seq (List.map (fun r => Value.ref r.it) rs).toArray } = h2
    generalize eh3 : h2.push { cls := Value.type "tuple", data := Data.seq (List.map (fun x => Value.none) (List.map (fun r => Value.ref r.it) rs)).toArray } = h3
    refine wpAny_bind ?_
    show wpAny _ _ (newObj (.type "zip") (.fields #[.none, .bool false, .bool false, .ref h1.objs.size, .ref h2.objs.size])) _ _ { s with heap := h3 }
    refine wpAny_newObj_type (wpAny_pure ⟨_, rfl, ?_⟩) (by size_fits)
    have z2 : h2.objs.size = h1.objs.size + 1 := by rw [← eh2]; exact Heap.size_push ..
    have z3 : h3.objs.size = h2.objs.size + 1 := by rw [← eh3]; exact Heap.size_push ..
    show R (.ok (.ret (.ref h3.objs.size))) { s with heap := h3.push { cls := .type "zip", dict := none, data := .fields #[.none, .bool false, .bool false, .ref h1.objs.size, .ref h2.objs.size], slots := #[] } }
    have g3 : ∀ c o, h1.get? c = some o → (h3.push { cls := .type "zip", dict := none, data := .fields #[.none, .bool false, .bool false, .ref h1.objs.size, .ref h2.objs.size], slots := #[] }).get? c = some o := fun c o e => by
      refine Heap.get?_push_of_some _ ?_
      rw [← eh3]; refine Heap.get?_push_of_some _ ?_
      rw [← eh2]; exact Heap.get?_push_of_some _ e
    have a1 : Tp (h3.push { cls := .type "zip", dict := none, data := .fields #[.none, .bool false, .bool false, .ref h1.objs.size, .ref h2.objs.size], slots := #[] }) h1.objs.size (rs.map fun r => .ref r.it) := by
      refine Heap.get?_push_of_some _ ?_
      rw [← eh3]; refine Heap.get?_push_of_some _ ?_
      rw [← eh2]; exact Heap.get?_push_size _ rfl
    have a2 : Tp (h3.push { cls := .type "zip", dict := none, data := .fields #[.none, .bool false, .bool false, .ref h1.objs.size, .ref h2.objs.size], slots := #[] }) h2.objs.size (rs.map fun _ => .none) := by
      refine Heap.get?_push_of_some _ ?_
      rw [← eh3]
      have := Heap.get?_push_size h2 (o := { cls := Value.type "tuple", data := Data.seq (List.map (fun x => Value.none) (List.map (fun r => Value.ref r.it) rs)).toArray }) rfl
      rw [List.map_map] at this ⊢
      exact this
    have a3 : Zp (h3.push { cls := .type "zip", dict := none, data := .fields #[.none, .bool false, .bool false, .ref h1.objs.size, .ref h2.objs.size], slots := #[] }) h3.objs.size h1.objs.size h2.objs.size .none (.bool false) := Heap.get?_push_size _ rfl
    have zz : (h3.push { cls := .type "zip", dict := none, data := .fields #[.none, .bool false, .bool false, .ref h1.objs.size, .ref h2.objs.size], slots := #[] }).objs.size = h3.objs.size + 1 := Heap.size_push ..
    generalize (h3.push { cls := .type "zip", dict := none, data := .fields #[.none, .bool false, .bool false, .ref h1.objs.size, .ref h2.objs.size], slots := #[] }) = h4 at *
    rw [z3, z2, e4] at a3 zz ⊢
    rw [z2, e4] at a2
    rw [e4] at a1
    exact h h4 rs e1 (fun r hr => (e2 r hr).at fun o e => g3 _ _ e) e3 zz (fun c o e => g3 _ _ (e5 c o e)) a3 a1 a2
theorem call_zip {rs0 : List Sr} {Q : Value → Shared → Prop} (hn : rs0.length ≤ 9) (hs : ∀ r ∈ rs0, SqAt s.heap r) (hQ : ZipMade rs0 s Q) :
    wpAny (model prog w) A (call (.type "zip") (rs0.map fun r => .ref r.l)) Q E s :=
  callType_new F.called_zip (by decide) (typeCall_zip _) (newCall_zip _ (by simpa using hn)) (fun obj => init_zip obj _) F.entry_zip_new (meets_zip rs0 hn)
    ⟨hs, fun h' rs e1 e2 e3 e4 e5 e6 e7 e8 => ⟨⟨_, e6, rfl⟩, hQ h' rs e1 e2 e3 e4 e5 e6 e7 e8⟩⟩
theorem zip_end {z TI TO : Addr} {r : Sr} {rs : List Sr} {f0 f1 : Value} {k : Nat} {Q : Fin → Shared → Prop} (hh : A.handled = none) (D : Apart z TI TO (r :: rs)) (hz : Zp s.heap z TI TO f0 f1) (h0 : f0 = .none ∨ ∃ T : Addr, f0 = rawInt T) (hf : f1 = .bool true ∨ f1 = .bool false)
    (hTI : Tp s.heap TI ((r :: rs).map fun r => .ref r.it)) (hi : ItAt s.heap k r) (hs : SqAt s.heap r) (hk : r.xs.length ≤ k)
    (hE : ∀ h' e, (∀ c o, c ≠ z → c ≠ r.it → s.heap.get? c = some o → h'.get? c = some o) → (∃ o, h'.get? e = some o ∧ o.cls = .type "StopIteration") → E (.ref e) { s with heap := h' }) :
    wpAny (model prog w) A (Builtin.«zip.__next__» ⟨[.ref z], []⟩) Q E s := by
  have hr := D.iz r (List.mem_cons_self ..)
  have hl := D.lz r (List.mem_cons_self ..)
  have gk : r.xs[k]? = none := List.getElem?_eq_none hk
  show wpAny _ _ (field (.ref z) 2 >>= _) _ _ _
  refine wpAny_bind (wpAny_field hz rfl (x := .bool false) rfl ?_)
  show wpAny _ _ (field (.ref z) 3 >>= _) _ _ _
  refine wpAny_bind (wpAny_field hz rfl (x := .ref TI) rfl ?_)
  refine wpAny_bind (wpAny_seqItems hTI rfl ?_)
  have hemp : ((r :: rs).map fun r => Value.ref r.it).toArray.isEmpty = false := by simp
  simp only [hemp, Bool.false_eq_true, if_false, pure_bind]
  refine wpAny_bind (free_none hz h0 hf ?_ fun h₁ hz₁ hs₁ => ?_)
  · simp only [if_true]
    refine wpAny_bind (wpAny_rule ?_)
    refine wpAny_bind (wpAny_field hz rfl (x := .ref TO) rfl ?_)
    refine wpAny_bind (wpAny_setField_rec hz (by simp) fun h₁ hz₁ hs₁ => ?_)
    replace hz₁ : Zp h₁ z TI TO .ellipsis f1 := hz₁
    refine wpAny_bind ?_
    simp only [List.map_cons, List.zipIdx_cons, List.forIn_cons]
    refine wpAny_bind (wpAny_bind (wpAny_onRaise ?_))
    show wpAny _ _ (Builtin.SmallTypes.nextOf (.ref r.it) >>= _) _ _ _
    refine wpAny_bind (next_end (s := { s with heap := h₁ }) hh (hi.at fun o e => hs₁.extBut _ _ hr.1 e) (hs.at fun o e => hs₁.extBut _ _ hl.1 e) gk fun h₂ e hx he => ?_)
    obtain ⟨oe, hoe, hce⟩ := he
    have hzq : Zp h₂ z TI TO .ellipsis f1 := hx _ _ hr.1.symm hz₁
    have hez : e ≠ z := fun x => by subst x; rw [hzq] at hoe; cases hoe; simp at hce
    refine wpAny_setField_rec (s := { s with heap := h₂ }) hzq (by simp) fun q' _ hq' => ?_
    replace hq' : Heap.SameBut z h₂ q' := hq'
    exact hE q' e (fun c o cz c1 x => hq'.extBut _ _ cz (hx _ _ c1 (hs₁.extBut _ _ cz x))) ⟨oe, hq'.extBut _ _ hez hoe, hce⟩
  · simp only [Bool.false_eq_true, if_false]
    refine wpAny_bind ?_
    rw [← Array.forIn_toList]
    simp only [List.map_cons, List.forIn_cons]
    refine wpAny_bind (wpAny_bind (wpAny_holding ?_))
    show wpAny _ _ (Builtin.SmallTypes.nextOf (.ref r.it) >>= _) _ _ _
    refine wpAny_bind (next_end (s := { s with heap := h₁ }) hh (hi.at fun o e => hs₁.extBut _ _ hr.1 e) (hs.at fun o e => hs₁.extBut _ _ hl.1 e) gk fun h₂ e hx he => ?_)
    exact hE h₂ e (fun c o cz c1 x => hx _ _ c1 (hs₁.extBut _ _ cz x)) he
theorem pyNext_item {z TI TO : Addr} {rs : List Sr} {f0 f1 : Value} {arr : List Value} {k : Nat} {Q : Option Value → Shared → Prop} (D : Apart z TI TO rs) (hn : rs.length ≤ sizeLine) (hne : rs ≠ []) (hz : Zp s.heap z TI TO f0 f1) (h0 : f0 = .none ∨ ∃ T : Addr, f0 = rawInt T) (hf : f1 = .bool true ∨ f1 = .bool false)
    (hTI : Tp s.heap TI (rs.map fun r => .ref r.it)) (hTO : Tp s.heap TO arr) (ha : arr.length = rs.length) (hi : ∀ r ∈ rs, ItAt s.heap k r) (hs : ∀ r ∈ rs, SqAt s.heap r) (hk : ∀ r ∈ rs, k < r.xs.length)
    (hQ : ∀ h' g0 g1 arr', Zp h' z TI TO g0 g1 → (g0 = .none ∨ ∃ T : Addr, g0 = rawInt T) → (g1 = .bool true ∨ g1 = .bool false) → Tp h' TO arr' → arr'.length = rs.length → (∀ r ∈ rs, ItAt h' (k + 1) r) → Tp h' s.heap.objs.size (row rs k) → h'.objs.size = s.heap.objs.size + 1 →
      (∀ c o, c ≠ z → c ≠ TO → (∀ r ∈ rs, c ≠ r.it) → s.heap.get? c = some o → h'.get? c = some o) → Q (some (.ref s.heap.objs.size)) { s with heap := h' }) :
    wpAny (model prog w) A (pyNext (.ref z)) Q E s := by
  have hT : s.TypeIs (.ref z) "zip" := ⟨_, hz, rfl⟩
  unfold pyNext
  exact wpAny_bind (wpAny_attempt (wpAny_callSpecial?_slot (name := Str.ofString "__next__") hT F.slot_zip_next
    (wpAny_call_entry F.slot_zip_next hT F.entry_zip_next
      (zip_item D hn hne hz h0 hf hTI hTO ha hi hs hk fun h' g0 g1 arr' b1 b2 b3 b4 b5 b6 b7 b8 b9 => wpAny_pure (hQ h' g0 g1 arr' b1 b2 b3 b4 b5 b6 b7 b8 b9)) (F.args_zip_next_1 _))))
theorem pyNext_end {z TI TO : Addr} {r : Sr} {rs : List Sr} {f0 f1 : Value} {k : Nat} {Q : Option Value → Shared → Prop} (hh : A.handled = none) (D : Apart z TI TO (r :: rs)) (hz : Zp s.heap z TI TO f0 f1) (h0 : f0 = .none ∨ ∃ T : Addr, f0 = rawInt T) (hf : f1 = .bool true ∨ f1 = .bool false)
    (hTI : Tp s.heap TI ((r :: rs).map fun r => .ref r.it)) (hi : ItAt s.heap k r) (hs : SqAt s.heap r) (hk : r.xs.length ≤ k)
    (hQ : ∀ h', (∀ c o, c ≠ z → c ≠ r.it → s.heap.get? c = some o → h'.get? c = some o) → Q none { s with heap := h' }) : wpAny (model prog w) A (pyNext (.ref z)) Q E s := by
  have hT : s.TypeIs (.ref z) "zip" := ⟨_, hz, rfl⟩
  unfold pyNext
  refine wpAny_bind (wpAny_attempt (wpAny_callSpecial?_slot (name := Str.ofString "__next__") hT F.slot_zip_next
    (wpAny_call_entry F.slot_zip_next hT F.entry_zip_next (zip_end (A := A.in1) hh D hz h0 hf hTI hi hs hk fun h' e hk he => ?_) (F.args_zip_next_1 _))))
  obtain ⟨o, ho, hc⟩ := he
  refine wpAny_bind (wpAny_isInstance (T := "StopIteration") (b := true) ⟨o, ho, hc⟩ isSubtype_stop ?_)
  exact wpAny_pure (hQ _ hk)
theorem pyIter_zp {z TI TO : Addr} {f0 f1 : Value} {Q : Value → Shared → Prop} (hz : Zp s.heap z TI TO f0 f1) (h : Q (.ref z) s) : wpAny (model prog w) A (pyIter (.ref z)) Q E s := by
  have hT : s.TypeIs (.ref z) "zip" := ⟨_, hz, rfl⟩
  refine wpAny_pyIter_slot hT F.slot_zip_iter (wpAny_call_entry F.slot_zip_iter hT F.entry_zip_iter ?_ (F.args_zip_iter_1 _))
  show wpAny _ _ (ret (.ref z)) _ _ s
  exact wpAny_pure ⟨_, rfl, "zip", _, hT, F.slot_zip_next.lookup, h⟩
/-- what the step ahead of the store does -/
theorem letGo_zp {tg : Expr} {z TI TO T : Addr} {f0 f1 : Value} {Q : Unit → Shared → Prop} (hz : Zp s.heap z TI TO f0 f1) (h0 : f0 = .none ∨ ∃ T : Addr, f0 = rawInt T)
    (hQ : ∀ h' g0, Zp h' z TI TO g0 f1 → (g0 = .none ∨ ∃ T : Addr, g0 = rawInt T) → Heap.SameBut z s.heap h' → Q () { s with heap := h' }) : wpAny (model prog w) A (letOwnedTupleGo tg (.ref z) (.ref T)) Q E s := by
  have stay : Q () s := hQ s.heap f0 hz h0 (Heap.SameBut.refl _ _)
  have main : wpAny (model prog w) A (do
      let o ← load z
      match o.cls, o.data with
      | .type n, .fields vs =>
        if ["enumerate", "zip", "dict_itemiterator", "dict_reverseitemiterator", "odict_iterator", "itertools.zip_longest", "itertools.pairwise"].contains n && vs[0]? == some (rawInt T) then
          rule "for.unpacks-the-owned-tuple"
          updateField z 0 .none
      | _, _ => pure ()) Q E s := by
    refine wpAny_bind (wpAny_load hz ?_)
    show wpAny _ _ (if (["enumerate", "zip", "dict_itemiterator", "dict_reverseitemiterator", "odict_iterator", "itertools.zip_longest", "itertools.pairwise"].contains "zip" && (#[f0, f1, .bool false, .ref TI, .ref TO] : Array Value)[0]? == some (rawInt T)) = true then _ else _) Q E s
    split
    · refine wpAny_bind (wpAny_rule ?_)
      show wpAny _ _ (setField (.ref z) 0 .none) Q E s
      exact wpAny_setField_rec hz (by simp) fun h' hz' hs' => hQ h' _ hz' (.inl rfl) hs'
    · exact wpAny_pure stay
  unfold letOwnedTupleGo
  cases tg <;> first
    | exact wpAny_pure stay
    | exact main
end
end EvZ
namespace EvZ
open PySem PySem.Spec PySem.SeqAt L2 PyProof.Rows
abbrev Src := Bool × Addr × List V
def Sq (K : PySem.W.Frag) (H : Hp) (s : Src) : Prop := match s.1 with
  | true => SqT K H s.2.1 s.2.2
  | false => SqL K H s.2.1 s.2.2
def ItN (K : PySem.W.Frag) (ss : List Src) : It :=
  ⟨fun i H => ∀ s ∈ ss, Sq K H s ∧ i < s.2.2.length, fun i H v H' => ∃ T, v = .ref T ∧ H T = none ∧ H' = upd H T (.tup (ss.map fun s => s.2.2.getD i .non)), fun i H => ∃ s t, ss = s :: t ∧ Sq K H s ∧ s.2.2.length ≤ i⟩
def Sr.b (r : Sr) : Bool × Addr × Addr := (r.tp, r.it, r.l)
theorem mem_b {rs rs0 : List Sr} (e : rs.map Sr.b = rs0.map Sr.b) {r : Sr} (h : r ∈ rs) : ∃ r0 ∈ rs0, r0.b = r.b := by
  have : r.b ∈ rs0.map Sr.b := by rw [← e]; exact List.mem_map_of_mem h
  obtain ⟨r0, h1, h2⟩ := List.mem_map.mp this
  exact ⟨r0, h1, h2⟩
theorem its_b {rs rs0 : List Sr} (e : rs.map Sr.b = rs0.map Sr.b) : rs.map (·.it) = rs0.map (·.it) := by
  have := congrArg (List.map fun (x : Bool × Addr × Addr) => x.2.1) e
  simpa [Sr.b, Function.comp_def] using this
theorem Apart.congr {z TI TO : Addr} {rs rs0 : List Sr} (D : Apart z TI TO rs0) (e : rs.map Sr.b = rs0.map Sr.b) : Apart z TI TO rs := by
  refine ⟨D.TIz, D.TOz, D.TT, fun r hr => ?_, fun r hr => ?_, by rw [its_b e]; exact D.nd⟩
  · obtain ⟨r0, h0, e0⟩ := mem_b e hr
    simp only [Sr.b, Prod.mk.injEq] at e0
    have := D.iz r0 h0
    rw [e0.2.1] at this
    exact this
  · obtain ⟨r0, h0, e0⟩ := mem_b e hr
    simp only [Sr.b, Prod.mk.injEq] at e0
    have := D.lz r0 h0
    rw [e0.2.2] at this
    refine ⟨this.1, this.2.1, fun q hq => ?_⟩
    obtain ⟨q0, k0, f0⟩ := mem_b e hq
    simp only [Sr.b, Prod.mk.injEq] at f0
    have := this.2.2 q0 k0
    rw [f0.2.1] at this
    exact this
theorem ItAt.congr {h : Heap} {k : Nat} {r r0 : Sr} (e : r0.b = r.b) (x : ItAt h k r0) : ItAt h k r := by
  obtain ⟨tp, it, l, xs⟩ := r
  obtain ⟨tp0, it0, l0, xs0⟩ := r0
  simp only [Sr.b, Prod.mk.injEq] at e
  obtain ⟨rfl, rfl, rfl⟩ := e
  exact x
theorem its_all {h : Heap} {k : Nat} {rs rs0 : List Sr} (e : rs.map Sr.b = rs0.map Sr.b) (x : ∀ r ∈ rs0, ItAt h k r) : ∀ r ∈ rs, ItAt h k r := fun r hr => by
  obtain ⟨r0, h0, e0⟩ := mem_b e hr
  exact (x r0 h0).congr e0
section
variable {X : Cx} {pins : List (Addr × Obj)} {σ : L2.St} {H : Hp} {s : Shared}
theorem vals_getD {xs : List V} {us : List Value} (r : Vals xs us) {i : Nat} (h : i < xs.length) : RelV (xs.getD i .non) (us.getD i .none) := by
  obtain ⟨u, h1, h2⟩ := r.get (List.getElem?_eq_getElem h)
  rw [List.getD_eq_getElem?_getD, List.getD_eq_getElem?_getD, List.getElem?_eq_getElem h, h1]
  exact h2
theorem fill (I : Inv X pins σ H s) : ∀ (rs0 : List Sr) (ss : List Src), rs0.map (fun r => (r.tp, r.l)) = ss.map (fun s => (s.1, s.2.1)) → (∀ q ∈ ss, Sq X.K H q) →
    ∃ rs : List Sr, rs.map Sr.b = rs0.map Sr.b ∧ (∀ r ∈ rs, SqAt s.heap r) ∧ rs.map (fun r => r.xs.length) = ss.map (fun s => s.2.2.length) ∧ ∀ i, (∀ q ∈ ss, i < q.2.2.length) → Vals (ss.map fun q => q.2.2.getD i .non) (row rs i)
  | [], [], _, _ => ⟨[], rfl, (fun _ q => nomatch q), rfl, fun _ _ => .nil⟩
  | r0 :: rs0, q :: ss, e, h => by
    simp only [List.map_cons, List.cons.injEq, Prod.mk.injEq] at e
    obtain ⟨rs, a1, a2, a3, a4⟩ := fill I rs0 ss e.2 fun q hq => h q (List.mem_cons_of_mem _ hq)
    have hq := h q (List.mem_cons_self ..)
    obtain ⟨tp, a, xs⟩ := q
    obtain ⟨tp0, it0, l0, xs0⟩ := r0
    obtain ⟨⟨rfl, rfl⟩, _⟩ := e
    have key : ∃ its : List Value, Vals xs its ∧ SqAt s.heap ⟨tp0, it0, l0, its⟩ := by
      cases tp0 with
      | true =>
        obtain ⟨its, rv, p, _⟩ := I.tuple hq
        exact ⟨its, rv, p⟩
      | false =>
        obtain ⟨its, rv, p, _⟩ := I.list hq
        exact ⟨its, rv, p.isList⟩
    obtain ⟨its, rv, p⟩ := key
    refine ⟨⟨tp0, it0, l0, its⟩ :: rs, by simp [a1, Sr.b], fun r hr => ?_, ?_, fun i hi => ?_⟩
    · rcases List.mem_cons.mp hr with rfl | hr
      · exact p
      · exact a2 r hr
    · simp only [List.map_cons, a3]
      rw [rv.length]
    · simp only [row, List.map_cons]
      exact .cons (vals_getD rv (hi _ (List.mem_cons_self ..))) (a4 i fun q hq => hi q (List.mem_cons_of_mem _ hq))
  | [], _ :: _, e, _ => by simp at e
  | _ :: _, [], e, _ => by simp at e
end
theorem turn_zip {P : Program} {w : World} {K : PySem.W.Frag} {tg : Expr} {z TI TO : Addr} {rs0 : List Sr} {ss : List Src} (D : Apart z TI TO rs0) (hne : rs0 ≠ []) (hn : rs0.length ≤ 9) (hs : rs0.map (fun r => (r.tp, r.l)) = ss.map (fun s => (s.1, s.2.1))) :
    Turn P w K tg (ItN K ss) (z :: TI :: TO :: rs0.map (·.it)) z (fun i h => ∃ f0 f1 arr, Zp h z TI TO f0 f1 ∧ (f0 = .none ∨ ∃ T : Addr, f0 = rawInt T) ∧ (f1 = .bool true ∨ f1 = .bool false) ∧ Tp h TI (rs0.map fun r => .ref r.it) ∧ Tp h TO arr ∧ arr.length = rs0.length ∧ ∀ r ∈ rs0, ItAt h i r) where
  mem := by simp
  obj := fun i h st c hc => by
    obtain ⟨f0, f1, arr, hz, _, _, hTI, hTO, _, hi⟩ := st
    have e' : c = z ∨ c = TI ∨ c = TO ∨ ∃ r ∈ rs0, r.it = c := by simpa using hc
    rcases e' with q | q | q | ⟨r, hr, q⟩
    · rw [q]; exact ⟨_, hz, fun v q => nomatch q⟩
    · rw [q]; exact ⟨_, hTI, fun v q => nomatch q⟩
    · rw [q]; exact ⟨_, hTO, fun v q => nomatch q⟩
    · rw [← q]; exact (hi r hr).there
  keep := fun i h h' st k => by
    obtain ⟨f0, f1, arr, hz, h0, hf, hTI, hTO, ha, hi⟩ := st
    exact ⟨f0, f1, arr, k z (by simp) _ hz, h0, hf, k TI (by simp) _ hTI, k TO (by simp) _ hTO, ha, fun r hr => (hi r hr).at fun o q => k r.it (by simp; exact .inr (.inr (.inr ⟨r, hr, rfl⟩))) o q⟩
  item := by
    intro X hP hw hK hc i pins s σ H E I hf st hg
    subst hP hw hK
    obtain ⟨f0, f1, arr, hz, h0, hf1, hTI, hTO, ha, hi⟩ := st
    obtain ⟨rs, b1, b2, b3, b4⟩ := fill I rs0 ss hs fun q hq => (hg q hq).1
    have D' := D.congr b1
    have el : rs.length = rs0.length := by simpa using congrArg List.length b1
    have es : ss.length = rs0.length := by simpa using (congrArg List.length hs).symm
    have eit : (rs.map fun r => Value.ref r.it) = rs0.map fun r => Value.ref r.it := by
      have := congrArg (List.map Value.ref) (its_b b1)
      rw [List.map_map, List.map_map] at this
      exact this
    have hne' : rs ≠ [] := fun q => hne (List.length_eq_zero_iff.mp (by rw [← el, q]; rfl))
    have hlen : ∀ r ∈ rs, i < r.xs.length := fun r hr => by
      have : r.xs.length ∈ ss.map (fun s => s.2.2.length) := by rw [← b3]; exact List.mem_map_of_mem (f := fun r : Sr => r.xs.length) hr
      obtain ⟨q, hq, e⟩ := List.mem_map.mp this
      rw [← e]; exact (hg q hq).2
    have hnn : rs.length ≤ sizeLine := by rw [el]; exact Nat.le_trans hn (by decide)
    have hzl : z < s.heap.objs.size := Heap.lt_size hz
    refine pyNext_item D' hnn hne' hz h0 hf1 (by rw [eit]; exact hTI) hTO (by rw [el]; exact ha) (its_all b1 hi) b2 hlen fun h' g0 g1 arr' z' k0 k1 TO' la it' hT hsz hk => ?_
    refine ⟨_, rfl, letGo_zp (s := { s with heap := h' }) z' k0 fun h'' g0' z'' k0' sb => ?_⟩
    have hT2 : Tp h'' s.heap.objs.size (row rs i) := (sb.2 _ (Nat.ne_of_gt hzl)).trans hT
    have new : ObjOk X.prog X.w (upd H s.heap.objs.size (.tup (ss.map fun q => q.2.2.getD i .non))) h'' s.heap.objs.size (.tup (ss.map fun q => q.2.2.getD i .non)) :=
      ⟨by simp only [List.length_map]; rw [es]; exact Nat.le_trans hn (by decide), row rs i, b4 i fun q hq => (hg q hq).2, ⟨_, hT2, rfl, _, rfl⟩⟩
    have hk' : ∀ c o, c ∉ (z :: TI :: TO :: rs0.map (·.it)) → s.heap.get? c = some o → h''.get? c = some o := fun c o hb q => by
      simp only [List.mem_cons, List.mem_map, not_or, not_exists, not_and] at hb
      refine (sb.2 c hb.1).trans (hk c o hb.1 hb.2.2.1 (fun r hr => ?_) q)
      obtain ⟨r0, h0, e0⟩ := mem_b b1 hr
      simp only [Sr.b, Prod.mk.injEq] at e0
      rw [← e0.2.1]
      exact fun e => hb.2.2.2 r0 h0 e.symm
    have I1 : Inv X pins σ (upd H s.heap.objs.size (.tup (ss.map fun q => q.2.2.getD i .non))) { s with heap := h'' } :=
      I.turnedNew (t' := s.toks) (ch := z :: TI :: TO :: rs0.map (·.it)) hk' hf (Nat.le_refl _) new
    have hTI' : Tp h'' TI (rs0.map fun r => .ref r.it) := (sb.2 _ D.TIz).trans (hk _ _ D.TIz D.TT (fun r hr => (D'.iz r hr).2.1.symm) hTI)
    refine ⟨.ref s.heap.objs.size, _, I1, rfl, ⟨_, rfl, I.hok.fresh (Nat.le_refl _), rfl⟩, ⟨g0', g1, arr', z'', k0', k1, hTI', (sb.2 _ D.TOz).trans TO', by rw [la, el], fun r hr => ?_⟩, fun c hcm => ?_⟩
    · exact (its_all b1.symm it' r hr).at fun o q => (sb.2 _ (D.iz r hr).1).trans q
    · have hlt : c < s.heap.objs.size := by
        have e' : c = z ∨ c = TI ∨ c = TO ∨ ∃ r ∈ rs0, r.it = c := by simpa using hcm
        rcases e' with q | q | q | ⟨r, hr, q⟩
        · rw [q]; exact hzl
        · rw [q]; exact Heap.lt_size hTI
        · rw [q]; exact Heap.lt_size hTO
        · rw [← q]; obtain ⟨_, e1, _⟩ := (hi r hr).there; exact Heap.lt_size e1
      rw [upd_ne (Nat.ne_of_lt hlt)]
      exact (hf c hcm).1
  done := by
    intro X hP hw hK hc i pins s σ H E I hf st hg
    subst hP hw hK
    obtain ⟨f0, f1, arr, hz, h0, hf1, hTI, hTO, ha, hi⟩ := st
    obtain ⟨q, t, rfl, hq, hl⟩ := hg
    cases rs0 with
    | nil => exact absurd rfl hne
    | cons r0 rs0 =>
      simp only [List.map_cons, List.cons.injEq] at hs
      obtain ⟨rs, b1, b2, b3, _⟩ := fill I [r0] [q] (by simp [hs.1]) fun q' hq' => by rw [List.mem_singleton.mp hq']; exact hq
      obtain ⟨r, rfl⟩ : ∃ r, rs = [r] := by
        match rs, congrArg List.length b1 with
        | [r], _ => exact ⟨r, rfl⟩
      have er : r.b = r0.b := by simpa using b1
      have eall : (r :: rs0).map Sr.b = (r0 :: rs0).map Sr.b := by simp [er]
      have D' := D.congr eall
      have ei : r.it = r0.it := by simp only [Sr.b, Prod.mk.injEq] at er; exact er.2.1
      refine pyNext_end (I.ok.hd hc) D' hz h0 hf1 (by simp only [List.map_cons, ei]; exact hTI) ((hi r0 (List.mem_cons_self ..)).congr er.symm) (b2 r (List.mem_cons_self ..)) (by simp at b3; omega) fun h' hk => ⟨rfl, I.turnedL (t' := s.toks) (ch := z :: TI :: TO :: (r0 :: rs0).map (·.it)) (fun c o hb q => ?_) hf⟩
      simp only [List.map_cons, List.mem_cons, not_or] at hb
      exact hk c o hb.1 (by rw [ei]; exact hb.2.2.2.1) q
  self := fun A i s Q E st h => by
    obtain ⟨f0, f1, arr, hz, _⟩ := st
    exact pyIter_zp hz h
end EvZ
namespace Ev
open PySem PySem.Spec PySem.SeqAt L2 PyProof.Rows EvZ
def frz : D → Option (List D)
  | .tup ds => some ds
  | .lst ds => some ds
  | _ => none
def frzs : List D → Option (List (List D))
  | [] => some []
  | d :: ds => match frz d, frzs ds with
    | some x, some xs => some (x :: xs)
    | _, _ => none
section
variable {K : PySem.W.Frag} {W : Wd}
theorem reps_getD {ds : List D} {vs : List V} (r : Reps K W ds vs) {i : Nat} (h : i < ds.length) : Rep K W (ds.getD i .non) (vs.getD i .non) := by
  obtain ⟨v, h1, h2⟩ := r.get (List.getElem?_eq_getElem h)
  rw [List.getD_eq_getElem?_getD, List.getD_eq_getElem?_getD, List.getElem?_eq_getElem h, h1]
  exact h2
theorem srcs : ∀ {ds : List D} {vs : List V} {xss : List (List D)}, Reps K W ds vs → frzs ds = some xss → ∃ ss : List Src, vs = ss.map (fun q => V.ref q.2.1) ∧ (∀ q ∈ ss, ∀ H : Hp, (∀ a o, W.F a = some o → H a = some o) → Sq K H q) ∧ ss.map (fun q => q.2.2.length) = xss.map List.length ∧
    ∀ i, (∀ x ∈ xss, i < x.length) → Reps K W (xss.map (·.getD i .non)) (ss.map (·.2.2.getD i .non))
  | [], _, xss, r, e => by
    cases r; cases e
    exact ⟨[], rfl, (fun _ q => nomatch q), rfl, fun _ _ => .nil⟩
  | d :: ds, _, xss, .cons r1 r2, e => by
    unfold frzs at e
    cases e1 : frz d with
    | none => rw [e1] at e; cases e
    | some x =>
      cases e2 : frzs ds with
      | none => rw [e1, e2] at e; cases e
      | some xs =>
        rw [e1, e2] at e
        cases e
        obtain ⟨ss, a1, a2, a3, a4⟩ := srcs r2 e2
        have key : ∃ q : Src, ‹V› = V.ref q.2.1 ∧ (∀ H : Hp, (∀ a o, W.F a = some o → H a = some o) → Sq K H q) ∧ Reps K W x q.2.2 := by
          cases r1 with
          | @tup a vs ds q r =>
            cases e1
            exact ⟨(true, a, vs), rfl, fun H h => by
              rcases q with q | q
              · exact .inl (rd_sub h q)
              · exact .inr q, r⟩
          | @lst a vs ds q r =>
            cases e1
            exact ⟨(false, a, vs), rfl, fun H h => SqL.of (h _ _ q), r⟩
          | _ => cases e1
        obtain ⟨q, k1, k2, k3⟩ := key
        refine ⟨q :: ss, by simp [k1, a1], fun p hp => ?_, by simp [a3, k3.length], fun i hi => ?_⟩
        · rcases List.mem_cons.mp hp with rfl | hp
          · exact k2
          · exact a2 p hp
        · exact .cons (reps_getD k3 (hi x (List.mem_cons_self ..))) (a4 i fun y hy => hi y (List.mem_cons_of_mem _ hy))
def zipD (xss : List (List D)) (n : Nat) : List D := (List.range n).map fun i => .tup (xss.map (·.getD i .non))
def pZip (ds : List D) : Option (List D) := match frzs ds with
  | some (x :: xss) => if xss.length < 9 ∧ ∀ y ∈ xss, y.length = x.length then some (zipD (x :: xss) x.length) else none
  | _ => none
theorem pZip_ok {ds zs : List D} {vs : List V} (e : pZip ds = some zs) (r : Reps K W ds vs) : ∃ ss : List Src, vs = ss.map (fun q => V.ref q.2.1) ∧ ss ≠ [] ∧ ss.length ≤ 9 ∧ (∀ q ∈ ss, ∀ H : Hp, (∀ a o, W.F a = some o → H a = some o) → Sq K H q) ∧ WalkD K W zs (ItN K ss) := by
  unfold pZip at e
  split at e
  · rename_i x xss ef
    split at e
    · rename_i hc
      cases e
      obtain ⟨ss, a1, a2, a3, a4⟩ := srcs r ef
      have hn : ss.length = xss.length + 1 := by simpa using congrArg List.length a3
      have hall : ∀ y ∈ x :: xss, y.length = x.length := fun y hy => by
        rcases List.mem_cons.mp hy with rfl | hy
        · rfl
        · exact hc.2 y hy
      have hss : ∀ q ∈ ss, q.2.2.length = x.length := fun q hq => by
        have : q.2.2.length ∈ (x :: xss).map List.length := by rw [← a3]; exact List.mem_map_of_mem (f := fun q : Src => q.2.2.length) hq
        obtain ⟨y, hy, ey⟩ := List.mem_map.mp this
        rw [← ey]; exact hall y hy
      refine ⟨ss, a1, fun q => by rw [q] at hn; simp at hn, by omega, a2, ?_⟩
      have el : (zipD (x :: xss) x.length).length = x.length := by simp [zipD]
      unfold WalkD
      rw [el]
      refine ⟨fun i H hi hG q hq => ⟨a2 q hq H hG, by rw [hss q hq]; exact hi⟩, fun H hG => ?_, fun i H v H' hi hG y d hd W2 S2 l g => ?_⟩
      · cases ss with
        | nil => simp at hn
        | cons q ss => exact ⟨q, ss, rfl, a2 q (List.mem_cons_self ..) H hG, by rw [hss q (List.mem_cons_self ..)]; exact Nat.le_refl _⟩
      · obtain ⟨T, rfl, hT, rfl⟩ := y
        have ed : d = .tup ((x :: xss).map (·.getD i .non)) := by rw [← Option.some_inj, ← hd]; simp [zipD, hi]
        subst ed
        have rr := a4 i fun y hy => by rw [hall y hy]; exact hi
        have l3 : W2.le (W2.add T (.tup (ss.map (·.2.2.getD i .non)))) := g.add_le hT
        exact ⟨W2.add T (.tup (ss.map (·.2.2.getD i .non))), l3, g.add hT, .tup (.inl (.inl (by show upd _ _ _ _ = _; rw [upd_same]))) ((rr.mono l).mono l3)⟩
    · cases e
  · cases e
end
section
variable {X : Cx} {Wx : WX} {a b c e tg : Expr} {ma mb mc m : ME} {pos : Pos}
/-- the call of zip has come to its iterator -/
theorem zip_pie {pins : List (Addr × Obj)} {s : Shared} {σ : L2.St} {H : Hp} {R : It → Hp → Prop} {us : List Value} {ss : List Src} (I : Inv X pins σ H s) (r : Vals (ss.map fun q => V.ref q.2.1) us) (hne : ss ≠ []) (hn : ss.length ≤ 9) (hs : ∀ q ∈ ss, Sq X.K H q) (hR : R (ItN X.K ss) H) :
    wpAny (model X.prog X.w) X.A (call (.type "zip") us) (fun v s1 => wpAny (model X.prog X.w) X.A (pyIter v) (PIE X pins σ tg R) X.xe s1) X.xe s := by
  obtain ⟨rs0, b1, b2, b3, b4⟩ := fill I (ss.map fun q => ⟨q.1, 0, q.2.1, []⟩) ss (by simp) hs
  have eu : us = rs0.map fun r => .ref r.l := by
    have e1 : rs0.map (fun r => r.l) = ss.map fun q => q.2.1 := by
      have := congrArg (List.map fun (x : Bool × Addr × Addr) => x.2.2) b1
      simpa [Sr.b, Function.comp_def] using this
    have e2 : ∀ (xs : List Addr) (us : List Value), Vals (xs.map V.ref) us → us = xs.map Value.ref := by
      intro xs
      induction xs with
      | nil => intro us h; cases h; rfl
      | cons x xs ih =>
        intro us h
        cases h with
        | cons h1 h2 =>
          obtain rfl := h1
          rw [ih _ h2]; rfl
    have e3 := e2 (ss.map fun q => q.2.1) us (by rw [List.map_map]; exact r)
    rw [e3, ← e1, List.map_map]
    rfl
  have el : rs0.length = ss.length := by simpa using congrArg List.length b1
  subst eu
  refine call_zip (by rw [el]; exact hn) b2 fun h' rs e1 e2 e3 e4 e5 e6 e7 e8 => pyIter_zp e6 ?_
  have el2 : rs.length = rs0.length := by simpa using congrArg List.length e1
  have hI : Inv X pins σ H { s with heap := h' } := I.kept (t' := s.toks) e5
  have hit : ∀ r ∈ rs, s.heap.objs.size ≤ r.it ∧ r.it < s.heap.objs.size + rs0.length := fun r hr => by
    have : r.it ∈ rs.map (·.it) := List.mem_map_of_mem hr
    rw [e3] at this
    obtain ⟨i, hi, e⟩ := List.mem_range'.mp this
    have e' : (r.it : Nat) = s.heap.objs.size + 1 * i := e
    constructor
    · rw [e']; exact Nat.le_add_right _ _
    · rw [e', Nat.one_mul]; exact Nat.add_lt_add_left hi _
  have hl : ∀ r ∈ rs, r.l < s.heap.objs.size := fun r hr => by
    have : (r.tp, r.l, r.xs) ∈ rs0.map (fun r => (r.tp, r.l, r.xs)) := by rw [← e1]; exact List.mem_map_of_mem (f := fun r : Sr => (r.tp, r.l, r.xs)) hr
    obtain ⟨r0, h0, eq⟩ := List.mem_map.mp this
    have sq := b2 r0 h0
    simp only [Prod.mk.injEq] at eq
    rw [← eq.2.1]
    obtain ⟨tp, it, l, xs⟩ := r0
    cases tp with
    | true => obtain ⟨o, h1, _⟩ := sq; exact Heap.lt_size h1
    | false => obtain ⟨o, h1, _⟩ := sq; exact Heap.lt_size h1
  have D : Apart (s.heap.objs.size + rs0.length + 2) (s.heap.objs.size + rs0.length) (s.heap.objs.size + rs0.length + 1) rs := by
    refine ⟨Nat.ne_of_lt (by omega), Nat.ne_of_lt (by omega), Nat.ne_of_lt (by omega), fun r hr => ?_, fun r hr => ?_, by rw [e3]; exact List.nodup_range'⟩
    · have h2 := (hit r hr).2
      exact ⟨Nat.ne_of_lt (Nat.lt_of_lt_of_le h2 (by omega)), Nat.ne_of_lt h2, Nat.ne_of_lt (Nat.lt_of_lt_of_le h2 (by omega))⟩
    · have h1 := hl r hr
      exact ⟨Nat.ne_of_lt (Nat.lt_of_lt_of_le h1 (by omega)), Nat.ne_of_lt (Nat.lt_of_lt_of_le h1 (by omega)), fun q hq => Nat.ne_of_lt (Nat.lt_of_lt_of_le h1 (hit q hq).1)⟩
  have hss : rs.map (fun r => (r.tp, r.l)) = ss.map (fun q => (q.1, q.2.1)) := by
    have := congrArg (List.map fun (x : Bool × Addr × List Value) => (x.1, x.2.1)) e1
    have t2 := congrArg (List.map fun (x : Bool × Addr × Addr) => (x.1, x.2.2)) b1
    simp [Sr.b, Function.comp_def] at this t2 ⊢
    rw [this, t2]
  refine ⟨_, _, _, _, H, rfl, hI, turn_zip D (fun q => hne (List.length_eq_zero_iff.mp (by rw [← el, ← el2, q]; rfl))) (by rw [el2, el]; exact hn) hss, ⟨_, _, _, e6, .inl rfl, .inr rfl, e7, e8, by simp, e2⟩, fun c hc => ?_, hR⟩
  have hle : s.heap.objs.size ≤ c := by
    have e' : c = s.heap.objs.size + rs0.length + 2 ∨ c = s.heap.objs.size + rs0.length ∨ c = s.heap.objs.size + rs0.length + 1 ∨ ∃ r ∈ rs, r.it = c := by simpa using hc
    rcases e' with q | q | q | ⟨r, hr, q⟩
    · rw [q]; exact Nat.le_trans (Nat.le_add_right _ _) (Nat.le_add_right _ _)
    · rw [q]; exact Nat.le_add_right _ _
    · rw [q]; exact Nat.le_trans (Nat.le_add_right _ _) (Nat.le_add_right _ _)
    · rw [← q]; exact (hit r hr).1
  exact I.fpOk hle (I.hok.fresh hle)
def iZip (mas : MA) : MA := fun δ => M.bind (mas δ) fun ds S => match pZip ds with
  | some zs => .ok zs S
  | none => .bad
/-- the star takes the items of a frozen sequence -/
theorem callWith_typeS {M : Model} {A : Around} {E : Value → Shared → Prop} {s : Shared} {T : String} {env : Env} {q : Pos} {Q : Value → Shared → Prop}
    (h : wpAny M A (eval e env) (fun v s₁ => PySem.W.StarOf M A E v (fun vs s₂ => wpAny M A (call (.type T) vs) Q E s₂) s₁) E s) :
    wpAny M A (callWith pos (.type T) [] (backTo pos (starEach [.Starred e q] env)) []) Q E s := by
  have h0 : starEach [.Starred e q] env = [(true, eval e env)] := rfl
  rw [h0]
  have h1 : wpAny M A (eval e env) (fun v s₁ => PySem.W.StarOf M A E v (fun vs s₂ => True ∧ wpAny M A (call (.type T) ([] ++ vs)) Q E s₂) s₁) E s := by
    refine wpAny_mono h (fun v s1 h1 => ?_) fun _ _ x => x
    exact wpAny_mono h1 (fun b s2 h2 => ⟨h2.1, wpAny_mono h2.2 (fun vs s3 h3 => ⟨trivial, h3⟩) fun _ _ x => x⟩) fun _ _ x => x
  exact PySem.W.ks_call (P := fun _ => True) rfl (fun _ _ => ⟨.machine, .inr (.inl rfl), PySem.W.Looks.of_pure rfl⟩) (PySem.W.ks_lone h1)
theorem si_zipS {p q : Pos} (hg : Gl X "zip") (hm : X.mg "zip" = none) (ha : SE X Wx e ma) : SI X Wx tg (.Call (.Name "zip" p) [.Starred e q] [] pos) (iZip (aStar ma aNil)) := by
  refine ⟨fun pins s σ H R I ⟨W, S, δ, g, r, h⟩ => ?_⟩
  unfold iZip aStar at h
  refine Call_ (ld_blt I hg hm PyProof.Rows.boot_zip (callWith_typeS (thn (ha.run pins s σ H _ I ⟨W, S, δ, g, r, okP.bind (R := Rep X.K) (okP.assoc h)⟩) fun u s1 ⟨v, H1, I1, r1, W1, S1, d, l1, g1, q1, p1⟩ => ?_)))
  cases ez : seqOf S1 d with
  | none => simp only [M.bind, ez] at p1; exact p1.elim
  | some xs =>
    obtain ⟨a, vs, rfl, h2, h3⟩ := seqOf_ok ez g1 q1
    obtain rfl : u = Value.ref a := r1
    simp only [M.bind, ez, aNil, M.pure, List.append_nil] at p1
    split at p1
    · rename_i zs ez
      obtain ⟨ss, c1, c2, c3, c4, c5⟩ := pZip_ok ez h3
      subst c1
      exact StX.star_any I1 h2.symm fun us s2 I2 rv => zip_pie I2 rv c2 c3 (fun q hq => c4 q hq H1 g1.sub) (okP.pure p1 g1 c5)
    · exact p1.elim
end
end Ev
namespace Ev
open PySem PySem.Spec PySem.SeqAt L2 PyProof.Rows
/-- the value at v may be called with keywords ks (after the values by place): what comes is m -/
def CalG (P : Program) (w : World) (K : PySem.W.Frag) (mg : Str → Option Value) (base : Heap) (k : Nat) (v : Addr) (ks : List Str) (m : List D → M D) : Prop :=
  ∀ (X : Cx) (Wx : WX), X.prog = P → X.w = w → X.K = K → X.mg = mg → X.base = base → Room k X.A → X.A.guards = some [] → L2N.Takes X Wx → CallF X Wx (.ref v) ks (fun ds es => m (ds ++ es))
def BindK (K : PySem.W.Frag) (fd : FuncData) (ps ks : List Str) : Prop :=
  ∀ (s : Shared) (us ws : List Value), us.length + ks.length = ps.length → ws.length = ks.length → BindsTo s fd ⟨us, ks.zip ws⟩ (ps.zip (us ++ ws))
theorem bindK_of {K : PySem.W.Frag} {x qual : Str} {params : Arguments} {body : List Stmt} {scope : Scope} {f : Addr} {fd : FuncData} {ps ks : List Str} (F : FunD K x qual params body scope [] [] f fd)
    (h : ∀ (kV doc pm : Value) (an : Option Addr) (cdv ct : Value) (us ws : List Value), us.length + ks.length = ps.length → ws.length = ks.length → bindArgs (PySem.W.fnOf x qual params body scope .none kV doc pm an cdv ct) ⟨us, ks.zip ws⟩ = pure (ps.zip (us ++ ws))) : BindK K fd ps ks := by
  obtain ⟨oc, od, dV, kV, doc, pm, an, cdv, ct, osl, rfl, lk, hcd, hD, hK⟩ := F.ex
  rcases hD with ⟨_, rfl⟩ | ⟨e, _⟩
  · exact fun s us ws h1 h2 => .of_eq (h kV doc pm an cdv ct us ws h1 h2)
  · exact absurd rfl e
theorem paired_append {α β : Type} {F : α → β → Prop} : ∀ {xs : List α} {us : List β} {ys : List α} {ws : List β}, Paired F xs us → Paired F ys ws → Paired F (xs ++ ys) (us ++ ws)
  | _, _, _, _, .nil, h => h
  | _, _, _, _, .cons a t, h => .cons a (paired_append t h)
section
variable {P : Program} {w : World} {K : PySem.W.Frag} {mg : Str → Option Value} {base : Heap}
theorem calG_fn {k n : Nat} {f : Addr} {fd : FuncData} {ps ks : List Str} {m : List D → M D} (F : FnG P w K mg base k f fd ps (spM K n m)) (hb : BindK K fd ps ks) (hn : n = ps.length) (hm : ∀ ds S, ds.length ≠ n → m ds S = .bad) : CalG P w K mg base k f ks m := by
  intro X Wx e1 e2 e3 e4 e5 hr hg tk
  subst e1 e2 e3 e4 e5
  intro pins s σ H vs zs us ws Q I r1 r2 hl ⟨W, S, ds, es, g, q1, q2, p⟩
  dsimp only at p
  by_cases hlen : (ds ++ es).length = n
  · have l1 : ds.length = us.length := q1.length.trans (Paired.length r1)
    have l2 : ws.length = ks.length := (Paired.length r2).symm.trans hl
    have l3 : es.length = ks.length := q2.length.trans hl
    have hv : (vs ++ zs).length = n := by rw [← hlen]; simp [q1.length, q2.length]
    have want : spM X.K n m (vs ++ zs) H Q (fun cls d H' => Wx cls d σ H') := ⟨hv, W, S, ds ++ es, g, q1.append q2, by
      cases e5 : m (ds ++ es) S with
      | ok d S' => rw [e5] at p; exact p
      | exc x S' => rw [e5] at p; exact p
      | bad => rw [e5] at p; exact p⟩
    refine wpAny_call (codeAny_mono (F.run X.A hg X.stack s H ⟨us, ks.zip ws⟩ (us ++ ws) (vs ++ zs) Q _ hr I.env0 (hb s us ws (by rw [← hn, ← hlen]; simp [l1, l3]) l2) (paired_append r1 r2) want) fun res s' hq => ?_)
    cases res with
    | error ex => exact tk ex s' (L2N.XE.of_call (W := Wx) I (fun cls d H' h => h) hq)
    | ok fl =>
      cases fl with
      | ret u => exact I.after hq
      | next => exact hq.elim
      | brk => exact hq.elim
      | cont => exact hq.elim
  · rw [hm _ S hlen] at p
    exact p.elim
def startD (nN : Nat) (ds : List D) : En := ds.map some ++ List.replicate (nN - ds.length) none
theorem renv_start {W : Wd} {N : List Str} {ds : List D} {vs : List V} (r : Reps K W ds vs) : REnv K W (startD N.length ds) (L2.start N vs) := by
  refine ⟨by simp [startD, L2.start, r.length], fun i d e => ?_⟩
  unfold startD at e
  unfold L2.start
  by_cases h : i < ds.length
  · rw [List.getElem?_append_left (by simpa using h)] at e
    simp only [List.getElem?_map, Option.map_eq_some_iff] at e
    obtain ⟨d', e1, e2⟩ := e
    cases e2
    obtain ⟨v, h1, h2⟩ := r.get e1
    refine ⟨v, ?_, .inl h2⟩
    rw [List.getElem?_append_left (by simpa [← r.length] using h)]
    simp [h1]
  · rw [List.getElem?_append_right (by simpa using h)] at e
    rw [List.getElem?_replicate] at e
    split at e <;> cases e
/-- the body's reading as a function -/
def funM (nN n : Nat) (m : MS) : List D → M D := fun ds S => if ds.length = n then (match m (startD nN ds) S with
  | .rt d S' => .ok d S'
  | .nx _ S' => .ok .non S'
  | .exc x _ S' => .exc x S'
  | _ => .bad) else .bad
theorem funM_len {nN n : Nat} {m : MS} (ds : List D) (S : Store) (h : ds.length ≠ n) : funM nN n m ds S = .bad := by unfold funM; rw [if_neg h]
/-- a body does what m says, wherever it is called from -/
def FB (P : Program) (w : World) (K : PySem.W.Frag) (mg : Str → Option Value) (base : Heap) (k : Nat) (N : List Str) (qual : Str) (scope : Scope) (body : List Stmt) (m : MS) : Prop :=
  ∀ (f : Addr) (cdv : Value) (A : Around) (outer : List Env) (s : Shared) (H : Hp) (E : XK), A.guards = some [] → Room k (A.deeper (envOfC qual scope s.heap.objs.size f cdv)) →
    SB (cxOf (L2N.CX P w) P w K mg base N qual scope f cdv A outer s H E) (fun cls d _ H' => E cls d H') body m
theorem fnG_body {k : Nat} {f : Addr} {name qual : Str} {params : Arguments} {body : List Stmt} {scope : Scope} {fd : FuncData} {N ps : List Str} {m : MS}
    (F : FunD K name qual params body scope [] [] f fd) (Sc : FnScope N ps scope) (B : FB P w K mg base k N qual scope body m) : FnG P w K mg base (k + 1) f fd ps (spM K ps.length (funM N.length ps.length m)) := by
  refine fnG_of F Sc (fun vs H Q E h => h.1) fun cdv A outer s H vs Q E hg hr ⟨hl, W, S, ds, g, r, p⟩ => ⟨_, B f cdv A outer s H E hg hr, W, S, startD N.length ds, g, renv_start r, ?_⟩
  have hd : ds.length = ps.length := r.length.trans hl
  unfold funM at p
  rw [if_pos hd] at p
  cases e : m (startD N.length ds) S with
  | rt d S' => rw [e] at p; exact p
  | nx δ S' => rw [e] at p; exact fun W' H' σ l g' _ => p W' H' .non l g' .non
  | exc x δ S' => rw [e] at p; exact fun W' H' σ cls d l g' _ x' => p W' H' cls d l g' x'
  | bk δ S' => rw [e] at p; exact p.elim
  | ct δ S' => rw [e] at p; exact p.elim
  | bad => rw [e] at p; exact p.elim
def spI (K : PySem.W.Frag) (c : Str) (n : Nat) (m : List D → M (List (Str × D))) : Sp := fun vs H Q E => ∃ W S a dx ds P0 vs', vs = .ref a :: vs' ∧ vs'.length = n ∧ Good K W S H ∧ Ini K c W [] P0 a dx ∧ Reps K W ds vs' ∧ (match m ds S with
  | .ok fs S' => ∀ W' H', W.lf W' → Good K W' S' H' → Ini K c W' fs P0 a dx → Q .non H'
  | .exc x S' => ∀ W' H' cls d, W.lf W' → Good K W' S' H' → (∃ o, W'.P = upd P0 a o) → XRep K W' x cls d → E cls d H'
  | .bad => False)
def initM (nN n : Nat) (m : MI) : List D → M (List (Str × D)) := fun ds S => if ds.length = n then (match m (some .slf :: startD (nN - 1) ds) [] S with
  | .nx _ fs S' => .ok fs S'
  | .exc x S' => .exc x S'
  | .bad => .bad) else .bad
def FBI (P : Program) (w : World) (K : PySem.W.Frag) (mg : Str → Option Value) (base : Heap) (k : Nat) (N : List Str) (qual : Str) (scope : Scope) (c : Str) (body : List Stmt) (m : MI) : Prop :=
  ∀ (f : Addr) (cdv : Value) (A : Around) (outer : List Env) (s : Shared) (H : Hp) (E : XK), A.guards = some [] → Room k (A.deeper (envOfC qual scope s.heap.objs.size f cdv)) →
    SBI (cxOf (L2N.CX P w) P w K mg base N qual scope f cdv A outer s H E) (fun cls d _ H' => E cls d H') c body m
theorem fnG_init {k n : Nat} {c : Str} {f : Addr} {name qual : Str} {params : Arguments} {body : List Stmt} {scope : Scope} {fd : FuncData} {N ps : List Str} {m : MI} (hn : ps.length = n + 1)
    (F : FunD K name qual params body scope [] [] f fd) (Sc : FnScope N ps scope) (B : FBI P w K mg base k N qual scope c body m) : FnG P w K mg base (k + 1) f fd ps (spI K c n (initM N.length n m)) := by
  have hN : n + 1 ≤ N.length := by have := congrArg List.length Sc.pre; simp at this; omega
  refine fnG_of F Sc (fun vs H Q E h => ?_) fun cdv A outer s H vs Q E hg hr ⟨W, S, a, dx, ds, P0, vs', ev, hl, g, i, r, p⟩ => ⟨_, B f cdv A outer s H E hg hr, W, S, some .slf :: startD (N.length - 1) ds, a, dx, [], P0, g, ?_, i, ?_⟩
  · obtain ⟨W, S, a, dx, ds, P0, vs', ev, hl, _⟩ := h
    rw [ev, hn]; simp [hl]
  · subst ev
    have r0 := renv_start (N := N.drop 1) r
    have e1 : L2.start N (.ref a :: vs') = some (.ref a) :: L2.start (N.drop 1) vs' := by
      unfold L2.start
      simp only [List.map_cons, List.cons_append, List.length_cons, List.length_drop]
      congr 2
      rw [show N.length - (vs'.length + 1) = N.length - 1 - vs'.length by omega]
    rw [e1]
    have e2 : (N.drop 1).length = N.length - 1 := by simp
    rw [e2] at r0
    refine ⟨by simp [r0.1], fun j d e => ?_⟩
    cases j with
    | zero =>
      simp at e
      subst e
      exact ⟨.ref a, rfl, .inr ⟨rfl, a, i.sf, rfl⟩⟩
    | succ j =>
      obtain ⟨v, h1, h2⟩ := r0.2 j d (by simpa using e)
      exact ⟨v, by simpa using h1, h2⟩
  · have hd : ds.length = n := r.length.trans hl
    unfold initM at p
    rw [if_pos hd] at p
    cases e : m (some .slf :: startD (N.length - 1) ds) [] S with
    | nx δ fs S' => rw [e] at p; exact fun W' H' σ l g' _ i' => p W' H' l g' i'
    | exc x S' => rw [e] at p; exact fun W' H' σ cls d l g' i' x' => p W' H' cls d l g' i' x'
    | bad => rw [e] at p; exact p.elim
theorem rep_other {W : Wd} {P0 : Hp} {sf : Option Addr} {ds : List D} {vs : List V} (r : Reps K W ds vs) : Reps K ⟨W.F, W.m, P0, sf⟩ ds vs := Reps.mono0 (W := W) (W' := ⟨W.F, W.m, P0, sf⟩) (fun _ _ h => h) (fun _ _ h => h) r
/-- C(..) -/
theorem calG_cls {k n : Nat} {c : Str} {f : Addr} {fd : FuncData} {ps ks : List Str} {m : List D → M (List (Str × D))} (Mc : Mk K (He.ga K c) f) (F : FnG P w K mg base k f fd ps (spI K c n m)) (hb : BindK K fd ps ks) (hn : ps.length = n + 1) (hm : ∀ ds S, ds.length ≠ n → m ds S = .bad) :
    CalG P w K mg base (k + 1) (He.ga K c) ks (fun ds => M.bind (m ds) fun fs => M.pure (.ins c fs)) := by
  intro X Wx e1 e2 e3 e4 e5 hr hg tk
  subst e1 e2 e3 e4 e5
  intro pins s σ H vs zs us ws Q I r1 r2 hl ⟨W, S, ds, es, g, q1, q2, p⟩
  dsimp only at p
  by_cases hlen : (ds ++ es).length = n
  · have l1 : ds.length = us.length := q1.length.trans (Paired.length r1)
    have l2 : ws.length = ks.length := (Paired.length r2).symm.trans hl
    have l3 : es.length = ks.length := q2.length.trans hl
    have hv : (vs ++ zs).length = n := by rw [← hlen]; simp [q1.length, q2.length]
    have n1 : H (s.heap.objs.size + 1) = none := I.hok.fresh (Nat.le_succ _)
    have n0 : H s.heap.objs.size = none := I.hok.fresh (Nat.le_refl _)
    have ne : s.heap.objs.size + 1 ≠ s.heap.objs.size := Nat.succ_ne_self _
    have I2 := Inv.made (C := He.ga X.K c) I
    have g0 : Good X.K W S (upd H s.heap.objs.size (.own (s.heap.objs.size + 1))) := g.skip n0
    have g1 := g0.newPrv (p := s.heap.objs.size + 1) (o := .ins (He.ga X.K c) s.heap.objs.size []) (by rw [upd_ne ne]; exact n1)
    have g2 := g1.other (P := (W.prv (s.heap.objs.size + 1) (.ins (He.ga X.K c) s.heap.objs.size [])).P) (sf := some (s.heap.objs.size + 1)) fun _ _ h => h
    have pn : W.P (s.heap.objs.size + 1) = none := g.freeP n1
    have want : spI X.K c n m (.ref (s.heap.objs.size + 1) :: (vs ++ zs)) (upd (upd H s.heap.objs.size (.own (s.heap.objs.size + 1))) (s.heap.objs.size + 1) (.ins (He.ga X.K c) s.heap.objs.size [])) (fun v H2 => v = .non ∧ Q (.ref (s.heap.objs.size + 1)) H2) (fun cls d H' => Wx cls d σ H') := by
      refine ⟨_, S, s.heap.objs.size + 1, s.heap.objs.size, ds ++ es, W.P, vs ++ zs, rfl, hv, g2, ⟨rfl, pn, [], rfl, rfl, .nil⟩, Reps.mono0 (W := W) (W' := ⟨W.F, W.m, (W.prv (s.heap.objs.size + 1) (.ins (He.ga X.K c) s.heap.objs.size [])).P, some (s.heap.objs.size + 1)⟩) (fun _ _ h => h) (fun _ _ h => h) (q1.append q2), ?_⟩
      cases e5 : m (ds ++ es) S with
      | ok fs S' =>
        simp only [M.bind, e5, M.pure] at p
        intro W' H' l g' i
        obtain ⟨vfs, h1, h2, h3⟩ := i.p
        have g3 := g'.unPrv h1 pn
        have g4 := g3.other (P := W.P) (sf := W.sf) fun _ _ h => h
        have lf2 := g'.unPrv_lf h1
        refine ⟨rfl, p ⟨upd W'.F (s.heap.objs.size + 1) (.ins (He.ga X.K c) s.heap.objs.size vfs), W'.m, W.P, W.sf⟩ H' _ ⟨⟨fun a o h => lf2.f a o (l.f a o h), rfl, l.mm⟩, rfl⟩ g4 (.ins (dx := s.heap.objs.size) upd_same h2 ?_)⟩
        exact Reps.mono0 (W := W') (W' := ⟨upd W'.F (s.heap.objs.size + 1) (.ins (He.ga X.K c) s.heap.objs.size vfs), W'.m, W.P, W.sf⟩) (fun a o h => lf2.f a o h) (fun _ _ h => h) h3
      | exc x S' =>
        simp only [M.bind, e5] at p
        intro W' H' cls d l g' ⟨o, hP⟩ x'
        have g4 := g'.other (P := W.P) (sf := W.sf) fun a u h => by
          rw [hP]
          have na : a ≠ s.heap.objs.size + 1 := fun z => by subst z; rw [pn] at h; cases h
          rw [upd_ne na]; exact h
        refine p ⟨W'.F, W'.m, W.P, W.sf⟩ H' cls d ⟨⟨fun a o h => l.f a o h, rfl, l.mm⟩, rfl⟩ g4 ?_
        obtain ⟨x1, x2⟩ := x'
        refine ⟨x1, ?_⟩
        rcases x2 with x2 | ⟨a, vfs, y1, y2, y3, y4⟩
        · exact .inl x2
        · exact .inr ⟨a, vfs, y1, y2, y3, rep_other y4⟩
      | bad => simp only [M.bind, e5] at p; exact p
    have r3 : Vals (V.ref (s.heap.objs.size + 1) :: (vs ++ zs)) (Value.ref (s.heap.objs.size + 1) :: (us ++ ws)) := .cons rfl (paired_append r1 r2)
    refine wpAny_call (make_map (f := f) I.kIn Mc.makes Mc.init (beq_iff_eq.mp Mc.fn) (codeAny_mono (F.run _ ?_ X.stack _ _ ⟨Value.ref (s.heap.objs.size + 1) :: us, ks.zip ws⟩ (Value.ref (s.heap.objs.size + 1) :: (us ++ ws)) _ _ _ (hr.make (He.ga X.K c) us (ks.zip ws))
      (I2.env0.make (He.ga X.K c) us (ks.zip ws)) (hb _ (Value.ref (s.heap.objs.size + 1) :: us) ws (by rw [hn, ← hlen]; simp [l1, l3]; omega) l2) r3 want) fun r s' hq' => ?_))
    · exact hg
    cases r with
    | error e => exact tk e s' (L2N.XE.of_call (W := Wx) I2 (fun cls d H' h => h) hq')
    | ok fl =>
      cases fl with
      | ret u =>
        obtain ⟨v, H', I3, rv, ev, q3⟩ := I2.after hq'
        subst ev
        exact ⟨rv, ⟨V.ref (s.heap.objs.size + 1), H', I3, rfl, q3⟩⟩
      | next => exact False.elim hq'
      | brk => exact False.elim hq'
      | cont => exact False.elim hq'
  · simp only [M.bind, hm _ S hlen] at p
    exact p.elim
end
end Ev
namespace Ev
open PySem PySem.Spec PySem.SeqAt L2 PyProof.Rows
section
variable {X : Cx} {Wx : WX} {a b c e o tg : Expr} {es : List Expr} {ma mb mc m mo : ME} {mas mks : MA} {pos p : Pos}
def anyOf : D → Option (List D)
  | .lst ds => some ds
  | .tup ds => some ds
  | .str z => some (signs z)
  | _ => none
def iAny (m : ME) : MA := fun δ => M.bind (m δ) fun d S => match anyOf d with
  | some ds => .ok ds S
  | none => .bad
theorem si_any (h : SE X Wx e m) : SI X Wx tg e (iAny m) := by
  refine ⟨fun pins s σ H R I ⟨W, S, δ, g, r, hp⟩ => ?_⟩
  refine thn (h.run pins s σ H _ I ⟨W, S, δ, g, r, okP.bind (R := Rep X.K) hp⟩) fun v s1 ⟨x, H1, I1, r1, W1, S1, d, l1, g1, q1, p1⟩ => ?_
  cases e1 : anyOf d with
  | none => rw [e1] at p1; exact p1.elim
  | some ds =>
    rw [e1] at p1
    have fpk : ∀ b ∈ [s1.heap.objs.size], FpOk X pins H1 b := fun b hb => by
      have e : b = s1.heap.objs.size := by simpa using hb
      subst e
      exact I1.fpOk (Nat.le_refl _) (I1.hok.fresh (Nat.le_refl _))
    cases q1 with
    | @lst a vs ds' q r2 =>
      cases e1
      obtain rfl : v = Value.ref a := r1
      obtain ⟨its, rv, p, hz⟩ := I1.list (SqL.of (g1.sub _ _ q))
      refine wpAny_pyIter_list p.isList ⟨s1.heap.objs.size, [s1.heap.objs.size], _, _, H1, rfl, I1.kept (t' := s1.toks) fun b o e => Heap.get?_push_of_some _ e, turn_list a _, ⟨_, Heap.get?_push_size _ rfl, rfl, rfl⟩, fpk, ?_⟩
      have w := walk_list (K := X.K) (a := a) (xs := vs)
      rw [← r2.length] at w
      exact okP.pure p1 g1 (walkD_at r2 (w.mono (fun H h => SqL.of (h _ _ q)) fun _ _ _ _ _ _ y => y))
    | @tup a vs ds' q r2 =>
      cases e1
      obtain rfl : v = Value.ref a := r1
      obtain ⟨its, rv, p, hz⟩ := I1.tuple (g1.sqT q)
      refine wpAny_pyIter_tuple (show s1.heap.IsTuple a its.toArray from p) ⟨s1.heap.objs.size, [s1.heap.objs.size], _, _, H1, rfl, I1.kept (t' := s1.toks) fun b o e => Heap.get?_push_of_some _ e, turn_tuple a _, ⟨_, Heap.get?_push_size _ rfl, rfl, rfl⟩, fpk, ?_⟩
      have w := walk_tup (K := X.K) (a := a) (xs := vs)
      rw [← r2.length] at w
      refine okP.pure p1 g1 (walkD_at r2 (w.mono (fun H h => ?_) fun _ _ _ _ _ _ y => y))
      rcases q with q | q
      · exact .inl (rd_sub h q)
      · exact .inr q
    | str z =>
      cases e1
      obtain ⟨t, rfl⟩ := r1
      have wd : WalkD X.K W1 (signs z) (Its z) := by
        have w := walk_str (z := z)
        have el : (signs z).length = z.cps.size := by simp [signs]
        unfold WalkD
        rw [el]
        refine w.mono (fun _ _ => trivial) fun i H x H' hi hG y d hd W2 S2 l g => ?_
        obtain ⟨rfl, c, hc, rfl⟩ := y
        refine ⟨W2, W2.le_refl, g, ?_⟩
        have : d = .str ⟨#[c]⟩ := by
          simp only [signs, List.getElem?_map, Array.getElem?_toList, hc, Option.map_some, Option.some.injEq] at hd
          exact hd.symm
        subst this
        exact .str _
      cases ha : z.cps.all (· < 128)
      · exact wpAny_pyIter_wide ha (pi_one (tk := s1.toks) I1 _ (turn_str _ z t "str_iterator" (.inr rfl)) ⟨_, Heap.get?_push_size _ rfl, rfl, rfl⟩ (okP.pure p1 g1 wd))
      · exact wpAny_pyIter_ascii ha (pi_one (tk := s1.toks) I1 _ (turn_str _ z t "str_ascii_iterator" (.inl rfl)) ⟨_, Heap.get?_push_size _ rfl, rfl, rfl⟩ (okP.pure p1 g1 wd))
    | _ => cases e1
theorem se_gint {x : Str} {i : Int} (hg : Gl X x) (hm : ∃ t, X.mg x = some (.int i t)) (hd : (x == ("__debug__" : Str)) = false) : SE X Wx (.Name x pos) (eC (.int i)) := by
  obtain ⟨t, hm⟩ := hm
  exact se_c (v := .int i) (pe_glob hg hm ⟨t, rfl⟩ hd) fun _ => .int i
def eCal (m : List D → M D) (mas : MA) : ME := fun δ => M.bind (mas δ) m
section
variable {m : List D → M D} {x : Str} {f : Addr} {ks : List Str} {k : Nat}
theorem se_cal (hf : CalG X.prog X.w X.K X.mg X.base k f [] m) (hr : Room k X.A) (hgd : X.A.guards = some []) (tk : L2N.Takes X Wx) (hgl : Gl X x) (hm : X.mg x = some (.ref f)) (hk : PySem.W.keepIn X.K (.ref f) = true) (hdb : (x == ("__debug__" : Str)) = false) (ha : SA X Wx (e :: es) mas)
    (he : starEach (e :: es) X.env = (false, eval e X.env) :: starEach es X.env) (hpl : (backTo pos (starEach es X.env)).any (·.1) = false) : SE X Wx (.Call (.Name x p) (e :: es) [] pos) (eCal m mas) :=
  PE.imp (se_call (hf X Wx rfl rfl rfl rfl rfl hr hgd tk) hgl hm hk hdb ha he hpl) fun σ H Q ⟨W, S, δ, g, r, h⟩ => ⟨W, S, δ, g, r, by
    have : eCallF (fun ds es => m (ds ++ es)) mas aNil δ S = eCal m mas δ S := by
      simp only [eCallF, eCal, aNil, M.bind, M.pure, List.append_nil]
    rw [this]; exact h⟩
theorem PK.imp {kws : List Keyword} {t t' : TA} (h : PK X kws t) (i : ∀ σ H Q, t' σ H Q → t σ H Q) : PK X kws t' := ⟨fun pos pins s σ H Q I q => h.run pos pins s σ H Q I (i σ H Q q)⟩
end
mutual
def frzD : Nat → D → Store → Option (D × Store)
  | n + 1, .ref i, S => (match S[i]? with
    | some (some (.lst ds)) => (frzDs n ds (S.set i none)).map fun r => (.lst r.1, r.2)
    | _ => none)
  | n + 1, .lst ds, S => (frzDs n ds S).map fun r => (.lst r.1, r.2)
  | n + 1, .tup ds, S => (frzDs n ds S).map fun r => (.tup r.1, r.2)
  | 0, .ref _, _ => none
  | _, d, S => some (d, S)
def frzDs : Nat → List D → Store → Option (List D × Store)
  | _, [], S => some ([], S)
  | n, d :: ds, S => (frzD n d S).bind fun r => (frzDs n ds r.2).map fun q => (r.1 :: q.1, q.2)
end
theorem frz_ok {K : PySem.W.Frag} {H : Hp} : ∀ (n : Nat), (∀ {W : Wd} {S : Store} {d d' : D} {S' : Store} {v : V}, Good K W S H → Rep K W d v → frzD n d S = some (d', S') → ∃ W', W.le W' ∧ Good K W' S' H ∧ Rep K W' d' v) ∧
    ∀ {ds ds' : List D} {W : Wd} {S S' : Store} {vs : List V}, Good K W S H → Reps K W ds vs → frzDs n ds S = some (ds', S') → ∃ W', W.le W' ∧ Good K W' S' H ∧ Reps K W' ds' vs := by
  have list : ∀ n, (∀ {W : Wd} {S : Store} {d d' : D} {S' : Store} {v : V}, Good K W S H → Rep K W d v → frzD n d S = some (d', S') → ∃ W', W.le W' ∧ Good K W' S' H ∧ Rep K W' d' v) → ∀ {ds ds' : List D} {W : Wd} {S S' : Store} {vs : List V}, Good K W S H → Reps K W ds vs → frzDs n ds S = some (ds', S') → ∃ W', W.le W' ∧ Good K W' S' H ∧ Reps K W' ds' vs := by
    intro n h ds
    induction ds with
    | nil =>
      intro ds' W S S' vs g r e
      cases r
      simp only [frzDs, Option.some.injEq, Prod.mk.injEq] at e
      obtain ⟨rfl, rfl⟩ := e
      exact ⟨W, W.le_refl, g, .nil⟩
    | cons d ds ih =>
      intro ds' W S S' vs g r e
      cases r with
      | cons r1 r2 =>
        simp only [frzDs] at e
        cases e1 : frzD n d S with
        | none => rw [e1] at e; cases e
        | some z =>
          obtain ⟨d1, S1⟩ := z
          rw [e1] at e
          simp only [Option.bind_some] at e
          cases e2 : frzDs n ds S1 with
          | none => rw [e2] at e; cases e
          | some z2 =>
            obtain ⟨ds2, S2⟩ := z2
            rw [e2] at e
            simp only [Option.map_some, Option.some.injEq, Prod.mk.injEq] at e
            obtain ⟨rfl, rfl⟩ := e
            obtain ⟨W1, l1, g1, q1⟩ := h g r1 e1
            obtain ⟨W2, l2, g2, q2⟩ := ih g1 (r2.mono l1) e2
            exact ⟨W2, l1.trans l2, g2, .cons (q1.mono l2) q2⟩
  intro n
  induction n with
  | zero =>
    have h0 : ∀ {W : Wd} {S : Store} {d d' : D} {S' : Store} {v : V}, Good K W S H → Rep K W d v → frzD 0 d S = some (d', S') → ∃ W', W.le W' ∧ Good K W' S' H ∧ Rep K W' d' v := by
      intro W S d d' S' v g r e
      cases d <;> first
        | (simp only [frzD, Option.some.injEq, Prod.mk.injEq] at e; obtain ⟨rfl, rfl⟩ := e; exact ⟨W, W.le_refl, g, r⟩)
        | (simp only [frzD] at e; cases e)
    exact ⟨h0, list 0 h0⟩
  | succ n ih =>
    have h1 : ∀ {W : Wd} {S : Store} {d d' : D} {S' : Store} {v : V}, Good K W S H → Rep K W d v → frzD (n + 1) d S = some (d', S') → ∃ W', W.le W' ∧ Good K W' S' H ∧ Rep K W' d' v := by
      intro W S d d' S' v g r e
      cases d with
      | lst ds =>
        cases r with
        | @lst a vs _ q r2 =>
          simp only [frzD] at e
          cases e2 : frzDs n ds S with
          | none => rw [e2] at e; cases e
          | some z =>
            obtain ⟨ds2, S2⟩ := z
            rw [e2] at e
            simp only [Option.map_some, Option.some.injEq, Prod.mk.injEq] at e
            obtain ⟨rfl, rfl⟩ := e
            obtain ⟨W1, l1, g1, q1⟩ := ih.2 g r2 e2
            exact ⟨W1, l1, g1, .lst (l1.f _ _ q) q1⟩
      | tup ds =>
        cases r with
        | @tup a vs _ q r2 =>
          simp only [frzD] at e
          cases e2 : frzDs n ds S with
          | none => rw [e2] at e; cases e
          | some z =>
            obtain ⟨ds2, S2⟩ := z
            rw [e2] at e
            simp only [Option.map_some, Option.some.injEq, Prod.mk.injEq] at e
            obtain ⟨rfl, rfl⟩ := e
            obtain ⟨W1, l1, g1, q1⟩ := ih.2 g r2 e2
            exact ⟨W1, l1, g1, .tup (sqT_mono l1 q) q1⟩
      | ref i =>
        cases r with
        | @ref _ a hm =>
          simp only [frzD] at e
          split at e
          · rename_i ds hc
            obtain ⟨a', e1, e2, e3, vs, e4, e5⟩ := g.cell i _ hc
            rw [hm] at e1; cases e1
            obtain ⟨g1, l1⟩ := g.freeze hc hm e4
            cases e6 : frzDs n ds (S.set i none) with
            | none => rw [e6] at e; cases e
            | some z =>
              obtain ⟨ds2, S2⟩ := z
              rw [e6] at e
              simp only [Option.map_some, Option.some.injEq, Prod.mk.injEq] at e
              obtain ⟨rfl, rfl⟩ := e
              obtain ⟨W1, l2, g2, q2⟩ := ih.2 g1 (e5.mono l1) e6
              exact ⟨W1, l1.trans l2, g2, .lst (l2.f _ _ (by show upd _ _ _ _ = _; rw [upd_same])) q2⟩
          · cases e
      | _ =>
        simp only [frzD, Option.some.injEq, Prod.mk.injEq] at e
        obtain ⟨rfl, rfl⟩ := e
        exact ⟨W, W.le_refl, g, r⟩
    exact ⟨h1, list (n + 1) h1⟩
def eFrz (m : ME) : ME := fun δ => M.bind (m δ) fun d => lft (frzD 4 d)
theorem se_frz (h : SE X Wx e m) : SE X Wx e (eFrz m) :=
  PE.imp h fun σ H Q ⟨W, S, δ, g, r, p⟩ => ⟨W, S, δ, g, r, (okP.bind (R := Rep X.K) p).imp fun v H1 ⟨W1, S1, d, l1, g1, r1, p1⟩ => by
    have p2 := p1.lft
    cases e1 : frzD 4 d S1 with
    | none => rw [e1] at p2; exact p2.elim
    | some z =>
      obtain ⟨d', S'⟩ := z
      rw [e1] at p2
      obtain ⟨W2, l2, g2, q2⟩ := (frz_ok 4).1 g1 r1 e1
      exact p2 W2 H1 v l2 g2 q2⟩
def pStrI (tab : Str → Option (List D → M D)) : List D → PO := fun ds S => match ds with
  | [d] => (match clsOf S d with
    | some (c, _) => (match tab c with
      | some m => (match m [d] S with
        | .ok (.str z) S' => some (.str z, S')
        | _ => none)
      | none => none)
    | none => pStr [d] S)
  | _ => none
def StrOk (X : Cx) (k : Nat) (tab : Str → Option (List D → M D)) : Prop := ∀ c m, tab c = some m → ∃ f fd, PySem.W.findIn X.K (.ref (He.ga X.K c)) "__str__" = some (some (.ref f)) ∧ PySem.W.isFn X.K (.ref f) = true ∧ FnG X.prog X.w X.K X.mg X.base k f fd ["self"] (spM X.K 1 m) ∧ BindK X.K fd ["self"] []
theorem cr_pStrI {k : Nat} {tab : Str → Option (List D → M D)} (ht : StrOk X k tab) (hr : Room (k + 2) X.A) (hg : X.A.guards = some []) : CallR X (.type "str") (rDC X.K (pStrI tab)) := fun pins s σ H vs us Q I rv ⟨W, S, ds, g, r, p⟩ => by
  match ds, r, p with
  | [d], r, p =>
    obtain ⟨v, rfl, q⟩ := reps1 r
    simp only [pStrI] at p
    cases e : clsOf S d with
    | none => rw [e] at p; exact cr_pStr pins s σ H _ us Q I rv ⟨W, S, [d], g, r, p⟩
    | some z =>
      obtain ⟨c, fs⟩ := z
      rw [e] at p
      dsimp only at p
      cases e1 : tab c with
      | none => rw [e1] at p; exact p.elim
      | some m =>
        rw [e1] at p
        dsimp only at p
        obtain ⟨f, fd, k1, k2, F, hb⟩ := ht c m e1
        obtain ⟨a, dx, vfs, rfl, h1, h2, h3⟩ := clsOf_ok e g q
        obtain rfl := Vals.ref1 rv
        obtain ⟨mA, O, _⟩ := ins_get I.hok h1
        obtain ⟨od, J, _⟩ := O.look
        have hr2 : Room k X.A.in1.in1 := Room.in1 (Room.in1 hr)
        refine PySem.W.kso_call (by have := hr2.un; omega) I.kIn J k1 k2 (wpAny_call ?_)
        have want : spM X.K 1 m [.ref a] H (fun v H' => ∃ z, v = .str z ∧ Q (.str z) H') (fun _ _ _ => False) := ⟨rfl, W, S, [d], g, r, by
          cases e2 : m [d] S with
          | ok d2 S2 =>
            rw [e2] at p
            cases d2 with
            | str z =>
              intro W' H' v' l g' q'
              cases q'
              exact ⟨z, rfl, p W' H' _ l g' (.str z)⟩
            | _ => exact p.elim
          | exc x S2 => rw [e2] at p; exact p.elim
          | bad => rw [e2] at p; exact p.elim⟩
        refine codeAny_mono (F.run X.A.in1.in1 hg X.stack s H ⟨[.ref a], []⟩ [.ref a] [.ref a] _ _ hr2 (Env0.in1 (Env0.in1 I.env0)) (hb s [.ref a] [] rfl rfl) (.cons rfl .nil) want) fun res s' hq => ?_
        cases res with
        | error ex =>
          obtain ⟨_, _, _, _, _, _, _, _, _, _, _, _, z⟩ := hq
          exact z.elim
        | ok fl =>
          cases fl with
          | ret u =>
            obtain ⟨v, H', I3, rv, z, rfl, q3⟩ := I.after hq
            obtain ⟨t, rfl⟩ := rv
            exact ⟨.str z, H', I3, ⟨t, rfl⟩, q3⟩
          | next => exact hq.elim
          | brk => exact hq.elim
          | cont => exact hq.elim
  | [], r, p => exact p.elim
  | _ :: _ :: _, r, p => exact p.elim
end
end Ev
namespace Ev
open PySem PySem.Spec PySem.SeqAt L2 PyProof.Rows
theorem takes_no {X : Cx} : L2N.Takes X (fun _ _ _ _ => False) := fun u s' ⟨_, _, _, _, _, _, _, _, _, _, _, _, _, _, _, _, w⟩ => w.elim
/-- where a piece of text is run -/
structure Ct (X : Cx) (Wx : WX) (k : Nat) : Prop where
  calm : X.calm = true
  gd : X.A.guards = some []
  room : Room k X.A
  tk : L2N.Takes X Wx
theorem Ct.blk {X : Cx} {Wx : WX} {k : Nat} (c : Ct X Wx k) {s : Shared} {H : Hp} {scope : Scope} {cenv : Env} {fp : List Addr} : Ct (X.blk s H scope cenv fp) (fun _ _ _ _ => False) k := ⟨c.calm, c.gd, c.room, takes_no⟩
theorem Ct.hu {X : Cx} {Wx : WX} {k : Nat} (c : Ct X Wx k) : X.A.units + 64 < cLine := by have := c.room.un; omega
theorem ct_of {P : Program} {w : World} {K : PySem.W.Frag} {mg : Str → Option Value} {base : Heap} {k : Nat} {N : List Str} {qual : Str} {scope : Scope} {f : Addr} {cdv : Value} {A : Around} {outer : List Env} {s : Shared} {H : Hp} {E : XK}
    (hg : A.guards = some []) (hr : Room k (A.deeper (envOfC qual scope s.heap.objs.size f cdv))) : Ct (cxOf (L2N.CX P w) P w K mg base N qual scope f cdv A outer s H E) (fun cls d _ H' => E cls d H') k := ⟨rfl, hg, hr, L2N.takes_of rfl rfl rfl rfl⟩
theorem po_of {P : Program} {w : World} {K : PySem.W.Frag} {mg : Str → Option Value} {base : Heap} {N : List Str} {qual : Str} {scope : Scope} {f : Addr} {cdv : Value} {A : Around} {outer : List Env} {s : Shared} {H : Hp} {E : XK} :
    PassesOwn (model P w) (cxOf (L2N.CX P w) P w K mg base N qual scope f cdv A outer s H E).A (cxOf (L2N.CX P w) P w K mg base N qual scope f cdv A outer s H E).env (cxOf (L2N.CX P w) P w K mg base N qual scope f cdv A outer s H E).xe := passes_of rfl
section
variable {X : Cx} {Wx : WX} {a b c e o tg : Expr} {es : List Expr} {ma mb mc m mo mi : ME} {mas mks : MA} {pos p : Pos} {k : Nat} {x : Str}
/-- f(e, ..), f a built-in function; a type -/
theorem nB {id : String} {g : List D → PO} (hc : CallR X (.builtin id) (rDC X.K g)) (hm : X.mg x = none) (hv : bootBuiltins x = some (.builtin id)) (ha : SA X Wx (e :: es) mas) (hg : Gl X x := by rfl) (hn : x ≠ "__name__" := by decide) (hdb : (x == ("__debug__" : Str)) = false := by decide)
    (he : starEach (e :: es) X.env = (false, eval e X.env) :: starEach es X.env := by rfl) (hpl : (backTo pos (starEach es X.env)).any (·.1) = false := by rfl) : SE X Wx (.Call (.Name x p) (e :: es) [] pos) (eCallV g mas) :=
  PE.imp (pe_callB hc hg hm hv ha hn hdb he hpl) tCB_of
theorem nT {T : String} {g : List D → PO} (hc : CallR X (.type T) (rDC X.K g)) (hm : X.mg x = none) (hv : bootBuiltins x = some (.type T)) (ha : SA X Wx (e :: es) mas) (hg : Gl X x := by rfl) (hn : x ≠ "__name__" := by decide) (hdb : (x == ("__debug__" : Str)) = false := by decide)
    (he : starEach (e :: es) X.env = (false, eval e X.env) :: starEach es X.env := by rfl) (hpl : (backTo pos (starEach es X.env)).any (·.1) = false := by rfl) : SE X Wx (.Call (.Name x p) (e :: es) [] pos) (eCallV g mas) :=
  PE.imp (pe_callTy hc hg hm hv ha hn hdb he hpl) tCB_of
theorem nVar (i : Nat) (hN : X.N[i]? = some x := by rfl) (hv : Vis X.env.scope x := by first | exact .inl rfl | exact .inr (.inl rfl) | exact .inr (.inr rfl)) (hd : (x == ("__debug__" : Str)) = false := by rfl) (hcd : (x == ("__classdict__" : Str)) = false := by rfl) : SE X Wx (.Name x pos) (eVar i) := se_var hN hv hd hcd
theorem nCons (ha : SE X Wx e ma) (hr : SA X Wx es mas) (hs : starEach (e :: es) X.env = (false, eval e X.env) :: starEach es X.env := by rfl) : SA X Wx (e :: es) (aCons ma mas) := sa_cons ha hr hs
theorem nInt {x : Str} {i : Int} (hm : ∃ t, X.mg x = some (.int i t)) (hg : Gl X x := by rfl) (hd : (x == ("__debug__" : Str)) = false := by rfl) : SE X Wx (.Name x pos) (eC (.int i)) := se_gint hg hm hd
theorem nCmp {op : CmpOp} {f : D → D → PO} (ho : OpR X (compareOp op) (rD2 X.K f)) (ha : SE X Wx a ma) (hb : SE X Wx b mb) (hm : behindInMarks op b = false := by rfl) : SE X Wx (.Compare a [op] [b] pos) (eOp f ma mb) := se_cmp ho ha hb hm
theorem nCmpT {op : CmpOp} {f : D → D → PO} (ho : OpR X (compareOp op) (rD2 X.K f)) (ha : SE X Wx a ma) (hb : SE X Wx b mb) (hm : behindInMarks op b = false := by rfl) : ST X Wx (.Compare a [op] [b] pos) (fun δ => asB (eOp f ma mb δ)) := st_cmp ho ha hb hm
theorem nChT {op op' : CmpOp} {f f' : D → D → PO} (ho : OpR X (compareOp op) (rD2 X.K f)) (ho' : OpR X (compareOp op') (rD2 X.K f')) (ha : SE X Wx a ma) (hb : SE X Wx b mb) (hc : SE X Wx c mc) (hm : lastMarks [op, op'] [b, c] = false := by rfl) : ST X Wx (.Compare a [op, op'] [b, c] pos) (fun δ => asB (eChain f f' ma mb mc δ)) := st_chain ho ho' ha hb hc hm
theorem nTru (ha : SE X Wx a ma) (he : ∀ whole, isTrue a X.env whole = (do let v ← whole; standAt a.pos; holding [v] (truthy v)) := by intro _; rfl) : ST X Wx a (fun δ => tru (ma δ)) := st_truth ha he
theorem nIx {i : Expr} (ho : SE X Wx o mo) (hi : SE X Wx i mi) (hs : PlainIx i := by intro _ _; rfl) : SE X Wx (.Subscript o i pos) (eOp pIx mo mi) := se_ix ho hi hs
theorem sw_st {ta : MT} (h : SW X Wx a ta) : ST X Wx a ta := PW.pt h
theorem and1 (ha : SE X Wx a ma) : SE X Wx (.BoolOp .And [a] pos) ma := pe_one ha
theorem or1 (ha : SE X Wx a ma) : SE X Wx (.BoolOp .Or [a] pos) ma := pe_one ha
theorem nFld {ok : Str → Bool} {fl : Str} (hcls : ∀ c, ok c = true → Cls X.K (He.ga X.K c) ∧ NoAttr X.K (He.ga X.K c) fl) (ho : SE X Wx o mo) (hb : attributeBase o fl X.env (eval o X.env) = eval o X.env := by rfl) : SE X Wx (.Attribute o fl pos) (eFld ok fl mo) := se_fld ho hcls hb
theorem nCal {f : Addr} {m : List D → M D} (C : Ct X Wx k) (hf : CalG X.prog X.w X.K X.mg X.base k f [] m) (hm : X.mg x = some (.ref f)) (hk : PySem.W.keepIn X.K (.ref f) = true) (ha : SA X Wx (e :: es) mas) (hgl : Gl X x := by rfl) (hdb : (x == ("__debug__" : Str)) = false := by rfl)
    (he : starEach (e :: es) X.env = (false, eval e X.env) :: starEach es X.env := by rfl) (hpl : (backTo pos (starEach es X.env)).any (·.1) = false := by rfl) : SE X Wx (.Call (.Name x p) (e :: es) [] pos) (eCal m mas) := se_cal hf C.room C.gd C.tk hgl hm hk hdb ha he hpl
theorem nMb {T id : String} {nm : Str} {f : D → List D → PO} {apos : Pos} (pa : PlainAttrs T) (slot : Slot T nm id) (hty : typeOf (.builtin id) = pure (.type "method_descriptor")) (hm : MtR X id (rDM X.K f)) (ho : SE X Wx o mo) (ha : SA X Wx (e :: es) mas)
    (hbase : attributeBase o nm X.env (eval o X.env) = eval o X.env := by rfl)
    (hfew : ((backTo pos (starEach (e :: es) X.env)).all (fun x => !x.1) && (backToKw pos (keywordEach [] X.env)).all (fun x => x.1.isSome)
      && decide ((e :: es).length + ([] : List Keyword).length + (if ([] : List Keyword).isEmpty then 0 else 1) < 30)) = true := by rfl)
    (hline : (apos.endLine == pos.line) = true := by rfl) (hs : starEach (e :: es) X.env = (false, eval e X.env) :: starEach es X.env := by rfl) (hpl : (backTo pos (starEach es X.env)).any (·.1) = false := by rfl) :
    SE X Wx (.Call (.Attribute o nm apos) (e :: es) [] pos) (eMB T f mo mas) := se_mb pa slot hty hm ho ha hbase hfew hline hs hpl
theorem nIsi {isi : Ty → Ty → Option Bool} {c : Ty} {p2 : Pos} {ce : Expr} {cv : V} (kk : IsiOk X.K isi) (ho : SE X Wx o mo) (hc : PE X ce (tC cv)) (hcv : ClsV cv (c.val X.K)) (hm : X.mg "isinstance" = none) (hgl : Gl X "isinstance" := by rfl)
    (h1 : starEach [o, ce] X.env = (false, eval o X.env) :: starEach [ce] X.env := by rfl) (h2 : starEach [ce] X.env = (false, eval ce X.env) :: starEach [] X.env := by rfl) : SE X Wx (.Call (.Name "isinstance" p) [o, ce] [] pos) (eIsi isi c mo) := se_isi (p2 := p2) kk ho hc hcv hgl hm h1 h2
variable {st : Stmt} {sts : List Stmt} {ms mt : MS}
theorem nSet (i : Nat) {y : Str} {pos' : Pos} (he : SE X Wx e m) (hN : X.N.Nodup) (hi : X.N[i]? = some y := by rfl) (hx : Loc X.env.scope y := by first | exact .inl rfl | exact .inr rfl) (hs : swapsWith e (some (.Name y pos')) pos.line X.env = pure false := by rfl) (hf : X.fn y = true ∨ X.env.scope.names.lookup y = some .local := by first | exact .inl rfl | exact .inr rfl) : SS X Wx (.Assign [.Name y pos'] e pos) (sAsg m (gNm i)) :=
  ss_set hN hi hx he hs hf
theorem nAsg {mg : TGM} (he : SE X Wx e m) (hg : SG X tg mg) (hs : swapsWithSole [tg] e pos.line X.env = pure false := by rfl) (hw : swappedStores [tg] e X.env = pure none := by rfl) (h1 : (assignEach [tg] X.env).map (·.2) = [assign tg X.env] := by rfl) : SS X Wx (.Assign [tg] e pos) (sAsg m mg) := ss_asg he hg hs hw h1
theorem nPar2 (i j : Nat) {x y : Str} {px py pt : Pos} {kt k2 : Nat} {pt2 : Pos} (C : Ct X Wx k) (hN : X.N.Nodup) (ha : SA X Wx [a, b] mas) (hi : X.N[i]? = some x := by rfl) (hj : X.N[j]? = some y := by rfl) (hij : i ≠ j := by decide)
    (hx : X.env.scope.names.lookup x = some .local := by rfl) (hy : X.env.scope.names.lookup y = some .local := by rfl)
    (hw : swappedStores [.Tuple [.Name x px, .Name y py] kt pt] (.Tuple [a, b] k2 pt2) X.env = pure (some [x, y]) := by rfl) :
    SS X Wx (.Assign [.Tuple [.Name x px, .Name y py] kt pt] (.Tuple [a, b] k2 pt2) pos) (sPar2 i j mas) := ss_par2 C.calm hN hi hj hij hx hy ha hw
theorem nExpr (he : SE X Wx e m) (hs : swapsWith e none pos.line X.env = pure false := by rfl) : SS X Wx (.Expr e pos) (sExpr m) := ss_expr he hs
theorem nFor {iter : Expr} {body : List Stmt} {mi : MA} {mg : TGM} {mb : MS} (C : Ct X Wx k) (hp : PassesOwn (model X.prog X.w) X.A X.env X.xe) (hi : SI X Wx tg iter mi) (hg : SG X tg mg) (hb : SB X Wx body mb) (hs : ∀ x, foldedSetIterable iter X.env x = pure x := by intro _; rfl) : SS X Wx (.For tg iter body [] pos) (sFor mi mg mb) :=
  ss_for hp C.calm hi hg hb hs
theorem gName (i : Nat) (hN : X.N.Nodup) (hi : X.N[i]? = some x := by rfl) (hx : Loc X.env.scope x := by first | exact .inl rfl | exact .inr rfl) (hf : X.fn x = true ∨ X.env.scope.names.lookup x = some .local := by first | exact .inl rfl | exact .inr rfl) : SG X (.Name x pos) (gNm i) := sg_name hN hi hx hf
theorem gTup {kk n : Nat} {ms : TGMs} (C : Ct X Wx k) (h : SGs X es ms) (hn : (assignEach es X.env).length = n := by rfl) (hst : (assignEach es X.env).findIdx? (·.1) = none := by rfl) : SG X (.Tuple es kk pos) (gTp n ms) := sg_tup C.calm h hn hst
theorem gCons {m : TGM} {ms : TGMs} (h1 : SG X e m) (h2 : SGs X es ms) (hs : (assignEach (e :: es) X.env).map (·.2) = assign e X.env :: (assignEach es X.env).map (·.2) := by rfl) : SGs X (e :: es) (gCs m ms) := sgs_cons h1 h2 hs
theorem gSub {o i : Expr} {mo mi : ME} {f : PSt} (Wx : WX) (ho : SE X Wx o mo) (hi : SE X Wx i mi) (hs : PSet X (tDSet X.K f)) (ha : ∀ v, assign (.Subscript o i pos) X.env v = (do
      let ov ← holding [v] (eval o X.env)
      let iv ← holding [v, ov] (eval i X.env)
      standAt pos
      holding [v, ov, iv] (setItem ov iv v)
      release [v, ov, iv] []) := by intro _; rfl) : SG X (.Subscript o i pos) (gSb f mo mi) := sg_sub ho hi hs ha
theorem uName (i : Nat) (hN : X.N.Nodup) (hi : X.N[i]? = some x := by rfl) (hx : Loc X.env.scope x := by first | exact .inl rfl | exact .inr rfl) (hf : X.fn x = true ∨ X.env.scope.names.lookup x = some .local := by first | exact .inl rfl | exact .inr rfl) : PG X (.Name x pos) (tDU X.K (uNm i)) := su_name hN hi hx hf
def tYesM : MT := fun _ => M.pure true
theorem ptsNil : PTs X [] (tDT X.K Wx tYesM) := ⟨fun pins s σ H Q I ⟨W, S, δ, g, r, p⟩ => pts_nil.run pins s σ H Q I (okP.pure p g rfl)⟩
theorem ptsOne {t : MT} (h : ST X Wx c t) : PTs X [c] (tDT X.K Wx t) := pts_one h
def iR1 (mas : MA) : MA := fun δ => M.bind (mas δ) fun ds => match ds with
    | [.int j] => if -(2 ^ 62) ≤ j ∧ j < 2 ^ 62 then M.pure (rngD 0 j.toNat) else M.bad
    | _ => M.bad
def iR2 (mas : MA) : MA := fun δ => M.bind (mas δ) fun ds => match ds with
    | [.int i, .int j] => if -(2 ^ 62) ≤ i ∧ i < 2 ^ 62 ∧ -(2 ^ 62) ≤ j ∧ j < 2 ^ 62 then M.pure (rngD i (j - i).toNat) else M.bad
    | _ => M.bad
theorem nR1 {p : Pos} (hm : X.mg "range" = none) (ha : SA X Wx [a] mas) (hg : Gl X "range" := by rfl) (hs : starEach [a] X.env = [(false, eval a X.env)] := by rfl) : SI X Wx tg (.Call (.Name "range" p) [a] [] pos) (iR1 mas) := si_range1 hg hm ha hs
theorem nLc {elt tg iter : Expr} {ifs : List Expr} {scope : Scope} (own : List (Str × Nat)) {mi : MA} {up : UpD} {mt : MT} {me : ME} {fin : List D → PO} (C : Ct X Wx k) (hf : FinOk X.K fin) (hN : X.N.Nodup) (hi : SI X Wx tg iter mi) (ok : BlkOk X.N X.env.scope scope own)
    (hg : ∀ (s : Shared) (H : Hp) (C : Addr) (cl : List (Str × Addr)) (fp : List Addr), PG (X.blk s H scope (compEnvC scope cl C X.env) fp) tg (tDU X.K up)) (ht : ∀ (s : Shared) (H : Hp) (C : Addr) (cl : List (Str × Addr)) (fp : List Addr), PTs (X.blk s H scope (compEnvC scope cl C X.env) fp) ifs (tDT X.K (fun _ _ _ _ => False) mt))
    (he : ∀ (s : Shared) (H : Hp) (C : Addr) (cl : List (Str × Addr)) (fp : List Addr), SE (X.blk s H scope (compEnvC scope cl C X.env) fp) (fun _ _ _ _ => False) elt me) (hu : ∀ d us, up d = some us → ∀ p ∈ us, p.1 ∈ own.map (·.2)) (hs : ∀ x, foldedSetIterable iter X.env x = pure x := by intro _; rfl) :
    SE X Wx (.ListComp elt [⟨tg, iter, ifs, 0⟩] scope pos) (eLc fin mi up mt me (own.map (·.2))) := se_lc hf hu C.calm hN hi ok hg ht he hs
theorem nSetLc (i : Nat) {y : Str} {py spos : Pos} {elt tg iter : Expr} {ifs : List Expr} {scope : Scope} (own : List (Str × Nat)) {mi : MA} {up : UpD} {mt : MT} {me : ME} {fin : List D → PO} (C : Ct X Wx k) (hf : FinOk X.K fin) (hN : X.N.Nodup) (hi : SI X Wx tg iter mi) (ok : BlkOk X.N X.env.scope scope own)
    (hg : ∀ (s : Shared) (H : Hp) (C : Addr) (cl : List (Str × Addr)) (fp : List Addr), PG (X.blk s H scope (compEnvC scope cl C X.env) fp) tg (tDU X.K up)) (ht : ∀ (s : Shared) (H : Hp) (C : Addr) (cl : List (Str × Addr)) (fp : List Addr), PTs (X.blk s H scope (compEnvC scope cl C X.env) fp) ifs (tDT X.K (fun _ _ _ _ => False) mt))
    (he : ∀ (s : Shared) (H : Hp) (C : Addr) (cl : List (Str × Addr)) (fp : List Addr), SE (X.blk s H scope (compEnvC scope cl C X.env) fp) (fun _ _ _ _ => False) elt me) (hu : ∀ d us, up d = some us → ∀ p ∈ us, p.1 ∈ own.map (·.2)) (hy : X.N[i]? = some y := by rfl) (hyl : X.env.scope.names.lookup y = some .local := by rfl)
    (hsw : swapsWith (.ListComp elt [⟨tg, iter, ifs, 0⟩] scope pos) (some (.Name y py)) spos.line X.env = pure true := by exact sw_true rfl rfl rfl (by decide +kernel)) (hs : ∀ x, foldedSetIterable iter X.env x = pure x := by intro _; rfl) :
    SS X Wx (.Assign [.Name y py] (.ListComp elt [⟨tg, iter, ifs, 0⟩] scope pos) spos) (sAsg (eLc fin mi up mt me (own.map (·.2))) (gNm i)) := ss_setLc hf hu C.calm hN hy hyl hsw hi ok hg ht he hs
theorem upNm {i : Nat} {l : List Nat} (h : i ∈ l := by decide) : ∀ d us, uNm i d = some us → ∀ p ∈ us, p.1 ∈ l := fun d us e p hp => by
  unfold uNm at e
  cases e
  rw [List.mem_singleton.mp hp]
  exact h
theorem nZipS {p q : Pos} (hm : X.mg "zip" = none) (ha : SE X Wx e ma) (hg : Gl X "zip" := by rfl) : SI X Wx tg (.Call (.Name "zip" p) [.Starred e q] [] pos) (iZip (aStar ma aNil)) := si_zipS hg hm ha
variable {cn : Str} {mI : MI}
theorem iSelf {x f : Str} {px : Pos} (hc : Cls X.K (He.ga X.K cn) ∧ NoAttr X.K (He.ga X.K cn) f) (hN : X.N[0]? = some x := by rfl) (hv : Vis X.env.scope x := by first | exact .inl rfl | exact .inr (.inl rfl) | exact .inr (.inr rfl)) (hd : (x == ("__debug__" : Str)) = false := by rfl) (hcd : (x == ("__classdict__" : Str)) = false := by rfl) : PG X (.Attribute (.Name x px) f pos) (tGI X.K cn f) := sgi hN hv hd hcd hc
theorem iCs {f : Str} {ps : List Str} (h1 : PG X e (tGI X.K cn f)) (h2 : PGs X es (tGIs X.K cn ps)) (hs : (assignEach (e :: es) X.env).map (·.2) = assign e X.env :: (assignEach es X.env).map (·.2) := by rfl) : PGs X (e :: es) (tGIs X.K cn (f :: ps)) := sgis_cons h1 h2 hs
theorem iMany {ps : List Str} {kk : Nat} {pt : Pos} (C : Ct X Wx k) (he : SE X Wx e m) (hg : PGs X es (tGIs X.K cn ps)) (h2 : SBI X Wx cn sts mI) (hn : (assignEach es X.env).length = ps.length := by rfl) (hst : (assignEach es X.env).findIdx? (·.1) = none := by rfl)
    (hs : swapsWithSole [.Tuple es kk pt] e pos.line X.env = pure false := by rfl) (hw : swappedStores [.Tuple es kk pt] e X.env = pure none := by rfl) (h1 : (assignEach [.Tuple es kk pt] X.env).map (·.2) = [assign (.Tuple es kk pt) X.env] := by rfl) : SBI X Wx cn (.Assign [.Tuple es kk pt] e pos :: sts) (iSets m ps mI) := sbi_sets (n := 0) C.calm he hg h2 hn hst hs hw h1
end
def StrG (P : Program) (w : World) (K : PySem.W.Frag) (mg : Str → Option Value) (base : Heap) (k : Nat) (tab : Str → Option (List D → M D)) : Prop := ∀ c m, tab c = some m → ∃ f fd, PySem.W.findIn K (.ref (He.ga K c)) "__str__" = some (some (.ref f)) ∧ PySem.W.isFn K (.ref f) = true ∧ FnG P w K mg base k f fd ["self"] (spM K 1 m) ∧ BindK K fd ["self"] []
theorem CalG.mono {P : Program} {w : World} {K : PySem.W.Frag} {mg : Str → Option Value} {base : Heap} {j k : Nat} {v : Addr} {ks : List Str} {m : List D → M D} (h : CalG P w K mg base j v ks m) (l : j ≤ k) : CalG P w K mg base k v ks m :=
  fun X Wx e1 e2 e3 e4 e5 hr => h X Wx e1 e2 e3 e4 e5 (hr.mono l)

theorem CalG.bad {P : Program} {w : World} {K : PySem.W.Frag} {mg : Str → Option Value} {base : Heap} {k : Nat} {v : Addr} {ks : List Str} : CalG P w K mg base k v ks (fun _ _ => .bad) :=
  fun X Wx e1 e2 e3 e4 e5 hr hg tk pins s σ H vs zs us ws Q I r1 r2 hl ⟨W, S, ds, es, g, q1, q2, p⟩ => p.elim
theorem FnG.bad {P : Program} {w : World} {K : PySem.W.Frag} {mg : Str → Option Value} {base : Heap} {k : Nat} {f : Addr} {fd : FuncData} {x : Str} : FnG P w K mg base k f fd [x] (spM K 1 (fun _ _ => .bad)) :=
  ⟨fun vs H Q E h => h.1, fun A hg outer s H args us vs Q E hr e0 hb rel ⟨_, W, S, ds, g, r, p⟩ => p.elim⟩
theorem initM_len {nN n : Nat} {m : MI} (ds : List D) (S : Store) (h : ds.length ≠ n) : initM nN n m ds S = .bad := by unfold initM; rw [if_neg h]
theorem bt_len : bootBuiltins "len" = some (.builtin "len") := by decide +kernel
theorem bt_abs : bootBuiltins "abs" = some (.builtin "abs") := by decide +kernel
theorem bt_max : bootBuiltins "max" = some (.builtin "max") := by decide +kernel
theorem bt_all : bootBuiltins "all" = some (.builtin "all") := by decide +kernel
theorem bt_any : bootBuiltins "any" = some (.builtin "any") := by decide +kernel
theorem bt_divmod : bootBuiltins "divmod" = some (.builtin "divmod") := by decide +kernel
theorem bt_int : bootBuiltins "int" = some (.type "int") := by decide +kernel
theorem bt_str : bootBuiltins "str" = some (.type "str") := by decide +kernel
theorem bt_bool : bootBuiltins "bool" = some (.type "bool") := by decide +kernel
theorem bt_list : bootBuiltins "list" = some (.type "list") := by decide +kernel
theorem bt_tuple : bootBuiltins "tuple" = some (.type "tuple") := by decide +kernel
end Ev
namespace Ev
open PySem PySem.Spec PyProof.Rows L2
/-- the world at the law's entry -/
def w0 (H : Hp) : Wd := ⟨H, [], fun _ => none, none⟩
theorem good0 {K : PySem.W.Frag} (H : Hp) : Good K (w0 H) [] H where
  sub := fun _ _ e => e
  len := rfl
  cell := fun i c e => by simp at e
  inj := fun i j a c c' e => by simp at e
  prv := fun a o e => by cases e
  ptup := fun a xs e => by cases e
section
variable {P : Program} {w : World} {K : PySem.W.Frag} {mg mb : Str → Option Value} {k : Nat} {fa a : Addr} {fd : FuncData} {x : Str} {s1 : Shared} {vs : List Value} {ns : List Int} {m : List D → M D}
/-- the entry, from a heap that tracks the script at most -/
theorem law_at (H : Hp) (only : ∀ b u, H b = some u → b = a ∧ K.lookup b = none ∧ ∃ o xs, u = .frz o (.lst xs)) (hS : SqL K H a (ns.map V.int)) (hok : HOk P w H s1.heap)
    (KX : K.In s1.heap) (hns : s1.heap.Ns mainGlobals mg) (hb : s1.heap.Ns builtinsNs mb) (hbb : ∀ y : Str, y ≠ "__name__" → mb y = bootBuiltins y) (hlim : s1.heap.NoLimit) (hg : s1.gens = #[])
    (ha : s1.heap.get? a = some { cls := .type "list", data := .seq vs.toArray }) (hr : Room k callerA)
    (F : ∀ base : Heap, K.In base → base.Ns mainGlobals mg → FnG P w K mg base k fa fd [x] (spM K 1 m)) (hbind : ∀ (s : Shared) (u : Value), BindsTo s fd ⟨[u], []⟩ [(x, u)])
    (hm : ∃ S, m [.scr ns] [] = .ok (.bl true) S) :
    codeAny (model P w) callerA (.call (.ref fa) ⟨[.ref a], []⟩) (fun r s' => (r = .ok (.ret (.bool true)) ∧ OldK s1.heap s'.heap) ∧ s'.os = s1.os ∧ AllBare s'.gens) s1 := by
  let B : Heap := hidT s1.heap H
  have inB : ∀ {b : Addr} {o : Obj}, s1.heap.get? b = some o → H b = none → B.get? b = some o := fun e n => hidT_get e n
  have untracked : ∀ {b : Addr} {o : Obj}, s1.heap.get? b = some o → (∀ ys n, o.data ≠ .seq ys n) → H b = none := by
    intro b o e hn
    cases q : H b with
    | none => rfl
    | some u =>
      obtain ⟨rfl, _⟩ := only b u q
      rw [ha] at e
      cases e
      exact absurd rfl (hn _ _)
  have spaces : ∀ {b : Addr} {g : Str → Option Value}, s1.heap.Ns b g → B.Ns b g := by
    rintro b g ⟨o, es, ep, e, hd, r⟩
    exact ⟨o, es, ep, inB e (untracked e fun ys n z => by rw [hd] at z; cases z), hd, r⟩
  have KB : K.In B := by
    intro b o e
    refine inB (KX b o e) ?_
    cases q : H b with
    | none => rfl
    | some u =>
      obtain ⟨_, z, _⟩ := only b u q
      rw [z] at e; cases e
  obtain ⟨mc, c1, c2⟩ := hlim
  have env : Env0 P w K mg B callerA [] s1 H := by
    refine ⟨rfl, ⟨KB, spaces hns, ⟨mb, spaces hb, hbb⟩, mc, spaces c1, c2⟩, fun b o e => of_hidT e, Nat.le_of_eq (hidT_size _ _), trivial, fun b z => ?_, hok, .of_eq hg⟩
    exact absurd (show b ∈ ([] : List Addr) from z) (by simp)
  obtain ⟨S, hmS⟩ := hm
  have want : spM K 1 m [.ref a] H (fun v _ => v = .bl true) (fun _ _ _ => False) := by
    refine ⟨rfl, w0 H, [], [.scr ns], good0 H, .cons (.scr hS) .nil, ?_⟩
    rw [hmS]
    intro W' H' v _ _ q
    cases q
    rfl
  refine codeAny_mono ((F B KB (spaces hns)).run callerA rfl [] s1 H ⟨[.ref a], []⟩ [.ref a] [.ref a] _ _ hr env (hbind s1 _) (.cons rfl .nil) want) ?_
  intro r s' res
  match r, res with
  | .error e, res =>
    obtain ⟨_, _, _, _, _, _, _, _, _, _, _, _, z⟩ := res
    exact z.elim
  | .ok .next, res => exact False.elim res
  | .ok .brk, res => exact False.elim res
  | .ok .cont, res => exact False.elim res
  | .ok (.ret u), res =>
    obtain ⟨v, H', hos, hbare, un, hok2, rel, rfl⟩ := res
    obtain rfl : u = Value.bool true := rel
    refine ⟨⟨rfl, OldK.of_keep ?_⟩, hos, hbare⟩
    intro b o e
    cases q : H b with
    | none =>
      refine un.keep b o e q (fun z => ?_) (by simp)
      exact absurd (show b ∈ ([] : List Addr) from z) (by simp)
    | some u =>
      obtain ⟨_, _, ob, xs, rfl⟩ := only b u q
      have t1 := (hok b _ q).1
      have t2 := (hok2 b _ (un.frzs b ob _ q)).1
      rw [e] at t1; cases t1
      exact t2
/-- the law's call, from the head's facts -/
theorem law_go (KX : K.In s1.heap) (hns : s1.heap.Ns mainGlobals mg) (hb : s1.heap.Ns builtinsNs mb) (hbb : ∀ y : Str, y ≠ "__name__" → mb y = bootBuiltins y) (hlim : s1.heap.NoLimit) (hg : s1.gens = #[])
    (ha : s1.heap.get? a = some { cls := .type "list", data := .seq vs.toArray }) (hi : IntsAre vs ns) (hl : ns.length ≤ sizeLine) (hr : Room k callerA)
    (F : ∀ base : Heap, K.In base → base.Ns mainGlobals mg → FnG P w K mg base k fa fd [x] (spM K 1 m)) (hbind : ∀ (s : Shared) (u : Value), BindsTo s fd ⟨[u], []⟩ [(x, u)])
    (hm : ∃ S, m [.scr ns] [] = .ok (.bl true) S) :
    codeAny (model P w) callerA (.call (.ref fa) ⟨[.ref a], []⟩) (fun r s' => (r = .ok (.ret (.bool true)) ∧ OldK s1.heap s'.heap) ∧ s'.os = s1.os ∧ AllBare s'.gens) s1 := by
  have vi := vals_ints hi
  by_cases hk : K.lookup a = none
  · let ob : Obj := { cls := .type "list", data := .seq vs.toArray }
    let H : Hp := fun b => if b = a then some (.frz ob (.lst (ns.map V.int))) else none
    have atA : H a = some (.frz ob (.lst (ns.map V.int))) := if_pos rfl
    have onA : ∀ b u, H b = some u → b = a ∧ u = .frz ob (.lst (ns.map V.int)) := by
      intro b u e
      by_cases hb : b = a
      · have e' : (if b = a then some (HO.frz ob (.lst (ns.map V.int))) else none) = some u := e
        rw [if_pos hb] at e'
        exact ⟨hb, (Option.some.inj e').symm⟩
      · have e' : (if b = a then some (HO.frz ob (.lst (ns.map V.int))) else none) = some u := e
        rw [if_neg hb] at e'; cases e'
    refine law_at H (fun b u e => ?_) (.inl (.inr ⟨ob, atA⟩)) (fun b u e => ?_) KX hns hb hbb hlim hg ha hr F hbind hm
    · obtain ⟨rfl, rfl⟩ := onA b u e
      exact ⟨rfl, hk, _, _, rfl⟩
    · obtain ⟨rfl, rfl⟩ := onA b u e
      exact ⟨ha, by simpa using hl, vs, _, vi, ha⟩
  · obtain ⟨o, ho⟩ := Option.ne_none_iff_exists'.mp hk
    have eo := KX a o ho
    rw [ha] at eo
    cases eo
    have len := hi.length
    refine law_at (fun _ => none) (fun b u e => by cases e) (.inr ⟨_, vs.toArray, _, ho, rfl, rfl, rfl, ?_, by simpa using vi⟩) (fun b u e => ?_) KX hns hb hbb hlim hg ha hr F hbind hm
    · rw [List.size_toArray, len]; exact hl
    · have e' : (none : Option HO) = some u := e
      cases e'
end
/-- the goal that the head leaves -/
theorem walk_ev {l : PySem.W.OpenLaw} {n k : Nat} {q : Program} {loose : List Str} {XP : (Str → Option Value) → Heap → Prop} {YP : World → Heap → Prop} {d : DefRec} {x : Str} {m : List D → M D}
    (hn : l.most = some n) (hn2 : n ≤ sizeLine) (hdf : d.params.defaults = []) (hr : Room k callerA)
    (F : ∀ (w : World) (mg : Str → Option Value) (fa : Addr) (h : Heap), YP w h → h.Ns mainGlobals mg → mg d.name = some (.ref fa) →
      ∃ (K : PySem.W.Frag) (fd : FuncData), K.In h ∧ (∀ (s : Shared) (u : Value), BindsTo s fd ⟨[u], []⟩ [(x, u)]) ∧ ∀ base : Heap, K.In base → base.Ns mainGlobals mg → FnG l.prog w K mg base k fa fd [x] (spM K 1 m))
    (hm : ∀ ns : List Int, ns.length ≤ n → (∀ i ∈ ns, Builtin.Int.intBits i ≤ 1048576) → ∃ S, m [.scr ns] [] = .ok (.bl true) S) :
    PySem.W.WalkO q loose XP YP l.row.toRowW d [] (fun f vs => PySem.call f vs) := by
  refine Att.attach_callB hn hdf ?_
  intro w s0 s1 mg mb fa o pm cd doc a vs ns G Y _ _ _ hmg hobj hints hlen hbits hg
  obtain ⟨K, fd, KX, hb, hF⟩ := F w mg fa _ Y G.T.g hmg
  exact codeAny_mono (law_go KX G.T.g G.T.b G.T.builtins G.T.nolimit hg hobj hints (Nat.le_trans hlen hn2) hr hF hb (hm ns hlen hbits)) fun r s' ⟨⟨h1, h2⟩, h3, h4⟩ => ⟨h1, h2, h3, h4⟩
end Ev
namespace Ev
open PySem PySem.Spec PyProof.Rows L2
abbrev Ex : Type := PySem.W.Frag → Bool
abbrev AlX : Type := He.AlD × Bool
def obsX (n : Nat) (fa : List He.Fa) (fn : List He.DefD) (ex : List Ex) (g : Addr → Option Obj) : AlX := (He.obsDG n fa fn g, ex.all fun f => f (He.frG g (He.asD g n)))
def hookX (n : Nat) (fa : List He.Fa) (fn : List He.DefD) (ex : List Ex) : PySem.W.Hook where
  α := AlX
  obs := fun s => obsX n fa fn ex s.heap.get?
  val := fun _ => (He.valD fn, true)
  says := fun _ h => ∃ K : PySem.W.Frag, K.In h ∧ He.SaysD fa fn K ∧ (ex.all fun f => f K) = true
  of := fun _ _ e => ⟨_, He.frG_in, congrArg Prod.fst e, congrArg Prod.snd e⟩
  keeps := fun _ _ _ ⟨K, hK, c⟩ k => ⟨K, PySem.W.Frag.In.keeps hK k, c⟩
theorem obsX_eq {n : Nat} {fa : List He.Fa} {fn : List He.DefD} {ex : List Ex} {g : Addr → Option Obj} {s : Shared} (h : ∀ a, g a = s.heap.get? a) : obsX n fa fn ex g = (hookX n fa fn ex).obs s := by
  have e : g = s.heap.get? := funext h
  subst e
  rfl
theorem ex_at {K : PySem.W.Frag} {ex : List Ex} (h : (ex.all fun f => f K) = true) (i : Nat) {f : Ex} (e : ex[i]? = some f := by rfl) : f K = true := List.all_eq_true.mp h f (List.mem_of_getElem? e)
def isiT (tab : List (Ty × Ty × Bool)) (t c : Ty) : Option Bool := (tab.find? fun x => decide (x.1 = t) && decide (x.2.1 = c)).map fun x => x.2.2
def kitB (tab : List (Ty × Ty × Bool)) : Ex := fun K => tab.all fun x => decide (PySem.W.kitOne K (x.1.val K) (x.2.1.val K) = some x.2.2)
def ownB (cs : List Str) : Ex := fun K => cs.all fun c => (He.Fa.cls c).ok K && (decide (PySem.W.findIn K (.ref (He.ga K c)) "__class__" = some (some (.builtin "object.__class__"))) &&
  (decide (PySem.W.specialIn K (.builtin "object.__class__") "__get__" = some (some (.builtin "getset_descriptor.__get__"))) && (decide (PySem.W.takesIn K (.builtin "object.__class__") = some true) && decide (PySem.W.mroIn K (He.ga K c) (.type "object") = some true))))
theorem isi_ok {K : PySem.W.Frag} {tab : List (Ty × Ty × Bool)} {cs : List Str} (h1 : kitB tab K = true) (h2 : ownB cs K = true) (h3 : (tab.all fun x => match x.1 with
  | .own c => decide (c ∈ cs)
  | .blt _ => true) = true) : IsiOk K (isiT tab) := by
  have key : ∀ t c b, isiT tab t c = some b → (t, c, b) ∈ tab := fun t c b e => by
    unfold isiT at e
    obtain ⟨x, e1, e2⟩ := Option.map_eq_some_iff.mp e
    have hm := List.mem_of_find?_eq_some e1
    have hp := List.find?_some e1
    simp only [Bool.and_eq_true, decide_eq_true_eq] at hp
    obtain ⟨rfl, rfl⟩ := hp
    subst e2
    exact hm
  refine ⟨fun t c b e => ?_, fun c d b e => ?_⟩
  · exact of_decide_eq_true (List.all_eq_true.mp h1 _ (key t c b e))
  · have hc : c ∈ cs := of_decide_eq_true (List.all_eq_true.mp h3 _ (key _ d b e))
    have h := List.all_eq_true.mp h2 c hc
    simp only [Bool.and_eq_true, decide_eq_true_eq] at h
    obtain ⟨a1, a2, a3, a4, a5⟩ := h
    exact ⟨He.cls_ok a1, a2, a3, a4, a5⟩
end Ev
namespace Ev
open PySem PySem.Spec PyProof.Rows L2
section
variable {prog : Program} {w : World} {A : Around} {E : Value → Shared → Prop} {s : Shared} {K : PySem.W.Frag} {x y C f : Addr} {ox oy : Obj} {od od' : Option Obj}
end
section
variable {X : Cx} {k : Nat} {tab : Str → Option (List D → M D)}
end
end Ev
namespace Ev
open PySem L2
section
variable {S S1 S2 : Store} {i j : Int} {xs ys ds : List D} {δ : En} {m ma mb : ME} {d x y : D}
theorem pAdd_ii : pAdd (.int i) (.int j) S = some (.int (i + j), S) := rfl
theorem pSub_ii : pSub (.int i) (.int j) S = some (.int (i - j), S) := rfl
theorem pMul_ii (h : mulOk i j = true) : pMul (.int i) (.int j) S = some (.int (i * j), S) := by
  unfold pMul
  simp only [h, if_true]
theorem mul_l (h1 : -(2 ^ 64) < i) (h2 : i < 2 ^ 64) : mulOk i j = true := by
  unfold mulOk
  simp only [Bool.or_eq_true, decide_eq_true_eq]
  exact .inl ⟨h1, h2⟩
theorem mul_r (h1 : -(2 ^ 64) < j) (h2 : j < 2 ^ 64) : mulOk i j = true := by
  unfold mulOk
  simp only [Bool.or_eq_true, decide_eq_true_eq]
  exact .inr ⟨h1, h2⟩
theorem pMod_ii (h : 0 < j) : pMod (.int i) (.int j) S = some (.int (i % j), S) := by
  simp only [pMod, pInt2, h, decide_true, if_true]
theorem pFdiv_ii (h : 0 < j) (h2 : j < 1073741824) : pFdiv (.int i) (.int j) S = some (.int (i / j), S) := by
  simp only [pFdiv, pInt2, h, h2, and_self, decide_true, if_true]
theorem pLt_ii : pLt (.int i) (.int j) S = some (.bl (decide (i < j)), S) := rfl
theorem pLe_ii : pLe (.int i) (.int j) S = some (.bl (decide (i ≤ j)), S) := rfl
theorem pGt_ii : pGt (.int i) (.int j) S = some (.bl (decide (j < i)), S) := rfl
theorem pGe_ii : pGe (.int i) (.int j) S = some (.bl (decide (j ≤ i)), S) := rfl
theorem pEq_ii : pEq (.int i) (.int j) S = some (.bl (i == j), S) := by
  simp [pEq, eqD, toPS, PyData.depth, PyData.eqv]
theorem atI_nat {α : Type} {xs : List α} {k : Nat} (h : k < xs.length) : atI xs (k : Int) = some xs[k] := by
  have h0 : (0 : Int) ≤ k := Int.natCast_nonneg k
  have h1 : (k : Int) < (xs.length : Int) := by omega
  simp [atI, ixN, h0, h1, h]
theorem pIx_lst {k : Nat} (h : k < xs.length) : pIx (.lst xs) (.int k) S = some (xs[k], S) := by
  simp only [pIx, seqOf, lstOf, Option.bind_some, atI_nat h, Option.map_some]
theorem pIx_tup {k : Nat} (h : k < xs.length) : pIx (.tup xs) (.int k) S = some (xs[k], S) := by
  simp only [pIx, seqOf, Option.bind_some, atI_nat h, Option.map_some]
theorem pIx_scr {ns : List Int} {k : Nat} (h : k < ns.length) : pIx (.scr ns) (.int k) S = some (.int ns[k], S) := by
  have h' : k < (ns.map D.int).length := by simpa using h
  simp only [pIx, seqOf, lstOf, Option.bind_some, atI_nat h', Option.map_some, List.getElem_map]
theorem pIx_ref {t k : Nat} (hS : S[t]? = some (some (.lst xs))) (h : k < xs.length) : pIx (.ref t) (.int k) S = some (xs[k], S) := by
  simp only [pIx, seqOf, lstOf, hS, Option.bind_some, atI_nat h, Option.map_some]
theorem pLen_lst : pLen [.lst xs] S = some (.int xs.length, S) := rfl
theorem pLen_tup : pLen [.tup xs] S = some (.int xs.length, S) := rfl
theorem pLen_scr {ns : List Int} : pLen [.scr ns] S = some (.int ns.length, S) := by simp [pLen, seqOf, lstOf]
theorem pLen_ref {t : Nat} (hS : S[t]? = some (some (.lst xs))) : pLen [.ref t] S = some (.int xs.length, S) := by simp [pLen, seqOf, lstOf, hS]
theorem pInt_i : pInt [.int i] S = some (.int i, S) := rfl
theorem pInt_b {b : Bool} : pInt [.bl b] S = some (.int (if b then 1 else 0), S) := rfl
theorem newL_ev (h : xs.length ≤ sizeLine) : newL xs S = some (.lst xs, S) := by simp only [newL, h, if_true]
theorem newT_ev (h : xs.length ≤ sizeLine) : newT xs S = some (.tup xs, S) := by simp only [newT, h, if_true]
theorem newC_ev (h : xs.length ≤ sizeLine) : newC xs S = some (.ref S.length, S ++ [some (.lst xs)]) := by simp only [newC, h, if_true]
theorem loop_inv {mg : TGM} {mb : MS} (P : Nat → En → Store → Prop) (h : ∀ k δ S, (hk : k < ds.length) → P k δ S → ∃ δ1 S1, mg ds[k] δ S = some (δ1, S1) ∧ ∃ δ2 S2, mb δ1 S1 = .nx δ2 S2 ∧ P (k + 1) δ2 S2) (h0 : P 0 δ S) :
    ∃ δ2 S2, loopF mg mb ds δ S = .nx δ2 S2 ∧ P ds.length δ2 S2 := by
  have key : ∀ (n k : Nat) (δ : En) (S : Store), k + n = ds.length → P k δ S → ∃ δ2 S2, loopF mg mb (ds.drop k) δ S = .nx δ2 S2 ∧ P ds.length δ2 S2 := by
    intro n
    induction n with
    | zero =>
      intro k δ S e p
      have : k = ds.length := by omega
      subst this
      rw [List.drop_length]
      exact ⟨δ, S, rfl, p⟩
    | succ n ih =>
      intro k δ S e p
      have hk : k < ds.length := by omega
      obtain ⟨δ1, S1, e1, δ2, S2, e2, p2⟩ := h k δ S hk p
      obtain ⟨δ3, S3, e3, p3⟩ := ih (k + 1) δ2 S2 (by omega) p2
      refine ⟨δ3, S3, ?_, p3⟩
      rw [List.drop_eq_getElem_cons hk]
      simp only [loopF, e1, e2]
      exact e3
  exact key ds.length 0 δ S (by omega) h0
theorem rng_len {n : Nat} : (rngD 0 n).length = n := by simp [rngD]
theorem rng_get {n k : Nat} (h : k < (rngD 0 n).length) : (rngD 0 n)[k] = .int k := by simp [rngD]
/-- the store may change: the invariant by what has been made -/
theorem lc_inv {up : UpD} {mt : MT} {me : ME} {δ0 : En} (P : Nat → List D → Store → Prop)
    (h : ∀ k acc S, (hk : k < ds.length) → P k acc S → ∃ us, up ds[k] = some us ∧ ((∃ S1, mt (setsD δ0 us) S = .ok false S1 ∧ P (k + 1) acc S1) ∨ ∃ S1, mt (setsD δ0 us) S = .ok true S1 ∧ ∃ y S2, me (setsD δ0 us) S1 = .ok y S2 ∧ acc.length < sizeLine ∧ P (k + 1) (acc ++ [y]) S2)) (h0 : P 0 [] S) :
    ∃ ys S2, loopC up mt me δ0 ds [] S = .ok ys S2 ∧ P ds.length ys S2 := by
  have key : ∀ (n k : Nat) (acc : List D) (S : Store), k + n = ds.length → P k acc S → ∃ ys S2, loopC up mt me δ0 (ds.drop k) acc S = .ok ys S2 ∧ P ds.length ys S2 := by
    intro n
    induction n with
    | zero =>
      intro k acc S e p
      have : k = ds.length := by omega
      subst this
      rw [List.drop_length]
      exact ⟨acc, S, rfl, p⟩
    | succ n ih =>
      intro k acc S e p
      have hk : k < ds.length := by omega
      obtain ⟨us, e1, h1⟩ := h k acc S hk p
      rw [List.drop_eq_getElem_cons hk]
      rcases h1 with ⟨S1, e2, p2⟩ | ⟨S1, e2, y, S2, e3, hl, p2⟩
      · obtain ⟨ys, S3, e4, p3⟩ := ih (k + 1) acc S1 (by omega) p2
        refine ⟨ys, S3, ?_, p3⟩
        simp only [loopC, e1, M.bind, noX, e2]
        exact e4
      · obtain ⟨ys, S3, e4, p3⟩ := ih (k + 1) (acc ++ [y]) S2 (by omega) p2
        refine ⟨ys, S3, ?_, p3⟩
        simp only [loopC, e1, M.bind, noX, e2, e3, hl, if_true]
        exact e4
  exact key ds.length 0 [] S (by omega) h0
/-- nothing changes, all are taken -/
theorem lc_map {me : ME} {δ0 : En} {k : Nat} (f : D → D) (hl : ds.length ≤ sizeLine) (h : ∀ d ∈ ds, me (δ0.set k (some d)) S = .ok (f d) S) : loopC (uNm k) tYesM me δ0 ds [] S = .ok (ds.map f) S := by
  obtain ⟨ys, S2, e, p1, p2⟩ := lc_inv (up := uNm k) (mt := tYesM) (me := me) (δ0 := δ0) (ds := ds) (S := S) (fun n acc S' => acc = (ds.take n).map f ∧ S' = S) (by
    rintro n acc S' hn ⟨rfl, rfl⟩
    refine ⟨_, rfl, .inr ⟨S', rfl, f ds[n], S', h _ (List.getElem_mem hn), by simp; omega, ?_, rfl⟩⟩
    rw [List.take_succ_eq_append_getElem hn, List.map_append]; rfl) ⟨rfl, rfl⟩
  subst p2
  rw [e, p1, List.take_length]
section
variable {S3 : Store} {z : D} {f f' : D → D → PO} {g : List D → PO} {mas : MA} {fm : List D → M D} {tc ta tb : MT} {b : Bool} {md : M D} {rd : Res D} {rb : Res Bool} {fin : List D → PO} {mi : MA} {up : UpD} {me : ME} {vs : List Nat} {mc : ME}
theorem eOp_ok (ha : ma δ S = .ok x S1) (hb : mb δ S1 = .ok y S2) (hf : f x y S2 = some (z, S3)) : eOp f ma mb δ S = .ok z S3 := by simp only [eOp, M.bind, ha, hb, lft, hf]
theorem eUn_ok {f : D → PO} (ha : ma δ S = .ok x S1) (hf : f x S1 = some (z, S2)) : eUn f ma δ S = .ok z S2 := by simp only [eUn, M.bind, ha, lft, hf]
theorem eCallV_ok (ha : mas δ S = .ok xs S1) (hf : g xs S1 = some (z, S2)) : eCallV g mas δ S = .ok z S2 := by simp only [eCallV, M.bind, ha, lft, hf]
theorem eCal_ok (ha : mas δ S = .ok xs S1) (hf : fm xs S1 = rd) : eCal fm mas δ S = rd := by simp only [eCal, M.bind, ha, hf]
theorem aCons_ok (ha : ma δ S = .ok x S1) (hb : mas δ S1 = .ok xs S2) : aCons ma mas δ S = .ok (x :: xs) S2 := by simp only [aCons, M.bind, ha, hb, M.pure]
theorem eTup_ok (ha : mas δ S = .ok xs S1) (hl : xs.length ≤ sizeLine) : eTup mas δ S = .ok (.tup xs) S1 := by simp only [eTup, M.bind, ha, lft, newT_ev hl]
theorem eLst_ok (ha : mas δ S = .ok xs S1) (hl : xs.length ≤ sizeLine) : eLst mas δ S = .ok (.lst xs) S1 := by simp only [eLst, M.bind, ha, lft, newL_ev hl]
theorem eLstC_ok (ha : mas δ S = .ok xs S1) (hl : xs.length ≤ sizeLine) : eLstC mas δ S = .ok (.ref S1.length) (S1 ++ [some (.lst xs)]) := by simp only [eLstC, M.bind, ha, lft, newC_ev hl]
theorem asB_ok (h : md S = .ok (.bl b) S1) : asB md S = .ok b S1 := by simp only [asB, M.bind, h, M.pure]
theorem tru_ok (h : md S = .ok d S1) (ht : truD S1 d = some b) : tru md S = .ok b S1 := by simp only [tru, M.bind, h, ht]
theorem tNot_ok (h : ta δ S = .ok b S1) : tNotM ta δ S = .ok (!b) S1 := by simp only [tNotM, M.bind, h, M.pure]
theorem tOr_t (h : ta δ S = .ok true S1) : tOrM ta tb δ S = .ok true S1 := by simp only [tOrM, M.bind, h, cond_true, M.pure]
theorem tOr_f (h : ta δ S = .ok false S1) (h2 : tb δ S1 = rb) : tOrM ta tb δ S = rb := by simp only [tOrM, M.bind, h, cond_false, h2]
theorem tAnd_t (h : ta δ S = .ok true S1) (h2 : tb δ S1 = rb) : tAndM ta tb δ S = rb := by simp only [tAndM, M.bind, h, cond_true, h2]
theorem tAnd_f (h : ta δ S = .ok false S1) : tAndM ta tb δ S = .ok false S1 := by simp only [tAndM, M.bind, h, cond_false, M.pure]
theorem eIf_t (h : tc δ S = .ok true S1) (h2 : ma δ S1 = rd) : eIf tc ma mb δ S = rd := by simp only [eIf, M.bind, h, cond_true, h2]
theorem eIf_f (h : tc δ S = .ok false S1) (h2 : mb δ S1 = rd) : eIf tc ma mb δ S = rd := by simp only [eIf, M.bind, h, cond_false, h2]
theorem eAnd_t (h : ma δ S = .ok x S1) (ht : truD S1 x = some true) (h2 : mb δ S1 = rd) : eAnd ma mb δ S = rd := by simp only [eAnd, M.bind, h, ht, h2]
theorem eAnd_f (h : ma δ S = .ok x S1) (ht : truD S1 x = some false) : eAnd ma mb δ S = .ok x S1 := by simp only [eAnd, M.bind, h, ht]
theorem eOr_f (h : ma δ S = .ok x S1) (ht : truD S1 x = some false) (h2 : mb δ S1 = rd) : eOr ma mb δ S = rd := by simp only [eOr, M.bind, h, ht, h2]
theorem eNot_ok (h : ma δ S = .ok x S1) (ht : truD S1 x = some b) : eNot ma δ S = .ok (.bl (!b)) S1 := by simp only [eNot, M.bind, tru, h, ht, M.pure]
theorem eChain_t (ha : ma δ S = .ok x S1) (hb : mb δ S1 = .ok y S2) (hf : f x y S2 = some (.bl true, S2)) (hc : mc δ S2 = .ok z S3) {u : D} {S4 : Store} (hf2 : f' y z S3 = some (u, S4)) : eChain f f' ma mb mc δ S = .ok u S4 := by
  simp only [eChain, M.bind, ha, hb, lft, hf, hc, hf2]
theorem eLc_ok {mt : MT} (hi : mi δ S = .ok ds S1) (hl : loopC up mt me (wipeD δ vs) ds [] S1 = .ok ys S2) (hf : fin ys S2 = some (z, S3)) : eLc fin mi up mt me vs δ S = .ok z S3 := by simp only [eLc, M.bind, hi, hl, lft, hf]
theorem eMB_ok {T : String} {f : D → List D → PO} {mo : ME} (ho : mo δ S = .ok x S1) (ht : tyD T S1 x = true) (ha : mas δ S1 = .ok xs S2) (hf : f x xs S2 = some (z, S3)) : eMB T f mo mas δ S = .ok z S3 := by simp only [eMB, M.bind, ho, ht, if_true, ha, lft, hf]
theorem eFld_ok {okf : Str → Bool} {fl c : Str} {fs : List (Str × D)} {mo : ME} (ho : mo δ S = .ok x S1) (hc : clsOf S1 x = some (c, fs)) (hk : okf c = true) (hl : fs.lookup fl = some d) : eFld okf fl mo δ S = .ok d S1 := by simp only [eFld, M.bind, ho, hc, hk, if_true, hl]
theorem eIsi_ok {isi : Ty → Ty → Option Bool} {c t : Ty} {mo : ME} (ho : mo δ S = .ok x S1) (ht : tyOf S1 x = some t) (hi : isi t c = some b) : eIsi isi c mo δ S = .ok (.bl b) S1 := by simp only [eIsi, M.bind, ho, ht, Option.bind_some, hi]
theorem eFrz_ok (h : ma δ S = .ok x S1) (hf : frzD 4 x S1 = some (z, S2)) : eFrz ma δ S = .ok z S2 := by simp only [eFrz, M.bind, h, lft, hf]
theorem iAny_ok (h : ma δ S = .ok x S1) (ha : anyOf x = some xs) : iAny ma δ S = .ok xs S1 := by simp only [iAny, M.bind, h, ha]
theorem iR1_ok {k : Nat} (h : mas δ S = .ok [.int k] S1) (hk : k < 4611686018427387904) : iR1 mas δ S = .ok (rngD 0 k) S1 := by
  have hr : -(2 ^ 62) ≤ (k : Int) ∧ (k : Int) < 2 ^ 62 := by omega
  simp only [iR1, M.bind, h]
  rw [if_pos hr, Int.toNat_natCast]
theorem iZip_ok {zs : List D} (h : mas δ S = .ok xs S1) (hz : pZip xs = some zs) : iZip mas δ S = .ok zs S1 := by simp only [iZip, M.bind, h, hz]
theorem aStar_ok (ha : ma δ S = .ok x S1) (hs : seqOf S1 x = some xs) (hb : mas δ S1 = .ok ys S2) : aStar ma mas δ S = .ok (xs ++ ys) S2 := by simp only [aStar, M.bind, ha, hs, hb, M.pure]
variable {ms mt : MS} {mg : TGM} {δ1 δ2 : En} {rf : Fl}
theorem sAsg_ok (h : ma δ S = .ok d S1) (hg : mg d δ S1 = some (δ2, S2)) : sAsg ma mg δ S = .nx δ2 S2 := by simp only [sAsg, ofE, h, hg]
theorem sRet_ok (h : ma δ S = .ok d S1) : sRet ma δ S = .rt d S1 := by simp only [sRet, ofE, h]
theorem sExpr_ok (h : ma δ S = .ok d S1) : sExpr ma δ S = .nx δ S1 := by simp only [sExpr, ofE, h]
theorem sIf_t (h : tc δ S = .ok true S1) (h2 : ms δ S1 = rf) : sIf tc ms mt δ S = rf := by simp only [sIf, ofE, h, cond_true, h2]
theorem sIf_f (h : tc δ S = .ok false S1) (h2 : mt δ S1 = rf) : sIf tc ms mt δ S = rf := by simp only [sIf, ofE, h, cond_false, h2]
theorem sSeq_nx (h : ms δ S = .nx δ1 S1) (h2 : mt δ1 S1 = rf) : sSeq ms mt δ S = rf := by simp only [sSeq, h, h2]
theorem sSeq_rt (h : ms δ S = .rt d S1) : sSeq ms mt δ S = .rt d S1 := by simp only [sSeq, h]
theorem sFor_ok (hi : mi δ S = .ok ds S1) (hl : loopF mg ms ds δ S1 = rf) : sFor mi mg ms δ S = rf := by simp only [sFor, ofE, hi, hl]
theorem sPar2_ok {i j : Nat} (h : mas δ S = .ok [x, y] S1) : sPar2 i j mas δ S = .nx ((δ.set i (some x)).set j (some y)) S1 := by simp only [sPar2, ofE, h]
theorem funM_rt {nN n : Nat} (hl : ds.length = n) (h : ms (startD nN ds) S = .rt d S1) : funM nN n ms ds S = .ok d S1 := by simp only [funM, hl, if_true, h]
theorem iOrd_nx {mI : MI} {fs : List (Str × D)} {rI : FlI} (h : ms δ S = .nx δ1 S1) (h2 : mI δ1 fs S1 = rI) : iOrd ms mI δ fs S = rI := by simp only [iOrd, h, h2]
theorem iSets_ok {mI : MI} {ps : List Str} {fs fs' : List (Str × D)} {rI : FlI} (h : ma δ S = .ok (.tup ds) S1) (hs : isSlf δ = true) (hp : putAll ps ds fs = some fs') (h2 : mI δ fs' S1 = rI) : iSets ma ps mI δ fs S = rI := by simp only [iSets, h, hs, if_true, hp, h2]
theorem initM_ok {nN n : Nat} {mI : MI} {δ' : En} {fs : List (Str × D)} (hl : ds.length = n) (h : mI (some .slf :: startD (nN - 1) ds) [] S = .nx δ' fs S1) : initM nN n mI ds S = .ok fs S1 := by simp only [initM, hl, if_true, h]
theorem gTp2_ok {g1 g2 : TGM} (h1 : g1 x δ S = some (δ1, S1)) (h2 : g2 y δ1 S1 = some (δ2, S2)) : gTp 2 (gCs g1 (gCs g2 gNl)) (.tup [x, y]) δ S = some (δ2, S2) := by
  simp only [gTp, List.length_cons, List.length_nil, gCs, h1, h2, Option.bind_some, gNl]
  rfl
theorem gSb_ok {fp : PSt} {mo mi : ME} {S4 : Store} (ho : mo δ S = .ok x S1) (hi : mi δ S1 = .ok y S2) (hf : fp x y d S2 = some S4) : gSb fp mo mi d δ S = some (δ, S4) := by
  simp only [gSb, toO, ho, hi, Option.bind_some, hf, Option.map_some]
end
end
end Ev
namespace Ev
open PySem PySem.Spec PySem.SeqAt PyProof.Rows L2
section
variable {X : Cx} {Wx : WX} {a b e : Expr} {ma mb : ME} {pos p : Pos}
def rgD (a b : Int) : List D := (List.range (b - a).toNat).map fun (i : Nat) => .int (a + i)
theorem reps_rg {K : PySem.W.Frag} {W : Wd} (a b : Int) : Reps K W (rgD a b) (rgV a b) := by
  unfold rgD rgV
  have : ∀ l : List Nat, Reps K W (l.map fun (i : Nat) => .int (a + i)) (l.map fun (i : Nat) => V.int (a + i)) := by
    intro l
    induction l with
    | nil => exact .nil
    | cons i l ih => exact .cons (.int _) ih
  exact this _
def rgOk (a b : Int) : Bool := decide (-(2 ^ 62) ≤ a ∧ a < 2 ^ 62 ∧ -(2 ^ 62) ≤ b ∧ b < 2 ^ 62 ∧ (b - a).toNat ≤ 2 ^ 24)
theorem rgOk_ok {a b : Int} (h : rgOk a b = true) : RgOk a b := by
  unfold rgOk at h
  simp only [decide_eq_true_eq] at h
  exact h
/-- the bounds of a range -/
def g1 (ma : ME) : En → M (Int × Int) := fun δ => M.bind (ma δ) fun x => match x with
  | .int n => M.pure (0, n)
  | _ => M.bad
def g2 (ma mb : ME) : En → M (Int × Int) := fun δ => M.bind (ma δ) fun x => M.bind (mb δ) fun y => match x, y with
  | .int i, .int j => M.pure (i, j)
  | _, _ => M.bad
def eRg (fin : List D → PO) (m : En → M (Int × Int)) : ME := fun δ => M.bind (m δ) fun r => lft fun S => if rgOk r.1 r.2 = true then fin (rgD r.1 r.2) S else none
def tDR (K : PySem.W.Frag) (Wx : WX) (m : En → M (Int × Int)) : L2.St → Hp → (Int → Int → Hp → Prop) → Prop := fun σ H Q => ∃ W S δ, Good K W S H ∧ REnv K W δ σ ∧ okP K (fun _ (r s : Int × Int) => r = s) W (m δ S) σ Wx (fun r H' => Q r.1 r.2 H')
theorem PRg.imp {t t' : L2.St → Hp → (Int → Int → Hp → Prop) → Prop} (h : PRg X e t) (i : ∀ σ H Q, t' σ H Q → t σ H Q) : PRg X e t' := fun pins s σ H Q I q => h pins s σ H Q I (i σ H Q q)
theorem sr_1 {p : Pos} (hg : Gl X "range") (hm : X.mg "range" = none) (ha : SE X Wx a ma) (na : starEach [a] X.env = (false, eval a X.env) :: starEach [] X.env) : PRg X (.Call (.Name "range" p) [a] [] pos) (tDR X.K Wx (g1 ma)) :=
  PRg.imp (prg_1 hg hm ha na) fun σ H Q ⟨W, S, δ, g, r, h⟩ => ⟨W, S, δ, g, r, (okP.bind (R := Rep X.K) h).imp fun v H1 ⟨W1, S1, d, l1, g1', q1, p1⟩ => by
    cases q1 with
    | int n => exact ⟨n, rfl, okP.pure (v := (0, n)) p1 g1' rfl⟩
    | _ => exact p1.elim⟩
theorem se_listRg {p : Pos} {m : En → M (Int × Int)} {fin : List D → PO} (hf : ∀ {W : Wd} {S : Store} {H : Hp} {xs : List D} {vs : List V} {Q : VK}, oV X.K W (fin xs S) Q → Good X.K W S H → Reps X.K W xs vs → vs.length ≤ sizeLine ∧ ∀ a, H a = none → Q (.ref a) (upd H a (.lst vs)))
    (hc : X.calm = true) (hg : Gl X "list") (hm : X.mg "list" = none) (he : PRg X e (tDR X.K Wx m)) (na : starEach [e] X.env = (false, eval e X.env) :: starEach [] X.env) : SE X Wx (.Call (.Name "list" p) [e] [] pos) (eRg fin m) :=
  PE.imp (pe_listRg hc hg hm he na) fun σ H Q ⟨W, S, δ, g, r, h⟩ => ⟨W, S, δ, g, r, (okP.bind (R := fun _ (r s : Int × Int) => r = s) h).imp fun v H1 ⟨W1, S1, d, l1, g1', q1, p1⟩ => by
    subst q1
    have p2 := p1.lft
    split at p2
    · rename_i ho
      exact ⟨rgOk_ok ho, (hf p2 g1' (reps_rg _ _)).2⟩
    · exact p2.elim⟩
theorem Reps.eraseIdx {K : PySem.W.Frag} {W : Wd} : ∀ {ds : List D} {vs : List V} (i : Nat), Reps K W ds vs → Reps K W (ds.eraseIdx i) (vs.eraseIdx i)
  | _, _, _, .nil => .nil
  | _, _, 0, .cons _ t => t
  | _, _, i + 1, .cons q t => .cons q (Reps.eraseIdx i t)
def pPop : D → List D → PO := fun x ds S => match x, ds with
  | .ref n, [.int i] => (match S[n]? with
    | some (some (.lst xs)) => if 0 ≤ i ∧ i < xs.length ∧ i < 2 ^ 63 then (xs[i.toNat]?).map fun y => (y, S.set n (some (.lst (xs.eraseIdx i.toNat)))) else none
    | _ => none)
  | _, _ => none
theorem mt_pPop : MtR X "list.pop" (rDM X.K pPop) := fun pins s σ H x xs v us Q I rx rv ⟨W, S, d, ds, g, r1, r2, p⟩ => by
  cases r1 with
  | @ref n a h =>
    match ds, r2, p with
    | [.int i], r2, p =>
      obtain ⟨w, rfl, q⟩ := reps1 r2
      cases q
      simp only [pPop] at p
      split at p
      · rename_i zs hc
        split at p
        · rename_i hl
          cases e5 : zs[i.toNat]? with
          | none => rw [e5] at p; exact p.elim
          | some y =>
            rw [e5] at p
            obtain ⟨a', e1, e2, _, vs, e3, e4⟩ := g.cell n _ hc
            rw [h] at e1; cases e1
            obtain ⟨yv, e6, q6⟩ := e4.get e5
            have hs : seqIndex? i vs.length = some i.toNat := (ixN_seq (n := vs.length) (i := i) (j := i.toNat) (by
              have : i < (vs.length : Int) := by rw [← e4.length]; exact hl.2.1
              simp [ixN, hl.1, this])).1
            exact mt_popAt pins s σ H _ _ v us Q I rx rv ⟨a, vs, i, i.toNat, yv, rfl, rfl, e3, by omega, hl.2.2, hs, e6, p W _ _ W.le_refl (g.put hc h ⟨_, upd_same, e4.eraseIdx _⟩) q6⟩
        · exact p.elim
      · exact p.elim
    | [], r2, p => exact p.elim
    | .int _ :: _ :: _, r2, p => exact p.elim
    | .non :: _, r2, p => exact p.elim
    | .bl _ :: _, r2, p => exact p.elim
    | .str _ :: _, r2, p => exact p.elim
    | .tup _ :: _, r2, p => exact p.elim
    | .lst _ :: _, r2, p => exact p.elim
    | .ins _ _ :: _, r2, p => exact p.elim
    | .ref _ :: _, r2, p => exact p.elim
    | .fn _ :: _, r2, p => exact p.elim
    | .scr _ :: _, r2, p => exact p.elim
    | .slf :: _, r2, p => exact p.elim
    | .dic _ :: _, r2, p => exact p.elim
  | _ => exact (show False from by revert p; simp only [pPop]; exact fun z => z).elim
end
end Ev
namespace EvZ
open PySem PySem.Spec PySem.SeqAt L2 PyProof.Rows
set_option maxHeartbeats 1000000 in
section
variable {prog : Program} {w : World} {A : Around} {E : Value → Shared → Prop} {s : Shared}
end
end EvZ
namespace Ev
open PySem PySem.Spec PySem.SeqAt L2 PyProof.Rows EvZ
section
variable {X : Cx} {Wx : WX} {tg e : Expr} {K : PySem.W.Frag} {W : Wd} {pos : Pos}
def enumD (xs : List D) : List D := (List.range xs.length).map fun i => .tup [.int (i : Nat), xs.getD i .non]
def iEnu (mas : MA) : MA := fun δ => M.bind (mas δ) fun ds S => match ds with
  | [.lst xs] => .ok (enumD xs) S
  | [.tup xs] => .ok (enumD xs) S
  | _ => .bad
end
end Ev
namespace Ev
open PySem PySem.Spec PySem.SeqAt L2 PyProof.Rows PySem.W
def tup1 : PyData → Bool
  | .tuple (_ :: _) => true
  | _ => false
def notNT : PyData → Bool
  | .tuple _ => false
  | .none => false
  | _ => true
def sortOk (ps : List PyData) : Bool := ps.all (fun a => ps.all fun b => alike a b) && (ps.all tup1 || ps.all notNT) && ps.all (fun p => decide (p.depth ≤ 60))
theorem sortOk_ok {ps : List PyData} (h : sortOk ps = true) : AllAlike ps ∧ Sortable ps ∧ ∀ p ∈ ps, p.depth ≤ 60 := by
  unfold sortOk at h
  simp only [Bool.and_eq_true, Bool.or_eq_true, List.all_eq_true, decide_eq_true_eq] at h
  obtain ⟨⟨h1, h2⟩, h3⟩ := h
  refine ⟨fun d hd d' hd' => h1 d hd d' hd', ?_, h3⟩
  rcases h2 with h2 | h2
  · exact .inl fun d hd => by
      have := h2 d hd
      unfold tup1 at this
      split at this
      · exact ⟨_, _, rfl⟩
      · cases this
  · exact .inr fun d hd => by
      have := h2 d hd
      unfold notNT at this
      split at this
      · cases this
      · cases this
      · rename_i n1 n2
        exact ⟨fun e => n2 e, fun xs e => n1 xs e⟩
def sortBy (zs : List (D × PyData)) : List D := (zs.mergeSort (dataLe false (·.2))).map (·.1)
/-- an item stands for a datum and a key -/
def RI (K : PySem.W.Frag) (W : Wd) (v : Value) (b : D × PyData) : Prop := ∃ x : V, RelV x v ∧ Rep K W b.1 x
theorem each_RI {K : PySem.W.Frag} {W : Wd} : ∀ {xs : List D} {vs : List V} {its : List Value} {ps : List PyData}, Reps K W xs vs → Vals vs its → ps.length = xs.length → EachIs (RI K W) its (xs.zip ps)
  | _, _, _, [], .nil, .nil, _ => .nil
  | _, _, _, _ :: _, .nil, .nil, h => by simp at h
  | _, _, _, [], .cons _ _, .cons _ _, h => by simp at h
  | _, _, _, p :: ps, .cons q r, .cons a b, h => .cons ⟨_, a, q⟩ (each_RI r b (by simpa using h))
theorem RI_each {K : PySem.W.Frag} {W : Wd} : ∀ {out : List Value} {zs : List (D × PyData)}, EachIs (RI K W) out zs → ∃ vs, Vals vs out ∧ Reps K W (zs.map (·.1)) vs
  | _, _, .nil => ⟨[], .nil, .nil⟩
  | _, _, .cons ⟨x, h1, h2⟩ t => by
    obtain ⟨vs, a, b⟩ := RI_each t
    exact ⟨x :: vs, .cons h1 a, .cons h2 b⟩
theorem toPs_len : ∀ {xs : List D} {ps : List PyData}, toPs xs = some ps → ps.length = xs.length
  | [], _, e => by cases e; rfl
  | x :: xs, ps, e => by
    simp only [toPs] at e
    cases e1 : toP x with
    | none => rw [e1] at e; simp at e
    | some p =>
      rw [e1] at e
      cases e2 : toPs xs with
      | none => rw [e2] at e; simp at e
      | some qs =>
        rw [e2] at e
        simp at e
        subst e
        simp [toPs_len e2]
section
variable {X : Cx} {pins : List (Addr × Obj)} {σ : L2.St} {H : Hp} {s : Shared} {W : Wd} {S : Store}
theorem each_reads (I : Inv X pins σ H s) (g : Good X.K W S H) : ∀ {xs : List D} {vs : List V} {its : List Value} {ps : List PyData}, toPs xs = some ps → Reps X.K W xs vs → Vals vs its → EachIs (fun v p => ∃ as, Reads s.heap v p as) its ps
  | [], _, _, ps, e, .nil, .nil => by cases e; exact .nil
  | x :: xs, _, _, ps, e, .cons q r, .cons a b => by
    simp only [toPs] at e
    cases e1 : toP x with
    | none => rw [e1] at e; simp at e
    | some p =>
      rw [e1] at e
      cases e2 : toPs xs with
      | none => rw [e2] at e; simp at e
      | some qs =>
        rw [e2] at e
        simp at e
        subst e
        exact .cons (reads_of I g e1 q a).2 (each_reads I g e2 r b)
theorem each_zip2 {R : Value → PyData → Prop} : ∀ {its : List Value} {ps : List PyData} {xs : List D}, EachIs R its ps → xs.length = ps.length → EachIs (fun v (b : D × PyData) => R v b.2) its (xs.zip ps)
  | _, _, [], .nil, _ => .nil
  | _, _, _ :: _, .nil, h => by simp at h
  | _, _, [], .cons _ _, h => by simp at h
  | _, _, x :: xs, .cons a t, h => .cons a (each_zip2 t (by simpa using h))
theorem zip_snd : ∀ {xs : List D} {ps : List PyData}, xs.length = ps.length → (xs.zip ps).map (·.2) = ps
  | [], [], _ => rfl
  | [], _ :: _, h => by simp at h
  | _ :: _, [], h => by simp at h
  | x :: xs, p :: ps, h => by simp [zip_snd (xs := xs) (ps := ps) (by simpa using h)]
end
def pSortD : List D → PO := fun ds S => match ds with
  | [x] => (lstOf S x).bind fun xs => (toPs xs).bind fun ps => if sortOk ps = true ∧ xs.length ≤ sizeLine then some (.lst (sortBy (xs.zip ps)), S) else none
  | _ => none
theorem cr_pSortD {X : Cx} (hu : X.A.units + 64 < cLine) : CallR X (.builtin "sorted") (rDC X.K pSortD) := fun pins s σ H vs us Q I rv ⟨W, S, ds, g, r, p⟩ => by
  match ds, r, p with
  | [d], r, p =>
    obtain ⟨v, rfl, q⟩ := reps1 r
    simp only [pSortD] at p
    cases e : lstOf S d with
    | none => rw [e] at p; exact p.elim
    | some xs =>
      rw [e] at p
      simp only [Option.bind_some] at p
      cases e2 : toPs xs with
      | none => rw [e2] at p; exact p.elim
      | some ps =>
        rw [e2] at p
        simp only [Option.bind_some] at p
        split at p
        · rename_i hc
          obtain ⟨ho, hl⟩ := hc
          obtain ⟨h1, h2, h3⟩ := sortOk_ok ho
          obtain ⟨a, vs, rfl, hs, r2⟩ := lstOf_ok e g q
          obtain rfl := Vals.ref1 rv
          obtain ⟨its, rv2, hp, hz⟩ := I.list hs
          have hlen := toPs_len e2
          have hzs := zip_snd (xs := xs) (ps := ps) hlen.symm
          refine PySem.W.sorted_data (enc := fun b : D × PyData => b.2) (R := RI X.K W) hp.isList (each_RI r2 rv2 hlen) (each_zip2 (R := fun v p => ∃ as, Reads s.heap v p as) (each_reads I g e2 r2 rv2) hlen.symm) (by rw [hzs]; exact h1) (by rw [hzs]; exact h2) (by simp [hlen]; exact hl) (fun b hb => ?_) fun out hol he => ?_
          · have : b.2 ∈ ps := by rw [← hzs]; exact List.mem_map_of_mem hb
            have := h3 _ this
            omega
          · obtain ⟨vs', k1, k2⟩ := RI_each he
            obtain ⟨ep, he'⟩ := PyProof.Rows.sortedAll_at s.heap its out.toArray
            have hlen2 : vs'.length ≤ sizeLine := by
              rw [Vals.length k1, hol]
              simp [hlen]; exact hl
            have n := I.hok.fresh (a := s.heap.objs.size + 1) (Nat.le_succ _)
            refine ⟨.ref _, upd H (s.heap.objs.size + 1) (.lst vs'), I.laid (t' := s.toks) (fun _ _ => PyProof.Rows.sortedAll_old) (Nat.le_succ _) ⟨hlen2, out, ep, k1, he'⟩, rfl, ?_⟩
            exact p.new g n (.lst upd_same (k2.mono (g.add_le n).toLf))
        · exact p.elim
  | [], r, p => exact p.elim
  | _ :: _ :: _, r, p => exact p.elim
theorem track {X : Cx} {pins : List (Addr × Obj)} {σ : L2.St} {H : Hp} {s : Shared} {a : Addr} {o : HO} (I : Inv X pins σ H s) (fp : FpOk X pins H a) (hx : X.s_0.heap.objs.size ≤ a) (new : ObjOk X.prog X.w (upd H a o) s.heap a o) : Inv X pins σ (upd H a o) s := by
  obtain ⟨f0, f1, f2, f3, f4, f5⟩ := fp
  have old : ∀ b ob, X.s_0.heap.get? b = some ob → b ≠ a := fun b ob q z => by
    subst z
    exact absurd (Heap.lt_size q) (Nat.not_lt.mpr hx)
  refine ⟨I.ok, I.os, I.bare, ⟨I.base.keep, I.base.slot, fun b ob q n x => ?_, I.base.there, fun b xs q => ?_, fun b ob u q => ?_, fun b ps q => ?_⟩, I.loc, I.cell, ?_, fun x c e => ?_, fun p hp => ?_, HOk.laidN I.hok (fun _ _ q => q) f0 new, I.len⟩
  · rw [upd_ne (old b ob q)]; exact I.base.free b ob q n x
  · have h1 := I.base.tups b xs q
    rw [upd_ne (ne_of_none h1 f0)]; exact h1
  · have h1 := I.base.frzs b ob u q
    rw [upd_ne (ne_of_none h1 f0)]; exact h1
  · obtain ⟨more, h1⟩ := I.base.tbls b ps q
    exact ⟨more, by rw [upd_ne (ne_of_none h1 f0)]; exact h1⟩
  · rw [upd_ne (Ne.symm f1)]; exact I.free
  · rw [upd_ne (f4 x c e)]; exact I.freeC x c e
  · obtain ⟨p1, p2, p3⟩ := I.pin p hp
    exact ⟨p1, by rw [upd_ne (f5 p hp)]; exact p2, p3⟩
/-- fewer things are pinned -/
theorem unpin {X : Cx} {pins pins' : List (Addr × Obj)} {σ : L2.St} {H : Hp} {s : Shared} (I : Inv X pins σ H s) (h : ∀ p ∈ pins', p ∈ pins) : Inv X pins' σ H s :=
  ⟨I.ok, I.os, I.bare, I.base, I.loc, I.cell, I.free, I.freeC, fun p hp => I.pin p (by
    rcases List.mem_append.mp hp with hp | hp
    · exact List.mem_append_left _ hp
    · exact List.mem_append_right _ (h p hp)), I.hok, I.len⟩
/-- one more is pinned -/
theorem pinned {X : Cx} {pins : List (Addr × Obj)} {σ : L2.St} {H : Hp} {s : Shared} {a : Addr} {o : Obj} (I : Inv X pins σ H s) (fp : FpOk X pins H a) (e : s.heap.get? a = some o) (hc : ∀ v, o.data ≠ .cell v) : Inv X ((a, o) :: pins) σ H s :=
  ⟨I.ok, I.os, I.bare, I.base, I.loc, I.cell, I.free, I.freeC, fun p hp => by
    rcases List.mem_append.mp hp with hp | hp
    · exact I.pin p (List.mem_append_left _ hp)
    · rcases List.mem_cons.mp hp with rfl | hp
      · exact ⟨e, fp.1, fp.2.1, fp.2.2.1, hc⟩
      · exact I.pin p (List.mem_append_right _ hp), I.hok, I.len⟩
def keysM (m : List D → M D) : List D → M (List D)
  | [] => M.pure []
  | x :: xs => M.bind (noX (m [x])) fun k => M.bind (keysM m xs) fun ks => M.pure (k :: ks)
theorem noX_ok {α : Type} {m : M α} {S S' : Store} {a : α} (h : noX m S = .ok a S') : m S = .ok a S' := by
  unfold noX at h
  split at h
  · rename_i e; rw [e]; exact h
  · cases h
theorem keysM_ok {m : List D → M D} : ∀ {xs ks : List D} {S S' : Store}, keysM m xs S = .ok ks S' → ks.length = xs.length ∧ ∃ Ss : Nat → Store, Ss 0 = S ∧ Ss xs.length = S' ∧ ∀ (i : Nat) (x : D), xs[i]? = some x → ∃ k, ks[i]? = some k ∧ m [x] (Ss i) = .ok k (Ss (i + 1))
  | [], ks, S, S', h => by
    cases h
    exact ⟨rfl, fun _ => S, rfl, rfl, fun i x e => by simp at e⟩
  | x :: xs, ks, S, S', h => by
    simp only [keysM, M.bind] at h
    cases e1 : noX (m [x]) S with
    | bad => rw [e1] at h; cases h
    | exc _ _ => rw [e1] at h; cases h
    | ok k S1 =>
      rw [e1] at h
      dsimp only at h
      cases e2 : keysM m xs S1 with
      | bad => rw [e2] at h; cases h
      | exc _ _ => rw [e2] at h; cases h
      | ok ks1 S2 =>
        rw [e2] at h
        cases h
        obtain ⟨h1, Ss, h2, h3, h4⟩ := keysM_ok e2
        refine ⟨by simp [h1], fun i => match i with | 0 => S | i + 1 => Ss i, rfl, h3, fun i y e => ?_⟩
        cases i with
        | zero =>
          simp at e
          subst e
          exact ⟨k, rfl, by show m [x] S = .ok k (Ss 0); rw [h2]; exact noX_ok e1⟩
        | succ i => exact h4 i y (by simpa using e)
section
variable {X : Cx} {pins : List (Addr × Obj)} {σ : L2.St} {H : Hp} {s : Shared} {W : Wd} {S : Store}
/-- one call of a key -/
theorem call_key {A : Around} {k : Nat} {x0 : Str} {d kd : D} {v : Value} {vv : V} {f : Addr} {fd : FuncData} {m : List D → M D} {S' : Store} (I : Inv X pins σ H s) (hA : A.guards = some []) (hr : Room k A) (hfr : A.frames = X.A.frames)
    (F : FnG X.prog X.w X.K X.mg X.base k f fd [x0] (spM X.K 1 m)) (hb : BindK X.K fd [x0] []) (g : Good X.K W S H) (q1 : Rep X.K W d vv) (rv : RelV vv v) (e : m [d] S = .ok kd S') {E : Value → Shared → Prop} :
    wpAny (model X.prog X.w) A (call (.ref f) [v]) (fun u s' => ∃ uv W' H', RelV uv u ∧ Rep X.K W' kd uv ∧ W.le W' ∧ Good X.K W' S' H' ∧ Inv X pins σ H' s') E s := by
  have want : spM X.K 1 m [vv] H (fun uv H' => ∃ W', Rep X.K W' kd uv ∧ W.le W' ∧ Good X.K W' S' H') (fun _ _ _ => False) := ⟨rfl, W, S, [d], g, .cons q1 .nil, by
    rw [e]
    intro W' H' v l g' q
    exact ⟨W', q, l, g'⟩⟩
  have e0 : Env0 X.prog X.w X.K X.mg X.base A X.stack s H := by
    have z := I.env0
    exact ⟨by rw [hfr]; exact z.frames, z.mod, z.bs, z.bsz, z.funs, z.frf, z.hok, z.bare⟩
  refine wpAny_call (codeAny_mono (F.run A hA X.stack s H ⟨[v], []⟩ [v] [vv] _ _ hr e0 (hb s [v] [] rfl rfl) (.cons rv .nil) want) fun res s' hq => ?_)
  cases res with
  | error ex =>
    obtain ⟨_, _, _, _, _, _, _, _, _, _, _, _, z⟩ := hq
    exact z.elim
  | ok fl =>
    cases fl with
    | ret u =>
      obtain ⟨uv, H', I3, ru, W', q, l, g'⟩ := I.after hq
      exact ⟨uv, W', H', ru, q, l, g', I3⟩
    | next => exact hq.elim
    | brk => exact hq.elim
    | cont => exact hq.elim
theorem sorted_key {k : Nat} {x0 : Str} {l f : Addr} {fd : FuncData} {m : List D → M D} {xs ks : List D} {ps : List PyData} {vs : List V} {S' : Store} {Q : VK} (I : Inv X pins σ H s) (hA : X.A.guards = some []) (hr : Room (k + 2) X.A)
    (F : FnG X.prog X.w X.K X.mg X.base k f fd [x0] (spM X.K 1 m)) (hb : BindK X.K fd [x0] []) (g : Good X.K W S H) (hs : SqL X.K H l vs) (q : Reps X.K W xs vs) (e : keysM m xs S = .ok ks S') (ep : toPs ks = some ps) (ho : sortOk ps = true) (hl : xs.length ≤ sizeLine)
    (hQ : oV X.K W (some (.lst (sortBy (xs.zip ps)), S')) Q) {E : Value → Shared → Prop} :
    wpAny (model X.prog X.w) X.A (call (.builtin "sorted") [.ref l] [(Str.ofString "key", .ref f)]) (EP X pins σ Q) E s := by
  obtain ⟨h1, h2, h3⟩ := sortOk_ok ho
  obtain ⟨hkl, Ss, z0, z1, zs⟩ := keysM_ok e
  have hpl := toPs_len ep
  obtain ⟨its, rv, hp, hz⟩ := I.list hs
  have hil : its.length = xs.length := (Vals.length rv).symm.trans q.length.symm
  refine sorted_of_sort hp.isList (by rw [hil]; exact hl) (PyProof.Rows.ksk_s1 _ _) (fun _ => PyProof.Rows.ksk_l1 _ _) fun E' => ?_
  rw [PyProof.Rows.ksk_t1]
  have hzs := zip_snd (xs := xs) (ps := ps) (by rw [hpl, hkl])
  have hZ : its.length ≤ sizeLine := by rw [hil]; exact hl
  have kA0 := copyHeap_at s.heap its
  obtain ⟨e1, ho1⟩ : ∃ e1, ((copyHeap s.heap its).update (s.heap.objs.size + 1) (Obj.mapSeq fun _ => (#[] : Array Value))).get? (s.heap.objs.size + 1) = some (seqObj "list" #[] e1) := ⟨_, get?_update_seq kA0 fun _ => #[]⟩
  have hsz2 : (copyHeap s.heap its).objs.size = s.heap.objs.size + 2 := by
    unfold copyHeap
    rw [size_push', Heap.size_update, size_push']
  unfold ksk_tree
  refine wpAny_bind (listItems_at kA0 rfl ?_)
  refine wpAny_bind (listUpdate_at kA0 rfl ?_ (by rw [List.size_toArray]; exact hZ) (Nat.zero_le _))
  refine wpAny_bind (seqEpoch_at ho1 rfl ?_)
  refine wpAny_bind (wpAny_newTuple ?_ (by show its.length ≤ _; exact hZ))
  refine wpAny_bind (wpAny_newList ?_ (Nat.zero_le _))
  refine wpAny_holding ?_
  generalize ha : s.heap.objs.size + 1 = a at *
  generalize hhu : (copyHeap s.heap its).update a (Obj.mapSeq fun _ => (#[] : Array Value)) = hu at *
  have hus : hu.objs.size = s.heap.objs.size + 2 := by rw [← hhu, Heap.size_update]; exact hsz2
  generalize hkS : (hu.push (seqObj "tuple" its.toArray 0)).objs.size = kS
  have hkS' : kS = s.heap.objs.size + 3 := by rw [← hkS, size_push', hus]
  have hka : kS ≠ a := by rw [hkS', ← ha]; omega
  have k3 : ∀ b o, s.heap.get? b = some o → ((hu.push (seqObj "tuple" its.toArray 0)).push (seqObj "list" #[] 0)).get? b = some o := fun b o q => by
    have hb : b < s.heap.objs.size := Heap.lt_size q
    refine Heap.get?_push_of_some _ (Heap.get?_push_of_some _ ?_)
    rw [← hhu]
    exact (Heap.get?_update_ne _ _ _ _ (by rw [← ha]; exact Nat.ne_of_lt (Nat.lt_succ_of_lt hb))).trans (copyHeap_old q)
  have na0 : ((hu.push (seqObj "tuple" its.toArray 0)).push (seqObj "list" #[] 0)).get? a = some (seqObj "list" #[] e1) := Heap.get?_push_of_some _ (Heap.get?_push_of_some _ ho1)
  have nk0 : ((hu.push (seqObj "tuple" its.toArray 0)).push (seqObj "list" #[] 0)).get? kS = some (seqObj "list" #[] 0) := by rw [← hkS]; exact Heap.get?_push_size _ rfl
  have hale : s.heap.objs.size ≤ a := by rw [← ha]; exact Nat.le_succ _
  have hkle : s.heap.objs.size ≤ kS := by rw [hkS']; exact Nat.le_add_right _ _
  have fpA : FpOk X pins H a := I.fpOk hale (I.hok.fresh hale)
  have fpK : FpOk X pins H kS := I.fpOk hkle (I.hok.fresh hkle)
  have hA0 : X.s_0.heap.objs.size ≤ a := Nat.le_trans I.sz hale
  have I3 : Inv X ((a, seqObj "list" #[] e1) :: pins) σ H { s with heap := (hu.push (seqObj "tuple" its.toArray 0)).push (seqObj "list" #[] 0) } := pinned (I.kept (t' := s.toks) k3) fpA na0 (fun v => by intro z; cases z)
  have fpK' : ∀ H' : Hp, H' kS = none → FpOk X ((a, seqObj "list" #[] e1) :: pins) H' kS := fun H' hn => ⟨hn, fpK.2.1, fpK.2.2.1, fpK.2.2.2.1, fpK.2.2.2.2.1, fun p hp => by
    rcases List.mem_append.mp hp with hp | hp
    · exact fpK.2.2.2.2.2 p (List.mem_append_left _ hp)
    · rcases List.mem_cons.mp hp with rfl | hp
      · exact Ne.symm hka
      · exact fpK.2.2.2.2.2 p (List.mem_append_right _ hp)⟩
  have hr2 : Room k X.A.in1.in1 := Room.in1 (Room.in1 hr)
  unfold ksk_rest
  refine wpAny_bind (wpAny_rule ?_)
  first
    | rw [List.forIn_toArray]
    | (rw [← Array.forIn_toList]; simp only [List.toList_toArray])
  refine wpAny_bind (ksk_fold (fun i s' => ∃ (W' : Wd) (H' : Hp) (kA : Array Value) (ep : Nat) (kv : List V), W.le W' ∧ Good X.K W' (Ss i) H' ∧ Inv X ((a, seqObj "list" #[] e1) :: pins) σ H' s' ∧ H' kS = none ∧ s'.heap.get? kS = some (seqObj "list" kA ep) ∧ Vals kv kA.toList ∧ Reps X.K W' (ks.take i) kv) its 0 _
    ⟨W, H, #[], 0, [], W.le_refl, by rw [z0]; exact g, I3, I.hok.fresh hkle, nk0, .nil, by rw [List.take_zero]; exact .nil⟩ ?step ?done)
  case step =>
    rintro j x s' hx ⟨W', H', kA, ep', kv, l', g', I', hn, nk', rk, qk⟩
    simp only [Nat.zero_add] at g' qk ⊢
    have hj : j < its.length := (List.getElem?_eq_some_iff.mp hx).1
    obtain ⟨vv, hv, rvx⟩ : ∃ vv, vs[j]? = some vv ∧ RelV vv x := by
      obtain ⟨u, hu', ru⟩ := rv.get (List.getElem?_eq_getElem (show j < vs.length by rw [Vals.length rv]; exact hj))
      rw [hx] at hu'; cases hu'
      exact ⟨_, List.getElem?_eq_getElem _, ru⟩
    obtain ⟨d, hd, qd⟩ := q.get' hv
    obtain ⟨kd, hkd, em⟩ := zs j d hd
    have I5 := pinned I' (fpK' H' hn) nk' (fun v => by intro z; cases z)
    have hzk : kA.size ≤ sizeLine := by
      have h5 : (ks.take j).length = kA.toList.length := qk.length.trans (Vals.length rk)
      have h6 : kA.toList.length = kA.size := Array.length_toList ..
      have h7 : (ks.take j).length ≤ ks.length := by simp; omega
      rw [← h6, ← h5]
      exact Nat.le_trans h7 (by rw [hkl]; exact hl)
    refine wpAny_bind (wpAny_attempt (wpAny_mono (call_key (A := X.A.in1.in1) (E := fun _ _ => False) I5 hA hr2 rfl F hb g' (qd.mono l'.toLf) rvx em) (fun u s'' he => ?_) fun _ _ (hF : False) => hF.elim))
    obtain ⟨uv, W2, H2, ru, qu, l2, g2, I6⟩ := he
    have pk := I6.pin (kS, seqObj "list" kA ep') (List.mem_append_right _ (List.mem_cons_self ..))
    have I7 : Inv X ((a, seqObj "list" #[] e1) :: pins) σ H2 s'' := unpin I6 fun p hp => List.mem_cons_of_mem _ hp
    have nk2 := pk.1
    obtain ⟨c2, hc2⟩ : ∃ c2, (s''.heap.update kS (Obj.mapSeq (·.push u))).get? kS = some (seqObj "list" (kA.push u) c2) := ⟨_, get?_update_seq nk2 (·.push u)⟩
    try dsimp only
    refine wpAny_bind (listUpdate_at nk2 rfl ?_ hzk (Nat.le_trans (Nat.le_of_eq (Array.size_push ..)) (Nat.succ_le_succ hzk)))
    have s1 := Heap.SameBut.update s''.heap kS (Obj.mapSeq (·.push u))
    obtain ⟨f0, f1, f2, f3, f4, f5⟩ := fpK' H2 pk.2.1
    have I9 : Inv X ((a, seqObj "list" #[] e1) :: pins) σ H2 { s'' with heap := s''.heap.update kS (Obj.mapSeq (·.push u)), toks := s''.toks } := I7.turned (fun b o hb q => (s1.2 b hb).trans q) f0 f1 f3 f4 f5
    have et : ks.take (j + 1) = ks.take j ++ [kd] := by rw [List.take_add_one, hkd]; rfl
    refine wpAny_pure ⟨rfl, W2, H2, kA.push u, c2, kv ++ [uv], l'.trans l2, g2, I9, pk.2.1, hc2, ?_, ?_⟩
    · rw [Array.toList_push]
      exact paired_append rk (.cons ru .nil)
    · rw [et]
      exact (qk.mono l2.toLf).append (.cons qu .nil)
  case done =>
    rintro s' ⟨W', H', kA, ep', kv, l', g', I', hn, nk', rk, qk⟩
    simp only [Nat.zero_add, hil] at g' qk
    rw [z1] at g'
    rw [← hkl, List.take_length] at qk
    have hks : kA.size = its.length := by
      have h5 : ks.length = kA.toList.length := qk.length.trans (Vals.length rk)
      have h6 : kA.toList.length = kA.size := Array.length_toList ..
      rw [← h6, ← h5, hkl, hil]
    have pa := I'.pin (a, seqObj "list" #[] e1) (List.mem_append_right _ (List.mem_cons_self ..))
    have er := each_reads I' g' ep qk rk
    try dsimp only
    refine wpAny_bind (listItems_at nk' rfl ?_)
    refine keyH_end (κ := dataKind s'.heap ps) (h₁ := PySem.W.hideAll s'.heap [kS]) (fun b o _ q => PySem.W.of_hideAll [kS] q) (PySem.W.hideAll_none [kS] (by simp)) nk' pa.1 hka (SortsAt.data er h1 h2 fun d hd => ?_) hks hZ fun h' tk c kp hc => ⟨rfl, ?_⟩
    · have h5 := h3 d hd
      have h6 := hr2.un
      omega
    have keep : ∀ b o, b ∉ [a, kS] → s'.heap.get? b = some o → h'.get? b = some o := fun b o hb q => by
      simp at hb
      exact kp b o hb.1 (PySem.W.hideAll_get [kS] q (by simp; exact hb.2))
    have ko : KeyedOut false ps its (sortVals (dataKind s'.heap ps) false kA.toList its) := ⟨s'.heap, kA.toList, h1, rfl, er⟩
    have he := keyedOut_each (β := D × PyData) (bs := xs.zip ps) (fun b => b.2) (by rw [hzs]; exact ko) (each_RI (W := W') (q.mono l'.toLf) rv (by rw [hpl, hkl]))
    obtain ⟨vs', k1, k2⟩ := RI_each he
    have hH : H' a = none := pa.2.1
    have fpA' : FpOk X pins H' a := ⟨hH, fpA.2.1, fpA.2.2.1, fpA.2.2.2.1, fpA.2.2.2.2.1, fpA.2.2.2.2.2⟩
    have fpK2 : FpOk X pins H' kS := ⟨hn, fpK.2.1, fpK.2.2.1, fpK.2.2.2.1, fpK.2.2.2.2.1, fpK.2.2.2.2.2⟩
    have I8 : Inv X pins σ H' { s' with heap := h', toks := tk } := (unpin I' fun p hp => List.mem_cons_of_mem _ hp).turnedL (ch := [a, kS]) keep fun b hb => by
      have e' : b = a ∨ b = kS := by simpa using hb
      rcases e' with rfl | rfl
      · exact fpA'
      · exact fpK2
    have hlen2 : vs'.length ≤ sizeLine := by
      rw [Vals.length k1, sortVals_length false (by rw [Array.length_toList]; exact hks)]
      exact hZ
    refine ⟨.ref a, upd H' a (.lst vs'), track I8 fpA' hA0 ⟨hlen2, _, c, k1, hc⟩, rfl, ?_⟩
    exact hQ _ _ _ (l'.trans (g'.add_le hH)) (g'.add hH) (.lst upd_same (k2.mono (g'.add_le hH).toLf))
/-- a def that may be a key -/
def KeyG (P : Program) (w : World) (K : PySem.W.Frag) (mg : Str → Option Value) (base : Heap) (k : Nat) (f : Addr) (m : List D → M D) : Prop := ∃ fd x0, FnG P w K mg base k f fd [x0] (spM K 1 m) ∧ BindK K fd [x0] []
theorem KeyG.bad {P : Program} {w : World} {K : PySem.W.Frag} {mg : Str → Option Value} {base : Heap} {k : Nat} {f : Addr} {fd : FuncData} {x : Str} (hb : BindK K fd [x] []) : KeyG P w K mg base k f (fun _ _ => .bad) := ⟨fd, x, FnG.bad, hb⟩
theorem KeyG.mono {P : Program} {w : World} {K : PySem.W.Frag} {mg : Str → Option Value} {base : Heap} {j k : Nat} {f : Addr} {m : List D → M D} (h : KeyG P w K mg base j f m) (l : j ≤ k) : KeyG P w K mg base k f m := by
  obtain ⟨fd, x, F, b⟩ := h
  exact ⟨fd, x, F.mono l, b⟩
def sortKM (m : List D → M D) (l : D) : M D := fun S => match lstOf S l with
  | some xs => (match keysM m xs S with
    | .ok ks S' => (match toPs ks with
      | some ps => if sortOk ps = true ∧ xs.length ≤ sizeLine then .ok (.lst (sortBy (xs.zip ps))) S' else .bad
      | none => .bad)
    | _ => .bad)
  | none => .bad
def eSortK (m : List D → M D) (ma : ME) : ME := fun δ => M.bind (ma δ) (sortKM m)
theorem se_sortK {Wx : WX} {k : Nat} {e : Expr} {x : Str} {p pos px kp : Pos} {m : List D → M D} {ma : ME} (hK : KeyG X.prog X.w X.K X.mg X.base k (He.ga X.K x) m) (hr : Room (k + 2) X.A) (hgd : X.A.guards = some []) (hg : Gl X "sorted") (hm : X.mg "sorted" = none)
    (hgx : Gl X x) (hmx : X.mg x = some (.ref (He.ga X.K x))) (hdx : (x == ("__debug__" : Str)) = false) (ha : SE X Wx e ma) (hs : starEach [e] X.env = (false, eval e X.env) :: starEach [] X.env)
    (he : backTo pos (starEach [e] X.env) = (false, eval e X.env) :: backTo pos (starEach [] X.env)) (hpl : (backTo pos (starEach [e] X.env)).any (·.1) = false)
    (hall : (backToKw pos (keywordEach [⟨some "key", .Name x px, kp⟩] X.env)).all (·.1.isSome) = true) (hnone : (backToKw pos (keywordEach [⟨some "key", .Name x px, kp⟩] X.env)).any (·.1.isNone) = false) (hks : (backToKw pos (keywordEach [⟨some "key", .Name x px, kp⟩] X.env)).filterMap (·.1) = [Str.ofString "key"]) :
    SE X Wx (.Call (.Name "sorted" p) [e] [⟨some "key", .Name x px, kp⟩] pos) (eSortK m ma) := by
  obtain ⟨fd, x0, F, hb⟩ := hK
  have hc : CallRK X (.builtin "sorted") [Str.ofString "key"] (fun vs zs H Q => ∃ v, vs = [v] ∧ zs = [.ref (He.ga X.K x)] ∧ ∃ W S l, Good X.K W S H ∧ Rep X.K W l v ∧ okP X.K (Rep X.K) W (sortKM m l S) [] (fun _ _ _ _ => False) Q) := by
    intro pins s σ H vs zs us ws Q I r rz h
    obtain ⟨v, rfl, rfl, W, S, l, g, q, h⟩ := h
    obtain ⟨w1, rfl, e1⟩ := vals1 rz
    obtain rfl : w1 = Value.ref (He.ga X.K x) := e1
    unfold sortKM at h
    cases e2 : lstOf S l with
    | none => rw [e2] at h; exact h.elim
    | some xs =>
      rw [e2] at h
      dsimp only at h
      cases e3 : keysM m xs S with
      | bad => rw [e3] at h; exact h.elim
      | exc _ _ => rw [e3] at h; exact h.elim
      | ok ks S' =>
        rw [e3] at h
        dsimp only at h
        cases e4 : toPs ks with
        | none => rw [e4] at h; exact h.elim
        | some ps =>
          rw [e4] at h
          dsimp only at h
          split at h
          · rename_i ho
            obtain ⟨a, vs, rfl, hs, r2⟩ := lstOf_ok e2 g q
            obtain rfl := Vals.ref1 r
            exact sorted_key I hgd hr F hb g hs r2 e3 e4 ho.1 ho.2 h
          · exact h.elim
  refine PE.imp (pe_callBK hc hg hm (by decide +kernel) (pa_cons ha pa_nil hs) (pk_cons (pe_glob (v := .ref (He.ga X.K x)) hgx hmx rfl hdx) pk_nil) (he := he) (hpl := hpl) (hall := hall) (hnone := hnone) (hks := hks)) fun σ H Q ⟨W, S, δ, g, r, h⟩ => ?_
  refine ⟨W, S, δ, g, r, (okP.bind (R := Rep X.K) h).imp fun v H1 ⟨W1, S1, d, l1, g1, q1, p1⟩ => ?_⟩
  refine ⟨v, rfl, rfl, W1, S1, d, g1, q1, ?_⟩
  unfold sortKM at p1 ⊢
  cases e2 : lstOf S1 d with
  | none => rw [e2] at p1; exact p1.elim
  | some xs =>
    rw [e2] at p1
    dsimp only at p1 ⊢
    cases e3 : keysM m xs S1 with
    | bad => rw [e3] at p1; exact p1.elim
    | exc _ _ => rw [e3] at p1; exact p1.elim
    | ok ks S' =>
      rw [e3] at p1
      dsimp only at p1 ⊢
      cases e4 : toPs ks with
      | none => rw [e4] at p1; exact p1.elim
      | some ps =>
        rw [e4] at p1
        dsimp only at p1 ⊢
        split at p1
        · rename_i ho
          rw [if_pos ho]
          exact p1
        · exact p1.elim
end
end Ev
namespace Ev
open PySem PySem.Spec PySem.SeqAt L2 PyProof.Rows
section
variable {X : Cx} {Wx : WX} {K : PySem.W.Frag} {W : Wd} {S : Store} {H : Hp} {pos pos' p : Pos} {e o value : Expr}
def newDT : PO := fun S => some (.ref S.length, S ++ [some (.dT [])])
def eDT : ME := fun _ => lft newDT
theorem se_dT : SE X Wx (.Dict [] [] pos) eDT := PE.imp pe_dnewT fun σ H Q ⟨W, S, δ, g, r, h⟩ => fun a n => by
  have h' := h.lft
  exact h' (W.addC a) _ _ (Wd.addC_le W a) (g.addC (c := .dT []) n ⟨[], upd_same, rfl, .nil⟩) (.ref (by simp [Wd.addC, ← g.len]))
/-- in its place, or at the end -/
def putT (kvs : List (List Int × D)) (k : List Int) (v : D) : List (List Int × D) :=
  if (kvs.any fun kv => decide (kv.1 = k)) = true then kvs.map (fun kv => if kv.1 = k then (kv.1, v) else kv) else kvs ++ [(k, v)]
theorem inl_inj {a b : List Int} : (a.map (Sum.inl : Int → Key) = b.map Sum.inl) ↔ a = b := by
  constructor
  · intro h
    exact (List.map_inj_right (fun x y e => Sum.inl.inj e)).mp h
  · intro h; rw [h]
theorem put_rel {d : D} {v : V} (q : Rep K W d v) (k : List Int) : ∀ {kvs : List (List Int × D)} {vk : List (List Key × V)}, vk.map (·.1) = kvs.map (fun p => p.1.map Sum.inl) → Reps K W (kvs.map (·.2)) (vk.map (·.2)) →
    (putK vk (k.map Sum.inl) v).map (·.1) = (putT kvs k d).map (fun p => p.1.map Sum.inl) ∧ Reps K W ((putT kvs k d).map (·.2)) ((putK vk (k.map Sum.inl) v).map (·.2)) := by
  intro kvs vk hk hr
  have any : ∀ {kvs : List (List Int × D)} {vk : List (List Key × V)}, vk.map (·.1) = kvs.map (fun p => p.1.map Sum.inl) → (vk.any fun kv => decide (kv.1 = k.map Sum.inl)) = (kvs.any fun kv => decide (kv.1 = k)) := by
    intro kvs
    induction kvs with
    | nil => intro vk h; simp at h; subst h; rfl
    | cons p kvs ih =>
      intro vk h
      cases vk with
      | nil => simp at h
      | cons z vk =>
        simp only [List.map_cons, List.cons.injEq] at h
        simp only [List.any_cons, ih h.2, h.1]
        congr 1
        simp only [decide_eq_decide]
        exact inl_inj
  unfold putK putT
  rw [any hk]
  split
  · rename_i hsp
    clear any hsp
    induction kvs generalizing vk with
    | nil => simp at hk; subst hk; exact ⟨rfl, .nil⟩
    | cons p kvs ih =>
      cases vk with
      | nil => simp at hk
      | cons z vk =>
        simp only [List.map_cons, List.cons.injEq] at hk
        cases hr with
        | cons r1 r2 =>
          obtain ⟨a, b⟩ := ih hk.2 r2
          have ez : (z.1 = k.map Sum.inl) ↔ p.1 = k := by rw [hk.1]; exact inl_inj
          simp only [List.map_cons]
          by_cases h : p.1 = k
          · rw [if_pos h, if_pos (ez.mpr h)]
            exact ⟨by rw [List.cons.injEq]; exact ⟨hk.1, a⟩, .cons q b⟩
          · rw [if_neg h, if_neg (fun z => h (ez.mp z))]
            exact ⟨by rw [List.cons.injEq]; exact ⟨hk.1, a⟩, .cons r1 b⟩
  · rw [List.map_append, List.map_append, List.map_append, List.map_append, hk]
    exact ⟨rfl, hr.append (.cons q .nil)⟩
def putCell (n : Nat) (k : List D) (v : D) (S : Store) : Option Store := match S[n]?, intsOf k with
  | some (some (.dT kvs)), some ks => if kvs.length < sizeLine ∧ k.length ≤ sizeLine then some (S.set n (some (.dT (putT kvs ks v)))) else none
  | _, _ => none
/-- d[tuple(e)] = v -/
def sPutT (mv mo me : ME) : MS := fun δ => ofE (M.bind (mv δ) fun v => M.bind (mo δ) fun x => M.bind (me δ) fun l S => (match x, lstOf S l with
  | .ref n, some ks => (match putCell n ks v S with
    | some S' => .ok D.non S'
    | none => .bad)
  | _, _ => .bad : Res D)) δ fun _ S => .nx δ S
theorem ints_kV (ns : List Int) : ns.map V.int = (ns.map Sum.inl).map kV := by rw [List.map_map]; rfl
theorem ss_putT {pe : Pos} {mv mo me : ME} (hu : X.A.units + 1 < cLine) (ho : SE X Wx o mo) (he : SE X Wx e me) (hv : SE X Wx value mv) (hg : Gl X "tuple") (hm : X.mg "tuple" = none) (hs1 : starEach [e] X.env = (false, eval e X.env) :: starEach [] X.env)
    (hs3 : (backTo pe (starEach [] X.env)).any (·.1) = false)
    (hs : swapsWith value (some (.Subscript o (.Call (.Name "tuple" p) [e] [] pe) pos')) pos.line X.env = pure false) :
    SS X Wx (.Assign [.Subscript o (.Call (.Name "tuple" p) [e] [] pe) pos'] value pos) (sPutT mv mo me) := by
  have hi : PE X (.Call (.Name "tuple" p) [e] [] pe) (tCB (fun xs H Q => ∃ p ys, xs = [.ref p] ∧ ((SqL X.K H p ys ∧ ∀ l, H l = none → Q (.ref l) (upd H l (.tup ys))) ∨ (SqT X.K H p ys ∧ Q (.ref p) H))) (tCons (tD X.K Wx me) tNil)) :=
    pe_callTy call_tuple_of hg hm (by decide +kernel) (pa_cons he pa_nil hs1) (he := hs1) (hpl := hs3)
  refine PS.imp (ps_dput hu ho hi hv hs) fun Dn σ H ⟨W, S, δ, g, r, h⟩ => ?_
  refine ⟨W, S, δ, g, r, ?_⟩
  have h1 := flP_ofE (R := Rep X.K) r h
  refine (okP.bind (R := Rep X.K) h1).imp fun v H1 ⟨W1, S1, d, l1, g1, q1, h2⟩ => ?_
  refine ⟨W1, S1, δ, g1, r.mono l1, (okP.bind (R := Rep X.K) h2).imp fun x H2 ⟨W2, S2, dx, l2, g2, q2, h3⟩ => ?_⟩
  refine ⟨W2, S2, δ, g2, r.mono (l1.trans l2), (okP.bind (R := Rep X.K) h3).imp fun y H3 ⟨W3, S3, dl, l3, g3, q3, h4⟩ => ?_⟩
  cases e1 : lstOf S3 dl with
  | none => rw [e1] at h4; cases dx <;> exact h4.elim
  | some ks =>
    rw [e1] at h4
    cases q2 with
    | @ref n a hn =>
      dsimp only at h4
      cases e2 : putCell n ks d S3 with
      | none => rw [e2] at h4; exact h4.elim
      | some S4 =>
        rw [e2] at h4
        obtain ⟨b, ys, rfl, hb, rb⟩ := lstOf_ok e1 g3 q3
        refine ⟨b, ys, rfl, .inl ⟨hb, fun l hl => ?_⟩⟩
        unfold putCell at e2
        split at e2
        · rename_i kvs ns hc hi2
          split at e2
          · rename_i hlen
            cases e2
            obtain ⟨rfl, rfl⟩ := intsOf_ok hi2 rb
            obtain ⟨a', z1, z2, z3, vk, z4, z5, z6⟩ := g3.cell n _ hc
            rw [l3.toLf.get hn] at z1; cases z1
            have g4 := g3.add (p := l) (o := .tup (ns.map V.int)) hl
            have le4 := g3.add_le (p := l) (o := .tup (ns.map V.int)) hl
            have ne : a ≠ l := ne_of_none z4 hl
            have z4' : upd H3 l (.tup (ns.map V.int)) a = some (.dT vk) := by rw [upd_ne ne]; exact z4
            have hlk : vk.length = kvs.length := by
              have := congrArg List.length z5
              simpa using this
            have q1' : Rep X.K (W3.add l (.tup (ns.map V.int))) d v := (q1.mono (l2.trans l3).toLf).mono le4.toLf
            refine ⟨a, _, rfl, DPut.t (k := ns.map Sum.inl) z4' (by rw [upd_same, ints_kV]) (by rw [hlk]; exact hlen.1), ?_⟩
            obtain ⟨k1, k2⟩ := put_rel q1' ns z5 (z6.mono le4.toLf)
            have g5 := g4.put (c' := .dT (putT kvs ns d)) (o := .dT (putK vk (ns.map Sum.inl) v)) hc (le4.toLf.get (l3.toLf.get hn)) ⟨_, upd_same, k1, k2⟩
            obtain ⟨W6, S6, d6, l6, g6, q6, h6⟩ := h4 _ _ _ le4 g5 .non
            exact h6 _ _ _ W6.le_refl g6 (r.mono l6)
          · cases e2
        · cases e2
    | _ => exact h4.elim
def keyD (p : List Int × D) : D := .tup (p.1.map D.int)
def iKeysV (i : Nat) : MA := fun δ S => match δ[i]? with
  | some (some (.ref n)) => (match S[n]? with
    | some (some (.dT kvs)) => .ok (kvs.map keyD) (S.set n none)
    | _ => .bad)
  | _ => .bad
theorem si_keysV {i : Nat} {x : Str} {tg : Expr} (hN : X.N[i]? = some x) (hv : Vis X.env.scope x) (hd : (x == ("__debug__" : Str)) = false) (hcd : (x == ("__classdict__" : Str)) = false) : SI X Wx tg (.Name x pos) (iKeysV i) := by
  refine ⟨fun pins s σ H R I ⟨W, S, δ, g, r, h⟩ => ?_⟩
  unfold iKeysV at h
  split at h
  · rename_i n hn
    split at h
    · rename_i kvs hc
      obtain ⟨v, e1, e2⟩ := r.2 i _ hn
      rcases e2 with e2 | ⟨z, _⟩
      · cases e2 with
        | @ref _ a hm =>
          obtain ⟨a', z1, z2, z3, vk, z4, z5, z6⟩ := g.cell n _ hc
          rw [hm] at z1; cases z1
          obtain ⟨od, I1⟩ := I.lock z4 trivial
          obtain ⟨g1, l1⟩ := g.lockC (o := .frz od (.dT vk)) hc hm
          refine (pi_keys (pe_var hN hv hd hcd)).run pins s σ _ R I1 ⟨.ref a, e1, a, od, rfl, .inr ⟨vk, upd_same, ?_⟩⟩
          refine h _ _ _ l1 g1 ?_
          have hlk : vk.length = kvs.length := by
            have := congrArg List.length z5
            simpa using this
          have w := walk_keysT (d := a) (o := od) (kvs := vk)
          unfold WalkD
          rw [List.length_map, ← hlk]
          refine w.mono (fun H' h' => h' a _ upd_same) fun j H1 y H2 hj hG yy d hdj W2 S2 lf2 g2 => ?_
          obtain ⟨rfl, k, u, q, k1, rfl, k3⟩ := yy
          have hjk : j < kvs.length := by rw [← hlk]; exact hj
          have hkk : k = kvs[j].1.map Sum.inl := by
            have : (vk.map (·.1))[j]? = (kvs.map (fun p => p.1.map Sum.inl))[j]? := by rw [z5]
            rw [List.getElem?_map, List.getElem?_map, k1, List.getElem?_eq_getElem hjk] at this
            simpa using this
          have hdd : d = keyD kvs[j] := by
            rw [List.getElem?_map, List.getElem?_eq_getElem hjk] at hdj
            simpa using hdj.symm
          subst hdd
          have hkv : k.map kV = kvs[j].1.map V.int := by rw [hkk, ← ints_kV]
          rw [hkv] at k3
          cases hf : W2.F q with
          | some ob =>
            have := g2.sub q ob hf
            rw [k3] at this; cases this
            exact ⟨W2, W2.le_refl, g2, .tup (.inl (.inl hf)) (reps_ints _)⟩
          | none =>
            obtain ⟨g3, l3⟩ := g2.addOld k3 hf
            exact ⟨_, l3, g3, .tup (SqT.of upd_same) (reps_ints _)⟩
      · cases z
    · exact h.elim
  · exact h.elim
end
end Ev
namespace Ev
open PySem PySem.Spec PySem.SeqAt L2 PyProof.Rows
section
variable {X : Cx} {Wx : WX} {K : PySem.W.Frag} {W : Wd} {S : Store} {H : Hp} {pos pos' p px kp tpos : Pos} {e o a b value tg : Expr} {mas : MA} {ma mb m : ME} {k : Nat} {x : Str}
theorem nListRg1 {fin : List D → PO} (C : Ct X Wx k) (hf : ∀ {W : Wd} {S : Store} {H : Hp} {xs : List D} {vs : List V} {Q : VK}, oV X.K W (fin xs S) Q → Good X.K W S H → Reps X.K W xs vs → vs.length ≤ sizeLine ∧ ∀ a, H a = none → Q (.ref a) (upd H a (.lst vs)))
    (hl : X.mg "list" = none) (hm : X.mg "range" = none) (ha : SE X Wx a ma) {p1 p2 p3 : Pos} (hgl : Gl X "list" := by rfl) (hg : Gl X "range" := by rfl) (na : starEach [a] X.env = (false, eval a X.env) :: starEach [] X.env := by rfl)
    (nc : starEach [.Call (.Name "range" p1) [a] [] p2] X.env = (false, eval (.Call (.Name "range" p1) [a] [] p2) X.env) :: starEach [] X.env := by rfl) :
    SE X Wx (.Call (.Name "list" p3) [.Call (.Name "range" p1) [a] [] p2] [] pos) (eRg fin (g1 ma)) := se_listRg hf C.calm hgl hl (sr_1 hg hm ha na) nc
theorem nSortK (C : Ct X Wx (k + 2)) {m : List D → M D} (hK : KeyG X.prog X.w X.K X.mg X.base k (He.ga X.K x) m) (hm : X.mg "sorted" = none) (hmx : X.mg x = some (.ref (He.ga X.K x))) (ha : SE X Wx e ma) (hg : Gl X "sorted" := by rfl) (hgx : Gl X x := by rfl) (hdx : (x == ("__debug__" : Str)) = false := by rfl)
    (hs : starEach [e] X.env = (false, eval e X.env) :: starEach [] X.env := by rfl)
    (he : backTo pos (starEach [e] X.env) = (false, eval e X.env) :: backTo pos (starEach [] X.env) := by rfl) (hpl : (backTo pos (starEach [e] X.env)).any (·.1) = false := by rfl)
    (hall : (backToKw pos (keywordEach [⟨some "key", .Name x px, kp⟩] X.env)).all (·.1.isSome) = true := by rfl) (hnone : (backToKw pos (keywordEach [⟨some "key", .Name x px, kp⟩] X.env)).any (·.1.isNone) = false := by rfl) (hks : (backToKw pos (keywordEach [⟨some "key", .Name x px, kp⟩] X.env)).filterMap (·.1) = [Str.ofString "key"] := by rfl) :
    SE X Wx (.Call (.Name "sorted" p) [e] [⟨some "key", .Name x px, kp⟩] pos) (eSortK m ma) := se_sortK hK C.room C.gd hg hm hgx hmx hdx ha hs he hpl hall hnone hks
theorem nPutT {pe : Pos} {mv mo me : ME} (C : Ct X Wx k) (hm : X.mg "tuple" = none) (ho : SE X Wx o mo) (he : SE X Wx e me) (hv : SE X Wx value mv) (hg : Gl X "tuple" := by rfl) (hs1 : starEach [e] X.env = (false, eval e X.env) :: starEach [] X.env := by rfl)
    (hs3 : (backTo pe (starEach [] X.env)).any (·.1) = false := by rfl)
    (hs : swapsWith value (some (.Subscript o (.Call (.Name "tuple" p) [e] [] pe) pos')) pos.line X.env = pure false := by rfl) :
    SS X Wx (.Assign [.Subscript o (.Call (.Name "tuple" p) [e] [] pe) pos'] value pos) (sPutT mv mo me) := ss_putT (by have := C.hu; omega) ho he hv hg hm hs1 hs3 hs
theorem nKeysV (i : Nat) (hN : X.N[i]? = some x := by rfl) (hv : Vis X.env.scope x := by first | exact .inl rfl | exact .inr (.inl rfl) | exact .inr (.inr rfl)) (hd : (x == ("__debug__" : Str)) = false := by rfl) (hcd : (x == ("__classdict__" : Str)) = false := by rfl) : SI X Wx tg (.Name x pos) (iKeysV i) := si_keysV hN hv hd hcd
/-- a, b, c = x, y, z of names -/
def sPar3 (i j l : Nat) (mas : MA) : MS := fun δ => ofE (mas δ) δ fun ds S => match ds with
  | [x, y, z] => .nx (((δ.set i (some x)).set j (some y)).set l (some z)) S
  | _ => .bad
end
end Ev
namespace Ev
open PySem PySem.Spec PySem.SeqAt L2 PyProof.Rows
def pick {α : Type} (is : List Nat) (xs : List α) : List α := is.filterMap fun i => xs[i]?
section
variable {P : Program} {w : World} {K : PySem.W.Frag} {mg : Str → Option Value} {base : Heap}
end
section
variable {X : Cx}
end
end Ev
namespace Ev
open PySem PySem.Spec PySem.SeqAt L2 PyProof.Rows PySem.Calls PyProof.V
section
variable {prog : Program} {w : World} {A : Around} {E : Value → Shared → Prop} {s : Shared}
end
section
variable {X : Cx} {Wx : WX} {a b e : Expr} {ma mb : ME} {pos p : Pos}
def tupInts : D → Option (List Int)
  | .tup ds => intsOf ds
  | _ => none
theorem tupInts_ok {W : Wd} {S : Store} {H : Hp} {d : D} {v : V} {ns : List Int} (g : Good X.K W S H) (q : Rep X.K W d v) (e : tupInts d = some ns) : ∃ a, v = .ref a ∧ SqT X.K H a (ns.map V.int) := by
  cases q with
  | tup q r =>
    obtain ⟨rfl, rfl⟩ := intsOf_ok e r
    exact ⟨_, rfl, g.sqT q⟩
  | _ => cases e
section
variable (neg : Bool) {p1 p2 : Pos} (hm : X.mg "range" = none) (ha : SE X Wx a ma) (hb : SE X Wx b mb) (hg : Gl X "range" := by rfl) (hs : starEach [b] X.env = (false, eval b X.env) :: starEach [] X.env := by rfl) (hpl : (backTo p2 (starEach [] X.env)).any (·.1) = false := by rfl)
    (hk : behindInMarks (if neg then .NotIn else .In) (.Call (.Name "range" p1) [b] [] p2) = false := by rfl)
include hm ha hb hg hs hpl hk
end
end
end Ev
namespace Sp
open PySem L2 Ev
abbrev Rw := List (List Int)
def iD (r : List Int) : List D := r.map D.int
abbrev tI (r : List Int) : D := .tup (iD r)
abbrev lI (r : List Int) : D := .lst (iD r)
abbrev rowsL (R : Rw) : D := .lst (R.map lI)
abbrev rowsT (R : Rw) : D := .tup (R.map tI)
abbrev lotsL (R : Rw) : D := .lst (R.map tI)
def G01 (w : Nat) (R : Rw) : Prop := ∀ r ∈ R, r.length = w ∧ ∀ i ∈ r, i = 0 ∨ i = 1
theorem small {n : Nat} (h : n ≤ 1000000) : n ≤ sizeLine := Nat.le_trans h (by decide)
theorem iD_len {r : List Int} : (iD r).length = r.length := by simp [iD]
theorem iD_get {r : List Int} {i : Nat} (h : i < (iD r).length) : (iD r)[i] = .int (r[i]'(by simpa [iD] using h)) := by simp [iD]
theorem iD_app {a b : List Int} : iD (a ++ b) = iD a ++ iD b := by simp [iD]
theorem ints_iD : ∀ r : List Int, intsOf (iD r) = some r
  | [] => rfl
  | i :: r => by
    have := ints_iD r
    simp only [iD, List.map_cons] at this ⊢
    simp [intsOf, this]
theorem bls_of : ∀ l : List Bool, blsOf (l.map D.bl) = some l
  | [] => rfl
  | x :: l => by simp [blsOf, bls_of l]
section
variable {S S1 S2 : Store} {i j : Int} {ns : List Int} {R : Rw} {xs ys : List D} {δ : En}
theorem all_ok {l : List Bool} : pAll true [.lst (l.map D.bl)] S = some (.bl (l.all id), S) := by simp [pAll, lstOf, bls_of]
theorem any_ok {l : List Bool} : pAll false [.lst (l.map D.bl)] S = some (.bl (l.any id), S) := by simp [pAll, lstOf, bls_of]
theorem sum_lI : pSum [lI ns] S = some (.int ns.sum, S) := by simp [pSum, lstOf, ints_iD]
theorem len_lI : pLen [lI ns] S = some (.int ns.length, S) := by rw [pLen_lst, iD_len]
theorem len_tI : pLen [tI ns] S = some (.int ns.length, S) := by rw [pLen_tup, iD_len]
theorem len_rL : pLen [rowsL R] S = some (.int R.length, S) := by rw [pLen_lst, List.length_map]
theorem len_rT : pLen [rowsT R] S = some (.int R.length, S) := by rw [pLen_tup, List.length_map]
theorem len_lo : pLen [lotsL R] S = some (.int R.length, S) := by rw [pLen_lst, List.length_map]
theorem ix_l (h0 : 0 ≤ i) (h1 : i < xs.length) : pIx (.lst xs) (.int i) S = some (xs.getD i.toNat .non, S) := by
  obtain ⟨k, rfl⟩ := Int.eq_ofNat_of_zero_le h0
  have hk : k < xs.length := by omega
  rw [pIx_lst hk, List.getD_eq_getElem?_getD, Int.toNat_natCast, List.getElem?_eq_getElem hk]
  rfl
theorem ix_t (h0 : 0 ≤ i) (h1 : i < xs.length) : pIx (.tup xs) (.int i) S = some (xs.getD i.toNat .non, S) := by
  obtain ⟨k, rfl⟩ := Int.eq_ofNat_of_zero_le h0
  have hk : k < xs.length := by omega
  rw [pIx_tup hk, List.getD_eq_getElem?_getD, Int.toNat_natCast, List.getElem?_eq_getElem hk]
  rfl
theorem getD_map {α : Type} (f : α → D) (d : α) {zs : List α} {k : Nat} (h : k < zs.length) : (zs.map f).getD k .non = f (zs.getD k d) := by
  simp only [List.getD_eq_getElem?_getD, List.getElem?_map]
  rw [List.getElem?_eq_getElem h]
  rfl
theorem ix_tI (h0 : 0 ≤ i) (h1 : i < ns.length) : pIx (tI ns) (.int i) S = some (.int (ns.getD i.toNat 0), S) := by
  rw [ix_t h0 (by rw [iD_len]; exact h1), iD, getD_map D.int 0 (by omega)]
theorem ix_lI (h0 : 0 ≤ i) (h1 : i < ns.length) : pIx (lI ns) (.int i) S = some (.int (ns.getD i.toNat 0), S) := by
  rw [ix_l h0 (by rw [iD_len]; exact h1), iD, getD_map D.int 0 (by omega)]
theorem ix_rL (h0 : 0 ≤ i) (h1 : i < R.length) : pIx (rowsL R) (.int i) S = some (lI (R.getD i.toNat []), S) := by
  rw [ix_l h0 (by rw [List.length_map]; exact h1), getD_map lI [] (by omega)]
theorem ix_rT (h0 : 0 ≤ i) (h1 : i < R.length) : pIx (rowsT R) (.int i) S = some (tI (R.getD i.toNat []), S) := by
  rw [ix_t h0 (by rw [List.length_map]; exact h1), getD_map tI [] (by omega)]
theorem ix_lo (h0 : 0 ≤ i) (h1 : i < R.length) : pIx (lotsL R) (.int i) S = some (tI (R.getD i.toNat []), S) := by
  rw [ix_l h0 (by rw [List.length_map]; exact h1), getD_map tI [] (by omega)]
theorem eVarR {k : Nat} {d : D} (h : δ[k]? = some (some d)) (hd : d ≠ .slf) : eVar k δ S = .ok d S := by
  unfold eVar
  rw [h]
  cases d <;> first | rfl | exact absurd rfl hd
theorem tuple_lst (h : xs.length ≤ sizeLine) : pTuple [.lst xs] S = some (.tup xs, S) := by simp only [pTuple, lstOf, Option.bind_some, newT_ev h]
theorem add_ll (h : xs.length + ys.length ≤ sizeLine) : pAdd (.lst xs) (.lst ys) S = some (.lst (xs ++ ys), S) := by
  have : (xs ++ ys).length ≤ sizeLine := by simpa using h
  simp only [pAdd, plstOf]
  exact newL_ev this
theorem add_tt (h : xs.length + ys.length ≤ sizeLine) : pAdd (.tup xs) (.tup ys) S = some (.tup (xs ++ ys), S) := by
  have : (xs ++ ys).length ≤ sizeLine := by simpa using h
  simp only [pAdd]
  exact newT_ev this
variable {α β : Type} {me : ME} {mt : MT} {δ0 : En} {k : Nat}
theorem lc_mapE (enc : α → D) (enc' : β → D) (g : α → β) {zs : List α} (hl : zs.length ≤ sizeLine) (h : ∀ x ∈ zs, me (δ0.set k (some (enc x))) S = .ok (enc' (g x)) S) :
    loopC (uNm k) tYesM me δ0 (zs.map enc) [] S = .ok ((zs.map g).map enc') S := by
  have key : ∀ (zs : List α) (acc : List D), acc.length + zs.length ≤ sizeLine → (∀ x ∈ zs, me (δ0.set k (some (enc x))) S = .ok (enc' (g x)) S) → loopC (uNm k) tYesM me δ0 (zs.map enc) acc S = .ok (acc ++ (zs.map g).map enc') S := by
    intro zs
    induction zs with
    | nil => intro acc _ _; simp [loopC, M.pure]
    | cons x zs ih =>
      intro acc hl h
      have h1 := h x (List.mem_cons_self ..)
      simp only [List.map_cons, loopC, uNm, setsD, tYesM, M.bind, M.pure, noX, h1, cond_true]
      simp only [List.length_cons] at hl
      rw [if_pos (by omega)]
      rw [ih (acc ++ [enc' (g x)]) (by simp; omega) fun y hy => h y (List.mem_cons_of_mem _ hy)]
      simp
  have := key zs [] (by simpa using hl) h
  simpa using this
theorem lc_filE (enc : α → D) (enc' : β → D) (q : α → Bool) (g : α → β) {zs : List α} (hl : zs.length ≤ sizeLine) (h1 : ∀ x ∈ zs, mt (δ0.set k (some (enc x))) S = .ok (q x) S) (h : ∀ x ∈ zs, q x = true → me (δ0.set k (some (enc x))) S = .ok (enc' (g x)) S) :
    loopC (uNm k) mt me δ0 (zs.map enc) [] S = .ok (((zs.filter q).map g).map enc') S := by
  have key : ∀ (zs : List α) (acc : List D), acc.length + zs.length ≤ sizeLine → (∀ x ∈ zs, mt (δ0.set k (some (enc x))) S = .ok (q x) S) → (∀ x ∈ zs, q x = true → me (δ0.set k (some (enc x))) S = .ok (enc' (g x)) S) → loopC (uNm k) mt me δ0 (zs.map enc) acc S = .ok (acc ++ ((zs.filter q).map g).map enc') S := by
    intro zs
    induction zs with
    | nil => intro acc _ _ _; simp [loopC, M.pure]
    | cons x zs ih =>
      intro acc hl h1 h
      have e1 := h1 x (List.mem_cons_self ..)
      simp only [List.length_cons] at hl
      have ih2 := fun acc hl => ih acc hl (fun y hy => h1 y (List.mem_cons_of_mem _ hy)) fun y hy => h y (List.mem_cons_of_mem _ hy)
      cases hq : q x with
      | false =>
        rw [hq] at e1
        simp only [List.map_cons, loopC, uNm, setsD, M.bind, noX, e1, cond_false, List.filter_cons, hq, Bool.false_eq_true, if_false]
        exact ih2 acc (by omega)
      | true =>
        rw [hq] at e1
        have e2 := h x (List.mem_cons_self ..) hq
        simp only [List.map_cons, loopC, uNm, setsD, M.bind, noX, e1, e2, cond_true, List.filter_cons, hq, if_true]
        rw [if_pos (by omega), ih2 (acc ++ [enc' (g x)]) (by simp; omega)]
        simp
  have := key zs [] (by simpa using hl) h1 h
  simpa using this
end
end Sp
namespace Bd
open PySem L2 Ev
def ok_bool (c : Str) : Bool := c == "Table"
def strT (cal : Nat → List D → M D) (c : Str) : Option (List D → M D) := if c = "Table" then some (cal 6) else none
def ok_width (c : Str) : Bool := c == "Table"
def ok_height (c : Str) : Bool := c == "Table"
def ok_rows (c : Str) : Bool := c == "Table"
def ok_text (c : Str) : Bool := c == "Table"
def isi : List (Ty × Ty × Bool) := [(.blt "NoneType", .blt "str", false), (.blt "NoneType", .blt "tuple", false), (.blt "NoneType", .blt "int", false), (.blt "NoneType", .blt "list", false), (.blt "NoneType", .blt "bool", false), (.blt "bool", .blt "str", false), (.blt "bool", .blt "tuple", false), (.blt "bool", .blt "int", true), (.blt "bool", .blt "list", false), (.blt "bool", .blt "bool", true), (.blt "int", .blt "str", false), (.blt "int", .blt "tuple", false), (.blt "int", .blt "int", true), (.blt "int", .blt "list", false), (.blt "int", .blt "bool", false), (.blt "str", .blt "str", true), (.blt "str", .blt "tuple", false), (.blt "str", .blt "int", false), (.blt "str", .blt "list", false), (.blt "str", .blt "bool", false), (.blt "tuple", .blt "str", false), (.blt "tuple", .blt "tuple", true), (.blt "tuple", .blt "int", false), (.blt "tuple", .blt "list", false), (.blt "tuple", .blt "bool", false), (.blt "list", .blt "str", false), (.blt "list", .blt "tuple", false), (.blt "list", .blt "int", false), (.blt "list", .blt "list", true), (.blt "list", .blt "bool", false), (.blt "dict", .blt "str", false), (.blt "dict", .blt "tuple", false), (.blt "dict", .blt "int", false), (.blt "dict", .blt "list", false), (.blt "dict", .blt "bool", false), (.blt "NoneType", .own "Table", false), (.blt "bool", .own "Table", false), (.blt "int", .own "Table", false), (.blt "str", .own "Table", false), (.blt "tuple", .own "Table", false), (.blt "list", .own "Table", false), (.blt "dict", .own "Table", false), (.own "Table", .blt "str", false), (.own "Table", .blt "tuple", false), (.own "Table", .blt "int", false), (.own "Table", .blt "list", false), (.own "Table", .blt "bool", false), (.own "Table", .own "Table", true)]
def b_Table (cal : Nat → List D → M D) : MI :=
    (iOrd (sAsg (eCal (cal 7) (aCons (eVar 1) aNil)) (gNm 2))
    (iOrd (sIf (fun δ => asB (eOp pIs (eVar 2) (eC .non) δ)) (fun _ _ => .bad) sNext)
    (iSets (eTup (aCons (eVar 1) (aCons (eVar 2) aNil))) ["text", "rows"]
    (iSets (eTup (aCons (eCallV (pLen) (aCons (eVar 2) aNil)) (aCons (eCallV (pLen) (aCons (eOp pIx (eVar 2) (eC (.int 0))) aNil)) aNil))) ["height", "width"]
    iEnd))))
def b__law_text (cal : Nat → List D → M D) : MS :=
    (sRet (eMB "str" pJoin (eC (.str "\n")) (aCons (eLc newL (iAny (eVar 0)) (uNm 2) tYesM (eMB "str" pJoin (eC (.str "")) (aCons (eLc newL (iAny (eVar 2)) (uNm 1) tYesM (eCallV (pStrI (strT cal)) (aCons (eVar 1) aNil)) [1]) aNil)) [2]) aNil)))
def b_Table___str__ (cal : Nat → List D → M D) : MS :=
    (sRet (eCallV (pStrI (strT cal)) (aCons (eFld ok_text "text" (eVar 0)) aNil)))
def b_read_rows (cal : Nat → List D → M D) : MS :=
    (sSeq (sIf (tNotM (fun δ => tru ((eIsi (isiT isi) (.blt "str") (eVar 0)) δ))) (sRet (eC .non)) sNext)
    (sSeq (sAsg (eMB "str" pSplit (eVar 0) (aCons (eC (.str "\n")) aNil)) (gNm 1))
    (sSeq (sIf (tOrM (fun δ => asB (eOp pGt (eCallV (pLen) (aCons (eVar 1) aNil)) (eC (.int 8)) δ)) (tNotM (fun δ => asB ((eChain pLe pLe (eC (.int 1)) (eCallV (pLen) (aCons (eOp pIx (eVar 1) (eC (.int 0))) aNil)) (eC (.int 8))) δ)))) (sRet (eC .non)) sNext)
    (sSeq (sIf (tNotM (fun δ => tru ((eCallV (pAll true) (aCons (eLc newL (iAny (eVar 1)) (uNm 3) tYesM (eAnd (eOp pEq (eCallV (pLen) (aCons (eVar 3) aNil)) (eCallV (pLen) (aCons (eOp pIx (eVar 1) (eC (.int 0))) aNil))) (eCallV (pAll true) (aCons (eLc newL (iAny (eVar 3)) (uNm 2) tYesM (eOp pIn (eVar 2) (eC (.str "01"))) [2]) aNil))) [3]) aNil)) δ))) (sRet (eC .non)) sNext)
    (sSeq (sAsg (eCallV pTuple (aCons (eLc newL (iAny (eVar 1)) (uNm 3) tYesM (eCallV pTuple (aCons (eLc newL (iAny (eVar 3)) (uNm 2) tYesM (eCallV pInt (aCons (eVar 2) aNil)) [2]) aNil)) [3]) aNil)) (gNm 4))
    (sRet (eIf (fun δ => tru ((eCal (cal 9) (aCons (eVar 4) aNil)) δ)) (eVar 4) (eC .non))))))))
def b_is_full (cal : Nat → List D → M D) : MS :=
    (sRet (eAnd (eOp pGt (eCallV (pLen) (aCons (eVar 0) aNil)) (eC (.int 0))) (eAnd (eCallV (pAll true) (aCons (eLc newL (iAny (eVar 0)) (uNm 1) tYesM (eOp pIn (eC (.int 1)) (eVar 1)) [1]) aNil)) (eCallV (pAll true) (aCons (eLc newL (iZip (aStar (eVar 0) aNil)) (uNm 2) tYesM (eOp pIn (eC (.int 1)) (eVar 2)) [2]) aNil)))))
end Bd
namespace Ev
open PySem PySem.Spec PySem.SeqAt L2 PyProof.Rows PySem.W
section
variable {X : Cx} {Wx : WX} {K : PySem.W.Frag} {pos : Pos}
end
end Ev
namespace Bd
open PySem L2 Ev
def b__law_reed (cal : Nat → List D → M D) : MS :=
    (sSeq (sAsg (eOp pAdd (eC (.int 90011)) (eOp pMul (eC (.int 4219)) (eVar 1))) (gNm 2))
    (sSeq (sFor (iAny (eCut (eVar 0) none (some (eC (.int 4))))) (gNm 3) (sAsg (eOp pMod (eCallV pInt (aCons (eOp pAdd (eOp pAdd (eOp pMul (eVar 2) (eC (.int 38393))) (eVar 3)) (eC (.int 311))) aNil)) (eC (.int 2147482277))) (gNm 2)))
    (sSeq (sAsg (eIf (fun δ => asB (eOp pLt (eVar 1) (eCallV (pLen) (aCons (eVar 0) aNil)) δ)) (eOp pIx (eVar 0) (eVar 1)) (eC (.int 0))) (gNm 4))
    (sRet (eLstC (aCons (eOp pMod (eCallV pInt (aCons (eOp pAdd (eOp pMul (eVar 2) (eC (.int 71))) (eVar 4)) aNil)) (eC (.int 2147482277))) (aCons (eIf (fun δ => asB (eOp pGe (eCallV (pAbs) (aCons (eVar 4) aNil)) (eOp pPow (eC (.int 10)) (eC (.int 18))) δ)) (eCallV (pAbs) (aCons (eVar 4) aNil)) (eC (.int 0))) aNil)))))))
def b_odd_rings (cal : Nat → List D → M D) : MS :=
    (sSeq (sExpr (eCal (cal 23) (aCons (eVar 0) aNil)))
    (sRet (eCallV pTuple (aCons (eCal (cal 53) (aCons (eFld ok_rows "rows" (eVar 0)) aNil)) aNil))))
def b__law_full (cal : Nat → List D → M D) : MS :=
    (sRet (eAnd (eOp pNotIn (eC (.int 0)) (eLc newL (iAny (eVar 0)) (uNm 1) tYesM (eCallV (pMax) (aCons (eVar 1) aNil)) [1])) (eOp pNotIn (eC (.int 0)) (eLc newL (iAny (eCal (cal 36) (aCons (eVar 0) aNil))) (uNm 1) tYesM (eCallV (pMax) (aCons (eVar 1) aNil)) [1]))))
def b_rings_of (cal : Nat → List D → M D) : MS :=
    (sSeq (sAsg (eTup (aCons (eCallV (pLen) (aCons (eVar 0) aNil)) (aCons (eCal (cal 63) (aCons (eVar 0) aNil)) (aCons eDT aNil)))) (gTp 3 (gCs (gNm 1) (gCs (gNm 2) (gCs (gNm 3) gNl)))))
    (sSeq (sFor (iR1 (aCons (eVar 1) aNil)) (gNm 4) (sExpr (eCal (cal 62) (aCons (eVar 2) (aCons (eLst (aCons (eVar 4) aNil)) (aCons (eVar 3) aNil))))))
    (sSeq (sAsg (eLstC aNil) (gNm 5))
    (sSeq (sFor (iKeysV 3) (gNm 6) (sSeq (sAsg (eOp pFdiv (eCallV (pLen) (aCons (eVar 6) aNil)) (eC (.int 2))) (gNm 7))
    (sIf (tAndM (fun δ => asB (eOp pGt (eVar 7) (eC (.int 2)) δ)) (fun δ => asB (eOp pEq (eOp pMod (eCallV pInt (aCons (eVar 7) aNil)) (eC (.int 2))) (eC (.int 1)) δ))) (sExpr (eMB "list" pAppend (eVar 5) (aCons (eTup (aCons (eCut (eVar 6) none (some (eVar 7))) (aCons (eCallV pTuple (aCons (eLc newL (iAny (eCut (eVar 6) (some (eVar 7)) none)) (uNm 8) tYesM (eOp pSub (eVar 8) (eVar 1)) [8]) aNil)) aNil))) aNil))) sNext)))
    (sRet (eSortK (cal 61) (eVar 5)))))))
def b__law_ringed (cal : Nat → List D → M D) : MS :=
    (sSeq (sPar2 4 5 (aCons (eCal (cal 58) (aCons (eVar 0) (aCons (eVar 1) (aCons (eVar 2) aNil)))) (aCons (eCut (eCal (cal 64) (aCons (eVar 0) (aCons (eRg newL (g1 (eVar 1))) aNil))) none (some (eVar 3))) aNil)))
    (sSeq (sAsg (eCut (eCal (cal 64) (aCons (eVar 0) (aCons (eRg newL (g1 (eVar 2))) aNil))) none (some (eVar 3))) (gNm 6))
    (sSeq (sFor (iR1 (aCons (eVar 3) aNil)) (gNm 7) (sFor (iR1 (aCons (eVar 3) aNil)) (gNm 8) (sAsg (eCallV pInt (aCons (eOp pIn (eVar 8) (eLst (aCons (eVar 7) (aCons (eOp pMod (eCallV pInt (aCons (eOp pAdd (eVar 7) (eC (.int 1))) aNil)) (eVar 3)) aNil)))) aNil)) (gSb pStore (eOp pIx (eVar 4) (eOp pIx (eVar 5) (eVar 7))) (eOp pIx (eVar 6) (eVar 8))))))
    (sRet (eFrz (eVar 4))))))
def b__law_any (cal : Nat → List D → M D) : MS :=
    (sSeq (sAsg (eOp pAdd (eC (.int 2)) (eCal (cal 60) (aCons (eVar 0) (aCons (eC (.int 4)) aNil)))) (gNm 3))
    (sSeq (sAsg (eLc newL (iR1 (aCons (eVar 1) aNil)) (uNm 6) tYesM (eLc newC (iR1 (aCons (eVar 2) aNil)) (uNm 5) tYesM (eCallV pInt (aCons (eOp pEq (eCal (cal 60) (aCons (eVar 0) (aCons (eVar 3) aNil))) (eC (.int 0))) aNil)) [5]) [6]) (gNm 4))
    (sSeq (sFor (iR1 (aCons (eVar 1) aNil)) (gNm 6) (sIf (fun δ => asB (eOp pNotIn (eC (.int 1)) (eOp pIx (eVar 4) (eVar 6)) δ)) (sAsg (eC (.int 1)) (gSb pStore (eOp pIx (eVar 4) (eVar 6)) (eCal (cal 60) (aCons (eVar 0) (aCons (eVar 2) aNil))))) sNext))
    (sSeq (sFor (iR1 (aCons (eVar 2) aNil)) (gNm 5) (sIf (fun δ => asB (eOp pNotIn (eC (.int 1)) (eLc newL (iAny (eVar 4)) (uNm 7) tYesM (eOp pIx (eVar 7) (eVar 5)) [7]) δ)) (sAsg (eC (.int 1)) (gSb pStore (eOp pIx (eVar 4) (eCal (cal 60) (aCons (eVar 0) (aCons (eVar 1) aNil)))) (eVar 5))) sNext))
    (sRet (eVar 4))))))
def b__law_dip (cal : Nat → List D → M D) : MS :=
    (sSeq (sIf (fun δ => asB (eOp pGt (eOp pIx (eVar 0) (eC (.int 1))) (eC (.int 0)) δ)) (sSeq (sAsg (eCallV (pDivmod) (aCons (eOp pIx (eVar 0) (eC (.int 1))) (aCons (eVar 1) aNil))) (gTp 2 (gCs (gSb pStore (eVar 0) (eC (.int 1))) (gCs (gNm 2) gNl))))
    (sRet (eVar 2))) sNext)
    (sSeq (sAsg (eOp pMod (eCallV pInt (aCons (eOp pAdd (eOp pMul (eOp pIx (eVar 0) (eC (.int 0))) (eC (.int 40093))) (eC (.int 6101))) aNil)) (eC (.int 2147482277))) (gSb pStore (eVar 0) (eC (.int 0))))
    (sRet (eOp pMod (eCallV pInt (aCons (eOp pFdiv (eOp pIx (eVar 0) (eC (.int 0))) (eC (.int 256))) aNil)) (eVar 1)))))
def b_length_first (cal : Nat → List D → M D) : MS :=
    (sRet (eTup (aCons (eCallV (pLen) (aCons (eOp pIx (eVar 0) (eC (.int 0))) aNil)) (aCons (eVar 0) aNil))))
def b_grown (cal : Nat → List D → M D) : MS :=
    (sFor (iAny (eOp pIx (eVar 0) (eOp pIx (eVar 1) (eUn pNeg (eC (.int 1)))))) (gNm 3) (sSeq (sIf (tOrM (fun δ => asB (eOp pLe (eVar 3) (eOp pIx (eVar 1) (eC (.int 0))) δ)) (fun δ => asB (eOp pIn (eVar 3) (eVar 1) δ))) sCnt sNext)
    (sSeq (sAsg (eLc newL (iAny (eCut (eVar 1) (some (eC (.int 1))) (some (eUn pNeg (eC (.int 1)))))) (uNm 5) (fun δ => asB (eOp pIn (eVar 3) (eOp pIx (eVar 0) (eVar 5)) δ)) (eVar 5) [5]) (gNm 4))
    (sSeq (sIf (fun δ => tru ((eVar 4) δ)) sCnt sNext)
    (sSeq (sIf (tAndM (fun δ => asB (eOp pGt (eCallV (pLen) (aCons (eVar 1) aNil)) (eC (.int 1)) δ)) (fun δ => asB (eOp pIn (eOp pIx (eVar 1) (eC (.int 0))) (eOp pIx (eVar 0) (eVar 3)) δ))) (sSeq (sIf (tAndM (fun δ => asB (eOp pGt (eCallV (pLen) (aCons (eVar 1) aNil)) (eC (.int 2)) δ)) (fun δ => asB (eOp pLt (eOp pIx (eVar 1) (eC (.int 1))) (eVar 3) δ))) (sPutT (eC (.bl true)) (eVar 2) (eCallV (pSortD) (aCons (eLst (aStar (eVar 1) (aCons (eVar 3) aNil))) aNil))) sNext)
    sCnt) sNext)
    (sExpr (eCal (cal 62) (aCons (eVar 0) (aCons (eLst (aStar (eVar 1) (aCons (eVar 3) aNil))) (aCons (eVar 2) aNil))))))))))
def b_spots_of (cal : Nat → List D → M D) : MS :=
    (sSeq (sAsg (eTup (aCons (eCallV (pLen) (aCons (eVar 0) aNil)) (aCons (eCallV (pLen) (aCons (eOp pIx (eVar 0) (eC (.int 0))) aNil)) aNil))) (gTp 2 (gCs (gNm 1) (gCs (gNm 2) gNl))))
    (sSeq (sAsg (eLc newL (iR1 (aCons (eVar 1) aNil)) (uNm 5) tYesM (eLc newL (iR1 (aCons (eVar 2) aNil)) (uNm 4) (fun δ => tru ((eOp pIx (eOp pIx (eVar 0) (eVar 5)) (eVar 4)) δ)) (eOp pAdd (eVar 1) (eVar 4)) [4]) [5]) (gNm 3))
    (sRet (eOp pAdd (eVar 3) (eLc newL (iR1 (aCons (eVar 2) aNil)) (uNm 4) tYesM (eLc newL (iR1 (aCons (eVar 1) aNil)) (uNm 5) (fun δ => tru ((eOp pIx (eOp pIx (eVar 0) (eVar 5)) (eVar 4)) δ)) (eVar 5) [5]) [4])))))
def b__law_mixed_v2 (cal : Nat → List D → M D) : MS :=
    (sSeq (sPar2 2 3 (aCons (eCallV (pList newC) (aCons (eVar 1) aNil)) (aCons (eLstC aNil) aNil)))
    (sSeq (sFor (iR1 (aCons (eCallV (pLen) (aCons (eVar 1) aNil)) aNil)) (gNm 4) (sExpr (eMB "list" pAppend (eVar 3) (aCons (eMB "list" pPop (eVar 2) (aCons (eCal (cal 60) (aCons (eVar 0) (aCons (eCallV (pLen) (aCons (eVar 2) aNil)) aNil))) aNil)) aNil))))
    (sRet (eFrz (eVar 3)))))
end Bd
namespace Bd
open PySem L2 Ev
def b_check_table (cal : Nat → List D → M D) : MS :=
    (sIf (tNotM (fun δ => tru ((eIsi (isiT isi) (.own "Table") (eVar 0)) δ))) (fun _ _ => .bad) sNext)
def b__law_turned (cal : Nat → List D → M D) : MS :=
    (sRet (eLc newL (iR1 (aCons (eCallV (pLen) (aCons (eOp pIx (eVar 0) (eC (.int 0))) aNil)) aNil)) (uNm 2) tYesM (eLc newL (iAny (eVar 0)) (uNm 1) tYesM (eOp pIx (eVar 1) (eVar 2)) [1]) [2]))
def b_is_between (cal : Nat → List D → M D) : MS :=
    (sSeq (sIf (tNotM (fun δ => tru ((eCal (cal 42) (aCons (eVar 0) aNil)) δ))) (sRet (eC (.bl false))) sNext)
    (sRet (eAnd (eOr (eOp pIs (eVar 1) (eC .non)) (eOp pLe (eVar 1) (eVar 0))) (eOr (eOp pIs (eVar 2) (eC .non)) (eOp pLe (eVar 0) (eVar 2))))))
def b_is_integer (cal : Nat → List D → M D) : MS :=
    (sRet (eAnd (eIsi (isiT isi) (.blt "int") (eVar 0)) (eNot (eIsi (isiT isi) (.blt "bool") (eVar 0)))))
end Bd
namespace Sp
open PySem L2 Ev Bd
theorem toPs_ints : ∀ r : List Int, toPs (iD r) = some (r.map PyData.int)
  | [] => rfl
  | i :: r => by
    show (toP (.int i)).bind (fun a => (toPs (iD r)).map fun b => a :: b) = _
    rw [toPs_ints r]; rfl
theorem toPSs_ints (S : Store) : ∀ r : List Int, toPSs S (iD r) = some (r.map PyData.int)
  | [] => rfl
  | i :: r => by
    show (toPS S (.int i)).bind (fun a => (toPSs S (iD r)).map fun b => a :: b) = _
    rw [toPSs_ints S r]; simp [toPS]
theorem any_one (r : List Int) : ((r.map PyData.int).any fun b => PyData.eqv b (.int 1)) = decide ((1 : Int) ∈ r) := by
  induction r with
  | nil => rfl
  | cons i r ih =>
    simp only [List.map_cons, List.any_cons, ih, PyData.eqv]
    by_cases h : i = 1
    · subst h; simp
    · have : ((1 : Int) ∈ i :: r) ↔ 1 ∈ r := by simp; omega
      simp [h, this]
theorem in_tup {S : Store} {r : List Int} : pIn (.int 1) (.tup (iD r)) S = some (.bl (decide ((1 : Int) ∈ r)), S) := by
  simp only [pIn, inD, toPS, toPSs_ints, Option.map_some, PyData.depth, Nat.zero_le, if_true, any_one]
structure Full (h w : Nat) (R : Rw) : Prop where
  len : R.length = h
  g : G01 w R
  row : ∀ r ∈ R, (1 : Int) ∈ r
  col : ∀ k, k < w → ∃ r ∈ R, r[k]? = some 1
  h1 : 0 < h
  h2 : h ≤ 8
  w1 : 0 < w
  w2 : w ≤ 8
def dig (i : Int) : Str := toString i
def ln (r : List Int) : Str := Txt.join "" (r.map dig)
def txt (R : Rw) : Str := Txt.join "\n" (R.map ln)
theorem dig_tl {i : Int} (h : i = 0 ∨ i = 1) : TL.tl (dig i) = [48 + i.toNat] := by
  rcases h with rfl | rfl <;> decide +kernel
theorem joinL_nil : ∀ l : List (List Nat), TL.joinL [] l = l.flatten
  | [] => rfl
  | [p] => by simp [TL.joinL]
  | p :: q :: r => by
    show p ++ ([] ++ TL.joinL [] (q :: r)) = _
    rw [joinL_nil (q :: r)]; simp
theorem ln_tl {r : List Int} (h : ∀ i ∈ r, i = 0 ∨ i = 1) : TL.tl (ln r) = r.map fun i => 48 + i.toNat := by
  unfold ln
  rw [TL.join_eq, TL.tl_join, show TL.tl ("" : Str) = [] from by decide +kernel, joinL_nil, List.map_map]
  induction r with
  | nil => rfl
  | cons i r ih =>
    simp only [List.map_cons, List.flatten_cons, Function.comp]
    rw [dig_tl (h i (List.mem_cons_self ..))]
    have := ih fun j hj => h j (List.mem_cons_of_mem _ hj)
    simp only [Function.comp_def] at this ⊢
    rw [this]; rfl
theorem str_len (x : Str) : x.length = (TL.tl x).length := by simp [TL.tl, Str.length]
theorem ln_len {r : List Int} (h : ∀ i ∈ r, i = 0 ∨ i = 1) : (ln r).length = r.length := by rw [str_len, ln_tl h, List.length_map]
theorem strs_of : ∀ l : List Str, strsOf (l.map D.str) = some l
  | [] => rfl
  | x :: l => by simp [strsOf, strs_of l]
theorem join_ok {a : Str} {ys : List Str} {S : Store} (h : (ys.map (·.length)).sum + ys.length * a.length ≤ 16777216) : pJoin (.str a) [.lst (ys.map D.str)] S = some (.str (Txt.join a ys), S) := by
  simp only [pJoin, seqOf, lstOf, Option.bind_some, strs_of, h, if_true]
theorem sum_le {l : List Nat} {b : Nat} (h : ∀ x ∈ l, x ≤ b) : l.sum ≤ l.length * b := by
  induction l with
  | nil => simp
  | cons x l ih =>
    have h1 := h x (List.mem_cons_self ..)
    have h2 := ih fun y hy => h y (List.mem_cons_of_mem _ hy)
    simp only [List.sum_cons, List.length_cons, Nat.succ_mul]
    omega
theorem dig_len {i : Int} (h : i = 0 ∨ i = 1) : (dig i).length = 1 := by rw [str_len, dig_tl h]; rfl
theorem text_ev {cal : Nat → List D → M D} {h w : Nat} {R : Rw} {S : Store} (F : Full h w R) : funM 3 1 (b__law_text cal) [rowsL R] S = .ok (.str (txt R)) S := by
  unfold b__law_text
  have hR : (R.map fun r => D.lst (iD r)).length ≤ sizeLine := by rw [List.length_map, F.len]; exact small (by have := F.h2; omega)
  have one : ∀ r ∈ R, ∀ δ : En, δ.length = 3 → (eMB "str" pJoin (eC (.str "")) (aCons (eLc newL (iAny (eVar 2)) (uNm 1) tYesM (eCallV (pStrI (strT cal)) (aCons (eVar 1) aNil)) [1]) aNil)) (δ.set 2 (some (.lst (iD r)))) S = .ok (.str (ln r)) S := by
    intro r hr δ hd
    obtain ⟨g1, g2⟩ := F.g r hr
    obtain ⟨a, b, c, rfl⟩ : ∃ a b c, δ = [a, b, c] := by
      match δ, hd with
      | [a, b, c], _ => exact ⟨a, b, c, rfl⟩
    have hl : (iD r).length ≤ sizeLine := by rw [iD_len, g1]; exact small (by have := F.w2; omega)
    have e := lc_map (ds := iD r) (S := S) (me := eCallV (pStrI (strT cal)) (aCons (eVar 1) aNil)) (δ0 := wipeD [a, b, some (.lst (iD r))] [1]) (k := 1) (fun d => match d with
      | .int i => .str (dig i)
      | d => d) hl (fun d hd => by
        obtain ⟨i, hi, rfl⟩ := List.mem_map.mp hd
        refine eCallV_ok (aCons_ok rfl rfl) ?_
        rcases g2 i hi with rfl | rfl <;> rfl)
    have e2 : ((iD r).map fun d => match d with
      | .int i => D.str (dig i)
      | d => d) = (r.map dig).map D.str := by simp [iD]
    rw [e2] at e
    have hs : (((r.map dig).map (·.length)).sum + (r.map dig).length * ("" : Str).length ≤ 16777216) := by
      have h1 := sum_le (l := (r.map dig).map (·.length)) (b := 1) fun x hx => by
        obtain ⟨y, hy, rfl⟩ := List.mem_map.mp hx
        obtain ⟨i, hi, rfl⟩ := List.mem_map.mp hy
        rw [dig_len (g2 i hi)]
        exact Nat.le_refl _
      have h0 : ("" : Str).length = 0 := by decide +kernel
      rw [h0]
      simp only [List.length_map] at h1 ⊢
      have := F.w2
      omega
    exact eMB_ok rfl rfl (aCons_ok (eLc_ok (iAny_ok rfl rfl) e (newL_ev (by rw [List.length_map, List.length_map, g1]; exact small (by have := F.w2; omega)))) rfl) (join_ok hs)
  have e := lc_map (ds := R.map fun r => D.lst (iD r)) (S := S) (me := (eMB "str" pJoin (eC (.str "")) (aCons (eLc newL (iAny (eVar 2)) (uNm 1) tYesM (eCallV (pStrI (strT cal)) (aCons (eVar 1) aNil)) [1]) aNil))) (δ0 := wipeD [some (rowsL R), none, none] [2]) (k := 2) (fun d => match d with
    | .lst xs => .str (Txt.join "" (xs.map fun d => match d with
      | .int i => dig i
      | _ => Str.empty))
    | d => d) hR (fun d hd => by
      obtain ⟨r, hr, rfl⟩ := List.mem_map.mp hd
      rw [one r hr _ rfl]
      simp only [iD, List.map_map, ln]
      rfl)
  have e2 : ((R.map fun r => D.lst (iD r)).map fun d => match d with
    | .lst xs => D.str (Txt.join "" (xs.map fun d => match d with
      | .int i => dig i
      | _ => Str.empty))
    | d => d) = (R.map ln).map D.str := by
    simp only [List.map_map]
    refine List.map_congr_left fun r _ => ?_
    simp only [Function.comp, iD, List.map_map, ln]
    rfl
  rw [e2] at e
  have hs : (((R.map ln).map (·.length)).sum + (R.map ln).length * ("\n" : Str).length ≤ 16777216) := by
    have h1 := sum_le (l := (R.map ln).map (·.length)) (b := 8) fun x hx => by
      obtain ⟨y, hy, rfl⟩ := List.mem_map.mp hx
      obtain ⟨r, hr, rfl⟩ := List.mem_map.mp hy
      obtain ⟨g1, g2⟩ := F.g r hr
      rw [ln_len g2, g1]
      exact F.w2
    have h0 : ("\n" : Str).length = 1 := by decide +kernel
    rw [h0]
    simp only [List.length_map] at h1 ⊢
    have := F.h2
    have := F.len
    omega
  exact funM_rt rfl (sRet_ok (eMB_ok rfl rfl (aCons_ok (eLc_ok (iAny_ok rfl rfl) e (newL_ev (by rw [List.length_map, List.length_map, F.len]; exact small (by have := F.h2; omega)))) rfl) (join_ok hs)))
def colOf (R : Rw) (k : Nat) : List Int := R.map fun r => r.getD k 0
theorem zip_rows {h w : Nat} {R : Rw} (F : Full h w R) : pZip (R.map fun r => D.tup (iD r)) = some ((List.range w).map fun k => .tup (iD (colOf R k))) := by
  have fz : ∀ R : Rw, frzs (R.map fun r => D.tup (iD r)) = some (R.map iD) := by
    intro R
    induction R with
    | nil => rfl
    | cons r R ih => simp only [List.map_cons, frzs, frz, ih]
  obtain ⟨r0, R', e⟩ : ∃ r0 R', R = r0 :: R' := by
    cases R with
    | nil => have := F.len; have := F.h1; simp at *; omega
    | cons r R => exact ⟨r, R, rfl⟩
  have g := F.g
  have hl := F.len
  have hh := F.h2
  subst e
  unfold pZip
  rw [fz]
  simp only [List.map_cons]
  have w0 := (g r0 (List.mem_cons_self ..)).1
  have hc : (R'.map iD).length < 9 ∧ ∀ y ∈ R'.map iD, y.length = (iD r0).length := by
    refine ⟨by simp at hl ⊢; omega, fun y hy => ?_⟩
    obtain ⟨r, hr, rfl⟩ := List.mem_map.mp hy
    rw [iD_len, iD_len, w0, (g r (List.mem_cons_of_mem _ hr)).1]
  rw [if_pos hc]
  unfold zipD
  rw [iD_len, w0]
  refine congrArg some (List.map_congr_left fun k hk => ?_)
  have hk' : k < w := List.mem_range.mp hk
  have gd : ∀ r ∈ r0 :: R', (iD r).getD k .non = .int (r.getD k 0) := fun r hr => by
    have := (g r hr).1
    have h2 : k < r.length := by omega
    have h3 : k < (iD r).length := by rw [iD_len]; omega
    rw [List.getD_eq_getElem?_getD, List.getD_eq_getElem?_getD, List.getElem?_eq_getElem h2, List.getElem?_eq_getElem h3, iD_get]
    rfl
  refine congrArg D.tup ?_
  rw [← List.map_cons (f := iD), List.map_map]
  simp only [iD, colOf, List.map_map]
  exact List.map_congr_left fun r hr => gd r hr
theorem full_ev {cal : Nat → List D → M D} {h w : Nat} {R : Rw} {S : Store} (F : Full h w R) : funM 3 1 (b_is_full cal) [rowsT R] S = .ok (.bl true) S := by
  unfold b_is_full
  have hR : (R.map fun r => D.tup (iD r)).length ≤ sizeLine := by rw [List.length_map, F.len]; exact small (by have := F.h2; omega)
  have e1 := lc_map (ds := R.map fun r => D.tup (iD r)) (S := S) (me := eOp pIn (eC (.int 1)) (eVar 1)) (δ0 := wipeD [some (rowsT R), none, none] [1]) (k := 1) (fun _ => .bl true) hR (fun d hd => by
    obtain ⟨r, hr, rfl⟩ := List.mem_map.mp hd
    exact eOp_ok rfl rfl (by rw [in_tup, decide_eq_true (F.row r hr)]))
  have e2 := lc_map (ds := (List.range w).map fun k => D.tup (iD (colOf R k))) (S := S) (me := eOp pIn (eC (.int 1)) (eVar 2)) (δ0 := wipeD [some (rowsT R), none, none] [2]) (k := 2) (fun _ => .bl true) (by rw [List.length_map, List.length_range]; exact small (by have := F.w2; omega)) (fun d hd => by
    obtain ⟨k, hk, rfl⟩ := List.mem_map.mp hd
    refine eOp_ok rfl rfl ?_
    rw [in_tup, decide_eq_true]
    obtain ⟨r, hr, e⟩ := F.col k (List.mem_range.mp hk)
    refine List.mem_map.mpr ⟨r, hr, ?_⟩
    rw [List.getD_eq_getElem?_getD, e]; rfl)
  have tt : ∀ l : List D, (l.map fun _ => D.bl true) = ((l.map fun _ => true).map D.bl) := fun l => by rw [List.map_map]; rfl
  have al : ∀ l : List D, (l.map fun _ => true).all id = true := fun l => by simp
  rw [tt] at e1 e2
  have h0 : pGt (.int ((R.map fun r => D.tup (iD r)).length : Int)) (.int 0) S = some (.bl true, S) := by
    rw [pGt_ii, decide_eq_true]
    rw [List.length_map, F.len]
    have := F.h1
    omega
  refine funM_rt rfl (sRet_ok (eAnd_t (eOp_ok (eCallV_ok (aCons_ok rfl rfl) pLen_tup) rfl h0) rfl (eAnd_t (eCallV_ok (aCons_ok (eLc_ok (iAny_ok rfl rfl) e1 (newL_ev (by simpa using hR))) rfl) all_ok) (by rw [al]; rfl) (eCallV_ok (aCons_ok (eLc_ok (iZip_ok (aStar_ok rfl rfl rfl) (by rw [List.append_nil]; exact zip_rows F)) e2 (newL_ev (by simp only [List.length_map, List.length_range]; exact small (by have := F.w2; omega)))) rfl) (by rw [all_ok, al])))))
theorem nl_tl : TL.tl ("\n" : Str) = 10 :: [] := by decide +kernel
theorem split_txt {h w : Nat} {R : Rw} (F : Full h w R) : Txt.split (txt R) "\n" = R.map ln := by
  unfold txt
  refine TL.split_join nl_tl (by decide +kernel) (fun e => ?_) fun p hp => ?_
  · have := F.len; have := F.h1
    have e' := List.map_eq_nil_iff.mp e
    subst e'
    simp at *
    omega
  · obtain ⟨r, hr, rfl⟩ := List.mem_map.mp hp
    rw [ln_tl (F.g r hr).2]
    intro hm
    obtain ⟨i, hi, e⟩ := List.mem_map.mp hm
    omega
theorem txt_len {h w : Nat} {R : Rw} (F : Full h w R) : (txt R).length ≤ 72 := by
  unfold txt
  rw [TL.join_eq]
  refine Nat.le_trans (StrLaws.join_length_le _ _) ?_
  have h1 := sum_le (l := (R.map ln).map (·.length)) (b := 8) fun x hx => by
    obtain ⟨y, hy, rfl⟩ := List.mem_map.mp hx
    obtain ⟨r, hr, rfl⟩ := List.mem_map.mp hy
    obtain ⟨g1, g2⟩ := F.g r hr
    rw [ln_len g2, g1]
    exact F.w2
  have h0 : ("\n" : Str).length = 1 := by decide +kernel
  rw [h0]
  simp only [List.length_map] at h1 ⊢
  have := F.h2
  have := F.len
  omega
theorem signs_ln {r : List Int} (g : ∀ i ∈ r, i = 0 ∨ i = 1) : signs (ln r) = r.map fun i => D.str ⟨#[48 + i.toNat]⟩ := by
  have : signs (ln r) = (TL.tl (ln r)).map fun c => D.str ⟨#[c]⟩ := rfl
  rw [this, ln_tl g, List.map_map]
  rfl
theorem len_str {x : Str} {S : Store} (h : x.length ≤ sizeLine) : pLen [.str x] S = some (.int x.length, S) := by simp only [pLen, h, if_true]
theorem read_ev {cal : Nat → List D → M D} {h w : Nat} {R : Rw} {S : Store} (F : Full h w R) (h9 : cal 9 [rowsT R] S = .ok (.bl true) S) : funM 5 1 (b_read_rows cal) [.str (txt R)] S = .ok (rowsT R) S := by
  unfold b_read_rows
  have hlen : ((R.map ln).map D.str).length = h := by simp [F.len]
  have hL : ((R.map ln).map D.str).length ≤ sizeLine := by rw [hlen]; exact small (by have := F.h2; omega)
  obtain ⟨r0, R', eR⟩ : ∃ r0 R', R = r0 :: R' := by
    cases R with
    | nil => have := F.len; have := F.h1; simp at *; omega
    | cons r R => exact ⟨r, R, rfl⟩
  have hr0 : r0 ∈ R := by rw [eR]; exact List.mem_cons_self ..
  have w0 : ∀ r ∈ R, (ln r).length = w := fun r hr => by rw [ln_len (F.g r hr).2, (F.g r hr).1]
  have wl : ∀ r ∈ R, (ln r).length ≤ sizeLine := fun r hr => by rw [w0 r hr]; exact small (by have := F.w2; omega)
  have ix0 : ∀ S, pIx (.lst ((R.map ln).map D.str)) (.int 0) S = some (.str (ln r0), S) := fun S => by
    refine (pIx_lst (k := 0) (S := S) (xs := (R.map ln).map D.str) (by rw [hlen]; exact F.h1)).trans ?_
    subst eR
    rfl
  have sp : pSplit (.str (txt R)) [.str "\n"] S = some (.lst ((R.map ln).map D.str), S) := by
    have h1 : (("\n" : Str).length == 0) = false := by decide +kernel
    have h2 : (txt R).length + 2 ≤ sizeLine := small (by have := txt_len F; omega)
    simp only [pSplit, h1, h2, and_self, if_true, split_txt F, newL_ev hL]
  -- every line is as it should be
  have good : ∀ r ∈ R, ∀ a b c d : Option D, (eAnd (eOp pEq (eCallV (pLen) (aCons (eVar 3) aNil)) (eCallV (pLen) (aCons (eOp pIx (eVar 1) (eC (.int 0))) aNil))) (eCallV (pAll true) (aCons (eLc newL (iAny (eVar 3)) (uNm 2) tYesM (eOp pIn (eVar 2) (eC (.str "01"))) [2]) aNil))) [a, some (.lst ((R.map ln).map D.str)), b, some (.str (ln r)), d] S = .ok (.bl true) S := by
    intro r hr a b c d
    obtain ⟨g1, g2⟩ := F.g r hr
    have e := lc_map (ds := signs (ln r)) (S := S) (me := eOp pIn (eVar 2) (eC (.str "01"))) (δ0 := wipeD [a, some (.lst ((R.map ln).map D.str)), b, some (.str (ln r)), d] [2]) (k := 2) (fun _ => .bl true) (by rw [signs_ln g2, List.length_map, g1]; exact small (by have := F.w2; omega)) (fun x hx => by
      rw [signs_ln g2] at hx
      obtain ⟨i, hi, rfl⟩ := List.mem_map.mp hx
      refine eOp_ok rfl rfl ?_
      rcases g2 i hi with rfl | rfl <;> rfl)
    have tt : ∀ l : List D, (l.map fun _ => D.bl true) = ((l.map fun _ => true).map D.bl) := fun l => by rw [List.map_map]; rfl
    rw [tt] at e
    refine eAnd_t (eOp_ok (eCallV_ok (aCons_ok rfl rfl) (len_str (wl r hr))) (eCallV_ok (aCons_ok (eOp_ok rfl rfl (ix0 _)) rfl) (len_str (wl r0 hr0))) (by rw [pEq_ii])) ?_ (eCallV_ok (aCons_ok (eLc_ok (iAny_ok rfl rfl) e (newL_ev (by rw [List.length_map, List.length_map, signs_ln g2, List.length_map, g1]; exact small (by have := F.w2; omega)))) rfl) (by rw [all_ok]; simp))
    rw [w0 r hr, w0 r0 hr0]
    simp [truD]
  have e1 := lc_map (ds := (R.map ln).map D.str) (S := S) (me := (eAnd (eOp pEq (eCallV (pLen) (aCons (eVar 3) aNil)) (eCallV (pLen) (aCons (eOp pIx (eVar 1) (eC (.int 0))) aNil))) (eCallV (pAll true) (aCons (eLc newL (iAny (eVar 3)) (uNm 2) tYesM (eOp pIn (eVar 2) (eC (.str "01"))) [2]) aNil)))) (δ0 := wipeD [some (.str (txt R)), some (.lst ((R.map ln).map D.str)), none, none, none] [3]) (k := 3) (fun _ => .bl true) hL (fun x hx => by
    obtain ⟨y, hy, rfl⟩ := List.mem_map.mp hx
    obtain ⟨r, hr, rfl⟩ := List.mem_map.mp hy
    exact good r hr _ _ none _)
  have tt : ∀ l : List D, (l.map fun _ => D.bl true) = ((l.map fun _ => true).map D.bl) := fun l => by rw [List.map_map]; rfl
  rw [tt] at e1
  -- the numbers
  let toT : D → D := fun d => match d with
    | .str x => .tup ((TL.tl x).map fun (c : Nat) => .int ((c : Int) - 48))
    | d => d
  have nums : ∀ r ∈ R, toT (.str (ln r)) = .tup (iD r) := fun r hr => by
    obtain ⟨g1, g2⟩ := F.g r hr
    show D.tup ((TL.tl (ln r)).map fun (c : Nat) => .int ((c : Int) - 48)) = _
    rw [ln_tl g2, List.map_map]
    refine congrArg D.tup (List.map_congr_left fun i hi => ?_)
    rcases g2 i hi with rfl | rfl <;> rfl
  have e2 := lc_map (ds := (R.map ln).map D.str) (S := S) (me := (eCallV pTuple (aCons (eLc newL (iAny (eVar 3)) (uNm 2) tYesM (eCallV pInt (aCons (eVar 2) aNil)) [2]) aNil))) (δ0 := wipeD [some (.str (txt R)), some (.lst ((R.map ln).map D.str)), none, none, none] [3]) (k := 3) toT hL (fun x hx => by
    obtain ⟨y, hy, rfl⟩ := List.mem_map.mp hx
    obtain ⟨r, hr, rfl⟩ := List.mem_map.mp hy
    obtain ⟨g1, g2⟩ := F.g r hr
    rw [nums r hr]
    have e := lc_map (ds := signs (ln r)) (S := S) (me := eCallV pInt (aCons (eVar 2) aNil)) (δ0 := wipeD [some (.str (txt R)), some (.lst ((R.map ln).map D.str)), none, some (.str (ln r)), none] [2]) (k := 2) (fun d => match d with
      | .str x => .int (((TL.tl x).getD 0 0 : Nat) - 48)
      | d => d) (by rw [signs_ln g2, List.length_map, g1]; exact small (by have := F.w2; omega)) (fun x hx => by
        rw [signs_ln g2] at hx
        obtain ⟨i, hi, rfl⟩ := List.mem_map.mp hx
        refine eCallV_ok (aCons_ok rfl rfl) ?_
        rcases g2 i hi with rfl | rfl
        · have i0 : PySem.intText? ⟨#[48 + Int.toNat 0]⟩ = some 0 := by decide +kernel
          have l0 : (⟨#[48 + Int.toNat 0]⟩ : Str).length ≤ 640 := by decide +kernel
          simp only [pInt, l0, if_true, i0, Option.map_some]
          rfl
        · have i0 : PySem.intText? ⟨#[48 + Int.toNat 1]⟩ = some 1 := by decide +kernel
          have l0 : (⟨#[48 + Int.toNat 1]⟩ : Str).length ≤ 640 := by decide +kernel
          simp only [pInt, l0, if_true, i0, Option.map_some]
          rfl)
    have e3 : ((signs (ln r)).map fun d => match d with
      | .str x => D.int (((TL.tl x).getD 0 0 : Nat) - 48)
      | d => d) = iD r := by
      rw [signs_ln g2, List.map_map]
      refine List.map_congr_left fun i hi => ?_
      rcases g2 i hi with rfl | rfl <;> rfl
    rw [e3] at e
    have hw : (iD r).length ≤ sizeLine := by rw [iD_len, g1]; exact small (by have := F.w2; omega)
    exact eCallV_ok (aCons_ok (eLc_ok (iAny_ok rfl rfl) e (newL_ev hw)) rfl) (by simp only [pTuple, lstOf, Option.bind_some, newT_ev hw]))
  have e4 : ((R.map ln).map D.str).map toT = R.map fun r => .tup (iD r) := by
    rw [List.map_map, List.map_map]
    exact List.map_congr_left fun r hr => nums r hr
  rw [e4] at e2
  have hR : (R.map fun r => D.tup (iD r)).length ≤ sizeLine := by rw [List.length_map, F.len]; exact small (by have := F.h2; omega)
  have g8 : pGt (.int (((R.map ln).map D.str).length : Int)) (.int 8) S = some (.bl false, S) := by
    rw [pGt_ii, hlen, decide_eq_false (by have := F.h2; omega)]
  have c1 : pLe (.int 1) (.int ((ln r0).length : Int)) S = some (.bl true, S) := by rw [pLe_ii, w0 r0 hr0, decide_eq_true (by have := F.w1; omega)]
  have c2 : pLe (.int ((ln r0).length : Int)) (.int 8) S = some (.bl true, S) := by rw [pLe_ii, w0 r0 hr0, decide_eq_true (by have := F.w2; omega)]
  refine funM_rt rfl (sSeq_nx (sIf_f (tNot_ok (b := true) (tru_ok (eIsi_ok rfl rfl rfl) rfl)) rfl) (sSeq_nx (sAsg_ok (eMB_ok rfl rfl (aCons_ok rfl rfl) sp) rfl)
    (sSeq_nx (sIf_f (tOr_f (asB_ok (eOp_ok (eCallV_ok (aCons_ok rfl rfl) pLen_lst) rfl g8)) (tNot_ok (b := true) (asB_ok (eChain_t rfl (eCallV_ok (aCons_ok (eOp_ok rfl rfl (ix0 _)) rfl) (len_str (wl r0 hr0))) c1 rfl c2)))) rfl)
    (sSeq_nx (sIf_f (tNot_ok (b := true) (tru_ok (eCallV_ok (aCons_ok (eLc_ok (iAny_ok rfl rfl) e1 (newL_ev (by simpa using hL))) rfl) all_ok) (by rw [show ∀ l : List D, (l.map fun _ => true).all id = true from fun l => by simp]; rfl))) rfl)
    (sSeq_nx (sAsg_ok (eCallV_ok (aCons_ok (eLc_ok (iAny_ok rfl rfl) e2 (newL_ev hR)) rfl) (tuple_lst hR)) rfl)
    (sRet_ok (eIf_t (tru_ok (eCal_ok (aCons_ok rfl rfl) h9) rfl) rfl)))))))
def tabD (h w : Nat) (R : Rw) : D := .ins "Table" [("text", .str (txt R)), ("rows", rowsT R), ("height", .int h), ("width", .int w)]
theorem table_ev {cal : Nat → List D → M D} {h w : Nat} {R : Rw} {S : Store} (F : Full h w R) (h7 : cal 7 [.str (txt R)] S = .ok (rowsT R) S) : M.bind (initM 3 1 (b_Table cal) [.str (txt R)]) (fun fs => M.pure (.ins "Table" fs)) S = .ok (tabD h w R) S := by
  have key : initM 3 1 (b_Table cal) [.str (txt R)] S = .ok [("text", .str (txt R)), ("rows", rowsT R), ("height", .int h), ("width", .int w)] S := by
    unfold b_Table
    obtain ⟨r0, R', eR⟩ : ∃ r0 R', R = r0 :: R' := by
      cases R with
      | nil => have := F.len; have := F.h1; simp at *; omega
      | cons r R => exact ⟨r, R, rfl⟩
    have hr0 : r0 ∈ R := by rw [eR]; exact List.mem_cons_self ..
    have ix0 : pIx (rowsT R) (.int 0) S = some (.tup (iD r0), S) := by
      unfold rowsT
      refine (pIx_tup (k := 0) (S := S) (xs := R.map fun r => D.tup (iD r)) (by rw [List.length_map, F.len]; exact F.h1)).trans ?_
      subst eR
      rfl
    have l1 : pLen [rowsT R] S = some (.int h, S) := by
      unfold rowsT
      rw [pLen_tup, List.length_map, F.len]
    have l2 : pLen [.tup (iD r0)] S = some (.int w, S) := by rw [pLen_tup, iD_len, (F.g r0 hr0).1]
    exact initM_ok rfl (iOrd_nx (sAsg_ok (eCal_ok (aCons_ok rfl rfl) h7) rfl) (iOrd_nx (sIf_f (asB_ok (eOp_ok (x := rowsT R) rfl rfl rfl)) rfl) (iSets_ok (eTup_ok (aCons_ok rfl (aCons_ok (x := rowsT R) rfl rfl)) (small (by simp))) rfl rfl (iSets_ok (eTup_ok (aCons_ok (eCallV_ok (aCons_ok (x := rowsT R) rfl rfl) l1) (aCons_ok (eCallV_ok (aCons_ok (eOp_ok (x := rowsT R) rfl rfl ix0) rfl) l2) rfl)) (small (by simp))) rfl rfl rfl))))
  show M.bind _ _ S = _
  simp only [M.bind, key, M.pure]
  rfl
theorem check_table_ev {cal : Nat → List D → M D} {h w : Nat} {R : Rw} {S : Store} : funM 1 1 (b_check_table cal) [tabD h w R] S = .ok .non S := by
  unfold b_check_table
  rfl
end Sp
namespace Sp
open PySem L2 Ev Bd
def At (J : List D → Prop) (t : Nat) (S : Store) : Prop := ∃ c, S[t]? = some (some (.lst c)) ∧ J c
def Fr (t : Nat) (S S' : Store) : Prop := S.length ≤ S'.length ∧ ∀ j, j < S.length → j ≠ t → S'[j]? = S[j]?
section
variable {J : List D → Prop} {t j : Nat} {S S' S2 : Store} {x : Option Cell}
theorem At.lt (h : At J t S) : t < S.length := by
  obtain ⟨c, h1, _⟩ := h
  exact (List.getElem?_eq_some_iff.mp h1).1
theorem Fr.refl : Fr t S S := ⟨Nat.le_refl _, fun _ _ _ => rfl⟩
theorem Fr.trans (h : Fr t S S') (h2 : Fr t S' S2) : Fr t S S2 := ⟨Nat.le_trans h.1 h2.1, fun j hj hn => (h2.2 j (Nat.lt_of_lt_of_le hj h.1) hn).trans (h.2 j hj hn)⟩
theorem Fr.app {X : Store} : Fr t S (S ++ X) := ⟨by simp, fun j hj _ => List.getElem?_append_left hj⟩
theorem Fr.own : Fr t S (S.set t x) := ⟨by simp, fun j _ hn => List.getElem?_set_ne (Ne.symm hn)⟩
theorem Fr.new (h : S.length ≤ j) (h2 : Fr t S S') : Fr t S (S'.set j x) := ⟨by simpa using h2.1, fun i hi hn => by rw [List.getElem?_set_ne (by omega)]; exact h2.2 i hi hn⟩
theorem At.other (h : At J t S) (hj : t ≠ j) : At J t (S.set j x) := by
  obtain ⟨c, h1, h2⟩ := h
  exact ⟨c, by rw [List.getElem?_set_ne (Ne.symm hj)]; exact h1, h2⟩
theorem At.app {X : Store} (h : At J t S) : At J t (S ++ X) := by
  obtain ⟨c, h1, h2⟩ := h
  exact ⟨c, by rw [List.getElem?_append_left (List.getElem?_eq_some_iff.mp h1).1]; exact h1, h2⟩
end
/-- a number from 0 to m - 1 is drawn -/
structure Drw (J : List D → Prop) (dr : List D → M D) : Prop where
  go : ∀ (t : Nat) (S : Store) (m : Int), At J t S → 0 < m → m < 1073741824 → ∃ f S', dr [.ref t, .int m] S = .ok (.int f) S' ∧ 0 ≤ f ∧ f < m ∧ At J t S' ∧ Fr t S S' ∧ S'.length = S.length
def ReedJ (c : List D) : Prop := ∃ a b : Int, c = [.int a, .int b] ∧ 0 ≤ b
theorem set_get {S : Store} {t : Nat} {c c' : Cell} (h : S[t]? = some (some c)) : (S.set t (some c'))[t]? = some (some c') := by
  rw [List.getElem?_set_self (List.getElem?_eq_some_iff.mp h).1]
theorem store_ref {S : Store} {t k : Nat} {xs : List D} {v : D} (hS : S[t]? = some (some (.lst xs))) (hk : k < xs.length) : pStore (.ref t) (.int k) v S = some (S.set t (some (.lst (xs.set k v)))) := by
  have h0 : (0 : Int) ≤ k := by omega
  have h1 : (k : Int) < (xs.length : Int) := by omega
  simp only [pStore, hS, ixN, h0, h1, if_true, Option.map_some, Int.toNat_natCast]
theorem dip_drw {cal : Nat → List D → M D} : Drw ReedJ (funM 3 2 (b__law_dip cal)) := ⟨fun t S m h hm hm2 => by
  obtain ⟨_, hS, a, b, rfl, hb⟩ := h
  unfold b__law_dip
  by_cases h : 0 < b
  · have g1 := store_ref (v := .int (b / m)) (k := 1) hS (by simp)
    refine ⟨b % m, _, ?_, Int.emod_nonneg _ (by omega), Int.emod_lt_of_pos _ hm, ⟨[.int a, .int (b / m)], set_get hS, a, b / m, rfl, Int.ediv_nonneg hb (by omega)⟩, Fr.own, by simp⟩
    refine funM_rt rfl (sSeq_rt (sIf_t (asB_ok (eOp_ok (eOp_ok rfl rfl (pIx_ref (k := 1) hS (by simp))) rfl ?_)) (sSeq_nx (sAsg_ok (eCallV_ok (aCons_ok (eOp_ok rfl rfl (pIx_ref (k := 1) hS (by simp))) (aCons_ok rfl rfl)) (z := .tup [.int (b / m), .int (b % m)]) (S2 := S) ?_) (gTp2_ok (gSb_ok rfl rfl g1) rfl)) (sRet_ok rfl))))
    · simp only [List.getElem_cons_succ, List.getElem_cons_zero]; rw [pGt_ii, decide_eq_true h]
    · simp only [List.getElem_cons_succ, List.getElem_cons_zero, pDivmod, hm, hm2, and_self, if_true]
  · have h0 : b = 0 := by omega
    subst h0
    have g0 := store_ref (v := .int ((a * 40093 + 6101) % 2147482277)) (k := 0) hS (by simp)
    have g1 := set_get (c' := .lst [.int ((a * 40093 + 6101) % 2147482277), .int 0]) hS
    refine ⟨((a * 40093 + 6101) % 2147482277 / 256) % m, _, ?_, Int.emod_nonneg _ (by omega), Int.emod_lt_of_pos _ hm, ⟨_, g1, _, 0, rfl, Int.le_refl _⟩, Fr.own, by simp⟩
    refine funM_rt rfl (sSeq_nx (sIf_f (asB_ok (eOp_ok (eOp_ok rfl rfl (pIx_ref (k := 1) hS (by simp))) rfl rfl)) rfl)
      (sSeq_nx (sAsg_ok (eOp_ok (eCallV_ok (aCons_ok (eOp_ok (eOp_ok (eOp_ok rfl rfl (pIx_ref (k := 0) hS (by simp))) rfl (pMul_ii (mul_r (by omega) (by omega)))) rfl pAdd_ii) rfl) pInt_i) rfl (pMod_ii (by omega))) (gSb_ok rfl rfl g0))
      (sRet_ok (eOp_ok (eCallV_ok (aCons_ok (eOp_ok (eOp_ok rfl rfl (pIx_ref (k := 0) g1 (by simp))) rfl (pFdiv_ii (by omega) (by omega))) rfl) pInt_i) rfl (pMod_ii hm)))))⟩
theorem frzDs_id {n : Nat} {S : Store} : ∀ {ds : List D}, (∀ x ∈ ds, ∀ S, frzD n x S = some (x, S)) → frzDs n ds S = some (ds, S)
  | [], _ => by simp [frzDs]
  | d :: ds, h => by
    rw [frzDs, h d (List.mem_cons_self ..)]
    simp only [Option.bind_some, frzDs_id (ds := ds) fun x hx => h x (List.mem_cons_of_mem _ hx), Option.map_some]
theorem frz_int {n : Nat} {S : Store} {i : Int} : frzD n (.int i) S = some (.int i, S) := by cases n <;> simp only [frzD]
theorem frz_ints {n : Nat} {S : Store} {r : List Int} : frzDs n (iD r) S = some (iD r, S) := frzDs_id fun x hx S => by
  obtain ⟨i, _, rfl⟩ := List.mem_map.mp hx
  exact frz_int
def mixedT (dr : List D → M D) : MS :=
    (sSeq (sPar2 2 3 (aCons (eCallV (pList newC) (aCons (eVar 1) aNil)) (aCons (eLstC aNil) aNil)))
    (sSeq (sFor (iR1 (aCons (eCallV (pLen) (aCons (eVar 1) aNil)) aNil)) (gNm 4) (sExpr (eMB "list" pAppend (eVar 3) (aCons (eMB "list" pPop (eVar 2) (aCons (eCal dr (aCons (eVar 0) (aCons (eCallV (pLen) (aCons (eVar 2) aNil)) aNil))) aNil)) aNil))))
    (sRet (eFrz (eVar 3)))))
theorem pop_ref {S : Store} {n k : Nat} {xs : List D} (h : S[n]? = some (some (.lst xs))) (hk : k < xs.length) (hl : xs.length ≤ 1000000) : pPop (.ref n) [.int k] S = some (xs[k], S.set n (some (.lst (xs.eraseIdx k)))) := by
  have h0 : (0 : Int) ≤ k := by omega
  have h1 : (k : Int) < xs.length := by omega
  have h2 : (k : Int) < 2 ^ 63 := by omega
  simp only [pPop, h, h0, h1, h2, and_self, if_true, Int.toNat_natCast, List.getElem?_eq_getElem hk, Option.map_some]
theorem app_ref {S : Store} {n : Nat} {xs : List D} {y : D} (h : S[n]? = some (some (.lst xs))) (hl : xs.length < sizeLine) : pAppend (.ref n) [y] S = some (.non, S.set n (some (.lst (xs ++ [y])))) := by
  simp only [pAppend, h, hl, if_true]
theorem ty_ref {S : Store} {n : Nat} {xs : List D} (h : S[n]? = some (some (.lst xs))) : tyD "list" S (.ref n) = true := by
  simp [tyD, lstOf, h]
theorem erase_perm {α : Type} : ∀ {l : List α} {k : Nat} (h : k < l.length), (l[k] :: l.eraseIdx k).Perm l
  | a :: l, 0, _ => by simp
  | a :: l, k + 1, h => by
    have h' : k < l.length := by simpa using h
    have := erase_perm h'
    simp only [List.getElem_cons_succ, List.eraseIdx_cons_succ]
    exact (List.Perm.swap ..).trans (this.cons a)
theorem mixed_gen {J : List D → Prop} {dr : List D → M D} (hd : Drw J dr) {xs : List D} {S : Store} {t : Nat} (hat : At J t S) (hn : xs.length ≤ 1000) (hp : ∀ x ∈ xs, ∀ S, frzD 3 x S = some (x, S)) :
    ∃ ys S', funM 5 2 (mixedT dr) [.ref t, .lst xs] S = .ok (.lst ys) S' ∧ ys.Perm xs ∧ At J t S' ∧ Fr t S S' := by
  have hts := hat.lt
  obtain ⟨δ2, S2, e2, ⟨o, rfl⟩, left, found, q1, q2, q3, q4, q5, q6, q7⟩ := loop_inv (mg := gNm 4) (mb := (sExpr (eMB "list" pAppend (eVar 3) (aCons (eMB "list" pPop (eVar 2) (aCons (eCal dr (aCons (eVar 0) (aCons (eCallV (pLen) (aCons (eVar 2) aNil)) aNil))) aNil)) aNil))))
    (ds := rngD 0 xs.length) (δ := [some (.ref t), some (.lst xs), some (.ref S.length), some (.ref (S.length + 1)), none]) (S := S ++ [some (.lst xs)] ++ [some (.lst [])])
    (fun k δ S' => (∃ o, δ = ([some (.ref t), some (.lst xs), some (.ref S.length), some (.ref (S.length + 1)), o] : En)) ∧ ∃ left found : List D, S'[S.length]? = some (some (.lst left)) ∧ S'[S.length + 1]? = some (some (.lst found)) ∧ left.length + k = xs.length ∧ found.length = k ∧ (found ++ left).Perm xs ∧ At J t S' ∧ Fr t S S') (by
      rintro k δ S' hk ⟨⟨o, rfl⟩, left, found, r1, r2, r3, r4, r5, r6, r7⟩
      rw [rng_get]
      rw [rng_len] at hk
      refine ⟨_, _, rfl, ?_⟩
      obtain ⟨f, S3, e3, f0, f1, a3, fr3, l3⟩ := hd.go t S' (left.length : Int) r6 (by omega) (by omega)
      obtain ⟨f, rfl⟩ := Int.eq_ofNat_of_zero_le f0
      have hf : f < left.length := by omega
      have g1 : S3[S.length]? = some (some (.lst left)) := by rw [fr3.2 _ (List.getElem?_eq_some_iff.mp r1).1 (by omega)]; exact r1
      have g2 : S3[S.length + 1]? = some (some (.lst found)) := by rw [fr3.2 _ (List.getElem?_eq_some_iff.mp r2).1 (by omega)]; exact r2
      have g3 : (S3.set S.length (some (.lst (left.eraseIdx f))))[S.length + 1]? = some (some (.lst found)) := by rw [List.getElem?_set_ne (by omega)]; exact g2
      refine ⟨_, _, sExpr_ok (eMB_ok rfl (ty_ref r2) (aCons_ok (eMB_ok rfl (ty_ref r1) (aCons_ok (eCal_ok (aCons_ok rfl (aCons_ok (eCallV_ok (aCons_ok rfl rfl) (pLen_ref r1)) rfl)) e3) rfl) (pop_ref g1 hf (by omega))) rfl) (app_ref g3 (Nat.lt_of_lt_of_le (show found.length < 1000000 by omega) (small (Nat.le_refl _))))), ⟨_, rfl⟩, left.eraseIdx f, found ++ [left[f]], ?_, ?_, ?_, by simp [r4], ?_, ?_, ?_⟩
      · rw [List.getElem?_set_ne (by omega)]; exact set_get g1
      · exact set_get g3
      · rw [List.length_eraseIdx, if_pos hf]; omega
      · refine List.Perm.trans ?_ r5
        rw [List.append_assoc]
        refine List.Perm.append_left _ ?_
        exact erase_perm hf
      · exact (a3.other (by omega)).other (by omega)
      · exact Fr.new (by omega) (Fr.new (Nat.le_refl _) (r7.trans fr3))) ⟨⟨none, rfl⟩, xs, [], by simp, by simp, by simp, rfl, by simp, hat.app.app, Fr.app.trans Fr.app⟩
  rw [rng_len] at q3 q4
  have hl : left = [] := List.length_eq_zero_iff.mp (by omega)
  subst hl
  rw [List.append_nil] at q5
  have hfz : frzDs 3 found (S2.set (S.length + 1) none) = some (found, S2.set (S.length + 1) none) := frzDs_id fun x hx S => hp x (q5.mem_iff.mp hx) S
  refine ⟨found, S2.set (S.length + 1) none, ?_, q5, q6.other (by omega), Fr.new (by omega) q7⟩
  unfold mixedT
  have hl1 : (S ++ [some (Cell.lst xs)]).length = S.length + 1 := by simp
  have c1 : eCallV (pList newC) (aCons (eVar 1) aNil) [some (.ref t), some (.lst xs), none, none, none] S = .ok (.ref S.length) (S ++ [some (.lst xs)]) := eCallV_ok (aCons_ok rfl rfl) (by simp only [pList, seqOf, lstOf, Option.bind_some, newC_ev (small (show xs.length ≤ 1000000 by omega))])
  have c2 : eLstC aNil [some (.ref t), some (.lst xs), none, none, none] (S ++ [some (.lst xs)]) = .ok (.ref (S.length + 1)) (S ++ [some (.lst xs)] ++ [some (.lst [])]) := by rw [eLstC_ok rfl (Nat.zero_le _), hl1]
  have c3 : frzD 4 (.ref (S.length + 1)) S2 = some (.lst found, S2.set (S.length + 1) none) := by simp only [frzD, q2, hfz, Option.map_some]
  exact funM_rt rfl (sSeq_nx (sPar2_ok (aCons_ok c1 (aCons_ok c2 rfl))) (sSeq_nx (sFor_ok (iR1_ok (k := xs.length) (aCons_ok (eCallV_ok (aCons_ok rfl rfl) pLen_lst) rfl) (by omega)) e2) (sRet_ok (eFrz_ok rfl c3))))
end Sp
namespace Sp
open PySem L2 Ev Bd
def Cells (s : Nat) (R : Rw) (S : Store) : Prop := ∀ (i : Nat) (r : List Int), R[i]? = some r → S[s + i]? = some (some (.lst (iD r)))
def refs (s n : Nat) : List D := (List.range' s n).map D.ref
theorem refs_len {s n : Nat} : (refs s n).length = n := by simp [refs]
theorem refs_get {s n i : Nat} (h : i < (refs s n).length) : (refs s n)[i] = .ref (s + i) := by simp [refs]
theorem refs_snoc {s n : Nat} : refs s (n + 1) = refs s n ++ [.ref (s + n)] := by simp [refs, List.range'_concat]
section
variable {J : List D → Prop} {t s j k w : Nat} {S S' : Store} {R : Rw} {r : List Int}
theorem Cells.fr (h : Cells s R S) (hf : Fr t S S') (ht : t < s) : Cells s R S' := fun i r e => by
  have h1 := h i r e
  rw [hf.2 _ (List.getElem?_eq_some_iff.mp h1).1 (by omega)]; exact h1
theorem Cells.put {i : Nat} {r' : List Int} (h : Cells s R S) (hi : R[i]? = some r) : Cells s (R.set i r') (S.set (s + i) (some (.lst (iD r')))) := fun j q e => by
  by_cases hj : i = j
  · subst hj
    rw [List.getElem?_set_self (List.getElem?_eq_some_iff.mp hi).1] at e
    cases e
    exact set_get (h i r hi)
  · rw [List.getElem?_set_ne hj] at e
    rw [List.getElem?_set_ne (by omega)]
    exact h j q e
theorem toPS_ref (h : S[j]? = some (some (.lst (iD r)))) : toPS S (.ref j) = some (.list (r.map PyData.int)) := by
  simp [toPS, plstOf, h, toPs_ints]
theorem notin_ref (h : S[j]? = some (some (.lst (iD r)))) : pNotIn (.int 1) (.ref j) S = some (.bl (!decide ((1 : Int) ∈ r)), S) := by
  simp only [pNotIn, inD, toPS_ref h]
  simp only [toPS, PyData.depth, Nat.zero_le, if_true, any_one, Option.map_some]
theorem any_int (r : List Int) (x : Int) : ((r.map PyData.int).any fun b => PyData.eqv b (.int x)) = decide (x ∈ r) := by
  induction r with
  | nil => rfl
  | cons i r ih =>
    simp only [List.map_cons, List.any_cons, ih, PyData.eqv]
    by_cases h : i = x
    · subst h; simp
    · have : (x ∈ i :: r) ↔ x ∈ r := by simp; exact fun e => absurd e.symm h
      simp [h, this]
theorem in_lI {x : Int} : pIn (.int x) (lI r) S = some (.bl (decide (x ∈ r)), S) := by
  simp only [pIn, inD, toPS, toPSs_ints, Option.map_some, PyData.depth, Nat.zero_le, if_true, any_int]
theorem notin_lI {x : Int} : pNotIn (.int x) (lI r) S = some (.bl (!decide (x ∈ r)), S) := by
  simp only [pNotIn, inD, toPS, toPSs_ints, Option.map_some, PyData.depth, Nat.zero_le, if_true, any_int]
theorem in_tI {x : Int} : pIn (.int x) (tI r) S = some (.bl (decide (x ∈ r)), S) := by
  simp only [pIn, inD, toPS, toPSs_ints, Option.map_some, PyData.depth, Nat.zero_le, if_true, any_int]
theorem notin_tI {x : Int} : pNotIn (.int x) (tI r) S = some (.bl (!decide (x ∈ r)), S) := by
  simp only [pNotIn, inD, toPS, toPSs_ints, Option.map_some, PyData.depth, Nat.zero_le, if_true, any_int]
theorem store_row {v : Int} (h : S[j]? = some (some (.lst (iD r)))) (hk : k < r.length) : pStore (.ref j) (.int k) (.int v) S = some (S.set j (some (.lst (iD (r.set k v))))) := by
  rw [store_ref h (by rw [iD_len]; exact hk)]
  simp [iD]
theorem g01_set {i : Nat} {v : Int} (hv : v = 0 ∨ v = 1) (h : G01 w R) (hi : R[i]? = some r) : G01 w (R.set i (r.set k v)) := fun q hq => by
  rcases List.mem_or_eq_of_mem_set hq with hq | rfl
  · exact h q hq
  · have hr := h r (List.mem_of_getElem? hi)
    refine ⟨by simp [hr.1], fun z hz => ?_⟩
    rcases List.mem_or_eq_of_mem_set hz with hz | rfl
    · exact hr.2 z hz
    · exact hv
theorem frz_refs : ∀ (R : Rw) (s : Nat) (S : Store), Cells s R S → ∃ S', frzDs 3 (refs s R.length) S = some (R.map lI, S') ∧ S'.length = S.length ∧ ∀ j, j < s → S'[j]? = S[j]?
  | [], s, S, _ => ⟨S, by simp [refs, frzDs], rfl, fun _ _ => rfl⟩
  | r :: R, s, S, h => by
    have h0 := h 0 r rfl
    have hR : Cells (s + 1) R (S.set s none) := fun i q e => by
      rw [List.getElem?_set_ne (by omega), show s + 1 + i = s + (i + 1) by omega]
      exact h (i + 1) q (by simpa using e)
    obtain ⟨S', e, l, k⟩ := frz_refs R (s + 1) (S.set s none) hR
    refine ⟨S', ?_, by simpa using l, fun j hj => by rw [k j (by omega), List.getElem?_set_ne (by omega)]⟩
    have er : refs s (r :: R).length = .ref s :: refs (s + 1) R.length := by simp [refs, List.range'_succ]
    rw [er, frzDs]
    have e1 : frzD 3 (.ref s) S = some (.lst (iD r), S.set s none) := by
      simp only [frzD, show S[s]? = some (some (.lst (iD r))) from h0, frz_ints, Option.map_some]
    rw [e1]
    simp only [Option.bind_some, e, Option.map_some, List.map_cons]
theorem frz_rows (h : Cells s R S) : ∃ S', frzD 4 (.lst (refs s R.length)) S = some (rowsL R, S') ∧ S'.length = S.length ∧ ∀ j, j < s → S'[j]? = S[j]? := by
  obtain ⟨S', e, l, k⟩ := frz_refs R s S h
  exact ⟨S', by simp only [frzD, e, Option.map_some], l, k⟩
end
theorem ix_ref {S : Store} {j k : Nat} {r : List Int} (h : S[j]? = some (some (.lst (iD r)))) (hk : k < r.length) : pIx (.ref j) (.int k) S = some (.int (r.getD k 0), S) := by
  rw [pIx_ref (k := k) h (by rw [iD_len]; exact hk)]
  simp only [iD, List.getElem_map, List.getD_eq_getElem?_getD, List.getElem?_eq_getElem hk, Option.getD_some]
theorem getD_row {R : Rw} {i : Nat} {r : List Int} (hr : R[i]? = some r) : R.getD i [] = r := by rw [List.getD_eq_getElem?_getD, hr]; rfl
/-- the grid of cells at s -/
structure Gr (J : List D → Prop) (t : Nat) (S0 : Store) (s h w : Nat) (R : Rw) (S : Store) : Prop where
  len : R.length = h
  g : G01 w R
  c : Cells s R S
  a : At J t S
  f : Fr t S0 S
theorem rows_at {J : List D → Prop} {t s h w : Nat} {S0 S : Store} {R : Rw} (G : Gr J t S0 s h w R S) {i : Nat} (hi : i < h) : ∃ r, R[i]? = some r ∧ S[s + i]? = some (some (.lst (iD r))) ∧ r.length = w := by
  have hjR : i < R.length := by rw [G.len]; exact hi
  exact ⟨R[i], List.getElem?_eq_getElem hjR, G.c i _ (List.getElem?_eq_getElem hjR), (G.g _ (List.getElem_mem hjR)).1⟩
theorem any_ev {J : List D → Prop} {cal : Nat → List D → M D} (hd : Drw J (cal 60)) {t h w : Nat} {S : Store} (ht : At J t S) (h1 : 0 < h) (h2 : h ≤ 8) (w1 : 0 < w) (w2 : w ≤ 8) :
    ∃ R S', funM 8 3 (b__law_any cal) [.ref t, .int h, .int w] S = .ok (.lst (refs S.length h)) S' ∧ Gr J t S S.length h w R S' := by
  have hts := ht.lt
  obtain ⟨f, S1, e1, f0, f1, a1, fr1, l1⟩ := hd.go t S 4 ht (by omega) (by omega)
  -- one row
  have line : ∀ (δ : En) (S2 : Store), δ[0]? = some (some (.ref t)) → δ[3]? = some (some (.int (2 + f))) → δ.length = 8 → At J t S2 → ∃ r S', loopC (uNm 5) tYesM (eCallV pInt (aCons (eOp pEq (eCal (cal 60) (aCons (eVar 0) (aCons (eVar 3) aNil))) (eC (.int 0))) aNil)) δ (rngD 0 w) [] S2 = .ok (iD r) S' ∧ At J t S' ∧ Fr t S2 S' ∧ S'.length = S2.length ∧ r.length = w ∧ ∀ i ∈ r, i = 0 ∨ i = 1 := by
    intro δ S2 d0 d3 dl hS
    obtain ⟨ys, S', e, r, rfl, p1, p2, p3, p4, p5⟩ := lc_inv (up := uNm 5) (mt := tYesM) (me := eCallV pInt (aCons (eOp pEq (eCal (cal 60) (aCons (eVar 0) (aCons (eVar 3) aNil))) (eC (.int 0))) aNil)) (δ0 := δ) (ds := rngD 0 w) (S := S2)
      (fun k acc S' => ∃ r, acc = iD r ∧ At J t S' ∧ Fr t S2 S' ∧ S'.length = S2.length ∧ r.length = k ∧ ∀ i ∈ r, i = 0 ∨ i = 1) (by
        rintro k acc S' hk ⟨r, rfl, r1, r2, r3, r4, r5⟩
        rw [rng_len] at hk
        obtain ⟨g, S3, eg, g0, g1, ag, frg, lg⟩ := hd.go t S' (2 + f) r1 (by omega) (by omega)
        have v0 : ∀ S', eVar 0 (δ.set 5 (some (rngD 0 w)[k])) S' = .ok (.ref t) S' := fun S' => eVarR (by rw [List.getElem?_set_ne (show 5 ≠ 0 by decide)]; exact d0) (by intro z; cases z)
        have v3 : ∀ S', eVar 3 (δ.set 5 (some (rngD 0 w)[k])) S' = .ok (.int (2 + f)) S' := fun S' => eVarR (by rw [List.getElem?_set_ne (show 5 ≠ 3 by decide)]; exact d3) (by intro z; cases z)
        refine ⟨[(5, (rngD 0 w)[k])], rfl, .inr ⟨S', rfl, _, _, eCallV_ok (aCons_ok (eOp_ok (eCal_ok (aCons_ok (v0 _) (aCons_ok (v3 _) rfl)) eg) rfl pEq_ii) rfl) pInt_b, ?_, r ++ [if (g == 0) = true then 1 else 0], by rw [iD_app]; rfl, ag, r2.trans frg, by rw [lg, r3], by simp [r4], fun i hi => ?_⟩⟩
        · rw [iD_len, r4]; exact Nat.lt_of_lt_of_le (show k < 1000000 by omega) (small (Nat.le_refl _))
        · rcases List.mem_append.mp hi with hi | hi
          · exact r5 i hi
          · rw [List.mem_singleton.mp hi]
            split <;> simp) ⟨[], rfl, hS, Fr.refl, rfl, rfl, fun i hi => by simp at hi⟩
    rw [rng_len] at p4
    exact ⟨r, S', e, p1, p2, p3, p4, p5⟩
  obtain ⟨ys, S2, e2, R0, rfl, len2, G2⟩ := lc_inv (up := uNm 6) (mt := tYesM) (me := eLc newC (iR1 (aCons (eVar 2) aNil)) (uNm 5) tYesM (eCallV pInt (aCons (eOp pEq (eCal (cal 60) (aCons (eVar 0) (aCons (eVar 3) aNil))) (eC (.int 0))) aNil)) [5])
    (δ0 := wipeD [some (.ref t), some (.int h), some (.int w), some (.int (2 + f)), none, none, none, none] [6]) (ds := rngD 0 h) (S := S1)
    (fun k acc S' => ∃ R : Rw, acc = refs S.length k ∧ S'.length = S.length + k ∧ Gr J t S S.length k w R S') (by
      rintro k acc S' hk ⟨R, rfl, ls, G⟩
      rw [rng_len] at hk
      obtain ⟨r, S3, e3, t3, f3, ll3, l3, g3⟩ := line (wipeD (([some (.ref t), some (.int h), some (.int w), some (.int (2 + f)), none, none, none, none] : En).set 6 (some (rngD 0 h)[k])) [5]) S' rfl rfl rfl G.a
      have hc := newC_ev (S := S3) (xs := iD r) (by rw [iD_len, l3]; exact small (by omega))
      refine ⟨[(6, (rngD 0 h)[k])], rfl, .inr ⟨S', rfl, _, _, eLc_ok (iR1_ok (k := w) (aCons_ok rfl rfl) (by omega)) e3 hc, ?_, R ++ [r], ?_, by simp [ll3, ls]; omega, ⟨by simp [G.len], fun q hq => ?_, fun i q e => ?_, t3.app, (G.f.trans f3).trans Fr.app⟩⟩⟩
      · rw [refs_len]; exact Nat.lt_of_lt_of_le (show k < 1000000 by omega) (small (Nat.le_refl _))
      · rw [refs_snoc, ll3, ls]
      · rcases List.mem_append.mp hq with hq | hq
        · exact G.g q hq
        · rw [List.mem_singleton.mp hq]; exact ⟨l3, g3⟩
      · by_cases hi : i < R.length
        · rw [List.getElem?_append_left hi] at e
          have h5 := (G.c.fr f3 hts) i q e
          rw [List.getElem?_append_left (List.getElem?_eq_some_iff.mp h5).1]; exact h5
        · have hi' : i = R.length := by
            have := (List.getElem?_eq_some_iff.mp e).1
            simp at this; omega
          subst hi'
          simp at e
          subst e
          rw [show S.length + R.length = S3.length by rw [ll3, ls, G.len]]
          simp) ⟨[], rfl, l1, ⟨rfl, fun q hq => by simp at hq, fun i q e => by simp at e, a1, fr1⟩⟩
  rw [rng_len] at len2 G2
  rw [rng_len] at e2
  -- the rows
  obtain ⟨δ3, S3, e3, ⟨o5, o6, rfl⟩, R1, G3⟩ := loop_inv (mg := gNm 6) (mb := (sIf (fun δ => asB (eOp pNotIn (eC (.int 1)) (eOp pIx (eVar 4) (eVar 6)) δ)) (sAsg (eC (.int 1)) (gSb pStore (eOp pIx (eVar 4) (eVar 6)) (eCal (cal 60) (aCons (eVar 0) (aCons (eVar 2) aNil))))) sNext))
    (ds := rngD 0 h) (δ := [some (.ref t), some (.int h), some (.int w), some (.int (2 + f)), some (.lst (refs S.length h)), none, none, none]) (S := S2)
    (fun k δ S' => (∃ o5 o6, δ = ([some (.ref t), some (.int h), some (.int w), some (.int (2 + f)), some (.lst (refs S.length h)), o5, o6, none] : En)) ∧ ∃ R : Rw, Gr J t S S.length h w R S') (by
      rintro k δ S' hk ⟨⟨o5, o6, rfl⟩, R, G⟩
      rw [rng_get]
      rw [rng_len] at hk
      obtain ⟨r, hr, hc, hw⟩ := rows_at G hk
      have ix : ∀ S', pIx (.lst (refs S.length h)) (.int k) S' = some (.ref (S.length + k), S') := fun S' => by rw [pIx_lst (by rw [refs_len]; exact hk), refs_get]
      refine ⟨_, _, rfl, ?_⟩
      by_cases h : (1 : Int) ∈ r
      · exact ⟨_, S', sIf_f (asB_ok (eOp_ok rfl (eOp_ok rfl rfl (ix _)) (by rw [notin_ref hc, decide_eq_true h]; rfl))) rfl, ⟨_, _, rfl⟩, R, G⟩
      · obtain ⟨f, S4, ef, f0, f1, a4, fr4, l4⟩ := hd.go t S' (w : Int) G.a (by omega) (by omega)
        obtain ⟨f, rfl⟩ := Int.eq_ofNat_of_zero_le f0
        have c4 := G.c.fr fr4 hts
        have hst := store_row (k := f) (v := 1) (c4 k r hr) (by omega)
        exact ⟨_, _, sIf_t (asB_ok (eOp_ok rfl (eOp_ok rfl rfl (ix _)) (by rw [notin_ref hc, decide_eq_false h]; rfl))) (sAsg_ok rfl (gSb_ok (eOp_ok rfl rfl (ix _)) (eCal_ok (aCons_ok rfl (aCons_ok rfl rfl)) ef) hst)), ⟨_, _, rfl⟩, R.set k (r.set f 1), ⟨by simp [G.len], g01_set (.inr rfl) G.g hr, c4.put hr, a4.other (by omega), Fr.new (by omega) (G.f.trans fr4)⟩⟩) ⟨⟨none, none, rfl⟩, R0, G2⟩
  -- the columns
  obtain ⟨δ4, S4, e4, ⟨o7, rfl⟩, R2, G4⟩ := loop_inv (mg := gNm 5) (mb := (sIf (fun δ => asB (eOp pNotIn (eC (.int 1)) (eLc newL (iAny (eVar 4)) (uNm 7) tYesM (eOp pIx (eVar 7) (eVar 5)) [7]) δ)) (sAsg (eC (.int 1)) (gSb pStore (eOp pIx (eVar 4) (eCal (cal 60) (aCons (eVar 0) (aCons (eVar 1) aNil)))) (eVar 5))) sNext))
    (ds := rngD 0 w) (δ := [some (.ref t), some (.int h), some (.int w), some (.int (2 + f)), some (.lst (refs S.length h)), o5, o6, none]) (S := S3)
    (fun k δ S' => (∃ o5, δ = ([some (.ref t), some (.int h), some (.int w), some (.int (2 + f)), some (.lst (refs S.length h)), o5, o6, none] : En)) ∧ ∃ R : Rw, Gr J t S S.length h w R S') (by
      rintro k δ S' hk ⟨⟨o5, rfl⟩, R, G⟩
      rw [rng_get]
      rw [rng_len] at hk
      refine ⟨_, _, rfl, ?_⟩
      have col : loopC (uNm 7) tYesM (eOp pIx (eVar 7) (eVar 5)) (wipeD [some (.ref t), some (.int h), some (.int w), some (.int (2 + f)), some (.lst (refs S.length h)), some (.int k), o6, none] [7]) (refs S.length h) [] S' = .ok (iD (R.map fun r => r.getD k 0)) S' := by
        have e := lc_mapE (S := S') (me := eOp pIx (eVar 7) (eVar 5)) (δ0 := wipeD [some (.ref t), some (.int h), some (.int w), some (.int (2 + f)), some (.lst (refs S.length h)), some (.int k), o6, none] [7]) (k := 7) (fun (i : Nat) => D.ref (S.length + i)) D.int (fun i => (R.getD i []).getD k 0) (zs := List.range h) (by rw [List.length_range]; exact small (by omega)) (fun i hi => by
          obtain ⟨r, hr, hc, hw⟩ := rows_at G (List.mem_range.mp hi)
          exact eOp_ok rfl rfl (by rw [ix_ref hc (by omega), getD_row hr]))
        have e1 : refs S.length h = (List.range h).map fun (i : Nat) => D.ref (S.length + i) := by simp [refs, List.range'_eq_map_range]
        have e2 : (List.range h).map (fun i => (R.getD i []).getD k 0) = R.map fun r => r.getD k 0 := by
          have hR : R = (List.range h).map fun i => R.getD i [] := by
            refine List.ext_getElem (by simp [G.len]) fun i h1 h2 => ?_
            simp [List.getD_eq_getElem?_getD, List.getElem?_eq_getElem h1]
          conv => rhs; rw [hR]
          rw [List.map_map]; rfl
        rw [← e1, e2] at e
        exact e
      have test : eLc newL (iAny (eVar 4)) (uNm 7) tYesM (eOp pIx (eVar 7) (eVar 5)) [7] [some (.ref t), some (.int h), some (.int w), some (.int (2 + f)), some (.lst (refs S.length h)), some (.int k), o6, none] S' = .ok (lI (R.map fun r => r.getD k 0)) S' :=
        eLc_ok (iAny_ok rfl rfl) col (newL_ev (by rw [iD_len, List.length_map, G.len]; exact small (by omega)))
      by_cases hm : (1 : Int) ∈ R.map fun r => r.getD k 0
      · exact ⟨_, S', sIf_f (asB_ok (eOp_ok rfl test (by rw [notin_lI, decide_eq_true hm]; rfl))) rfl, ⟨_, rfl⟩, R, G⟩
      · obtain ⟨f', S5, ef, f0, f1, a5, fr5, l5⟩ := hd.go t S' (h : Int) G.a (by omega) (by omega)
        obtain ⟨f', rfl⟩ := Int.eq_ofNat_of_zero_le f0
        have hf' : f' < h := by omega
        obtain ⟨r, hr, hc, hw⟩ := rows_at G hf'
        have c5 := G.c.fr fr5 hts
        have hst := store_row (k := k) (v := 1) (c5 f' r hr) (by omega)
        exact ⟨_, _, sIf_t (asB_ok (eOp_ok rfl test (by rw [notin_lI, decide_eq_false hm]; rfl))) (sAsg_ok rfl (gSb_ok (eOp_ok rfl (eCal_ok (aCons_ok rfl (aCons_ok rfl rfl)) ef) (by rw [pIx_lst (k := f') (by rw [refs_len]; exact hf'), refs_get])) rfl hst)), ⟨_, rfl⟩, R.set f' (r.set k 1), ⟨by simp [G.len], g01_set (.inr rfl) G.g hr, c5.put hr, a5.other (by omega), Fr.new (by omega) (G.f.trans fr5)⟩⟩) ⟨⟨_, rfl⟩, R1, G3⟩
  refine ⟨R2, S4, ?_, G4⟩
  unfold b__law_any
  have hl2 : (refs S.length h).length ≤ sizeLine := by rw [refs_len]; exact small (by omega)
  exact funM_rt rfl (sSeq_nx (sAsg_ok (eOp_ok rfl (eCal_ok (aCons_ok rfl (aCons_ok rfl rfl)) e1) pAdd_ii) rfl) (sSeq_nx (sAsg_ok (eLc_ok (iR1_ok (k := h) (aCons_ok rfl rfl) (by omega)) e2 (newL_ev hl2)) rfl) (sSeq_nx (sFor_ok (iR1_ok (k := h) (aCons_ok rfl rfl) (by omega)) e3) (sSeq_nx (sFor_ok (iR1_ok (k := w) (aCons_ok rfl rfl) (by omega)) e4) (sRet_ok rfl)))))
end Sp
namespace Sp
open PySem L2 Ev Bd
def rng (n : Nat) : List Int := (List.range n).map fun (i : Nat) => (i : Int)
theorem rng_length {n : Nat} : (rng n).length = n := by simp [rng]
theorem mem_rng {n : Nat} {i : Int} : i ∈ rng n ↔ 0 ≤ i ∧ i < n := by
  simp only [rng, List.mem_map, List.mem_range]
  constructor
  · rintro ⟨k, hk, rfl⟩; omega
  · rintro ⟨h0, h1⟩; exact ⟨i.toNat, by omega, by omega⟩
theorem rngD_eq {n : Nat} : rngD 0 n = iD (rng n) := by simp [rngD, iD, rng]
section
variable {S S1 S2 : Store} {δ : En} {ma mo : ME} {n m : Nat} {xs : List D} {J : List D → Prop} {t : Nat}
theorem rgOk_nat (hn : n ≤ 1000000) : rgOk 0 (n : Int) = true := by
  have e62 : (2 : Int) ^ 62 = 4611686018427387904 := by decide
  have e24 : (2 : Nat) ^ 24 = 16777216 := by decide
  unfold rgOk
  rw [e62, e24, decide_eq_true_eq]
  omega
theorem eRg_ok {fin : List D → PO} {mr : En → M (Int × Int)} {a b : Int} {z : D} (h : mr δ S = .ok (a, b) S1) (ho : rgOk a b = true) (hf : fin (rgD a b) S1 = some (z, S2)) : eRg fin mr δ S = .ok z S2 := by
  simp only [eRg, M.bind, h, lft, ho, if_true, hf]
theorem g1_ok {b : Int} (h : ma δ S = .ok (.int b) S1) : g1 ma δ S = .ok (0, b) S1 := by simp only [g1, M.bind, h, M.pure]
theorem rgD_nat : rgD 0 (n : Int) = iD (rng n) := by simp [rgD, iD, rng]
theorem rg_ev (h : ma δ S = .ok (.int n) S1) (hn : n ≤ 1000000) : eRg newL (g1 ma) δ S = .ok (lI (rng n)) S1 :=
  eRg_ok (g1_ok h) (rgOk_nat hn) (by rw [rgD_nat]; exact newL_ev (by rw [iD_len, rng_length]; exact small hn))
theorem cutD_take : cutD xs none (some (m : Int)) = xs.take m := by
  unfold cutD
  rw [HT.sIx_nat, HT.sIx_none, List.drop_zero, Nat.sub_zero]
  by_cases h : m ≤ xs.length
  · rw [Nat.min_eq_left h]
  · rw [Nat.min_eq_right (by omega), List.take_length, List.take_of_length_le (by omega)]
theorem cut_take (h : mo δ S = .ok (.lst xs) S1) (h2 : ma δ S1 = .ok (.int m) S2) (hl : xs.length ≤ sizeLine) : eCut mo none (some ma) δ S = .ok (.lst (xs.take m)) S2 := by
  have hl' : (xs.take m).length ≤ sizeLine := Nat.le_trans (by simp; omega) hl
  simp only [eCut, M.bind, h, oPart, M.pure, h2, lft, pCut, lstOf, Option.bind_some, cutD_take, newL_ev hl']
theorem perm_map {α β : Type} {f : α → β} {ys zs : List β} (h : ys.Perm zs) : ∀ {l : List α}, zs = l.map f → ∃ p : List α, ys = p.map f ∧ p.Perm l := by
  induction h with
  | nil => intro l e; exact ⟨[], rfl, by cases l with | nil => exact .nil | cons _ _ => simp at e⟩
  | cons x h ih =>
    intro l e
    cases l with
    | nil => simp at e
    | cons a l =>
      simp only [List.map_cons, List.cons.injEq] at e
      obtain ⟨p, e1, e2⟩ := ih e.2
      exact ⟨a :: p, by rw [List.map_cons, e1, e.1], e2.cons a⟩
  | swap x y l' =>
    intro l e
    match l, e with
    | [], e => simp at e
    | [_], e => simp at e
    | a :: b :: l, e =>
      simp only [List.map_cons, List.cons.injEq] at e
      exact ⟨b :: a :: l, by simp [e.1, e.2.1, e.2.2], .swap a b l⟩
  | trans h1 h2 ih1 ih2 =>
    intro l e
    obtain ⟨p, e1, p1⟩ := ih2 e
    obtain ⟨q, e2, p2⟩ := ih1 e1
    exact ⟨q, e2, p2.trans p1⟩
/-- numbers in a drawn order -/
theorem mixed_ints {dr : List D → M D} (hd : Drw J dr) {ns : List Int} (hat : At J t S) (hn : ns.length ≤ 1000) :
    ∃ ms S', funM 5 2 (mixedT dr) [.ref t, lI ns] S = .ok (lI ms) S' ∧ ms.Perm ns ∧ At J t S' ∧ Fr t S S' := by
  obtain ⟨ys, S', e, p, a, f⟩ := mixed_gen hd (xs := iD ns) hat (by rw [iD_len]; exact hn) (fun x hx S => by
    obtain ⟨i, _, rfl⟩ := List.mem_map.mp hx
    exact frz_int)
  obtain ⟨ms, rfl, p2⟩ := perm_map p (l := ns) rfl
  exact ⟨ms, S', e, p2, a, f⟩
end
theorem mixed_v2 {cal : Nat → List D → M D} : b__law_mixed_v2 cal = mixedT (cal 60) := rfl
/-- the drawn order as a callee -/
structure Mix (J : List D → Prop) (mx : List D → M D) : Prop where
  go : ∀ (t : Nat) (S : Store) (ns : List Int), At J t S → ns.length ≤ 1000 → ∃ ms S', mx [.ref t, lI ns] S = .ok (lI ms) S' ∧ ms.Perm ns ∧ At J t S' ∧ Fr t S S'
theorem perm_rng {ms : List Int} {n : Nat} (h : ms.Perm (rng n)) : ms.length = n ∧ ∀ i ∈ ms, 0 ≤ i ∧ i < n := ⟨by rw [h.length_eq, rng_length], fun i hi => mem_rng.mp (h.mem_iff.mp hi)⟩
theorem ringed_ev {J : List D → Prop} {cal : Nat → List D → M D} (hd : Drw J (cal 60)) (hx : Mix J (cal 64)) {t h w m : Nat} {S : Store} (ht : At J t S) (h2 : h ≤ 8) (w2 : w ≤ 8) (m0 : 0 < m) (m1 : m ≤ h) (m2 : m ≤ w)
    (ha : ∀ S, At J t S → ∃ R S', cal 58 [.ref t, .int h, .int w] S = .ok (.lst (refs S.length h)) S' ∧ Gr J t S S.length h w R S') :
    ∃ R S', funM 9 4 (b__law_ringed cal) [.ref t, .int h, .int w, .int m] S = .ok (rowsL R) S' ∧ R.length = h ∧ G01 w R ∧ At J t S' ∧ Fr t S S' := by
  have hts := ht.lt
  obtain ⟨R0, S1, e1, G1⟩ := ha S ht
  obtain ⟨ps, S2, e2, p2, a2, f2⟩ := hx.go t S1 (rng h) G1.a (by rw [rng_length]; omega)
  obtain ⟨qs, S3, e3, p3, a3, f3⟩ := hx.go t S2 (rng w) a2 (by rw [rng_length]; omega)
  obtain ⟨lp, bp⟩ := perm_rng p2
  obtain ⟨lq, bq⟩ := perm_rng p3
  have G3 : Gr J t S S.length h w R0 S3 := ⟨G1.len, G1.g, (G1.c.fr f2 hts).fr f3 hts, a3, (G1.f.trans f2).trans f3⟩
  have tp : (iD ps).take m = iD (ps.take m) := by simp [iD, List.map_take]
  have tq : (iD qs).take m = iD (qs.take m) := by simp [iD, List.map_take]
  have lpm : (ps.take m).length = m := by simp; omega
  have lqm : (qs.take m).length = m := by simp; omega
  let δ0 : Option D → Option D → En := fun o7 o8 => [some (.ref t), some (.int h), some (.int w), some (.int m), some (.lst (refs S.length h)), some (.lst ((iD ps).take m)), some (.lst ((iD qs).take m)), o7, o8]
  obtain ⟨δ4, S4, e4, ⟨o7, o8, rfl⟩, R, G4⟩ := loop_inv (mg := gNm 7) (mb := (sFor (iR1 (aCons (eVar 3) aNil)) (gNm 8) (sAsg (eCallV pInt (aCons (eOp pIn (eVar 8) (eLst (aCons (eVar 7) (aCons (eOp pMod (eCallV pInt (aCons (eOp pAdd (eVar 7) (eC (.int 1))) aNil)) (eVar 3)) aNil)))) aNil)) (gSb pStore (eOp pIx (eVar 4) (eOp pIx (eVar 5) (eVar 7))) (eOp pIx (eVar 6) (eVar 8))))))
    (ds := rngD 0 m) (δ := δ0 none none) (S := S3)
    (fun k δ S' => (∃ o7 o8, δ = δ0 o7 o8) ∧ ∃ R : Rw, Gr J t S S.length h w R S') (by
      rintro j δ S' hj ⟨⟨o7, o8, rfl⟩, R, G⟩
      rw [rng_get]
      rw [rng_len] at hj
      refine ⟨_, _, rfl, ?_⟩
      obtain ⟨δ5, S5, e5, ⟨o8, rfl⟩, R5, G5⟩ := loop_inv (mg := gNm 8) (mb := (sAsg (eCallV pInt (aCons (eOp pIn (eVar 8) (eLst (aCons (eVar 7) (aCons (eOp pMod (eCallV pInt (aCons (eOp pAdd (eVar 7) (eC (.int 1))) aNil)) (eVar 3)) aNil)))) aNil)) (gSb pStore (eOp pIx (eVar 4) (eOp pIx (eVar 5) (eVar 7))) (eOp pIx (eVar 6) (eVar 8)))))
        (ds := rngD 0 m) (δ := δ0 (some (.int j)) o8) (S := S')
        (fun k δ S' => (∃ o8, δ = δ0 (some (.int j)) o8) ∧ ∃ R : Rw, Gr J t S S.length h w R S') (by
          rintro k δ S' hk ⟨⟨o8, rfl⟩, R, G⟩
          rw [rng_get]
          rw [rng_len] at hk
          refine ⟨_, _, rfl, ?_⟩
          have bpj := bp ((ps.take m).getD j 0) (List.mem_of_mem_take (PySem.getD_mem (by omega)))
          have bqk := bq ((qs.take m).getD k 0) (List.mem_of_mem_take (PySem.getD_mem (by omega)))
          obtain ⟨pj, epj⟩ := Int.eq_ofNat_of_zero_le bpj.1
          obtain ⟨qk, eqk⟩ := Int.eq_ofNat_of_zero_le bqk.1
          have hpj : pj < h := by omega
          have hqk : qk < w := by omega
          obtain ⟨r, hr, hc, hw⟩ := rows_at G hpj
          have i1 : ∀ S', pIx (.lst ((iD ps).take m)) (.int j) S' = some (.int pj, S') := fun S' => by rw [tp, ix_lI (by omega) (by omega), Int.toNat_natCast, epj]
          have i2 : ∀ S', pIx (.lst ((iD qs).take m)) (.int k) S' = some (.int qk, S') := fun S' => by rw [tq, ix_lI (by omega) (by omega), Int.toNat_natCast, eqk]
          have i3 : ∀ S', pIx (.lst (refs S.length h)) (.int pj) S' = some (.ref (S.length + pj), S') := fun S' => by rw [pIx_lst (by rw [refs_len]; exact hpj), refs_get]
          have hb : (if decide ((k : Int) ∈ [(j : Int), ((j : Int) + 1) % m]) = true then (1 : Int) else 0) = 0 ∨ (if decide ((k : Int) ∈ [(j : Int), ((j : Int) + 1) % m]) = true then (1 : Int) else 0) = 1 := by split <;> simp
          have hst := store_row (k := qk) (v := if decide ((k : Int) ∈ [(j : Int), ((j : Int) + 1) % m]) = true then (1 : Int) else 0) hc (by omega)
          refine ⟨_, _, sAsg_ok (eCallV_ok (aCons_ok (eOp_ok rfl (eLst_ok (xs := iD [(j : Int), ((j : Int) + 1) % m]) (aCons_ok rfl (aCons_ok (eOp_ok (eCallV_ok (aCons_ok (eOp_ok rfl rfl pAdd_ii) rfl) pInt_i) rfl (pMod_ii (by omega))) rfl)) (small (by simp [iD]))) in_lI) rfl) pInt_b) (gSb_ok (eOp_ok rfl (eOp_ok rfl rfl (i1 _)) (i3 _)) (eOp_ok rfl rfl (i2 _)) hst), ⟨_, rfl⟩, R.set pj (r.set qk _), ⟨by simp [G.len], g01_set hb G.g hr, G.c.put hr, G.a.other (by omega), Fr.new (by omega) G.f⟩⟩) ⟨⟨_, rfl⟩, R, G⟩
      exact ⟨_, _, sFor_ok (iR1_ok (k := m) (aCons_ok rfl rfl) (by omega)) e5, ⟨_, _, rfl⟩, R5, G5⟩) ⟨⟨_, _, rfl⟩, R0, G3⟩
  obtain ⟨S5, e5, l5, k5⟩ := frz_rows G4.c
  rw [G4.len] at e5
  refine ⟨R, S5, ?_, G4.len, G4.g, ?_, ⟨by rw [l5]; exact G4.f.1, fun j hj hn => by rw [k5 j hj]; exact G4.f.2 j hj hn⟩⟩
  · unfold b__law_ringed
    exact funM_rt rfl (sSeq_nx (sPar2_ok (aCons_ok (eCal_ok (aCons_ok rfl (aCons_ok rfl (aCons_ok rfl rfl))) e1) (aCons_ok (cut_take (xs := iD ps) (m := m) (eCal_ok (aCons_ok rfl (aCons_ok (rg_ev (n := h) rfl (by omega)) rfl)) e2) rfl (by rw [iD_len]; exact small (by omega))) rfl))) (sSeq_nx (sAsg_ok (cut_take (xs := iD qs) (m := m) (eCal_ok (aCons_ok rfl (aCons_ok (rg_ev (n := w) rfl (by omega)) rfl)) e3) rfl (by rw [iD_len]; exact small (by omega))) rfl) (sSeq_nx (sFor_ok (iR1_ok (k := m) (aCons_ok rfl rfl) (by omega)) e4) (sRet_ok (eFrz_ok (S1 := S4) rfl e5)))))
  · obtain ⟨c, h1, h2⟩ := G4.a
    exact ⟨c, by rw [k5 t hts]; exact h1, h2⟩
end Sp
namespace Sp
open PySem L2 Ev Bd
section
variable {S S1 S2 : Store} {δ : En} {ma mb mc : ME} {i j x y z : Int} {ns : List Int}
theorem max_lI (h : ns ≠ []) : pMax [lI ns] S = some (.int (maxL ns), S) := by
  simp only [pMax, lstOf, Option.bind_some, ints_iD, h, if_false]
end
def turn (R : Rw) (w : Nat) : Rw := (rng w).map fun k => R.map fun r => r.getD k.toNat 0
theorem turned_ev {cal : Nat → List D → M D} {R : Rw} {w : Nat} {S : Store} (hR : R ≠ []) (hl : R.length ≤ 1000) (g : ∀ r ∈ R, r.length = w) (w2 : w ≤ 1000) : funM 3 1 (b__law_turned cal) [rowsL R] S = .ok (rowsL (turn R w)) S := by
  unfold b__law_turned
  have hR0 : 0 < R.length := by cases R with | nil => exact absurd rfl hR | cons _ _ => simp
  have w0 : (R.getD 0 []).length = w := by
    rw [List.getD_eq_getElem?_getD, List.getElem?_eq_getElem hR0]
    exact g _ (List.getElem_mem hR0)
  have e := lc_mapE (S := S) (me := eLc newL (iAny (eVar 0)) (uNm 1) tYesM (eOp pIx (eVar 1) (eVar 2)) [1]) (δ0 := wipeD [some (rowsL R), none, none] [2]) (k := 2) D.int lI (fun k => R.map fun r => r.getD k.toNat 0) (zs := rng w) (by rw [rng_length]; exact small (by omega)) (fun k hk => by
    have hk' := mem_rng.mp hk
    have e := lc_mapE (S := S) (me := eOp pIx (eVar 1) (eVar 2)) (δ0 := wipeD [some (rowsL R), none, some (.int k)] [1]) (k := 1) lI D.int (fun r => r.getD k.toNat 0) (zs := R) (small (by omega)) (fun r hr => eOp_ok rfl rfl (ix_lI hk'.1 (by rw [g r hr]; omega)))
    exact eLc_ok (iAny_ok rfl rfl) e (newL_ev (by simp; exact small (by omega))))
  rw [show (rng w).map D.int = rngD 0 w from rngD_eq.symm] at e
  refine funM_rt rfl (sRet_ok (eLc_ok (iR1_ok (k := w) (aCons_ok (eCallV_ok (aCons_ok (eOp_ok rfl rfl (ix_rL (by omega) (by omega))) rfl) (by rw [show (0 : Int).toNat = 0 from rfl, len_lI, w0])) rfl) (by omega)) e (newL_ev (by simp [rng_length]; exact small (by omega)))))
theorem turn_g01 {R : Rw} {h w : Nat} (hl : R.length = h) (g : G01 w R) : (turn R w).length = w ∧ G01 h (turn R w) := by
  refine ⟨by simp [turn, rng_length], fun q hq => ?_⟩
  obtain ⟨k, hk, rfl⟩ := List.mem_map.mp hq
  refine ⟨by simp [hl], fun i hi => ?_⟩
  obtain ⟨r, hr, rfl⟩ := List.mem_map.mp hi
  have hk' := mem_rng.mp hk
  have gr := g r hr
  exact gr.2 _ (PySem.getD_mem (by omega))
/-- a drawn grid of at most most rows and columns -/
structure Grid (most : Nat) (R : Rw) : Prop where
  ex : ∃ h w, R.length = h ∧ G01 w R ∧ 0 < h ∧ h ≤ most ∧ 0 < w ∧ w ≤ most
end Sp
namespace Sp
open PySem L2 Ev Bd
structure GridF (J : List D → Prop) (f : List D → M D) : Prop where
  go : ∀ (t most : Nat) (S : Store), At J t S → 0 < most → most ≤ 8 → ∃ R S', f [.ref t, .int most] S = .ok (rowsL R) S' ∧ Grid most R ∧ At J t S' ∧ Fr t S S'
structure AnyF (J : List D → Prop) (f : List D → M D) : Prop where
  go : ∀ (t h w : Nat) (S : Store), At J t S → 0 < h → h ≤ 8 → 0 < w → w ≤ 8 → ∃ R S', f [.ref t, .int h, .int w] S = .ok (.lst (refs S.length h)) S' ∧ Gr J t S S.length h w R S'
structure RowsF (J : List D → Prop) (f : List D → M D) : Prop where
  go : ∀ (t h w : Nat) (S : Store), At J t S → 0 < h → h ≤ 8 → 0 < w → w ≤ 8 → ∃ R S', f [.ref t, .int h, .int w] S = .ok (rowsL R) S' ∧ R.length = h ∧ G01 w R ∧ At J t S' ∧ Fr t S S'
structure RingedF (J : List D → Prop) (f : List D → M D) : Prop where
  go : ∀ (t h w m : Nat) (S : Store), At J t S → h ≤ 8 → w ≤ 8 → 0 < m → m ≤ h → m ≤ w → ∃ R S', f [.ref t, .int h, .int w, .int m] S = .ok (rowsL R) S' ∧ R.length = h ∧ G01 w R ∧ At J t S' ∧ Fr t S S'
structure TurnF (f : List D → M D) : Prop where
  go : ∀ (R : Rw) (w : Nat) (S : Store), R ≠ [] → R.length ≤ 1000 → (∀ r ∈ R, r.length = w) → w ≤ 1000 → f [rowsL R] S = .ok (rowsL (turn R w)) S
theorem tand_b {ta tb : MT} {δ : En} {S S1 : Store} {a b : Bool} (h : ta δ S = .ok a S1) (h2 : a = true → tb δ S1 = .ok b S1) : tAndM ta tb δ S = .ok (a && b) S1 := by
  cases a with
  | true => exact tAnd_t h (h2 rfl)
  | false => exact tAnd_f h
theorem max01 {r : List Int} (h : ∀ i ∈ r, i = 0 ∨ i = 1) (hne : r ≠ []) (h0 : maxL r ≠ 0) : (1 : Int) ∈ r := by
  obtain ⟨h1, h2⟩ := maxL_ok r hne
  rcases h _ h1 with e | e
  · exact absurd e h0
  · rw [e] at h1; exact h1
theorem maxs_ev {mi : MA} {δ : En} {S : Store} {R : Rw} {k : Nat} (hi : mi δ S = .ok (R.map lI) S) (hl : R.length ≤ 1000) (hne : ∀ r ∈ R, r ≠ []) (hk : ∀ d, eVar k ((wipeD δ [k]).set k (some (lI d))) S = .ok (lI d) S) :
    eOp pNotIn (eC (.int 0)) (eLc newL mi (uNm k) tYesM (eCallV (pMax) (aCons (eVar k) aNil)) [k]) δ S = .ok (.bl (!decide ((0 : Int) ∈ R.map maxL))) S := by
  have e := lc_mapE (S := S) (me := eCallV (pMax) (aCons (eVar k) aNil)) (δ0 := wipeD δ [k]) (k := k) lI D.int maxL (zs := R) (small (by omega)) (fun r hr => eCallV_ok (aCons_ok (hk r) rfl) (max_lI (hne r hr)))
  exact eOp_ok rfl (eLc_ok hi e (newL_ev (by simp; exact small (by omega)))) notin_lI
/-- the test of fullness: if it tells True the grid is full -/
theorem fulls_ev {cal : Nat → List D → M D} (ht : TurnF (cal 36)) {R : Rw} {most : Nat} {S : Store} (g : Grid most R) (hm : most ≤ 8) : ∃ b, funM 2 1 (b__law_full cal) [rowsL R] S = .ok (.bl b) S ∧ (b = true → ∃ h w, Full h w R ∧ h ≤ most ∧ w ≤ most) := by
  obtain ⟨h, w, lR, gR, h1, h2, w1, w2⟩ := g.ex
  have hR : R ≠ [] := by intro e; subst e; simp at lR; omega
  obtain ⟨t1, t2⟩ := turn_g01 lR gR
  have n1 : ∀ r ∈ R, r ≠ [] := fun r hr e => by have := (gR r hr).1; rw [e] at this; simp at this; omega
  have n2 : ∀ r ∈ turn R w, r ≠ [] := fun r hr e => by have := (t2 r hr).1; rw [e] at this; simp at this; omega
  have e1 := maxs_ev (mi := iAny (eVar 0)) (δ := [some (rowsL R), none]) (S := S) (k := 1) (R := R) (iAny_ok rfl rfl) (by omega) n1 (fun d => rfl)
  have e2 := maxs_ev (mi := iAny (eCal (cal 36) (aCons (eVar 0) aNil))) (δ := [some (rowsL R), none]) (S := S) (k := 1) (R := turn R w) (iAny_ok (eCal_ok (aCons_ok rfl rfl) (ht.go R w S hR (by omega) (fun r hr => (gR r hr).1) (by omega))) rfl) (by omega) n2 (fun d => rfl)
  unfold b__law_full
  by_cases hb : (0 : Int) ∈ R.map maxL
  · exact ⟨false, funM_rt rfl (sRet_ok (eAnd_f (e1.trans (by rw [decide_eq_true hb]; rfl)) rfl)), fun z => by cases z⟩
  · refine ⟨_, funM_rt rfl (sRet_ok (eAnd_t (e1.trans (by rw [decide_eq_false hb])) rfl e2)), fun z => ?_⟩
    have hb2 : (0 : Int) ∉ (turn R w).map maxL := by simpa using z
    refine ⟨h, w, ⟨lR, gR, fun r hr => ?_, fun k hk => ?_, h1, by omega, w1, by omega⟩, h2, w2⟩
    · exact max01 (gR r hr).2 (n1 r hr) fun e => hb (List.mem_map.mpr ⟨r, hr, e⟩)
    · have hm : (R.map fun r => r.getD (k : Int).toNat 0) ∈ turn R w := List.mem_map.mpr ⟨(k : Int), mem_rng.mpr ⟨by omega, by omega⟩, rfl⟩
      have := max01 (t2 _ hm).2 (n2 _ hm) fun e => hb2 (List.mem_map.mpr ⟨_, hm, e⟩)
      obtain ⟨r, hr, e⟩ := List.mem_map.mp this
      refine ⟨r, hr, ?_⟩
      have hl : k < r.length := by rw [(gR r hr).1]; exact hk
      rw [Int.toNat_natCast, List.getD_eq_getElem?_getD, List.getElem?_eq_getElem hl] at e
      rw [List.getElem?_eq_getElem hl]
      simpa using e
theorem cut_scr {mo ma : ME} {δ : En} {S S1 S2 : Store} {ns : List Int} {m : Nat} (h : mo δ S = .ok (.scr ns) S1) (h2 : ma δ S1 = .ok (.int m) S2) (hm : m ≤ 1000) : eCut mo none (some ma) δ S = .ok (lI (ns.take m)) S2 := by
  have hl' : ((iD ns).take m).length ≤ sizeLine := Nat.le_trans (show _ ≤ 1000 by simp; omega) (small (by omega))
  have e : (iD ns).take m = iD (ns.take m) := by simp [iD, List.map_take]
  have e2 : pCut (.scr ns) none (some (m : Int)) S2 = some (lI (ns.take m), S2) := by
    show ((lstOf S2 (.scr ns)).bind fun xs => newL (cutD xs none (some (m : Int))) S2) = _
    rw [show lstOf S2 (.scr ns) = some (iD ns) from rfl, Option.bind_some, cutD_take, newL_ev hl', e]
  simp only [eCut, M.bind, h, oPart, M.pure, h2, lft, e2]
theorem pow18 {S : Store} : pPow (.int 10) (.int 18) S = some (.int 1000000000000000000, S) := by
  have h : decide ((0 : Int) ≤ 18 ∧ (18 : Int) ≤ 1000000 ∧ (10 : Int).natAbs < 2 ^ 64) = true := by decide
  simp only [pPow, pInt2, h, if_true]
  rfl
/-- the script's reed: a draw's start -/
theorem reed_ev {cal : Nat → List D → M D} {ns : List Int} {k : Nat} {S : Store} (hk : k ≤ 1000) : ∃ c, ReedJ c ∧ funM 5 2 (b__law_reed cal) [.scr ns, .int k] S = .ok (.ref S.length) (S ++ [some (.lst c)]) := by
  obtain ⟨δ2, S2, e2, ⟨m, o, rfl⟩, hS⟩ := loop_inv (mg := gNm 3) (mb := (sAsg (eOp pMod (eCallV pInt (aCons (eOp pAdd (eOp pAdd (eOp pMul (eVar 2) (eC (.int 38393))) (eVar 3)) (eC (.int 311))) aNil)) (eC (.int 2147482277))) (gNm 2)))
    (ds := iD (ns.take 4)) (δ := [some (.scr ns), some (.int k), some (.int (90011 + 4219 * (k : Int))), none, none]) (S := S)
    (fun j δ S' => (∃ (m : Int) (o : Option D), δ = [some (.scr ns), some (.int k), some (.int m), o, none]) ∧ S' = S) (by
      rintro j δ S' hj ⟨⟨m, o, rfl⟩, rfl⟩
      rw [iD_get hj]
      exact ⟨_, _, rfl, _, _, sAsg_ok (eOp_ok (eCallV_ok (aCons_ok (eOp_ok (eOp_ok (eOp_ok rfl rfl (pMul_ii (mul_r (by omega) (by omega)))) rfl pAdd_ii) rfl pAdd_ii) rfl) pInt_i) rfl (pMod_ii (by omega))) rfl, ⟨_, _, rfl⟩, rfl⟩) ⟨⟨_, _, rfl⟩, rfl⟩
  subst hS
  have own : ∃ v : Int, eIf (fun δ => asB (eOp pLt (eVar 1) (eCallV (pLen) (aCons (eVar 0) aNil)) δ)) (eOp pIx (eVar 0) (eVar 1)) (eC (.int 0)) [some (.scr ns), some (.int k), some (.int m), o, none] S2 = .ok (.int v) S2 := by
    by_cases h : k < ns.length
    · exact ⟨ns[k], eIf_t (asB_ok (eOp_ok rfl (eCallV_ok (aCons_ok rfl rfl) pLen_scr) (by rw [pLt_ii, decide_eq_true (by omega)]))) (eOp_ok rfl rfl (pIx_scr h))⟩
    · exact ⟨0, eIf_f (asB_ok (eOp_ok rfl (eCallV_ok (aCons_ok rfl rfl) pLen_scr) (by rw [pLt_ii, decide_eq_false (by omega)]))) rfl⟩
  obtain ⟨v, ev⟩ := own
  have habs : 0 ≤ (if v < 0 then -v else v) := by split <;> omega
  have sec : ∃ b : Int, 0 ≤ b ∧ eIf (fun δ => asB (eOp pGe (eCallV (pAbs) (aCons (eVar 4) aNil)) (eOp pPow (eC (.int 10)) (eC (.int 18))) δ)) (eCallV (pAbs) (aCons (eVar 4) aNil)) (eC (.int 0)) [some (.scr ns), some (.int k), some (.int m), o, some (.int v)] S2 = .ok (.int b) S2 := by
    by_cases h : 1000000000000000000 ≤ (if v < 0 then -v else v)
    · exact ⟨_, habs, eIf_t (asB_ok (eOp_ok (eCallV_ok (aCons_ok rfl rfl) rfl) (eOp_ok rfl rfl pow18) (by rw [pGe_ii, decide_eq_true h]))) (eCallV_ok (aCons_ok rfl rfl) rfl)⟩
    · exact ⟨0, Int.le_refl _, eIf_f (asB_ok (eOp_ok (eCallV_ok (aCons_ok rfl rfl) rfl) (eOp_ok rfl rfl pow18) (by rw [pGe_ii, decide_eq_false h]))) rfl⟩
  obtain ⟨b, hb, eb⟩ := sec
  unfold b__law_reed
  exact ⟨[.int ((m * 71 + v) % 2147482277), .int b], ⟨_, _, rfl, hb⟩, funM_rt rfl (sSeq_nx (sAsg_ok (eOp_ok rfl (eOp_ok rfl rfl (pMul_ii (mul_l (by omega) (by omega)))) pAdd_ii) rfl) (sSeq_nx (sFor_ok (iAny_ok (cut_scr (m := 4) rfl rfl (by omega)) rfl) e2) (sSeq_nx (sAsg_ok ev rfl) (sRet_ok (eLstC_ok (aCons_ok (eOp_ok (eCallV_ok (aCons_ok (eOp_ok (eOp_ok rfl rfl (pMul_ii (mul_r (by omega) (by omega)))) rfl pAdd_ii) rfl) pInt_i) rfl (pMod_ii (by omega))) (aCons_ok eb rfl)) (small (by simp)))))))⟩
end Sp
namespace Sp
open PySem L2 Ev
theorem nodup_le {α : Type} [DecidableEq α] : ∀ {l m : List α}, l.Nodup → (∀ x ∈ l, x ∈ m) → l.length ≤ m.length
  | [], m, _, _ => by simp
  | a :: l, m, h, hs => by
    rw [List.nodup_cons] at h
    have ha := hs a (List.mem_cons_self ..)
    have := nodup_le (l := l) (m := m.erase a) h.2 fun x hx => (List.mem_erase_of_ne (by rintro rfl; exact h.1 hx)).mpr (hs x (List.mem_cons_of_mem _ hx))
    rw [List.length_erase_of_mem ha] at this
    have := List.length_pos_of_mem ha
    simp only [List.length_cons]; omega
/-- the law counts so -/
def dlaw (l : List Int) : List Int := (rng l.length).filter fun j => !decide (l.getD j.toNat 0 ∈ l.take j.toNat)
def nxt (l : List Int) : Int := 1 + maxL (-1 :: l)
theorem nxt_nn (l : List Int) : 0 ≤ nxt l := by
  have := (maxL_ok (-1 :: l) (by simp)).2 (-1) (by simp)
  unfold nxt; omega
def lim (K : Nat) (l : List Int) : Nat := if nxt l + 1 < K then (nxt l + 1).toNat else K
theorem lim_le {K : Nat} {l : List Int} : lim K l ≤ K := by
  have := nxt_nn l
  unfold lim
  split <;> omega
def RG (K : Nat) (ts : List Int) : Prop := ∀ m, m < ts.length → 0 ≤ ts.getD m 0 ∧ ts.getD m 0 < lim K (ts.take m)
section
variable {K : Nat} {hs es : List Int} {q : Int}
theorem RG.nil : RG K [] := fun m h => by simp at h
theorem getD_left {l m : List Int} {k : Nat} (h : k < l.length) : (l ++ m).getD k 0 = l.getD k 0 := by
  rw [List.getD_eq_getElem?_getD, List.getD_eq_getElem?_getD, List.getElem?_append_left h]
theorem RG.pre (h : RG K (hs ++ es)) : RG K hs := fun m hm => by
  have := h m (by simp; omega)
  rwa [getD_left hm, List.take_append_of_le_length (by omega)] at this
theorem RG.last (h : RG K (hs ++ [q])) : 0 ≤ q ∧ q < lim K hs := by
  have := h hs.length (by simp)
  simpa using this
theorem RG.snoc (h : RG K hs) (h0 : 0 ≤ q) (h1 : q < lim K hs) : RG K (hs ++ [q]) := fun m hm => by
  by_cases hl : m < hs.length
  · rw [getD_left hl, List.take_append_of_le_length (by omega)]; exact h m hl
  · have : m = hs.length := by simp at hm; omega
    subst this
    simpa using ⟨h0, h1⟩
theorem RG.mem (h : RG K hs) : ∀ x ∈ hs, 0 ≤ x ∧ x < K := fun x hx => by
  obtain ⟨m, hm, rfl⟩ := List.mem_iff_getElem.mp hx
  have h1 := h m hm
  have h2 := lim_le (K := K) (l := hs.take m)
  rw [List.getD_eq_getElem?_getD, List.getElem?_eq_getElem hm] at h1
  simp only [Option.getD_some] at h1
  omega
end
def least (K : Nat) (n : Nat) : Int := if (n : Int) < K then n else K
def Pr (cs r : List Int) (j : Int) : Bool := r.getD (cs.getD j.toNat 0).toNat 0 == 1
def rowP (cs r : List Int) : List Int := (rng cs.length).filter (Pr cs r)
def pickH (cs hs r : List Int) : List Int := (rowP cs r).map fun j => hs.getD j.toNat 0
def hued1 (K : Nat) (cs hs r : List Int) : Bool := ((dlaw (pickH cs hs r)).length : Int) == least K (pickH cs hs r).length
def hued (R : Rw) (K : Nat) (cs hs : List Int) : Bool := R.all fun r => hued1 K cs hs r
def grow (K : Nat) (L : Rw) : Rw := L.flatMap fun f => (rng (lim K f)).map fun q => f ++ [q]
def allC (K : Nat) : Nat → Rw
  | 0 => [[]]
  | n + 1 => grow K (allC K n)
def canC (R : Rw) (K : Nat) (cs : List Int) : Bool := ((allC K cs.length).any fun ts => hued R K cs ts)
end Sp
namespace Bd
open PySem L2 Ev
end Bd
namespace Sp
open PySem PySem.W L2 Ev Bd
theorem gmem {l : List Int} {k : Nat} (h : k < l.length) : l.getD k 0 ∈ l := by
  rw [List.getD_eq_getElem?_getD, List.getElem?_eq_getElem h]
  exact List.getElem_mem h
section
variable {S S1 S2 : Store} {δ : En} {ma mb mc : ME} {i j x y z : Int} {ns : List Int}
theorem pNe_ii : pNe (.int i) (.int j) S = some (.bl (!(i == j)), S) := by
  simp [pNe, eqD, toPS, PyData.depth, PyData.eqv]
theorem depthAll_le {d : Nat} : ∀ {ps : List PyData}, (∀ p ∈ ps, p.depth ≤ d) → PyData.depthAll ps ≤ d
  | [], _ => by simp [PyData.depthAll]
  | p :: ps, h => by
    have h1 := h p (List.mem_cons_self ..)
    have h2 := depthAll_le (ps := ps) fun q hq => h q (List.mem_cons_of_mem _ hq)
    simp only [PyData.depthAll]
    omega
def srt (xs : List Int) : List Int := xs.mergeSort fun a b => decide (a ≤ b)
theorem alike_ints : sortOk (ns.map PyData.int) = true := by
  unfold sortOk
  simp only [Bool.and_eq_true, Bool.or_eq_true, List.all_eq_true]
  refine ⟨⟨fun p hp q hq => ?_, .inr fun p hp => ?_⟩, fun p hp => ?_⟩
  · obtain ⟨i, _, rfl⟩ := List.mem_map.mp hp
    obtain ⟨j, _, rfl⟩ := List.mem_map.mp hq
    rfl
  · obtain ⟨i, _, rfl⟩ := List.mem_map.mp hp
    rfl
  · obtain ⟨i, _, rfl⟩ := List.mem_map.mp hp
    simp [PyData.depth]
theorem sort_ints (h : ns.length ≤ 1000) : pSortD [lI ns] S = some (lI (srt ns), S) := by
  have e1 : (iD ns).zip (ns.map PyData.int) = ns.map fun i => (D.int i, PyData.int i) := by
    clear h
    induction ns with
    | nil => rfl
    | cons i ns ih =>
      simp only [iD, List.map_cons, List.zip_cons_cons] at ih ⊢
      rw [ih]
  have e2 : (ns.map fun i => (D.int i, PyData.int i)).mergeSort (dataLe false (·.2)) = (srt ns).map fun i => (D.int i, PyData.int i) := by
    unfold srt
    rw [List.map_mergeSort]
    intro a _ b _
    have := congrFun (congrFun (dataLe_int (β := Int) id) a) b
    exact this.symm
  have hc : sortOk (ns.map PyData.int) = true ∧ (iD ns).length ≤ sizeLine := ⟨alike_ints, by rw [iD_len]; exact small (by omega)⟩
  simp only [pSortD, lstOf, Option.bind_some, toPs_ints]
  rw [if_pos hc]
  unfold sortBy
  rw [e1, e2]
  simp [iD]
theorem srt_perm : (srt ns).Perm ns := List.mergeSort_perm _ _
theorem srt_lt (h : ns.Nodup) {a b : Nat} (hab : a < b) (hb : b < (srt ns).length) : (srt ns).getD a 0 < (srt ns).getD b 0 := by
  have h1 : (srt ns).Pairwise (fun a b => decide (a ≤ b) = true) := List.pairwise_mergeSort (fun a b c h1 h2 => by simp at *; omega) (fun a b => by simp; omega) ns
  have h2 : (srt ns).Nodup := srt_perm.nodup_iff.mpr h
  have e1 := List.pairwise_iff_getElem.mp h1 a b (by omega) hb hab
  have e2 := List.pairwise_iff_getElem.mp h2 a b (by omega) hb hab
  rw [List.getD_eq_getElem?_getD, List.getD_eq_getElem?_getD, List.getElem?_eq_getElem hb, List.getElem?_eq_getElem (show a < (srt ns).length by omega)]
  simp only [Option.getD_some]
  simp at e1
  omega
end
/-- a lot of columns -/
structure Lot (w : Nat) (cs : List Int) : Prop where
  ne : 0 < cs.length
  le : cs.length ≤ 8
  b : ∀ c ∈ cs, 0 ≤ c ∧ c < w
  up : ∀ a, a + 1 < cs.length → cs.getD a 0 < cs.getD (a + 1) 0
section
variable {cal : Nat → List D → M D} {S : Store}
theorem integer_ev {i : Int} : funM 1 1 (b_is_integer cal) [.int i] S = .ok (.bl true) S := by
  unfold b_is_integer
  exact funM_rt rfl (sRet_ok (eAnd_t (eIsi_ok (b := true) rfl rfl (by rfl)) rfl (eNot_ok (b := false) (eIsi_ok (b := false) rfl rfl (by rfl)) rfl)))
theorem between_ev {x a b : Int} (h : ∀ S, cal 42 [.int x] S = .ok (.bl true) S) : funM 3 3 (b_is_between cal) [.int x, .int a, .int b] S = .ok (.bl (decide (a ≤ x) && decide (x ≤ b))) S := by
  unfold b_is_between
  refine funM_rt rfl (sSeq_nx (sIf_f (tNot_ok (b := true) (tru_ok (eCal_ok (aCons_ok rfl rfl) (h S)) rfl)) rfl) (sRet_ok ?_))
  cases hh : decide (a ≤ x) with
  | true => exact eAnd_t (eOr_f (eOp_ok rfl rfl rfl) rfl (eOp_ok rfl rfl (by rw [pLe_ii, hh]))) rfl (eOr_f (eOp_ok rfl rfl rfl) rfl (eOp_ok rfl rfl (by rw [pLe_ii, Bool.true_and])))
  | false => exact eAnd_f (eOr_f (eOp_ok rfl rfl rfl) rfl (eOp_ok rfl rfl (by rw [pLe_ii, hh]; rfl))) rfl
theorem funM_nx {nN n : Nat} {ds : List D} {ms : MS} {S S1 : Store} {δ1 : En} (hl : ds.length = n) (h : ms (startD nN ds) S = .nx δ1 S1) : funM nN n ms ds S = .ok .non S1 := by simp only [funM, hl, if_true, h]
end
end Sp
namespace Rg
open Sp
abbrev at_ (p : List Int) (i : Nat) : Int := p.getD i 0
theorem at_left {p e : List Int} {i : Nat} (h : i < p.length) : at_ (p ++ e) i = at_ p i := getD_left h
theorem at_mid {p e : List Int} {x : Int} : at_ (p ++ x :: e) p.length = x := by simp [at_]
theorem at_mem {p : List Int} {i : Nat} (h : i < p.length) : at_ p i ∈ p := gmem h
theorem mem_at {p : List Int} {x : Int} (h : x ∈ p) : ∃ i, i < p.length ∧ at_ p i = x := by
  obtain ⟨i, hi, rfl⟩ := List.mem_iff_getElem.mp h
  exact ⟨i, hi, by simp [at_, List.getD_eq_getElem?_getD, hi]⟩
theorem at_inj {p : List Int} (nd : p.Nodup) {i j : Nat} (hi : i < p.length) (hj : j < p.length) (h : at_ p i = at_ p j) : i = j := by
  have hp := List.pairwise_iff_getElem.mp nd
  have e1 : at_ p i = p[i] := by simp [at_, List.getD_eq_getElem?_getD, hi]
  have e2 : at_ p j = p[j] := by simp [at_, List.getD_eq_getElem?_getD, hj]
  rw [e1, e2] at h
  rcases Nat.lt_trichotomy i j with h1 | h1 | h1
  · exact absurd h (hp i j hi hj h1)
  · exact h1
  · exact absurd h.symm (hp j i hj hi h1)
section
variable (adj : Int → Int → Bool)
structure Closed (c : List Int) : Prop where
  len : 4 ≤ c.length
  nd : c.Nodup
  min : ∀ i, 0 < i → i < c.length → at_ c 0 < at_ c i
  nxt : ∀ i, i + 1 < c.length → adj (at_ c i) (at_ c (i + 1)) = true
  cl : adj (at_ c (c.length - 1)) (at_ c 0) = true
  no : ∀ i j, i + 1 < j → j < c.length → ¬ (i = 0 ∧ j = c.length - 1) → adj (at_ c i) (at_ c j) = false
  dir : at_ c 1 < at_ c (c.length - 1)
structure Walk (p : List Int) : Prop where
  ne : 0 < p.length
  nd : p.Nodup
  min : ∀ i, 0 < i → i < p.length → at_ p 0 < at_ p i
  nxt : ∀ i, i + 1 < p.length → adj (at_ p i) (at_ p (i + 1)) = true
  no : ∀ i j, i + 1 < j → j < p.length → adj (at_ p i) (at_ p j) = false
end
variable {adj : Int → Int → Bool}
theorem Walk.one {v : Int} : Walk adj [v] := ⟨by simp, by simp, fun i h1 h2 => by simp at h2; omega, fun i h => by simp at h, fun i j h1 h2 => by simp at h2; omega⟩
/-- the place x may come next behind a walk -/
structure Next (p : List Int) (adj : Int → Int → Bool) (x : Int) : Prop where
  ad : adj (at_ p (p.length - 1)) x = true
  gt : at_ p 0 < x
  nw : x ∉ p
  far : ∀ i, 0 < i → i + 1 < p.length → adj (at_ p i) x = false
theorem next_of {p e : List Int} {x : Int} (hp : 0 < p.length) (h : Closed adj (p ++ x :: e)) : Next p adj x := by
  have hl : (p ++ x :: e).length = p.length + 1 + e.length := by simp; omega
  have hx : at_ (p ++ x :: e) p.length = x := at_mid
  refine ⟨?_, ?_, ?_, fun i h0 h1 => ?_⟩
  · have := h.nxt (p.length - 1) (by omega)
    rwa [at_left (by omega), show p.length - 1 + 1 = p.length by omega, hx] at this
  · have := h.min p.length hp (by omega)
    rwa [at_left hp, hx] at this
  · have nd := h.nd
    rw [List.nodup_append] at nd
    exact fun hm => nd.2.2 x hm x (by simp) rfl
  · have := h.no i p.length h1 (by omega) (by omega)
    rwa [at_left (by omega), hx] at this
theorem last_of {p : List Int} {x : Int} (hp : 0 < p.length) (h : Closed adj (p ++ [x])) : 2 < p.length ∧ adj x (at_ p 0) = true ∧ at_ p 1 < x := by
  have hl : (p ++ [x]).length = p.length + 1 := by simp
  have hx : at_ (p ++ [x]) p.length = x := at_mid
  have h4 := h.len
  have h1 := h.cl
  have h2 := h.dir
  rw [hl, show p.length + 1 - 1 = p.length by omega, hx, at_left (by omega)] at h1 h2
  exact ⟨by omega, h1, h2⟩
theorem far_of {p e : List Int} {x : Int} (sym : ∀ a b, adj a b = adj b a) (hp : 1 < p.length) (he : e ≠ []) (h : Closed adj (p ++ x :: e)) : adj x (at_ p 0) = false := by
  have he' : 0 < e.length := by cases e with | nil => exact absurd rfl he | cons _ _ => simp
  have hl : (p ++ x :: e).length = p.length + 1 + e.length := by simp; omega
  have hx : at_ (p ++ x :: e) p.length = x := at_mid
  have := h.no 0 p.length (by omega) (by omega) (by omega)
  rwa [at_left (by omega), hx, sym] at this
theorem Next.at_lt {p : List Int} {x : Int} {i j : Nat} (hij : i + 1 < j) (hj : j < (p ++ [x]).length) (n : Next p adj x) (W : Walk adj p) (h0 : i = 0 → j = p.length → adj (at_ p 0) x = false) : adj (at_ (p ++ [x]) i) (at_ (p ++ [x]) j) = false := by
  have hl : (p ++ [x]).length = p.length + 1 := by simp
  by_cases hjp : j < p.length
  · rw [at_left (by omega), at_left hjp]; exact W.no i j hij hjp
  · have ej : j = p.length := by omega
    subst ej
    rw [at_left (by omega), at_mid]
    by_cases hi : i = 0
    · subst hi; exact h0 rfl rfl
    · exact n.far i (by omega) (by omega)
theorem Next.nxts {p : List Int} {x : Int} (n : Next p adj x) (W : Walk adj p) (i : Nat) (hi : i + 1 < (p ++ [x]).length) : adj (at_ (p ++ [x]) i) (at_ (p ++ [x]) (i + 1)) = true := by
  have hl : (p ++ [x]).length = p.length + 1 := by simp
  by_cases hj : i + 1 < p.length
  · rw [at_left (by omega), at_left hj]; exact W.nxt i hj
  · have ej : i = p.length - 1 := by have := W.ne; omega
    subst ej
    have := W.ne
    rw [at_left (by omega), show p.length - 1 + 1 = p.length by omega, at_mid]
    exact n.ad
theorem Next.nds {p : List Int} {x : Int} (n : Next p adj x) (W : Walk adj p) : (p ++ [x]).Nodup := by
  rw [List.nodup_append]
  exact ⟨W.nd, by simp, fun a ha b hb => by rw [List.mem_singleton.mp hb]; rintro rfl; exact n.nw ha⟩
theorem Next.mins {p : List Int} {x : Int} (n : Next p adj x) (W : Walk adj p) (i : Nat) (h0 : 0 < i) (hi : i < (p ++ [x]).length) : at_ (p ++ [x]) 0 < at_ (p ++ [x]) i := by
  have hl : (p ++ [x]).length = p.length + 1 := by simp
  rw [at_left W.ne]
  by_cases hj : i < p.length
  · rw [at_left hj]; exact W.min i h0 hj
  · rw [show i = p.length by omega, at_mid]; exact n.gt
theorem closed_of {p : List Int} {x : Int} (sym : ∀ a b, adj a b = adj b a) (W : Walk adj p) (n : Next p adj x) (h2 : 2 < p.length) (ha : adj x (at_ p 0) = true) (hd : at_ p 1 < x) : Closed adj (p ++ [x]) := by
  have hl : (p ++ [x]).length = p.length + 1 := by simp
  have e1 : at_ (p ++ [x]) ((p ++ [x]).length - 1) = x := by rw [hl, show p.length + 1 - 1 = p.length by omega]; exact at_mid
  refine ⟨by omega, n.nds W, n.mins W, n.nxts W, ?_, fun i j hij hj hn => ?_, ?_⟩
  · rw [e1, at_left W.ne]; exact ha
  · exact n.at_lt hij hj W fun h0 h1 => absurd ⟨h0, by omega⟩ hn
  · rw [e1, at_left (by omega)]; exact hd
theorem Walk.snoc {p : List Int} {x : Int} (sym : ∀ a b, adj a b = adj b a) (W : Walk adj p) (n : Next p adj x) (h : p.length = 1 ∨ adj x (at_ p 0) = false) : Walk adj (p ++ [x]) := by
  have hl : (p ++ [x]).length = p.length + 1 := by simp
  refine ⟨by omega, n.nds W, n.mins W, n.nxts W, fun i j hij hj => n.at_lt hij hj W fun h0 h1 => ?_⟩
  rcases h with h | h
  · omega
  · rw [sym]; exact h
/-- each of V has just two neighbours in V -/
def Two (adj : Int → Int → Bool) (V : List Int) : Prop := ∀ v ∈ V, ∃ a b, a ≠ b ∧ a ∈ V ∧ b ∈ V ∧ adj v a = true ∧ adj v b = true ∧ ∀ z ∈ V, adj v z = true → z = a ∨ z = b
/-- a simple path in V -/
structure Path (adj : Int → Int → Bool) (V : List Int) (p : List Int) : Prop where
  nd : p.Nodup
  sub : ∀ v ∈ p, v ∈ V
  nxt : ∀ i, i + 1 < p.length → adj (at_ p i) (at_ p (i + 1)) = true
theorem two_only {V : List Int} (T : Two adj V) {v x y z : Int} (hv : v ∈ V) (hx : x ∈ V) (hy : y ∈ V) (hz : z ∈ V) (ax : adj v x = true) (ay : adj v y = true) (az : adj v z = true) (hxy : x ≠ y) : z = x ∨ z = y := by
  obtain ⟨a, b, hab, _, _, _, _, h⟩ := T v hv
  rcases h x hx ax with rfl | rfl <;> rcases h y hy ay with rfl | rfl <;> rcases h z hz az with rfl | rfl <;> simp_all
theorem two_other {V : List Int} (T : Two adj V) {v x : Int} (hv : v ∈ V) (hx : x ∈ V) (ax : adj v x = true) : ∃ y ∈ V, y ≠ x ∧ adj v y = true := by
  obtain ⟨a, b, hab, ha, hb, va, vb, h⟩ := T v hv
  rcases h x hx ax with rfl | rfl
  · exact ⟨b, hb, fun e => hab e.symm, vb⟩
  · exact ⟨a, ha, hab, va⟩
/-- a path goes on till it comes back to its first place -/
theorem goes_round {V : List Int} (T : Two adj V) (sym : ∀ a b, adj a b = adj b a) (irr : ∀ a, adj a a = false) : ∀ (n : Nat) (p : List Int), V.length ≤ p.length + n → 2 ≤ p.length → Path adj V p → ∃ e, Path adj V (p ++ e) ∧ 3 ≤ (p ++ e).length ∧ adj (at_ (p ++ e) ((p ++ e).length - 1)) (at_ (p ++ e) 0) = true := by
  intro n
  induction n with
  | zero =>
    intro p hl h2 P
    -- no place is left outside
    have hlast : at_ p (p.length - 1) ∈ V := P.sub _ (at_mem (by omega))
    have hprev : at_ p (p.length - 2) ∈ V := P.sub _ (at_mem (by omega))
    have hadj : adj (at_ p (p.length - 1)) (at_ p (p.length - 2)) = true := by
      have := P.nxt (p.length - 2) (by omega)
      rw [show p.length - 2 + 1 = p.length - 1 by omega, sym] at this; exact this
    obtain ⟨x, hx, hne, hax⟩ := two_other T hlast hprev hadj
    have hxp : x ∈ p := by
      apply Classical.byContradiction
      intro hn
      have := nodup_le (l := x :: p) (m := V) (List.nodup_cons.mpr ⟨hn, P.nd⟩) (fun y hy => by
        rcases List.mem_cons.mp hy with rfl | hy
        · exact hx
        · exact P.sub y hy)
      simp at this; omega
    obtain ⟨j, hj, ej⟩ := mem_at hxp
    have hj1 : j ≠ p.length - 1 := by rintro rfl; rw [ej] at hax; rw [irr] at hax; cases hax
    have hj2 : j ≠ p.length - 2 := by rintro rfl; exact hne ej.symm
    by_cases hj0 : j = 0
    · subst hj0
      refine ⟨[], by simpa using P, ?_, ?_⟩
      · simp; omega
      · rw [List.append_nil, ej]; exact hax
    · -- three neighbours
      exfalso
      have s1 := P.nxt (j - 1) (by omega)
      rw [show j - 1 + 1 = j by omega, ej, sym] at s1
      have s2 := P.nxt j (by omega)
      rw [ej] at s2
      rw [sym] at hax
      have := two_only T hx (P.sub _ (at_mem (i := j - 1) (by omega))) (P.sub _ (at_mem (i := j + 1) (by omega))) hlast s1 s2 hax (fun e => by have := at_inj P.nd (by omega) (by omega) e; omega)
      rcases this with e | e
      · have := at_inj P.nd (by omega) (by omega) e; omega
      · have := at_inj P.nd (by omega) (by omega) e; omega
  | succ n ih =>
    intro p hl h2 P
    have hlast : at_ p (p.length - 1) ∈ V := P.sub _ (at_mem (by omega))
    have hprev : at_ p (p.length - 2) ∈ V := P.sub _ (at_mem (by omega))
    have hadj : adj (at_ p (p.length - 1)) (at_ p (p.length - 2)) = true := by
      have := P.nxt (p.length - 2) (by omega)
      rw [show p.length - 2 + 1 = p.length - 1 by omega, sym] at this; exact this
    obtain ⟨x, hx, hne, hax⟩ := two_other T hlast hprev hadj
    by_cases hxp : x ∈ p
    · obtain ⟨j, hj, ej⟩ := mem_at hxp
      have hj1 : j ≠ p.length - 1 := by rintro rfl; rw [ej] at hax; rw [irr] at hax; cases hax
      have hj2 : j ≠ p.length - 2 := by rintro rfl; exact hne ej.symm
      by_cases hj0 : j = 0
      · subst hj0
        refine ⟨[], by simpa using P, ?_, ?_⟩
        · simp; omega
        · rw [List.append_nil, ej]; exact hax
      · exfalso
        have s1 := P.nxt (j - 1) (by omega)
        rw [show j - 1 + 1 = j by omega, ej, sym] at s1
        have s2 := P.nxt j (by omega)
        rw [ej] at s2
        rw [sym] at hax
        have := two_only T hx (P.sub _ (at_mem (i := j - 1) (by omega))) (P.sub _ (at_mem (i := j + 1) (by omega))) hlast s1 s2 hax (fun e => by have := at_inj P.nd (by omega) (by omega) e; omega)
        rcases this with e | e
        · have := at_inj P.nd (by omega) (by omega) e; omega
        · have := at_inj P.nd (by omega) (by omega) e; omega
    · have P' : Path adj V (p ++ [x]) := by
        refine ⟨?_, fun v hv => ?_, fun i hi => ?_⟩
        · rw [List.nodup_append]
          exact ⟨P.nd, by simp, fun a ha b hb => by rw [List.mem_singleton.mp hb]; rintro rfl; exact hxp ha⟩
        · rcases List.mem_append.mp hv with hv | hv
          · exact P.sub v hv
          · rw [List.mem_singleton.mp hv]; exact hx
        · have hl : (p ++ [x]).length = p.length + 1 := by simp
          by_cases hj : i + 1 < p.length
          · rw [at_left (by omega), at_left hj]; exact P.nxt i hj
          · have ej : i = p.length - 1 := by omega
            subst ej
            rw [at_left (by omega), show p.length - 1 + 1 = p.length by omega, at_mid]
            exact hax
      obtain ⟨e, h1, h2, h3⟩ := ih (p ++ [x]) (by simp; omega) (by simp; omega) P'
      rw [List.append_assoc] at h1 h2 h3
      exact ⟨[x] ++ e, h1, h2, h3⟩
end Rg
namespace Rg
open Sp
variable {adj : Int → Int → Bool}
/-- in a round path each place has just the one before and the one behind -/
theorem round_nb {V c : List Int} (T : Two adj V) (sym : ∀ a b, adj a b = adj b a) (P : Path adj V c) (h3 : 3 ≤ c.length) (hcl : adj (at_ c (c.length - 1)) (at_ c 0) = true) {i : Nat} (hi : i < c.length) {z : Int} (hz : z ∈ V) (haz : adj (at_ c i) z = true) :
    (i = 0 → z = at_ c 1 ∨ z = at_ c (c.length - 1)) ∧ (0 < i → i + 1 < c.length → z = at_ c (i - 1) ∨ z = at_ c (i + 1)) ∧ (i + 1 = c.length → z = at_ c (i - 1) ∨ z = at_ c 0) := by
  have mem : ∀ {j}, j < c.length → at_ c j ∈ V := fun h => P.sub _ (at_mem h)
  have ne : ∀ {j k}, j < c.length → k < c.length → j ≠ k → at_ c j ≠ at_ c k := fun h1 h2 h3 e => h3 (at_inj P.nd h1 h2 e)
  refine ⟨fun h0 => ?_, fun h0 h1 => ?_, fun h1 => ?_⟩
  · subst h0
    refine two_only T (mem hi) (mem (by omega)) (mem (by omega)) hz (P.nxt 0 (by omega)) ?_ haz (ne (by omega) (by omega) (by omega))
    rw [sym]; exact hcl
  · have s1 := P.nxt (i - 1) (by omega)
    rw [show i - 1 + 1 = i by omega, sym] at s1
    exact two_only T (mem hi) (mem (by omega)) (mem (by omega)) hz s1 (P.nxt i h1) haz (ne (by omega) (by omega) (by omega))
  · have s1 := P.nxt (i - 1) (by omega)
    rw [show i - 1 + 1 = i by omega, sym] at s1
    refine two_only T (mem hi) (mem (by omega)) (mem (by omega)) hz s1 ?_ haz (ne (by omega) (by omega) (by omega))
    rw [show i = c.length - 1 by omega]; exact hcl
def Conn (adj : Int → Int → Bool) (V : List Int) (v0 : Int) : Prop := ∀ P : Int → Prop, P v0 → (∀ u ∈ V, ∀ v ∈ V, P u → adj u v = true → P v) → ∀ v ∈ V, P v
theorem closed_cover {V : List Int} {v0 : Int} {side : Int → Bool} (nd : V.Nodup) (T : Two adj V) (sym : ∀ a b, adj a b = adj b a) (bi : ∀ a b, adj a b = true → side a ≠ side b) (hv0 : v0 ∈ V) (hmin : ∀ v ∈ V, v ≠ v0 → v0 < v) (hc : Conn adj V v0) : ∃ c, Closed adj c ∧ c.Perm V := by
  have irr : ∀ a, adj a a = false := fun a => by
    cases h : adj a a with
    | false => rfl
    | true => exact absurd rfl (bi a a h)
  -- the lesser neighbour first
  have hnb : ∃ a b, a < b ∧ a ∈ V ∧ b ∈ V ∧ adj v0 a = true ∧ adj v0 b = true := by
    obtain ⟨a, b, hab, ha, hb, va, vb, _⟩ := T v0 hv0
    rcases Int.lt_trichotomy a b with h | h | h
    · exact ⟨a, b, h, ha, hb, va, vb⟩
    · exact absurd h hab
    · exact ⟨b, a, h, hb, ha, vb, va⟩
  obtain ⟨a, b, hab, ha, hb, va, vb⟩ := hnb
  have hva : v0 ≠ a := by rintro rfl; rw [irr] at va; cases va
  have P0 : Path adj V [v0, a] := by
    refine ⟨by simp [hva], fun v hv => ?_, fun i hi => ?_⟩
    · simp at hv; rcases hv with rfl | rfl <;> assumption
    · have : i = 0 := by simp at hi; omega
      subst this; exact va
  obtain ⟨e, P, h3, hcl⟩ := goes_round T sym irr V.length [v0, a] (by omega) (by simp) P0
  generalize hce : [v0, a] ++ e = c at P h3 hcl
  have c0 : at_ c 0 = v0 := by rw [← hce]; rfl
  have c1 : at_ c 1 = a := by rw [← hce]; rfl
  have nb := fun {i} (hi : i < c.length) {z} (hz : z ∈ V) (haz : adj (at_ c i) z = true) => round_nb T sym P h3 hcl hi hz haz
  have mem : ∀ {j}, j < c.length → at_ c j ∈ V := fun h => P.sub _ (at_mem h)
  have len4 : 4 ≤ c.length := by
    apply Classical.byContradiction
    intro hn
    have e3 : c.length = 3 := by omega
    rw [e3] at hcl
    have s0 := bi _ _ (P.nxt 0 (by omega))
    have s1 := bi _ _ (P.nxt 1 (by omega))
    have s2 := bi _ _ hcl
    revert s0 s1 s2
    simp only [Nat.reduceAdd, Nat.reduceSub]
    cases side (at_ c 0) <;> cases side (at_ c 1) <;> cases side (at_ c 2) <;> simp
  have hbl : b = at_ c (c.length - 1) := by
    have := (nb (i := 0) (by omega) hb (by rw [c0]; exact vb)).1 rfl
    rcases this with e | e
    · rw [c1] at e; omega
    · exact e
  have C : Closed adj c := by
    refine ⟨len4, P.nd, fun i h0 hi => ?_, P.nxt, hcl, fun i j hij hj hn => ?_, ?_⟩
    · rw [c0]
      exact hmin _ (mem hi) fun e => by rw [← c0] at e; have := at_inj P.nd hi (by omega) e; omega
    · cases h : adj (at_ c i) (at_ c j) with
      | false => rfl
      | true =>
        exfalso
        have n := nb (i := i) (by omega) (mem hj) h
        by_cases h0 : i = 0
        · rcases n.1 h0 with e | e
          · have := at_inj P.nd hj (by omega) e; omega
          · have := at_inj P.nd hj (by omega) e; exact hn ⟨h0, this⟩
        · rcases n.2.1 (by omega) (by omega) with e | e
          · have := at_inj P.nd hj (by omega) e; omega
          · have := at_inj P.nd hj (by omega) e; omega
    · rw [c1, ← hbl]; exact hab
  refine ⟨c, C, (List.perm_ext_iff_of_nodup P.nd nd).mpr fun v => ⟨fun h => P.sub v h, fun h => ?_⟩⟩
  refine hc (· ∈ c) (by rw [← c0]; exact at_mem (by omega)) (fun u hu v hv huc huv => ?_) v h
  obtain ⟨i, hi, rfl⟩ := mem_at huc
  have n := nb hi hv huv
  by_cases h0 : i = 0
  · rcases n.1 h0 with e | e <;> rw [e] <;> exact at_mem (by omega)
  · by_cases h1 : i + 1 < c.length
    · rcases n.2.1 (by omega) h1 with e | e <;> rw [e] <;> exact at_mem (by omega)
    · rcases n.2.2 (by omega) with e | e <;> rw [e] <;> exact at_mem (by omega)
/-- in a ring each place has just two -/
theorem closed_nb {c : List Int} (C : Closed adj c) (sym : ∀ a b, adj a b = adj b a) (irr : ∀ a, adj a a = false) {i : Nat} (hi : i < c.length) : ∃ a b, a ≠ b ∧ a ∈ c ∧ b ∈ c ∧ adj (at_ c i) a = true ∧ adj (at_ c i) b = true ∧ ∀ z ∈ c, adj (at_ c i) z = true → z = a ∨ z = b := by
  have h4 := C.len
  have ne : ∀ {j k}, j < c.length → k < c.length → j ≠ k → at_ c j ≠ at_ c k := fun h1 h2 h3 e => h3 (at_inj C.nd h1 h2 e)
  have key : ∀ {j}, j < c.length → adj (at_ c i) (at_ c j) = true → j = i + 1 ∨ i = j + 1 ∨ (i = 0 ∧ j = c.length - 1) ∨ (j = 0 ∧ i = c.length - 1) := fun {j} hj h => by
    apply Classical.byContradiction
    intro hn
    rcases Nat.lt_trichotomy i j with h1 | h1 | h1
    · have := C.no i j (by omega) hj (fun e => hn (.inr (.inr (.inl e))))
      rw [this] at h; cases h
    · subst h1; rw [irr] at h; cases h
    · have := C.no j i (by omega) hi (fun e => hn (.inr (.inr (.inr e))))
      rw [sym, this] at h; cases h
  by_cases h0 : i = 0
  · subst h0
    refine ⟨at_ c 1, at_ c (c.length - 1), ne (by omega) (by omega) (by omega), at_mem (by omega), at_mem (by omega), C.nxt 0 (by omega), by rw [sym]; exact C.cl, fun z hz haz => ?_⟩
    obtain ⟨j, hj, rfl⟩ := mem_at hz
    rcases key hj haz with e | e | e | e
    · subst e; exact .inl rfl
    · omega
    · rw [e.2]; exact .inr rfl
    · omega
  · have s1 : adj (at_ c i) (at_ c (i - 1)) = true := by
      have := C.nxt (i - 1) (by omega)
      rw [show i - 1 + 1 = i by omega, sym] at this; exact this
    by_cases h1 : i + 1 < c.length
    · refine ⟨at_ c (i - 1), at_ c (i + 1), ne (by omega) (by omega) (by omega), at_mem (by omega), at_mem (by omega), s1, C.nxt i h1, fun z hz haz => ?_⟩
      obtain ⟨j, hj, rfl⟩ := mem_at hz
      rcases key hj haz with e | e | e | e
      · subst e; exact .inr rfl
      · rw [show j = i - 1 by omega]; exact .inl rfl
      · omega
      · omega
    · have ei : i = c.length - 1 := by omega
      refine ⟨at_ c (i - 1), at_ c 0, ne (by omega) (by omega) (by omega), at_mem (by omega), at_mem (by omega), s1, by rw [ei]; exact C.cl, fun z hz haz => ?_⟩
      obtain ⟨j, hj, rfl⟩ := mem_at hz
      rcases key hj haz with e | e | e | e
      · omega
      · rw [show j = i - 1 by omega]; exact .inl rfl
      · omega
      · rw [e.1]; exact .inr rfl
theorem closed_two {c V : List Int} (C : Closed adj c) (sym : ∀ a b, adj a b = adj b a) (irr : ∀ a, adj a a = false) (hp : c.Perm V) : Two adj V := fun v hv => by
  obtain ⟨i, hi, rfl⟩ := mem_at (hp.mem_iff.mpr hv)
  obtain ⟨a, b, h1, h2, h3, h4, h5, h6⟩ := closed_nb C sym irr hi
  exact ⟨a, b, h1, hp.mem_iff.mp h2, hp.mem_iff.mp h3, h4, h5, fun z hz => h6 z (hp.mem_iff.mpr hz)⟩
theorem closed_conn {c V : List Int} (C : Closed adj c) (hp : c.Perm V) : Conn adj V (at_ c 0) := fun P h0 hs v hv => by
  obtain ⟨i, hi, rfl⟩ := mem_at (hp.mem_iff.mpr hv)
  clear hv
  induction i with
  | zero => exact h0
  | succ i ih =>
    exact hs _ (hp.mem_iff.mp (at_mem (by omega))) _ (hp.mem_iff.mp (at_mem hi)) (ih (by omega)) (C.nxt i hi)
theorem closed_min {c V : List Int} (C : Closed adj c) (hp : c.Perm V) : at_ c 0 ∈ V ∧ ∀ v ∈ V, v ≠ at_ c 0 → at_ c 0 < v := by
  have := C.len
  refine ⟨hp.mem_iff.mp (at_mem (by omega)), fun v hv hne => ?_⟩
  obtain ⟨i, hi, rfl⟩ := mem_at (hp.mem_iff.mpr hv)
  exact C.min i (Nat.pos_of_ne_zero (by rintro rfl; exact hne rfl)) hi
/-- sides alternate, so half of the places are on the first one's side -/
theorem closed_half {c : List Int} {side : Int → Bool} (C : Closed adj c) (bi : ∀ a b, adj a b = true → side a ≠ side b) : (c.filter fun v => side v == side (at_ c 0)).length * 2 = c.length := by
  have h4 := C.len
  have alt : ∀ i, i < c.length → (side (at_ c i) = side (at_ c 0) ↔ i % 2 = 0) := by
    intro i
    induction i with
    | zero => intro _; simp
    | succ i ih =>
      intro hi
      have h1 := ih (by omega)
      have h2 := bi _ _ (C.nxt i hi)
      by_cases h : side (at_ c i) = side (at_ c 0)
      · have := h1.mp h
        constructor
        · intro e; exact absurd (h.trans e.symm) h2
        · intro e; omega
      · have : ¬ i % 2 = 0 := fun e => h (h1.mpr e)
        constructor
        · intro _; omega
        · intro _
          revert h h2
          cases side (at_ c i) <;> cases side (at_ c 0) <;> cases side (at_ c (i + 1)) <;> simp
  have even : c.length % 2 = 0 := by
    have h1 := alt (c.length - 1) (by omega)
    have h2 := bi _ _ C.cl
    have : ¬ (c.length - 1) % 2 = 0 := fun e => h2 (h1.mpr e)
    omega
  have gen : ∀ (l : List Int) (b : Bool), (∀ i, i < l.length → (side (at_ l i) = b ↔ i % 2 = 0)) → (l.filter fun v => side v == b).length = (l.length + 1) / 2 ∧ (l.filter fun v => side v == !b).length = l.length / 2 := by
    intro l
    induction l with
    | nil => intro b _; simp
    | cons x l ih =>
      intro b h
      have hx : side x = b := (h 0 (by simp)).mpr rfl
      have hl := ih (!b) (fun i hi => by
        have h1 := h (i + 1) (by simp; omega)
        have e : at_ (x :: l) (i + 1) = at_ l i := by simp [at_]
        rw [e] at h1
        constructor
        · intro e
          have : ¬ (i + 1) % 2 = 0 := fun z => by have := h1.mpr z; rw [this] at e; cases b <;> simp at e
          omega
        · intro e
          have : ¬ side (at_ l i) = b := fun z => by have := h1.mp z; omega
          revert this
          cases side (at_ l i) <;> cases b <;> simp)
      rw [Bool.not_not] at hl
      constructor
      · rw [List.filter_cons, hx]; simp only [beq_self_eq_true, if_true, List.length_cons, hl.2]; omega
      · rw [List.filter_cons, hx]
        have : (b == !b) = false := by cases b <;> rfl
        simp only [this, Bool.false_eq_true, if_false, List.length_cons]
        exact hl.1
  have := (gen c (side (at_ c 0)) alt).1
  rw [this]; omega
end Rg
namespace Rg
open PySem PySem.W L2 Ev Bd Sp
def subs : Nat → Rw
  | 0 => [[]]
  | n + 1 => subs n ++ (subs n).map fun l => l ++ [(n : Int)]
theorem subs_len : ∀ n, (subs n).length = 2 ^ n
  | 0 => rfl
  | n + 1 => by simp only [subs, List.length_append, List.length_map, subs_len n]; omega
def Asc (l : List Int) : Prop := l.Pairwise (· < ·)
theorem mem_subs : ∀ {n : Nat} {l : List Int}, Asc l → (∀ x ∈ l, 0 ≤ x ∧ x < n) → l ∈ subs n
  | 0, l, _, h => by
    cases l with
    | nil => simp [subs]
    | cons x l => have := h x (List.mem_cons_self ..); omega
  | n + 1, l, ha, h => by
    unfold subs
    rw [List.mem_append]
    by_cases hn : (n : Int) ∈ l
    · right
      have hne : l ≠ [] := by rintro rfl; simp at hn
      have hl := List.dropLast_concat_getLast hne
      have ha' := ha
      rw [← hl] at ha'
      unfold Asc at ha'
      rw [List.pairwise_append] at ha'
      have hlast : l.getLast hne = n := by
        have h1 := h _ (List.getLast_mem hne)
        rw [← hl] at hn
        rcases List.mem_append.mp hn with h2 | h2
        · have := ha'.2.2 _ h2 _ (List.mem_singleton.mpr rfl); omega
        · exact (List.mem_singleton.mp h2).symm
      refine List.mem_map.mpr ⟨l.dropLast, mem_subs ha'.1 fun x hx => ?_, by rw [← hlast]; exact hl⟩
      have h1 := h x (List.dropLast_subset _ hx)
      have h2 := ha'.2.2 x hx _ (List.mem_singleton.mpr rfl)
      rw [hlast] at h2
      omega
    · left
      refine mem_subs ha fun x hx => ?_
      have := h x hx
      have : x ≠ n := by rintro rfl; exact hn hx
      omega
theorem srt_asc {l : List Int} (h : l.Nodup) : Asc (srt l) := by
  refine List.pairwise_iff_getElem.mpr fun i j hi hj hij => ?_
  have := srt_lt h hij hj
  simpa [List.getD_eq_getElem?_getD, hi, hj] using this
section
variable {S : Store} {p : List Int} {δ : En}
theorem ix_last (h : 0 < p.length) : pIx (lI p) (.int (-1)) S = some (.int (at_ p (p.length - 1)), S) := by
  have e : atI (iD p) (-1) = some (.int (at_ p (p.length - 1))) := by
    unfold atI ixN
    rw [iD_len]
    have h1 : ¬ (0 : Int) ≤ -1 := by omega
    have h2 : ((-1 : Int) + (p.length : Int)).toNat = p.length - 1 := by omega
    have h3 : (0 : Int) ≤ -1 + (p.length : Int) := by omega
    have hl : p.length - 1 < p.length := by omega
    have h4 : (1 : Int) ≤ (p.length : Int) := by omega
    simp [h1, h2, h3, h4, iD, at_, List.getD_eq_getElem?_getD, hl]
  simp only [pIx, seqOf, lstOf, Option.bind_some, e, Option.map_some]
theorem cut_mid {mo : ME} (h : mo δ S = .ok (lI p) S) (hl : p.length ≤ 1000) : eCut mo (some (eC (.int 1))) (some (eUn pNeg (eC (.int 1)))) δ S = .ok (lI ((p.drop 1).take (p.length - 2))) S := by
  have e : cutD (iD p) (some 1) (some (-1)) = iD ((p.drop 1).take (p.length - 2)) := by
    unfold cutD
    have s1 : HT.sIx (iD p).length 0 (some 1) = min 1 p.length := by rw [iD_len]; exact HT.sIx_nat p.length 0 1
    have s2 : HT.sIx (iD p).length (iD p).length (some (-1)) = p.length - 1 := by
      rw [iD_len]
      unfold HT.sIx
      simp only [show (-1 : Int) < 0 by omega, if_true]
      omega
    rw [s1, s2]
    cases p with
    | nil => rfl
    | cons x p =>
      simp only [List.length_cons]
      rw [show min 1 (p.length + 1) = 1 by omega]
      simp [iD, List.map_take]
  have hl' : (iD ((p.drop 1).take (p.length - 2))).length ≤ sizeLine := by
    rw [iD_len]; exact small (by simp; omega)
  have e2 : pCut (lI p) (some 1) (some (-1)) S = some (lI ((p.drop 1).take (p.length - 2)), S) := by
    show ((lstOf S (lI p)).bind fun xs => newL (cutD xs (some 1) (some (-1))) S) = _
    rw [show lstOf S (lI p) = some (iD p) from rfl, Option.bind_some, e, newL_ev hl']
  have e3 : eUn pNeg (eC (.int 1)) δ S = .ok (.int (-1)) S := rfl
  simp only [eCut, M.bind, h, oPart, M.pure, lft, e3]
  show (match eC (.int 1) δ S with | _ => _) = _
  simp only [eC, M.pure, M.bind, e2]
end
theorem mem_mid {p : List Int} {x : Int} : x ∈ (p.drop 1).take (p.length - 2) ↔ ∃ i, 0 < i ∧ i + 1 < p.length ∧ at_ p i = x := by
  constructor
  · intro h
    obtain ⟨i, hi, e⟩ := List.mem_iff_getElem.mp h
    rw [List.length_take, List.length_drop] at hi
    refine ⟨i + 1, by omega, by omega, ?_⟩
    rw [List.getElem_take, List.getElem_drop] at e
    have : i + 1 < p.length := by omega
    rw [← e]
    simp [at_, List.getD_eq_getElem?_getD, this, Nat.add_comm]
  · rintro ⟨i, h0, h1, rfl⟩
    refine List.mem_iff_getElem.mpr ⟨i - 1, by rw [List.length_take, List.length_drop]; omega, ?_⟩
    rw [List.getElem_take, List.getElem_drop]
    have : i < p.length := by omega
    simp [at_, List.getD_eq_getElem?_getD, this, show 1 + (i - 1) = i by omega]
theorem putT_keys {kvs : List (List Int × D)} {k : List Int} {v : D} : (∀ z, z ∈ (putT kvs k v).map (·.1) ↔ z ∈ kvs.map (·.1) ∨ z = k) ∧ ((kvs.map (·.1)).Nodup → ((putT kvs k v).map (·.1)).Nodup) := by
  unfold putT
  by_cases h : (kvs.any fun kv => decide (kv.1 = k)) = true
  · have hm : k ∈ kvs.map (·.1) := by
      obtain ⟨kv, h1, h2⟩ := List.any_eq_true.mp h
      exact List.mem_map.mpr ⟨kv, h1, by simpa using h2⟩
    have e : (kvs.map (fun kv => if kv.1 = k then (kv.1, v) else kv)).map (·.1) = kvs.map (·.1) := by
      rw [List.map_map]
      refine List.map_congr_left fun kv _ => ?_
      simp only [Function.comp]
      split <;> rfl
    rw [if_pos h, e]
    refine ⟨fun z => ⟨.inl, fun hz => ?_⟩, id⟩
    rcases hz with hz | rfl
    · exact hz
    · exact hm
  · have hm : k ∉ kvs.map (·.1) := fun hm => h (by
      obtain ⟨kv, h1, h2⟩ := List.mem_map.mp hm
      exact List.any_eq_true.mpr ⟨kv, h1, by simpa using h2⟩)
    rw [if_neg h, List.map_append]
    refine ⟨fun z => by simp, fun nd => ?_⟩
    rw [List.nodup_append]
    exact ⟨nd, by simp, fun a ha b hb => by simp at hb; subst hb; rintro rfl; exact hm ha⟩
end Rg
namespace Sp
open PySem PySem.W L2 Ev Bd
section
variable {cal : Nat → List D → M D} {S : Store}
def encO : Option (List Int) → D
  | none => .non
  | some ts => tI ts
end
end Sp
namespace Sp
open PySem PySem.W L2 Ev Bd
theorem loop_nx {mg : TGM} {mb : MS} {d : D} {ds : List D} {δ δ1 δ2 : En} {S S1 S2 : Store} (h1 : mg d δ S = some (δ1, S1)) (h2 : mb δ1 S1 = .nx δ2 S2) : loopF mg mb (d :: ds) δ S = loopF mg mb ds δ2 S2 := by simp only [loopF, h1, h2]
section
variable {cal : Nat → List D → M D} {S : Store}
/-- what colouring answers -/
def Ans (R : Rw) (K : Nat) (cs : List Int) (o : Option (List Int)) : Prop := match o with
  | none => canC R K cs = false
  | some ts => canC R K cs = true ∧ ts.length = cs.length ∧ (∀ x ∈ ts, 0 ≤ x ∧ x < K) ∧ hued R K cs ts = true
end
end Sp
namespace Rg
open PySem PySem.W L2 Ev Bd Sp
theorem loop_ct {mg : TGM} {mb : MS} {d : D} {ds : List D} {δ δ1 δ2 : En} {S S1 S2 : Store} (h1 : mg d δ S = some (δ1, S1)) (h2 : mb δ1 S1 = .ct δ2 S2) : loopF mg mb (d :: ds) δ S = loopF mg mb ds δ2 S2 := by simp only [loopF, h1, h2]
theorem sSeq_ct {ms mt : MS} {δ δ1 : En} {S S1 : Store} (h : ms δ S = .ct δ1 S1) : sSeq ms mt δ S = .ct δ1 S1 := by simp only [sSeq, h]
abbrev Ks (kvs : List (List Int × D)) : Rw := kvs.map (·.1)
structure KOk (n : Nat) (kvs : List (List Int × D)) : Prop where
  nd : (Ks kvs).Nodup
  ok : ∀ k ∈ Ks kvs, Asc k ∧ ∀ x ∈ k, 0 ≤ x ∧ x < n
theorem KOk.len {n : Nat} {kvs : List (List Int × D)} (h : KOk n kvs) : kvs.length ≤ 2 ^ n := by
  have := nodup_le h.nd (m := subs n) fun k hk => mem_subs (h.ok k hk).1 (h.ok k hk).2
  rw [subs_len, List.length_map] at this
  exact this
/-- lists of neighbours -/
structure Spots (n : Nat) (sp : Rw) (adj : Int → Int → Bool) : Prop where
  len : sp.length = n
  n16 : n ≤ 16
  row : ∀ r ∈ sp, r.length ≤ 16
  mem : ∀ (a b : Int), 0 ≤ a → a < n → (adj a b = true ↔ b ∈ sp.getD a.toNat [])
  rg : ∀ (a b : Int), adj a b = true → (0 ≤ a ∧ a < n) ∧ (0 ≤ b ∧ b < n)
  sym : ∀ a b, adj a b = adj b a
theorem Spots.dec {n : Nat} {sp : Rw} {adj : Int → Int → Bool} (H : Spots n sp adj) {a b : Int} (h0 : 0 ≤ a) (h1 : a < n) : decide (b ∈ sp.getD a.toNat []) = adj a b := by
  cases h : adj a b with
  | true => exact decide_eq_true ((H.mem a b h0 h1).mp h)
  | false => exact decide_eq_false fun hm => by rw [(H.mem a b h0 h1).mpr hm] at h; cases h
def New (adj : Int → Int → Bool) (p : List Int) (x : Int) (k : List Int) : Prop := ∃ e, Closed adj (p ++ x :: e) ∧ k = srt (p ++ x :: e)
def GrS (n : Nat) (sp : Rw) (adj : Int → Int → Bool) (f : List D → M D) (p : List Int) : Prop :=
  ∀ (t : Nat) (S : Store) (kvs : List (List Int × D)), t < S.length → KOk n kvs → ∃ kvs', f [rowsL sp, lI p, .ref t] (S.set t (some (.dT kvs))) = .ok .non (S.set t (some (.dT kvs'))) ∧ KOk n kvs' ∧ ∀ k, k ∈ Ks kvs' ↔ k ∈ Ks kvs ∨ ∃ x, New adj p x k
def grBody (cal : Nat → List D → M D) : MS := (sSeq (sIf (tOrM (fun δ => asB (eOp pLe (eVar 3) (eOp pIx (eVar 1) (eC (.int 0))) δ)) (fun δ => asB (eOp pIn (eVar 3) (eVar 1) δ))) sCnt sNext)
    (sSeq (sAsg (eLc newL (iAny (eCut (eVar 1) (some (eC (.int 1))) (some (eUn pNeg (eC (.int 1)))))) (uNm 5) (fun δ => asB (eOp pIn (eVar 3) (eOp pIx (eVar 0) (eVar 5)) δ)) (eVar 5) [5]) (gNm 4))
    (sSeq (sIf (fun δ => tru ((eVar 4) δ)) sCnt sNext)
    (sSeq (sIf (tAndM (fun δ => asB (eOp pGt (eCallV (pLen) (aCons (eVar 1) aNil)) (eC (.int 1)) δ)) (fun δ => asB (eOp pIn (eOp pIx (eVar 1) (eC (.int 0))) (eOp pIx (eVar 0) (eVar 3)) δ))) (sSeq (sIf (tAndM (fun δ => asB (eOp pGt (eCallV (pLen) (aCons (eVar 1) aNil)) (eC (.int 2)) δ)) (fun δ => asB (eOp pLt (eOp pIx (eVar 1) (eC (.int 1))) (eVar 3) δ))) (sPutT (eC (.bl true)) (eVar 2) (eCallV (pSortD) (aCons (eLst (aStar (eVar 1) (aCons (eVar 3) aNil))) aNil))) sNext)
    sCnt) sNext)
    (sExpr (eCal (cal 62) (aCons (eVar 0) (aCons (eLst (aStar (eVar 1) (aCons (eVar 3) aNil))) (aCons (eVar 2) aNil)))))))))
theorem grown_eq {cal : Nat → List D → M D} : b_grown cal = sFor (iAny (eOp pIx (eVar 0) (eOp pIx (eVar 1) (eUn pNeg (eC (.int 1)))))) (gNm 3) (grBody cal) := rfl
theorem put_ok {mv mo me : ME} {δ : En} {S S1 S2 S3 : Store} {v : D} {t : Nat} {ks : List Int} {kvs : List (List Int × D)} (h1 : mv δ S = .ok v S1) (h2 : mo δ S1 = .ok (.ref t) S2) (h3 : me δ S2 = .ok (lI ks) S3) (hc : S3[t]? = some (some (.dT kvs))) (hl : kvs.length ≤ 100000) (hk : ks.length ≤ 1000) : sPutT mv mo me δ S = .nx δ (S3.set t (some (.dT (putT kvs ks v)))) := by
  have hh : kvs.length < sizeLine ∧ (iD ks).length ≤ sizeLine := ⟨Nat.lt_of_lt_of_le (show kvs.length < 1000000 by omega) (small (Nat.le_refl _)), by rw [iD_len]; exact small (by omega)⟩
  have e : putCell t (iD ks) v S3 = some (S3.set t (some (.dT (putT kvs ks v)))) := by
    simp only [putCell, hc, ints_iD, if_pos hh]
  simp only [sPutT, ofE, M.bind, h1, h2, h3, lstOf, e]
theorem body_ev {n : Nat} {sp : Rw} {adj : Int → Int → Bool} {cal : Nat → List D → M D} {p : List Int} (H : Spots n sp adj) (W : Walk adj p) (hp : ∀ v ∈ p, 0 ≤ v ∧ v < n)
    (hrec : ∀ x : Int, Walk adj (p ++ [x]) → GrS n sp adj (cal 62) (p ++ [x])) {x : Int} (hax : adj (at_ p (p.length - 1)) x = true) {t : Nat} {S : Store} {kvs : List (List Int × D)} (ht : t < S.length) (hk : KOk n kvs) (o4 : Option D) :
    ∃ kvs' o4', (grBody cal [some (rowsL sp), some (lI p), some (.ref t), some (.int x), o4, none] (S.set t (some (.dT kvs))) = .nx [some (rowsL sp), some (lI p), some (.ref t), some (.int x), o4', none] (S.set t (some (.dT kvs'))) ∨ grBody cal [some (rowsL sp), some (lI p), some (.ref t), some (.int x), o4, none] (S.set t (some (.dT kvs))) = .ct [some (rowsL sp), some (lI p), some (.ref t), some (.int x), o4', none] (S.set t (some (.dT kvs')))) ∧ KOk n kvs' ∧ ∀ k, k ∈ Ks kvs' ↔ k ∈ Ks kvs ∨ New adj p x k := by
  have hne := W.ne
  have hn := H.n16
  have hx := (H.rg _ _ hax).2
  have hpl : p.length ≤ 16 := by
    have := nodup_le W.nd (m := rng n) fun v hv => mem_rng.mpr (hp v hv)
    rw [rng_length] at this; omega
  obtain ⟨Sk, hS⟩ : ∃ Sk, S.set t (some (.dT kvs)) = Sk := ⟨_, rfl⟩
  rw [hS]
  have hcell : Sk[t]? = some (some (.dT kvs)) := by rw [← hS, List.getElem?_set_self ht]
  have spl : ∀ a : Int, 0 ≤ a → a < n → pIx (rowsL sp) (.int a) Sk = some (lI (sp.getD a.toNat []), Sk) := fun a h0 h1 => ix_rL h0 (by rw [H.len]; exact h1)
  have none_new : (∀ e, ¬ Closed adj (p ++ x :: e)) → ∀ k, k ∈ Ks kvs ↔ k ∈ Ks kvs ∨ New adj p x k := fun h k => ⟨.inl, fun z => z.elim id fun ⟨e, h1, _⟩ => absurd h1 (h e)⟩
  have ix0 : pIx (lI p) (.int 0) Sk = some (.int (at_ p 0), Sk) := ix_lI (by omega) (by omega)
  have ix1 : 1 < p.length → pIx (lI p) (.int 1) Sk = some (.int (at_ p 1), Sk) := fun h => ix_lI (by omega) (by omega)
  unfold grBody
  by_cases c1 : x ≤ at_ p 0 ∨ x ∈ p
  · -- not behind the first place, or there already
    have t0 : tOrM (fun δ => asB (eOp pLe (eVar 3) (eOp pIx (eVar 1) (eC (.int 0))) δ)) (fun δ => asB (eOp pIn (eVar 3) (eVar 1) δ)) [some (rowsL sp), some (lI p), some (.ref t), some (.int x), o4, none] Sk = .ok true Sk := by
      by_cases c : x ≤ at_ p 0
      · exact tOr_t (asB_ok (eOp_ok rfl (eOp_ok rfl rfl ix0) (by rw [pLe_ii, decide_eq_true c])))
      · exact tOr_f (asB_ok (eOp_ok rfl (eOp_ok rfl rfl ix0) (by rw [pLe_ii, decide_eq_false c]))) (asB_ok (eOp_ok rfl rfl (by rw [in_lI, decide_eq_true (c1.resolve_left c)])))
    refine ⟨kvs, o4, .inr (by rw [hS]; refine sSeq_ct (sIf_t ?_ rfl); exact t0), hk, none_new fun e C => ?_⟩
    · have nx := next_of hne C
      rcases c1 with c | c
      · have := nx.gt; omega
      · exact nx.nw c
  · have c1a : ¬ x ≤ at_ p 0 := fun h => c1 (.inl h)
    have c1b : x ∉ p := fun h => c1 (.inr h)
    have t1 : tOrM (fun δ => asB (eOp pLe (eVar 3) (eOp pIx (eVar 1) (eC (.int 0))) δ)) (fun δ => asB (eOp pIn (eVar 3) (eVar 1) δ)) [some (rowsL sp), some (lI p), some (.ref t), some (.int x), o4, none] Sk = .ok false Sk :=
      tOr_f (asB_ok (eOp_ok rfl (eOp_ok rfl rfl ix0) (by rw [pLe_ii, decide_eq_false c1a]))) (asB_ok (eOp_ok rfl rfl (by rw [in_lI, decide_eq_false c1b])))
    -- those next to it in the middle
    let near := (((p.drop 1).take (p.length - 2)).filter fun m => adj m x)
    have hml : ((p.drop 1).take (p.length - 2)).length ≤ 16 := by rw [List.length_take, List.length_drop]; omega
    have e4 := lc_filE (S := Sk) (mt := fun δ => asB (eOp pIn (eVar 3) (eOp pIx (eVar 0) (eVar 5)) δ)) (me := eVar 5) (δ0 := wipeD [some (rowsL sp), some (lI p), some (.ref t), some (.int x), o4, none] [5]) (k := 5) D.int D.int (fun m => adj m x) id (zs := (p.drop 1).take (p.length - 2)) (small (by omega)) (fun m hm => by
      obtain ⟨i, h0, h1, rfl⟩ := mem_mid.mp hm
      have hm := hp _ (at_mem (p := p) (i := i) (by omega))
      exact asB_ok (eOp_ok rfl (eOp_ok rfl rfl (spl _ hm.1 hm.2)) (by rw [in_lI, H.dec hm.1 hm.2]))) (fun m hm _ => rfl)
    rw [List.map_id] at e4
    have hnl : near.length ≤ 16 := Nat.le_trans (List.length_filter_le _ _) hml
    have a4 : sAsg (eLc newL (iAny (eCut (eVar 1) (some (eC (.int 1))) (some (eUn pNeg (eC (.int 1)))))) (uNm 5) (fun δ => asB (eOp pIn (eVar 3) (eOp pIx (eVar 0) (eVar 5)) δ)) (eVar 5) [5]) (gNm 4) [some (rowsL sp), some (lI p), some (.ref t), some (.int x), o4, none] Sk = .nx [some (rowsL sp), some (lI p), some (.ref t), some (.int x), some (lI near), none] Sk :=
      sAsg_ok (eLc_ok (iAny_ok (cut_mid rfl (by omega)) rfl) e4 (newL_ev (by rw [List.length_map]; exact small (Nat.le_trans hnl (by omega))))) rfl
    have tn : tru (eVar 4 [some (rowsL sp), some (lI p), some (.ref t), some (.int x), some (lI near), none]) Sk = .ok (!near.isEmpty) Sk := tru_ok rfl (by simp [truD, seqOf, lstOf, iD])
    have s1 : sIf (tOrM (fun δ => asB (eOp pLe (eVar 3) (eOp pIx (eVar 1) (eC (.int 0))) δ)) (fun δ => asB (eOp pIn (eVar 3) (eVar 1) δ))) sCnt sNext [some (rowsL sp), some (lI p), some (.ref t), some (.int x), o4, none] Sk = .nx [some (rowsL sp), some (lI p), some (.ref t), some (.int x), o4, none] Sk := sIf_f t1 rfl
    by_cases c2 : near = []
    · have hfar : ∀ i, 0 < i → i + 1 < p.length → adj (at_ p i) x = false := fun i h0 h1 => by
        cases h : adj (at_ p i) x with
        | false => rfl
        | true =>
          have : at_ p i ∈ near := List.mem_filter.mpr ⟨mem_mid.mpr ⟨i, h0, h1, rfl⟩, h⟩
          rw [c2] at this; simp at this
      have nx : Next p adj x := ⟨hax, by omega, c1b, hfar⟩
      have s3 : sIf (fun δ => tru ((eVar 4) δ)) sCnt sNext [some (rowsL sp), some (lI p), some (.ref t), some (.int x), some (lI near), none] Sk = .nx [some (rowsL sp), some (lI p), some (.ref t), some (.int x), some (lI near), none] Sk := sIf_f (tn.trans (by rw [c2]; rfl)) rfl
      have hlst : ∀ S', eLst (aStar (eVar 1) (aCons (eVar 3) aNil)) [some (rowsL sp), some (lI p), some (.ref t), some (.int x), some (lI near), none] S' = .ok (lI (p ++ [x])) S' := fun S' => by
        have := eLst_ok (S := S') (aStar_ok (ma := eVar 1) (mas := aCons (eVar 3) aNil) (δ := [some (rowsL sp), some (lI p), some (.ref t), some (.int x), some (lI near), none]) (S := S') (x := lI p) (xs := iD p) rfl rfl (aCons_ok rfl rfl)) (small (by rw [List.length_append, iD_len]; simp; omega))
        rw [this, show lI (p ++ [x]) = .lst (iD p ++ [.int x]) by rw [lI, iD_app]; rfl]
      have tlen : ∀ (m : Int) S', asB (eOp pGt (eCallV (pLen) (aCons (eVar 1) aNil)) (eC (.int m)) [some (rowsL sp), some (lI p), some (.ref t), some (.int x), some (lI near), none]) S' = .ok (decide (m < (p.length : Int))) S' := fun m S' => asB_ok (eOp_ok (eCallV_ok (aCons_ok rfl rfl) len_lI) rfl pGt_ii)
      have tback : asB (eOp pIn (eOp pIx (eVar 1) (eC (.int 0))) (eOp pIx (eVar 0) (eVar 3)) [some (rowsL sp), some (lI p), some (.ref t), some (.int x), some (lI near), none]) Sk = .ok (adj x (at_ p 0)) Sk := asB_ok (eOp_ok (eOp_ok rfl rfl ix0) (eOp_ok rfl rfl (spl x hx.1 hx.2)) (by rw [in_lI, H.dec hx.1 hx.2]))
      by_cases c3 : 1 < p.length ∧ adj x (at_ p 0) = true
      · have tc : tAndM (fun δ => asB (eOp pGt (eCallV (pLen) (aCons (eVar 1) aNil)) (eC (.int 1)) δ)) (fun δ => asB (eOp pIn (eOp pIx (eVar 1) (eC (.int 0))) (eOp pIx (eVar 0) (eVar 3)) δ)) [some (rowsL sp), some (lI p), some (.ref t), some (.int x), some (lI near), none] Sk = .ok true Sk := tAnd_t ((tlen 1 Sk).trans (by rw [decide_eq_true (by omega)])) (tback.trans (by rw [c3.2]))
        have only : ∀ e, Closed adj (p ++ x :: e) → e = [] := fun e C => by
          apply Classical.byContradiction
          intro he
          have := far_of H.sym c3.1 he C
          rw [c3.2] at this; cases this
        by_cases c4 : 2 < p.length ∧ at_ p 1 < x
        · have C := closed_of H.sym W nx c4.1 c3.2 c4.2
          have td : tAndM (fun δ => asB (eOp pGt (eCallV (pLen) (aCons (eVar 1) aNil)) (eC (.int 2)) δ)) (fun δ => asB (eOp pLt (eOp pIx (eVar 1) (eC (.int 1))) (eVar 3) δ)) [some (rowsL sp), some (lI p), some (.ref t), some (.int x), some (lI near), none] Sk = .ok true Sk := tAnd_t ((tlen 2 Sk).trans (by rw [decide_eq_true (by omega)])) (asB_ok (eOp_ok (eOp_ok rfl rfl (ix1 (by omega))) rfl (by rw [pLt_ii, decide_eq_true c4.2])))
          have hpk := put_ok (mv := eC (.bl true)) (mo := eVar 2) (me := eCallV (pSortD) (aCons (eLst (aStar (eVar 1) (aCons (eVar 3) aNil))) aNil)) (δ := [some (rowsL sp), some (lI p), some (.ref t), some (.int x), some (lI near), none]) (S := Sk) (S1 := Sk) (S2 := Sk) (S3 := Sk) (v := .bl true) (t := t) (ks := srt (p ++ [x])) rfl rfl (eCallV_ok (aCons_ok (hlst Sk) rfl) (sort_ints (by simp; omega))) hcell (Nat.le_trans hk.len (Nat.le_trans (Nat.pow_le_pow_right (by omega) hn) (by decide))) (by rw [srt_perm.length_eq]; simp; omega)
          have eset : Sk.set t (some (.dT (putT kvs (srt (p ++ [x])) (.bl true)))) = S.set t (some (.dT (putT kvs (srt (p ++ [x])) (.bl true)))) := by rw [← hS, List.set_set]
          rw [eset] at hpk
          have pk := putT_keys (kvs := kvs) (k := srt (p ++ [x])) (v := .bl true)
          refine ⟨putT kvs (srt (p ++ [x])) (.bl true), some (lI near), .inr (sSeq_nx s1 (sSeq_nx a4 (sSeq_nx s3 (sSeq_ct (sIf_t tc (sSeq_nx (sIf_t td hpk) rfl)))))), ⟨pk.2 hk.nd, fun k hkk => ?_⟩, fun k => ?_⟩
          · rcases (pk.1 k).mp hkk with h | rfl
            · exact hk.ok k h
            · refine ⟨srt_asc C.nd, fun v hv => ?_⟩
              rcases List.mem_append.mp (srt_perm.mem_iff.mp hv) with h | h
              · exact hp v h
              · rw [List.mem_singleton.mp h]; exact hx
          · rw [pk.1 k]
            refine or_congr Iff.rfl ⟨fun e => ⟨[], C, e⟩, fun ⟨e, Ce, ek⟩ => ?_⟩
            rw [only e Ce] at ek; exact ek
        · have td : tAndM (fun δ => asB (eOp pGt (eCallV (pLen) (aCons (eVar 1) aNil)) (eC (.int 2)) δ)) (fun δ => asB (eOp pLt (eOp pIx (eVar 1) (eC (.int 1))) (eVar 3) δ)) [some (rowsL sp), some (lI p), some (.ref t), some (.int x), some (lI near), none] Sk = .ok false Sk := by
            by_cases c5 : 2 < p.length
            · exact tAnd_t ((tlen 2 Sk).trans (by rw [decide_eq_true (by omega)])) (asB_ok (eOp_ok (eOp_ok rfl rfl (ix1 (by omega))) rfl (by rw [pLt_ii, decide_eq_false fun z => c4 ⟨c5, z⟩])))
            · exact tAnd_f ((tlen 2 Sk).trans (by rw [decide_eq_false (by omega)]))
          refine ⟨kvs, some (lI near), .inr (by rw [hS]; exact sSeq_nx s1 (sSeq_nx a4 (sSeq_nx s3 (sSeq_ct (sIf_t tc (sSeq_nx (sIf_f td rfl) rfl)))))), hk, none_new fun e C => ?_⟩
          rw [only e C] at C
          obtain ⟨l1, _, l3⟩ := last_of hne C
          exact c4 ⟨l1, l3⟩
      · have tc : tAndM (fun δ => asB (eOp pGt (eCallV (pLen) (aCons (eVar 1) aNil)) (eC (.int 1)) δ)) (fun δ => asB (eOp pIn (eOp pIx (eVar 1) (eC (.int 0))) (eOp pIx (eVar 0) (eVar 3)) δ)) [some (rowsL sp), some (lI p), some (.ref t), some (.int x), some (lI near), none] Sk = .ok false Sk := by
          by_cases c5 : 1 < p.length
          · exact tAnd_t ((tlen 1 Sk).trans (by rw [decide_eq_true (by omega)])) (tback.trans (by cases h : adj x (at_ p 0) with | false => rfl | true => exact absurd ⟨c5, h⟩ c3))
          · exact tAnd_f ((tlen 1 Sk).trans (by rw [decide_eq_false (by omega)]))
        have hW : Walk adj (p ++ [x]) := W.snoc H.sym nx (by
          by_cases c5 : 1 < p.length
          · right
            cases h : adj x (at_ p 0) with
            | false => rfl
            | true => exact absurd ⟨c5, h⟩ c3
          · left; omega)
        obtain ⟨kvs', r1, r2, r3⟩ := hrec x hW t S kvs ht hk
        rw [hS] at r1
        refine ⟨kvs', some (lI near), .inl (sSeq_nx s1 (sSeq_nx a4 (sSeq_nx s3 (sSeq_nx (sIf_f tc rfl) (sExpr_ok (eCal_ok (aCons_ok rfl (aCons_ok (hlst Sk) (aCons_ok rfl rfl))) r1)))))), r2, fun k => ?_⟩
        rw [r3 k]
        refine or_congr Iff.rfl ⟨fun ⟨y, e, C, ek⟩ => ?_, fun ⟨e, C, ek⟩ => ?_⟩
        · rw [List.append_assoc] at C ek
          exact ⟨y :: e, C, ek⟩
        · cases e with
          | nil =>
            obtain ⟨l1, l2, _⟩ := last_of hne C
            exact absurd ⟨by omega, l2⟩ c3
          | cons y e =>
            refine ⟨y, e, ?_, ?_⟩
            · rw [List.append_assoc]; exact C
            · rw [List.append_assoc]; exact ek
    · refine ⟨kvs, some (lI near), .inr (by rw [hS]; exact sSeq_nx s1 (sSeq_nx a4 (sSeq_ct (sIf_t (tn.trans (by cases h : near with | nil => exact absurd h c2 | cons _ _ => rfl)) rfl)))), hk, none_new fun e C => ?_⟩
      have nx := next_of hne C
      cases h : near with
      | nil => exact c2 h
      | cons m l =>
        have hm : m ∈ near := by rw [h]; exact List.mem_cons_self ..
        obtain ⟨h1, h2⟩ := List.mem_filter.mp hm
        obtain ⟨i, i0, i1, rfl⟩ := mem_mid.mp h1
        rw [nx.far i i0 i1] at h2; cases h2
theorem grown_ev {n : Nat} {sp : Rw} {adj : Int → Int → Bool} {cal : Nat → List D → M D} {p : List Int} (H : Spots n sp adj) (W : Walk adj p) (hp : ∀ v ∈ p, 0 ≤ v ∧ v < n)
    (hrec : ∀ x : Int, Walk adj (p ++ [x]) → GrS n sp adj (cal 62) (p ++ [x])) : GrS n sp adj (funM 6 3 (b_grown cal)) p := by
  intro t S kvs ht hk
  have hne := W.ne
  have hn := H.n16
  have hlast := hp _ (at_mem (p := p) (i := p.length - 1) (by omega))
  have key : ∀ (zs : List Int), (∀ x ∈ zs, adj (at_ p (p.length - 1)) x = true) → ∀ kvs, KOk n kvs → ∀ o3 o4, ∃ kvs' o3' o4', loopF (gNm 3) (grBody cal) (zs.map D.int) [some (rowsL sp), some (lI p), some (.ref t), o3, o4, none] (S.set t (some (.dT kvs))) = .nx [some (rowsL sp), some (lI p), some (.ref t), o3', o4', none] (S.set t (some (.dT kvs'))) ∧ KOk n kvs' ∧ ∀ k, k ∈ Ks kvs' ↔ k ∈ Ks kvs ∨ ∃ x ∈ zs, New adj p x k := by
    intro zs
    induction zs with
    | nil => intro _ kvs hk o3 o4; exact ⟨kvs, o3, o4, rfl, hk, fun k => by simp⟩
    | cons x zs ih =>
      intro hz kvs hk o3 o4
      obtain ⟨kvs1, o4', hb, hk1, h1⟩ := body_ev H W hp hrec (hz x (List.mem_cons_self ..)) ht hk o4
      obtain ⟨kvs2, o3'', o4'', hl, hk2, h2⟩ := ih (fun y hy => hz y (List.mem_cons_of_mem _ hy)) kvs1 hk1 (some (.int x)) o4'
      refine ⟨kvs2, o3'', o4'', ?_, hk2, fun k => ?_⟩
      · rw [List.map_cons]
        rcases hb with hb | hb
        · rw [loop_nx rfl hb]; exact hl
        · rw [loop_ct rfl hb]; exact hl
      · rw [h2 k, h1 k]
        constructor
        · rintro ((h | h) | ⟨y, hy, h⟩)
          · exact .inl h
          · exact .inr ⟨x, List.mem_cons_self .., h⟩
          · exact .inr ⟨y, List.mem_cons_of_mem _ hy, h⟩
        · rintro (h | ⟨y, hy, h⟩)
          · exact .inl (.inl h)
          · rcases List.mem_cons.mp hy with rfl | hy
            · exact .inl (.inr h)
            · exact .inr ⟨y, hy, h⟩
  obtain ⟨kvs', o3, o4, hl, hk', h⟩ := key (sp.getD (at_ p (p.length - 1)).toNat []) (fun x hx => (H.mem _ _ hlast.1 hlast.2).mpr hx) kvs hk none none
  refine ⟨kvs', ?_, hk', fun k => ?_⟩
  · rw [grown_eq]
    exact funM_nx rfl (sFor_ok (iAny_ok (eOp_ok rfl (eOp_ok rfl (eUn_ok rfl rfl) (ix_last hne)) (ix_rL hlast.1 (by rw [H.len]; exact hlast.2))) rfl) hl)
  · rw [h k]
    refine or_congr Iff.rfl ⟨fun ⟨x, _, h⟩ => ⟨x, h⟩, fun ⟨x, h⟩ => ⟨x, ?_, h⟩⟩
    obtain ⟨e, C, _⟩ := h
    exact (H.mem _ _ hlast.1 hlast.2).mp (next_of hne C).ad
end Rg
namespace Rg
open PySem PySem.W L2 Ev Bd Sp
def bit (R : Rw) (r c : Int) : Bool := (R.getD r.toNat []).getD c.toNat 0 == 1
def adjR (h w : Nat) (R : Rw) (a b : Int) : Bool :=
  (decide (0 ≤ a ∧ a < h ∧ (h : Int) ≤ b ∧ b < h + w) && bit R a (b - h)) || (decide (0 ≤ b ∧ b < h ∧ (h : Int) ≤ a ∧ a < h + w) && bit R b (a - h))
theorem adj_sym {h w : Nat} {R : Rw} (a b : Int) : adjR h w R a b = adjR h w R b a := by unfold adjR; rw [Bool.or_comm]
theorem adj_iff {h w : Nat} {R : Rw} {a b : Int} : adjR h w R a b = true ↔ (0 ≤ a ∧ a < h ∧ (h : Int) ≤ b ∧ b < h + w ∧ bit R a (b - h) = true) ∨ (0 ≤ b ∧ b < h ∧ (h : Int) ≤ a ∧ a < h + w ∧ bit R b (a - h) = true) := by
  unfold adjR
  simp only [Bool.or_eq_true, Bool.and_eq_true, decide_eq_true_eq, and_assoc]
def side (h : Nat) (a : Int) : Bool := decide (a < h)
theorem adj_side {h w : Nat} {R : Rw} (a b : Int) (e : adjR h w R a b = true) : side h a ≠ side h b := by
  unfold side
  rcases adj_iff.mp e with ⟨h1, h2, h3, h4, _⟩ | ⟨h1, h2, h3, h4, _⟩
  · rw [decide_eq_true h2, decide_eq_false (by omega)]; simp
  · rw [decide_eq_true h2, decide_eq_false (by omega)]; simp
theorem adj_irr {h w : Nat} {R : Rw} (a : Int) : adjR h w R a a = false := by
  cases e : adjR h w R a a with
  | false => rfl
  | true => exact absurd rfl (adj_side a a e)
def spotsL (h w : Nat) (R : Rw) : Rw := ((rng h).map fun r => ((rng w).filter fun c => bit R r c).map fun c => (h : Int) + c) ++ (rng w).map fun c => (rng h).filter fun r => bit R r c
theorem rng_at {n k : Nat} (h : k < n) : (rng n)[k]? = some (k : Int) := by simp [rng, h]
section
variable {cal : Nat → List D → M D} {S : Store}
theorem tru_bit {R : Rw} {w : Nat} (g : G01 w R) {r c : Int} (h0 : 0 ≤ r) (h1 : r < R.length) (c0 : 0 ≤ c) (c1 : c < w) {δ : En} {ma mb mc : ME} (ha : ma δ S = .ok (rowsT R) S) (hb : mb δ S = .ok (.int r) S) (hc : mc δ S = .ok (.int c) S) : tru (eOp pIx (eOp pIx ma mb) mc δ) S = .ok (bit R r c) S := by
  have hr : R.getD r.toNat [] ∈ R := by
    rw [List.getD_eq_getElem?_getD, List.getElem?_eq_getElem (show r.toNat < R.length by omega)]
    exact List.getElem_mem _
  have gr := g _ hr
  refine tru_ok (eOp_ok (eOp_ok ha hb (ix_rT h0 h1)) hc (ix_tI c0 (by rw [gr.1]; exact c1))) ?_
  have hv := gr.2 _ (gmem (l := R.getD r.toNat []) (k := c.toNat) (by rw [gr.1]; omega))
  unfold bit
  rcases hv with hv | hv <;> rw [hv] <;> rfl
theorem spots_ev {h w : Nat} {R : Rw} (F : Full h w R) : funM 6 1 (b_spots_of cal) [rowsT R] S = .ok (rowsL (spotsL h w R)) S := by
  have hh := F.len
  have h8 := F.h2
  have w8 := F.w2
  have hR0 : 0 < R.length := by rw [F.len]; exact F.h1
  have w0 : (R.getD 0 []).length = w := by
    rw [List.getD_eq_getElem?_getD, List.getElem?_eq_getElem hR0]
    exact (F.g _ (List.getElem_mem hR0)).1
  have e1 := lc_mapE (S := S) (me := eLc newL (iR1 (aCons (eVar 2) aNil)) (uNm 4) (fun δ => tru ((eOp pIx (eOp pIx (eVar 0) (eVar 5)) (eVar 4)) δ)) (eOp pAdd (eVar 1) (eVar 4)) [4]) (δ0 := wipeD [some (rowsT R), some (.int h), some (.int w), none, none, none] [5]) (k := 5) D.int lI (fun r => ((rng w).filter fun c => bit R r c).map fun c => (h : Int) + c) (zs := rng h) (by rw [rng_length]; exact small (by omega)) (fun r hr => by
    have hr := mem_rng.mp hr
    have e := lc_filE (S := S) (mt := fun δ => tru ((eOp pIx (eOp pIx (eVar 0) (eVar 5)) (eVar 4)) δ)) (me := eOp pAdd (eVar 1) (eVar 4)) (δ0 := wipeD [some (rowsT R), some (.int h), some (.int w), none, none, some (.int r)] [4]) (k := 4) D.int D.int (fun c => bit R r c) (fun c => (h : Int) + c) (zs := rng w) (by rw [rng_length]; exact small (by omega)) (fun c hc => by
      have hc := mem_rng.mp hc
      exact tru_bit F.g hr.1 (by omega) hc.1 hc.2 rfl rfl rfl) (fun c hc _ => eOp_ok rfl rfl pAdd_ii)
    rw [show (rng w).map D.int = rngD 0 w from rngD_eq.symm] at e
    have hl := List.length_filter_le (fun c => bit R r c) (rng w)
    rw [rng_length] at hl
    exact eLc_ok (iR1_ok (k := w) (aCons_ok rfl rfl) (by omega)) e (newL_ev (by rw [List.length_map, List.length_map]; exact small (by omega))))
  rw [show (rng h).map D.int = rngD 0 h from rngD_eq.symm] at e1
  have e2 := lc_mapE (S := S) (me := eLc newL (iR1 (aCons (eVar 1) aNil)) (uNm 5) (fun δ => tru ((eOp pIx (eOp pIx (eVar 0) (eVar 5)) (eVar 4)) δ)) (eVar 5) [5]) (δ0 := wipeD [some (rowsT R), some (.int h), some (.int w), some (rowsL ((rng h).map fun r => ((rng w).filter fun c => bit R r c).map fun c => (h : Int) + c)), none, none] [4]) (k := 4) D.int lI (fun c => (rng h).filter fun r => bit R r c) (zs := rng w) (by rw [rng_length]; exact small (by omega)) (fun c hc => by
    have hc := mem_rng.mp hc
    have e := lc_filE (S := S) (mt := fun δ => tru ((eOp pIx (eOp pIx (eVar 0) (eVar 5)) (eVar 4)) δ)) (me := eVar 5) (δ0 := wipeD [some (rowsT R), some (.int h), some (.int w), some (rowsL ((rng h).map fun r => ((rng w).filter fun c => bit R r c).map fun c => (h : Int) + c)), some (.int c), none] [5]) (k := 5) D.int D.int (fun r => bit R r c) id (zs := rng h) (by rw [rng_length]; exact small (by omega)) (fun r hr => by
      have hr := mem_rng.mp hr
      exact tru_bit F.g hr.1 (by omega) hc.1 hc.2 rfl rfl rfl) (fun r hr _ => rfl)
    rw [List.map_id, show (rng h).map D.int = rngD 0 h from rngD_eq.symm] at e
    have hl := List.length_filter_le (fun r => bit R r c) (rng h)
    rw [rng_length] at hl
    exact eLc_ok (iR1_ok (k := h) (aCons_ok rfl rfl) (by omega)) e (newL_ev (by rw [List.length_map]; exact small (by omega))))
  rw [show (rng w).map D.int = rngD 0 w from rngD_eq.symm] at e2
  unfold b_spots_of
  refine funM_rt rfl (sSeq_nx (sAsg_ok (eTup_ok (aCons_ok (eCallV_ok (aCons_ok rfl rfl) (by rw [len_rT, hh])) (aCons_ok (eCallV_ok (aCons_ok (eOp_ok rfl rfl (ix_rT (by omega) (by omega))) rfl) (by rw [show (0 : Int).toNat = 0 from rfl, len_tI, w0])) rfl)) (small (by simp))) (gTp2_ok rfl rfl)) (sSeq_nx (sAsg_ok (eLc_ok (iR1_ok (k := h) (aCons_ok rfl rfl) (by omega)) e1 (newL_ev (by rw [List.length_map, List.length_map, rng_length]; exact small (by omega)))) rfl) (sRet_ok (eOp_ok rfl (eLc_ok (iR1_ok (k := w) (aCons_ok rfl rfl) (by omega)) e2 (newL_ev (by rw [List.length_map, List.length_map, rng_length]; exact small (by omega)))) ?_))))
  rw [add_ll (by simp [rng_length]; exact small (by omega)), ← List.map_append]
  rfl
end
/-- an odd ring, as a pair -/
structure Ring (h w : Nat) (R : Rw) (q : List Int × List Int) : Prop where
  eq : q.1.length = q.2.length
  odd : q.1.length % 2 = 1
  gt : 2 < q.1.length
  asc1 : Asc q.1
  asc2 : Asc q.2
  rg1 : ∀ i ∈ q.1, 0 ≤ i ∧ i < h
  rg2 : ∀ k ∈ q.2, 0 ≤ k ∧ k < w
  cyc : ∃ c, Closed (adjR h w R) c ∧ c.Perm (q.1 ++ q.2.map fun k => k + (h : Int))
def toRing (h : Nat) (k : List Int) : List Int × List Int := (k.take (k.length / 2), (k.drop (k.length / 2)).map fun x => x - (h : Int))
def oddK (k : List Int) : Bool := decide (2 < k.length / 2) && decide (k.length / 2 % 2 = 1)
theorem asc_nodup {l : List Int} (h : Asc l) : l.Nodup := List.Pairwise.imp (fun h e => by omega) h
theorem asc_perm {l m : List Int} (h1 : Asc l) (h2 : Asc m) (hp : l.Perm m) : l = m := by
  refine List.Perm.eq_of_pairwise (le := (· < ·)) (fun a b _ _ h1 h2 => by omega) h1 h2 hp
theorem asc_joined {h : Nat} {I J : List Int} (h1 : Asc I) (h2 : Asc J) (r1 : ∀ i ∈ I, 0 ≤ i ∧ i < h) (r2 : ∀ k ∈ J, 0 ≤ k) : Asc (I ++ J.map fun k => k + (h : Int)) := by
  unfold Asc
  rw [List.pairwise_append]
  refine ⟨h1, ?_, fun a ha b hb => ?_⟩
  · rw [List.pairwise_map]; exact List.Pairwise.imp (fun h => by omega) h2
  · obtain ⟨k, hk, rfl⟩ := List.mem_map.mp hb
    have := r1 a ha
    have := r2 k hk
    omega
/-- a sorted ring: rows first, half of it -/
theorem ring_of {h w : Nat} {R : Rw} {c : List Int} (C : Closed (adjR h w R) c) (hr : ∀ v ∈ c, 0 ≤ v ∧ v < h + w) (h0 : at_ c 0 < h) : (∀ i ∈ (toRing h (srt c)).1, 0 ≤ i ∧ i < h) ∧ (∀ k ∈ (toRing h (srt c)).2, 0 ≤ k ∧ k < w) ∧ Asc (toRing h (srt c)).1 ∧ Asc (toRing h (srt c)).2 ∧ (toRing h (srt c)).1.length = (toRing h (srt c)).2.length ∧ (toRing h (srt c)).1.length = c.length / 2 ∧ srt c = (toRing h (srt c)).1 ++ ((toRing h (srt c)).2.map fun k => k + (h : Int)) := by
  have hhalf := closed_half C (side := side h) adj_side
  have hs0 : side h (at_ c 0) = true := decide_eq_true h0
  rw [hs0] at hhalf
  have hasc := srt_asc C.nd
  -- the rows of the sorted ring are its first half
  have hcnt : ((srt c).filter fun v => decide (v < (h : Int))).length * 2 = (srt c).length := by
    rw [(srt_perm.filter _).length_eq, srt_perm.length_eq]
    have : (fun v : Int => side h v == true) = fun v => decide (v < (h : Int)) := by funext v; simp [side]
    rw [this] at hhalf; exact hhalf
  have split : ∀ (l : List Int), Asc l → l = (l.filter fun v => decide (v < (h : Int))) ++ l.filter fun v => !decide (v < (h : Int)) := by
    intro l
    induction l with
    | nil => intro _; rfl
    | cons x l ih =>
      intro ha
      have ha' := List.pairwise_cons.mp ha
      by_cases hx : x < (h : Int)
      · simp only [List.filter_cons, decide_eq_true hx, if_true, Bool.not_true, Bool.false_eq_true, if_false, List.cons_append]
        rw [← ih ha'.2]
      · have hall : ∀ y ∈ l, ¬ y < (h : Int) := fun y hy => by have := ha'.1 y hy; omega
        have e1 : (l.filter fun v => decide (v < (h : Int))) = [] := List.filter_eq_nil_iff.mpr fun y hy => by simp; have := hall y hy; omega
        have e2 : (l.filter fun v => !decide (v < (h : Int))) = l := List.filter_eq_self.mpr fun y hy => by simp; have := hall y hy; omega
        simp only [List.filter_cons, decide_eq_false hx, Bool.false_eq_true, if_false, Bool.not_false, if_true, e1, e2, List.nil_append]
  have hsp := split (srt c) hasc
  have htk : (srt c).take ((srt c).length / 2) = (srt c).filter fun v => decide (v < (h : Int)) := by
    have : (srt c).length / 2 = ((srt c).filter fun v => decide (v < (h : Int))).length := by omega
    rw [this]
    conv => lhs; rw [hsp]
    simp
  have hdr : (srt c).drop ((srt c).length / 2) = (srt c).filter fun v => !decide (v < (h : Int)) := by
    have : (srt c).length / 2 = ((srt c).filter fun v => decide (v < (h : Int))).length := by omega
    rw [this]
    conv => lhs; rw [hsp]
    simp
  have mem : ∀ v ∈ srt c, 0 ≤ v ∧ v < h + w := fun v hv => hr v (srt_perm.mem_iff.mp hv)
  have hlen : (srt c).length = c.length := srt_perm.length_eq
  refine ⟨fun i hi => ?_, fun k hk => ?_, ?_, ?_, ?_, ?_, ?_⟩
  · rw [toRing, htk] at hi
    obtain ⟨h1, h2⟩ := List.mem_filter.mp hi
    have := mem i h1
    simp at h2; omega
  · rw [toRing, hdr] at hk
    obtain ⟨x, hx, rfl⟩ := List.mem_map.mp hk
    obtain ⟨h1, h2⟩ := List.mem_filter.mp hx
    have := mem x h1
    simp at h2; omega
  · exact List.Pairwise.sublist (List.take_sublist _ _) hasc
  · show Asc (((srt c).drop _).map _)
    unfold Asc
    rw [List.pairwise_map]
    exact List.Pairwise.imp (fun h => by omega) (List.Pairwise.sublist (List.drop_sublist _ _) hasc)
  · simp only [toRing, List.length_take, List.length_map, List.length_drop]; omega
  · simp only [toRing, List.length_take]; omega
  · simp only [toRing, List.map_map]
    have : ((srt c).drop ((srt c).length / 2)).map ((fun k => k + (h : Int)) ∘ fun x => x - (h : Int)) = (srt c).drop ((srt c).length / 2) := by
      conv => rhs; rw [← List.map_id ((srt c).drop ((srt c).length / 2))]
      refine List.map_congr_left fun x _ => ?_
      simp
    rw [this, List.take_append_drop]
theorem closed_rg {h w : Nat} {R : Rw} {c : List Int} (C : Closed (adjR h w R) c) : (∀ v ∈ c, 0 ≤ v ∧ v < h + w) ∧ at_ c 0 < h := by
  have h4 := C.len
  have rg : ∀ {a b : Int}, adjR h w R a b = true → (0 ≤ a ∧ a < h + w) ∧ (0 ≤ b ∧ b < h + w) := fun e => by
    rcases adj_iff.mp e with ⟨h1, h2, h3, h4, _⟩ | ⟨h1, h2, h3, h4, _⟩ <;> omega
  refine ⟨fun v hv => ?_, ?_⟩
  · obtain ⟨i, hi, rfl⟩ := mem_at hv
    by_cases hi' : i + 1 < c.length
    · exact (rg (C.nxt i hi')).1
    · have := (rg (C.nxt (i - 1) (by omega))).2
      rwa [show i - 1 + 1 = i by omega] at this
  · have h1 := C.nxt 0 (by omega)
    have h2 := C.min 1 (by omega) (by omega)
    rcases adj_iff.mp h1 with ⟨_, h3, _⟩ | ⟨_, h3, h4, _⟩
    · exact h3
    · simp only [Nat.zero_add] at h3; omega
/-- the pairs of the keys are just the odd rings -/
theorem rings_mem {h w : Nat} {R : Rw} {q : List Int × List Int} : (∃ c, Closed (adjR h w R) c ∧ oddK (srt c) = true ∧ q = toRing h (srt c)) ↔ Ring h w R q := by
  constructor
  · rintro ⟨c, C, ho, rfl⟩
    obtain ⟨rg, r0⟩ := closed_rg C
    obtain ⟨t1, t2, t3, t4, t5, t6, t7⟩ := ring_of C rg r0
    unfold oddK at ho
    rw [srt_perm.length_eq] at ho
    simp only [Bool.and_eq_true, decide_eq_true_eq] at ho
    exact ⟨t5, by omega, by omega, t3, t4, t1, t2, c, C, by rw [← t7]; exact srt_perm.symm⟩
  · intro Q
    obtain ⟨c, C, hp⟩ := Q.cyc
    have hasc := asc_joined Q.asc1 Q.asc2 Q.rg1 fun k hk => (Q.rg2 k hk).1
    have e : srt c = q.1 ++ q.2.map fun k => k + (h : Int) := asc_perm (srt_asc C.nd) hasc (srt_perm.trans hp)
    have hl : (q.1 ++ q.2.map fun k => k + (h : Int)).length / 2 = q.1.length := by
      have := Q.eq
      simp; omega
    refine ⟨c, C, ?_, ?_⟩
    · unfold oddK
      rw [e, hl]
      have := Q.gt
      have := Q.odd
      simp; omega
    · unfold toRing
      rw [e, hl]
      refine Prod.ext ?_ ?_
      · simp
      · simp only [List.drop_left', List.map_map]
        conv => lhs; rw [← List.map_id q.2]
        refine List.map_congr_left fun x _ => ?_
        simp
end Rg
namespace Rg
open PySem PySem.W PyProof.Rows L2 Ev Bd Sp
abbrev Pq := List Int × List Int
def ringD (q : Pq) : D := .tup [tI q.1, tI q.2]
def keyQ (q : Pq) : D := .tup [.int q.1.length, ringD q]
def pyT (l : List Int) : PyData := .tuple (l.map .int)
def keyP (q : Pq) : PyData := .tuple [.int q.1.length, .tuple [pyT q.1, pyT q.2]]
def LtQ (a b : Pq) : Prop := a.1.length < b.1.length ∨ (a.1.length = b.1.length ∧ (a.1 < b.1 ∨ (a.1 = b.1 ∧ a.2 < b.2)))
theorem alike_i : ∀ xs ys : List Int, alikeAll (xs.map .int) (ys.map .int) = true
  | [], _ => by simp [alikeAll]
  | _ :: _, [] => by simp [alikeAll]
  | x :: xs, y :: ys => by simp [alikeAll, alike, alike_i xs ys]
theorem alike_t (a b : List Int) : alike (pyT a) (pyT b) = true := by simp only [pyT, alike, alike_i]
theorem eqvAll_i : ∀ xs ys : List Int, PyData.eqvAll (xs.map .int) (ys.map .int) = decide (xs = ys)
  | [], [] => by simp [PyData.eqvAll]
  | [], _ :: _ => by simp [PyData.eqvAll]
  | _ :: _, [] => by simp [PyData.eqvAll]
  | x :: xs, y :: ys => by
    simp only [List.map_cons, PyData.eqvAll, PyData.eqv, eqvAll_i xs ys]
    by_cases h : x = y <;> by_cases h2 : xs = ys <;> simp [h, h2]
theorem eqv_t (a b : List Int) : PyData.eqv (pyT a) (pyT b) = decide (a = b) := by simp only [pyT, PyData.eqv, eqvAll_i]
theorem lt_t (a b : List Int) : dataLt (pyT a) (pyT b) = decide (a < b) := by
  unfold pyT
  rw [dataLt_tuple]
  exact dataLt_ints a b
theorem alike_q (a b : Pq) : alike (.tuple [pyT a.1, pyT a.2]) (.tuple [pyT b.1, pyT b.2]) = true := by
  simp [alike, alikeAll, alike_t]
theorem alike_k (a b : Pq) : alike (keyP a) (keyP b) = true := by
  simp [keyP, alike, alikeAll, alike_t]
theorem lt_q (a b : Pq) : dataLt (keyP a) (keyP b) = true ↔ LtQ a b := by
  unfold keyP LtQ
  rw [dataLt_pair (by simp [alike]) (alike_q a b), dataLt_pair (alike_t _ _) (alike_t _ _), dataLt_int, lt_t, lt_t]
  have e1 : PyData.eqv (.int (a.1.length : Int)) (.int (b.1.length : Int)) = decide (a.1.length = b.1.length) := by
    simp only [PyData.eqv]
    by_cases h : a.1.length = b.1.length
    · simp [h]
    · simp [h]; omega
  have e2 : PyData.eqv (.tuple [pyT a.1, pyT a.2]) (.tuple [pyT b.1, pyT b.2]) = (decide (a.1 = b.1) && decide (a.2 = b.2)) := by
    simp [PyData.eqv, PyData.eqvAll, eqv_t]
  rw [e1, e2, eqv_t, eqv_t]
  have hirr : ∀ l : List Int, ¬ l < l := fun l => List.lt_irrefl l
  by_cases h1 : a.1.length = b.1.length
  · by_cases h2 : a.1 = b.1
    · by_cases h3 : a.2 = b.2
      · simp [h2, h3, hirr]
      · simp [h2, h3, hirr]
    · simp [h1, h2]
  · have : (a.1.length : Int) < b.1.length ↔ a.1.length < b.1.length := by omega
    simp [h1, this]
def leR (a b : Pq) : Bool := dataLe false keyP a b
theorem le_q (a b : Pq) : leR a b = true ↔ ¬ LtQ b a := by
  unfold leR
  rw [dataLe_eq]
  simp only [cond_false]
  rw [← lt_q]
  cases dataLt (keyP b) (keyP a) <;> simp
theorem ltQ_asymm {a b : Pq} (h : LtQ a b) : ¬ LtQ b a := by
  unfold LtQ at *
  intro h'
  rcases h with h | ⟨h1, h | ⟨h2, h⟩⟩ <;> rcases h' with h' | ⟨h1', h' | ⟨h2', h'⟩⟩
  · omega
  · omega
  · omega
  · omega
  · exact List.lt_asymm h h'
  · rw [h2'] at h; exact List.lt_irrefl _ h
  · omega
  · rw [h2] at h'; exact List.lt_irrefl _ h'
  · exact List.lt_asymm h h'
theorem lst_tri (a b : List Int) : a < b ∨ a = b ∨ b < a := by
  by_cases h1 : a < b
  · exact .inl h1
  · by_cases h2 : b < a
    · exact .inr (.inr h2)
    · exact .inr (.inl (List.le_antisymm (List.not_lt.mp h2) (List.not_lt.mp h1)))
theorem q_eq {a b : Pq} (h1 : ¬ LtQ a b) (h2 : ¬ LtQ b a) : a = b := by
  unfold LtQ at *
  have hl : a.1.length = b.1.length := by omega
  have e1 : a.1 = b.1 := by
    rcases lst_tri a.1 b.1 with h | h | h
    · exact absurd (.inr ⟨hl, .inl h⟩) h1
    · exact h
    · exact absurd (.inr ⟨hl.symm, .inl h⟩) h2
  have e2 : a.2 = b.2 := by
    rcases lst_tri a.2 b.2 with h | h | h
    · exact absurd (.inr ⟨hl, .inr ⟨e1, h⟩⟩) h1
    · exact h
    · exact absurd (.inr ⟨hl.symm, .inr ⟨e1.symm, h⟩⟩) h2
  exact Prod.ext e1 e2
def srtR (L : List Pq) : List Pq := L.mergeSort leR
theorem srtR_perm {L : List Pq} : (srtR L).Perm L := List.mergeSort_perm _ _
theorem srtR_sorted {L : List Pq} : (srtR L).Pairwise fun a b => leR a b = true := by
  have T := sortLe_total (listOrd itemOrd) false (fun b : Pq => keyToks (keyP b))
  exact List.pairwise_mergeSort (fun a b c h1 h2 => T.trans a b c h1 h2) (fun a b => by simpa using T.total a b) L
/-- a list in order that has the same members is just the sorted one -/
theorem srtR_eq {L M : List Pq} (hL : L.Nodup) (hM : M.Pairwise LtQ) (hm : ∀ q, q ∈ L ↔ q ∈ M) : srtR L = M := by
  have hMn : M.Nodup := List.Pairwise.imp (fun h e => by subst e; exact ltQ_asymm h h) hM
  have hp : (srtR L).Perm M := srtR_perm.trans ((List.perm_ext_iff_of_nodup hL hMn).mpr hm)
  refine List.Perm.eq_of_pairwise (le := fun a b => leR a b = true) (fun a b _ _ h1 h2 => q_eq (fun h => (le_q b a).mp h2 h) fun h => (le_q a b).mp h1 h) srtR_sorted ?_ hp
  exact List.Pairwise.imp (fun h => (le_q _ _).mpr (ltQ_asymm h)) hM
end Rg
namespace Sp
open PySem PySem.W L2 Ev Bd
structure C48 (cal : Nat → List D → M D) : Prop where
  dip : Drw ReedJ (cal 60)
  mix : Mix ReedJ (cal 64)
  grid : GridF ReedJ (cal 51)
  full : ∀ (R : Rw) (most : Nat) S, Grid most R → most ≤ 8 → ∃ b, cal 50 [rowsL R] S = .ok (.bl b) S ∧ (b = true → ∃ h w, Full h w R ∧ h ≤ most ∧ w ≤ most)
  text : ∀ h w R S, Full h w R → cal 2 [rowsL R] S = .ok (.str (txt R)) S
  tab : ∀ h w R S, Full h w R → cal 1 [.str (txt R)] S = .ok (tabD h w R) S
  can : ∀ h w R (K : Nat) cs S, Full h w R → Lot w cs → cs.length ≤ 6 → K ≤ 4 → cal 70 [rowsL R, .int K, tI cs] S = .ok (.bl (canC R K cs)) S
  col : ∀ h w R (K : Nat) cs, Full h w R → Lot w cs → 0 < K → K ≤ 4 → ∃ o, (∀ S, cal 68 [tabD h w R, .int K, tI cs] S = .ok (encO o) S) ∧ Ans R K cs o
  hue : ∀ h w R (K : Nat) cs hs S, Full h w R → Lot w cs → hs.length = cs.length → cal 69 [rowsL R, .int K, tI cs, tI hs] S = .ok (.bl (hued R K cs hs)) S
section
variable {cal : Nat → List D → M D}
end
end Sp
namespace Rg
open PySem PySem.W PyProof.Rows L2 Ev Bd Sp
/-- what was there stays -/
def Keep (S S' : Store) : Prop := S.length ≤ S'.length ∧ ∀ j, j < S.length → S'[j]? = S[j]?
theorem Keep.refl {S : Store} : Keep S S := ⟨Nat.le_refl _, fun _ _ => rfl⟩
theorem Keep.trans {S S1 S2 : Store} (h : Keep S S1) (h2 : Keep S1 S2) : Keep S S2 := ⟨Nat.le_trans h.1 h2.1, fun j hj => (h2.2 j (Nat.lt_of_lt_of_le hj h.1)).trans (h.2 j hj)⟩
theorem Keep.app {S X : Store} : Keep S (S ++ X) := ⟨by simp, fun j hj => List.getElem?_append_left hj⟩
theorem Keep.set {S S' : Store} {j : Nat} {x : Option Cell} (h : Keep S S') (hj : S.length ≤ j) : Keep S (S'.set j x) := ⟨by simpa using h.1, fun i hi => by rw [List.getElem?_set_ne (by omega)]; exact h.2 i hi⟩
theorem Keep.at {S S' : Store} {J : List D → Prop} {t : Nat} (h : Keep S S') (a : At J t S) : At J t S' := by
  obtain ⟨c, h1, h2⟩ := a
  exact ⟨c, by rw [h.2 t (List.getElem?_eq_some_iff.mp h1).1]; exact h1, h2⟩
section
variable {S S1 S2 : Store} {δ : En} {ma mo : ME} {m : Nat} {xs : List D}
theorem cut_takeT (h : mo δ S = .ok (.tup xs) S1) (h2 : ma δ S1 = .ok (.int m) S2) (hl : xs.length ≤ sizeLine) : eCut mo none (some ma) δ S = .ok (.tup (xs.take m)) S2 := by
  have hl' : (xs.take m).length ≤ sizeLine := Nat.le_trans (by simp; omega) hl
  simp only [eCut, M.bind, h, oPart, M.pure, h2, lft, pCut, cutD_take, newT_ev hl']
theorem cutD_drop : Ev.cutD xs (some (m : Int)) none = xs.drop m := by
  unfold Ev.cutD
  rw [HT.sIx_nat, HT.sIx_none]
  by_cases h : m ≤ xs.length
  · rw [Nat.min_eq_left h]
    exact List.take_of_length_le (by simp)
  · rw [Nat.min_eq_right (by omega), List.drop_length, List.drop_eq_nil_of_le (by omega)]; simp
theorem cut_dropT (h : mo δ S = .ok (.tup xs) S1) (h2 : ma δ S1 = .ok (.int m) S2) (hl : xs.length ≤ sizeLine) : eCut mo (some ma) none δ S = .ok (.tup (xs.drop m)) S2 := by
  have hl' : (xs.drop m).length ≤ sizeLine := Nat.le_trans (by simp) hl
  simp only [eCut, M.bind, h, oPart, M.pure, h2, lft, pCut, cutD_drop, newT_ev hl']
end
theorem toPs_t : ∀ l : List Pq, toPs (l.map keyQ) = some (l.map keyP)
  | [] => rfl
  | q :: l => by
    have e3 : toP (keyQ q) = some (keyP q) := by
      unfold keyQ ringD keyP pyT
      simp only [toP, toPs, toPs_ints, Option.bind_some, Option.map_some]
    simp only [List.map_cons, toPs, e3, toPs_t l, Option.bind_some, Option.map_some]
theorem sortOk_q (L : List Pq) : sortOk (L.map keyP) = true := by
  unfold sortOk
  simp only [Bool.and_eq_true, Bool.or_eq_true, List.all_eq_true]
  refine ⟨⟨fun p hp q hq => ?_, .inl fun p hp => ?_⟩, fun p hp => ?_⟩
  · obtain ⟨i, _, rfl⟩ := List.mem_map.mp hp
    obtain ⟨j, _, rfl⟩ := List.mem_map.mp hq
    exact alike_k i j
  · obtain ⟨i, _, rfl⟩ := List.mem_map.mp hp
    rfl
  · obtain ⟨i, _, rfl⟩ := List.mem_map.mp hp
    have d1 : ∀ l : List Int, (pyT l).depth ≤ 2 := fun l => by
      unfold pyT
      simp only [PyData.depth]
      have := depthAll_le (d := 1) (ps := l.map PyData.int) fun p hp => by
        obtain ⟨i, _, rfl⟩ := List.mem_map.mp hp
        simp [PyData.depth]
      omega
    have h1 := d1 i.1
    have h2 := d1 i.2
    have d2 : (keyP i).depth ≤ 60 := by
      unfold keyP
      simp only [PyData.depth, PyData.depthAll]
      omega
    exact decide_eq_true d2
theorem sortK_ev {m : List D → M D} {ma : ME} {δ : En} {S S1 : Store} {l : D} {L : List Pq} (h : ma δ S = .ok l S1) (hl : lstOf S1 l = some (L.map ringD)) (hn : L.length ≤ 1000000) (hm : ∀ q S, m [ringD q] S = .ok (keyQ q) S) : eSortK m ma δ S = .ok (.lst ((srtR L).map ringD)) S1 := by
  have hk : ∀ L : List Pq, keysM m (L.map ringD) S1 = .ok (L.map keyQ) S1 := by
    intro L
    induction L with
    | nil => rfl
    | cons q L ih => simp only [List.map_cons, keysM, M.bind, noX, hm, ih, M.pure]
  have hz : (L.map ringD).zip (L.map keyP) = L.map fun q => (ringD q, keyP q) := by
    clear hl hn
    induction L with
    | nil => rfl
    | cons q L ih => simp only [List.map_cons, List.zip_cons_cons, ih]
  have hs : sortBy ((L.map ringD).zip (L.map keyP)) = (srtR L).map ringD := by
    unfold sortBy srtR
    rw [hz]
    have e : (L.map fun q => (ringD q, keyP q)).mergeSort (dataLe false (·.2)) = (L.mergeSort leR).map fun q => (ringD q, keyP q) := by
      rw [List.map_mergeSort]
      intro a _ b _
      rfl
    rw [e, List.map_map]
    rfl
  have hc : sortOk (L.map keyP) = true ∧ (L.map ringD).length ≤ sizeLine := ⟨sortOk_q L, by rw [List.length_map]; exact small hn⟩
  simp only [eSortK, M.bind, h, sortKM, hl, hk, toPs_t]
  rw [if_pos hc, hs]
theorem length_first_ev {cal : Nat → List D → M D} {q : Pq} {S : Store} : funM 1 1 (b_length_first cal) [ringD q] S = .ok (keyQ q) S := by
  unfold b_length_first
  exact funM_rt rfl (sRet_ok (eTup_ok (aCons_ok (eCallV_ok (aCons_ok (eOp_ok (x := ringD q) rfl rfl (pIx_tup (k := 0) (xs := [tI q.1, tI q.2]) (by simp))) rfl) len_tI) (aCons_ok (x := ringD q) rfl rfl)) (small (by simp))))
def appBody : MS := (sSeq (sAsg (eOp pFdiv (eCallV (pLen) (aCons (eVar 6) aNil)) (eC (.int 2))) (gNm 7))
    (sIf (tAndM (fun δ => asB (eOp pGt (eVar 7) (eC (.int 2)) δ)) (fun δ => asB (eOp pEq (eOp pMod (eCallV pInt (aCons (eVar 7) aNil)) (eC (.int 2))) (eC (.int 1)) δ))) (sExpr (eMB "list" pAppend (eVar 5) (aCons (eTup (aCons (eCut (eVar 6) none (some (eVar 7))) (aCons (eCallV pTuple (aCons (eLc newL (iAny (eCut (eVar 6) (some (eVar 7)) none)) (uNm 8) tYesM (eOp pSub (eVar 8) (eVar 1)) [8]) aNil)) aNil))) aNil))) sNext))
theorem gTp3_ok {g1 g2 g3 : TGM} {a b c : D} {δ δ1 δ2 δ3 : En} {S S1 S2 S3 : Store} (h1 : g1 a δ S = some (δ1, S1)) (h2 : g2 b δ1 S1 = some (δ2, S2)) (h3 : g3 c δ2 S2 = some (δ3, S3)) : gTp 3 (gCs g1 (gCs g2 (gCs g3 gNl))) (.tup [a, b, c]) δ S = some (δ3, S3) := by
  simp [gTp, gCs, gNl, h1, h2, h3]
theorem keysV_ok {i n : Nat} {δ : En} {S : Store} {kvs : List (List Int × D)} (h1 : δ[i]? = some (some (.ref n))) (h2 : S[n]? = some (some (.dT kvs))) : iKeysV i δ S = .ok (kvs.map Ev.keyD) (S.set n none) := by simp only [iKeysV, h1, h2]
theorem rings_ev {cal : Nat → List D → M D} {h w : Nat} {R : Rw} {S : Store} (F : Full h w R) (h63 : ∀ S, cal 63 [rowsT R] S = .ok (rowsL (spotsL h w R)) S) (h62 : ∀ r : Int, 0 ≤ r → r < h → GrS (h + w) (spotsL h w R) (adjR h w R) (cal 62) [r]) (h61 : ∀ q S, cal 61 [ringD q] S = .ok (keyQ q) S) :
    ∃ L S', funM 9 1 (b_rings_of cal) [rowsT R] S = .ok (.lst ((srtR L).map ringD)) S' ∧ Keep S S' ∧ L.Nodup ∧ ∀ q, q ∈ L ↔ Ring h w R q := by
  have h8 := F.h2
  have w8 := F.w2
  let t := S.length
  let B : Store := S ++ [some (.dT [])]
  have hB : B.set t (some (.dT [])) = B := by simp [B, t]
  have htB : t < B.length := by simp [B, t]
  obtain ⟨δ1, S1, e1, ⟨o4, rfl⟩, kvs, rfl, hk, hm⟩ := loop_inv (mg := gNm 4) (mb := (sExpr (eCal (cal 62) (aCons (eVar 2) (aCons (eLst (aCons (eVar 4) aNil)) (aCons (eVar 3) aNil))))))
    (ds := rngD 0 h) (δ := [some (rowsT R), some (.int h), some (rowsL (spotsL h w R)), some (.ref t), none, none, none, none, none]) (S := B)
    (fun k δ S' => (∃ o4, δ = [some (rowsT R), some (.int h), some (rowsL (spotsL h w R)), some (.ref t), o4, none, none, none, none]) ∧ ∃ kvs, S' = B.set t (some (.dT kvs)) ∧ KOk (h + w) kvs ∧ ∀ z, z ∈ Ks kvs ↔ ∃ c, Closed (adjR h w R) c ∧ at_ c 0 < k ∧ z = srt c) (by
      rintro k δ S' hk ⟨⟨o4, rfl⟩, kvs, rfl, hok, hm⟩
      rw [rng_get]
      rw [rng_len] at hk
      refine ⟨_, _, rfl, ?_⟩
      obtain ⟨kvs', r1, r2, r3⟩ := h62 (k : Int) (by omega) (by omega) t B kvs htB hok
      refine ⟨_, _, sExpr_ok (eCal_ok (aCons_ok rfl (aCons_ok (eLst_ok (aCons_ok rfl rfl) (small (by simp))) (aCons_ok rfl rfl))) r1), ⟨_, rfl⟩, kvs', rfl, r2, fun z => ?_⟩
      rw [r3 z, hm z]
      constructor
      · rintro (⟨c, C, h0, rfl⟩ | ⟨x, e, C, rfl⟩)
        · exact ⟨c, C, by omega, rfl⟩
        · exact ⟨_, C, by simp [at_]; omega, rfl⟩
      · rintro ⟨c, C, h0, rfl⟩
        by_cases hc : at_ c 0 < (k : Int)
        · exact .inl ⟨c, C, hc, rfl⟩
        · right
          have e0 : at_ c 0 = k := by omega
          have h4 := C.len
          match c, h4, e0, C with
          | a :: x :: e, _, e0, C =>
            have : a = (k : Int) := e0
            subst this
            exact ⟨x, e, C, rfl⟩) ⟨⟨_, rfl⟩, [], hB.symm, ⟨by simp, fun k hk => by simp at hk⟩, fun z => ⟨fun hz => by simp at hz, fun ⟨c, C, h0, _⟩ => by
        have h4 := C.len
        have := (closed_rg C).1 _ (at_mem (p := c) (i := 0) (by omega))
        omega⟩⟩
  rw [rng_len] at hm
  have hm' : ∀ z, z ∈ Ks kvs ↔ ∃ c, Closed (adjR h w R) c ∧ z = srt c := fun z => (hm z).trans ⟨fun ⟨c, C, _, e⟩ => ⟨c, C, e⟩, fun ⟨c, C, e⟩ => ⟨c, C, (closed_rg C).2, e⟩⟩
  have hkl : kvs.length ≤ 65536 := Nat.le_trans hk.len (Nat.le_trans (Nat.pow_le_pow_right (by omega) (show h + w ≤ 16 by omega)) (by decide))
  let u := (B.set t (some (.dT kvs))).length
  let B2 : Store := (B.set t (some (.dT kvs)) ++ [some (Cell.lst [])]).set t none
  have hu : u = S.length + 1 := by simp [u, B]
  have hcellT : (B.set t (some (.dT kvs)) ++ [some (Cell.lst [])])[t]? = some (some (.dT kvs)) := by
    rw [List.getElem?_append_left (by simp [B, t]), List.getElem?_set_self htB]
  have hcellU : B2[u]? = some (some (.lst [])) := by
    show ((B.set t (some (.dT kvs)) ++ [some (Cell.lst [])]).set t none)[u]? = _
    rw [List.getElem?_set_ne (by rw [hu]; show S.length ≠ _; omega)]
    simp [u]
  have keepB : Keep S B2 := ((Keep.app.set (Nat.le_refl _)).trans Keep.app).set (Nat.le_refl _)
  obtain ⟨δ2, S2, e2, ⟨o6, o7, rfl⟩, hc2, hk2⟩ := loop_inv (mg := gNm 6) (mb := appBody)
    (ds := kvs.map Ev.keyD) (δ := [some (rowsT R), some (.int h), some (rowsL (spotsL h w R)), some (.ref t), o4, some (.ref u), none, none, none]) (S := B2)
    (fun k δ S' => (∃ o6 o7, δ = [some (rowsT R), some (.int h), some (rowsL (spotsL h w R)), some (.ref t), o4, some (.ref u), o6, o7, none]) ∧ S'[u]? = some (some (.lst (((((Ks kvs).take k).filter oddK).map (toRing h)).map ringD))) ∧ Keep S S') (by
      rintro k δ S' hkk ⟨⟨o6, o7, rfl⟩, hc, hkeep⟩
      rw [List.length_map] at hkk
      have hkey : (kvs.map Ev.keyD)[k]'(by rw [List.length_map]; exact hkk) = tI ((Ks kvs)[k]'(by rw [List.length_map]; exact hkk)) := by simp [Ev.keyD, iD]
      rw [hkey]
      generalize hz : (Ks kvs)[k]'(by rw [List.length_map]; exact hkk) = z
      have hzm : z ∈ Ks kvs := by rw [← hz]; exact List.getElem_mem _
      have hzl : z.length ≤ 16 := by
        have h1 := hk.ok z hzm
        have := nodup_le (asc_nodup h1.1) (m := rng (h + w)) fun v hv => mem_rng.mpr (h1.2 v hv)
        rw [rng_length] at this; omega
      refine ⟨_, _, rfl, ?_⟩
      have htake : (Ks kvs).take (k + 1) = (Ks kvs).take k ++ [z] := by rw [List.take_succ_eq_append_getElem (by rw [List.length_map]; exact hkk), hz]
      have a7 : sAsg (eOp pFdiv (eCallV (pLen) (aCons (eVar 6) aNil)) (eC (.int 2))) (gNm 7) [some (rowsT R), some (.int h), some (rowsL (spotsL h w R)), some (.ref t), o4, some (.ref u), some (tI z), o7, none] S' = .nx [some (rowsT R), some (.int h), some (rowsL (spotsL h w R)), some (.ref t), o4, some (.ref u), some (tI z), some (.int ((z.length / 2 : Nat) : Int)), none] S' :=
        sAsg_ok (eOp_ok (eCallV_ok (aCons_ok rfl rfl) len_tI) rfl (by rw [pFdiv_ii (by omega) (by omega)]; rfl)) rfl
      have tt : tAndM (fun δ => asB (eOp pGt (eVar 7) (eC (.int 2)) δ)) (fun δ => asB (eOp pEq (eOp pMod (eCallV pInt (aCons (eVar 7) aNil)) (eC (.int 2))) (eC (.int 1)) δ)) [some (rowsT R), some (.int h), some (rowsL (spotsL h w R)), some (.ref t), o4, some (.ref u), some (tI z), some (.int ((z.length / 2 : Nat) : Int)), none] S' = .ok (oddK z) S' := by
        rw [tand_b (asB_ok (eOp_ok rfl rfl pGt_ii)) (fun _ => asB_ok (eOp_ok (eOp_ok (eCallV_ok (aCons_ok rfl rfl) pInt_i) rfl (pMod_ii (by omega))) rfl pEq_ii))]
        congr 1
        unfold oddK
        congr 1
        · exact decide_eq_decide.mpr (by omega)
        · rw [Bool.eq_iff_iff]; simp only [beq_iff_eq, decide_eq_true_eq]; omega
      unfold appBody
      cases ho : oddK z with
      | false =>
        refine ⟨_, _, sSeq_nx a7 (sIf_f (tt.trans (by rw [ho])) rfl), ⟨_, _, rfl⟩, ?_, hkeep⟩
        rw [htake, List.filter_append, List.filter_cons, ho]
        simpa using hc
      | true =>
        have hd : (z.drop (z.length / 2)).length ≤ 16 := by simp; omega
        have e8 := lc_mapE (S := S') (me := eOp pSub (eVar 8) (eVar 1)) (δ0 := wipeD [some (rowsT R), some (.int h), some (rowsL (spotsL h w R)), some (.ref t), o4, some (.ref u), some (tI z), some (.int ((z.length / 2 : Nat) : Int)), none] [8]) (k := 8) D.int D.int (fun x => x - (h : Int)) (zs := z.drop (z.length / 2)) (small (by omega)) (fun x hx => eOp_ok rfl rfl pSub_ii)
        have ct := cut_takeT (mo := eVar 6) (ma := eVar 7) (m := z.length / 2) (xs := iD z) (δ := [some (rowsT R), some (.int h), some (rowsL (spotsL h w R)), some (.ref t), o4, some (.ref u), some (tI z), some (.int ((z.length / 2 : Nat) : Int)), none]) (S := S') rfl rfl (by rw [iD_len]; exact small (by omega))
        have cd := cut_dropT (mo := eVar 6) (ma := eVar 7) (m := z.length / 2) (xs := iD z) (δ := [some (rowsT R), some (.int h), some (rowsL (spotsL h w R)), some (.ref t), o4, some (.ref u), some (tI z), some (.int ((z.length / 2 : Nat) : Int)), none]) (S := S') rfl rfl (by rw [iD_len]; exact small (by omega))
        rw [show (iD z).take (z.length / 2) = iD (z.take (z.length / 2)) by simp [iD, List.map_take]] at ct
        rw [show (iD z).drop (z.length / 2) = iD (z.drop (z.length / 2)) by simp [iD, List.map_drop]] at cd
        have happ := app_ref (y := ringD (toRing h z)) hc (Nat.lt_of_lt_of_le (show _ < 1000000 by
          rw [List.length_map, List.length_map]
          have := List.length_filter_le oddK ((Ks kvs).take k)
          rw [List.length_take, List.length_map] at this
          omega) (small (Nat.le_refl _)))
        refine ⟨_, _, sSeq_nx a7 (sIf_t (tt.trans (by rw [ho])) (sExpr_ok (eMB_ok rfl (ty_ref hc) (aCons_ok (eTup_ok (aCons_ok ct (aCons_ok (eCallV_ok (aCons_ok (eLc_ok (iAny_ok cd rfl) e8 (newL_ev (by rw [List.length_map, List.length_map]; exact small (by omega)))) rfl) (tuple_lst (by rw [List.length_map, List.length_map]; exact small (by omega)))) rfl)) (small (by simp))) rfl) happ))), ⟨_, _, rfl⟩, ?_, hkeep.set (by rw [hu]; omega)⟩
        rw [set_get hc, htake, List.filter_append, List.filter_cons, ho]
        simp) ⟨⟨_, _, rfl⟩, by simpa using hcellU, keepB⟩
  rw [List.length_map, show kvs.length = (Ks kvs).length by simp, List.take_length] at hc2
  refine ⟨((Ks kvs).filter oddK).map (toRing h), S2, ?_, hk2, ?_, fun q => ?_⟩
  · unfold b_rings_of
    have hlen : (((Ks kvs).filter oddK).map (toRing h)).length ≤ 1000000 := by
      rw [List.length_map]
      have := List.length_filter_le oddK (Ks kvs)
      rw [List.length_map] at this
      omega
    refine funM_rt rfl (sSeq_nx (sAsg_ok (eTup_ok (aCons_ok (eCallV_ok (aCons_ok rfl rfl) (by rw [len_rT, F.len])) (aCons_ok (eCal_ok (aCons_ok rfl rfl) (h63 S)) (aCons_ok (show eDT _ S = .ok (.ref t) B from rfl) rfl))) (small (by simp))) (gTp3_ok rfl rfl rfl)) (sSeq_nx (sFor_ok (iR1_ok (k := h) (aCons_ok rfl rfl) (by omega)) e1) (sSeq_nx (sAsg_ok (eLstC_ok rfl (Nat.zero_le _)) rfl) (sSeq_nx (sFor_ok (ds := kvs.map Ev.keyD) (S1 := B2) ?_ e2) (sRet_ok (sortK_ev (S1 := S2) (l := .ref u) rfl ?_ hlen h61))))))
    · exact keysV_ok (n := t) rfl hcellT
    · simp only [lstOf, hc2]
  · have nd : ((Ks kvs).filter oddK).Nodup := List.Sublist.nodup List.filter_sublist hk.nd
    have inj : ∀ z ∈ (Ks kvs).filter oddK, z = (toRing h z).1 ++ ((toRing h z).2.map fun k => k + (h : Int)) := fun z hz => by
      obtain ⟨c, C, rfl⟩ := (hm' z).mp (List.mem_filter.mp hz).1
      obtain ⟨rg, r0⟩ := closed_rg C
      exact (ring_of C rg r0).2.2.2.2.2.2
    rw [List.Nodup, List.pairwise_map]
    exact List.Pairwise.imp_of_mem (fun ha hb hne e => hne (by rw [inj _ ha, inj _ hb, e])) nd
  · rw [← rings_mem, List.mem_map]
    constructor
    · rintro ⟨z, hz, rfl⟩
      obtain ⟨h1, h2⟩ := List.mem_filter.mp hz
      obtain ⟨c, C, rfl⟩ := (hm' z).mp h1
      exact ⟨c, C, h2, rfl⟩
    · rintro ⟨c, C, h2, rfl⟩
      exact ⟨srt c, List.mem_filter.mpr ⟨(hm' _).mpr ⟨c, C, rfl⟩, h2⟩, rfl⟩
end Rg
namespace Rg
open PySem PySem.W L2 Ev Bd Sp
def val (R : Rw) (j k : Int) : Int := (R.getD j.toNat []).getD k.toNat 0
theorem bit_val {R : Rw} {j k : Int} : bit R j k = (val R j k == 1) := rfl
theorem asc_at {l : List Int} (ha : Asc l) {i j : Nat} (hij : i < j) (hj : j < l.length) : at_ l i < at_ l j := by
  have := List.pairwise_iff_getElem.mp ha i j (by omega) hj hij
  have e1 : at_ l i = l[i] := by simp [at_, List.getD_eq_getElem?_getD, show i < l.length by omega]
  have e2 : at_ l j = l[j] := by simp [at_, List.getD_eq_getElem?_getD, hj]
  rw [e1, e2]; exact this
theorem val01 {R : Rw} {h w : Nat} (g : G01 w R) (hl : R.length = h) {j k : Int} (j0 : 0 ≤ j) (j1 : j < h) (k0 : 0 ≤ k) (k1 : k < w) : val R j k = 0 ∨ val R j k = 1 := by
  have hr : R.getD j.toNat [] ∈ R := by
    rw [List.getD_eq_getElem?_getD, List.getElem?_eq_getElem (show j.toNat < R.length by omega)]
    exact List.getElem_mem _
  exact (g _ hr).2 _ (gmem (by rw [(g _ hr).1]; omega))
theorem sum01 {α : Type} (f : α → Int) : ∀ {l : List α}, (∀ x ∈ l, f x = 0 ∨ f x = 1) → (l.map f).sum = ((l.filter fun x => f x == 1).length : Int)
  | [], _ => rfl
  | x :: l, h => by
    have ih := sum01 f (l := l) fun y hy => h y (List.mem_cons_of_mem _ hy)
    rw [List.map_cons, List.sum_cons, ih, List.filter_cons]
    rcases h x (List.mem_cons_self ..) with e | e <;> rw [e]
    · simp
    · simp; omega
theorem two_of_len {α : Type} {l : List α} (nd : l.Nodup) (h : l.length = 2) : ∃ a b, a ≠ b ∧ a ∈ l ∧ b ∈ l ∧ ∀ z ∈ l, z = a ∨ z = b := by
  match l, h with
  | [a, b], _ =>
    refine ⟨a, b, ?_, by simp, by simp, fun z hz => by simpa using hz⟩
    rintro rfl
    simp at nd
theorem len_of_two {α : Type} [DecidableEq α] {l : List α} (nd : l.Nodup) {a b : α} (hab : a ≠ b) (ha : a ∈ l) (hb : b ∈ l) (h : ∀ z ∈ l, z = a ∨ z = b) : l.length = 2 := by
  have h1 := nodup_le (l := l) (m := [a, b]) nd fun z hz => by simpa using h z hz
  have h2 := nodup_le (l := [a, b]) (m := l) (by simp [hab]) fun z hz => by
    simp at hz; rcases hz with rfl | rfl <;> assumption
  simp at h1 h2; omega
/-- rows hang together by columns -/
def Hang (R : Rw) (I J : List Int) : Prop := ∀ P : Int → Prop, P (at_ I 0) → (∀ i ∈ I, ∀ j ∈ I, ∀ k ∈ J, P i → bit R i k = true → bit R j k = true → P j) → ∀ j ∈ I, P j
/-- the law's own words: as many rows as columns, two ones in each, together -/
structure LawR (h w : Nat) (R : Rw) (q : Pq) : Prop where
  eq : q.1.length = q.2.length
  size : q.1.length = 3 ∨ q.1.length = 5 ∨ q.1.length = 7
  asc1 : Asc q.1
  asc2 : Asc q.2
  rg1 : ∀ i ∈ q.1, 0 ≤ i ∧ i < h
  rg2 : ∀ k ∈ q.2, 0 ≤ k ∧ k < w
  col : ∀ k ∈ q.2, (q.1.map fun j => val R j k).sum = 2
  row : ∀ j ∈ q.1, (q.2.map fun k => val R j k).sum = 2
  hang : Hang R q.1 q.2
theorem adj_rc {h w : Nat} {R : Rw} {i k : Int} (i0 : 0 ≤ i) (i1 : i < h) (k0 : 0 ≤ k) (k1 : k < w) : adjR h w R i (k + h) = bit R i k := by
  rw [Bool.eq_iff_iff, adj_iff, show k + (h : Int) - h = k by omega]
  constructor
  · rintro (⟨_, _, _, _, h5⟩ | ⟨_, h2, _⟩)
    · exact h5
    · omega
  · intro e
    exact .inl ⟨i0, i1, by omega, by omega, e⟩
theorem law_ring {h w : Nat} {R : Rw} {q : Pq} (hl : R.length = h) (h8 : h ≤ 8) (g : G01 w R) : LawR h w R q ↔ Ring h w R q := by
  constructor
  · intro Q
    have hm3 : 3 ≤ q.1.length := by have := Q.size; omega
    have fcol : ∀ k ∈ q.2, (q.1.filter fun j => bit R j k).length = 2 := fun k hk => by
      have e := Q.col k hk
      rw [sum01 _ fun j hj => val01 g hl (Q.rg1 j hj).1 (Q.rg1 j hj).2 (Q.rg2 k hk).1 (Q.rg2 k hk).2] at e
      have : (q.1.filter fun j => val R j k == 1).length = 2 := by omega
      exact this
    have frow : ∀ j ∈ q.1, (q.2.filter fun k => bit R j k).length = 2 := fun j hj => by
      have e := Q.row j hj
      rw [sum01 _ fun k hk => val01 g hl (Q.rg1 j hj).1 (Q.rg1 j hj).2 (Q.rg2 k hk).1 (Q.rg2 k hk).2] at e
      have : (q.2.filter fun k => val R j k == 1).length = 2 := by omega
      exact this
    have hV : Asc (q.1 ++ q.2.map fun k => k + (h : Int)) := asc_joined Q.asc1 Q.asc2 Q.rg1 fun k hk => (Q.rg2 k hk).1
    have T : Two (adjR h w R) (q.1 ++ q.2.map fun k => k + (h : Int)) := fun v hv => by
      rcases List.mem_append.mp hv with hv | hv
      · have rv := Q.rg1 v hv
        obtain ⟨a, b, hab, ha, hb, hz⟩ := two_of_len (List.Sublist.nodup List.filter_sublist (asc_nodup Q.asc2)) (frow v hv)
        obtain ⟨ha1, ha2⟩ := List.mem_filter.mp ha
        obtain ⟨hb1, hb2⟩ := List.mem_filter.mp hb
        have ra := Q.rg2 a ha1
        have rb := Q.rg2 b hb1
        refine ⟨a + h, b + h, by omega, List.mem_append_right _ (List.mem_map.mpr ⟨a, ha1, rfl⟩), List.mem_append_right _ (List.mem_map.mpr ⟨b, hb1, rfl⟩), by rw [adj_rc rv.1 rv.2 ra.1 ra.2]; exact ha2, by rw [adj_rc rv.1 rv.2 rb.1 rb.2]; exact hb2, fun z hzV hz' => ?_⟩
        rcases List.mem_append.mp hzV with hz1 | hz1
        · have := Q.rg1 z hz1
          have := adj_side _ _ hz'
          unfold side at this
          simp [rv.2] at this
          omega
        · obtain ⟨k, hk, rfl⟩ := List.mem_map.mp hz1
          have rk := Q.rg2 k hk
          rw [adj_rc rv.1 rv.2 rk.1 rk.2] at hz'
          rcases hz k (List.mem_filter.mpr ⟨hk, hz'⟩) with rfl | rfl
          · exact .inl rfl
          · exact .inr rfl
      · obtain ⟨k, hk, rfl⟩ := List.mem_map.mp hv
        have rk := Q.rg2 k hk
        obtain ⟨a, b, hab, ha, hb, hz⟩ := two_of_len (List.Sublist.nodup List.filter_sublist (asc_nodup Q.asc1)) (fcol k hk)
        obtain ⟨ha1, ha2⟩ := List.mem_filter.mp ha
        obtain ⟨hb1, hb2⟩ := List.mem_filter.mp hb
        have ra := Q.rg1 a ha1
        have rb := Q.rg1 b hb1
        refine ⟨a, b, hab, List.mem_append_left _ ha1, List.mem_append_left _ hb1, by rw [adj_sym, adj_rc ra.1 ra.2 rk.1 rk.2]; exact ha2, by rw [adj_sym, adj_rc rb.1 rb.2 rk.1 rk.2]; exact hb2, fun z hzV hz' => ?_⟩
        rcases List.mem_append.mp hzV with hz1 | hz1
        · have rz := Q.rg1 z hz1
          rw [adj_sym, adj_rc rz.1 rz.2 rk.1 rk.2] at hz'
          exact hz z (List.mem_filter.mpr ⟨hz1, hz'⟩)
        · obtain ⟨k', hk', rfl⟩ := List.mem_map.mp hz1
          have := Q.rg2 k' hk'
          have := adj_side _ _ hz'
          unfold side at this
          rw [decide_eq_false (by omega), decide_eq_false (by omega)] at this
          exact absurd rfl this
    have hI0 : at_ q.1 0 ∈ q.1 := at_mem (by omega)
    have hmin : ∀ v ∈ (q.1 ++ q.2.map fun k => k + (h : Int)), v ≠ at_ q.1 0 → at_ q.1 0 < v := fun v hv hne => by
      obtain ⟨i, hi, rfl⟩ := mem_at hv
      have e0 : at_ (q.1 ++ q.2.map fun k => k + (h : Int)) 0 = at_ q.1 0 := at_left (by omega)
      have hi0 : 0 < i := Nat.pos_of_ne_zero (by rintro rfl; exact hne e0)
      rw [← e0]
      exact asc_at hV hi0 hi
    have hconn : Conn (adjR h w R) (q.1 ++ q.2.map fun k => k + (h : Int)) (at_ q.1 0) := fun P h0 hs => by
      have rows : ∀ j ∈ q.1, P j := Q.hang P h0 fun i hi j hj k hk hPi b1 b2 => by
        have ri := Q.rg1 i hi
        have rj := Q.rg1 j hj
        have rk := Q.rg2 k hk
        have hk' : k + (h : Int) ∈ q.1 ++ q.2.map fun k => k + (h : Int) := List.mem_append_right _ (List.mem_map.mpr ⟨k, hk, rfl⟩)
        have hPk := hs i (List.mem_append_left _ hi) _ hk' hPi (by rw [adj_rc ri.1 ri.2 rk.1 rk.2]; exact b1)
        exact hs _ hk' j (List.mem_append_left _ hj) hPk (by rw [adj_sym, adj_rc rj.1 rj.2 rk.1 rk.2]; exact b2)
      intro v hv
      rcases List.mem_append.mp hv with hv' | hv'
      · exact rows v hv'
      · obtain ⟨k, hk, rfl⟩ := List.mem_map.mp hv'
        obtain ⟨a, b, hab, ha, hb, hz⟩ := two_of_len (List.Sublist.nodup List.filter_sublist (asc_nodup Q.asc1)) (fcol k hk)
        obtain ⟨ha1, ha2⟩ := List.mem_filter.mp ha
        have ra := Q.rg1 a ha1
        have rk := Q.rg2 k hk
        exact hs a (List.mem_append_left _ ha1) _ hv (rows a ha1) (by rw [adj_rc ra.1 ra.2 rk.1 rk.2]; exact ha2)
    exact ⟨Q.eq, by have := Q.size; omega, by omega, Q.asc1, Q.asc2, Q.rg1, Q.rg2, closed_cover (side := side h) (asc_nodup hV) T adj_sym adj_side (List.mem_append_left _ hI0) hmin hconn⟩
  · intro Q
    obtain ⟨c, C, hp⟩ := Q.cyc
    have T := closed_two C adj_sym adj_irr hp
    have hI8 : q.1.length ≤ 8 := by
      have := nodup_le (asc_nodup Q.asc1) (m := rng h) fun i hi => mem_rng.mpr (Q.rg1 i hi)
      rw [rng_length] at this; omega
    have hV : Asc (q.1 ++ q.2.map fun k => k + (h : Int)) := asc_joined Q.asc1 Q.asc2 Q.rg1 fun k hk => (Q.rg2 k hk).1
    have hgt := Q.gt
    refine ⟨Q.eq, by have := Q.odd; omega, Q.asc1, Q.asc2, Q.rg1, Q.rg2, fun k hk => ?_, fun j hj => ?_, fun P h0 hs => ?_⟩
    · have rk := Q.rg2 k hk
      rw [sum01 _ fun j hj => val01 g hl (Q.rg1 j hj).1 (Q.rg1 j hj).2 rk.1 rk.2]
      obtain ⟨a, b, hab, ha, hb, va, vb, hz⟩ := T (k + h) (List.mem_append_right _ (List.mem_map.mpr ⟨k, hk, rfl⟩))
      have row : ∀ a ∈ (q.1 ++ q.2.map fun k => k + (h : Int)), adjR h w R (k + h) a = true → a ∈ q.1.filter fun j => bit R j k := fun a ha va => by
        rcases List.mem_append.mp ha with h1 | h1
        · have ra := Q.rg1 a h1
          rw [adj_sym, adj_rc ra.1 ra.2 rk.1 rk.2] at va
          exact List.mem_filter.mpr ⟨h1, va⟩
        · obtain ⟨k', hk', rfl⟩ := List.mem_map.mp h1
          have := Q.rg2 k' hk'
          have := adj_side _ _ va
          unfold side at this
          rw [decide_eq_false (by omega), decide_eq_false (by omega)] at this
          exact absurd rfl this
      have := len_of_two (l := q.1.filter fun j => bit R j k) (List.Sublist.nodup List.filter_sublist (asc_nodup Q.asc1)) hab (row a ha va) (row b hb vb) fun z hzm => by
        obtain ⟨z1, z2⟩ := List.mem_filter.mp hzm
        have rz := Q.rg1 z z1
        exact hz z (List.mem_append_left _ z1) (by rw [adj_sym, adj_rc rz.1 rz.2 rk.1 rk.2]; exact z2)
      show (((q.1.filter fun j => bit R j k).length : Nat) : Int) = 2
      omega
    · have rj := Q.rg1 j hj
      rw [sum01 _ fun k hk => val01 g hl rj.1 rj.2 (Q.rg2 k hk).1 (Q.rg2 k hk).2]
      obtain ⟨a, b, hab, ha, hb, va, vb, hz⟩ := T j (List.mem_append_left _ hj)
      have colm : ∀ a ∈ (q.1 ++ q.2.map fun k => k + (h : Int)), adjR h w R j a = true → a - h ∈ q.2.filter fun k => bit R j k := fun a ha va => by
        rcases List.mem_append.mp ha with h1 | h1
        · have ra := Q.rg1 a h1
          have := adj_side _ _ va
          unfold side at this
          rw [decide_eq_true rj.2, decide_eq_true ra.2] at this
          exact absurd rfl this
        · obtain ⟨k', hk', rfl⟩ := List.mem_map.mp h1
          have rk := Q.rg2 k' hk'
          rw [adj_rc rj.1 rj.2 rk.1 rk.2] at va
          rw [show k' + (h : Int) - h = k' by omega]
          exact List.mem_filter.mpr ⟨hk', va⟩
      have := len_of_two (l := q.2.filter fun k => bit R j k) (List.Sublist.nodup List.filter_sublist (asc_nodup Q.asc2)) (a := a - h) (b := b - h) (by omega) (colm a ha va) (colm b hb vb) fun z hzm => by
        obtain ⟨z1, z2⟩ := List.mem_filter.mp hzm
        have rz := Q.rg2 z z1
        rcases hz (z + h) (List.mem_append_right _ (List.mem_map.mpr ⟨z, z1, rfl⟩)) (by rw [adj_rc rj.1 rj.2 rz.1 rz.2]; exact z2) with e | e
        · exact .inl (by omega)
        · exact .inr (by omega)
      show (((q.2.filter fun k => bit R j k).length : Nat) : Int) = 2
      omega
    · -- along the ring
      have e0 : at_ c 0 = at_ q.1 0 := by
        obtain ⟨m1, m2⟩ := closed_min C hp
        have hI0 : at_ q.1 0 ∈ q.1 ++ q.2.map fun k => k + (h : Int) := List.mem_append_left _ (at_mem (by omega))
        apply Classical.byContradiction
        intro hne
        have h1 := m2 _ hI0 fun e => hne e.symm
        obtain ⟨i, hi, ei⟩ := mem_at m1
        have e0 : at_ (q.1 ++ q.2.map fun k => k + (h : Int)) 0 = at_ q.1 0 := at_left (by omega)
        have hi0 : 0 < i := Nat.pos_of_ne_zero (by rintro rfl; rw [e0] at ei; exact hne ei.symm)
        have h3 : at_ q.1 0 < at_ c 0 := by
          rw [← ei, ← e0]
          exact asc_at hV hi0 hi
        omega
      have hc := closed_conn C hp
      rw [e0] at hc
      -- rows by P, columns by a row with P that has a one there
      have key := hc (fun v => (v < h → P v) ∧ ((h : Int) ≤ v → ∃ i ∈ q.1, P i ∧ bit R i (v - h) = true)) ⟨fun _ => h0, fun hh => by have := Q.rg1 _ (at_mem (p := q.1) (i := 0) (by omega)); omega⟩ (fun u hu v hv hPu huv => by
        rcases adj_iff.mp huv with ⟨u0, u1, v0, v1, b⟩ | ⟨v0, v1, u0, u1, b⟩
        · refine ⟨fun hh => by omega, fun _ => ⟨u, ?_, hPu.1 u1, b⟩⟩
          rcases List.mem_append.mp hu with h1 | h1
          · exact h1
          · obtain ⟨k', hk', rfl⟩ := List.mem_map.mp h1
            have := Q.rg2 k' hk'; omega
        · refine ⟨fun _ => ?_, fun hh => by omega⟩
          obtain ⟨i, hi, hPi, bi⟩ := hPu.2 u0
          have hvI : v ∈ q.1 := by
            rcases List.mem_append.mp hv with h1 | h1
            · exact h1
            · obtain ⟨k', hk', rfl⟩ := List.mem_map.mp h1
              have := Q.rg2 k' hk'; omega
          have huJ : u - h ∈ q.2 := by
            rcases List.mem_append.mp hu with h1 | h1
            · have := Q.rg1 u h1; omega
            · obtain ⟨k', hk', rfl⟩ := List.mem_map.mp h1
              rw [show k' + (h : Int) - h = k' by omega]; exact hk'
          exact hs i hi v hvI (u - h) huJ hPi bi b)
      intro j hj
      exact (key j (List.mem_append_left _ hj)).1 (Q.rg1 j hj).2
end Rg
namespace Rg
open PySem PySem.W L2 Ev Bd Sp
def lastOk (e : List Int) (k : Int) : Bool := e.isEmpty || decide (at_ e (e.length - 1) < k)
def someL (n : Nat) : Nat → Rw
  | 0 => [[]]
  | s + 1 => (someL n s).flatMap fun e => ((rng n).filter (lastOk e)).map fun k => e ++ [k]
theorem asc_snoc {e : List Int} {k : Int} : Asc (e ++ [k]) ↔ Asc e ∧ lastOk e k = true := by
  unfold Asc lastOk
  rw [List.pairwise_append]
  constructor
  · rintro ⟨h1, _, h3⟩
    refine ⟨h1, ?_⟩
    cases e with
    | nil => rfl
    | cons x e =>
      rw [Bool.or_eq_true]
      right
      exact decide_eq_true (h3 _ (at_mem (p := x :: e) (i := (x :: e).length - 1) (by simp)) k (by simp))
  · rintro ⟨h1, h2⟩
    refine ⟨h1, by simp, fun a ha b hb => ?_⟩
    rw [List.mem_singleton.mp hb]
    rw [Bool.or_eq_true] at h2
    rcases h2 with h2 | h2
    · have : e = [] := List.isEmpty_iff.mp h2
      subst this; simp at ha
    · have h2 := of_decide_eq_true h2
      obtain ⟨i, hi, rfl⟩ := mem_at ha
      by_cases hl : i = e.length - 1
      · rw [hl]; exact h2
      · have := asc_at h1 (show i < e.length - 1 by omega) (by omega); omega
theorem mem_some {n : Nat} : ∀ {s : Nat} {e : List Int}, e ∈ someL n s ↔ Asc e ∧ (∀ x ∈ e, 0 ≤ x ∧ x < n) ∧ e.length = s
  | 0, e => by
    simp only [someL, List.mem_singleton]
    constructor
    · rintro rfl; exact ⟨List.Pairwise.nil, by simp, rfl⟩
    · rintro ⟨_, _, h⟩; exact List.length_eq_zero_iff.mp h
  | s + 1, e => by
    simp only [someL, List.mem_flatMap, List.mem_map]
    constructor
    · rintro ⟨f, hf, k, hk, rfl⟩
      obtain ⟨h1, h2, h3⟩ := mem_some.mp hf
      obtain ⟨k1, k2⟩ := List.mem_filter.mp hk
      refine ⟨asc_snoc.mpr ⟨h1, k2⟩, fun x hx => ?_, by simp [h3]⟩
      rcases List.mem_append.mp hx with hx | hx
      · exact h2 x hx
      · rw [List.mem_singleton.mp hx]; exact mem_rng.mp k1
    · rintro ⟨h1, h2, h3⟩
      have hne : e ≠ [] := by rintro rfl; simp at h3
      have hd := List.dropLast_concat_getLast hne
      rw [← hd] at h1
      obtain ⟨g1, g2⟩ := asc_snoc.mp h1
      exact ⟨e.dropLast, mem_some.mpr ⟨g1, fun x hx => h2 x (List.dropLast_subset _ hx), by simp [h3]⟩, e.getLast hne, List.mem_filter.mpr ⟨mem_rng.mpr (h2 _ (List.getLast_mem hne)), g2⟩, hd⟩
theorem lt_last {e : List Int} {a b : Int} (h : a < b) : e ++ [a] < e ++ [b] := by
  induction e with
  | nil => simpa [List.cons_lt_cons_iff] using h
  | cons x e ih => simpa [List.cons_lt_cons_iff] using ih
theorem lt_app : ∀ {e f x y : List Int}, e.length = f.length → e < f → e ++ x < f ++ y
  | [], [], x, y, _, h => absurd h (List.lt_irrefl _)
  | [], _ :: _, _, _, h, _ => by simp at h
  | _ :: _, [], _, _, h, _ => by simp at h
  | a :: e, b :: f, x, y, hl, h => by
    rw [List.cons_lt_cons_iff] at h
    rw [List.cons_append, List.cons_append, List.cons_lt_cons_iff]
    rcases h with h | ⟨rfl, h⟩
    · exact .inl h
    · exact .inr ⟨rfl, lt_app (by simpa using hl) h⟩
theorem rng_asc {n : Nat} : (rng n).Pairwise (· < ·) := by
  unfold rng
  rw [List.pairwise_map]
  exact List.Pairwise.imp (fun h => by omega) List.pairwise_lt_range
theorem some_sorted {n : Nat} : ∀ s, (someL n s).Pairwise (· < ·)
  | 0 => by simp [someL]
  | s + 1 => by
    unfold someL
    rw [List.pairwise_flatMap]
    refine ⟨fun e _ => ?_, ?_⟩
    · rw [List.pairwise_map]
      exact List.Pairwise.imp (fun h => lt_last h) (List.Pairwise.sublist List.filter_sublist rng_asc)
    · refine List.Pairwise.imp_of_mem (fun {e f} he hf h x hx y hy => ?_) (some_sorted s)
      obtain ⟨a, _, rfl⟩ := List.mem_map.mp hx
      obtain ⟨b, _, rfl⟩ := List.mem_map.mp hy
      exact lt_app (by rw [(mem_some.mp he).2.2, (mem_some.mp hf).2.2]) h
theorem map_lt {f : Int → Int} {n : Nat} (hf : ∀ a b : Int, 0 ≤ a → a < b → b < n → f a < f b) : ∀ {P Q : List Int}, (∀ x ∈ P, 0 ≤ x ∧ x < n) → (∀ x ∈ Q, 0 ≤ x ∧ x < n) → P < Q → P.map f < Q.map f
  | [], [], _, _, h => absurd h (List.lt_irrefl _)
  | [], _ :: _, _, _, _ => by simp
  | _ :: _, [], _, _, h => by simp at h
  | a :: P, b :: Q, hP, hQ, h => by
    have ha := hP a (List.mem_cons_self ..)
    have hb := hQ b (List.mem_cons_self ..)
    rw [List.cons_lt_cons_iff] at h
    rw [List.map_cons, List.map_cons, List.cons_lt_cons_iff]
    rcases h with h | ⟨rfl, h⟩
    · exact .inl (hf a b ha.1 h hb.2)
    · exact .inr ⟨rfl, map_lt hf (fun x hx => hP x (List.mem_cons_of_mem _ hx)) (fun x hx => hQ x (List.mem_cons_of_mem _ hx)) h⟩
def pickT (T P : List Int) : List Int := P.map fun k => T.getD k.toNat 0
theorem pick_mono {T : List Int} (hT : Asc T) (a b : Int) (h0 : 0 ≤ a) (h1 : a < b) (h2 : b < T.length) : T.getD a.toNat 0 < T.getD b.toNat 0 := asc_at hT (by omega) (by omega)
theorem pick_asc {T P : List Int} (hT : Asc T) (hP : Asc P) (hr : ∀ x ∈ P, 0 ≤ x ∧ x < T.length) : Asc (pickT T P) := by
  unfold Asc pickT
  rw [List.pairwise_map]
  exact List.Pairwise.imp_of_mem (fun ha hb h => pick_mono hT _ _ (hr _ ha).1 h (hr _ hb).2) hP
theorem pick_mem {T P : List Int} (hr : ∀ x ∈ P, 0 ≤ x ∧ x < T.length) : ∀ k ∈ pickT T P, k ∈ T := fun k hk => by
  obtain ⟨x, hx, rfl⟩ := List.mem_map.mp hk
  have := hr x hx
  exact gmem (by omega)
theorem pick_ex {T J : List Int} (hT : Asc T) (hJ : Asc J) (hs : ∀ k ∈ J, k ∈ T) : ∃ P, Asc P ∧ (∀ x ∈ P, 0 ≤ x ∧ x < T.length) ∧ P.length = J.length ∧ pickT T P = J := by
  have hidx : ∀ k ∈ J, T.idxOf k < T.length ∧ T.getD (T.idxOf k) 0 = k := fun k hk => by
    have h1 := List.idxOf_lt_length_of_mem (hs k hk)
    refine ⟨h1, ?_⟩
    rw [List.getD_eq_getElem?_getD, List.getElem?_eq_getElem h1]
    simp
  refine ⟨J.map fun k => (T.idxOf k : Int), ?_, fun x hx => ?_, by simp, ?_⟩
  · unfold Asc
    rw [List.pairwise_map]
    refine List.Pairwise.imp_of_mem (fun {a b} ha hb h => ?_) hJ
    have h1 := hidx a ha
    have h2 := hidx b hb
    apply Classical.byContradiction
    intro hn
    by_cases he : T.idxOf a = T.idxOf b
    · have : a = b := by rw [← h1.2, ← h2.2, he]
      omega
    · have := asc_at hT (show T.idxOf b < T.idxOf a by omega) h1.1
      unfold at_ at this
      rw [h1.2, h2.2] at this
      omega
  · obtain ⟨k, hk, rfl⟩ := List.mem_map.mp hx
    have := (hidx k hk).1
    omega
  · unfold pickT
    rw [List.map_map]
    conv => rhs; rw [← List.map_id J]
    refine List.map_congr_left fun k hk => ?_
    simp only [Function.comp, Int.toNat_natCast, id]
    exact (hidx k hk).2
def twosL (R : Rw) (w : Nat) (I : List Int) : List Int := (rng w).filter fun k => (I.map fun j => val R j k).sum == 2
def tw (R : Rw) (w : Nat) (I : List Int) (s : Nat) : List Int := if (s : Int) ≤ (twosL R w I).length then twosL R w I else []
def candI (R : Rw) (w s : Nat) (I : List Int) : List Pq := (someL (tw R w I s).length s).map fun P => (I, pickT (tw R w I s) P)
def candS (R : Rw) (h w s : Nat) : List Pq := (someL h s).flatMap fun I => candI R w s I
def cand (R : Rw) (h w : Nat) : List Pq := [3, 5, 7].flatMap fun s => candS R h w s
open Classical in
noncomputable def okQ (R : Rw) (q : Pq) : Bool := decide (∀ j ∈ q.1, (q.2.map fun k => val R j k).sum = 2) && decide (Hang R q.1 q.2)
noncomputable def lawL (R : Rw) (h w : Nat) : List Pq := (cand R h w).filter (okQ R)
theorem tw_asc {R : Rw} {w s : Nat} {I : List Int} : Asc (tw R w I s) := by
  unfold tw
  split
  · exact List.Pairwise.sublist List.filter_sublist rng_asc
  · exact List.Pairwise.nil
theorem tw_mem {R : Rw} {w s : Nat} {I : List Int} {k : Int} (h : k ∈ tw R w I s) : (0 ≤ k ∧ k < w) ∧ (I.map fun j => val R j k).sum = 2 := by
  unfold tw at h
  split at h
  · obtain ⟨h1, h2⟩ := List.mem_filter.mp h
    exact ⟨mem_rng.mp h1, by simpa using h2⟩
  · simp at h
theorem mem_candS {R : Rw} {h w s : Nat} {q : Pq} (hs : 0 < s) : q ∈ candS R h w s ↔ q.1.length = s ∧ q.2.length = s ∧ Asc q.1 ∧ Asc q.2 ∧ (∀ i ∈ q.1, 0 ≤ i ∧ i < h) ∧ (∀ k ∈ q.2, 0 ≤ k ∧ k < w) ∧ ∀ k ∈ q.2, (q.1.map fun j => val R j k).sum = 2 := by
  unfold candS candI
  simp only [List.mem_flatMap, List.mem_map]
  constructor
  · rintro ⟨I, hI, P, hP, rfl⟩
    obtain ⟨i1, i2, i3⟩ := mem_some.mp hI
    obtain ⟨p1, p2, p3⟩ := mem_some.mp hP
    exact ⟨i3, by simp [pickT, p3], i1, pick_asc tw_asc p1 p2, i2, fun k hk => (tw_mem (pick_mem p2 k hk)).1, fun k hk => (tw_mem (pick_mem p2 k hk)).2⟩
  · rintro ⟨l1, l2, a1, a2, r1, r2, c⟩
    have hT : Asc (twosL R w q.1) := List.Pairwise.sublist List.filter_sublist rng_asc
    have hJ : ∀ k ∈ q.2, k ∈ twosL R w q.1 := fun k hk => List.mem_filter.mpr ⟨mem_rng.mpr (r2 k hk), by simpa using c k hk⟩
    have hle := nodup_le (asc_nodup a2) hJ
    have e : tw R w q.1 s = twosL R w q.1 := by unfold tw; rw [if_pos (by omega)]
    obtain ⟨P, p1, p2, p3, p4⟩ := pick_ex hT a2 hJ
    exact ⟨q.1, mem_some.mpr ⟨a1, r1, l1⟩, P, mem_some.mpr ⟨p1, by rw [e]; exact p2, by omega⟩, by rw [e, p4]⟩
theorem mem_lawL {R : Rw} {h w : Nat} {q : Pq} : q ∈ lawL R h w ↔ LawR h w R q := by
  unfold lawL cand okQ
  rw [List.mem_filter, List.mem_flatMap]
  simp only [Bool.and_eq_true, decide_eq_true_eq]
  constructor
  · rintro ⟨⟨s, hs, hq⟩, h1, h2⟩
    have hs' : s = 3 ∨ s = 5 ∨ s = 7 := by simpa using hs
    obtain ⟨l1, l2, a1, a2, r1, r2, c⟩ := (mem_candS (by omega)).mp hq
    exact ⟨by omega, by omega, a1, a2, r1, r2, c, h1, h2⟩
  · intro Q
    have hsz := Q.size
    refine ⟨⟨q.1.length, by simpa using hsz, (mem_candS (by omega)).mpr ⟨rfl, Q.eq.symm, Q.asc1, Q.asc2, Q.rg1, Q.rg2, Q.col⟩⟩, Q.row, Q.hang⟩
theorem candS_len {R : Rw} {h w s : Nat} {q : Pq} (hq : q ∈ candS R h w s) : q.1.length = s := by
  unfold candS candI at hq
  obtain ⟨I, hI, hq⟩ := List.mem_flatMap.mp hq
  obtain ⟨P, _, rfl⟩ := List.mem_map.mp hq
  exact (mem_some.mp hI).2.2
theorem lawL_sorted {R : Rw} {h w : Nat} : (lawL R h w).Pairwise LtQ := by
  refine List.Pairwise.sublist List.filter_sublist ?_
  unfold cand
  rw [List.pairwise_flatMap]
  refine ⟨fun s _ => ?_, ?_⟩
  · unfold candS
    rw [List.pairwise_flatMap]
    refine ⟨fun I _ => ?_, ?_⟩
    · unfold candI
      rw [List.pairwise_map]
      refine List.Pairwise.imp_of_mem (fun {P Q} hP hQ hlt => ?_) (some_sorted s)
      exact .inr ⟨rfl, .inr ⟨rfl, map_lt (n := (tw R w I s).length) (fun a b => pick_mono tw_asc a b) (mem_some.mp hP).2.1 (mem_some.mp hQ).2.1 hlt⟩⟩
    · refine List.Pairwise.imp_of_mem (fun {I K} hI hK hlt x hx y hy => ?_) (some_sorted s)
      obtain ⟨P, _, rfl⟩ := List.mem_map.mp hx
      obtain ⟨Q, _, rfl⟩ := List.mem_map.mp hy
      exact .inr ⟨by rw [(mem_some.mp hI).2.2, (mem_some.mp hK).2.2], .inl hlt⟩
  · have key : ∀ s t, s < t → ∀ x ∈ candS R h w s, ∀ y ∈ candS R h w t, LtQ x y := fun s t hst x hx y hy => .inl (by rw [candS_len hx, candS_len hy]; exact hst)
    simp only [List.pairwise_cons, List.mem_cons, List.not_mem_nil, or_false, forall_eq_or_imp, forall_eq]
    exact ⟨⟨key 3 5 (by omega), key 3 7 (by omega)⟩, key 5 7 (by omega), by simp⟩
/-- what the program tells is what the law finds -/
theorem rings_same {R : Rw} {h w : Nat} {L : List Pq} (hl : R.length = h) (h8 : h ≤ 8) (g : G01 w R) (nd : L.Nodup) (hm : ∀ q, q ∈ L ↔ Ring h w R q) : srtR L = lawL R h w :=
  srtR_eq nd lawL_sorted fun q => by rw [hm q, mem_lawL, law_ring hl h8 g]
end Rg
namespace Rg
open PySem PySem.W L2 Ev Bd Sp
def nr (R : Rw) (J s : List Int) (j : Int) : Bool := J.any fun k => bit R j k && s.any fun i => bit R i k
def stp (R : Rw) (J s : List Int) (j : Int) : List Int := if j ∉ s ∧ nr R J s j = true then s ++ [j] else s
def swp (R : Rw) (I J s : List Int) : List Int := I.foldl (stp R J) s
def swps (R : Rw) (I J : List Int) : Nat → List Int
  | 0 => [at_ I 0]
  | n + 1 => swp R I J (swps R I J n)
section
variable {R : Rw} {I J s : List Int} {j : Int}
theorem stp_le : s.length ≤ (stp R J s j).length := by unfold stp; split <;> simp
theorem swp_le : ∀ {K s : List Int}, s.length ≤ (K.foldl (stp R J) s).length
  | [], s => Nat.le_refl _
  | j :: K, s => Nat.le_trans stp_le (swp_le (K := K) (s := stp R J s j))
theorem stp_inv (P : List Int → Prop) (h : ∀ s j, j ∈ I → P s → j ∉ s → nr R J s j = true → P (s ++ [j])) : ∀ {K s : List Int}, (∀ j ∈ K, j ∈ I) → P s → P (K.foldl (stp R J) s)
  | [], s, _, p => p
  | j :: K, s, hK, p => by
    refine stp_inv P h (K := K) (fun x hx => hK x (List.mem_cons_of_mem _ hx)) ?_
    unfold stp
    split
    · rename_i hc; exact h s j (hK j (List.mem_cons_self ..)) p hc.1 hc.2
    · exact p
theorem swps_inv (P : List Int → Prop) (h0 : P [at_ I 0]) (h : ∀ s j, j ∈ I → P s → j ∉ s → nr R J s j = true → P (s ++ [j])) : ∀ n, P (swps R I J n)
  | 0 => h0
  | n + 1 => stp_inv P h (fun _ h => h) (swps_inv P h0 h n)
theorem swp_fix : ∀ {K s : List Int}, K.foldl (stp R J) s = s → ∀ j ∈ K, ¬ (j ∉ s ∧ nr R J s j = true)
  | [], s, _, j, hj => by simp at hj
  | k :: K, s, e, j, hj => by
    rw [List.foldl_cons] at e
    have hk : ¬ (k ∉ s ∧ nr R J s k = true) := fun hc => by
      have h1 := swp_le (R := R) (J := J) (K := K) (s := stp R J s k)
      rw [e] at h1
      unfold stp at h1
      rw [if_pos hc] at h1
      simp only [List.length_append, List.length_singleton] at h1
      omega
    have e1 : stp R J s k = s := by unfold stp; rw [if_neg hk]
    rw [e1] at e
    rcases List.mem_cons.mp hj with rfl | hj
    · exact hk
    · exact swp_fix e j hj
theorem swps_grow : ∀ n, (∃ m, m < n ∧ swps R I J (m + 1) = swps R I J m) ∨ n < (swps R I J n).length
  | 0 => .inr (by simp [swps])
  | n + 1 => by
    rcases swps_grow n with ⟨m, h1, h2⟩ | h
    · exact .inl ⟨m, by omega, h2⟩
    · by_cases he : swps R I J (n + 1) = swps R I J n
      · exact .inl ⟨n, by omega, he⟩
      · right
        -- a step that changes something adds one at least
        have key : ∀ (K s : List Int), K.foldl (stp R J) s ≠ s → s.length < (K.foldl (stp R J) s).length := by
          intro K
          induction K with
          | nil => intro s h; exact absurd rfl h
          | cons j K ih =>
            intro s h
            rw [List.foldl_cons] at h ⊢
            by_cases hc : j ∉ s ∧ nr R J s j = true
            · have : s.length < (stp R J s j).length := by unfold stp; rw [if_pos hc]; simp
              exact Nat.lt_of_lt_of_le this swp_le
            · have e1 : stp R J s j = s := by unfold stp; rw [if_neg hc]
              rw [e1] at h ⊢
              exact ih s h
        have := key I (swps R I J n) he
        show n + 1 < (I.foldl (stp R J) (swps R I J n)).length
        omega
theorem swps_stay {m : Nat} (h : swps R I J (m + 1) = swps R I J m) : ∀ d, swps R I J (m + d) = swps R I J m
  | 0 => rfl
  | d + 1 => by
    show swp R I J (swps R I J (m + d)) = _
    rw [swps_stay h d]; exact h
theorem hang_iff (hI : 0 < I.length) (nd : I.Nodup) : (swps R I J I.length).length = I.length ↔ Hang R I J := by
  have sub : ∀ n, ∀ x ∈ swps R I J n, x ∈ I := fun n => swps_inv (fun s => ∀ x ∈ s, x ∈ I) (fun x hx => by rw [List.mem_singleton.mp hx]; exact at_mem hI) (fun s j hj p _ _ x hx => by
    rcases List.mem_append.mp hx with hx | hx
    · exact p x hx
    · rw [List.mem_singleton.mp hx]; exact hj) n
  have snd : ∀ n, (swps R I J n).Nodup := fun n => swps_inv (fun s => s.Nodup) (by simp) (fun s j hj p hn _ => by
    rw [List.nodup_append]
    exact ⟨p, by simp, fun a ha b hb => by rw [List.mem_singleton.mp hb]; rintro rfl; exact hn ha⟩) n
  constructor
  · intro hlen P h0 hs j hj
    have all : ∀ x ∈ swps R I J I.length, P x := swps_inv (fun s => (∀ x ∈ s, x ∈ I) ∧ ∀ x ∈ s, P x) ⟨fun x hx => by rw [List.mem_singleton.mp hx]; exact at_mem hI, fun x hx => by rw [List.mem_singleton.mp hx]; exact h0⟩ (fun s j hj p _ hn => by
      refine ⟨fun x hx => ?_, fun x hx => ?_⟩
      · rcases List.mem_append.mp hx with hx | hx
        · exact p.1 x hx
        · rw [List.mem_singleton.mp hx]; exact hj
      · rcases List.mem_append.mp hx with hx | hx
        · exact p.2 x hx
        · rw [List.mem_singleton.mp hx]
          unfold nr at hn
          obtain ⟨k, hk, hb⟩ := List.any_eq_true.mp hn
          rw [Bool.and_eq_true] at hb
          obtain ⟨i, hi, hb2⟩ := List.any_eq_true.mp hb.2
          exact hs i (p.1 i hi) j hj k hk (p.2 i hi) hb2 hb.1) I.length |>.2
    apply all
    apply Classical.byContradiction
    intro hn
    have := nodup_le (l := j :: swps R I J I.length) (m := I) (List.nodup_cons.mpr ⟨hn, snd _⟩) fun x hx => by
      rcases List.mem_cons.mp hx with rfl | hx
      · exact hj
      · exact sub _ x hx
    simp at this; omega
  · intro H
    have hle := nodup_le (snd I.length) (sub I.length)
    obtain ⟨m, hm, hfix⟩ : ∃ m, m < I.length ∧ swps R I J (m + 1) = swps R I J m := by
      rcases swps_grow (R := R) (I := I) (J := J) I.length with h | h
      · exact h
      · omega
    have hst : swps R I J I.length = swps R I J m := by
      obtain ⟨d, hd⟩ := Nat.exists_eq_add_of_le (Nat.le_of_lt hm)
      rw [hd]; exact swps_stay hfix d
    have h0 : at_ I 0 ∈ swps R I J m := swps_inv (fun s => at_ I 0 ∈ s) (by simp) (fun s j _ p _ _ => List.mem_append_left _ p) m
    have all := H (· ∈ swps R I J m) h0 fun i hi j hj k hk hiS b1 b2 => by
      apply Classical.byContradiction
      intro hn
      refine swp_fix hfix j hj ⟨hn, ?_⟩
      exact List.any_eq_true.mpr ⟨k, hk, by rw [b2]; exact List.any_eq_true.mpr ⟨i, hiS, b1⟩⟩
    have := nodup_le nd (m := swps R I J m) all
    rw [hst] at hle ⊢
    omega
end
section
variable {cal : Nat → List D → M D} {S : Store}
end
end Rg
namespace Rg
open PySem PySem.W L2 Ev Bd Sp
section
variable {cal : Nat → List D → M D} {S : Store}
end
end Rg
namespace Rg
open PySem PySem.W L2 Ev Bd Sp
structure CR (cal : Nat → List D → M D) (R : Rw) (h w : Nat) : Prop where
  some : ∀ (n s : Nat) S, n ≤ 8 → s ≤ 8 → cal 54 [.int n, .int s] S = .ok (lotsL (someL n s)) S
  twos : ∀ (I : List Int) (s : Nat) S, (∀ i ∈ I, 0 ≤ i ∧ i < h) → I.length ≤ 8 → cal 56 [rowsL R, tI I, .int s] S = .ok (lI (tw R w I s)) S
  one : ∀ (I J : List Int) S, (∀ i ∈ I, 0 ≤ i ∧ i < h) → 0 < I.length → I.length ≤ 8 → (∀ k ∈ J, 0 ≤ k ∧ k < w) → J.length ≤ 8 → ∃ S', cal 55 [rowsL R, tI I, tI J] S = .ok (.bl (decide ((swps R I J I.length).length = I.length))) S' ∧ Keep S S'
section
variable {cal : Nat → List D → M D}
theorem Keep.get {S S' : Store} (h : Keep S S') {j : Nat} {x : Option Cell} (hj : S[j]? = some x) : S'[j]? = some x := by
  rw [h.2 j (List.getElem?_eq_some_iff.mp hj).1]; exact hj
end
end Rg
namespace Rg
open PySem PySem.W L2 Ev Bd Sp
structure Fine (p : PyData) (wt dp : Nat) : Prop where
  sh : p.showable = true
  ish : p.intsShort 13 = true
  lay : p.canLay0 = true
  wt : p.weight ≤ wt
  dp : p.depth ≤ dp
theorem Fine.mono {p : PyData} {a b c d : Nat} (h : Fine p a b) (h1 : a ≤ c) (h2 : b ≤ d) : Fine p c d := ⟨h.sh, h.ish, h.lay, Nat.le_trans h.wt h1, Nat.le_trans h.dp h2⟩
theorem law_le {R : Rw} {h w : Nat} (h8 : h ≤ 8) (w8 : w ≤ 8) : (lawL R h w).length ≤ 65536 := by
  have nd : (lawL R h w).Nodup := List.Pairwise.imp (fun h e => by subst e; exact ltQ_asymm h h) lawL_sorted
  have key : ((lawL R h w).map fun q => q.1 ++ q.2.map fun k => k + (h : Int)).Nodup := by
    rw [List.Nodup, List.pairwise_map]
    refine List.Pairwise.imp_of_mem (fun {a b} ha hb hne e => hne ?_) nd
    have A := mem_lawL.mp ha
    have B := mem_lawL.mp hb
    have hl : a.1.length = b.1.length := by
      have := congrArg List.length e
      have h1 := A.eq
      have h2 := B.eq
      simp at this; omega
    obtain ⟨e1, e2⟩ := List.append_inj e hl
    refine Prod.ext e1 (List.map_inj_right (f := fun k => k + (h : Int)) (fun x y hxy => by simpa using hxy) |>.mp e2)
  have := nodup_le key (m := subs (h + w)) fun l hl => by
    obtain ⟨q, hq, rfl⟩ := List.mem_map.mp hl
    have Q := mem_lawL.mp hq
    refine mem_subs (asc_joined Q.asc1 Q.asc2 Q.rg1 fun k hk => (Q.rg2 k hk).1) fun x hx => ?_
    rcases List.mem_append.mp hx with hx | hx
    · have := Q.rg1 x hx; omega
    · obtain ⟨k, hk, rfl⟩ := List.mem_map.mp hx
      have := Q.rg2 k hk; omega
  rw [List.length_map, subs_len] at this
  exact Nat.le_trans this (Nat.le_trans (Nat.pow_le_pow_right (by omega) (show h + w ≤ 16 by omega)) (by decide))
section
variable {cal : Nat → List D → M D} {S : Store} {h w : Nat} {R : Rw} {Q : List Pq}
theorem odd_rings_ev (hQ : Q.length ≤ 1000000) (h1 : ∀ S, cal 23 [tabD h w R] S = .ok .non S) (h2 : ∀ S, ∃ S', cal 53 [rowsT R] S = .ok (.lst (Q.map ringD)) S' ∧ Keep S S') : ∃ S', funM 1 1 (b_odd_rings cal) [tabD h w R] S = .ok (.tup (Q.map ringD)) S' ∧ Keep S S' := by
  obtain ⟨S1, e1, k1⟩ := h2 S
  unfold b_odd_rings
  exact ⟨S1, funM_rt rfl (sSeq_nx (sExpr_ok (eCal_ok (aCons_ok rfl rfl) (h1 S))) (sRet_ok (eCallV_ok (aCons_ok (eCal_ok (aCons_ok (eFld_ok rfl rfl rfl rfl) rfl) e1) rfl) (tuple_lst (by rw [List.length_map]; exact small hQ))))), k1⟩
def firstD (Q : List Pq) : D := match Q with
  | [] => .non
  | q :: _ => ringD q
end
structure C17 (cal : Nat → List D → M D) : Prop where
  grid : GridF ReedJ (cal 51)
  full : ∀ (R : Rw) (most : Nat) S, Grid most R → most ≤ 8 → ∃ b, cal 50 [rowsL R] S = .ok (.bl b) S ∧ (b = true → ∃ h w, Full h w R ∧ h ≤ most ∧ w ≤ most)
  text : ∀ h w R S, Full h w R → cal 2 [rowsL R] S = .ok (.str (txt R)) S
  tab : ∀ h w R S, Full h w R → cal 1 [.str (txt R)] S = .ok (tabD h w R) S
  mine : ∀ h w R S, Full h w R → ∃ S', cal 49 [rowsL R] S = .ok (.lst ((lawL R h w).map ringD)) S' ∧ Keep S S'
  odd : ∀ h w R S, Full h w R → ∃ S', cal 48 [tabD h w R] S = .ok (.tup ((lawL R h w).map ringD)) S' ∧ Keep S S'
  even : ∀ h w R S, Full h w R → ∃ S', cal 47 [tabD h w R] S = .ok (.bl (lawL R h w).isEmpty) S' ∧ Keep S S'
  first : ∀ h w R S, Full h w R → ∃ S', cal 46 [tabD h w R] S = .ok (firstD (lawL R h w)) S' ∧ Keep S S'
end Rg
namespace Rg
open PySem PySem.W L2 Ev Bd Sp
section
variable {cal : Nat → List D → M D} {S : Store}
end
end Rg
namespace Rg
open PySem PySem.W L2 Ev Bd Sp
/-- rows of digits, noughts alone too -/
structure GrX (h w : Nat) (R : Rw) : Prop where
  len : R.length = h
  g : G01 w R
  h1 : 0 < h
  w1 : 0 < w
  hw : h + w ≤ 16
  w8 : w ≤ 8
theorem GrX.h2 {h w : Nat} {R : Rw} (F : GrX h w R) : h ≤ 15 := by have := F.hw; have := F.w1; omega
theorem GrX.w2 {h w : Nat} {R : Rw} (F : GrX h w R) : w ≤ 15 := by have := F.hw; have := F.h1; omega
theorem spots_okX {h w : Nat} {R : Rw} (hw : h + w ≤ 16) : Spots (h + w) (spotsL h w R) (adjR h w R) := by
  refine ⟨by simp [spotsL, rng_length], by omega, fun r hr => ?_, fun a b h0 h1 => ?_, fun a b e => ?_, adj_sym⟩
  · rcases List.mem_append.mp hr with hr | hr
    · obtain ⟨x, _, rfl⟩ := List.mem_map.mp hr
      have := List.length_filter_le (fun c => bit R x c) (rng w)
      rw [rng_length] at this
      simp; omega
    · obtain ⟨x, _, rfl⟩ := List.mem_map.mp hr
      have := List.length_filter_le (fun r => bit R r x) (rng h)
      rw [rng_length] at this
      omega
  · rw [adj_iff, List.getD_eq_getElem?_getD]
    unfold spotsL
    by_cases ha : a < h
    · rw [List.getElem?_append_left (by simp [rng_length]; omega), List.getElem?_map, rng_at (by omega), Option.map_some, Option.getD_some, Int.toNat_of_nonneg h0]
      constructor
      · rintro (⟨_, _, h3, h4, h5⟩ | ⟨_, _, h3, _⟩)
        · exact List.mem_map.mpr ⟨b - h, List.mem_filter.mpr ⟨mem_rng.mpr (by omega), h5⟩, by omega⟩
        · omega
      · intro hm
        obtain ⟨c, hc, rfl⟩ := List.mem_map.mp hm
        obtain ⟨h2, h3⟩ := List.mem_filter.mp hc
        have := mem_rng.mp h2
        exact .inl ⟨h0, ha, by omega, by omega, by rw [show (h : Int) + c - h = c by omega]; exact h3⟩
    · have hal : ((rng h).map fun r => ((rng w).filter fun c => bit R r c).map fun c => (h : Int) + c).length = h := by simp [rng_length]
      rw [List.getElem?_append_right (by rw [hal]; omega), hal, List.getElem?_map, rng_at (by omega), Option.map_some, Option.getD_some, show ((a.toNat - h : Nat) : Int) = a - h by omega]
      constructor
      · rintro (⟨_, h2, _⟩ | ⟨h1, h2, h3, h4, h5⟩)
        · omega
        · exact List.mem_filter.mpr ⟨mem_rng.mpr ⟨h1, h2⟩, h5⟩
      · intro hm
        obtain ⟨h2, h3⟩ := List.mem_filter.mp hm
        have := mem_rng.mp h2
        exact .inr ⟨this.1, this.2, by omega, by omega, h3⟩
  · rcases adj_iff.mp e with ⟨h1, h2, h3, h4, _⟩ | ⟨h1, h2, h3, h4, _⟩ <;> omega
theorem law_ringX {h w : Nat} {R : Rw} {q : Pq} (hl : R.length = h) (w8 : w ≤ 8) (g : G01 w R) : LawR h w R q ↔ Ring h w R q := by
  constructor
  · intro Q
    have hm3 : 3 ≤ q.1.length := by have := Q.size; omega
    have fcol : ∀ k ∈ q.2, (q.1.filter fun j => bit R j k).length = 2 := fun k hk => by
      have e := Q.col k hk
      rw [sum01 _ fun j hj => val01 g hl (Q.rg1 j hj).1 (Q.rg1 j hj).2 (Q.rg2 k hk).1 (Q.rg2 k hk).2] at e
      have : (q.1.filter fun j => val R j k == 1).length = 2 := by omega
      exact this
    have frow : ∀ j ∈ q.1, (q.2.filter fun k => bit R j k).length = 2 := fun j hj => by
      have e := Q.row j hj
      rw [sum01 _ fun k hk => val01 g hl (Q.rg1 j hj).1 (Q.rg1 j hj).2 (Q.rg2 k hk).1 (Q.rg2 k hk).2] at e
      have : (q.2.filter fun k => val R j k == 1).length = 2 := by omega
      exact this
    have hV : Asc (q.1 ++ q.2.map fun k => k + (h : Int)) := asc_joined Q.asc1 Q.asc2 Q.rg1 fun k hk => (Q.rg2 k hk).1
    have T : Two (adjR h w R) (q.1 ++ q.2.map fun k => k + (h : Int)) := fun v hv => by
      rcases List.mem_append.mp hv with hv | hv
      · have rv := Q.rg1 v hv
        obtain ⟨a, b, hab, ha, hb, hz⟩ := two_of_len (List.Sublist.nodup List.filter_sublist (asc_nodup Q.asc2)) (frow v hv)
        obtain ⟨ha1, ha2⟩ := List.mem_filter.mp ha
        obtain ⟨hb1, hb2⟩ := List.mem_filter.mp hb
        have ra := Q.rg2 a ha1
        have rb := Q.rg2 b hb1
        refine ⟨a + h, b + h, by omega, List.mem_append_right _ (List.mem_map.mpr ⟨a, ha1, rfl⟩), List.mem_append_right _ (List.mem_map.mpr ⟨b, hb1, rfl⟩), by rw [adj_rc rv.1 rv.2 ra.1 ra.2]; exact ha2, by rw [adj_rc rv.1 rv.2 rb.1 rb.2]; exact hb2, fun z hzV hz' => ?_⟩
        rcases List.mem_append.mp hzV with hz1 | hz1
        · have := Q.rg1 z hz1
          have := adj_side _ _ hz'
          unfold side at this
          simp [rv.2] at this
          omega
        · obtain ⟨k, hk, rfl⟩ := List.mem_map.mp hz1
          have rk := Q.rg2 k hk
          rw [adj_rc rv.1 rv.2 rk.1 rk.2] at hz'
          rcases hz k (List.mem_filter.mpr ⟨hk, hz'⟩) with rfl | rfl
          · exact .inl rfl
          · exact .inr rfl
      · obtain ⟨k, hk, rfl⟩ := List.mem_map.mp hv
        have rk := Q.rg2 k hk
        obtain ⟨a, b, hab, ha, hb, hz⟩ := two_of_len (List.Sublist.nodup List.filter_sublist (asc_nodup Q.asc1)) (fcol k hk)
        obtain ⟨ha1, ha2⟩ := List.mem_filter.mp ha
        obtain ⟨hb1, hb2⟩ := List.mem_filter.mp hb
        have ra := Q.rg1 a ha1
        have rb := Q.rg1 b hb1
        refine ⟨a, b, hab, List.mem_append_left _ ha1, List.mem_append_left _ hb1, by rw [adj_sym, adj_rc ra.1 ra.2 rk.1 rk.2]; exact ha2, by rw [adj_sym, adj_rc rb.1 rb.2 rk.1 rk.2]; exact hb2, fun z hzV hz' => ?_⟩
        rcases List.mem_append.mp hzV with hz1 | hz1
        · have rz := Q.rg1 z hz1
          rw [adj_sym, adj_rc rz.1 rz.2 rk.1 rk.2] at hz'
          exact hz z (List.mem_filter.mpr ⟨hz1, hz'⟩)
        · obtain ⟨k', hk', rfl⟩ := List.mem_map.mp hz1
          have := Q.rg2 k' hk'
          have := adj_side _ _ hz'
          unfold side at this
          rw [decide_eq_false (by omega), decide_eq_false (by omega)] at this
          exact absurd rfl this
    have hI0 : at_ q.1 0 ∈ q.1 := at_mem (by omega)
    have hmin : ∀ v ∈ (q.1 ++ q.2.map fun k => k + (h : Int)), v ≠ at_ q.1 0 → at_ q.1 0 < v := fun v hv hne => by
      obtain ⟨i, hi, rfl⟩ := mem_at hv
      have e0 : at_ (q.1 ++ q.2.map fun k => k + (h : Int)) 0 = at_ q.1 0 := at_left (by omega)
      have hi0 : 0 < i := Nat.pos_of_ne_zero (by rintro rfl; exact hne e0)
      rw [← e0]
      exact asc_at hV hi0 hi
    have hconn : Conn (adjR h w R) (q.1 ++ q.2.map fun k => k + (h : Int)) (at_ q.1 0) := fun P h0 hs => by
      have rows : ∀ j ∈ q.1, P j := Q.hang P h0 fun i hi j hj k hk hPi b1 b2 => by
        have ri := Q.rg1 i hi
        have rj := Q.rg1 j hj
        have rk := Q.rg2 k hk
        have hk' : k + (h : Int) ∈ q.1 ++ q.2.map fun k => k + (h : Int) := List.mem_append_right _ (List.mem_map.mpr ⟨k, hk, rfl⟩)
        have hPk := hs i (List.mem_append_left _ hi) _ hk' hPi (by rw [adj_rc ri.1 ri.2 rk.1 rk.2]; exact b1)
        exact hs _ hk' j (List.mem_append_left _ hj) hPk (by rw [adj_sym, adj_rc rj.1 rj.2 rk.1 rk.2]; exact b2)
      intro v hv
      rcases List.mem_append.mp hv with hv' | hv'
      · exact rows v hv'
      · obtain ⟨k, hk, rfl⟩ := List.mem_map.mp hv'
        obtain ⟨a, b, hab, ha, hb, hz⟩ := two_of_len (List.Sublist.nodup List.filter_sublist (asc_nodup Q.asc1)) (fcol k hk)
        obtain ⟨ha1, ha2⟩ := List.mem_filter.mp ha
        have ra := Q.rg1 a ha1
        have rk := Q.rg2 k hk
        exact hs a (List.mem_append_left _ ha1) _ hv (rows a ha1) (by rw [adj_rc ra.1 ra.2 rk.1 rk.2]; exact ha2)
    exact ⟨Q.eq, by have := Q.size; omega, by omega, Q.asc1, Q.asc2, Q.rg1, Q.rg2, closed_cover (side := side h) (asc_nodup hV) T adj_sym adj_side (List.mem_append_left _ hI0) hmin hconn⟩
  · intro Q
    obtain ⟨c, C, hp⟩ := Q.cyc
    have T := closed_two C adj_sym adj_irr hp
    have hI8 : q.1.length ≤ 8 := by
      have := nodup_le (asc_nodup Q.asc2) (m := rng w) fun i hi => mem_rng.mpr (Q.rg2 i hi)
      rw [rng_length] at this
      have := Q.eq
      omega
    have hV : Asc (q.1 ++ q.2.map fun k => k + (h : Int)) := asc_joined Q.asc1 Q.asc2 Q.rg1 fun k hk => (Q.rg2 k hk).1
    have hgt := Q.gt
    refine ⟨Q.eq, by have := Q.odd; omega, Q.asc1, Q.asc2, Q.rg1, Q.rg2, fun k hk => ?_, fun j hj => ?_, fun P h0 hs => ?_⟩
    · have rk := Q.rg2 k hk
      rw [sum01 _ fun j hj => val01 g hl (Q.rg1 j hj).1 (Q.rg1 j hj).2 rk.1 rk.2]
      obtain ⟨a, b, hab, ha, hb, va, vb, hz⟩ := T (k + h) (List.mem_append_right _ (List.mem_map.mpr ⟨k, hk, rfl⟩))
      have row : ∀ a ∈ (q.1 ++ q.2.map fun k => k + (h : Int)), adjR h w R (k + h) a = true → a ∈ q.1.filter fun j => bit R j k := fun a ha va => by
        rcases List.mem_append.mp ha with h1 | h1
        · have ra := Q.rg1 a h1
          rw [adj_sym, adj_rc ra.1 ra.2 rk.1 rk.2] at va
          exact List.mem_filter.mpr ⟨h1, va⟩
        · obtain ⟨k', hk', rfl⟩ := List.mem_map.mp h1
          have := Q.rg2 k' hk'
          have := adj_side _ _ va
          unfold side at this
          rw [decide_eq_false (by omega), decide_eq_false (by omega)] at this
          exact absurd rfl this
      have := len_of_two (l := q.1.filter fun j => bit R j k) (List.Sublist.nodup List.filter_sublist (asc_nodup Q.asc1)) hab (row a ha va) (row b hb vb) fun z hzm => by
        obtain ⟨z1, z2⟩ := List.mem_filter.mp hzm
        have rz := Q.rg1 z z1
        exact hz z (List.mem_append_left _ z1) (by rw [adj_sym, adj_rc rz.1 rz.2 rk.1 rk.2]; exact z2)
      show (((q.1.filter fun j => bit R j k).length : Nat) : Int) = 2
      omega
    · have rj := Q.rg1 j hj
      rw [sum01 _ fun k hk => val01 g hl rj.1 rj.2 (Q.rg2 k hk).1 (Q.rg2 k hk).2]
      obtain ⟨a, b, hab, ha, hb, va, vb, hz⟩ := T j (List.mem_append_left _ hj)
      have colm : ∀ a ∈ (q.1 ++ q.2.map fun k => k + (h : Int)), adjR h w R j a = true → a - h ∈ q.2.filter fun k => bit R j k := fun a ha va => by
        rcases List.mem_append.mp ha with h1 | h1
        · have ra := Q.rg1 a h1
          have := adj_side _ _ va
          unfold side at this
          rw [decide_eq_true rj.2, decide_eq_true ra.2] at this
          exact absurd rfl this
        · obtain ⟨k', hk', rfl⟩ := List.mem_map.mp h1
          have rk := Q.rg2 k' hk'
          rw [adj_rc rj.1 rj.2 rk.1 rk.2] at va
          rw [show k' + (h : Int) - h = k' by omega]
          exact List.mem_filter.mpr ⟨hk', va⟩
      have := len_of_two (l := q.2.filter fun k => bit R j k) (List.Sublist.nodup List.filter_sublist (asc_nodup Q.asc2)) (a := a - h) (b := b - h) (by omega) (colm a ha va) (colm b hb vb) fun z hzm => by
        obtain ⟨z1, z2⟩ := List.mem_filter.mp hzm
        have rz := Q.rg2 z z1
        rcases hz (z + h) (List.mem_append_right _ (List.mem_map.mpr ⟨z, z1, rfl⟩)) (by rw [adj_rc rj.1 rj.2 rz.1 rz.2]; exact z2) with e | e
        · exact .inl (by omega)
        · exact .inr (by omega)
      show (((q.2.filter fun k => bit R j k).length : Nat) : Int) = 2
      omega
    · -- along the ring
      have e0 : at_ c 0 = at_ q.1 0 := by
        obtain ⟨m1, m2⟩ := closed_min C hp
        have hI0 : at_ q.1 0 ∈ q.1 ++ q.2.map fun k => k + (h : Int) := List.mem_append_left _ (at_mem (by omega))
        apply Classical.byContradiction
        intro hne
        have h1 := m2 _ hI0 fun e => hne e.symm
        obtain ⟨i, hi, ei⟩ := mem_at m1
        have e0 : at_ (q.1 ++ q.2.map fun k => k + (h : Int)) 0 = at_ q.1 0 := at_left (by omega)
        have hi0 : 0 < i := Nat.pos_of_ne_zero (by rintro rfl; rw [e0] at ei; exact hne ei.symm)
        have h3 : at_ q.1 0 < at_ c 0 := by
          rw [← ei, ← e0]
          exact asc_at hV hi0 hi
        omega
      have hc := closed_conn C hp
      rw [e0] at hc
      -- rows by P, columns by a row with P that has a one there
      have key := hc (fun v => (v < h → P v) ∧ ((h : Int) ≤ v → ∃ i ∈ q.1, P i ∧ bit R i (v - h) = true)) ⟨fun _ => h0, fun hh => by have := Q.rg1 _ (at_mem (p := q.1) (i := 0) (by omega)); omega⟩ (fun u hu v hv hPu huv => by
        rcases adj_iff.mp huv with ⟨u0, u1, v0, v1, b⟩ | ⟨v0, v1, u0, u1, b⟩
        · refine ⟨fun hh => by omega, fun _ => ⟨u, ?_, hPu.1 u1, b⟩⟩
          rcases List.mem_append.mp hu with h1 | h1
          · exact h1
          · obtain ⟨k', hk', rfl⟩ := List.mem_map.mp h1
            have := Q.rg2 k' hk'; omega
        · refine ⟨fun _ => ?_, fun hh => by omega⟩
          obtain ⟨i, hi, hPi, bi⟩ := hPu.2 u0
          have hvI : v ∈ q.1 := by
            rcases List.mem_append.mp hv with h1 | h1
            · exact h1
            · obtain ⟨k', hk', rfl⟩ := List.mem_map.mp h1
              have := Q.rg2 k' hk'; omega
          have huJ : u - h ∈ q.2 := by
            rcases List.mem_append.mp hu with h1 | h1
            · have := Q.rg1 u h1; omega
            · obtain ⟨k', hk', rfl⟩ := List.mem_map.mp h1
              rw [show k' + (h : Int) - h = k' by omega]; exact hk'
          exact hs i hi v hvI (u - h) huJ hPi bi b)
      intro j hj
      exact (key j (List.mem_append_left _ hj)).1 (Q.rg1 j hj).2
theorem rings_sameX {R : Rw} {h w : Nat} {L : List Pq} (hl : R.length = h) (w8 : w ≤ 8) (g : G01 w R) (nd : L.Nodup) (hm : ∀ q, q ∈ L ↔ Ring h w R q) : srtR L = lawL R h w :=
  srtR_eq nd lawL_sorted fun q => by rw [hm q, mem_lawL, law_ringX hl w8 g]
section
variable {cal : Nat → List D → M D} {S : Store}
theorem tru_bitXL {R : Rw} {w : Nat} (g : G01 w R) {r c : Int} (h0 : 0 ≤ r) (h1 : r < R.length) (c0 : 0 ≤ c) (c1 : c < w) {δ : En} {ma mb mc : ME} (ha : ma δ S = .ok (lotsL R) S) (hb : mb δ S = .ok (.int r) S) (hc : mc δ S = .ok (.int c) S) : tru (eOp pIx (eOp pIx ma mb) mc δ) S = .ok (bit R r c) S := by
  have hr : R.getD r.toNat [] ∈ R := by
    rw [List.getD_eq_getElem?_getD, List.getElem?_eq_getElem (show r.toNat < R.length by omega)]
    exact List.getElem_mem _
  have gr := g _ hr
  refine tru_ok (eOp_ok (eOp_ok ha hb (ix_lo h0 h1)) hc (ix_tI c0 (by rw [gr.1]; exact c1))) ?_
  have hv := gr.2 _ (gmem (l := R.getD r.toNat []) (k := c.toNat) (by rw [gr.1]; omega))
  unfold bit
  rcases hv with hv | hv <;> rw [hv] <;> rfl
theorem spots_evXL {h w : Nat} {R : Rw} (F : GrX h w R) : funM 6 1 (b_spots_of cal) [lotsL R] S = .ok (rowsL (spotsL h w R)) S := by
  have hh := F.len
  have h8 := F.h2
  have hw := F.hw
  have w8 := F.w2
  have hR0 : 0 < R.length := by rw [F.len]; exact F.h1
  have w0 : (R.getD 0 []).length = w := by
    rw [List.getD_eq_getElem?_getD, List.getElem?_eq_getElem hR0]
    exact (F.g _ (List.getElem_mem hR0)).1
  have e1 := lc_mapE (S := S) (me := eLc newL (iR1 (aCons (eVar 2) aNil)) (uNm 4) (fun δ => tru ((eOp pIx (eOp pIx (eVar 0) (eVar 5)) (eVar 4)) δ)) (eOp pAdd (eVar 1) (eVar 4)) [4]) (δ0 := wipeD [some (lotsL R), some (.int h), some (.int w), none, none, none] [5]) (k := 5) D.int lI (fun r => ((rng w).filter fun c => bit R r c).map fun c => (h : Int) + c) (zs := rng h) (by rw [rng_length]; exact small (by omega)) (fun r hr => by
    have hr := mem_rng.mp hr
    have e := lc_filE (S := S) (mt := fun δ => tru ((eOp pIx (eOp pIx (eVar 0) (eVar 5)) (eVar 4)) δ)) (me := eOp pAdd (eVar 1) (eVar 4)) (δ0 := wipeD [some (lotsL R), some (.int h), some (.int w), none, none, some (.int r)] [4]) (k := 4) D.int D.int (fun c => bit R r c) (fun c => (h : Int) + c) (zs := rng w) (by rw [rng_length]; exact small (by omega)) (fun c hc => by
      have hc := mem_rng.mp hc
      exact tru_bitXL F.g hr.1 (by omega) hc.1 hc.2 rfl rfl rfl) (fun c hc _ => eOp_ok rfl rfl pAdd_ii)
    rw [show (rng w).map D.int = rngD 0 w from rngD_eq.symm] at e
    have hl := List.length_filter_le (fun c => bit R r c) (rng w)
    rw [rng_length] at hl
    exact eLc_ok (iR1_ok (k := w) (aCons_ok rfl rfl) (by omega)) e (newL_ev (by rw [List.length_map, List.length_map]; exact small (by omega))))
  rw [show (rng h).map D.int = rngD 0 h from rngD_eq.symm] at e1
  have e2 := lc_mapE (S := S) (me := eLc newL (iR1 (aCons (eVar 1) aNil)) (uNm 5) (fun δ => tru ((eOp pIx (eOp pIx (eVar 0) (eVar 5)) (eVar 4)) δ)) (eVar 5) [5]) (δ0 := wipeD [some (lotsL R), some (.int h), some (.int w), some (rowsL ((rng h).map fun r => ((rng w).filter fun c => bit R r c).map fun c => (h : Int) + c)), none, none] [4]) (k := 4) D.int lI (fun c => (rng h).filter fun r => bit R r c) (zs := rng w) (by rw [rng_length]; exact small (by omega)) (fun c hc => by
    have hc := mem_rng.mp hc
    have e := lc_filE (S := S) (mt := fun δ => tru ((eOp pIx (eOp pIx (eVar 0) (eVar 5)) (eVar 4)) δ)) (me := eVar 5) (δ0 := wipeD [some (lotsL R), some (.int h), some (.int w), some (rowsL ((rng h).map fun r => ((rng w).filter fun c => bit R r c).map fun c => (h : Int) + c)), some (.int c), none] [5]) (k := 5) D.int D.int (fun r => bit R r c) id (zs := rng h) (by rw [rng_length]; exact small (by omega)) (fun r hr => by
      have hr := mem_rng.mp hr
      exact tru_bitXL F.g hr.1 (by omega) hc.1 hc.2 rfl rfl rfl) (fun r hr _ => rfl)
    rw [List.map_id, show (rng h).map D.int = rngD 0 h from rngD_eq.symm] at e
    have hl := List.length_filter_le (fun r => bit R r c) (rng h)
    rw [rng_length] at hl
    exact eLc_ok (iR1_ok (k := h) (aCons_ok rfl rfl) (by omega)) e (newL_ev (by rw [List.length_map]; exact small (by omega))))
  rw [show (rng w).map D.int = rngD 0 w from rngD_eq.symm] at e2
  unfold b_spots_of
  refine funM_rt rfl (sSeq_nx (sAsg_ok (eTup_ok (aCons_ok (eCallV_ok (aCons_ok rfl rfl) (by rw [len_lo, hh])) (aCons_ok (eCallV_ok (aCons_ok (eOp_ok rfl rfl (ix_lo (by omega) (by omega))) rfl) (by rw [show (0 : Int).toNat = 0 from rfl, len_tI, w0])) rfl)) (small (by simp))) (gTp2_ok rfl rfl)) (sSeq_nx (sAsg_ok (eLc_ok (iR1_ok (k := h) (aCons_ok rfl rfl) (by omega)) e1 (newL_ev (by rw [List.length_map, List.length_map, rng_length]; exact small (by omega)))) rfl) (sRet_ok (eOp_ok rfl (eLc_ok (iR1_ok (k := w) (aCons_ok rfl rfl) (by omega)) e2 (newL_ev (by rw [List.length_map, List.length_map, rng_length]; exact small (by omega)))) ?_))))
  rw [add_ll (by simp [rng_length]; exact small (by omega)), ← List.map_append]
  rfl
theorem rings_evXL {cal : Nat → List D → M D} {h w : Nat} {R : Rw} {S : Store} (F : GrX h w R) (h63 : ∀ S, cal 63 [lotsL R] S = .ok (rowsL (spotsL h w R)) S) (h62 : ∀ r : Int, 0 ≤ r → r < h → GrS (h + w) (spotsL h w R) (adjR h w R) (cal 62) [r]) (h61 : ∀ q S, cal 61 [ringD q] S = .ok (keyQ q) S) :
    ∃ L S', funM 9 1 (b_rings_of cal) [lotsL R] S = .ok (.lst ((srtR L).map ringD)) S' ∧ Keep S S' ∧ L.Nodup ∧ ∀ q, q ∈ L ↔ Ring h w R q := by
  have h8 := F.h2
  have hw := F.hw
  have w8 := F.w2
  let t := S.length
  let B : Store := S ++ [some (.dT [])]
  have hB : B.set t (some (.dT [])) = B := by simp [B, t]
  have htB : t < B.length := by simp [B, t]
  obtain ⟨δ1, S1, e1, ⟨o4, rfl⟩, kvs, rfl, hk, hm⟩ := loop_inv (mg := gNm 4) (mb := (sExpr (eCal (cal 62) (aCons (eVar 2) (aCons (eLst (aCons (eVar 4) aNil)) (aCons (eVar 3) aNil))))))
    (ds := rngD 0 h) (δ := [some (lotsL R), some (.int h), some (rowsL (spotsL h w R)), some (.ref t), none, none, none, none, none]) (S := B)
    (fun k δ S' => (∃ o4, δ = [some (lotsL R), some (.int h), some (rowsL (spotsL h w R)), some (.ref t), o4, none, none, none, none]) ∧ ∃ kvs, S' = B.set t (some (.dT kvs)) ∧ KOk (h + w) kvs ∧ ∀ z, z ∈ Ks kvs ↔ ∃ c, Closed (adjR h w R) c ∧ at_ c 0 < k ∧ z = srt c) (by
      rintro k δ S' hk ⟨⟨o4, rfl⟩, kvs, rfl, hok, hm⟩
      rw [rng_get]
      rw [rng_len] at hk
      refine ⟨_, _, rfl, ?_⟩
      obtain ⟨kvs', r1, r2, r3⟩ := h62 (k : Int) (by omega) (by omega) t B kvs htB hok
      refine ⟨_, _, sExpr_ok (eCal_ok (aCons_ok rfl (aCons_ok (eLst_ok (aCons_ok rfl rfl) (small (by simp))) (aCons_ok rfl rfl))) r1), ⟨_, rfl⟩, kvs', rfl, r2, fun z => ?_⟩
      rw [r3 z, hm z]
      constructor
      · rintro (⟨c, C, h0, rfl⟩ | ⟨x, e, C, rfl⟩)
        · exact ⟨c, C, by omega, rfl⟩
        · exact ⟨_, C, by simp [at_]; omega, rfl⟩
      · rintro ⟨c, C, h0, rfl⟩
        by_cases hc : at_ c 0 < (k : Int)
        · exact .inl ⟨c, C, hc, rfl⟩
        · right
          have e0 : at_ c 0 = k := by omega
          have h4 := C.len
          match c, h4, e0, C with
          | a :: x :: e, _, e0, C =>
            have : a = (k : Int) := e0
            subst this
            exact ⟨x, e, C, rfl⟩) ⟨⟨_, rfl⟩, [], hB.symm, ⟨by simp, fun k hk => by simp at hk⟩, fun z => ⟨fun hz => by simp at hz, fun ⟨c, C, h0, _⟩ => by
        have h4 := C.len
        have := (closed_rg C).1 _ (at_mem (p := c) (i := 0) (by omega))
        omega⟩⟩
  rw [rng_len] at hm
  have hm' : ∀ z, z ∈ Ks kvs ↔ ∃ c, Closed (adjR h w R) c ∧ z = srt c := fun z => (hm z).trans ⟨fun ⟨c, C, _, e⟩ => ⟨c, C, e⟩, fun ⟨c, C, e⟩ => ⟨c, C, (closed_rg C).2, e⟩⟩
  have hkl : kvs.length ≤ 65536 := Nat.le_trans hk.len (Nat.le_trans (Nat.pow_le_pow_right (by omega) (show h + w ≤ 16 by omega)) (by decide))
  let u := (B.set t (some (.dT kvs))).length
  let B2 : Store := (B.set t (some (.dT kvs)) ++ [some (Cell.lst [])]).set t none
  have hu : u = S.length + 1 := by simp [u, B]
  have hcellT : (B.set t (some (.dT kvs)) ++ [some (Cell.lst [])])[t]? = some (some (.dT kvs)) := by
    rw [List.getElem?_append_left (by simp [B, t]), List.getElem?_set_self htB]
  have hcellU : B2[u]? = some (some (.lst [])) := by
    show ((B.set t (some (.dT kvs)) ++ [some (Cell.lst [])]).set t none)[u]? = _
    rw [List.getElem?_set_ne (by rw [hu]; show S.length ≠ _; omega)]
    simp [u]
  have keepB : Keep S B2 := ((Keep.app.set (Nat.le_refl _)).trans Keep.app).set (Nat.le_refl _)
  obtain ⟨δ2, S2, e2, ⟨o6, o7, rfl⟩, hc2, hk2⟩ := loop_inv (mg := gNm 6) (mb := appBody)
    (ds := kvs.map Ev.keyD) (δ := [some (lotsL R), some (.int h), some (rowsL (spotsL h w R)), some (.ref t), o4, some (.ref u), none, none, none]) (S := B2)
    (fun k δ S' => (∃ o6 o7, δ = [some (lotsL R), some (.int h), some (rowsL (spotsL h w R)), some (.ref t), o4, some (.ref u), o6, o7, none]) ∧ S'[u]? = some (some (.lst (((((Ks kvs).take k).filter oddK).map (toRing h)).map ringD))) ∧ Keep S S') (by
      rintro k δ S' hkk ⟨⟨o6, o7, rfl⟩, hc, hkeep⟩
      rw [List.length_map] at hkk
      have hkey : (kvs.map Ev.keyD)[k]'(by rw [List.length_map]; exact hkk) = tI ((Ks kvs)[k]'(by rw [List.length_map]; exact hkk)) := by simp [Ev.keyD, iD]
      rw [hkey]
      generalize hz : (Ks kvs)[k]'(by rw [List.length_map]; exact hkk) = z
      have hzm : z ∈ Ks kvs := by rw [← hz]; exact List.getElem_mem _
      have hzl : z.length ≤ 16 := by
        have h1 := hk.ok z hzm
        have := nodup_le (asc_nodup h1.1) (m := rng (h + w)) fun v hv => mem_rng.mpr (h1.2 v hv)
        rw [rng_length] at this; omega
      refine ⟨_, _, rfl, ?_⟩
      have htake : (Ks kvs).take (k + 1) = (Ks kvs).take k ++ [z] := by rw [List.take_succ_eq_append_getElem (by rw [List.length_map]; exact hkk), hz]
      have a7 : sAsg (eOp pFdiv (eCallV (pLen) (aCons (eVar 6) aNil)) (eC (.int 2))) (gNm 7) [some (lotsL R), some (.int h), some (rowsL (spotsL h w R)), some (.ref t), o4, some (.ref u), some (tI z), o7, none] S' = .nx [some (lotsL R), some (.int h), some (rowsL (spotsL h w R)), some (.ref t), o4, some (.ref u), some (tI z), some (.int ((z.length / 2 : Nat) : Int)), none] S' :=
        sAsg_ok (eOp_ok (eCallV_ok (aCons_ok rfl rfl) len_tI) rfl (by rw [pFdiv_ii (by omega) (by omega)]; rfl)) rfl
      have tt : tAndM (fun δ => asB (eOp pGt (eVar 7) (eC (.int 2)) δ)) (fun δ => asB (eOp pEq (eOp pMod (eCallV pInt (aCons (eVar 7) aNil)) (eC (.int 2))) (eC (.int 1)) δ)) [some (lotsL R), some (.int h), some (rowsL (spotsL h w R)), some (.ref t), o4, some (.ref u), some (tI z), some (.int ((z.length / 2 : Nat) : Int)), none] S' = .ok (oddK z) S' := by
        rw [tand_b (asB_ok (eOp_ok rfl rfl pGt_ii)) (fun _ => asB_ok (eOp_ok (eOp_ok (eCallV_ok (aCons_ok rfl rfl) pInt_i) rfl (pMod_ii (by omega))) rfl pEq_ii))]
        congr 1
        unfold oddK
        congr 1
        · exact decide_eq_decide.mpr (by omega)
        · rw [Bool.eq_iff_iff]; simp only [beq_iff_eq, decide_eq_true_eq]; omega
      unfold appBody
      cases ho : oddK z with
      | false =>
        refine ⟨_, _, sSeq_nx a7 (sIf_f (tt.trans (by rw [ho])) rfl), ⟨_, _, rfl⟩, ?_, hkeep⟩
        rw [htake, List.filter_append, List.filter_cons, ho]
        simpa using hc
      | true =>
        have hd : (z.drop (z.length / 2)).length ≤ 16 := by simp; omega
        have e8 := lc_mapE (S := S') (me := eOp pSub (eVar 8) (eVar 1)) (δ0 := wipeD [some (lotsL R), some (.int h), some (rowsL (spotsL h w R)), some (.ref t), o4, some (.ref u), some (tI z), some (.int ((z.length / 2 : Nat) : Int)), none] [8]) (k := 8) D.int D.int (fun x => x - (h : Int)) (zs := z.drop (z.length / 2)) (small (by omega)) (fun x hx => eOp_ok rfl rfl pSub_ii)
        have ct := cut_takeT (mo := eVar 6) (ma := eVar 7) (m := z.length / 2) (xs := iD z) (δ := [some (lotsL R), some (.int h), some (rowsL (spotsL h w R)), some (.ref t), o4, some (.ref u), some (tI z), some (.int ((z.length / 2 : Nat) : Int)), none]) (S := S') rfl rfl (by rw [iD_len]; exact small (by omega))
        have cd := cut_dropT (mo := eVar 6) (ma := eVar 7) (m := z.length / 2) (xs := iD z) (δ := [some (lotsL R), some (.int h), some (rowsL (spotsL h w R)), some (.ref t), o4, some (.ref u), some (tI z), some (.int ((z.length / 2 : Nat) : Int)), none]) (S := S') rfl rfl (by rw [iD_len]; exact small (by omega))
        rw [show (iD z).take (z.length / 2) = iD (z.take (z.length / 2)) by simp [iD, List.map_take]] at ct
        rw [show (iD z).drop (z.length / 2) = iD (z.drop (z.length / 2)) by simp [iD, List.map_drop]] at cd
        have happ := app_ref (y := ringD (toRing h z)) hc (Nat.lt_of_lt_of_le (show _ < 1000000 by
          rw [List.length_map, List.length_map]
          have := List.length_filter_le oddK ((Ks kvs).take k)
          rw [List.length_take, List.length_map] at this
          omega) (small (Nat.le_refl _)))
        refine ⟨_, _, sSeq_nx a7 (sIf_t (tt.trans (by rw [ho])) (sExpr_ok (eMB_ok rfl (ty_ref hc) (aCons_ok (eTup_ok (aCons_ok ct (aCons_ok (eCallV_ok (aCons_ok (eLc_ok (iAny_ok cd rfl) e8 (newL_ev (by rw [List.length_map, List.length_map]; exact small (by omega)))) rfl) (tuple_lst (by rw [List.length_map, List.length_map]; exact small (by omega)))) rfl)) (small (by simp))) rfl) happ))), ⟨_, _, rfl⟩, ?_, hkeep.set (by rw [hu]; omega)⟩
        rw [set_get hc, htake, List.filter_append, List.filter_cons, ho]
        simp) ⟨⟨_, _, rfl⟩, by simpa using hcellU, keepB⟩
  rw [List.length_map, show kvs.length = (Ks kvs).length by simp, List.take_length] at hc2
  refine ⟨((Ks kvs).filter oddK).map (toRing h), S2, ?_, hk2, ?_, fun q => ?_⟩
  · unfold b_rings_of
    have hlen : (((Ks kvs).filter oddK).map (toRing h)).length ≤ 1000000 := by
      rw [List.length_map]
      have := List.length_filter_le oddK (Ks kvs)
      rw [List.length_map] at this
      omega
    refine funM_rt rfl (sSeq_nx (sAsg_ok (eTup_ok (aCons_ok (eCallV_ok (aCons_ok rfl rfl) (by rw [len_lo, F.len])) (aCons_ok (eCal_ok (aCons_ok rfl rfl) (h63 S)) (aCons_ok (show eDT _ S = .ok (.ref t) B from rfl) rfl))) (small (by simp))) (gTp3_ok rfl rfl rfl)) (sSeq_nx (sFor_ok (iR1_ok (k := h) (aCons_ok rfl rfl) (by omega)) e1) (sSeq_nx (sAsg_ok (eLstC_ok rfl (Nat.zero_le _)) rfl) (sSeq_nx (sFor_ok (ds := kvs.map Ev.keyD) (S1 := B2) ?_ e2) (sRet_ok (sortK_ev (S1 := S2) (l := .ref u) rfl ?_ hlen h61))))))
    · exact keysV_ok (n := t) rfl hcellT
    · simp only [lstOf, hc2]
  · have nd : ((Ks kvs).filter oddK).Nodup := List.Sublist.nodup List.filter_sublist hk.nd
    have inj : ∀ z ∈ (Ks kvs).filter oddK, z = (toRing h z).1 ++ ((toRing h z).2.map fun k => k + (h : Int)) := fun z hz => by
      obtain ⟨c, C, rfl⟩ := (hm' z).mp (List.mem_filter.mp hz).1
      obtain ⟨rg, r0⟩ := closed_rg C
      exact (ring_of C rg r0).2.2.2.2.2.2
    rw [List.Nodup, List.pairwise_map]
    exact List.Pairwise.imp_of_mem (fun ha hb hne e => hne (by rw [inj _ ha, inj _ hb, e])) nd
  · rw [← rings_mem, List.mem_map]
    constructor
    · rintro ⟨z, hz, rfl⟩
      obtain ⟨h1, h2⟩ := List.mem_filter.mp hz
      obtain ⟨c, C, rfl⟩ := (hm' z).mp h1
      exact ⟨c, C, h2, rfl⟩
    · rintro ⟨c, C, h2, rfl⟩
      exact ⟨srt c, List.mem_filter.mpr ⟨(hm' _).mpr ⟨c, C, rfl⟩, h2⟩, rfl⟩
end
end Rg
namespace Ev
open PySem PySem.Spec PySem.SeqAt L2 PyProof.Rows PySem.W
section
variable {X : Cx}
end
end Ev
namespace Wp
open PySem L2 Ev Sp
/-- m ends well, with Q -/
structure WE {α : Type} (m : M α) (S : Store) (Q : α → Store → Prop) : Prop where
  ex : ∃ a S', m S = .ok a S' ∧ Q a S'
/-- what must hold at each end of a statement -/
structure Post where
  nx : En → Store → Prop
  rt : D → Store → Prop
  ct : En → Store → Prop
  bk : En → Store → Prop
  ex : Xc → En → Store → Prop
def wsP (r : Fl) (P : Post) : Prop := match r with
  | .nx δ S => P.nx δ S
  | .rt d S => P.rt d S
  | .ct δ S => P.ct δ S
  | .bk δ S => P.bk δ S
  | .exc x δ S => P.ex x δ S
  | .bad => False
structure WS (r : Fl) (P : Post) : Prop where
  ex : wsP r P
/-- both ways of a branch -/
def Br (c : Bool) (A B : Prop) : Prop := (c = true → A) ∧ (c = false → B)
theorem br_t {A B : Prop} (h : A) : Br true A B := ⟨fun _ => h, (fun e => by cases e)⟩
theorem br_f {A B : Prop} (h : B) : Br false A B := ⟨(fun e => by cases e), fun _ => h⟩
section
variable {α β : Type} {S S1 S2 : Store} {δ : En} {Q : D → Store → Prop} {QA : List D → Store → Prop} {QT : Bool → Store → Prop} {ma mb mc mo : ME} {mas mbs : MA} {ta tb : MT}
theorem we_bind {m : M α} {f : α → M β} {QB : β → Store → Prop} (h : WE m S fun a S1 => WE (f a) S1 QB) : WE (M.bind m f) S QB := by
  obtain ⟨a, S1, e1, b, S2, e2, q⟩ := h
  exact ⟨b, S2, by simp only [M.bind, e1, e2], q⟩
theorem we_ok {m : M α} {QB : α → Store → Prop} {a : α} (e : m S = .ok a S1) (q : QB a S1) : WE m S QB := ⟨a, S1, e, q⟩
theorem we_imp {m : M α} {QA QB : α → Store → Prop} (h : WE m S QA) (i : ∀ a S1, QA a S1 → QB a S1) : WE m S QB := by
  obtain ⟨a, S1, e1, q⟩ := h
  exact ⟨a, S1, e1, i _ _ q⟩
theorem we_pure {a : α} {QB : α → Store → Prop} (q : QB a S) : WE (M.pure a) S QB := ⟨a, S, rfl, q⟩
theorem we_lft {p : PO} {z : D} (e : p S = some (z, S1)) (q : Q z S1) : WE (lft p) S Q := ⟨z, S1, by simp only [lft, e], q⟩
theorem we_var {k : Nat} {d : D} (h : δ[k]? = some (some d)) (hd : d ≠ .slf) (q : Q d S) : WE (eVar k δ) S Q := ⟨d, S, eVarR h hd, q⟩
theorem we_isv {k : Nat} (h : WE (eVar k δ) S Q) : WE (eVar k δ) S Q := h
theorem we_c {d : D} (q : Q d S) : WE (eC d δ) S Q := ⟨d, S, rfl, q⟩
theorem we_op {f : D → D → PO} (h : WE (ma δ) S fun x S1 => WE (mb δ) S1 fun y S2 => WE (lft (f x y)) S2 Q) : WE (eOp f ma mb δ) S Q := we_bind (we_imp h fun _ _ h => we_bind h)
theorem we_un {f : D → PO} (h : WE (ma δ) S fun x S1 => WE (lft (f x)) S1 Q) : WE (eUn f ma δ) S Q := we_bind h
theorem we_callV {f : List D → PO} (h : WE (mas δ) S fun xs S1 => WE (lft (f xs)) S1 Q) : WE (eCallV f mas δ) S Q := we_bind h
theorem we_tup (h : WE (mas δ) S fun xs S1 => xs.length ≤ sizeLine ∧ Q (.tup xs) S1) : WE (eTup mas δ) S Q := we_bind (we_imp h fun xs S1 ⟨hl, q⟩ => we_lft (newT_ev hl) q)
theorem we_lst (h : WE (mas δ) S fun xs S1 => xs.length ≤ sizeLine ∧ Q (.lst xs) S1) : WE (eLst mas δ) S Q := we_bind (we_imp h fun xs S1 ⟨hl, q⟩ => we_lft (newL_ev hl) q)
theorem we_lstC (h : WE (mas δ) S fun xs S1 => xs.length ≤ sizeLine ∧ Q (.ref S1.length) (S1 ++ [some (.lst xs)])) : WE (eLstC mas δ) S Q := we_bind (we_imp h fun xs S1 ⟨hl, q⟩ => we_lft (newC_ev hl) q)
theorem we_nil (q : QA [] S) : WE (aNil δ) S QA := we_pure q
theorem we_cons (h : WE (ma δ) S fun x S1 => WE (mas δ) S1 fun xs S2 => QA (x :: xs) S2) : WE (aCons ma mas δ) S QA := we_bind (we_imp h fun _ _ h => we_bind (we_imp h fun _ _ h => we_pure h))
theorem we_star (h : WE (ma δ) S fun x S1 => ∃ xs, seqOf S1 x = some xs ∧ WE (mas δ) S1 fun ys S2 => QA (xs ++ ys) S2) : WE (aStar ma mas δ) S QA := we_bind (we_imp h fun x S1 ⟨xs, e, ys, S2, e2, q⟩ => ⟨xs ++ ys, S2, by simp only [e, M.bind, e2, M.pure], q⟩)
theorem we_cal {m : List D → M D} (h : WE (mas δ) S fun xs S1 => WE (m xs) S1 Q) : WE (eCal m mas δ) S Q := we_bind h
theorem we_asB {m : M D} (h : WE m S fun x S1 => ∃ b, x = .bl b ∧ QT b S1) : WE (asB m) S QT := we_bind (we_imp h fun x S1 ⟨b, e, q⟩ => by subst e; exact we_pure q)
theorem we_tru {m : M D} (h : WE m S fun x S1 => ∃ b, truD S1 x = some b ∧ QT b S1) : WE (tru m) S QT := we_bind (we_imp h fun x S1 ⟨b, e, q⟩ => ⟨b, S1, by simp only [e], q⟩)
theorem we_and (h : WE (ma δ) S fun x S1 => ∃ b, truD S1 x = some b ∧ Br b (WE (mb δ) S1 Q) (Q x S1)) : WE (eAnd ma mb δ) S Q := we_bind (we_imp h fun x S1 ⟨b, e, q⟩ => by
  cases b with
  | true =>
    obtain ⟨y, S2, e2, q⟩ := q.1 rfl
    exact ⟨y, S2, by simp only [e, e2], q⟩
  | false => exact ⟨x, S1, by simp only [e], q.2 rfl⟩)
theorem we_or (h : WE (ma δ) S fun x S1 => ∃ b, truD S1 x = some b ∧ Br b (Q x S1) (WE (mb δ) S1 Q)) : WE (eOr ma mb δ) S Q := we_bind (we_imp h fun x S1 ⟨b, e, q⟩ => by
  cases b with
  | false =>
    obtain ⟨y, S2, e2, q⟩ := q.2 rfl
    exact ⟨y, S2, by simp only [e, e2], q⟩
  | true => exact ⟨x, S1, by simp only [e], q.1 rfl⟩)
theorem we_not (h : WE (ma δ) S fun x S1 => ∃ b, truD S1 x = some b ∧ Q (.bl (!b)) S1) : WE (eNot ma δ) S Q := we_bind (we_tru (we_imp h fun x S1 ⟨b, e, q⟩ => ⟨b, e, we_pure q⟩))
theorem we_if (h : WE (ta δ) S fun c S1 => Br c (WE (ma δ) S1 Q) (WE (mb δ) S1 Q)) : WE (eIf ta ma mb δ) S Q := we_bind (we_imp h fun c S1 q => by
  cases c
  · exact q.2 rfl
  · exact q.1 rfl)
theorem wt_and (h : WE (ta δ) S fun c S1 => Br c (WE (tb δ) S1 QT) (QT false S1)) : WE (tAndM ta tb δ) S QT := we_bind (we_imp h fun c S1 q => by
  cases c
  · exact we_pure (q.2 rfl)
  · exact q.1 rfl)
theorem wt_or (h : WE (ta δ) S fun c S1 => Br c (QT true S1) (WE (tb δ) S1 QT)) : WE (tOrM ta tb δ) S QT := we_bind (we_imp h fun c S1 q => by
  cases c
  · exact q.2 rfl
  · exact we_pure (q.1 rfl))
theorem wt_not (h : WE (ta δ) S fun c S1 => QT (!c) S1) : WE (tNotM ta δ) S QT := we_bind (we_imp h fun c S1 q => we_pure q)
theorem wt_yes (q : QT true S) : WE (tYesM δ) S QT := we_pure q
theorem we_chain {f f' : D → D → PO} (h : WE (ma δ) S fun x S1 => WE (mb δ) S1 fun y S2 => WE (lft (f x y)) S2 fun z S3 => ∃ b, z = .bl b ∧ Br b (WE (mc δ) S3 fun w S4 => WE (lft (f' y w)) S4 Q) (Q (.bl false) S3)) : WE (eChain f f' ma mb mc δ) S Q :=
  we_bind (we_imp h fun x S1 h => we_bind (we_imp h fun y S2 h => we_bind (we_imp h fun z S3 ⟨b, e, q⟩ => by
    subst e
    cases b
    · exact we_pure (q.2 rfl)
    · exact we_bind (q.1 rfl))))
theorem we_fld {okf : Str → Bool} {fl : Str} (h : WE (mo δ) S fun x S1 => ∃ c fs d, clsOf S1 x = some (c, fs) ∧ okf c = true ∧ fs.lookup fl = some d ∧ Q d S1) : WE (eFld okf fl mo δ) S Q := by
  obtain ⟨x, S1, e, c, fs, d, h1, h2, h3, q⟩ := h
  exact ⟨d, S1, eFld_ok e h1 h2 h3, q⟩
theorem we_isi {isi : Ty → Ty → Option Bool} {c : Ty} (h : WE (mo δ) S fun x S1 => ∃ t b, tyOf S1 x = some t ∧ isi t c = some b ∧ Q (.bl b) S1) : WE (eIsi isi c mo δ) S Q := by
  obtain ⟨x, S1, e, t, b, h1, h2, q⟩ := h
  exact ⟨_, S1, eIsi_ok e h1 h2, q⟩
theorem we_mb {T : String} {f : D → List D → PO} (h : WE (mo δ) S fun x S1 => tyD T S1 x = true ∧ WE (mas δ) S1 fun xs S2 => WE (lft (f x xs)) S2 Q) : WE (eMB T f mo mas δ) S Q := by
  obtain ⟨x, S1, e, h1, xs, S2, e2, z, S3, e3, q⟩ := h
  exact ⟨z, S3, by simp only [eMB, M.bind, e, h1, if_true, e2, e3], q⟩
theorem we_frz (h : WE (ma δ) S fun x S1 => WE (lft (frzD 4 x)) S1 Q) : WE (eFrz ma δ) S Q := we_bind h
theorem we_cut {ml mh : Option ME} (h : WE (mo δ) S fun x S1 => WE (oPart ml δ) S1 fun lo S2 => WE (oPart mh δ) S2 fun hi S3 => WE (lft (pCut x lo hi)) S3 Q) : WE (eCut mo ml mh δ) S Q := we_bind (we_imp h fun _ _ h => we_bind (we_imp h fun _ _ h => we_bind h))
theorem we_oN {QO : Option Int → Store → Prop} (q : QO none S) : WE (oPart none δ) S QO := we_pure q
theorem we_oS {QO : Option Int → Store → Prop} (h : WE (ma δ) S fun x S1 => ∃ i, x = .int i ∧ QO (some i) S1) : WE (oPart (some ma) δ) S QO := we_bind (we_imp h fun x S1 ⟨i, e, q⟩ => by subst e; exact we_pure q)
theorem we_any (h : WE (ma δ) S fun x S1 => ∃ ds, anyOf x = some ds ∧ QA ds S1) : WE (iAny ma δ) S QA := we_bind (we_imp h fun x S1 ⟨ds, e, q⟩ => ⟨ds, S1, by simp only [e], q⟩)
theorem we_R1 (h : WE (mas δ) S fun xs S1 => ∃ k : Nat, xs = [.int k] ∧ k < 4611686018427387904 ∧ QA (rngD 0 k) S1) : WE (iR1 mas δ) S QA := by
  obtain ⟨xs, S1, e, k, rfl, hk, q⟩ := h
  exact ⟨_, S1, iR1_ok e hk, q⟩
theorem we_R2 (h : WE (mas δ) S fun xs S1 => ∃ i j : Int, xs = [.int i, .int j] ∧ (-(2 ^ 62) ≤ i ∧ i < 2 ^ 62 ∧ -(2 ^ 62) ≤ j ∧ j < 2 ^ 62) ∧ QA (rngD i (j - i).toNat) S1) : WE (iR2 mas δ) S QA := by
  obtain ⟨xs, S1, e, i, j, rfl, hk, q⟩ := h
  exact ⟨_, S1, by simp only [iR2, M.bind, e, hk, and_self, if_true, M.pure], q⟩
theorem we_rg {fin : List D → PO} (h : WE (ma δ) S fun x S1 => ∃ n : Int, x = .int n ∧ rgOk 0 n = true ∧ WE (lft (fin (rgD 0 n))) S1 Q) : WE (eRg fin (g1 ma) δ) S Q := by
  obtain ⟨x, S1, e, n, rfl, hk, z, S2, e2, q⟩ := h
  refine ⟨z, S2, ?_, q⟩
  simp only [lft] at e2
  simp only [eRg, g1, M.bind, e, M.pure, lft, hk, if_true]
  exact e2
theorem we_enu (h : WE (mas δ) S fun xs S1 => ∃ zs, (xs = [.lst zs] ∨ xs = [.tup zs]) ∧ QA (enumD zs) S1) : WE (iEnu mas δ) S QA := by
  obtain ⟨xs, S1, e, zs, h, q⟩ := h
  refine ⟨_, S1, ?_, q⟩
  rcases h with rfl | rfl <;> simp only [iEnu, M.bind, e]
theorem we_zip (h : WE (mas δ) S fun xs S1 => ∃ zs, pZip xs = some zs ∧ QA zs S1) : WE (iZip mas δ) S QA := by
  obtain ⟨xs, S1, e, zs, h, q⟩ := h
  exact ⟨_, S1, iZip_ok e h, q⟩
variable {P : Post} {ms mt : MS}
theorem ws_ofE {m : M α} {k : α → Store → Fl} (h : WE m S fun a S1 => WS (k a S1) P) : WS (ofE m δ k S) P := by
  obtain ⟨a, S1, e, q⟩ := h
  refine ⟨?_⟩
  simp only [ofE, e]
  exact q.ex
theorem ws_imp {r : Fl} {P P' : Post} (h : WS r P) (h1 : ∀ δ S, P.nx δ S → P'.nx δ S) (h2 : ∀ d S, P.rt d S → P'.rt d S) (h3 : ∀ δ S, P.ct δ S → P'.ct δ S) (h4 : ∀ δ S, P.bk δ S → P'.bk δ S) (h5 : ∀ x δ S, P.ex x δ S → P'.ex x δ S) : WS r P' := by
  replace h := h.ex
  refine ⟨?_⟩
  cases r with
  | nx δ S => exact h1 _ _ h
  | rt d S => exact h2 _ _ h
  | bk δ S => exact h4 _ _ h
  | ct δ S => exact h3 _ _ h
  | exc x δ S => exact h5 _ _ _ h
  | bad => exact h
theorem ws_seq {n : En → Store → Prop} {r : D → Store → Prop} {c b : En → Store → Prop} {x : Xc → En → Store → Prop} (h : WS (ms δ S) ⟨fun δ1 S1 => WS (mt δ1 S1) ⟨n, r, c, b, x⟩, r, c, b, x⟩) : WS (sSeq ms mt δ S) ⟨n, r, c, b, x⟩ := by
  replace h := h.ex
  refine ⟨?_⟩
  unfold sSeq
  cases e : ms δ S with
  | nx δ1 S1 => rw [e] at h; exact WS.ex h
  | rt d S1 => rw [e] at h; exact h
  | bk δ1 S1 => rw [e] at h; exact h
  | ct δ1 S1 => rw [e] at h; exact h
  | exc x δ1 S1 => rw [e] at h; exact h
  | bad => rw [e] at h; exact h
theorem ws_next {n : En → Store → Prop} {r : D → Store → Prop} {c b : En → Store → Prop} {x : Xc → En → Store → Prop} (h : n δ S) : WS (sNext δ S) ⟨n, r, c, b, x⟩ := ⟨h⟩
theorem ws_cnt {n : En → Store → Prop} {r : D → Store → Prop} {c b : En → Store → Prop} {x : Xc → En → Store → Prop} (h : c δ S) : WS (sCnt δ S) ⟨n, r, c, b, x⟩ := ⟨h⟩
theorem ws_brk {n : En → Store → Prop} {r : D → Store → Prop} {c b : En → Store → Prop} {x : Xc → En → Store → Prop} (h : b δ S) : WS (sBrk δ S) ⟨n, r, c, b, x⟩ := ⟨h⟩
theorem ws_retN {n : En → Store → Prop} {r : D → Store → Prop} {c b : En → Store → Prop} {x : Xc → En → Store → Prop} (h : r .non S) : WS (sRetN δ S) ⟨n, r, c, b, x⟩ := ⟨h⟩
theorem ws_ret {n : En → Store → Prop} {r : D → Store → Prop} {c b : En → Store → Prop} {x : Xc → En → Store → Prop} (h : WE (ma δ) S r) : WS (sRet ma δ S) ⟨n, r, c, b, x⟩ := ws_ofE (we_imp h fun _ _ h => ⟨h⟩)
theorem ws_expr {n : En → Store → Prop} {r : D → Store → Prop} {c b : En → Store → Prop} {x : Xc → En → Store → Prop} (h : WE (ma δ) S fun _ S1 => n δ S1) : WS (sExpr ma δ S) ⟨n, r, c, b, x⟩ := ws_ofE (we_imp h fun _ _ h => ⟨h⟩)
theorem ws_if (h : WE (ta δ) S fun c S1 => Br c (WS (ms δ S1) P) (WS (mt δ S1) P)) : WS (sIf ta ms mt δ S) P := ws_ofE (we_imp h fun c S1 q => by
  cases c
  · exact q.2 rfl
  · exact q.1 rfl)
structure WG (r : Option (En × Store)) (Q : En → Store → Prop) : Prop where
  ex : ∃ δ' S', r = some (δ', S') ∧ Q δ' S'
variable {QG : En → Store → Prop} {mg : TGM} {mgs : TGMs} {d : D} {ds : List D}
theorem wg_nm {i : Nat} (h : QG (δ.set i (some d)) S) : WG (gNm i d δ S) QG := ⟨_, _, rfl, h⟩
theorem wg_nl (h : QG δ S) : WG (gNl [] δ S) QG := ⟨_, _, rfl, h⟩
theorem wg_cs (h : WG (mg d δ S) fun δ1 S1 => WG (mgs ds δ1 S1) QG) : WG (gCs mg mgs (d :: ds) δ S) QG := by
  obtain ⟨δ1, S1, e1, δ2, S2, e2, q⟩ := h
  exact ⟨δ2, S2, by simp only [gCs, e1, Option.bind_some, e2], q⟩
theorem wg_tp {n : Nat} (hl : ds.length = n) (h : WG (mgs ds δ S) QG) : WG (gTp n mgs (.tup ds) δ S) QG := by
  obtain ⟨δ1, S1, e1, q⟩ := h
  exact ⟨δ1, S1, by simp only [gTp, hl, if_true, e1], q⟩
theorem wg_istp {n : Nat} (h : WG (gTp n mgs d δ S) QG) : WG (gTp n mgs d δ S) QG := h
theorem wg_sb {f : PSt} (h : WE (mo δ) S fun o S1 => WE (ma δ) S1 fun i S2 => ∃ S3, f o i d S2 = some S3 ∧ QG δ S3) : WG (gSb f mo ma d δ S) QG := by
  obtain ⟨o, S1, e1, i, S2, e2, S3, e3, q⟩ := h
  exact ⟨δ, S3, gSb_ok e1 e2 e3, q⟩
theorem ws_asg {n : En → Store → Prop} {r : D → Store → Prop} {c b : En → Store → Prop} {x : Xc → En → Store → Prop} (h : WE (ma δ) S fun d S1 => WG (mg d δ S1) n) : WS (sAsg ma mg δ S) ⟨n, r, c, b, x⟩ := ws_ofE (we_imp h fun d S1 ⟨δ2, S2, e, q⟩ => by rw [e]; exact ⟨q⟩)
theorem ws_par2 {n : En → Store → Prop} {r : D → Store → Prop} {c b : En → Store → Prop} {x : Xc → En → Store → Prop} {i j : Nat} (h : WE (mas δ) S fun ds S1 => ∃ x y, ds = [x, y] ∧ n ((δ.set i (some x)).set j (some y)) S1) : WS (sPar2 i j mas δ S) ⟨n, r, c, b, x⟩ := ws_ofE (we_imp h fun ds S1 ⟨x, y, e, q⟩ => by subst e; exact ⟨q⟩)
theorem ws_par3 {n : En → Store → Prop} {r : D → Store → Prop} {c b : En → Store → Prop} {x : Xc → En → Store → Prop} {i j l : Nat} (h : WE (mas δ) S fun ds S1 => ∃ x y z, ds = [x, y, z] ∧ n (((δ.set i (some x)).set j (some y)).set l (some z)) S1) : WS (sPar3 i j l mas δ S) ⟨n, r, c, b, x⟩ := ws_ofE (we_imp h fun ds S1 ⟨x, y, z, e, q⟩ => by subst e; exact ⟨q⟩)
/-- a for, by what holds ahead of each turn -/
theorem ws_loop {n : En → Store → Prop} {r : D → Store → Prop} {c b : En → Store → Prop} {x : Xc → En → Store → Prop} {mb : MS} (I : Nat → En → Store → Prop) (step : ∀ (k : Nat) (hk : k < ds.length) δ S, I k δ S → WG (mg ds[k] δ S) fun δ1 S1 => WS (mb δ1 S1) ⟨I (k + 1), r, I (k + 1), n, x⟩) (fin : ∀ δ S, I ds.length δ S → n δ S) (h0 : I 0 δ S) : WS (loopF mg mb ds δ S) ⟨n, r, c, b, x⟩ := by
  have key : ∀ (m k : Nat), k + m = ds.length → ∀ δ S, I k δ S → WS (loopF mg mb (ds.drop k) δ S) ⟨n, r, c, b, x⟩ := by
    intro m
    induction m with
    | zero =>
      intro k hk δ S h
      rw [List.drop_of_length_le (by omega)]
      have : k = ds.length := by omega
      subst this
      exact ⟨fin δ S h⟩
    | succ m ih =>
      intro k hk δ S h
      have hlt : k < ds.length := by omega
      rw [List.drop_eq_getElem_cons hlt]
      obtain ⟨δ1, S1, e1, q⟩ := step k hlt δ S h
      replace q := q.ex
      refine ⟨?_⟩
      simp only [loopF, e1]
      cases e2 : mb δ1 S1 with
      | nx δ2 S2 => rw [e2] at q; exact (ih (k + 1) (by omega) δ2 S2 q).ex
      | ct δ2 S2 => rw [e2] at q; exact (ih (k + 1) (by omega) δ2 S2 q).ex
      | bk δ2 S2 => rw [e2] at q; exact q
      | rt d S2 => rw [e2] at q; exact q
      | exc x δ2 S2 => rw [e2] at q; exact q
      | bad => rw [e2] at q; exact q
  have := key ds.length 0 (by omega) δ S h0
  rwa [List.drop_zero] at this
theorem ws_for {mi : MA} {mb : MS} (h : WE (mi δ) S fun ds S1 => WS (loopF mg mb ds δ S1) P) : WS (sFor mi mg mb δ S) P := ws_ofE h
variable {fin : List D → PO} {mi : MA} {up : UpD} {me : ME} {vs : List Nat} {δ0 : En}
/-- a comprehension, by what holds ahead of each turn -/
theorem we_loopC {mt : MT} (I : Nat → List D → Store → Prop) (step : ∀ (k : Nat) (hk : k < ds.length) acc S, I k acc S → ∃ us, up ds[k] = some us ∧ WE (mt (setsD δ0 us)) S fun b S1 => Br b (WE (me (setsD δ0 us)) S1 fun y S2 => acc.length < sizeLine ∧ I (k + 1) (acc ++ [y]) S2) (I (k + 1) acc S1)) (h0 : I 0 [] S) : WE (loopC up mt me δ0 ds []) S (I ds.length) := by
  have key : ∀ (n k : Nat), k + n = ds.length → ∀ acc S, I k acc S → WE (loopC up mt me δ0 (ds.drop k) acc) S (I ds.length) := by
    intro n
    induction n with
    | zero =>
      intro k hk acc S h
      rw [List.drop_of_length_le (by omega)]
      have : k = ds.length := by omega
      subst this
      exact ⟨acc, S, rfl, h⟩
    | succ n ih =>
      intro k hk acc S h
      have hlt : k < ds.length := by omega
      rw [List.drop_eq_getElem_cons hlt]
      obtain ⟨us, e0, b, S1, e1, q⟩ := step k hlt acc S h
      cases b with
      | false =>
        obtain ⟨zs, S3, e3, q3⟩ := ih (k + 1) (by omega) acc S1 (q.2 rfl)
        exact ⟨zs, S3, by simp only [loopC, e0, M.bind, noX, e1, e3], q3⟩
      | true =>
        obtain ⟨y, S2, e2, hl, q2⟩ := q.1 rfl
        obtain ⟨zs, S3, e3, q3⟩ := ih (k + 1) (by omega) (acc ++ [y]) S2 q2
        exact ⟨zs, S3, by simp only [loopC, e0, M.bind, noX, e1, e2, hl, if_true, e3], q3⟩
  have := key ds.length 0 (by omega) [] S h0
  rwa [List.drop_zero] at this
theorem we_lc {mt : MT} (h : WE (mi δ) S fun ds S1 => WE (loopC up mt me (wipeD δ vs) ds []) S1 fun ys S2 => WE (lft (fin ys)) S2 Q) : WE (eLc fin mi up mt me vs δ) S Q := we_bind (we_imp h fun _ _ h => we_bind h)
/-- a comprehension that changes nothing, over data that stand for things -/
theorem we_loopE {γ ε : Type} {mt : MT} (enc : γ → D) (enc' : ε → D) (q : γ → Bool) (g : γ → ε) {zs : List γ} (hl : zs.length ≤ 1000000) (h : ∀ x ∈ zs, ∃ us, up (enc x) = some us ∧ WE (mt (setsD δ0 us)) S fun b S1 => S1 = S ∧ b = q x ∧ (q x = true → WE (me (setsD δ0 us)) S fun y S2 => S2 = S ∧ y = enc' (g x)))
    (hq : QA (((zs.filter q).map g).map enc') S) : WE (loopC up mt me δ0 (zs.map enc) []) S QA := by
  refine we_imp (we_loopC (fun k acc S' => S' = S ∧ acc = (((zs.take k).filter q).map g).map enc') ?_ ⟨rfl, by simp⟩) ?_
  · rintro k hk acc S' ⟨e, ha⟩
    subst e
    simp only [List.length_map] at hk
    have hx : zs[k] ∈ zs := List.getElem_mem hk
    obtain ⟨us, e0, b, S1, e1, rfl, rfl, hb⟩ := h zs[k] hx
    refine ⟨us, by rw [List.getElem_map]; exact e0, _, S1, e1, fun hb1 => ?_, fun hb1 => ⟨rfl, ?_⟩⟩
    · obtain ⟨y, S2, e2, rfl, rfl⟩ := hb hb1
      refine ⟨_, S2, e2, ?_, rfl, ?_⟩
      · subst ha
        refine Nat.lt_of_lt_of_le ?_ (small (Nat.le_refl 1000000))
        simp only [List.length_map]
        have := List.length_filter_le q (zs.take k)
        have h2 : (zs.take k).length = k := by simp; omega
        omega
      · rw [ha, ← List.take_append_getElem hk, List.filter_append]
        simp [hb1]
    · rw [ha, ← List.take_append_getElem hk, List.filter_append]
      simp [hb1]
  · rintro ys S2 ⟨e, e2⟩
    subst e e2
    simpa using hq
theorem we_loopM {γ ε : Type} (enc : γ → D) (enc' : ε → D) (g : γ → ε) {zs : List γ} (hl : zs.length ≤ 1000000) (h : ∀ x ∈ zs, ∃ us, up (enc x) = some us ∧ WE (me (setsD δ0 us)) S fun y S2 => S2 = S ∧ y = enc' (g x))
    (hq : QA ((zs.map g).map enc') S) : WE (loopC up tYesM me δ0 (zs.map enc) []) S QA :=
  we_loopE enc enc' (fun _ => true) g hl (fun x hx => by
    obtain ⟨us, e, w⟩ := h x hx
    exact ⟨us, e, wt_yes ⟨rfl, rfl, fun _ => w⟩⟩) (by rw [List.filter_eq_self.mpr fun _ _ => rfl]; exact hq)
theorem we_newL (hl : ds.length ≤ sizeLine) (q : Q (.lst ds) S) : WE (lft (newL ds)) S Q := we_lft (newL_ev hl) q
theorem we_fun {nN n : Nat} {m : MS} (hl : ds.length = n) (h : WS (m (startD nN ds) S) ⟨fun _ S1 => Q .non S1, Q, fun _ _ => False, fun _ _ => False, fun _ _ _ => False⟩) : WE (funM nN n m ds) S Q := by
  replace h := h.ex
  refine ⟨?_⟩
  unfold funM
  simp only [hl, if_true]
  cases e : m (startD nN ds) S with
  | nx δ1 S1 => rw [e] at h; exact ⟨.non, S1, by simp, h⟩
  | rt d S1 => rw [e] at h; exact ⟨d, S1, by simp, h⟩
  | ct δ1 S1 => rw [e] at h; exact h.elim
  | bk δ1 S1 => rw [e] at h; exact h.elim
  | exc x δ1 S1 => rw [e] at h; exact h.elim
  | bad => rw [e] at h; exact h.elim
end
end Wp
namespace Ev
open PySem PySem.Spec PySem.SeqAt PyProof.Rows L2
section
variable {prog : Program} {w : World} {A : Around} {E : Value → Shared → Prop} {s : Shared}
end
section
variable {X : Cx} {Wx : WX} {o : Expr} {mo : ME} {pos : Pos}
end
end Ev
namespace Rg
open PySem PySem.W L2 Ev Bd Sp
section
variable {R R' : Rw} {T P J : List Int} {h w : Nat}
theorem pick_at {k : Nat} (hk : k < P.length) : at_ (pickT T P) k = T.getD (at_ P k).toNat 0 := by
  simp [at_, pickT, List.getD_eq_getElem?_getD, hk]
theorem pick_inj (hT : Asc T) {a b : Int} (ha : 0 ≤ a ∧ a < T.length) (hb : 0 ≤ b ∧ b < T.length) (e : T.getD a.toNat 0 = T.getD b.toNat 0) : a = b := by
  have := at_inj (asc_nodup hT) (i := a.toNat) (j := b.toNat) (by omega) (by omega) e
  omega
theorem hang_pick (hT : Asc T) (hv : ∀ j k : Int, 0 ≤ j → j < T.length → val R' j k = val R (T.getD j.toNat 0) k) (hP : ∀ x ∈ P, 0 ≤ x ∧ x < T.length) (h0 : 0 < P.length) : Hang R' P J ↔ Hang R (pickT T P) J := by
  have hb : ∀ j ∈ P, ∀ k, bit R' j k = bit R (T.getD j.toNat 0) k := fun j hj k => by rw [bit_val, bit_val, hv j k (hP j hj).1 (hP j hj).2]
  constructor
  · intro H P0 p0 hs i hi
    obtain ⟨j, hj, rfl⟩ := List.mem_map.mp hi
    rw [pick_at h0] at p0
    refine H (fun j => P0 (T.getD j.toNat 0)) p0 (fun a ha b hb' k hk hPa b1 b2 => ?_) j hj
    rw [hb a ha] at b1
    rw [hb b hb'] at b2
    exact hs _ (List.mem_map.mpr ⟨a, ha, rfl⟩) _ (List.mem_map.mpr ⟨b, hb', rfl⟩) k hk hPa b1 b2
  · intro H P1 p1 hs j hj
    have := H (fun i => ∃ a ∈ P, T.getD a.toNat 0 = i ∧ P1 a) ⟨at_ P 0, at_mem h0, (pick_at h0).symm, p1⟩ (fun i hi i2 hi2 k hk hPi b1 b2 => by
      obtain ⟨a, ha, rfl, hPa⟩ := hPi
      obtain ⟨b, hb', rfl⟩ := List.mem_map.mp hi2
      refine ⟨b, hb', rfl, hs a ha b hb' k hk hPa ?_ ?_⟩
      · rw [hb a ha]; exact b1
      · rw [hb b hb']; exact b2) _ (List.mem_map.mpr ⟨j, hj, rfl⟩)
    obtain ⟨a, ha, e, hPa⟩ := this
    rw [← pick_inj hT (hP a ha) (hP j hj) e]; exact hPa
theorem lawR_pick (hT : Asc T) (hTr : ∀ x ∈ T, 0 ≤ x ∧ x < h) (hv : ∀ j k : Int, 0 ≤ j → j < T.length → val R' j k = val R (T.getD j.toNat 0) k) (hP : ∀ x ∈ P, 0 ≤ x ∧ x < T.length) (hPa : Asc P) : LawR T.length w R' (P, J) ↔ LawR h w R (pickT T P, J) := by
  have hl : (pickT T P).length = P.length := by simp [pickT]
  have hcol : ∀ k, ((pickT T P).map fun j => val R j k).sum = (P.map fun j => val R' j k).sum := fun k => by
    unfold pickT
    rw [List.map_map]
    congr 1
    refine List.map_congr_left fun j hj => ?_
    exact (hv j k (hP j hj).1 (hP j hj).2).symm
  have hrow : ∀ j ∈ P, (J.map fun k => val R' j k) = J.map fun k => val R (T.getD j.toNat 0) k := fun j hj => List.map_congr_left fun k _ => hv j k (hP j hj).1 (hP j hj).2
  constructor
  · intro Q
    have h0 : 0 < P.length := by have : P.length = 3 ∨ P.length = 5 ∨ P.length = 7 := Q.size; omega
    refine ⟨hl.trans Q.eq, by rw [hl]; exact Q.size, pick_asc hT hPa hP, Q.asc2, fun i hi => hTr i (pick_mem hP i hi), Q.rg2, fun k hk => (hcol k).trans (Q.col k hk), fun i hi => ?_, (hang_pick hT hv hP h0).mp Q.hang⟩
    obtain ⟨j, hj, rfl⟩ := List.mem_map.mp hi
    have := Q.row j hj
    rw [show (P, J).2 = J from rfl, hrow j hj] at this
    exact this
  · intro Q
    have h0 : 0 < P.length := by have : (pickT T P).length = 3 ∨ (pickT T P).length = 5 ∨ (pickT T P).length = 7 := Q.size; omega
    refine ⟨hl.symm.trans Q.eq, by have := Q.size; rw [hl] at this; exact this, hPa, Q.asc2, hP, Q.rg2, fun k hk => (hcol k).symm.trans (Q.col k hk), fun j hj => ?_, (hang_pick hT hv hP h0).mpr Q.hang⟩
    rw [show (P, J).2 = J from rfl, hrow j hj]
    exact Q.row _ (List.mem_map.mpr ⟨j, hj, rfl⟩)
end
def hits (Q : List Pq) (lot : List Int) : Bool := Q.all fun q => q.1.any fun i => decide (i ∈ lot)
end Rg
namespace Bd
open PySem L2 Ev
end Bd
namespace Rg
open PySem PySem.W PyProof.Rows L2 Ev Bd Sp
def keyLP (l : List Int) : PyData := .tuple [.int l.length, pyT l]
def leL (a b : List Int) : Bool := dataLe false keyLP a b
def allLots (h : Nat) : Rw := (List.range h).flatMap fun s => someL h (s + 1)
section
variable {cal : Nat → List D → M D} {S : Store}
end
end Rg
namespace Rg
open PySem PySem.W L2 Ev Bd Sp
def hitS (Q : List Pq) (h s : Nat) : Rw := (someL h s).filter (hits Q)
def due (Q : List Pq) (h : Nat) : List Nat → Rw
  | [] => []
  | s :: ss => if hitS Q h s = [] then due Q h ss else hitS Q h s
def stops (F : Rw) (l : List Int) : Bool := !F.isEmpty && decide (((F.getD 0 []).length : Int) < (l.length : Int))
def run (Q : List Pq) : Rw → Rw → Rw
  | [], F => F
  | l :: ls, F => if stops F l = true then F else run Q ls (if hits Q l = true then F ++ [l] else F)
section
variable {cal : Nat → List D → M D} {S : Store}
end
end Rg
namespace Rg
open PySem PySem.W L2 Ev Bd Sp
section
variable {cal : Nat → List D → M D} {S : Store}
theorem depth_ints (r : List Int) : PyData.depthAll (r.map PyData.int) ≤ 1 := depthAll_le fun p hp => by
  obtain ⟨i, _, rfl⟩ := List.mem_map.mp hp
  simp [PyData.depth]
end
structure C55 (cal : Nat → List D → M D) : Prop where
  grid : GridF ReedJ (cal 51)
  full : ∀ (R : Rw) (most : Nat) S, Grid most R → most ≤ 8 → ∃ b, cal 50 [rowsL R] S = .ok (.bl b) S ∧ (b = true → ∃ h w, Full h w R ∧ h ≤ most ∧ w ≤ most)
  text : ∀ h w R S, Full h w R → cal 2 [rowsL R] S = .ok (.str (txt R)) S
  tab : ∀ h w R S, Full h w R → cal 1 [.str (txt R)] S = .ok (tabD h w R) S
  mine : ∀ h w R S, Full h w R → ∃ S', cal 83 [rowsL R] S = .ok (.tup ((due (lawL R h w) h (List.range (h + 1))).map Sp.tI)) S' ∧ Keep S S'
  least : ∀ h w R S, Full h w R → ∃ S', cal 82 [tabD h w R] S = .ok (.tup ((due (lawL R h w) h (List.range (h + 1))).map Sp.tI)) S' ∧ Keep S S'
end Rg
namespace Wp
open PySem L2 Ev Sp
section
variable {S S1 S2 : Store} {δ : En} {Q : D → Store → Prop} {P : Bool → Prop} {PL : List D → Prop} {A B : Prop} {c : Bool} {xs ys ds : List D} {ns ms : List Int} {i j : Int} {mo : ME}
theorem x_bl (h : P c) : ∃ b, (D.bl c) = .bl b ∧ P b := ⟨c, rfl, h⟩
theorem t_bl (h : P c) : ∃ b, truD S (.bl c) = some b ∧ P b := ⟨c, rfl, h⟩
theorem t_lst (h : P (!ds.isEmpty)) : ∃ b, truD S (.lst ds) = some b ∧ P b := ⟨_, rfl, h⟩
theorem t_tup (h : P (!ds.isEmpty)) : ∃ b, truD S (.tup ds) = some b ∧ P b := ⟨_, rfl, h⟩
theorem t_int (h : P (i != 0)) : ∃ b, truD S (.int i) = some b ∧ P b := ⟨_, rfl, h⟩
theorem t_non (h : P false) : ∃ b, truD S .non = some b ∧ P b := ⟨_, rfl, h⟩
theorem a_lst (h : PL ds) : ∃ l, anyOf (.lst ds) = some l ∧ PL l := ⟨_, rfl, h⟩
theorem a_tup (h : PL ds) : ∃ l, anyOf (.tup ds) = some l ∧ PL l := ⟨_, rfl, h⟩
theorem s_lst (h : PL ds) : ∃ l, seqOf S (.lst ds) = some l ∧ PL l := ⟨_, rfl, h⟩
theorem s_tup (h : PL ds) : ∃ l, seqOf S (.tup ds) = some l ∧ PL l := ⟨_, rfl, h⟩
theorem br_not (h : Br c B A) : Br (!c) A B := by
  cases c
  · exact ⟨fun _ => h.2 rfl, fun e => (by cases e)⟩
  · exact ⟨fun e => (by cases e), fun _ => h.1 rfl⟩
theorem br_eqT (hp : c = true) (h : A) : Br c A B := by rw [hp]; exact br_t h
theorem br_eqF (hp : c = false) (h : B) : Br c A B := by rw [hp]; exact br_f h
theorem br_dec {p : Prop} [Decidable p] (h1 : p → A) (h2 : ¬ p → B) : Br (decide p) A B := ⟨fun e => h1 (of_decide_eq_true e), fun e => h2 (of_decide_eq_false e)⟩
theorem len_nil2 {A : Prop} {n : Nat} (h : A) : ([] : List D).length ≤ n ∧ A := ⟨Nat.zero_le _, h⟩
theorem len_isl {l : List D} {A : Prop} (h : l.length ≤ sizeLine ∧ A) : l.length ≤ sizeLine ∧ A := h
theorem len_lit {l : List D} {A : Prop} (e : Nat.ble l.length 1000000 = true) (h : A) : l.length ≤ sizeLine ∧ A := ⟨small (Nat.le_of_ble_eq_true e), h⟩
theorem we_dT (q : Q (.ref S.length) (S ++ [some (.dT [])])) : WE (eDT δ) S Q := ⟨_, _, rfl, q⟩
theorem neg_i : pNeg (.int i) S = some (.int (-i), S) := rfl
theorem x_int {PI : Int → Prop} (h : PI i) : ∃ k, (D.int i) = .int k ∧ PI k := ⟨i, rfl, h⟩
theorem wl_addTT (hl : xs.length + ys.length ≤ 1000000) (h : Q (.tup (xs ++ ys)) S) : WE (lft (pAdd (.tup xs) (.tup ys))) S Q := we_lft (add_tt (small hl)) h
theorem wl_addLL (hl : xs.length + ys.length ≤ 1000000) (h : Q (.lst (xs ++ ys)) S) : WE (lft (pAdd (.lst xs) (.lst ys))) S Q := we_lft (add_ll (small hl)) h
theorem wl_tuple (hl : xs.length ≤ 1000000) (h : Q (.tup xs) S) : WE (lft (pTuple [.lst xs])) S Q := we_lft (tuple_lst (small hl)) h
theorem wl_listT (hl : xs.length ≤ 1000000) (h : Q (.lst xs) S) : WE (lft (pList newL [.tup xs])) S Q := we_lft (by simp only [pList, seqOf, lstOf, Option.bind_some, newL_ev (small hl)]) h
theorem wl_ixT {k : Nat} (hk : k < xs.length) (h : Q (xs[k]) S) : WE (lft (pIx (.tup xs) (.int k))) S Q := we_lft (pIx_tup hk) h
end
end Wp
namespace Bd
open PySem L2 Ev
end Bd
namespace Rg
open PySem PySem.W L2 Ev Bd Sp
section
variable {cal : Nat → List D → M D} {S : Store}
end
end Rg
namespace Bd
open PySem L2 Ev
end Bd
namespace Rg
open PySem PySem.W L2 Ev Bd Sp Wp
local macro_rules | `(tactic| walk_at "wp1e") => `(tactic| first | with_reducible refine we_c ?_ | with_reducible refine we_op ?_ | with_reducible refine we_un ?_ | with_reducible refine we_callV ?_ | with_reducible refine we_cons ?_ | with_reducible refine we_nil ?_ | with_reducible refine we_asB ?_ | with_reducible refine we_tru ?_ | with_reducible refine we_and ?_ | with_reducible refine we_or ?_ | with_reducible refine we_not ?_ | with_reducible refine we_if ?_ | with_reducible refine wt_and ?_ | with_reducible refine wt_or ?_ | with_reducible refine wt_not ?_ | with_reducible refine wt_yes ?_ | with_reducible refine we_chain ?_ | with_reducible refine we_fld ?_ | with_reducible refine we_isi ?_ | with_reducible refine we_mb ?_ | with_reducible refine we_frz ?_ | with_reducible refine we_cut ?_ | with_reducible refine we_oN ?_ | with_reducible refine we_oS ?_ | with_reducible refine we_any ?_ | with_reducible refine we_star ?_ | with_reducible refine we_lc ?_ | with_reducible refine we_R1 ?_ | with_reducible refine we_R2 ?_ | with_reducible refine we_rg ?_ | with_reducible refine we_enu ?_ | with_reducible refine we_zip ?_ | with_reducible refine we_tup ?_ | with_reducible refine we_lst ?_ | with_reducible refine we_lstC ?_ | with_reducible refine we_cal ?_ | with_reducible refine wg_nm ?_ | with_reducible refine wg_nl ?_ | with_reducible refine wg_cs ?_ | ((with_reducible refine wg_istp ?_); refine wg_tp rfl ?_) | with_reducible refine wg_sb ?_)
local macro_rules | `(tactic| walk_at "wp1s") => `(tactic| first | with_reducible refine ws_seq ?_ | with_reducible refine ws_next ?_ | with_reducible refine ws_cnt ?_ | with_reducible refine ws_brk ?_ | with_reducible refine ws_retN ?_ | with_reducible refine ws_ret ?_ | with_reducible refine ws_expr ?_ | with_reducible refine ws_if ?_ | with_reducible refine ws_asg ?_ | with_reducible refine ws_par2 ?_ | with_reducible refine ws_par3 ?_ | with_reducible refine ws_for ?_)
local macro_rules | `(tactic| walk_at "wp1") => `(tactic| first | walk_at "wp1e" | walk_at "wp1s")
local macro_rules | `(tactic| walk_at "noslf") => `(tactic| first | (intro h; cases h; done) | assumption | nofun)
local macro_rules | `(tactic| walk_at "wp2") => `(tactic| first | ((with_reducible refine we_isv ?_); refine we_var rfl (by walk_at "noslf") ?_) | with_reducible refine br_t ?_ | with_reducible refine br_f ?_ | refine ⟨_, rfl, br_t ?_⟩ | refine ⟨_, rfl, br_f ?_⟩)
local macro_rules | `(tactic| walk_at "wpx") => `(tactic| first | with_reducible refine x_bl ?_ | with_reducible refine t_bl ?_ | with_reducible refine t_lst ?_ | with_reducible refine t_tup ?_ | with_reducible refine t_int ?_ | with_reducible refine t_non ?_ | with_reducible refine a_lst ?_ | with_reducible refine a_tup ?_ | with_reducible refine s_lst ?_ | with_reducible refine s_tup ?_ | with_reducible refine br_not ?_ | with_reducible refine we_lft pAdd_ii ?_ | with_reducible refine we_lft pSub_ii ?_ | with_reducible refine we_lft pLt_ii ?_ | with_reducible refine we_lft pLe_ii ?_ | with_reducible refine we_lft pGt_ii ?_ | with_reducible refine we_lft pGe_ii ?_ | with_reducible refine we_lft pEq_ii ?_ | with_reducible refine we_lft pNe_ii ?_ | with_reducible refine we_lft len_lI ?_ | with_reducible refine we_lft len_tI ?_ | with_reducible refine we_lft len_rL ?_ | with_reducible refine we_lft len_rT ?_ | with_reducible refine we_lft len_lo ?_ | with_reducible refine we_lft pLen_lst ?_ | with_reducible refine we_lft pLen_tup ?_ | with_reducible refine we_lft pInt_i ?_ | with_reducible refine we_lft pInt_b ?_ | with_reducible refine we_lft all_ok ?_ | with_reducible refine we_lft any_ok ?_ | with_reducible refine we_lft sum_lI ?_ | with_reducible refine we_dT ?_ | with_reducible refine we_lft neg_i ?_ | with_reducible refine x_int ?_ | with_reducible refine len_nil2 ?_ | ((with_reducible refine len_isl ?_); refine len_lit rfl ?_))
local macro_rules | `(tactic| walk_at "wsa") => `(tactic| (with_reducible refine ws_seq ?_; with_reducible refine ws_asg ?_))
local macro_rules | `(tactic| walk_at "wsi") => `(tactic| (with_reducible refine ws_seq ?_; with_reducible refine ws_if ?_))
local macro_rules | `(tactic| walk_at "wsf") => `(tactic| (with_reducible refine ws_seq ?_; with_reducible refine ws_for ?_))
local macro_rules | `(tactic| walk_at "wsn") => `(tactic| with_reducible refine ws_next ?_)
local macro_rules | `(tactic| walk_at "wpe") => `(tactic| repeat (first | walk_at "wp1e" | walk_at "wp2" | walk_at "wpx"))
local macro_rules | `(tactic| walk_at "wps") => `(tactic| repeat (first | walk_at "wp1" | walk_at "wp2" | walk_at "wpx"))
/-- a thing without parts, no truth -/
inductive Sc : D → Prop
  | int (i : Int) : Sc (.int i)
  | non : Sc .non
  | str (s : Str) : Sc (.str s)
inductive LotV : D → Prop
  | tup (xs : List D) (h : ∀ x ∈ xs, Sc x) (hl : xs.length ≤ 1000) : LotV (.tup xs)
  | lst (ns : List Int) (hl : ns.length ≤ 1000) : LotV (lI ns)
inductive ValV (S : Store) : D → Prop
  | oth {v : D} (T : String) (h : tyOf S v = some (.blt T)) (hT : T = "NoneType" ∨ T = "int" ∨ T = "str" ∨ T = "list" ∨ T = "dict") (hs : v ≠ .slf) : ValV S v
  | tupN (xs : List D) (h : xs.length ≠ 2) (hl : xs.length ≤ 1000) : ValV S (.tup xs)
  | two (a b : D) (ha : LotV a) (hb : LotV b) : ValV S (.tup [a, b])
theorem ValV.keep {S S' : Store} {v : D} (k : Keep S S') (h : ValV S v) : ValV S' v := by
  cases h with
  | oth T h hT hs =>
    refine .oth T ?_ hT hs
    cases v with
    | ref i =>
      simp only [tyOf] at h ⊢
      have hi : i < S.length := by
        by_cases hi : i < S.length
        · exact hi
        · rw [List.getElem?_eq_none (by omega)] at h; cases h
      rw [k.2 i hi]
      exact h
    | _ => exact h
  | tupN xs h hl => exact .tupN xs h hl
  | two a b ha hb => exact .two a b ha hb
theorem ValV.ns {S : Store} {v : D} (h : ValV S v) : v ≠ .slf := by
  cases h with
  | oth T h hT hs => exact hs
  | _ => nofun
def asInts : D → Option (List Int)
  | .tup xs => intsOf xs
  | _ => none
def dueB (Q : List Pq) (v : D) : Bool := match v with
  | .tup [a, b] => (match asInts a, asInts b with
    | some I, some J => decide ((I, J) ∈ Q)
    | _, _ => false)
  | _ => false
def eqI : D → Int → Bool
  | .int j, i => i == j
  | _, _ => false
theorem sc_data {S : Store} {x : D} (h : Sc x) : ∃ p, toPS S x = some p ∧ p.depth = 0 ∧ ∀ i, PyData.eqv (.int i) p = eqI x i := by
  cases h with
  | int j => exact ⟨_, rfl, rfl, fun i => by simp [PyData.eqv, eqI]⟩
  | non => exact ⟨_, rfl, rfl, fun i => by simp [PyData.eqv, eqI]⟩
  | str s => exact ⟨_, rfl, rfl, fun i => by simp [PyData.eqv, eqI]⟩
section
variable {cal : Nat → List D → M D} {S : Store}
end
theorem we_dip {J : List D → Prop} {dr : List D → M D} {t : Nat} {S : Store} {m : Int} {Q : D → Store → Prop} (hd : Drw J dr) (a : At J t S) (h0 : 0 < m) (h1 : m < 1073741824) (k : ∀ (f : Nat) S', (f : Int) < m → At J t S' → Fr t S S' → S'.length = S.length → Q (.int f) S') : WE (dr [.ref t, .int m]) S Q := by
  obtain ⟨f, S', e, f0, f1, a', fr, l⟩ := hd.go t S m a h0 h1
  obtain ⟨f, rfl⟩ := Int.eq_ofNat_of_zero_le f0
  exact we_ok e (k f S' f1 a' fr l)
theorem sc_iD {I : List Int} {x : D} (h : x ∈ iD I) : Sc x := by
  obtain ⟨i, _, rfl⟩ := List.mem_map.mp h
  exact .int i
section
variable {cal : Nat → List D → M D} {S : Store}
end
end Rg
namespace Rg
open PySem PySem.W L2 Ev Bd Sp
def one (R : Rw) (a b : Nat) : Prop := ∃ r, R[a]? = some r ∧ r[b]? = some 1
end Rg
namespace Rg
open PySem PySem.W L2 Ev Bd Sp
structure C18 (cal : Nat → List D → M D) : Prop where
  dip : Drw ReedJ (cal 60)
  thin : ∀ (t m : Nat) S, At ReedJ t S → 0 < m → m ≤ 8 → ∃ R S', cal 95 [.ref t, .int m] S = .ok (rowsL R) S' ∧ Full 8 8 R ∧ At ReedJ t S' ∧ Fr t S S'
  text : ∀ h w R S, Full h w R → cal 2 [rowsL R] S = .ok (.str (txt R)) S
  tab : ∀ h w R S, Full h w R → cal 1 [.str (txt R)] S = .ok (tabD h w R) S
  mine : ∀ h w R S, Full h w R → ∃ S', cal 49 [rowsL R] S = .ok (.lst ((lawL R h w).map ringD)) S' ∧ Keep S S'
  odd : ∀ h w R S, Full h w R → ∃ S', cal 48 [tabD h w R] S = .ok (.tup ((lawL R h w).map ringD)) S' ∧ Keep S S'
  ring : ∀ h w R (q : Pq) S, Full h w R → q ∈ lawL R h w → ∃ S', cal 94 [tabD h w R, ringD q] S = .ok (.bl true) S' ∧ Keep S S'
end Rg
namespace Rg
open PySem PySem.W L2 Ev Bd Sp Wp
local macro_rules | `(tactic| walk_at "wp1e") => `(tactic| first | with_reducible refine we_c ?_ | with_reducible refine we_op ?_ | with_reducible refine we_un ?_ | with_reducible refine we_callV ?_ | with_reducible refine we_cons ?_ | with_reducible refine we_nil ?_ | with_reducible refine we_asB ?_ | with_reducible refine we_tru ?_ | with_reducible refine we_and ?_ | with_reducible refine we_or ?_ | with_reducible refine we_not ?_ | with_reducible refine we_if ?_ | with_reducible refine wt_and ?_ | with_reducible refine wt_or ?_ | with_reducible refine wt_not ?_ | with_reducible refine wt_yes ?_ | with_reducible refine we_chain ?_ | with_reducible refine we_fld ?_ | with_reducible refine we_isi ?_ | with_reducible refine we_mb ?_ | with_reducible refine we_frz ?_ | with_reducible refine we_cut ?_ | with_reducible refine we_oN ?_ | with_reducible refine we_oS ?_ | with_reducible refine we_any ?_ | with_reducible refine we_star ?_ | with_reducible refine we_lc ?_ | with_reducible refine we_R1 ?_ | with_reducible refine we_R2 ?_ | with_reducible refine we_rg ?_ | with_reducible refine we_enu ?_ | with_reducible refine we_zip ?_ | with_reducible refine we_tup ?_ | with_reducible refine we_lst ?_ | with_reducible refine we_lstC ?_ | with_reducible refine we_cal ?_ | with_reducible refine wg_nm ?_ | with_reducible refine wg_nl ?_ | with_reducible refine wg_cs ?_ | ((with_reducible refine wg_istp ?_); refine wg_tp rfl ?_) | with_reducible refine wg_sb ?_)
local macro_rules | `(tactic| walk_at "wp1s") => `(tactic| first | with_reducible refine ws_seq ?_ | with_reducible refine ws_next ?_ | with_reducible refine ws_cnt ?_ | with_reducible refine ws_brk ?_ | with_reducible refine ws_retN ?_ | with_reducible refine ws_ret ?_ | with_reducible refine ws_expr ?_ | with_reducible refine ws_if ?_ | with_reducible refine ws_asg ?_ | with_reducible refine ws_par2 ?_ | with_reducible refine ws_par3 ?_ | with_reducible refine ws_for ?_)
local macro_rules | `(tactic| walk_at "wp1") => `(tactic| first | walk_at "wp1e" | walk_at "wp1s")
local macro_rules | `(tactic| walk_at "noslf") => `(tactic| first | (intro h; cases h; done) | assumption | nofun)
local macro_rules | `(tactic| walk_at "wp2") => `(tactic| first | ((with_reducible refine we_isv ?_); refine we_var rfl (by walk_at "noslf") ?_) | with_reducible refine br_t ?_ | with_reducible refine br_f ?_ | refine ⟨_, rfl, br_t ?_⟩ | refine ⟨_, rfl, br_f ?_⟩)
local macro_rules | `(tactic| walk_at "wpx") => `(tactic| first | with_reducible refine x_bl ?_ | with_reducible refine t_bl ?_ | with_reducible refine t_lst ?_ | with_reducible refine t_tup ?_ | with_reducible refine t_int ?_ | with_reducible refine t_non ?_ | with_reducible refine a_lst ?_ | with_reducible refine a_tup ?_ | with_reducible refine s_lst ?_ | with_reducible refine s_tup ?_ | with_reducible refine br_not ?_ | with_reducible refine we_lft pAdd_ii ?_ | with_reducible refine we_lft pSub_ii ?_ | with_reducible refine we_lft pLt_ii ?_ | with_reducible refine we_lft pLe_ii ?_ | with_reducible refine we_lft pGt_ii ?_ | with_reducible refine we_lft pGe_ii ?_ | with_reducible refine we_lft pEq_ii ?_ | with_reducible refine we_lft pNe_ii ?_ | with_reducible refine we_lft len_lI ?_ | with_reducible refine we_lft len_tI ?_ | with_reducible refine we_lft len_rL ?_ | with_reducible refine we_lft len_rT ?_ | with_reducible refine we_lft len_lo ?_ | with_reducible refine we_lft pLen_lst ?_ | with_reducible refine we_lft pLen_tup ?_ | with_reducible refine we_lft pInt_i ?_ | with_reducible refine we_lft pInt_b ?_ | with_reducible refine we_lft all_ok ?_ | with_reducible refine we_lft any_ok ?_ | with_reducible refine we_lft sum_lI ?_ | with_reducible refine we_dT ?_ | with_reducible refine we_lft neg_i ?_ | with_reducible refine x_int ?_ | with_reducible refine len_nil2 ?_ | ((with_reducible refine len_isl ?_); refine len_lit rfl ?_))
local macro_rules | `(tactic| walk_at "wsa") => `(tactic| (with_reducible refine ws_seq ?_; with_reducible refine ws_asg ?_))
local macro_rules | `(tactic| walk_at "wsi") => `(tactic| (with_reducible refine ws_seq ?_; with_reducible refine ws_if ?_))
local macro_rules | `(tactic| walk_at "wsf") => `(tactic| (with_reducible refine ws_seq ?_; with_reducible refine ws_for ?_))
local macro_rules | `(tactic| walk_at "wsn") => `(tactic| with_reducible refine ws_next ?_)
local macro_rules | `(tactic| walk_at "wpe") => `(tactic| repeat (first | walk_at "wp1e" | walk_at "wp2" | walk_at "wpx"))
local macro_rules | `(tactic| walk_at "wps") => `(tactic| repeat (first | walk_at "wp1" | walk_at "wp2" | walk_at "wpx"))
/-- all turns of a law by scripts -/
def lawT (n : Int) (r e : List D → M D) : MS := sRet (eCallV (pAll true) (aCons (eLc newL (iR1 (aCons (eC (.int n)) aNil)) (uNm 1) tYesM (eCal r (aCons (eCal e (aCons (eVar 0) (aCons (eVar 1) aNil))) aNil)) [1]) aNil))
theorem lawT_ev {r e : List D → M D} {ns : List Int} {S : Store} {n : Nat} {J : List D → Prop} (hn : n ≤ 10) (hr : ∀ (k : Nat) S, k ≤ 1000 → ∃ c, J c ∧ e [.scr ns, .int k] S = .ok (.ref S.length) (S ++ [some (.lst c)])) (hg : ∀ t S, At J t S → WE (r [.ref t]) S fun d _ => d = .bl true) : ∃ S', funM 2 1 (lawT n r e) [.scr ns] S = .ok (.bl true) S' := by
  obtain ⟨ys, S2, e, h1⟩ := lc_inv (up := uNm 1) (mt := tYesM) (me := eCal r (aCons (eCal e (aCons (eVar 0) (aCons (eVar 1) aNil))) aNil)) (δ0 := wipeD [some (.scr ns), none] [1]) (ds := rngD 0 n) (S := S) (fun n acc S' => acc = List.replicate n (.bl true)) (by
    rintro n acc S' hn rfl
    rw [rng_get]
    rw [rng_len] at hn
    obtain ⟨c, hc, e1⟩ := hr n S' (by omega)
    obtain ⟨_, S3, e3, rfl⟩ := hg S'.length (S' ++ [some (.lst c)]) ⟨c, by simp, hc⟩
    refine ⟨_, rfl, .inr ⟨S', rfl, .bl true, S3, eCal_ok (aCons_ok (eCal_ok (aCons_ok rfl (aCons_ok rfl rfl)) e1) rfl) e3, ?_, ?_⟩⟩
    · rw [List.length_replicate]
      exact Nat.lt_of_lt_of_le (show n < 1000000 by omega) (small (Nat.le_refl _))
    · rw [List.replicate_succ']) rfl
  rw [rng_len] at h1
  have all1 : pAll true [.lst (List.replicate n (.bl true))] S2 = some (.bl true, S2) := by
    rw [show List.replicate n (D.bl true) = (List.replicate n true).map D.bl by simp, all_ok]
    simp
  exact ⟨S2, funM_rt rfl (sRet_ok (eCallV_ok (aCons_ok (eLc_ok (iR1_ok (k := n) (aCons_ok rfl rfl) (by omega)) e (newL_ev (by rw [h1]; simp; exact small (by omega)))) rfl) (by rw [h1]; exact all1)))⟩
structure C19 (cal : Nat → List D → M D) : Prop where
  grid : GridF ReedJ (cal 51)
  full : ∀ (R : Rw) (most : Nat) S, Grid most R → most ≤ 8 → ∃ b, cal 50 [rowsL R] S = .ok (.bl b) S ∧ (b = true → ∃ h w, Full h w R ∧ h ≤ most ∧ w ≤ most)
  text : ∀ h w R S, Full h w R → cal 2 [rowsL R] S = .ok (.str (txt R)) S
  tab : ∀ h w R S, Full h w R → cal 1 [.str (txt R)] S = .ok (tabD h w R) S
  mine : ∀ h w R S, Full h w R → ∃ S', cal 49 [rowsL R] S = .ok (.lst ((lawL R h w).map ringD)) S' ∧ Keep S S'
  value : ∀ t h w R S, Full h w R → At ReedJ t S → WE (cal 100 [.ref t, rowsL R, .lst ((lawL R h w).map ringD)]) S fun v S' => ValV S' v ∧ At ReedJ t S' ∧ Fr t S S'
  ring : ∀ h w R v S, Full h w R → ValV S v → WE (cal 94 [tabD h w R, v]) S fun d S' => d = .bl (dueB (lawL R h w) v) ∧ Keep S S'
end Rg
namespace Pp
open PySem L2 Ev Bd Sp Wp Rg
local macro_rules | `(tactic| walk_at "wp1e") => `(tactic| first | with_reducible refine we_c ?_ | with_reducible refine we_op ?_ | with_reducible refine we_un ?_ | with_reducible refine we_callV ?_ | with_reducible refine we_cons ?_ | with_reducible refine we_nil ?_ | with_reducible refine we_asB ?_ | with_reducible refine we_tru ?_ | with_reducible refine we_and ?_ | with_reducible refine we_or ?_ | with_reducible refine we_not ?_ | with_reducible refine we_if ?_ | with_reducible refine wt_and ?_ | with_reducible refine wt_or ?_ | with_reducible refine wt_not ?_ | with_reducible refine wt_yes ?_ | with_reducible refine we_chain ?_ | with_reducible refine we_fld ?_ | with_reducible refine we_isi ?_ | with_reducible refine we_mb ?_ | with_reducible refine we_frz ?_ | with_reducible refine we_cut ?_ | with_reducible refine we_oN ?_ | with_reducible refine we_oS ?_ | with_reducible refine we_any ?_ | with_reducible refine we_star ?_ | with_reducible refine we_lc ?_ | with_reducible refine we_R1 ?_ | with_reducible refine we_R2 ?_ | with_reducible refine we_rg ?_ | with_reducible refine we_enu ?_ | with_reducible refine we_zip ?_ | with_reducible refine we_tup ?_ | with_reducible refine we_lst ?_ | with_reducible refine we_lstC ?_ | with_reducible refine we_cal ?_ | with_reducible refine wg_nm ?_ | with_reducible refine wg_nl ?_ | with_reducible refine wg_cs ?_ | ((with_reducible refine wg_istp ?_); refine wg_tp rfl ?_) | with_reducible refine wg_sb ?_)
local macro_rules | `(tactic| walk_at "wp1s") => `(tactic| first | with_reducible refine ws_seq ?_ | with_reducible refine ws_next ?_ | with_reducible refine ws_cnt ?_ | with_reducible refine ws_brk ?_ | with_reducible refine ws_retN ?_ | with_reducible refine ws_ret ?_ | with_reducible refine ws_expr ?_ | with_reducible refine ws_if ?_ | with_reducible refine ws_asg ?_ | with_reducible refine ws_par2 ?_ | with_reducible refine ws_par3 ?_ | with_reducible refine ws_for ?_)
local macro_rules | `(tactic| walk_at "wp1") => `(tactic| first | walk_at "wp1e" | walk_at "wp1s")
local macro_rules | `(tactic| walk_at "noslf") => `(tactic| first | (intro h; cases h; done) | assumption | nofun)
local macro_rules | `(tactic| walk_at "wp2") => `(tactic| first | ((with_reducible refine we_isv ?_); refine we_var rfl (by walk_at "noslf") ?_) | with_reducible refine br_t ?_ | with_reducible refine br_f ?_ | refine ⟨_, rfl, br_t ?_⟩ | refine ⟨_, rfl, br_f ?_⟩)
local macro_rules | `(tactic| walk_at "wpx") => `(tactic| first | with_reducible refine x_bl ?_ | with_reducible refine t_bl ?_ | with_reducible refine t_lst ?_ | with_reducible refine t_tup ?_ | with_reducible refine t_int ?_ | with_reducible refine t_non ?_ | with_reducible refine a_lst ?_ | with_reducible refine a_tup ?_ | with_reducible refine s_lst ?_ | with_reducible refine s_tup ?_ | with_reducible refine br_not ?_ | with_reducible refine we_lft pAdd_ii ?_ | with_reducible refine we_lft pSub_ii ?_ | with_reducible refine we_lft pLt_ii ?_ | with_reducible refine we_lft pLe_ii ?_ | with_reducible refine we_lft pGt_ii ?_ | with_reducible refine we_lft pGe_ii ?_ | with_reducible refine we_lft pEq_ii ?_ | with_reducible refine we_lft pNe_ii ?_ | with_reducible refine we_lft len_lI ?_ | with_reducible refine we_lft len_tI ?_ | with_reducible refine we_lft len_rL ?_ | with_reducible refine we_lft len_rT ?_ | with_reducible refine we_lft len_lo ?_ | with_reducible refine we_lft pLen_lst ?_ | with_reducible refine we_lft pLen_tup ?_ | with_reducible refine we_lft pInt_i ?_ | with_reducible refine we_lft pInt_b ?_ | with_reducible refine we_lft all_ok ?_ | with_reducible refine we_lft any_ok ?_ | with_reducible refine we_lft sum_lI ?_ | with_reducible refine we_dT ?_ | with_reducible refine we_lft neg_i ?_ | with_reducible refine x_int ?_ | with_reducible refine len_nil2 ?_ | ((with_reducible refine len_isl ?_); refine len_lit rfl ?_))
local macro_rules | `(tactic| walk_at "wsa") => `(tactic| (with_reducible refine ws_seq ?_; with_reducible refine ws_asg ?_))
local macro_rules | `(tactic| walk_at "wsi") => `(tactic| (with_reducible refine ws_seq ?_; with_reducible refine ws_if ?_))
local macro_rules | `(tactic| walk_at "wsf") => `(tactic| (with_reducible refine ws_seq ?_; with_reducible refine ws_for ?_))
local macro_rules | `(tactic| walk_at "wsn") => `(tactic| with_reducible refine ws_next ?_)
local macro_rules | `(tactic| walk_at "wpe") => `(tactic| repeat (first | walk_at "wp1e" | walk_at "wp2" | walk_at "wpx"))
local macro_rules | `(tactic| walk_at "wps") => `(tactic| repeat (first | walk_at "wp1" | walk_at "wp2" | walk_at "wpx"))
abbrev JB := Nat → List D → Prop
structure DrwB (J : JB) (dr : List D → M D) : Prop where
  mono : ∀ B B' c, B ≤ B' → J B c → J B' c
  go : ∀ (B t : Nat) (S : Store) (m : Int), At (J B) t S → B < 2 ^ 60 → 0 < m → m < 1073741824 → ∃ f S', dr [.ref t, .int m] S = .ok (.int f) S' ∧ 0 ≤ f ∧ f < m ∧ At (J (B + 1)) t S' ∧ Fr t S S' ∧ S'.length = S.length
section
variable {J : JB} {dr : List D → M D} {S S' : Store} {t B B' : Nat}
theorem DrwB.le (hd : DrwB J dr) (h : At (J B) t S) (hB : B ≤ B') : At (J B') t S := by
  obtain ⟨c, h1, h2⟩ := h
  exact ⟨c, h1, hd.mono _ _ _ hB h2⟩
/-- ints in a drawn order -/
structure MixB (J : JB) (f : List D → M D) : Prop where
  nums : ∀ (B t : Nat) (S : Store) (ns : List Int), At (J B) t S → B + ns.length < 2 ^ 60 → ns.length ≤ 1000 → ∃ ms S', f [.ref t, lI ns] S = .ok (lI ms) S' ∧ ms.Perm ns ∧ At (J (B + ns.length)) t S' ∧ Fr t S S'
  rws : ∀ (B t : Nat) (S : Store) (R : Rw), At (J B) t S → B + R.length < 2 ^ 60 → R.length ≤ 1000 → ∃ R' S', f [.ref t, rowsL R] S = .ok (rowsL R') S' ∧ R'.Perm R ∧ At (J (B + R.length)) t S' ∧ Fr t S S'
theorem perm_map {α : Type} {enc : α → D} {ys : List D} {l : List α} (h : ys.Perm (l.map enc)) : ∃ m : List α, ys = m.map enc ∧ m.Perm l := by
  have key : ∀ {zs ys : List D}, zs.Perm ys → ∀ l : List α, zs = l.map enc → ∃ m : List α, ys = m.map enc ∧ m.Perm l := by
    intro zs ys h
    induction h with
    | nil => intro l e; exact ⟨l, e, .refl _⟩
    | cons x p ih =>
      intro l e
      match l, e with
      | a :: l, e =>
        simp only [List.map_cons, List.cons.injEq] at e
        obtain ⟨m, e1, h1⟩ := ih l e.2
        exact ⟨a :: m, by rw [e.1, e1]; rfl, h1.cons a⟩
    | swap x y l' =>
      intro l e
      match l, e with
      | a :: b :: l, e =>
        simp only [List.map_cons, List.cons.injEq] at e
        exact ⟨b :: a :: l, by rw [e.1, e.2.1, e.2.2]; rfl, List.Perm.swap ..⟩
    | trans p1 p2 ih1 ih2 =>
      intro l e
      obtain ⟨m, e1, h1⟩ := ih1 l e
      obtain ⟨m2, e2, h2⟩ := ih2 m e1
      exact ⟨m2, e2, h2.trans h1⟩
  exact key h.symm l rfl
end
end Pp
namespace Pp
open PySem L2 Ev Bd Sp Wp Rg
section
variable {J : JB} {cal : Nat → List D → M D}
theorem Gr.le {dr : List D → M D} (hd : DrwB J dr) {B B' t s h w : Nat} {S0 S : Store} {R : Rw} (G : Gr (J B) t S0 s h w R S) (hB : B ≤ B') : Gr (J B') t S0 s h w R S := ⟨G.len, G.g, G.c, hd.le G.a hB, G.f⟩
end
end Pp
namespace Ba
open PySem PySem.W L2 Ev Bd Sp Rg
/-- just these two of the columns in a row -/
def Pair (h : Nat) (R : Rw) (L : List Int) (x y : Int) : Prop := x ≠ y ∧ ∃ i : Int, 0 ≤ i ∧ i < h ∧ bit R i x = true ∧ bit R i y = true ∧ ∀ z ∈ L, bit R i z = true → z = x ∨ z = y
theorem Pair.symm {h : Nat} {R : Rw} {L : List Int} {x y : Int} (p : Pair h R L x y) : Pair h R L y x := by
  obtain ⟨h1, i, h2, h3, h4, h5, h6⟩ := p
  exact ⟨h1.symm, i, h2, h3, h5, h4, fun z hz e => (h6 z hz e).symm⟩
end Ba
namespace Ba
open PySem PySem.W L2 Ev Bd Sp Rg
/-- the first lot that two hues do not colour -/
noncomputable def badL (R : Rw) (w : Nat) : Option (List Int) := (allLots w).find? fun l => !canC R 2 l
end Ba
namespace Ba
open PySem PySem.W L2 Ev Bd Sp Rg
/-- rows and columns of an odd ring, in their order -/
def OddPat (w : Nat) (R : Rw) : Prop := ∃ (n : Nat) (rr : Nat → List Int) (c : Nat → Nat), n % 2 = 1 ∧ 3 ≤ n ∧ (∀ t, t < n → rr t ∈ R ∧ c t < w) ∧ ∀ t, t < n → ∀ s, s < n → ((rr t).getD (c s) 0 = 1 ↔ s = t ∨ s = (t + 1) % n)
/-- columns for rows -/
def turnR (w : Nat) (R : Rw) : Rw := (List.range w).map fun k => R.map fun r => r.getD k 0
/-- one step up, as often as is said -/
def upN (up : Nat → Option Nat) : Nat → Nat → Option Nat
  | 0, x => some x
  | i + 1, x => (upN up i x).bind up
/-- a row that is a road upwards -/
def Chain (up : Nat → Option Nat) (r : List Int) : Prop := ∀ x y : Nat, r.getD x 0 = 1 → r.getD y 0 = 1 → y < x → ∃ i, upN up i x = some y ∧ ∀ j, j ≤ i → ∀ z, upN up j x = some z → r.getD z 0 = 1
end Ba
namespace Pp
open PySem L2 Ev Bd Sp Wp Rg
local macro_rules | `(tactic| walk_at "wp1e") => `(tactic| first | with_reducible refine we_c ?_ | with_reducible refine we_op ?_ | with_reducible refine we_un ?_ | with_reducible refine we_callV ?_ | with_reducible refine we_cons ?_ | with_reducible refine we_nil ?_ | with_reducible refine we_asB ?_ | with_reducible refine we_tru ?_ | with_reducible refine we_and ?_ | with_reducible refine we_or ?_ | with_reducible refine we_not ?_ | with_reducible refine we_if ?_ | with_reducible refine wt_and ?_ | with_reducible refine wt_or ?_ | with_reducible refine wt_not ?_ | with_reducible refine wt_yes ?_ | with_reducible refine we_chain ?_ | with_reducible refine we_fld ?_ | with_reducible refine we_isi ?_ | with_reducible refine we_mb ?_ | with_reducible refine we_frz ?_ | with_reducible refine we_cut ?_ | with_reducible refine we_oN ?_ | with_reducible refine we_oS ?_ | with_reducible refine we_any ?_ | with_reducible refine we_star ?_ | with_reducible refine we_lc ?_ | with_reducible refine we_R1 ?_ | with_reducible refine we_R2 ?_ | with_reducible refine we_rg ?_ | with_reducible refine we_enu ?_ | with_reducible refine we_zip ?_ | with_reducible refine we_tup ?_ | with_reducible refine we_lst ?_ | with_reducible refine we_lstC ?_ | with_reducible refine we_cal ?_ | with_reducible refine wg_nm ?_ | with_reducible refine wg_nl ?_ | with_reducible refine wg_cs ?_ | ((with_reducible refine wg_istp ?_); refine wg_tp rfl ?_) | with_reducible refine wg_sb ?_)
local macro_rules | `(tactic| walk_at "wp1s") => `(tactic| first | with_reducible refine ws_seq ?_ | with_reducible refine ws_next ?_ | with_reducible refine ws_cnt ?_ | with_reducible refine ws_brk ?_ | with_reducible refine ws_retN ?_ | with_reducible refine ws_ret ?_ | with_reducible refine ws_expr ?_ | with_reducible refine ws_if ?_ | with_reducible refine ws_asg ?_ | with_reducible refine ws_par2 ?_ | with_reducible refine ws_par3 ?_ | with_reducible refine ws_for ?_)
local macro_rules | `(tactic| walk_at "wp1") => `(tactic| first | walk_at "wp1e" | walk_at "wp1s")
local macro_rules | `(tactic| walk_at "noslf") => `(tactic| first | (intro h; cases h; done) | assumption | nofun)
local macro_rules | `(tactic| walk_at "wp2") => `(tactic| first | ((with_reducible refine we_isv ?_); refine we_var rfl (by walk_at "noslf") ?_) | with_reducible refine br_t ?_ | with_reducible refine br_f ?_ | refine ⟨_, rfl, br_t ?_⟩ | refine ⟨_, rfl, br_f ?_⟩)
local macro_rules | `(tactic| walk_at "wpx") => `(tactic| first | with_reducible refine x_bl ?_ | with_reducible refine t_bl ?_ | with_reducible refine t_lst ?_ | with_reducible refine t_tup ?_ | with_reducible refine t_int ?_ | with_reducible refine t_non ?_ | with_reducible refine a_lst ?_ | with_reducible refine a_tup ?_ | with_reducible refine s_lst ?_ | with_reducible refine s_tup ?_ | with_reducible refine br_not ?_ | with_reducible refine we_lft pAdd_ii ?_ | with_reducible refine we_lft pSub_ii ?_ | with_reducible refine we_lft pLt_ii ?_ | with_reducible refine we_lft pLe_ii ?_ | with_reducible refine we_lft pGt_ii ?_ | with_reducible refine we_lft pGe_ii ?_ | with_reducible refine we_lft pEq_ii ?_ | with_reducible refine we_lft pNe_ii ?_ | with_reducible refine we_lft len_lI ?_ | with_reducible refine we_lft len_tI ?_ | with_reducible refine we_lft len_rL ?_ | with_reducible refine we_lft len_rT ?_ | with_reducible refine we_lft len_lo ?_ | with_reducible refine we_lft pLen_lst ?_ | with_reducible refine we_lft pLen_tup ?_ | with_reducible refine we_lft pInt_i ?_ | with_reducible refine we_lft pInt_b ?_ | with_reducible refine we_lft all_ok ?_ | with_reducible refine we_lft any_ok ?_ | with_reducible refine we_lft sum_lI ?_ | with_reducible refine we_dT ?_ | with_reducible refine we_lft neg_i ?_ | with_reducible refine x_int ?_ | with_reducible refine len_nil2 ?_ | ((with_reducible refine len_isl ?_); refine len_lit rfl ?_))
local macro_rules | `(tactic| walk_at "wsa") => `(tactic| (with_reducible refine ws_seq ?_; with_reducible refine ws_asg ?_))
local macro_rules | `(tactic| walk_at "wsi") => `(tactic| (with_reducible refine ws_seq ?_; with_reducible refine ws_if ?_))
local macro_rules | `(tactic| walk_at "wsf") => `(tactic| (with_reducible refine ws_seq ?_; with_reducible refine ws_for ?_))
local macro_rules | `(tactic| walk_at "wsn") => `(tactic| with_reducible refine ws_next ?_)
local macro_rules | `(tactic| walk_at "wpe") => `(tactic| repeat (first | walk_at "wp1e" | walk_at "wp2" | walk_at "wpx"))
local macro_rules | `(tactic| walk_at "wps") => `(tactic| repeat (first | walk_at "wp1" | walk_at "wp2" | walk_at "wpx"))
section
variable {J : JB} {cal : Nat → List D → M D}
/-- rows of digits, each with a one -/
def RowG (w : Nat) (r : List Int) : Prop := r.length = w ∧ (∀ i ∈ r, i = 0 ∨ i = 1) ∧ (1 : Int) ∈ r
end
end Pp
namespace Pp
open PySem L2 Ev Bd Sp Wp Rg
local macro_rules | `(tactic| walk_at "wp1e") => `(tactic| first | with_reducible refine we_c ?_ | with_reducible refine we_op ?_ | with_reducible refine we_un ?_ | with_reducible refine we_callV ?_ | with_reducible refine we_cons ?_ | with_reducible refine we_nil ?_ | with_reducible refine we_asB ?_ | with_reducible refine we_tru ?_ | with_reducible refine we_and ?_ | with_reducible refine we_or ?_ | with_reducible refine we_not ?_ | with_reducible refine we_if ?_ | with_reducible refine wt_and ?_ | with_reducible refine wt_or ?_ | with_reducible refine wt_not ?_ | with_reducible refine wt_yes ?_ | with_reducible refine we_chain ?_ | with_reducible refine we_fld ?_ | with_reducible refine we_isi ?_ | with_reducible refine we_mb ?_ | with_reducible refine we_frz ?_ | with_reducible refine we_cut ?_ | with_reducible refine we_oN ?_ | with_reducible refine we_oS ?_ | with_reducible refine we_any ?_ | with_reducible refine we_star ?_ | with_reducible refine we_lc ?_ | with_reducible refine we_R1 ?_ | with_reducible refine we_R2 ?_ | with_reducible refine we_rg ?_ | with_reducible refine we_enu ?_ | with_reducible refine we_zip ?_ | with_reducible refine we_tup ?_ | with_reducible refine we_lst ?_ | with_reducible refine we_lstC ?_ | with_reducible refine we_cal ?_ | with_reducible refine wg_nm ?_ | with_reducible refine wg_nl ?_ | with_reducible refine wg_cs ?_ | ((with_reducible refine wg_istp ?_); refine wg_tp rfl ?_) | with_reducible refine wg_sb ?_)
local macro_rules | `(tactic| walk_at "wp1s") => `(tactic| first | with_reducible refine ws_seq ?_ | with_reducible refine ws_next ?_ | with_reducible refine ws_cnt ?_ | with_reducible refine ws_brk ?_ | with_reducible refine ws_retN ?_ | with_reducible refine ws_ret ?_ | with_reducible refine ws_expr ?_ | with_reducible refine ws_if ?_ | with_reducible refine ws_asg ?_ | with_reducible refine ws_par2 ?_ | with_reducible refine ws_par3 ?_ | with_reducible refine ws_for ?_)
local macro_rules | `(tactic| walk_at "wp1") => `(tactic| first | walk_at "wp1e" | walk_at "wp1s")
local macro_rules | `(tactic| walk_at "noslf") => `(tactic| first | (intro h; cases h; done) | assumption | nofun)
local macro_rules | `(tactic| walk_at "wp2") => `(tactic| first | ((with_reducible refine we_isv ?_); refine we_var rfl (by walk_at "noslf") ?_) | with_reducible refine br_t ?_ | with_reducible refine br_f ?_ | refine ⟨_, rfl, br_t ?_⟩ | refine ⟨_, rfl, br_f ?_⟩)
local macro_rules | `(tactic| walk_at "wpx") => `(tactic| first | with_reducible refine x_bl ?_ | with_reducible refine t_bl ?_ | with_reducible refine t_lst ?_ | with_reducible refine t_tup ?_ | with_reducible refine t_int ?_ | with_reducible refine t_non ?_ | with_reducible refine a_lst ?_ | with_reducible refine a_tup ?_ | with_reducible refine s_lst ?_ | with_reducible refine s_tup ?_ | with_reducible refine br_not ?_ | with_reducible refine we_lft pAdd_ii ?_ | with_reducible refine we_lft pSub_ii ?_ | with_reducible refine we_lft pLt_ii ?_ | with_reducible refine we_lft pLe_ii ?_ | with_reducible refine we_lft pGt_ii ?_ | with_reducible refine we_lft pGe_ii ?_ | with_reducible refine we_lft pEq_ii ?_ | with_reducible refine we_lft pNe_ii ?_ | with_reducible refine we_lft len_lI ?_ | with_reducible refine we_lft len_tI ?_ | with_reducible refine we_lft len_rL ?_ | with_reducible refine we_lft len_rT ?_ | with_reducible refine we_lft len_lo ?_ | with_reducible refine we_lft pLen_lst ?_ | with_reducible refine we_lft pLen_tup ?_ | with_reducible refine we_lft pInt_i ?_ | with_reducible refine we_lft pInt_b ?_ | with_reducible refine we_lft all_ok ?_ | with_reducible refine we_lft any_ok ?_ | with_reducible refine we_lft sum_lI ?_ | with_reducible refine we_dT ?_ | with_reducible refine we_lft neg_i ?_ | with_reducible refine x_int ?_ | with_reducible refine len_nil2 ?_ | ((with_reducible refine len_isl ?_); refine len_lit rfl ?_))
local macro_rules | `(tactic| walk_at "wsa") => `(tactic| (with_reducible refine ws_seq ?_; with_reducible refine ws_asg ?_))
local macro_rules | `(tactic| walk_at "wsi") => `(tactic| (with_reducible refine ws_seq ?_; with_reducible refine ws_if ?_))
local macro_rules | `(tactic| walk_at "wsf") => `(tactic| (with_reducible refine ws_seq ?_; with_reducible refine ws_for ?_))
local macro_rules | `(tactic| walk_at "wsn") => `(tactic| with_reducible refine ws_next ?_)
local macro_rules | `(tactic| walk_at "wpe") => `(tactic| repeat (first | walk_at "wp1e" | walk_at "wp2" | walk_at "wpx"))
local macro_rules | `(tactic| walk_at "wps") => `(tactic| repeat (first | walk_at "wp1" | walk_at "wp2" | walk_at "wpx"))
def upF (ab : List Int) (z : Nat) : Option Nat := if 0 ≤ ab.getD z 0 then some (ab.getD z 0).toNat else none
structure RoadI (ab dg : List Int) (a : Int) : Prop where
  c1 : Ba.Chain (upF ab) dg
  c2 : ∀ x : Nat, dg.getD x 0 = 1 → a < x ∧ ∃ i, (∀ j, j < i → ∃ z, Ba.upN (upF ab) j x = some z ∧ dg.getD z 0 = 1) ∧ Ba.upN (upF ab) i x = if 0 ≤ a then some a.toNat else none
theorem getD_set {l : List Int} {a x : Nat} (ha : a < l.length) : (l.set a 1).getD x 0 = 1 ↔ x = a ∨ l.getD x 0 = 1 := by
  rw [List.getD_eq_getElem?_getD, List.getD_eq_getElem?_getD]
  by_cases h : a = x
  · subst h
    rw [List.getElem?_set_self ha]
    simp
  · rw [List.getElem?_set_ne h]
    constructor
    · exact .inr
    · rintro (h' | h')
      · exact absurd h'.symm h
      · exact h'
theorem RoadI.step {ab dg : List Int} {a : Nat} (I : RoadI ab dg a) (ha : a < dg.length) (hup : ab.getD a 0 < a) : RoadI ab (dg.set a 1) (ab.getD a 0) := by
  have m := fun {x : Nat} => getD_set (l := dg) (x := x) ha
  have h0 : (if 0 ≤ (a : Int) then some (a : Int).toNat else none) = some a := by simp
  refine ⟨fun x y hx hy hyx => ?_, fun x hx => ?_⟩
  · rcases m.mp hx with ex | hx'
    · rcases m.mp hy with ey | hy'
      · omega
      · have := (I.c2 y hy').1; omega
    · rcases m.mp hy with ey | hy'
      · subst ey
        obtain ⟨_, i, h1, h2⟩ := I.c2 x hx'
        rw [h0] at h2
        refine ⟨i, h2, fun j hj z hz => ?_⟩
        by_cases hji : j < i
        · obtain ⟨z', e, hz'⟩ := h1 j hji
          rw [e] at hz
          cases hz
          exact m.mpr (.inr hz')
        · have : j = i := by omega
          subst this
          rw [h2] at hz
          cases hz
          exact m.mpr (.inl rfl)
      · obtain ⟨i, h1, h2⟩ := I.c1 x y hx' hy' hyx
        exact ⟨i, h1, fun j hj z hz => m.mpr (.inr (h2 j hj z hz))⟩
  · have hu : upF ab a = if 0 ≤ ab.getD a 0 then some (ab.getD a 0).toNat else none := rfl
    rcases m.mp hx with rfl | hx
    · refine ⟨hup, 1, fun j hj => ⟨x, by rw [show j = 0 by omega]; rfl, m.mpr (.inl rfl)⟩, ?_⟩
      show (some x).bind (upF ab) = _
      rw [Option.bind_some, hu]
    · obtain ⟨h3, i, h1, h2⟩ := I.c2 x hx
      rw [h0] at h2
      refine ⟨by omega, i + 1, fun j hj => ?_, ?_⟩
      · by_cases hji : j < i
        · obtain ⟨z', e, hz'⟩ := h1 j hji
          exact ⟨z', e, m.mpr (.inr hz')⟩
        · have : j = i := by omega
          subst this
          exact ⟨a, h2, m.mpr (.inl rfl)⟩
      · show (Ba.upN (upF ab) i x).bind (upF ab) = _
        rw [h2, Option.bind_some, hu]
theorem RoadI.zero {ab : List Int} {w : Nat} {a : Int} : RoadI ab (List.replicate w 0) a := by
  have hz : ∀ x : Nat, (List.replicate w (0 : Int)).getD x 0 ≠ 1 := fun x => by
    rw [List.getD_eq_getElem?_getD, List.getElem?_replicate]
    split <;> simp
  exact ⟨fun x y hx => absurd hx (hz x), fun x hx => absurd hx (hz x)⟩
section
variable {J : JB} {cal : Nat → List D → M D}
end
end Pp
namespace Pp
open PySem L2 Ev Bd Sp Wp Rg
local macro_rules | `(tactic| walk_at "wp1e") => `(tactic| first | with_reducible refine we_c ?_ | with_reducible refine we_op ?_ | with_reducible refine we_un ?_ | with_reducible refine we_callV ?_ | with_reducible refine we_cons ?_ | with_reducible refine we_nil ?_ | with_reducible refine we_asB ?_ | with_reducible refine we_tru ?_ | with_reducible refine we_and ?_ | with_reducible refine we_or ?_ | with_reducible refine we_not ?_ | with_reducible refine we_if ?_ | with_reducible refine wt_and ?_ | with_reducible refine wt_or ?_ | with_reducible refine wt_not ?_ | with_reducible refine wt_yes ?_ | with_reducible refine we_chain ?_ | with_reducible refine we_fld ?_ | with_reducible refine we_isi ?_ | with_reducible refine we_mb ?_ | with_reducible refine we_frz ?_ | with_reducible refine we_cut ?_ | with_reducible refine we_oN ?_ | with_reducible refine we_oS ?_ | with_reducible refine we_any ?_ | with_reducible refine we_star ?_ | with_reducible refine we_lc ?_ | with_reducible refine we_R1 ?_ | with_reducible refine we_R2 ?_ | with_reducible refine we_rg ?_ | with_reducible refine we_enu ?_ | with_reducible refine we_zip ?_ | with_reducible refine we_tup ?_ | with_reducible refine we_lst ?_ | with_reducible refine we_lstC ?_ | with_reducible refine we_cal ?_ | with_reducible refine wg_nm ?_ | with_reducible refine wg_nl ?_ | with_reducible refine wg_cs ?_ | ((with_reducible refine wg_istp ?_); refine wg_tp rfl ?_) | with_reducible refine wg_sb ?_)
local macro_rules | `(tactic| walk_at "wp1s") => `(tactic| first | with_reducible refine ws_seq ?_ | with_reducible refine ws_next ?_ | with_reducible refine ws_cnt ?_ | with_reducible refine ws_brk ?_ | with_reducible refine ws_retN ?_ | with_reducible refine ws_ret ?_ | with_reducible refine ws_expr ?_ | with_reducible refine ws_if ?_ | with_reducible refine ws_asg ?_ | with_reducible refine ws_par2 ?_ | with_reducible refine ws_par3 ?_ | with_reducible refine ws_for ?_)
local macro_rules | `(tactic| walk_at "wp1") => `(tactic| first | walk_at "wp1e" | walk_at "wp1s")
local macro_rules | `(tactic| walk_at "noslf") => `(tactic| first | (intro h; cases h; done) | assumption | nofun)
local macro_rules | `(tactic| walk_at "wp2") => `(tactic| first | ((with_reducible refine we_isv ?_); refine we_var rfl (by walk_at "noslf") ?_) | with_reducible refine br_t ?_ | with_reducible refine br_f ?_ | refine ⟨_, rfl, br_t ?_⟩ | refine ⟨_, rfl, br_f ?_⟩)
local macro_rules | `(tactic| walk_at "wpx") => `(tactic| first | with_reducible refine x_bl ?_ | with_reducible refine t_bl ?_ | with_reducible refine t_lst ?_ | with_reducible refine t_tup ?_ | with_reducible refine t_int ?_ | with_reducible refine t_non ?_ | with_reducible refine a_lst ?_ | with_reducible refine a_tup ?_ | with_reducible refine s_lst ?_ | with_reducible refine s_tup ?_ | with_reducible refine br_not ?_ | with_reducible refine we_lft pAdd_ii ?_ | with_reducible refine we_lft pSub_ii ?_ | with_reducible refine we_lft pLt_ii ?_ | with_reducible refine we_lft pLe_ii ?_ | with_reducible refine we_lft pGt_ii ?_ | with_reducible refine we_lft pGe_ii ?_ | with_reducible refine we_lft pEq_ii ?_ | with_reducible refine we_lft pNe_ii ?_ | with_reducible refine we_lft len_lI ?_ | with_reducible refine we_lft len_tI ?_ | with_reducible refine we_lft len_rL ?_ | with_reducible refine we_lft len_rT ?_ | with_reducible refine we_lft len_lo ?_ | with_reducible refine we_lft pLen_lst ?_ | with_reducible refine we_lft pLen_tup ?_ | with_reducible refine we_lft pInt_i ?_ | with_reducible refine we_lft pInt_b ?_ | with_reducible refine we_lft all_ok ?_ | with_reducible refine we_lft any_ok ?_ | with_reducible refine we_lft sum_lI ?_ | with_reducible refine we_dT ?_ | with_reducible refine we_lft neg_i ?_ | with_reducible refine x_int ?_ | with_reducible refine len_nil2 ?_ | ((with_reducible refine len_isl ?_); refine len_lit rfl ?_))
local macro_rules | `(tactic| walk_at "wsa") => `(tactic| (with_reducible refine ws_seq ?_; with_reducible refine ws_asg ?_))
local macro_rules | `(tactic| walk_at "wsi") => `(tactic| (with_reducible refine ws_seq ?_; with_reducible refine ws_if ?_))
local macro_rules | `(tactic| walk_at "wsf") => `(tactic| (with_reducible refine ws_seq ?_; with_reducible refine ws_for ?_))
local macro_rules | `(tactic| walk_at "wsn") => `(tactic| with_reducible refine ws_next ?_)
local macro_rules | `(tactic| walk_at "wpe") => `(tactic| repeat (first | walk_at "wp1e" | walk_at "wp2" | walk_at "wpx"))
local macro_rules | `(tactic| walk_at "wps") => `(tactic| repeat (first | walk_at "wp1" | walk_at "wp2" | walk_at "wpx"))
section
variable {J : JB} {cal : Nat → List D → M D} {S : Store} {Q : D → Store → Prop} {δ : En}
structure GridB (J : JB) (cal : Nat → List D → M D) : Prop where
  drip : DrwB J (cal 27)
  mix : MixB J (cal 37)
  web : ∀ {B t m w : Nat} {S : Store}, At (J B) t S → B + 30 < 2 ^ 60 → m ≤ 8 → 0 < w → w ≤ 8 → WE (cal 38 [.ref t, .int m, .int w]) S fun d S' => ∃ R, d = rowsL R ∧ R.length = m ∧ (∀ r ∈ R, RowG w r) ∧ ¬ Ba.OddPat w R ∧ At (J (B + 30)) t S' ∧ Fr t S S'
  roads : ∀ {B t m w : Nat} {S : Store}, At (J B) t S → B + 30 < 2 ^ 60 → m ≤ 8 → 0 < w → w ≤ 8 → WE (cal 39 [.ref t, .int m, .int w]) S fun d S' => ∃ R, d = rowsL R ∧ R.length = m ∧ (∀ r ∈ R, RowG w r) ∧ ¬ Ba.OddPat w R ∧ At (J (B + 30)) t S' ∧ Fr t S S'
  turn : ∀ (R : Rw) (w : Nat) S, R ≠ [] → R.length ≤ 1000 → (∀ r ∈ R, r.length = w) → w ≤ 1000 → cal 36 [rowsL R] S = .ok (rowsL (turn R w)) S
end
end Pp
namespace Pp
open PySem L2 Ev Bd Sp Wp Rg
local macro_rules | `(tactic| walk_at "wp1e") => `(tactic| first | with_reducible refine we_c ?_ | with_reducible refine we_op ?_ | with_reducible refine we_un ?_ | with_reducible refine we_callV ?_ | with_reducible refine we_cons ?_ | with_reducible refine we_nil ?_ | with_reducible refine we_asB ?_ | with_reducible refine we_tru ?_ | with_reducible refine we_and ?_ | with_reducible refine we_or ?_ | with_reducible refine we_not ?_ | with_reducible refine we_if ?_ | with_reducible refine wt_and ?_ | with_reducible refine wt_or ?_ | with_reducible refine wt_not ?_ | with_reducible refine wt_yes ?_ | with_reducible refine we_chain ?_ | with_reducible refine we_fld ?_ | with_reducible refine we_isi ?_ | with_reducible refine we_mb ?_ | with_reducible refine we_frz ?_ | with_reducible refine we_cut ?_ | with_reducible refine we_oN ?_ | with_reducible refine we_oS ?_ | with_reducible refine we_any ?_ | with_reducible refine we_star ?_ | with_reducible refine we_lc ?_ | with_reducible refine we_R1 ?_ | with_reducible refine we_R2 ?_ | with_reducible refine we_rg ?_ | with_reducible refine we_enu ?_ | with_reducible refine we_zip ?_ | with_reducible refine we_tup ?_ | with_reducible refine we_lst ?_ | with_reducible refine we_lstC ?_ | with_reducible refine we_cal ?_ | with_reducible refine wg_nm ?_ | with_reducible refine wg_nl ?_ | with_reducible refine wg_cs ?_ | ((with_reducible refine wg_istp ?_); refine wg_tp rfl ?_) | with_reducible refine wg_sb ?_)
local macro_rules | `(tactic| walk_at "wp1s") => `(tactic| first | with_reducible refine ws_seq ?_ | with_reducible refine ws_next ?_ | with_reducible refine ws_cnt ?_ | with_reducible refine ws_brk ?_ | with_reducible refine ws_retN ?_ | with_reducible refine ws_ret ?_ | with_reducible refine ws_expr ?_ | with_reducible refine ws_if ?_ | with_reducible refine ws_asg ?_ | with_reducible refine ws_par2 ?_ | with_reducible refine ws_par3 ?_ | with_reducible refine ws_for ?_)
local macro_rules | `(tactic| walk_at "wp1") => `(tactic| first | walk_at "wp1e" | walk_at "wp1s")
local macro_rules | `(tactic| walk_at "noslf") => `(tactic| first | (intro h; cases h; done) | assumption | nofun)
local macro_rules | `(tactic| walk_at "wp2") => `(tactic| first | ((with_reducible refine we_isv ?_); refine we_var rfl (by walk_at "noslf") ?_) | with_reducible refine br_t ?_ | with_reducible refine br_f ?_ | refine ⟨_, rfl, br_t ?_⟩ | refine ⟨_, rfl, br_f ?_⟩)
local macro_rules | `(tactic| walk_at "wpx") => `(tactic| first | with_reducible refine x_bl ?_ | with_reducible refine t_bl ?_ | with_reducible refine t_lst ?_ | with_reducible refine t_tup ?_ | with_reducible refine t_int ?_ | with_reducible refine t_non ?_ | with_reducible refine a_lst ?_ | with_reducible refine a_tup ?_ | with_reducible refine s_lst ?_ | with_reducible refine s_tup ?_ | with_reducible refine br_not ?_ | with_reducible refine we_lft pAdd_ii ?_ | with_reducible refine we_lft pSub_ii ?_ | with_reducible refine we_lft pLt_ii ?_ | with_reducible refine we_lft pLe_ii ?_ | with_reducible refine we_lft pGt_ii ?_ | with_reducible refine we_lft pGe_ii ?_ | with_reducible refine we_lft pEq_ii ?_ | with_reducible refine we_lft pNe_ii ?_ | with_reducible refine we_lft len_lI ?_ | with_reducible refine we_lft len_tI ?_ | with_reducible refine we_lft len_rL ?_ | with_reducible refine we_lft len_rT ?_ | with_reducible refine we_lft len_lo ?_ | with_reducible refine we_lft pLen_lst ?_ | with_reducible refine we_lft pLen_tup ?_ | with_reducible refine we_lft pInt_i ?_ | with_reducible refine we_lft pInt_b ?_ | with_reducible refine we_lft all_ok ?_ | with_reducible refine we_lft any_ok ?_ | with_reducible refine we_lft sum_lI ?_ | with_reducible refine we_dT ?_ | with_reducible refine we_lft neg_i ?_ | with_reducible refine x_int ?_ | with_reducible refine len_nil2 ?_ | ((with_reducible refine len_isl ?_); refine len_lit rfl ?_))
local macro_rules | `(tactic| walk_at "wsa") => `(tactic| (with_reducible refine ws_seq ?_; with_reducible refine ws_asg ?_))
local macro_rules | `(tactic| walk_at "wsi") => `(tactic| (with_reducible refine ws_seq ?_; with_reducible refine ws_if ?_))
local macro_rules | `(tactic| walk_at "wsf") => `(tactic| (with_reducible refine ws_seq ?_; with_reducible refine ws_for ?_))
local macro_rules | `(tactic| walk_at "wsn") => `(tactic| with_reducible refine ws_next ?_)
local macro_rules | `(tactic| walk_at "wpe") => `(tactic| repeat (first | walk_at "wp1e" | walk_at "wp2" | walk_at "wpx"))
local macro_rules | `(tactic| walk_at "wps") => `(tactic| repeat (first | walk_at "wp1" | walk_at "wp2" | walk_at "wpx"))
/-- square rows of digits, each row and column with a one -/
structure Sq (n : Nat) (R : Rw) : Prop where
  len : R.length = n
  g : ∀ r ∈ R, RowG n r
  col : ∀ k, k < n → ∃ r ∈ R, r.getD k 0 = 1
section
variable {J : JB} {cal : Nat → List D → M D} {S : Store}
end
end Pp
namespace Pp
open PySem L2 Ev Bd Sp Wp Rg
local macro_rules | `(tactic| walk_at "wp1e") => `(tactic| first | with_reducible refine we_c ?_ | with_reducible refine we_op ?_ | with_reducible refine we_un ?_ | with_reducible refine we_callV ?_ | with_reducible refine we_cons ?_ | with_reducible refine we_nil ?_ | with_reducible refine we_asB ?_ | with_reducible refine we_tru ?_ | with_reducible refine we_and ?_ | with_reducible refine we_or ?_ | with_reducible refine we_not ?_ | with_reducible refine we_if ?_ | with_reducible refine wt_and ?_ | with_reducible refine wt_or ?_ | with_reducible refine wt_not ?_ | with_reducible refine wt_yes ?_ | with_reducible refine we_chain ?_ | with_reducible refine we_fld ?_ | with_reducible refine we_isi ?_ | with_reducible refine we_mb ?_ | with_reducible refine we_frz ?_ | with_reducible refine we_cut ?_ | with_reducible refine we_oN ?_ | with_reducible refine we_oS ?_ | with_reducible refine we_any ?_ | with_reducible refine we_star ?_ | with_reducible refine we_lc ?_ | with_reducible refine we_R1 ?_ | with_reducible refine we_R2 ?_ | with_reducible refine we_rg ?_ | with_reducible refine we_enu ?_ | with_reducible refine we_zip ?_ | with_reducible refine we_tup ?_ | with_reducible refine we_lst ?_ | with_reducible refine we_lstC ?_ | with_reducible refine we_cal ?_ | with_reducible refine wg_nm ?_ | with_reducible refine wg_nl ?_ | with_reducible refine wg_cs ?_ | ((with_reducible refine wg_istp ?_); refine wg_tp rfl ?_) | with_reducible refine wg_sb ?_)
local macro_rules | `(tactic| walk_at "wp1s") => `(tactic| first | with_reducible refine ws_seq ?_ | with_reducible refine ws_next ?_ | with_reducible refine ws_cnt ?_ | with_reducible refine ws_brk ?_ | with_reducible refine ws_retN ?_ | with_reducible refine ws_ret ?_ | with_reducible refine ws_expr ?_ | with_reducible refine ws_if ?_ | with_reducible refine ws_asg ?_ | with_reducible refine ws_par2 ?_ | with_reducible refine ws_par3 ?_ | with_reducible refine ws_for ?_)
local macro_rules | `(tactic| walk_at "wp1") => `(tactic| first | walk_at "wp1e" | walk_at "wp1s")
local macro_rules | `(tactic| walk_at "noslf") => `(tactic| first | (intro h; cases h; done) | assumption | nofun)
local macro_rules | `(tactic| walk_at "wp2") => `(tactic| first | ((with_reducible refine we_isv ?_); refine we_var rfl (by walk_at "noslf") ?_) | with_reducible refine br_t ?_ | with_reducible refine br_f ?_ | refine ⟨_, rfl, br_t ?_⟩ | refine ⟨_, rfl, br_f ?_⟩)
local macro_rules | `(tactic| walk_at "wpx") => `(tactic| first | with_reducible refine x_bl ?_ | with_reducible refine t_bl ?_ | with_reducible refine t_lst ?_ | with_reducible refine t_tup ?_ | with_reducible refine t_int ?_ | with_reducible refine t_non ?_ | with_reducible refine a_lst ?_ | with_reducible refine a_tup ?_ | with_reducible refine s_lst ?_ | with_reducible refine s_tup ?_ | with_reducible refine br_not ?_ | with_reducible refine we_lft pAdd_ii ?_ | with_reducible refine we_lft pSub_ii ?_ | with_reducible refine we_lft pLt_ii ?_ | with_reducible refine we_lft pLe_ii ?_ | with_reducible refine we_lft pGt_ii ?_ | with_reducible refine we_lft pGe_ii ?_ | with_reducible refine we_lft pEq_ii ?_ | with_reducible refine we_lft pNe_ii ?_ | with_reducible refine we_lft len_lI ?_ | with_reducible refine we_lft len_tI ?_ | with_reducible refine we_lft len_rL ?_ | with_reducible refine we_lft len_rT ?_ | with_reducible refine we_lft len_lo ?_ | with_reducible refine we_lft pLen_lst ?_ | with_reducible refine we_lft pLen_tup ?_ | with_reducible refine we_lft pInt_i ?_ | with_reducible refine we_lft pInt_b ?_ | with_reducible refine we_lft all_ok ?_ | with_reducible refine we_lft any_ok ?_ | with_reducible refine we_lft sum_lI ?_ | with_reducible refine we_dT ?_ | with_reducible refine we_lft neg_i ?_ | with_reducible refine x_int ?_ | with_reducible refine len_nil2 ?_ | ((with_reducible refine len_isl ?_); refine len_lit rfl ?_))
local macro_rules | `(tactic| walk_at "wsa") => `(tactic| (with_reducible refine ws_seq ?_; with_reducible refine ws_asg ?_))
local macro_rules | `(tactic| walk_at "wsi") => `(tactic| (with_reducible refine ws_seq ?_; with_reducible refine ws_if ?_))
local macro_rules | `(tactic| walk_at "wsf") => `(tactic| (with_reducible refine ws_seq ?_; with_reducible refine ws_for ?_))
local macro_rules | `(tactic| walk_at "wsn") => `(tactic| with_reducible refine ws_next ?_)
local macro_rules | `(tactic| walk_at "wpe") => `(tactic| repeat (first | walk_at "wp1e" | walk_at "wp2" | walk_at "wpx"))
local macro_rules | `(tactic| walk_at "wps") => `(tactic| repeat (first | walk_at "wp1" | walk_at "wp2" | walk_at "wpx"))
abbrev MOST : Int := 1000000000000000000000000000000
section
variable {J : JB} {cal : Nat → List D → M D} {S : Store}
/-- what the drawers do -/
structure PickB (J : JB) (f : List D → M D) : Prop where
  go : ∀ {B t : Nat} {S : Store} {ns : List Int} {Q : D → Store → Prop}, At (J B) t S → B < 2 ^ 60 → 0 < ns.length → ns.length ≤ 1000 → (∀ x S', x ∈ ns → At (J (B + 1)) t S' → Fr t S S' → S'.length = S.length → Q (.int x) S') → WE (f [.ref t, lI ns]) S Q
end
end Pp
namespace Bd
open PySem L2 Ev
end Bd
namespace Pp
open PySem PySem.W PyProof.Rows L2 Ev Bd Sp Wp Rg
local macro_rules | `(tactic| walk_at "wp1e") => `(tactic| first | with_reducible refine we_c ?_ | with_reducible refine we_op ?_ | with_reducible refine we_un ?_ | with_reducible refine we_callV ?_ | with_reducible refine we_cons ?_ | with_reducible refine we_nil ?_ | with_reducible refine we_asB ?_ | with_reducible refine we_tru ?_ | with_reducible refine we_and ?_ | with_reducible refine we_or ?_ | with_reducible refine we_not ?_ | with_reducible refine we_if ?_ | with_reducible refine wt_and ?_ | with_reducible refine wt_or ?_ | with_reducible refine wt_not ?_ | with_reducible refine wt_yes ?_ | with_reducible refine we_chain ?_ | with_reducible refine we_fld ?_ | with_reducible refine we_isi ?_ | with_reducible refine we_mb ?_ | with_reducible refine we_frz ?_ | with_reducible refine we_cut ?_ | with_reducible refine we_oN ?_ | with_reducible refine we_oS ?_ | with_reducible refine we_any ?_ | with_reducible refine we_star ?_ | with_reducible refine we_lc ?_ | with_reducible refine we_R1 ?_ | with_reducible refine we_R2 ?_ | with_reducible refine we_rg ?_ | with_reducible refine we_enu ?_ | with_reducible refine we_zip ?_ | with_reducible refine we_tup ?_ | with_reducible refine we_lst ?_ | with_reducible refine we_lstC ?_ | with_reducible refine we_cal ?_ | with_reducible refine wg_nm ?_ | with_reducible refine wg_nl ?_ | with_reducible refine wg_cs ?_ | ((with_reducible refine wg_istp ?_); refine wg_tp rfl ?_) | with_reducible refine wg_sb ?_)
local macro_rules | `(tactic| walk_at "wp1s") => `(tactic| first | with_reducible refine ws_seq ?_ | with_reducible refine ws_next ?_ | with_reducible refine ws_cnt ?_ | with_reducible refine ws_brk ?_ | with_reducible refine ws_retN ?_ | with_reducible refine ws_ret ?_ | with_reducible refine ws_expr ?_ | with_reducible refine ws_if ?_ | with_reducible refine ws_asg ?_ | with_reducible refine ws_par2 ?_ | with_reducible refine ws_par3 ?_ | with_reducible refine ws_for ?_)
local macro_rules | `(tactic| walk_at "wp1") => `(tactic| first | walk_at "wp1e" | walk_at "wp1s")
local macro_rules | `(tactic| walk_at "noslf") => `(tactic| first | (intro h; cases h; done) | assumption | nofun)
local macro_rules | `(tactic| walk_at "wp2") => `(tactic| first | ((with_reducible refine we_isv ?_); refine we_var rfl (by walk_at "noslf") ?_) | with_reducible refine br_t ?_ | with_reducible refine br_f ?_ | refine ⟨_, rfl, br_t ?_⟩ | refine ⟨_, rfl, br_f ?_⟩)
local macro_rules | `(tactic| walk_at "wpx") => `(tactic| first | with_reducible refine x_bl ?_ | with_reducible refine t_bl ?_ | with_reducible refine t_lst ?_ | with_reducible refine t_tup ?_ | with_reducible refine t_int ?_ | with_reducible refine t_non ?_ | with_reducible refine a_lst ?_ | with_reducible refine a_tup ?_ | with_reducible refine s_lst ?_ | with_reducible refine s_tup ?_ | with_reducible refine br_not ?_ | with_reducible refine we_lft pAdd_ii ?_ | with_reducible refine we_lft pSub_ii ?_ | with_reducible refine we_lft pLt_ii ?_ | with_reducible refine we_lft pLe_ii ?_ | with_reducible refine we_lft pGt_ii ?_ | with_reducible refine we_lft pGe_ii ?_ | with_reducible refine we_lft pEq_ii ?_ | with_reducible refine we_lft pNe_ii ?_ | with_reducible refine we_lft len_lI ?_ | with_reducible refine we_lft len_tI ?_ | with_reducible refine we_lft len_rL ?_ | with_reducible refine we_lft len_rT ?_ | with_reducible refine we_lft len_lo ?_ | with_reducible refine we_lft pLen_lst ?_ | with_reducible refine we_lft pLen_tup ?_ | with_reducible refine we_lft pInt_i ?_ | with_reducible refine we_lft pInt_b ?_ | with_reducible refine we_lft all_ok ?_ | with_reducible refine we_lft any_ok ?_ | with_reducible refine we_lft sum_lI ?_ | with_reducible refine we_dT ?_ | with_reducible refine we_lft neg_i ?_ | with_reducible refine x_int ?_ | with_reducible refine len_nil2 ?_ | ((with_reducible refine len_isl ?_); refine len_lit rfl ?_))
local macro_rules | `(tactic| walk_at "wsa") => `(tactic| (with_reducible refine ws_seq ?_; with_reducible refine ws_asg ?_))
local macro_rules | `(tactic| walk_at "wsi") => `(tactic| (with_reducible refine ws_seq ?_; with_reducible refine ws_if ?_))
local macro_rules | `(tactic| walk_at "wsf") => `(tactic| (with_reducible refine ws_seq ?_; with_reducible refine ws_for ?_))
local macro_rules | `(tactic| walk_at "wsn") => `(tactic| with_reducible refine ws_next ?_)
local macro_rules | `(tactic| walk_at "wpe") => `(tactic| repeat (first | walk_at "wp1e" | walk_at "wp2" | walk_at "wpx"))
local macro_rules | `(tactic| walk_at "wps") => `(tactic| repeat (first | walk_at "wp1" | walk_at "wp2" | walk_at "wpx"))
structure Shw (p : PyData) (n dp : Nat) : Prop where
  sh : p.showable = true
  ln : p.shown.length ≤ n
  dp : p.depth ≤ dp
theorem Shw.mono {p : PyData} {n n' d d' : Nat} (h : Shw p n d) (hn : n ≤ n') (hd : d ≤ d') : Shw p n' d' := ⟨h.sh, Nat.le_trans h.ln hn, Nat.le_trans h.dp hd⟩
def lotsA (w : Nat) : Rw := (subs w).mergeSort leL
def tot (ns l : List Int) : Int := (l.map fun k => ns.getD k.toNat 0).sum
section
variable {cal : Nat → List D → M D} {S : Store}
def lotsG (t : Int → Bool) (w : Nat) (R : Rw) : Rw := (lotsA w).filter fun l => R.all fun r => t (tot r l)
end
end Pp
namespace Ev
open PySem PySem.Spec PySem.SeqAt L2 PyProof.Rows
section
variable {X : Cx} {Wx : WX} {e tg : Expr} {es : List Expr} {mas : MA} {pos p : Pos}
end
end Ev
namespace Ev
open PySem PySem.Spec PySem.SeqAt L2 PyProof.Rows
theorem tuple_mul1 (l : Addr) (items : Array Value) (n : Nat) (dd : Option Addr) (sl : Array (Option Value)) (u : Tok) :
    Meets (Builtin.«tuple.__mul__» ⟨[.ref l, .int 1 u], []⟩) (fun _ R s => s.heap.get? l = some { cls := .type "tuple", dict := dd, data := .seq items n, slots := sl } ∧ R (.ok (.ret (Value.ref l))) s) :=
  .of_wp fun prog w A R s h => by
    obtain ⟨hp, g, d, tk, os⟩ := s
    obtain ⟨hl, h⟩ := h
    have f1 := AutoSeq1.idx_int
    have c0 : (decide ((1 : Int) < -(2 ^ 63)) || decide ((1 : Int) ≥ 2 ^ 63)) = false := by decide
    have c1 : (items.isEmpty || (1 : Int) == 1) = true := by simp
    wp_walk using wpAny_loadPart' hl
    repeat (first
      | (refine wpAny_ite_false (decide_eq_false (by rw [c0]; exact Bool.false_ne_true)) ?_; wp_walk using wpAny_loadPart' hl)
      | (refine wpAny_ite_true (decide_eq_true c1) ?_; wp_walk using wpAny_loadPart' hl))
    exact ⟨_, rfl, h⟩
def pMulT : D → D → PO := fun x y S => match x, y with
  | .tup xs, .int k => if xs ≠ [] ∧ 1 ≤ k ∧ k ≤ 1000 ∧ xs.length ≤ 1000 then (if k = 1 then some (.tup xs, S) else newT (List.replicate k.toNat xs).flatten S) else none
  | _, _ => none
section
variable {X : Cx}
theorem op_rep1 : OpR X (binaryOp .Mult) (fun x y H Q => ∃ l xs, x = .ref l ∧ y = .int 1 ∧ SqT X.K H l xs ∧ Q (.ref l) H) := by
  intro pins s σ H x y v u Q I rx ry h
  obtain ⟨l, xs, rfl, rfl, hT, q⟩ := h
  cases rx
  obtain ⟨t, rfl⟩ := ry
  obtain ⟨its, r, ⟨⟨cls, dd, data, sl⟩, ho, hc, n, hd⟩, hs⟩ := I.tuple hT
  simp only at hc hd
  subst hc hd
  refine wpAny_binaryOp_repeat_ref (T := "tuple") (U := "int") (by decide) ⟨_, ho, rfl⟩ (fun s' => typeIs_int s' 1 t) noFill_tuple_mul F.fills_int_mul F.slot_int_rmul repeat_tuple F.slot_int_index.lookup
    (call_meets F.slot_int_rmul (typeIs_int s 1 t) F.entry_int_rmul (F.args_int_rmul_2 _ _) (int_rmul_tuple 1 t l its.toArray n dd sl)
      ⟨ho, rfl, ⟨_, ho, rfl⟩, call_meets F.slot_tuple_mul ⟨_, ho, rfl⟩ F.entry_tuple_mul (F.args_tuple_mul_2 _ _) (tuple_mul1 l its.toArray n dd sl t) ⟨ho, ?_⟩⟩)
  exact ⟨.ref l, H, I, rfl, q⟩
theorem op_pMulT : OpR X (binaryOp .Mult) (rD2 X.K pMulT) := fun pins s σ H x y v u Q I rx ry ⟨W, S, dx, dy, g, r1, r2, p⟩ => by
  cases r1 with
  | @tup a vs xs q r =>
    cases r2 with
    | int k =>
      simp only [pMulT] at p
      split at p
      · rename_i hc
        split at p
        · rename_i hk
          subst hk
          exact op_rep1 pins s σ H _ _ v u Q I rx ry ⟨a, vs, rfl, rfl, g.sqT q, p.val g (.tup q r)⟩
        · rename_i hk
          refine op_repT pins s σ H _ _ v u Q I rx ry ⟨a, k, vs, rfl, rfl, g.sqT q, ?_, by omega, hc.2.2.1, by rw [← r.length]; exact hc.2.2.2, (newT_ok p g (reps_repl r k.toNat)).2⟩
          intro e
          subst e
          cases r
          exact hc.1 rfl
      · exact p.elim
    | _ => exact p.elim
  | _ => cases r2 <;> exact p.elim
end
end Ev
namespace Ev
open PySem PySem.Spec PySem.SeqAt L2 PyProof.Rows
section
variable {X : Cx} {Wx : WX} {a b e : Expr} {ma mb : ME} {pos : Pos} {k : Nat}
end
end Ev
namespace Ev
open PySem PySem.Spec PySem.SeqAt L2 PyProof.Rows
def loopC2 (up : UpD) (mt : MT) (mi1 : MA) (up1 : UpD) (mt1 : MT) (me : ME) (vs1 : List Nat) (δ0 : En) : List D → List D → M (List D)
  | [], acc => M.pure acc
  | d :: ds, acc => match up d with
    | none => M.bad
    | some us => M.bind (noX (mt (setsD δ0 us))) fun k => match k with
      | false => loopC2 up mt mi1 up1 mt1 me vs1 δ0 ds acc
      | true => M.bind (noX (mi1 (setsD δ0 us))) fun ds1 => M.bind (loopC up1 mt1 me (wipeD (setsD δ0 us) vs1) ds1 acc) fun acc' => loopC2 up mt mi1 up1 mt1 me vs1 δ0 ds acc'
def eLc2 (fin : List D → PO) (mi : MA) (up : UpD) (mt : MT) (mi1 : MA) (up1 : UpD) (mt1 : MT) (me : ME) (vs vs1 : List Nat) : ME := fun δ => M.bind (mi δ) fun ds => M.bind (loopC2 up mt mi1 up1 mt1 me vs1 (wipeD δ vs) ds []) fun ys => lft (fin ys)
section
variable {X : Cx} {Wx : WX} {pos : Pos} {k : Nat}
theorem tLc2_of {mi mi1 : MA} {up up1 : UpD} {mt mt1 : MT} {me : ME} {vs vs1 : List Nat} {fin : List D → PO} (hf : FinOk X.K fin) (hu : ∀ d us, up d = some us → ∀ p ∈ us, p.1 ∈ vs) (hu1 : ∀ d us, up1 d = some us → ∀ p ∈ us, p.1 ∈ vs1) (σ : L2.St) (H : Hp) (Q : VK) (h : tD X.K Wx (eLc2 fin mi up mt mi1 up1 mt1 me vs vs1) σ H Q) :
    tLc2 (tDI X.K Wx mi) (tDU X.K up) (tDT X.K (fun _ _ _ _ => False) mt) (tDI X.K (fun _ _ _ _ => False) mi1) (tDU X.K up1) (tDT X.K (fun _ _ _ _ => False) mt1) (tD X.K (fun _ _ _ _ => False) me) vs vs1 σ H Q := by
  obtain ⟨W, S, δ, g, r, p⟩ := h
  refine ⟨W, S, δ, g, r, (okP.bind (R := WalkD X.K) p).imp fun J H1 ⟨W1, S1, ds, l1, g1, w1, p1⟩ => fun Dd nD => ?_⟩
  have pD : W1.P Dd = none := g1.freeP nD
  let Pv : Nat → Hp → Prop := fun i H2 => ∃ W2 S2 acc vacc, W1.lf W2 ∧ W2.P = upd W1.P Dd (.lst vacc) ∧ Good X.K W2 S2 H2 ∧ Reps X.K W2 acc vacc ∧
    okP X.K (Rep X.K) ⟨W2.F, W2.m, W1.P, W2.sf⟩ (M.bind (loopC2 up mt mi1 up1 mt1 me vs1 (wipeD δ vs) (ds.drop i) acc) (fun ys => lft (fin ys)) S2) σ Wx Q
  refine ⟨fun i m H => m = ds.length - i ∧ i ≤ ds.length ∧ Pv i H, ⟨ds.length, by simp, Nat.zero_le _, W1.prv Dd (.lst []), S1, [], [], W1.prv_lf _ _, rfl, g1.newPrv nD, .nil, p1⟩, ?_⟩
  rintro i m H2 ⟨rfl, hile, W2, S2, acc, vacc, l2, e2, g2, ra, p2⟩
  have qG : ∀ a o, W1.F a = some o → H2 a = some o := fun a o ha => g2.sub a o (l2.f a o ha)
  by_cases hi : i < ds.length
  · refine .inr ⟨w1.goes i H2 hi qG, Pv (i + 1), fun H' p' => ⟨ds.length - (i + 1), by omega, rfl, hi, p'⟩, fun x H3 yy => ?_⟩
    have y := w1.yields i H2 x H3 hi qG yy
    have hd : ds[i]? = some ds[i] := by simp [hi]
    obtain ⟨W3, l3, g3, q3⟩ := y ds[i] hd W2 S2 l2 g2
    rw [List.drop_eq_getElem_cons hi] at p2
    refine ⟨W3, S2, ds[i], g3, q3, ?_⟩
    simp only [loopC2] at p2
    cases e1 : up ds[i] with
    | none => rw [e1] at p2; exact p2.elim
    | some us =>
      rw [e1] at p2
      intro us' k1 r1
      have hus : ∀ p ∈ us', p.1 ∈ vs := fun p hp => by
        have : p.1 ∈ us'.map (·.1) := List.mem_map_of_mem hp
        rw [k1] at this
        obtain ⟨q, hq, eq⟩ := List.mem_map.mp this
        rw [← eq]
        exact hu _ _ e1 q hq
      refine ⟨by rw [wipe_sets hus, wipe_wipe], ?_⟩
      have rE : REnv X.K W3 (setsD (wipeD δ vs) us) (setsV (wipe σ vs) us') := ((r.mono (l1.toLf.trans (l2.trans l3))).wipe vs).sets k1 r1
      have p3 := okP.assoc p2
      refine ⟨W3, S2, setsD (wipeD δ vs) us, g3, rE, (okP.bindN p3 W3 _ _).imp fun k H4 ⟨W4, S4, k', l4, g4, ek, p4⟩ => ?_⟩
      subst ek
      cases k' with
      | false =>
        rw [if_neg Bool.false_ne_true]
        refine ⟨W4, S4, acc, vacc, l2.trans (l3.trans l4), by rw [l4.pp, l3.pp, e2], g4, ra.mono (l3.trans l4), ?_⟩
        exact okP.mono (W := ⟨W2.F, W2.m, W1.P, W2.sf⟩) ⟨⟨(l3.trans l4).f, (l3.trans l4).sq, (l3.trans l4).mm⟩, rfl⟩ p4
      | true =>
        rw [if_pos rfl]
        have p5 := okP.assoc p4
        refine ⟨W4, S4, setsD (wipeD δ vs) us, g4, rE.mono l4, (okP.bindN (R := WalkD X.K) p5 W4 _ _).imp fun J1 H5 ⟨W5, S5, ds1, l5, g5, w5, p6⟩ => ?_⟩
        have eP5 : W5.P = upd W1.P Dd (.lst vacc) := by rw [l5.pp, l4.pp, l3.pp, e2]
        have l35 := (l3.trans l4).trans l5
        let Pv1 : Nat → Hp → Prop := fun j H6 => ∃ W6 S6 acc6 vacc6, W5.lf W6 ∧ W6.P = upd W1.P Dd (.lst vacc6) ∧ Good X.K W6 S6 H6 ∧ Reps X.K W6 acc6 vacc6 ∧
          okP X.K (Rep X.K) ⟨W6.F, W6.m, W1.P, W6.sf⟩ (M.bind (loopC up1 mt1 me (wipeD (setsD (wipeD δ vs) us) vs1) (ds1.drop j) acc6) (fun acc' => M.bind (loopC2 up mt mi1 up1 mt1 me vs1 (wipeD δ vs) (ds.drop (i + 1)) acc') (fun ys => lft (fin ys))) S6) σ Wx Q
        refine ⟨fun j k H => k = ds1.length - j ∧ j ≤ ds1.length ∧ Pv1 j H, ⟨ds1.length, by simp, Nat.zero_le _, W5, S5, acc, vacc, W5.le_refl.toLf, eP5, g5, ra.mono l35, okP.mono (W := ⟨W2.F, W2.m, W1.P, W2.sf⟩) ⟨⟨l35.f, l35.sq, l35.mm⟩, rfl⟩ (okP.assoc p6)⟩, ?_⟩
        rintro j m1 H6 ⟨rfl, hjle, W6, S6, acc6, vacc6, l6, e6, g6, ra6, p7⟩
        have qG1 : ∀ a o, W5.F a = some o → H6 a = some o := fun a o ha => g6.sub a o (l6.f a o ha)
        by_cases hj : j < ds1.length
        · refine .inr ⟨w5.goes j H6 hj qG1, Pv1 (j + 1), fun H' p' => ⟨ds1.length - (j + 1), by omega, rfl, hj, p'⟩, fun x1 H7 yy1 => ?_⟩
          have y1 := w5.yields j H6 x1 H7 hj qG1 yy1
          have hd1 : ds1[j]? = some ds1[j] := by simp [hj]
          obtain ⟨W7, l7, g7, q7⟩ := y1 ds1[j] hd1 W6 S6 l6 g6
          rw [List.drop_eq_getElem_cons hj] at p7
          refine ⟨W7, S6, ds1[j], g7, q7, ?_⟩
          simp only [loopC] at p7
          cases e8 : up1 ds1[j] with
          | none => rw [e8] at p7; exact p7.elim
          | some vs' =>
            rw [e8] at p7
            intro us1 k8 r8
            have hus1 : ∀ p ∈ us1, p.1 ∈ vs1 := fun p hp => by
              have : p.1 ∈ us1.map (·.1) := List.mem_map_of_mem hp
              rw [k8] at this
              obtain ⟨q, hq, eq⟩ := List.mem_map.mp this
              rw [← eq]
              exact hu1 _ _ e8 q hq
            refine ⟨by rw [wipe_sets hus1, wipe_wipe], ?_⟩
            have rE1 : REnv X.K W7 (setsD (wipeD (setsD (wipeD δ vs) us) vs1) vs') (setsV (wipe (setsV (wipe σ vs) us') vs1) us1) := (((rE.mono (l4.trans l5)).mono (l6.trans l7)).wipe vs1).sets k8 r8
            have p8 := okP.assoc p7
            refine ⟨W7, S6, setsD (wipeD (setsD (wipeD δ vs) us) vs1) vs', g7, rE1, (okP.bindN p8 W7 _ _).imp fun k H8 ⟨W8, S8, k', l8, g8, ek, p9⟩ => ?_⟩
            subst ek
            cases k' with
            | false =>
              rw [if_neg Bool.false_ne_true]
              refine ⟨W8, S8, acc6, vacc6, l6.trans (l7.trans l8), by rw [l8.pp, l7.pp, e6], g8, ra6.mono (l7.trans l8), ?_⟩
              exact okP.mono (W := ⟨W6.F, W6.m, W1.P, W6.sf⟩) ⟨⟨(l7.trans l8).f, (l7.trans l8).sq, (l7.trans l8).mm⟩, rfl⟩ (p9)
            | true =>
              rw [if_pos rfl]
              have p10 := okP.assoc p9
              refine ⟨W8, S8, setsD (wipeD (setsD (wipeD δ vs) us) vs1) vs', g8, rE1.mono l8, (okP.bindN p10 W8 _ _).imp fun yv H9 ⟨W9, S9, y9, l9, g9, r9, p11⟩ => ?_⟩
              have eP : W9.P = upd W1.P Dd (.lst vacc6) := by rw [l9.pp, l8.pp, l7.pp, e6]
              have hD : W9.P Dd = some (.lst vacc6) := by rw [eP, upd_same]
              have l79 := (l7.trans l8).trans l9
              by_cases hz : acc6.length < sizeLine
              · rw [if_pos hz] at p11
                refine ⟨vacc6, (g9.prv Dd _ hD).1, by rw [← ra6.length]; exact hz, W9.prv Dd (.lst (vacc6 ++ [yv])), S9, acc6 ++ [y9], vacc6 ++ [yv], l6.trans (l79.toLf.trans (W9.prv_lf _ _)), by show upd W9.P Dd _ = _; rw [eP, upd_upd], g9.updPrv hD, ?_, ?_⟩
                · exact ((ra6.mono l79).append (.cons r9 .nil)).mono (W9.prv_lf _ _)
                · exact okP.mono (W := ⟨W6.F, W6.m, W1.P, W6.sf⟩) ⟨⟨l79.f, l79.sq, l79.mm⟩, rfl⟩ p11
              · rw [if_neg hz] at p11; exact p11.elim
        · have ej : j = ds1.length := by omega
          subst ej
          refine .inl ⟨w5.stops H6 qG1, W6, S6, acc6, vacc6, l2.trans (l35.toLf.trans l6), e6, g6, ra6, ?_⟩
          rw [List.drop_length] at p7
          exact p7
  · have ei : i = ds.length := by omega
    subst ei
    refine .inl ⟨w1.stops H2 qG, ?_⟩
    rw [List.drop_length] at p2
    exact hf W2 S2 H2 Dd W1.P acc vacc Q g2 e2 pD ra (okP.lft p2)
theorem nSetLc2 (i : Nat) {y : Str} {py spos : Pos} {elt tg iter tg1 iter1 : Expr} {ifs ifs1 : List Expr} {scope : Scope} (own : List (Str × Nat)) (vs1 : List Nat) {mi mi1 : MA} {up up1 : UpD} {mt mt1 : MT} {me : ME} {fin : List D → PO} (C : Ct X Wx k) (hf : FinOk X.K fin) (hN : X.N.Nodup) (hi : SI X Wx tg iter mi) (ok : BlkOk X.N X.env.scope scope own) (hv : ∀ i ∈ vs1, i ∈ own.map (·.2))
    (hg : ∀ (s : Shared) (H : Hp) (C : Addr) (cl : List (Str × Addr)) (fp : List Addr), PG (X.blk s H scope (compEnvC scope cl C X.env) fp) tg (tDU X.K up)) (ht : ∀ (s : Shared) (H : Hp) (C : Addr) (cl : List (Str × Addr)) (fp : List Addr), PTs (X.blk s H scope (compEnvC scope cl C X.env) fp) ifs (tDT X.K (fun _ _ _ _ => False) mt))
    (hi1 : ∀ (s : Shared) (H : Hp) (C : Addr) (cl : List (Str × Addr)) (fp : List Addr), SI (X.blk s H scope (compEnvC scope cl C X.env) fp) (fun _ _ _ _ => False) tg1 iter1 mi1)
    (hg1 : ∀ (s : Shared) (H : Hp) (C : Addr) (cl : List (Str × Addr)) (fp : List Addr), PG (X.blk s H scope (compEnvC scope cl C X.env) fp) tg1 (tDU X.K up1)) (ht1 : ∀ (s : Shared) (H : Hp) (C : Addr) (cl : List (Str × Addr)) (fp : List Addr), PTs (X.blk s H scope (compEnvC scope cl C X.env) fp) ifs1 (tDT X.K (fun _ _ _ _ => False) mt1))
    (he : ∀ (s : Shared) (H : Hp) (C : Addr) (cl : List (Str × Addr)) (fp : List Addr), SE (X.blk s H scope (compEnvC scope cl C X.env) fp) (fun _ _ _ _ => False) elt me) (hu : ∀ d us, up d = some us → ∀ p ∈ us, p.1 ∈ own.map (·.2)) (hu1 : ∀ d us, up1 d = some us → ∀ p ∈ us, p.1 ∈ vs1) (hy : X.N[i]? = some y := by rfl) (hyl : X.env.scope.names.lookup y = some .local := by rfl)
    (hsw : swapsWith (.ListComp elt [⟨tg, iter, ifs, 0⟩, ⟨tg1, iter1, ifs1, 0⟩] scope pos) (some (.Name y py)) spos.line X.env = pure true := by exact sw_true rfl rfl rfl (by decide +kernel)) (hs : ∀ x, foldedSetIterable iter X.env x = pure x := by intro _; rfl) (hs1 : ∀ env x, foldedSetIterable iter1 env x = pure x := by intro _ _; rfl) :
    SS X Wx (.Assign [.Name y py] (.ListComp elt [⟨tg, iter, ifs, 0⟩, ⟨tg1, iter1, ifs1, 0⟩] scope pos) spos) (sAsg (eLc2 fin mi up mt mi1 up1 mt1 me (own.map (·.2)) vs1) (gNm i)) :=
  PS.imp (ps_setLc2 C.calm hN hy hyl hsw hi ok hv hg ht hi1 hg1 ht1 he hs hs1) fun D σ H ⟨W, S, δ, g, r, p⟩ => tLc2_of hf hu hu1 σ H _ ⟨W, S, δ, g, r, (flP_ofE (R := Rep X.K) r p).imp fun v H1 ⟨W1, S1, d, l1, g1, r1, p1⟩ => p1 W1 H1 _ W1.le_refl g1 ((r.mono l1).set i r1)⟩
end
end Ev
namespace Ev
open PySem PySem.Spec PySem.SeqAt L2 PyProof.Rows
theorem plain_ints : ∀ ns : List Int, PyData.plainAll (ns.map .int) = true
  | [] => rfl
  | n :: ns => by simp only [List.map_cons, PyData.plainAll, PyData.plain, plain_ints ns, Bool.and_self]
theorem any_ints (ns : List Int) : (ns.map PyData.int).any PyData.truthy = ns.any (· != 0) := by
  induction ns with
  | nil => rfl
  | cons n ns ih => simp only [List.map_cons, List.any_cons, ih]; rfl
def pAnyT : List D → PO := fun ds S => match ds with
  | [.tup xs] => (intsOf xs).map fun ns => (.bl (ns.any (· != 0)), S)
  | ds => pAll false ds S
section
variable {X : Cx}
theorem cr_pAnyT (hc : X.calm = true) : CallR X (.builtin "any") (rDC X.K pAnyT) := fun pins s σ H vs us Q I rv ⟨W, S, ds, g, r, h⟩ => by
  by_cases hd : ∃ xs, ds = [.tup xs]
  · obtain ⟨xs, rfl⟩ := hd
    obtain ⟨v, rfl, q⟩ := reps1 r
    simp only [pAnyT] at h
    cases e : intsOf xs with
    | none => rw [e] at h; exact h.elim
    | some ns =>
      rw [e] at h
      obtain ⟨a, rfl, hs⟩ := tupInts_ok (d := .tup xs) g q e
      obtain rfl := Vals.ref1 rv
      obtain ⟨its, rv2, hl, _⟩ := I.tuple hs
      refine PySem.W.any_tuple_data (I.ok.hd hc) hl (rv2.ints.reads _) (plain_ints ns) (fun x hx => by
        obtain ⟨i, _, rfl⟩ := List.mem_map.mp hx
        trivial) fun h' tk hk => ?_
      rw [any_ints]
      exact ⟨.bl _, H, I.kept hk, rfl, oV.val h g (.bl _)⟩
  · have e : pAnyT ds S = pAll false ds S := by
      unfold pAnyT
      split
      · exact absurd ⟨_, rfl⟩ hd
      · rfl
    rw [e] at h
    exact cr_pAny hc pins s σ H vs us Q I rv ⟨W, S, ds, g, r, h⟩
end
end Ev
namespace Bd
open PySem L2 Ev
def b_more_rows (cal : Nat → List D → M D) : MS :=
    (sSeq (sExpr (eCal (cal 23) (aCons (eVar 0) aNil)))
    (sSeq (sAsg (eLst (aCons (eTup aNil) aNil)) (gNm 1))
    (sSeq (sFor (iR1 (aCons (eFld ok_width "width" (eVar 0)) aNil)) (gNm 2) (sAsg (eLc2 newL (iAny (eVar 1)) (uNm 3) tYesM (iAny (eTup (aCons (eC (.int 0)) (aCons (eC (.int 1)) aNil)))) (uNm 4) tYesM (eTup (aStar (eVar 3) (aCons (eVar 4) aNil))) [3, 4] [4]) (gNm 1)))
    (sRet (eCallV (pLen) (aCons (eLc newL (iAny (eVar 1)) (uNm 3) (tAndM (fun δ => tru ((eCallV pAnyT (aCons (eVar 3) aNil)) δ)) (fun δ => tru ((eCal (cal 157) (aCons (eFld ok_rows "rows" (eVar 0)) (aCons (eVar 3) aNil))) δ))) (eVar 3) [3]) aNil))))))
def b_may_add (cal : Nat → List D → M D) : MS :=
    (sSeq (sExpr (eCal (cal 23) (aCons (eVar 0) aNil)))
    (sSeq (sExpr (eCal (cal 158) (aCons (eVar 0) (aCons (eVar 1) aNil))))
    (sRet (eCal (cal 157) (aCons (eFld ok_rows "rows" (eVar 0)) (aCons (eVar 1) aNil))))))
def b_adds_none (cal : Nat → List D → M D) : MS :=
    (sRet (eOp pEq (eCallV (pLen) (aCons (eCal (cal 53) (aCons (eLst (aStar (eVar 0) (aCons (eVar 1) aNil))) aNil)) aNil)) (eCallV (pLen) (aCons (eCal (cal 53) (aCons (eVar 0) aNil)) aNil))))
def b_check_digits (cal : Nat → List D → M D) : MS :=
    (sIf (tOrM (tNotM (fun δ => tru ((eCal (cal 159) (aCons (eVar 1) (aCons (eFld ok_width "width" (eVar 0)) (aCons (eC (.int 0)) (aCons (eC (.int 1)) aNil))))) δ))) (fun δ => asB (eOp pNotIn (eC (.int 1)) (eVar 1) δ))) (fun _ _ => .bad) sNext)
def b_are_numbers (cal : Nat → List D → M D) : MS :=
    (sSeq (sIf (tOrM (tNotM (fun δ => tru ((eIsi (isiT isi) (.blt "tuple") (eVar 0)) δ))) (fun δ => asB (eOp pNe (eCallV (pLen) (aCons (eVar 0) aNil)) (eVar 1) δ))) (sRet (eC (.bl false))) sNext)
    (sRet (eCallV (pAll true) (aCons (eLc newL (iAny (eVar 0)) (uNm 4) tYesM (eCal (cal 41) (aCons (eVar 4) (aCons (eVar 2) (aCons (eVar 3) aNil)))) [4]) aNil))))
end Bd
namespace Rt
open PySem PySem.W PyProof.Rows L2 Ev Bd Sp Wp Rg
local macro_rules | `(tactic| walk_at "wp1e") => `(tactic| first | with_reducible refine we_c ?_ | with_reducible refine we_op ?_ | with_reducible refine we_un ?_ | with_reducible refine we_callV ?_ | with_reducible refine we_cons ?_ | with_reducible refine we_nil ?_ | with_reducible refine we_asB ?_ | with_reducible refine we_tru ?_ | with_reducible refine we_and ?_ | with_reducible refine we_or ?_ | with_reducible refine we_not ?_ | with_reducible refine we_if ?_ | with_reducible refine wt_and ?_ | with_reducible refine wt_or ?_ | with_reducible refine wt_not ?_ | with_reducible refine wt_yes ?_ | with_reducible refine we_chain ?_ | with_reducible refine we_fld ?_ | with_reducible refine we_isi ?_ | with_reducible refine we_mb ?_ | with_reducible refine we_frz ?_ | with_reducible refine we_cut ?_ | with_reducible refine we_oN ?_ | with_reducible refine we_oS ?_ | with_reducible refine we_any ?_ | with_reducible refine we_star ?_ | with_reducible refine we_lc ?_ | with_reducible refine we_R1 ?_ | with_reducible refine we_R2 ?_ | with_reducible refine we_rg ?_ | with_reducible refine we_enu ?_ | with_reducible refine we_zip ?_ | with_reducible refine we_tup ?_ | with_reducible refine we_lst ?_ | with_reducible refine we_lstC ?_ | with_reducible refine we_cal ?_ | with_reducible refine wg_nm ?_ | with_reducible refine wg_nl ?_ | with_reducible refine wg_cs ?_ | ((with_reducible refine wg_istp ?_); refine wg_tp rfl ?_) | with_reducible refine wg_sb ?_)
local macro_rules | `(tactic| walk_at "wp1s") => `(tactic| first | with_reducible refine ws_seq ?_ | with_reducible refine ws_next ?_ | with_reducible refine ws_cnt ?_ | with_reducible refine ws_brk ?_ | with_reducible refine ws_retN ?_ | with_reducible refine ws_ret ?_ | with_reducible refine ws_expr ?_ | with_reducible refine ws_if ?_ | with_reducible refine ws_asg ?_ | with_reducible refine ws_par2 ?_ | with_reducible refine ws_par3 ?_ | with_reducible refine ws_for ?_)
local macro_rules | `(tactic| walk_at "wp1") => `(tactic| first | walk_at "wp1e" | walk_at "wp1s")
local macro_rules | `(tactic| walk_at "noslf") => `(tactic| first | (intro h; cases h; done) | assumption | nofun)
local macro_rules | `(tactic| walk_at "wp2") => `(tactic| first | ((with_reducible refine we_isv ?_); refine we_var rfl (by walk_at "noslf") ?_) | with_reducible refine br_t ?_ | with_reducible refine br_f ?_ | refine ⟨_, rfl, br_t ?_⟩ | refine ⟨_, rfl, br_f ?_⟩)
local macro_rules | `(tactic| walk_at "wpx") => `(tactic| first | with_reducible refine x_bl ?_ | with_reducible refine t_bl ?_ | with_reducible refine t_lst ?_ | with_reducible refine t_tup ?_ | with_reducible refine t_int ?_ | with_reducible refine t_non ?_ | with_reducible refine a_lst ?_ | with_reducible refine a_tup ?_ | with_reducible refine s_lst ?_ | with_reducible refine s_tup ?_ | with_reducible refine br_not ?_ | with_reducible refine we_lft pAdd_ii ?_ | with_reducible refine we_lft pSub_ii ?_ | with_reducible refine we_lft pLt_ii ?_ | with_reducible refine we_lft pLe_ii ?_ | with_reducible refine we_lft pGt_ii ?_ | with_reducible refine we_lft pGe_ii ?_ | with_reducible refine we_lft pEq_ii ?_ | with_reducible refine we_lft pNe_ii ?_ | with_reducible refine we_lft len_lI ?_ | with_reducible refine we_lft len_tI ?_ | with_reducible refine we_lft len_rL ?_ | with_reducible refine we_lft len_rT ?_ | with_reducible refine we_lft len_lo ?_ | with_reducible refine we_lft pLen_lst ?_ | with_reducible refine we_lft pLen_tup ?_ | with_reducible refine we_lft pInt_i ?_ | with_reducible refine we_lft pInt_b ?_ | with_reducible refine we_lft all_ok ?_ | with_reducible refine we_lft any_ok ?_ | with_reducible refine we_lft sum_lI ?_ | with_reducible refine we_dT ?_ | with_reducible refine we_lft neg_i ?_ | with_reducible refine x_int ?_ | with_reducible refine len_nil2 ?_ | ((with_reducible refine len_isl ?_); refine len_lit rfl ?_))
local macro_rules | `(tactic| walk_at "wsa") => `(tactic| (with_reducible refine ws_seq ?_; with_reducible refine ws_asg ?_))
local macro_rules | `(tactic| walk_at "wsi") => `(tactic| (with_reducible refine ws_seq ?_; with_reducible refine ws_if ?_))
local macro_rules | `(tactic| walk_at "wsf") => `(tactic| (with_reducible refine ws_seq ?_; with_reducible refine ws_for ?_))
local macro_rules | `(tactic| walk_at "wsn") => `(tactic| with_reducible refine ws_next ?_)
local macro_rules | `(tactic| walk_at "wpe") => `(tactic| repeat (first | walk_at "wp1e" | walk_at "wp2" | walk_at "wpx"))
local macro_rules | `(tactic| walk_at "wps") => `(tactic| repeat (first | walk_at "wp1" | walk_at "wp2" | walk_at "wpx"))
theorem val_app {R : Rw} {d : List Int} {j k : Int} (j0 : 0 ≤ j) (j1 : j < R.length) : val (R ++ [d]) j k = val R j k := by
  have e : (R ++ [d]).getD j.toNat [] = R.getD j.toNat [] := by rw [List.getD_eq_getElem?_getD, List.getElem?_append_left (by omega), ← List.getD_eq_getElem?_getD]
  unfold val
  rw [e]
theorem law_more {h w : Nat} {R : Rw} {d : List Int} (hl : R.length = h) {q : Pq} (Q : LawR h w R q) : LawR (h + 1) w (R ++ [d]) q := by
  have e : pickT (rng h) q.1 = q.1 := by
    unfold pickT
    conv => rhs; rw [← List.map_id q.1]
    refine List.map_congr_left fun i hi => ?_
    have := Q.rg1 i hi
    rw [List.getD_eq_getElem?_getD, rng_at (show i.toNat < h by omega)]
    simp
    omega
  have key := (lawR_pick (T := rng h) (h := h + 1) (w := w) (R' := R) (R := R ++ [d]) (P := q.1) (J := q.2) rng_asc (fun x hx => by have := mem_rng.mp hx; omega) (fun j k j0 j1 => by
    rw [rng_length] at j1
    rw [List.getD_eq_getElem?_getD, rng_at (show j.toNat < h by omega), Option.getD_some, val_app (by omega) (by omega), Int.toNat_of_nonneg j0]) (fun x hx => by rw [rng_length]; exact Q.rg1 x hx) Q.asc1).mp (by rw [rng_length]; exact Q)
  rw [e] at key
  exact key
/-- the rings are the same just if they are as many -/
theorem same_iff {h w : Nat} {R : Rw} {d : List Int} (hl : R.length = h) : lawL (R ++ [d]) (h + 1) w = lawL R h w ↔ (lawL (R ++ [d]) (h + 1) w).length = (lawL R h w).length := by
  constructor
  · intro e; rw [e]
  · intro e
    have nd : ∀ {R : Rw} {h : Nat}, (lawL R h w).Nodup := fun {R h} => List.Pairwise.imp (fun h e => by subst e; exact ltQ_asymm h h) lawL_sorted
    have sub : ∀ q ∈ lawL R h w, q ∈ lawL (R ++ [d]) (h + 1) w := fun q hq => mem_lawL.mpr (law_more hl (mem_lawL.mp hq))
    have sup : ∀ q ∈ lawL (R ++ [d]) (h + 1) w, q ∈ lawL R h w := fun q hq => by
      apply Classical.byContradiction
      intro hn
      have := nodup_le (l := q :: lawL R h w) (m := lawL (R ++ [d]) (h + 1) w) (List.nodup_cons.mpr ⟨hn, nd⟩) fun x hx => by
        rcases List.mem_cons.mp hx with rfl | hx
        · exact hq
        · exact sub x hx
      simp at this
      omega
    have e1 := srtR_eq (L := lawL R h w) nd lawL_sorted fun q => ⟨sub q, sup q⟩
    have e2 := srtR_eq (L := lawL R h w) (M := lawL R h w) nd lawL_sorted fun q => Iff.rfl
    rw [← e1, e2]
/-- all rows of digits -/
def bits : Nat → Rw
  | 0 => [[]]
  | n + 1 => (bits n).flatMap fun d => [d ++ [0], d ++ [1]]
theorem mem_bits : ∀ {n : Nat} {d : List Int}, d ∈ bits n ↔ d.length = n ∧ ∀ i ∈ d, i = 0 ∨ i = 1
  | 0, d => by
    simp only [bits, List.mem_singleton]
    constructor
    · rintro rfl; simp
    · rintro ⟨h, _⟩; exact List.length_eq_zero_iff.mp h
  | n + 1, d => by
    simp only [bits, List.mem_flatMap]
    constructor
    · rintro ⟨e, he, hd⟩
      obtain ⟨h1, h2⟩ := mem_bits.mp he
      have : d = e ++ [0] ∨ d = e ++ [1] := by simpa using hd
      rcases this with rfl | rfl
      · refine ⟨by simp [h1], fun i hi => ?_⟩
        rcases List.mem_append.mp hi with hi | hi
        · exact h2 i hi
        · rw [List.mem_singleton.mp hi]; exact .inl rfl
      · refine ⟨by simp [h1], fun i hi => ?_⟩
        rcases List.mem_append.mp hi with hi | hi
        · exact h2 i hi
        · rw [List.mem_singleton.mp hi]; exact .inr rfl
    · rintro ⟨h1, h2⟩
      have hne : d ≠ [] := by rintro rfl; simp at h1
      have ed := List.dropLast_concat_getLast hne
      refine ⟨d.dropLast, mem_bits.mpr ⟨by simp [h1], fun i hi => h2 i (List.dropLast_subset d hi)⟩, ?_⟩
      rcases h2 (d.getLast hne) (List.getLast_mem hne) with e | e
      · rw [e] at ed; rw [← ed]; simp
      · rw [e] at ed; rw [← ed]; simp
theorem bits_len : ∀ n, (bits n).length = 2 ^ n
  | 0 => rfl
  | n + 1 => by
    have key : ∀ L : Rw, (L.flatMap fun d => [d ++ [0], d ++ [(1 : Int)]]).length = 2 * L.length := fun L => by
      induction L with
      | nil => rfl
      | cons a L ih => rw [List.flatMap_cons, List.length_append, ih]; simp; omega
    rw [bits, key, bits_len n, Nat.pow_succ]; omega
/-- the law's -/
def bitsL : Nat → Rw
  | 0 => [[]]
  | n + 1 => (bitsL n).map (· ++ [0]) ++ (bitsL n).map (· ++ [1])
theorem mem_bitsL : ∀ {n : Nat} {d : List Int}, d ∈ bitsL n ↔ d ∈ bits n
  | 0, d => Iff.rfl
  | n + 1, d => by
    simp only [bitsL, bits, List.mem_append, List.mem_map, List.mem_flatMap]
    constructor
    · rintro (⟨e, he, rfl⟩ | ⟨e, he, rfl⟩)
      · exact ⟨e, mem_bitsL.mp he, by simp⟩
      · exact ⟨e, mem_bitsL.mp he, by simp⟩
    · rintro ⟨e, he, hd⟩
      have : d = e ++ [0] ∨ d = e ++ [1] := by simpa using hd
      rcases this with rfl | rfl
      · exact .inl ⟨e, mem_bitsL.mpr he, rfl⟩
      · exact .inr ⟨e, mem_bitsL.mpr he, rfl⟩
theorem bitsL_len : ∀ n, (bitsL n).length = 2 ^ n
  | 0 => rfl
  | n + 1 => by rw [bitsL, List.length_append, List.length_map, List.length_map, bitsL_len n, Nat.pow_succ]; omega
theorem snoc_ne {a b : List Int} {x y : Int} (h : a ≠ b ∨ x ≠ y) : a ++ [x] ≠ b ++ [y] := fun e => by
  obtain ⟨e1, e2⟩ := List.append_inj' e rfl
  simp at e2
  rcases h with h | h
  · exact h e1
  · exact h e2
theorem bitsL_nodup : ∀ n, (bitsL n).Nodup
  | 0 => by simp [bitsL]
  | n + 1 => by
    have ih := bitsL_nodup n
    have mp : ∀ x : Int, ((bitsL n).map (· ++ [x])).Nodup := fun x => by
      rw [List.Nodup, List.pairwise_map]
      exact List.Pairwise.imp (fun h => snoc_ne (.inl h)) ih
    rw [bitsL, List.nodup_append]
    refine ⟨mp 0, mp 1, fun a ha b hb e => ?_⟩
    obtain ⟨a', _, rfl⟩ := List.mem_map.mp ha
    obtain ⟨b', _, rfl⟩ := List.mem_map.mp hb
    exact snoc_ne (.inr (by omega)) e
theorem bits_nodup : ∀ n, (bits n).Nodup
  | 0 => by simp [bits]
  | n + 1 => by
    have key : ∀ L : Rw, L.Nodup → (L.flatMap fun d => [d ++ [0], d ++ [(1 : Int)]]).Nodup := fun L => by
      induction L with
      | nil => intro _; simp
      | cons a L ih =>
        intro nd
        obtain ⟨n1, n2⟩ := List.nodup_cons.mp nd
        rw [List.flatMap_cons, List.nodup_append]
        refine ⟨?_, ih n2, fun x hx y hy e => ?_⟩
        · simp
        · obtain ⟨b, hb, hy⟩ := List.mem_flatMap.mp hy
          have hab : a ≠ b := by rintro rfl; exact n1 hb
          have hx : x = a ++ [0] ∨ x = a ++ [1] := by simpa using hx
          have hy : y = b ++ [0] ∨ y = b ++ [1] := by simpa using hy
          rcases hx with rfl | rfl <;> rcases hy with rfl | rfl <;> exact snoc_ne (.inl hab) e
    exact key _ (bits_nodup n)
theorem bits_perm (n : Nat) : (bitsL n).Perm (bits n) := (List.perm_ext_iff_of_nodup (bitsL_nodup n) (bits_nodup n)).mpr fun d => mem_bitsL
section
variable {cal : Nat → List D → M D} {S : Store}
/-- a comprehension with what is there already -/
theorem we_loopCa {up : UpD} {mt : MT} {me : ME} {δ0 : En} {ds acc0 : List D} (I : Nat → List D → Store → Prop) (step : ∀ (k : Nat) (hk : k < ds.length) acc S, I k acc S → ∃ us, up ds[k] = some us ∧ WE (mt (setsD δ0 us)) S fun b S1 => Br b (WE (me (setsD δ0 us)) S1 fun y S2 => acc.length < sizeLine ∧ I (k + 1) (acc ++ [y]) S2) (I (k + 1) acc S1)) (h0 : I 0 acc0 S) : WE (loopC up mt me δ0 ds acc0) S (I ds.length) := by
  have key : ∀ (n k : Nat), k + n = ds.length → ∀ acc S, I k acc S → WE (loopC up mt me δ0 (ds.drop k) acc) S (I ds.length) := by
    intro n
    induction n with
    | zero =>
      intro k hk acc S h
      rw [List.drop_of_length_le (by omega)]
      have : k = ds.length := by omega
      subst this
      exact ⟨acc, S, rfl, h⟩
    | succ n ih =>
      intro k hk acc S h
      have hlt : k < ds.length := by omega
      rw [List.drop_eq_getElem_cons hlt]
      obtain ⟨us, e0, b, S1, e1, q⟩ := step k hlt acc S h
      cases b with
      | false =>
        obtain ⟨zs, S3, e3, q3⟩ := ih (k + 1) (by omega) acc S1 (q.2 rfl)
        exact ⟨zs, S3, by simp only [loopC, e0, M.bind, noX, e1, e3], q3⟩
      | true =>
        obtain ⟨y, S2, e2, hl, q2⟩ := q.1 rfl
        obtain ⟨zs, S3, e3, q3⟩ := ih (k + 1) (by omega) (acc ++ [y]) S2 q2
        exact ⟨zs, S3, by simp only [loopC, e0, M.bind, noX, e1, e2, hl, if_true, e3], q3⟩
  have := key ds.length 0 (by omega) acc0 S h0
  rwa [List.drop_zero] at this
theorem we_loopC2 {up up1 : UpD} {mt mt1 : MT} {mi1 : MA} {me : ME} {vs1 : List Nat} {δ0 : En} {ds : List D} (I : Nat → List D → Store → Prop) (step : ∀ (k : Nat) (hk : k < ds.length) acc S, I k acc S → ∃ us, up ds[k] = some us ∧ WE (mt (setsD δ0 us)) S fun b S1 => Br b (WE (mi1 (setsD δ0 us)) S1 fun ds1 S2 => WE (loopC up1 mt1 me (wipeD (setsD δ0 us) vs1) ds1 acc) S2 (I (k + 1))) (I (k + 1) acc S1)) (h0 : I 0 [] S) : WE (loopC2 up mt mi1 up1 mt1 me vs1 δ0 ds []) S (I ds.length) := by
  have key : ∀ (n k : Nat), k + n = ds.length → ∀ acc S, I k acc S → WE (loopC2 up mt mi1 up1 mt1 me vs1 δ0 (ds.drop k) acc) S (I ds.length) := by
    intro n
    induction n with
    | zero =>
      intro k hk acc S h
      rw [List.drop_of_length_le (by omega)]
      have : k = ds.length := by omega
      subst this
      exact ⟨acc, S, rfl, h⟩
    | succ n ih =>
      intro k hk acc S h
      have hlt : k < ds.length := by omega
      rw [List.drop_eq_getElem_cons hlt]
      obtain ⟨us, e0, b, S1, e1, q⟩ := step k hlt acc S h
      cases b with
      | false =>
        obtain ⟨zs, S3, e3, q3⟩ := ih (k + 1) (by omega) acc S1 (q.2 rfl)
        exact ⟨zs, S3, by simp only [loopC2, e0, M.bind, noX, e1, e3], q3⟩
      | true =>
        obtain ⟨ds1, S2, e2, acc2, S3, e3, q2⟩ := q.1 rfl
        obtain ⟨zs, S4, e4, q4⟩ := ih (k + 1) (by omega) acc2 S3 q2
        exact ⟨zs, S4, by simp only [loopC2, e0, M.bind, noX, e1, e2, e3, e4], q4⟩
  have := key ds.length 0 (by omega) [] S h0
  rwa [List.drop_zero] at this
theorem we_lc2 {fin : List D → PO} {mi mi1 : MA} {up up1 : UpD} {mt mt1 : MT} {me : ME} {vs vs1 : List Nat} {δ : En} {Q : D → Store → Prop} (h : WE (mi δ) S fun ds S1 => WE (loopC2 up mt mi1 up1 mt1 me vs1 (wipeD δ vs) ds []) S1 fun ys S2 => WE (lft (fin ys)) S2 Q) : WE (eLc2 fin mi up mt mi1 up1 mt1 me vs vs1 δ) S Q := we_bind (we_imp h fun _ _ h => we_bind h)
theorem adds_ev {h w : Nat} {R : Rw} {d : List Int} (hR : R.length ≤ 1000) (h1 : ∀ S, ∃ S', cal 53 [lotsL (R ++ [d])] S = .ok (.lst ((lawL (R ++ [d]) (h + 1) w).map ringD)) S' ∧ Keep S S') (h2 : ∀ S, ∃ S', cal 53 [rowsT R] S = .ok (.lst ((lawL R h w).map ringD)) S' ∧ Keep S S') : ∃ S', funM 2 2 (b_adds_none cal) [rowsT R, Sp.tI d] S = .ok (.bl (decide ((lawL (R ++ [d]) (h + 1) w).length = (lawL R h w).length))) S' ∧ Keep S S' := by
  have key : WE (funM 2 2 (b_adds_none cal) [rowsT R, Sp.tI d]) S fun x S' => x = .bl (decide ((lawL (R ++ [d]) (h + 1) w).length = (lawL R h w).length)) ∧ Keep S S' := by
    unfold b_adds_none
    refine we_fun rfl ?_
    show WS (sRet _ [some (rowsT R), some (Sp.tI d)] S) _
    with_reducible refine ws_ret ?_
    with_reducible refine we_op ?_
    with_reducible refine we_callV ?_
    with_reducible refine we_cons ?_
    with_reducible refine we_cal ?_
    with_reducible refine we_cons ?_
    with_reducible refine we_lst ?_
    with_reducible refine we_star ?_
    refine we_var rfl (by walk_at "noslf") ?_
    refine ⟨_, rfl, ?_⟩
    with_reducible refine we_cons ?_
    refine we_var rfl (by walk_at "noslf") ?_
    with_reducible refine we_nil ?_
    refine ⟨small (by rw [List.length_append, List.length_map]; simp; omega), ?_⟩
    with_reducible refine we_nil ?_
    rw [show R.map Sp.tI ++ [Sp.tI d] = (R ++ [d]).map Sp.tI by simp]
    obtain ⟨S1, e1, k1⟩ := h1 S
    refine we_ok e1 ?_
    with_reducible refine we_nil ?_
    refine we_lft pLen_lst ?_
    with_reducible refine we_callV ?_
    with_reducible refine we_cons ?_
    with_reducible refine we_cal ?_
    with_reducible refine we_cons ?_
    refine we_var rfl (by walk_at "noslf") ?_
    with_reducible refine we_nil ?_
    obtain ⟨S2, e2, k2⟩ := h2 S1
    refine we_ok e2 ?_
    with_reducible refine we_nil ?_
    refine we_lft pLen_lst ?_
    refine we_lft pEq_ii ?_
    refine ⟨?_, k1.trans k2⟩
    rw [List.length_map, List.length_map]
    refine congrArg D.bl ?_
    generalize (lawL (R ++ [d]) (h + 1) w).length = a
    generalize (lawL R h w).length = b
    rw [Bool.eq_iff_iff, beq_iff_eq, decide_eq_true_eq]
    omega
  obtain ⟨x, S', e, rfl, k⟩ := key
  exact ⟨S', e, k⟩
theorem more_ev {h w : Nat} {R : Rw} {p : List Int → Bool} (w8 : w ≤ 8) (h1 : ∀ S, cal 23 [tabD h w R] S = .ok .non S) (h2 : ∀ d S, d ∈ bits w → (1 : Int) ∈ d → ∃ S', cal 157 [rowsT R, Sp.tI d] S = .ok (.bl (p d)) S' ∧ Keep S S') : ∃ S', funM 5 1 (b_more_rows cal) [tabD h w R] S = .ok (.int (((bits w).filter fun d => decide ((1 : Int) ∈ d) && p d).length : Nat)) S' ∧ Keep S S' := by
  have bl : ∀ k, k ≤ 8 → (bits k).length ≤ 256 := fun k hk => by rw [bits_len]; exact Nat.le_trans (Nat.pow_le_pow_right (by omega) hk) (by decide)
  have key : WE (funM 5 1 (b_more_rows cal) [tabD h w R]) S fun x S' => x = .int (((bits w).filter fun d => decide ((1 : Int) ∈ d) && p d).length : Nat) ∧ Keep S S' := by
    unfold b_more_rows
    refine we_fun rfl ?_
    show WS (sSeq _ _ [some (tabD h w R), none, none, none, none] S) _
    with_reducible refine ws_seq ?_
    with_reducible refine ws_expr ?_
    walk_at "wpe"
    refine we_ok (h1 S) ?_
    walk_at "wsa"
    with_reducible refine we_lst ?_
    with_reducible refine we_cons ?_
    with_reducible refine we_tup ?_
    with_reducible refine we_nil ?_
    refine len_nil2 ?_
    with_reducible refine we_nil ?_
    refine len_lit rfl ?_
    refine wg_nm ?_
    walk_at "wsf"
    walk_at "wpe"
    refine ⟨_, _, _, rfl, rfl, rfl, ?_⟩
    walk_at "wpe"
    refine ⟨w, rfl, by omega, ?_⟩
    refine ws_loop (fun k δ S' => (∃ o2, δ = ([some (tabD h w R), some (lotsL (bits k)), o2, none, none] : En)) ∧ S' = S) ?_ ?_ ⟨⟨_, rfl⟩, rfl⟩
    · rintro k hk δ S' ⟨⟨o2, rfl⟩, hS'⟩
      subst hS'
      rw [rng_len] at hk
      refine wg_nm ?_
      with_reducible refine ws_asg ?_
      refine we_lc2 ?_
      walk_at "wpe"
      have hb := bl k (by omega)
      have hb1 := bl (k + 1) (by omega)
      refine we_imp (we_loopC2 (fun j acc S2 => acc = ((((bits k).take j).flatMap fun d => [d ++ [0], d ++ [(1 : Int)]]).map Sp.tI) ∧ S2 = S') ?_ ⟨by simp, rfl⟩) ?_
      · rintro j hj acc S2 ⟨rfl, hS2⟩
        subst hS2
        have hj' : j < (bits k).length := by simpa using hj
        rw [List.getElem_map]
        have hd := mem_bits.mp (List.getElem_mem hj')
        have et : (bits k).take (j + 1) = (bits k).take j ++ [(bits k)[j]] := (List.take_append_getElem hj').symm
        have fl : ∀ L : Rw, (L.flatMap fun d => [d ++ [0], d ++ [(1 : Int)]]).length = 2 * L.length := fun L => by
          induction L with
          | nil => rfl
          | cons a L ih => rw [List.flatMap_cons, List.length_append, ih]; simp; omega
        have hle : (((bits k).take j).flatMap fun d => [d ++ [0], d ++ [(1 : Int)]]).length + 2 ≤ 256 := by
          have h4 : (bits (k + 1)).length = 2 * (bits k).length := fl (bits k)
          rw [fl, List.length_take]
          omega
        rw [et, List.flatMap_append]
        generalize (bits k)[j] = d at hd
        generalize (((bits k).take j).flatMap fun d => [d ++ [0], d ++ [(1 : Int)]]) = P at hle
        refine ⟨_, rfl, ?_⟩
        with_reducible refine wt_yes ?_
        refine br_t ?_
        walk_at "wpe"
        show WE (loopC _ _ _ _ ([0, 1].map D.int) (P.map Sp.tI)) S2 _
        refine we_imp (we_loopCa (S := S2) (fun m acc S3 => acc = (P ++ (([0, 1] : List Int).take m).map fun x => d ++ [x]).map Sp.tI ∧ S3 = S2) ?_ ⟨by simp, rfl⟩) ?_
        · rintro m hm acc S3 ⟨rfl, hS3⟩
          subst hS3
          have hm' : m < ([0, 1] : List Int).length := by simpa using hm
          rw [List.getElem_map]
          have em : ([0, 1] : List Int).take (m + 1) = ([0, 1] : List Int).take m ++ [([0, 1] : List Int)[m]] := (List.take_append_getElem hm').symm
          have e9 : P ++ (([0, 1] : List Int).take (m + 1)).map (fun x => d ++ [x]) = (P ++ (([0, 1] : List Int).take m).map fun x => d ++ [x]) ++ [d ++ [([0, 1] : List Int)[m]]] := by rw [em, List.map_append, ← List.append_assoc]; rfl
          rw [e9]
          generalize ([0, 1] : List Int)[m] = x
          have hml : (([0, 1] : List Int).take m).length < 2 := by rw [List.length_take]; simp at hm' ⊢; omega
          refine ⟨_, rfl, ?_⟩
          with_reducible refine wt_yes ?_
          refine br_t ?_
          walk_at "wpe"
          refine ⟨small (by rw [List.length_append, iD_len]; simp; omega), ?_, ?_, rfl⟩
          · refine Nat.lt_of_lt_of_le (show _ < 1000000 by rw [List.length_map, List.length_append, List.length_map]; omega) (small (Nat.le_refl _))
          · rw [List.map_append (l₁ := P ++ _)]
            refine congrArg _ ?_
            show [D.tup (iD d ++ [.int x])] = [Sp.tI (d ++ [x])]
            rw [Sp.tI, iD_app]
            rfl
        · rintro acc S3 ⟨rfl, rfl⟩
          exact ⟨by simp, rfl⟩
      · rintro acc S2 ⟨rfl, hS2⟩
        subst hS2
        rw [List.length_map, List.take_length]
        refine we_newL (by rw [List.length_map]; exact small (by rw [show ((bits k).flatMap fun d => [d ++ [0], d ++ [(1 : Int)]]) = bits (k + 1) from rfl]; omega)) ?_
        refine wg_nm ?_
        exact ⟨⟨_, rfl⟩, rfl⟩
    · rintro δ S' ⟨⟨o2, rfl⟩, hS'⟩
      subst hS'
      rw [rng_len]
      have hb := bl w w8
      with_reducible refine ws_ret ?_
      walk_at "wpe"
      refine we_imp (we_loopC (fun k acc S2 => acc = (((bits w).take k).filter fun d => decide ((1 : Int) ∈ d) && p d).map Sp.tI ∧ Keep S' S2) ?_ ⟨by simp, Keep.refl⟩) ?_
      · rintro k hk acc S2 ⟨rfl, kp⟩
        have hk' : k < (bits w).length := by simpa using hk
        rw [List.getElem_map]
        have hm : (bits w)[k] ∈ bits w := List.getElem_mem hk'
        have hd := mem_bits.mp hm
        have et : (bits w).take (k + 1) = (bits w).take k ++ [(bits w)[k]] := (List.take_append_getElem hk').symm
        rw [et, List.filter_append]
        generalize (bits w)[k] = d at hd hm
        have hle : (((bits w).take k).filter fun d => decide ((1 : Int) ∈ d) && p d).length ≤ 256 := by
          refine Nat.le_trans (List.length_filter_le ..) ?_
          rw [List.length_take]; omega
        have any1 : d.any (· != 0) = decide ((1 : Int) ∈ d) := by
          rw [Bool.eq_iff_iff, List.any_eq_true, decide_eq_true_eq]
          constructor
          · rintro ⟨x, hx, h0⟩
            rcases hd.2 x hx with rfl | rfl
            · simp at h0
            · exact hx
          · intro h1; exact ⟨1, h1, rfl⟩
        refine ⟨_, rfl, ?_⟩
        with_reducible refine wt_and ?_
        with_reducible refine we_tru ?_
        with_reducible refine we_callV ?_
        walk_at "wpe"
        refine we_lft (z := .bl (decide ((1 : Int) ∈ d))) (S1 := S2) (by simp only [pAnyT, ints_iD, Option.map_some, any1]) ?_
        walk_at "wpe"
        refine br_dec (fun h1' => ?_) fun h1' => ?_
        · walk_at "wpe"
          refine ⟨_, _, _, rfl, rfl, rfl, ?_⟩
          walk_at "wpe"
          obtain ⟨S3, e3, k3⟩ := h2 d S2 hm h1'
          refine we_ok e3 ?_
          walk_at "wpe"
          cases hp : p d with
          | true =>
            refine br_t ?_
            walk_at "wpe"
            refine ⟨Nat.lt_of_lt_of_le (show _ < 1000000 by rw [List.length_map]; omega) (small (Nat.le_refl _)), ?_, kp.trans k3⟩
            rw [show [d].filter (fun d => decide ((1 : Int) ∈ d) && p d) = [d] by simp [h1', hp]]
            simp
          | false =>
            refine br_f ?_
            refine ⟨?_, kp.trans k3⟩
            rw [show [d].filter (fun d => decide ((1 : Int) ∈ d) && p d) = [] by simp [hp]]
            simp
        · refine br_f ⟨?_, kp⟩
          rw [show [d].filter (fun d => decide ((1 : Int) ∈ d) && p d) = [] by simp [h1']]
          simp
      · rintro acc S2 ⟨rfl, kp⟩
        rw [List.length_map, List.take_length]
        have hf := List.length_filter_le (fun d => decide ((1 : Int) ∈ d) && p d) (bits w)
        refine we_newL (by rw [List.length_map]; exact small (by omega)) ?_
        walk_at "wpe"
        exact ⟨rfl, kp⟩
  obtain ⟨x, S', e, rfl, k⟩ := key
  exact ⟨S', e, k⟩
end
end Rt
namespace Pp
open PySem PySem.W PyProof.Rows L2 Ev Bd Sp Wp Rg
local macro_rules | `(tactic| walk_at "wp1e") => `(tactic| first | with_reducible refine we_c ?_ | with_reducible refine we_op ?_ | with_reducible refine we_un ?_ | with_reducible refine we_callV ?_ | with_reducible refine we_cons ?_ | with_reducible refine we_nil ?_ | with_reducible refine we_asB ?_ | with_reducible refine we_tru ?_ | with_reducible refine we_and ?_ | with_reducible refine we_or ?_ | with_reducible refine we_not ?_ | with_reducible refine we_if ?_ | with_reducible refine wt_and ?_ | with_reducible refine wt_or ?_ | with_reducible refine wt_not ?_ | with_reducible refine wt_yes ?_ | with_reducible refine we_chain ?_ | with_reducible refine we_fld ?_ | with_reducible refine we_isi ?_ | with_reducible refine we_mb ?_ | with_reducible refine we_frz ?_ | with_reducible refine we_cut ?_ | with_reducible refine we_oN ?_ | with_reducible refine we_oS ?_ | with_reducible refine we_any ?_ | with_reducible refine we_star ?_ | with_reducible refine we_lc ?_ | with_reducible refine we_R1 ?_ | with_reducible refine we_R2 ?_ | with_reducible refine we_rg ?_ | with_reducible refine we_enu ?_ | with_reducible refine we_zip ?_ | with_reducible refine we_tup ?_ | with_reducible refine we_lst ?_ | with_reducible refine we_lstC ?_ | with_reducible refine we_cal ?_ | with_reducible refine wg_nm ?_ | with_reducible refine wg_nl ?_ | with_reducible refine wg_cs ?_ | ((with_reducible refine wg_istp ?_); refine wg_tp rfl ?_) | with_reducible refine wg_sb ?_)
local macro_rules | `(tactic| walk_at "wp1s") => `(tactic| first | with_reducible refine ws_seq ?_ | with_reducible refine ws_next ?_ | with_reducible refine ws_cnt ?_ | with_reducible refine ws_brk ?_ | with_reducible refine ws_retN ?_ | with_reducible refine ws_ret ?_ | with_reducible refine ws_expr ?_ | with_reducible refine ws_if ?_ | with_reducible refine ws_asg ?_ | with_reducible refine ws_par2 ?_ | with_reducible refine ws_par3 ?_ | with_reducible refine ws_for ?_)
local macro_rules | `(tactic| walk_at "wp1") => `(tactic| first | walk_at "wp1e" | walk_at "wp1s")
local macro_rules | `(tactic| walk_at "noslf") => `(tactic| first | (intro h; cases h; done) | assumption | nofun)
local macro_rules | `(tactic| walk_at "wp2") => `(tactic| first | ((with_reducible refine we_isv ?_); refine we_var rfl (by walk_at "noslf") ?_) | with_reducible refine br_t ?_ | with_reducible refine br_f ?_ | refine ⟨_, rfl, br_t ?_⟩ | refine ⟨_, rfl, br_f ?_⟩)
local macro_rules | `(tactic| walk_at "wpx") => `(tactic| first | with_reducible refine x_bl ?_ | with_reducible refine t_bl ?_ | with_reducible refine t_lst ?_ | with_reducible refine t_tup ?_ | with_reducible refine t_int ?_ | with_reducible refine t_non ?_ | with_reducible refine a_lst ?_ | with_reducible refine a_tup ?_ | with_reducible refine s_lst ?_ | with_reducible refine s_tup ?_ | with_reducible refine br_not ?_ | with_reducible refine we_lft pAdd_ii ?_ | with_reducible refine we_lft pSub_ii ?_ | with_reducible refine we_lft pLt_ii ?_ | with_reducible refine we_lft pLe_ii ?_ | with_reducible refine we_lft pGt_ii ?_ | with_reducible refine we_lft pGe_ii ?_ | with_reducible refine we_lft pEq_ii ?_ | with_reducible refine we_lft pNe_ii ?_ | with_reducible refine we_lft len_lI ?_ | with_reducible refine we_lft len_tI ?_ | with_reducible refine we_lft len_rL ?_ | with_reducible refine we_lft len_rT ?_ | with_reducible refine we_lft len_lo ?_ | with_reducible refine we_lft pLen_lst ?_ | with_reducible refine we_lft pLen_tup ?_ | with_reducible refine we_lft pInt_i ?_ | with_reducible refine we_lft pInt_b ?_ | with_reducible refine we_lft all_ok ?_ | with_reducible refine we_lft any_ok ?_ | with_reducible refine we_lft sum_lI ?_ | with_reducible refine we_dT ?_ | with_reducible refine we_lft neg_i ?_ | with_reducible refine x_int ?_ | with_reducible refine len_nil2 ?_ | ((with_reducible refine len_isl ?_); refine len_lit rfl ?_))
local macro_rules | `(tactic| walk_at "wsa") => `(tactic| (with_reducible refine ws_seq ?_; with_reducible refine ws_asg ?_))
local macro_rules | `(tactic| walk_at "wsi") => `(tactic| (with_reducible refine ws_seq ?_; with_reducible refine ws_if ?_))
local macro_rules | `(tactic| walk_at "wsf") => `(tactic| (with_reducible refine ws_seq ?_; with_reducible refine ws_for ?_))
local macro_rules | `(tactic| walk_at "wsn") => `(tactic| with_reducible refine ws_next ?_)
local macro_rules | `(tactic| walk_at "wpe") => `(tactic| repeat (first | walk_at "wp1e" | walk_at "wp2" | walk_at "wpx"))
local macro_rules | `(tactic| walk_at "wps") => `(tactic| repeat (first | walk_at "wp1" | walk_at "wp2" | walk_at "wpx"))
theorem max_lI {ns : List Int} {S : Store} (h : ns ≠ []) : pMax [lI ns] S = some (.int (maxL ns), S) := by simp [pMax, lstOf, ints_iD, h]
def bestC (m : Int) (C : Rw) (ps : List Int) : Rw := C.filter fun l => tot ps l == m
section
variable {cal : Nat → List D → M D} {S : Store}
end
def covC (w : Nat) (R : Rw) : Rw := lotsG (fun x => decide (x > 0)) w R
def pckC (w : Nat) (R : Rw) : Rw := lotsG (fun x => decide (x < 2)) w R
end Pp
namespace Bd
open PySem L2 Ev
end Bd
namespace Ba
open PySem PySem.W L2 Ev Bd Sp Rg Wp
local macro_rules | `(tactic| walk_at "wp1e") => `(tactic| first | with_reducible refine we_c ?_ | with_reducible refine we_op ?_ | with_reducible refine we_un ?_ | with_reducible refine we_callV ?_ | with_reducible refine we_cons ?_ | with_reducible refine we_nil ?_ | with_reducible refine we_asB ?_ | with_reducible refine we_tru ?_ | with_reducible refine we_and ?_ | with_reducible refine we_or ?_ | with_reducible refine we_not ?_ | with_reducible refine we_if ?_ | with_reducible refine wt_and ?_ | with_reducible refine wt_or ?_ | with_reducible refine wt_not ?_ | with_reducible refine wt_yes ?_ | with_reducible refine we_chain ?_ | with_reducible refine we_fld ?_ | with_reducible refine we_isi ?_ | with_reducible refine we_mb ?_ | with_reducible refine we_frz ?_ | with_reducible refine we_cut ?_ | with_reducible refine we_oN ?_ | with_reducible refine we_oS ?_ | with_reducible refine we_any ?_ | with_reducible refine we_star ?_ | with_reducible refine we_lc ?_ | with_reducible refine we_R1 ?_ | with_reducible refine we_R2 ?_ | with_reducible refine we_rg ?_ | with_reducible refine we_enu ?_ | with_reducible refine we_zip ?_ | with_reducible refine we_tup ?_ | with_reducible refine we_lst ?_ | with_reducible refine we_lstC ?_ | with_reducible refine we_cal ?_ | with_reducible refine wg_nm ?_ | with_reducible refine wg_nl ?_ | with_reducible refine wg_cs ?_ | ((with_reducible refine wg_istp ?_); refine wg_tp rfl ?_) | with_reducible refine wg_sb ?_)
local macro_rules | `(tactic| walk_at "wp1s") => `(tactic| first | with_reducible refine ws_seq ?_ | with_reducible refine ws_next ?_ | with_reducible refine ws_cnt ?_ | with_reducible refine ws_brk ?_ | with_reducible refine ws_retN ?_ | with_reducible refine ws_ret ?_ | with_reducible refine ws_expr ?_ | with_reducible refine ws_if ?_ | with_reducible refine ws_asg ?_ | with_reducible refine ws_par2 ?_ | with_reducible refine ws_par3 ?_ | with_reducible refine ws_for ?_)
local macro_rules | `(tactic| walk_at "wp1") => `(tactic| first | walk_at "wp1e" | walk_at "wp1s")
local macro_rules | `(tactic| walk_at "noslf") => `(tactic| first | (intro h; cases h; done) | assumption | nofun)
local macro_rules | `(tactic| walk_at "wp2") => `(tactic| first | ((with_reducible refine we_isv ?_); refine we_var rfl (by walk_at "noslf") ?_) | with_reducible refine br_t ?_ | with_reducible refine br_f ?_ | refine ⟨_, rfl, br_t ?_⟩ | refine ⟨_, rfl, br_f ?_⟩)
local macro_rules | `(tactic| walk_at "wpx") => `(tactic| first | with_reducible refine x_bl ?_ | with_reducible refine t_bl ?_ | with_reducible refine t_lst ?_ | with_reducible refine t_tup ?_ | with_reducible refine t_int ?_ | with_reducible refine t_non ?_ | with_reducible refine a_lst ?_ | with_reducible refine a_tup ?_ | with_reducible refine s_lst ?_ | with_reducible refine s_tup ?_ | with_reducible refine br_not ?_ | with_reducible refine we_lft pAdd_ii ?_ | with_reducible refine we_lft pSub_ii ?_ | with_reducible refine we_lft pLt_ii ?_ | with_reducible refine we_lft pLe_ii ?_ | with_reducible refine we_lft pGt_ii ?_ | with_reducible refine we_lft pGe_ii ?_ | with_reducible refine we_lft pEq_ii ?_ | with_reducible refine we_lft pNe_ii ?_ | with_reducible refine we_lft len_lI ?_ | with_reducible refine we_lft len_tI ?_ | with_reducible refine we_lft len_rL ?_ | with_reducible refine we_lft len_rT ?_ | with_reducible refine we_lft len_lo ?_ | with_reducible refine we_lft pLen_lst ?_ | with_reducible refine we_lft pLen_tup ?_ | with_reducible refine we_lft pInt_i ?_ | with_reducible refine we_lft pInt_b ?_ | with_reducible refine we_lft all_ok ?_ | with_reducible refine we_lft any_ok ?_ | with_reducible refine we_lft sum_lI ?_ | with_reducible refine we_dT ?_ | with_reducible refine we_lft neg_i ?_ | with_reducible refine x_int ?_ | with_reducible refine len_nil2 ?_ | ((with_reducible refine len_isl ?_); refine len_lit rfl ?_))
local macro_rules | `(tactic| walk_at "wsa") => `(tactic| (with_reducible refine ws_seq ?_; with_reducible refine ws_asg ?_))
local macro_rules | `(tactic| walk_at "wsi") => `(tactic| (with_reducible refine ws_seq ?_; with_reducible refine ws_if ?_))
local macro_rules | `(tactic| walk_at "wsf") => `(tactic| (with_reducible refine ws_seq ?_; with_reducible refine ws_for ?_))
local macro_rules | `(tactic| walk_at "wsn") => `(tactic| with_reducible refine ws_next ?_)
local macro_rules | `(tactic| walk_at "wpe") => `(tactic| repeat (first | walk_at "wp1e" | walk_at "wp2" | walk_at "wpx"))
local macro_rules | `(tactic| walk_at "wps") => `(tactic| repeat (first | walk_at "wp1" | walk_at "wp2" | walk_at "wpx"))
section
variable {cal : Nat → List D → M D} {S : Store}
noncomputable def badT (R : Rw) (w : Nat) : List Int := (badL R w).getD []
end
structure C50 (cal : Nat → List D → M D) : Prop where
  grid : GridF ReedJ (cal 51)
  full : ∀ (R : Rw) (most : Nat) S, Grid most R → most ≤ 8 → ∃ b, cal 50 [rowsL R] S = .ok (.bl b) S ∧ (b = true → ∃ h w, Full h w R ∧ h ≤ most ∧ w ≤ most)
  text : ∀ h w R S, Full h w R → cal 2 [rowsL R] S = .ok (.str (txt R)) S
  tab : ∀ h w R S, Full h w R → cal 1 [.str (txt R)] S = .ok (tabD h w R) S
  mine : ∀ h w R S, Full h w R → ∃ S', cal 49 [rowsL R] S = .ok (.lst ((lawL R h w).map ringD)) S' ∧ Keep S S'
  first : ∀ h w R S, Full h w R → w ≤ 6 → cal 109 [rowsL R] S = .ok (Sp.tI (badT R w)) S
  bad : ∀ h w R S, Full h w R → cal 108 [tabD h w R] S = .ok (encO (badL R w)) S
end Ba
namespace Pp
open PySem PySem.W PyProof.Rows L2 Ev Bd Sp Wp Rg
local macro_rules | `(tactic| walk_at "wp1e") => `(tactic| first | with_reducible refine we_c ?_ | with_reducible refine we_op ?_ | with_reducible refine we_un ?_ | with_reducible refine we_callV ?_ | with_reducible refine we_cons ?_ | with_reducible refine we_nil ?_ | with_reducible refine we_asB ?_ | with_reducible refine we_tru ?_ | with_reducible refine we_and ?_ | with_reducible refine we_or ?_ | with_reducible refine we_not ?_ | with_reducible refine we_if ?_ | with_reducible refine wt_and ?_ | with_reducible refine wt_or ?_ | with_reducible refine wt_not ?_ | with_reducible refine wt_yes ?_ | with_reducible refine we_chain ?_ | with_reducible refine we_fld ?_ | with_reducible refine we_isi ?_ | with_reducible refine we_mb ?_ | with_reducible refine we_frz ?_ | with_reducible refine we_cut ?_ | with_reducible refine we_oN ?_ | with_reducible refine we_oS ?_ | with_reducible refine we_any ?_ | with_reducible refine we_star ?_ | with_reducible refine we_lc ?_ | with_reducible refine we_R1 ?_ | with_reducible refine we_R2 ?_ | with_reducible refine we_rg ?_ | with_reducible refine we_enu ?_ | with_reducible refine we_zip ?_ | with_reducible refine we_tup ?_ | with_reducible refine we_lst ?_ | with_reducible refine we_lstC ?_ | with_reducible refine we_cal ?_ | with_reducible refine wg_nm ?_ | with_reducible refine wg_nl ?_ | with_reducible refine wg_cs ?_ | ((with_reducible refine wg_istp ?_); refine wg_tp rfl ?_) | with_reducible refine wg_sb ?_)
local macro_rules | `(tactic| walk_at "wp1s") => `(tactic| first | with_reducible refine ws_seq ?_ | with_reducible refine ws_next ?_ | with_reducible refine ws_cnt ?_ | with_reducible refine ws_brk ?_ | with_reducible refine ws_retN ?_ | with_reducible refine ws_ret ?_ | with_reducible refine ws_expr ?_ | with_reducible refine ws_if ?_ | with_reducible refine ws_asg ?_ | with_reducible refine ws_par2 ?_ | with_reducible refine ws_par3 ?_ | with_reducible refine ws_for ?_)
local macro_rules | `(tactic| walk_at "wp1") => `(tactic| first | walk_at "wp1e" | walk_at "wp1s")
local macro_rules | `(tactic| walk_at "noslf") => `(tactic| first | (intro h; cases h; done) | assumption | nofun)
local macro_rules | `(tactic| walk_at "wp2") => `(tactic| first | ((with_reducible refine we_isv ?_); refine we_var rfl (by walk_at "noslf") ?_) | with_reducible refine br_t ?_ | with_reducible refine br_f ?_ | refine ⟨_, rfl, br_t ?_⟩ | refine ⟨_, rfl, br_f ?_⟩)
local macro_rules | `(tactic| walk_at "wpx") => `(tactic| first | with_reducible refine x_bl ?_ | with_reducible refine t_bl ?_ | with_reducible refine t_lst ?_ | with_reducible refine t_tup ?_ | with_reducible refine t_int ?_ | with_reducible refine t_non ?_ | with_reducible refine a_lst ?_ | with_reducible refine a_tup ?_ | with_reducible refine s_lst ?_ | with_reducible refine s_tup ?_ | with_reducible refine br_not ?_ | with_reducible refine we_lft pAdd_ii ?_ | with_reducible refine we_lft pSub_ii ?_ | with_reducible refine we_lft pLt_ii ?_ | with_reducible refine we_lft pLe_ii ?_ | with_reducible refine we_lft pGt_ii ?_ | with_reducible refine we_lft pGe_ii ?_ | with_reducible refine we_lft pEq_ii ?_ | with_reducible refine we_lft pNe_ii ?_ | with_reducible refine we_lft len_lI ?_ | with_reducible refine we_lft len_tI ?_ | with_reducible refine we_lft len_rL ?_ | with_reducible refine we_lft len_rT ?_ | with_reducible refine we_lft len_lo ?_ | with_reducible refine we_lft pLen_lst ?_ | with_reducible refine we_lft pLen_tup ?_ | with_reducible refine we_lft pInt_i ?_ | with_reducible refine we_lft pInt_b ?_ | with_reducible refine we_lft all_ok ?_ | with_reducible refine we_lft any_ok ?_ | with_reducible refine we_lft sum_lI ?_ | with_reducible refine we_dT ?_ | with_reducible refine we_lft neg_i ?_ | with_reducible refine x_int ?_ | with_reducible refine len_nil2 ?_ | ((with_reducible refine len_isl ?_); refine len_lit rfl ?_))
local macro_rules | `(tactic| walk_at "wsa") => `(tactic| (with_reducible refine ws_seq ?_; with_reducible refine ws_asg ?_))
local macro_rules | `(tactic| walk_at "wsi") => `(tactic| (with_reducible refine ws_seq ?_; with_reducible refine ws_if ?_))
local macro_rules | `(tactic| walk_at "wsf") => `(tactic| (with_reducible refine ws_seq ?_; with_reducible refine ws_for ?_))
local macro_rules | `(tactic| walk_at "wsn") => `(tactic| with_reducible refine ws_next ?_)
local macro_rules | `(tactic| walk_at "wpe") => `(tactic| repeat (first | walk_at "wp1e" | walk_at "wp2" | walk_at "wpx"))
local macro_rules | `(tactic| walk_at "wps") => `(tactic| repeat (first | walk_at "wp1" | walk_at "wp2" | walk_at "wpx"))
/-- a drawn table -/
def GrP (J : JB) (most B t : Nat) (S : Store) (d : D) (S' : Store) : Prop := ∃ R h w, d = rowsL R ∧ Full h w R ∧ h ≤ most ∧ w ≤ most ∧ At (J B) t S' ∧ Fr t S S'
/-- what all laws by pipes want -/
structure PipeC (J : JB) (cal : Nat → List D → M D) : Prop where
  drip : DrwB J (cal 27)
  sheet : ∀ h w R S, Full h w R → cal 18 [rowsL R] S = .ok (.str (txt R)) S
  table : ∀ h w R S, Full h w R → cal 1 [.str (txt R)] S = .ok (tabD h w R) S
  prices : ∀ (B t w : Nat) (low : Int) (S : Store), At (J B) t S → B + 400 < 2 ^ 60 → w ≤ 8 → WE (cal 17 [.ref t, .int w, .int low]) S fun d S' => ∃ ps, d = Sp.tI ps ∧ ps.length = w ∧ (∀ p ∈ ps, -MOST ≤ p ∧ p ≤ MOST ∧ (0 ≤ low → 0 ≤ p)) ∧ At (J (B + 400)) t S' ∧ Fr t S S'
  total : ∀ (ps l : List Int) S, (∀ k ∈ l, 0 ≤ k ∧ k < ps.length) → l.length ≤ 8 → cal 15 [Sp.tI ps, Sp.tI l] S = .ok (.int (tot ps l)) S
structure C28 (J : JB) (cal : Nat → List D → M D) : Prop extends PipeC J cal where
  grid : ∀ (B t : Nat) (S : Store), At (J B) t S → B + 201 < 2 ^ 60 → WE (cal 19 [.ref t]) S (GrP J 6 (B + 201) t S)
  covers : ∀ h w R S, Full h w R → cal 16 [rowsL R] S = .ok (lotsL (covC w R)) S
  cover : ∀ h w R ps S, Full h w R → ps.length = w → (∀ p ∈ ps, 0 ≤ p ∧ p ≤ MOST) → cal 14 [tabD h w R, Sp.tI ps] S = .ok (.tup [.int (minL ((covC w R).map (tot ps))), Sp.tI ((bestC (minL ((covC w R).map (tot ps))) (covC w R) ps).getD 0 [])]) S
  leasts : ∀ h w R ps S, Full h w R → ps.length = w → (∀ p ∈ ps, 0 ≤ p ∧ p ≤ MOST) → cal 13 [tabD h w R, Sp.tI ps] S = .ok (.tup ((bestC (minL ((covC w R).map (tot ps))) (covC w R) ps).map Sp.tI)) S
theorem getD_mem {L : Rw} (h : L ≠ []) : L.getD 0 [] ∈ L := by
  cases L with
  | nil => exact absurd rfl h
  | cons a L => simp
end Pp
namespace Pp
open PySem PySem.W PyProof.Rows L2 Ev Bd Sp Wp Rg
local macro_rules | `(tactic| walk_at "wp1e") => `(tactic| first | with_reducible refine we_c ?_ | with_reducible refine we_op ?_ | with_reducible refine we_un ?_ | with_reducible refine we_callV ?_ | with_reducible refine we_cons ?_ | with_reducible refine we_nil ?_ | with_reducible refine we_asB ?_ | with_reducible refine we_tru ?_ | with_reducible refine we_and ?_ | with_reducible refine we_or ?_ | with_reducible refine we_not ?_ | with_reducible refine we_if ?_ | with_reducible refine wt_and ?_ | with_reducible refine wt_or ?_ | with_reducible refine wt_not ?_ | with_reducible refine wt_yes ?_ | with_reducible refine we_chain ?_ | with_reducible refine we_fld ?_ | with_reducible refine we_isi ?_ | with_reducible refine we_mb ?_ | with_reducible refine we_frz ?_ | with_reducible refine we_cut ?_ | with_reducible refine we_oN ?_ | with_reducible refine we_oS ?_ | with_reducible refine we_any ?_ | with_reducible refine we_star ?_ | with_reducible refine we_lc ?_ | with_reducible refine we_R1 ?_ | with_reducible refine we_R2 ?_ | with_reducible refine we_rg ?_ | with_reducible refine we_enu ?_ | with_reducible refine we_zip ?_ | with_reducible refine we_tup ?_ | with_reducible refine we_lst ?_ | with_reducible refine we_lstC ?_ | with_reducible refine we_cal ?_ | with_reducible refine wg_nm ?_ | with_reducible refine wg_nl ?_ | with_reducible refine wg_cs ?_ | ((with_reducible refine wg_istp ?_); refine wg_tp rfl ?_) | with_reducible refine wg_sb ?_)
local macro_rules | `(tactic| walk_at "wp1s") => `(tactic| first | with_reducible refine ws_seq ?_ | with_reducible refine ws_next ?_ | with_reducible refine ws_cnt ?_ | with_reducible refine ws_brk ?_ | with_reducible refine ws_retN ?_ | with_reducible refine ws_ret ?_ | with_reducible refine ws_expr ?_ | with_reducible refine ws_if ?_ | with_reducible refine ws_asg ?_ | with_reducible refine ws_par2 ?_ | with_reducible refine ws_par3 ?_ | with_reducible refine ws_for ?_)
local macro_rules | `(tactic| walk_at "wp1") => `(tactic| first | walk_at "wp1e" | walk_at "wp1s")
local macro_rules | `(tactic| walk_at "noslf") => `(tactic| first | (intro h; cases h; done) | assumption | nofun)
local macro_rules | `(tactic| walk_at "wp2") => `(tactic| first | ((with_reducible refine we_isv ?_); refine we_var rfl (by walk_at "noslf") ?_) | with_reducible refine br_t ?_ | with_reducible refine br_f ?_ | refine ⟨_, rfl, br_t ?_⟩ | refine ⟨_, rfl, br_f ?_⟩)
local macro_rules | `(tactic| walk_at "wpx") => `(tactic| first | with_reducible refine x_bl ?_ | with_reducible refine t_bl ?_ | with_reducible refine t_lst ?_ | with_reducible refine t_tup ?_ | with_reducible refine t_int ?_ | with_reducible refine t_non ?_ | with_reducible refine a_lst ?_ | with_reducible refine a_tup ?_ | with_reducible refine s_lst ?_ | with_reducible refine s_tup ?_ | with_reducible refine br_not ?_ | with_reducible refine we_lft pAdd_ii ?_ | with_reducible refine we_lft pSub_ii ?_ | with_reducible refine we_lft pLt_ii ?_ | with_reducible refine we_lft pLe_ii ?_ | with_reducible refine we_lft pGt_ii ?_ | with_reducible refine we_lft pGe_ii ?_ | with_reducible refine we_lft pEq_ii ?_ | with_reducible refine we_lft pNe_ii ?_ | with_reducible refine we_lft len_lI ?_ | with_reducible refine we_lft len_tI ?_ | with_reducible refine we_lft len_rL ?_ | with_reducible refine we_lft len_rT ?_ | with_reducible refine we_lft len_lo ?_ | with_reducible refine we_lft pLen_lst ?_ | with_reducible refine we_lft pLen_tup ?_ | with_reducible refine we_lft pInt_i ?_ | with_reducible refine we_lft pInt_b ?_ | with_reducible refine we_lft all_ok ?_ | with_reducible refine we_lft any_ok ?_ | with_reducible refine we_lft sum_lI ?_ | with_reducible refine we_dT ?_ | with_reducible refine we_lft neg_i ?_ | with_reducible refine x_int ?_ | with_reducible refine len_nil2 ?_ | ((with_reducible refine len_isl ?_); refine len_lit rfl ?_))
local macro_rules | `(tactic| walk_at "wsa") => `(tactic| (with_reducible refine ws_seq ?_; with_reducible refine ws_asg ?_))
local macro_rules | `(tactic| walk_at "wsi") => `(tactic| (with_reducible refine ws_seq ?_; with_reducible refine ws_if ?_))
local macro_rules | `(tactic| walk_at "wsf") => `(tactic| (with_reducible refine ws_seq ?_; with_reducible refine ws_for ?_))
local macro_rules | `(tactic| walk_at "wsn") => `(tactic| with_reducible refine ws_next ?_)
local macro_rules | `(tactic| walk_at "wpe") => `(tactic| repeat (first | walk_at "wp1e" | walk_at "wp2" | walk_at "wpx"))
local macro_rules | `(tactic| walk_at "wps") => `(tactic| repeat (first | walk_at "wp1" | walk_at "wp2" | walk_at "wpx"))
structure GridsC (J : JB) (cal : Nat → List D → M D) : Prop extends PipeC J cal where
  even : ∀ (B t mr mc : Nat) (S : Store), At (J B) t S → B + 60 < 2 ^ 60 → 0 < mr → mr ≤ 8 → 0 < mc → mc ≤ 8 → WE (cal 29 [.ref t, .int mr, .int mc]) S fun d S' => ∃ R h w, d = rowsL R ∧ Full h w R ∧ h ≤ mr ∧ w ≤ mc ∧ ¬ Ba.OddPat w R ∧ At (J (B + 60)) t S' ∧ Fr t S S'
  any : ∀ (B t mr mc : Nat) (S : Store), At (J B) t S → B + 100 < 2 ^ 60 → 0 < mr → mr ≤ 8 → 0 < mc → mc ≤ 8 → ∃ R h w S', cal 30 [.ref t, .int mr, .int mc] S = .ok (rowsL R) S' ∧ Full h w R ∧ h ≤ mr ∧ w ≤ mc ∧ At (J (B + 100)) t S' ∧ Fr t S S'
  ring : ∀ (B t most : Nat) (S : Store), At (J B) t S → B + 200 < 2 ^ 60 → 5 ≤ most → most ≤ 8 → WE (cal 31 [.ref t, .int most]) S fun d S' => ∃ R h w, d = rowsL R ∧ Full h w R ∧ h ≤ most ∧ w ≤ most ∧ At (J (B + 200)) t S' ∧ Fr t S S'
structure C29 (J : JB) (cal : Nat → List D → M D) : Prop extends GridsC J cal where
  packs : ∀ h w R S, Full h w R → cal 113 [rowsL R] S = .ok (lotsL (pckC w R)) S
  pack : ∀ h w R ps S, Full h w R → ps.length = w → (∀ p ∈ ps, -MOST ≤ p ∧ p ≤ MOST) → cal 112 [tabD h w R, Sp.tI ps] S = .ok (.tup [.int (maxL ((pckC w R).map (tot ps))), Sp.tI ((bestC (maxL ((pckC w R).map (tot ps))) (pckC w R) ps).getD 0 [])]) S
end Pp
namespace Rt
open PySem PySem.W PyProof.Rows L2 Ev Bd Sp Wp Rg Pp
local macro_rules | `(tactic| walk_at "wp1e") => `(tactic| first | with_reducible refine we_c ?_ | with_reducible refine we_op ?_ | with_reducible refine we_un ?_ | with_reducible refine we_callV ?_ | with_reducible refine we_cons ?_ | with_reducible refine we_nil ?_ | with_reducible refine we_asB ?_ | with_reducible refine we_tru ?_ | with_reducible refine we_and ?_ | with_reducible refine we_or ?_ | with_reducible refine we_not ?_ | with_reducible refine we_if ?_ | with_reducible refine wt_and ?_ | with_reducible refine wt_or ?_ | with_reducible refine wt_not ?_ | with_reducible refine wt_yes ?_ | with_reducible refine we_chain ?_ | with_reducible refine we_fld ?_ | with_reducible refine we_isi ?_ | with_reducible refine we_mb ?_ | with_reducible refine we_frz ?_ | with_reducible refine we_cut ?_ | with_reducible refine we_oN ?_ | with_reducible refine we_oS ?_ | with_reducible refine we_any ?_ | with_reducible refine we_star ?_ | with_reducible refine we_lc ?_ | with_reducible refine we_R1 ?_ | with_reducible refine we_R2 ?_ | with_reducible refine we_rg ?_ | with_reducible refine we_enu ?_ | with_reducible refine we_zip ?_ | with_reducible refine we_tup ?_ | with_reducible refine we_lst ?_ | with_reducible refine we_lstC ?_ | with_reducible refine we_cal ?_ | with_reducible refine wg_nm ?_ | with_reducible refine wg_nl ?_ | with_reducible refine wg_cs ?_ | ((with_reducible refine wg_istp ?_); refine wg_tp rfl ?_) | with_reducible refine wg_sb ?_)
local macro_rules | `(tactic| walk_at "wp1s") => `(tactic| first | with_reducible refine ws_seq ?_ | with_reducible refine ws_next ?_ | with_reducible refine ws_cnt ?_ | with_reducible refine ws_brk ?_ | with_reducible refine ws_retN ?_ | with_reducible refine ws_ret ?_ | with_reducible refine ws_expr ?_ | with_reducible refine ws_if ?_ | with_reducible refine ws_asg ?_ | with_reducible refine ws_par2 ?_ | with_reducible refine ws_par3 ?_ | with_reducible refine ws_for ?_)
local macro_rules | `(tactic| walk_at "wp1") => `(tactic| first | walk_at "wp1e" | walk_at "wp1s")
local macro_rules | `(tactic| walk_at "noslf") => `(tactic| first | (intro h; cases h; done) | assumption | nofun)
local macro_rules | `(tactic| walk_at "wp2") => `(tactic| first | ((with_reducible refine we_isv ?_); refine we_var rfl (by walk_at "noslf") ?_) | with_reducible refine br_t ?_ | with_reducible refine br_f ?_ | refine ⟨_, rfl, br_t ?_⟩ | refine ⟨_, rfl, br_f ?_⟩)
local macro_rules | `(tactic| walk_at "wpx") => `(tactic| first | with_reducible refine x_bl ?_ | with_reducible refine t_bl ?_ | with_reducible refine t_lst ?_ | with_reducible refine t_tup ?_ | with_reducible refine t_int ?_ | with_reducible refine t_non ?_ | with_reducible refine a_lst ?_ | with_reducible refine a_tup ?_ | with_reducible refine s_lst ?_ | with_reducible refine s_tup ?_ | with_reducible refine br_not ?_ | with_reducible refine we_lft pAdd_ii ?_ | with_reducible refine we_lft pSub_ii ?_ | with_reducible refine we_lft pLt_ii ?_ | with_reducible refine we_lft pLe_ii ?_ | with_reducible refine we_lft pGt_ii ?_ | with_reducible refine we_lft pGe_ii ?_ | with_reducible refine we_lft pEq_ii ?_ | with_reducible refine we_lft pNe_ii ?_ | with_reducible refine we_lft len_lI ?_ | with_reducible refine we_lft len_tI ?_ | with_reducible refine we_lft len_rL ?_ | with_reducible refine we_lft len_rT ?_ | with_reducible refine we_lft len_lo ?_ | with_reducible refine we_lft pLen_lst ?_ | with_reducible refine we_lft pLen_tup ?_ | with_reducible refine we_lft pInt_i ?_ | with_reducible refine we_lft pInt_b ?_ | with_reducible refine we_lft all_ok ?_ | with_reducible refine we_lft any_ok ?_ | with_reducible refine we_lft sum_lI ?_ | with_reducible refine we_dT ?_ | with_reducible refine we_lft neg_i ?_ | with_reducible refine x_int ?_ | with_reducible refine len_nil2 ?_ | ((with_reducible refine len_isl ?_); refine len_lit rfl ?_))
local macro_rules | `(tactic| walk_at "wsa") => `(tactic| (with_reducible refine ws_seq ?_; with_reducible refine ws_asg ?_))
local macro_rules | `(tactic| walk_at "wsi") => `(tactic| (with_reducible refine ws_seq ?_; with_reducible refine ws_if ?_))
local macro_rules | `(tactic| walk_at "wsf") => `(tactic| (with_reducible refine ws_seq ?_; with_reducible refine ws_for ?_))
local macro_rules | `(tactic| walk_at "wsn") => `(tactic| with_reducible refine ws_next ?_)
local macro_rules | `(tactic| walk_at "wpe") => `(tactic| repeat (first | walk_at "wp1e" | walk_at "wp2" | walk_at "wpx"))
local macro_rules | `(tactic| walk_at "wps") => `(tactic| repeat (first | walk_at "wp1" | walk_at "wp2" | walk_at "wpx"))
section
variable {cal : Nat → List D → M D} {S : Store}
theorem numbers_ev {d : List Int} {w : Nat} (hl : d.length = w) (w8 : w ≤ 8) (hb : ∀ i ∈ d, i = 0 ∨ i = 1) (h1 : ∀ x S, cal 41 [.int x, .int 0, .int 1] S = .ok (.bl (decide (0 ≤ x) && decide (x ≤ 1))) S) : funM 5 4 (b_are_numbers cal) [Sp.tI d, .int w, .int 0, .int 1] S = .ok (.bl true) S := by
  have key : WE (funM 5 4 (b_are_numbers cal) [Sp.tI d, .int w, .int 0, .int 1]) S fun x S' => x = .bl true ∧ S' = S := by
    unfold b_are_numbers
    refine we_fun rfl ?_
    show WS (sSeq _ _ [some (Sp.tI d), some (.int w), some (.int 0), some (.int 1), none] S) _
    walk_at "wsi"
    with_reducible refine wt_or ?_
    with_reducible refine wt_not ?_
    with_reducible refine we_tru ?_
    with_reducible refine we_isi ?_
    walk_at "wpe"
    refine ⟨_, true, rfl, by rfl, ?_⟩
    walk_at "wpe"
    refine br_eqT (by rw [hl]; simp) ?_
    walk_at "wsn"
    with_reducible refine ws_ret ?_
    walk_at "wpe"
    refine we_loopM (S := S) D.int D.bl (fun _ => true) (zs := d) (by omega) (fun x hx => ?_) ?_
    · refine ⟨_, rfl, ?_⟩
      walk_at "wpe"
      refine we_ok (h1 x S) ⟨rfl, ?_⟩
      rcases hb x hx with rfl | rfl <;> rfl
    refine we_newL (by rw [List.length_map, List.length_map]; exact small (by omega)) ?_
    walk_at "wpe"
    exact ⟨by simp, rfl⟩
  obtain ⟨x, S', e, rfl, rfl⟩ := key
  exact e
theorem digits_ev {h w : Nat} {R : Rw} {d : List Int} (h1 : (1 : Int) ∈ d) (h2 : ∀ S, cal 159 [Sp.tI d, .int w, .int 0, .int 1] S = .ok (.bl true) S) : funM 2 2 (b_check_digits cal) [tabD h w R, Sp.tI d] S = .ok .non S := by
  have key : WE (funM 2 2 (b_check_digits cal) [tabD h w R, Sp.tI d]) S fun x S' => x = .non ∧ S' = S := by
    unfold b_check_digits
    refine we_fun rfl ?_
    show WS (sIf _ _ _ [some (tabD h w R), some (Sp.tI d)] S) _
    with_reducible refine ws_if ?_
    walk_at "wpe"
    refine ⟨_, _, _, rfl, rfl, rfl, ?_⟩
    walk_at "wpe"
    refine we_ok (h2 S) ?_
    walk_at "wpe"
    refine we_lft notin_tI ?_
    rw [decide_eq_true h1]
    walk_at "wpe"
    walk_at "wsn"
    exact ⟨rfl, rfl⟩
  obtain ⟨x, S', e, rfl, rfl⟩ := key
  exact e
theorem may_ev {h w : Nat} {R : Rw} {d : List Int} {b : Bool} (h1 : ∀ S, cal 23 [tabD h w R] S = .ok .non S) (h2 : ∀ S, cal 158 [tabD h w R, Sp.tI d] S = .ok .non S) (h3 : ∀ S, ∃ S', cal 157 [rowsT R, Sp.tI d] S = .ok (.bl b) S' ∧ Keep S S') : ∃ S', funM 2 2 (b_may_add cal) [tabD h w R, Sp.tI d] S = .ok (.bl b) S' ∧ Keep S S' := by
  have key : WE (funM 2 2 (b_may_add cal) [tabD h w R, Sp.tI d]) S fun x S' => x = .bl b ∧ Keep S S' := by
    unfold b_may_add
    refine we_fun rfl ?_
    show WS (sSeq _ _ [some (tabD h w R), some (Sp.tI d)] S) _
    walk_at "wps"
    refine we_ok (h1 S) ?_
    walk_at "wps"
    refine we_ok (h2 S) ?_
    walk_at "wps"
    refine ⟨_, _, _, rfl, rfl, rfl, ?_⟩
    walk_at "wps"
    obtain ⟨S1, e1, k1⟩ := h3 S
    exact we_ok e1 ⟨rfl, k1⟩
  obtain ⟨x, S', e, rfl, k⟩ := key
  exact ⟨S', e, k⟩
end
/-- whether the rings stay the same -/
noncomputable def stay (h w : Nat) (R : Rw) (d : List Int) : Bool := decide ((lawL (R ++ [d]) (h + 1) w).length = (lawL R h w).length)
theorem cnt_same {w : Nat} {E : Rw} {p : List Int → Bool} (hE : E.Perm ((bitsL w).filter fun d => decide ((1 : Int) ∈ d))) : ((bits w).filter fun d => decide ((1 : Int) ∈ d) && p d).length = (E.filter p).length := by
  have p1 : (E.filter p).Perm (((bitsL w).filter fun d => decide ((1 : Int) ∈ d)).filter p) := hE.filter _
  have p2 := ((bits_perm w).filter fun d => decide ((1 : Int) ∈ d)).filter p
  rw [p1.length_eq, p2.length_eq, List.filter_filter]
  have e : ((bits w).filter fun d => decide ((1 : Int) ∈ d) && p d) = (bits w).filter fun d => p d && decide ((1 : Int) ∈ d) := List.filter_congr fun d _ => Bool.and_comm ..
  rw [e]
structure C57 (cal : Nat → List D → M D) : Prop where
  dip : Drw ReedJ (cal 60)
  grid : GridF ReedJ (cal 51)
  full : ∀ (R : Rw) (most : Nat) S, Grid most R → most ≤ 8 → ∃ b, cal 50 [rowsL R] S = .ok (.bl b) S ∧ (b = true → ∃ h w, Full h w R ∧ h ≤ most ∧ w ≤ most)
  text : ∀ h w R S, Full h w R → cal 2 [rowsL R] S = .ok (.str (txt R)) S
  tab : ∀ h w R S, Full h w R → cal 1 [.str (txt R)] S = .ok (tabD h w R) S
  mine : ∀ h w R S, Full h w R → ∃ S', cal 49 [rowsL R] S = .ok (.lst ((lawL R h w).map ringD)) S' ∧ Keep S S'
  every : ∀ w : Nat, 0 < w → w ≤ 8 → ∃ E : Rw, E.Perm ((bitsL w).filter fun d => decide ((1 : Int) ∈ d)) ∧ ∀ S, cal 156 [.int w] S = .ok (lotsL E) S
  may : ∀ h w R d S, Full h w R → h + 1 ≤ 8 → d ∈ bits w → (1 : Int) ∈ d → ∃ S', cal 155 [tabD h w R, Sp.tI d] S = .ok (.bl (stay h w R d)) S' ∧ Keep S S'
  more : ∀ h w R S, Full h w R → h + 1 ≤ 8 → ∃ S', cal 154 [tabD h w R] S = .ok (.int (((bits w).filter fun d => decide ((1 : Int) ∈ d) && stay h w R d).length : Nat)) S' ∧ Keep S S'
end Rt
namespace Mv
open PySem Sp Rg
/-- rows hang together by columns, from wherever one begins -/
def HangS (R : Rw) (I J : List Int) : Prop := ∀ P : Int → Prop, (∃ i ∈ I, P i) → (∀ i ∈ I, ∀ j ∈ I, ∀ k ∈ J, P i → bit R i k = true → bit R j k = true → P j) → ∀ j ∈ I, P j
theorem at0_mem {I : List Int} (h : I ≠ []) : at_ I 0 ∈ I := by
  cases I with
  | nil => exact absurd rfl h
  | cons a I => simp [at_]
theorem hang_iff {R : Rw} {I J : List Int} (h : I ≠ []) : Hang R I J ↔ HangS R I J := by
  constructor
  · intro H P ⟨i0, hi0, p0⟩ cl
    refine H P ?_ cl
    by_cases q : P (at_ I 0)
    · exact q
    · have := H (fun x => ¬ P x) q (fun i hi j hj k hk pi bi bj pj => pi (cl j hj i hi k hk pj bj bi)) i0 hi0
      exact absurd p0 this
  · intro H P p0 cl
    exact H P ⟨_, at0_mem h, p0⟩ cl
theorem hangS_perm {R : Rw} {I I' J J' : List Int} (hI : ∀ x, x ∈ I ↔ x ∈ I') (hJ : ∀ x, x ∈ J ↔ x ∈ J') (H : HangS R I J) : HangS R I' J' := fun P ⟨i, hi, p⟩ cl j hj =>
  H P ⟨i, (hI i).mpr hi, p⟩ (fun i hi j hj k hk => cl i ((hI i).mp hi) j ((hI j).mp hj) k ((hJ k).mp hk)) j ((hI j).mpr hj)
theorem map_nodup {σ : Int → Int} {l : List Int} (h : l.Nodup) (hi : ∀ a ∈ l, ∀ b ∈ l, σ a = σ b → a = b) : (l.map σ).Nodup := by
  induction l with
  | nil => simp
  | cons x l ih =>
    obtain ⟨h1, h2⟩ := List.nodup_cons.mp h
    rw [List.map_cons, List.nodup_cons]
    refine ⟨fun hm => ?_, ih h2 fun a ha b hb => hi a (List.mem_cons_of_mem _ ha) b (List.mem_cons_of_mem _ hb)⟩
    obtain ⟨y, hy, e⟩ := List.mem_map.mp hm
    have := hi y (List.mem_cons_of_mem _ hy) x (List.mem_cons_self ..) e
    subst this
    exact h1 hy
theorem mem_srt {l : List Int} {x : Int} : x ∈ srt l ↔ x ∈ l := srt_perm.mem_iff
theorem sum_perm {l m : List Int} (h : l.Perm m) : l.sum = m.sum := by
  induction h with
  | nil => rfl
  | cons x _ ih => simp only [List.sum_cons, ih]
  | swap x y l => simp only [List.sum_cons]; omega
  | trans _ _ i1 i2 => exact i1.trans i2
theorem sum_srt {f : Int → Int} {l : List Int} : ((srt l).map f).sum = (l.map f).sum := sum_perm (srt_perm.map f)
/-- a ring that is renamed -/
def ren (σ π : Int → Int) (q : Pq) : Pq := (srt (q.1.map σ), srt (q.2.map π))
theorem law_move {R R' : Rw} {h w h' w' : Nat} {σ π : Int → Int} {q : Pq} (Q : LawR h' w' R' q) (hσ : ∀ a ∈ q.1, ∀ b ∈ q.1, σ a = σ b → a = b) (hπ : ∀ a ∈ q.2, ∀ b ∈ q.2, π a = π b → a = b)
    (r1 : ∀ a ∈ q.1, 0 ≤ σ a ∧ σ a < h) (r2 : ∀ a ∈ q.2, 0 ≤ π a ∧ π a < w) (hv : ∀ a ∈ q.1, ∀ b ∈ q.2, val R' a b = val R (σ a) (π b)) : LawR h w R (ren σ π q) := by
  have n1 := map_nodup (asc_nodup Q.asc1) hσ
  have n2 := map_nodup (asc_nodup Q.asc2) hπ
  have l1 : (srt (q.1.map σ)).length = q.1.length := by rw [srt_perm.length_eq, List.length_map]
  have l2 : (srt (q.2.map π)).length = q.2.length := by rw [srt_perm.length_eq, List.length_map]
  have ne : q.1 ≠ [] := fun e => by have := Q.size; rw [e] at this; simp at this
  refine ⟨?_, ?_, srt_asc n1, srt_asc n2, ?_, ?_, ?_, ?_, ?_⟩
  · show (srt (q.1.map σ)).length = (srt (q.2.map π)).length
    rw [l1, l2, Q.eq]
  · show (srt (q.1.map σ)).length = 3 ∨ (srt (q.1.map σ)).length = 5 ∨ (srt (q.1.map σ)).length = 7
    rw [l1]; exact Q.size
  · intro i hi
    obtain ⟨a, ha, rfl⟩ := List.mem_map.mp (mem_srt.mp hi)
    exact r1 a ha
  · intro i hi
    obtain ⟨a, ha, rfl⟩ := List.mem_map.mp (mem_srt.mp hi)
    exact r2 a ha
  · intro k hk
    obtain ⟨b, hb, rfl⟩ := List.mem_map.mp (mem_srt.mp hk)
    show ((srt (q.1.map σ)).map fun j => val R j (π b)).sum = 2
    rw [sum_srt, List.map_map, ← Q.col b hb]
    congr 1
    exact List.map_congr_left fun a ha => (hv a ha b hb).symm
  · intro j hj
    obtain ⟨a, ha, rfl⟩ := List.mem_map.mp (mem_srt.mp hj)
    show ((srt (q.2.map π)).map fun k => val R (σ a) k).sum = 2
    rw [sum_srt, List.map_map, ← Q.row a ha]
    congr 1
    exact List.map_congr_left fun b hb => (hv a ha b hb).symm
  · have ne' : srt (q.1.map σ) ≠ [] := fun e => by rw [e] at l1; exact ne (List.eq_nil_of_length_eq_zero (by simpa using l1.symm))
    refine (hang_iff ne').mpr ?_
    have H := (hang_iff ne).mp Q.hang
    refine hangS_perm (I := q.1.map σ) (J := q.2.map π) (fun x => mem_srt.symm) (fun x => mem_srt.symm) ?_
    intro P ⟨i, hi, p⟩ cl j hj
    obtain ⟨a, ha, rfl⟩ := List.mem_map.mp hi
    obtain ⟨b, hb, rfl⟩ := List.mem_map.mp hj
    refine H (fun x => P (σ x)) ⟨a, ha, p⟩ (fun x hx y hy k hk px bx bj => ?_) b hb
    refine cl (σ x) (List.mem_map_of_mem hx) (σ y) (List.mem_map_of_mem hy) (π k) (List.mem_map_of_mem hk) px ?_ ?_
    · rw [bit_val, ← hv x hx k hk, ← bit_val]; exact bx
    · rw [bit_val, ← hv y hy k hk, ← bit_val]; exact bj
end Mv
namespace Mv
open PySem Sp Rg
def at' (T : List Int) (a : Int) : Int := T.getD a.toNat 0
theorem at_mem {T : List Int} {a : Int} (h0 : 0 ≤ a) (h1 : a < T.length) : at' T a ∈ T := by
  unfold at'
  rw [List.getD_eq_getElem?_getD, List.getElem?_eq_getElem (show a.toNat < T.length by omega)]
  exact List.getElem_mem _
theorem at_inj {T : List Int} (nd : T.Nodup) {a b : Int} (a0 : 0 ≤ a) (a1 : a < T.length) (b0 : 0 ≤ b) (b1 : b < T.length) (e : at' T a = at' T b) : a = b := by
  unfold at' at e
  rw [List.getD_eq_getElem?_getD, List.getD_eq_getElem?_getD, List.getElem?_eq_getElem (show a.toNat < T.length by omega), List.getElem?_eq_getElem (show b.toNat < T.length by omega)] at e
  have := (List.getElem_inj (h₀ := show a.toNat < T.length by omega) (h₁ := show b.toNat < T.length by omega) nd).mp (by simpa using e)
  omega
section
variable {R : Rw} {h w : Nat} {T K : List Int}
end
end Mv
namespace Ev
open PySem PySem.Spec PySem.SeqAt PySem.W L2 PyProof.Rows
section
variable {prog : Program} {w : World} {A : Around} {E : Value → Shared → Prop} {s : Shared}
end
end Ev
namespace Ty
open PySem L2 Ev Bd Sp
/-- the tray at t -/
def Tr (t : Nat) (S : Store) : Prop := ∃ a b c : Int, S[t]? = some (some (.lst [.int a, .int b, .int c])) ∧ 0 ≤ a
/-- the draw -/
structure TakF (dr : List D → M D) : Prop where
  tr : ∀ {t : Nat} {S : Store} {m : Int}, Tr t S → 0 < m → m < 1073741824 → ∃ (f : Nat) (x : Cell), dr [.ref t, .int m] S = .ok (.int f) (S.set t (some x)) ∧ (f : Int) < m ∧ Tr t (S.set t (some x))
end Ty
namespace EvZ
open PySem PySem.Spec PySem.SeqAt L2 PyProof.Rows
/-- the tuples that have been put to the list -/
structure LzG (rs : List Sr) (lo : Addr) (h : Heap) (as : List Addr) : Prop where
  rise : as.Pairwise (· < ·)
  above : ∀ a ∈ as, lo < a
  pairs : ∀ (j : Nat) (a : Addr), as[j]? = some a → Tp h a (row rs j)
theorem LzG.there {rs : List Sr} {lo : Addr} {h : Heap} {as : List Addr} (g : LzG rs lo h as) {a : Addr} (ha : a ∈ as) : a < h.objs.size := by
  obtain ⟨j, hj⟩ := List.mem_iff_getElem?.mp ha
  exact Heap.lt_size (g.pairs j a hj)
/-- where the iterator stands -/
structure LzSt (rs : List Sr) (z TI TO : Addr) (i : Nat) (h : Heap) : Prop where
  ex : ∃ f0 f1 arr, Zp h z TI TO f0 f1 ∧ (f0 = .none ∨ ∃ T : Addr, f0 = rawInt T) ∧ (f1 = .bool true ∨ f1 = .bool false) ∧ Tp h TO arr ∧ arr.length = rs.length
  ti : Tp h TI (rs.map fun r => .ref r.it)
  it : ∀ r ∈ rs, ItAt h i r
  sq : ∀ r ∈ rs, SqAt h r
structure Low (rs : List Sr) (z TI TO S : Addr) : Prop where
  z : z < S
  ti : TI < S
  to : TO < S
  it : ∀ r ∈ rs, r.it < S
  l : ∀ r ∈ rs, r.l < S
theorem LzSt.at {rs : List Sr} {z TI TO S : Addr} {i : Nat} {h h' : Heap} (L : Low rs z TI TO S) (st : LzSt rs z TI TO i h) (k : ∀ c o, c < S → h.get? c = some o → h'.get? c = some o) : LzSt rs z TI TO i h' := by
  obtain ⟨f0, f1, arr, hz, h0, h1, hT, hl⟩ := st.ex
  exact ⟨⟨f0, f1, arr, k _ _ L.z hz, h0, h1, k _ _ L.to hT, hl⟩, k _ _ L.ti st.ti, fun r hr => (st.it r hr).at fun o e => k _ o (L.it r hr) e, fun r hr => (st.sq r hr).at fun o e => k _ o (L.l r hr) e⟩
section
variable {prog : Program} {w : World} {A : Around} {s : Shared} {R : Result → Shared → Prop} {rs : List Sr} {z TI TO S : Addr} {n : Nat}
end
section
variable {prog : Program} {w : World} {A : Around} {E : Value → Shared → Prop} {s : Shared} {rs : List Sr} {z TI TO : Addr} {n : Nat}
end
section
variable {X : Cx}
end
end EvZ
namespace Ev
open PySem PySem.Spec PySem.SeqAt L2 PyProof.Rows EvZ
section
variable {K : PySem.W.Frag} {S : Store}
end
section
variable {X : Cx} {Wx : WX} {e tg : Expr} {ma : ME} {pos : Pos} {k : Nat}
def eLz (mas : MA) : ME := fun δ => M.bind (mas δ) fun ds S => match pZip ds with
  | some zs => if zs.length ≤ sizeLine then .ok (.lst zs) S else .bad
  | none => .bad
end
end Ev
namespace Ev
open PySem PySem.Spec PySem.SeqAt L2 PyProof.Rows
abbrev KvT := List (Str × Int)
def kvGet (kvs : KvT) (z : Str) : Option Int := (kvs.find? fun p => decide (p.1 = z)).map (·.2)
structure KTab (w : World) (K : PySem.W.Frag) (mg : Str → Option Value) (x : Str) (kvs : KvT) : Prop where
  g : mg x = some (.ref (He.ga K x))
  d : ∃ es n, KDict K w (He.ga K x) es n
  v : ∀ z, ∃ r, PySem.W.nsIn K (He.ga K x) z = some r ∧ ((∃ i, kvGet kvs z = some i ∧ ∃ t, r = some (.int i t)) ∨ (kvGet kvs z = none ∧ r = none))
section
variable {X : Cx} {Wx : WX} {e f : Expr} {me mf : ME} {x : Str} {p apos cpos : Pos} {k : Nat} {kvs : KvT}
end
end Ev
namespace Ev
open PySem
end Ev
namespace Bd
open PySem L2 Ev
def b_Table_turned (cal : Nat → List D → M D) : MS :=
    (sRet (eCal (cal 182) (aCons (eLz (aStar (eFld ok_rows "rows" (eVar 0)) aNil)) aNil)))
end Bd
namespace Ty
open PySem L2 Ev Bd Sp Rg Wp
local macro_rules | `(tactic| walk_at "wp1e") => `(tactic| first | with_reducible refine we_c ?_ | with_reducible refine we_op ?_ | with_reducible refine we_un ?_ | with_reducible refine we_callV ?_ | with_reducible refine we_cons ?_ | with_reducible refine we_nil ?_ | with_reducible refine we_asB ?_ | with_reducible refine we_tru ?_ | with_reducible refine we_and ?_ | with_reducible refine we_or ?_ | with_reducible refine we_not ?_ | with_reducible refine we_if ?_ | with_reducible refine wt_and ?_ | with_reducible refine wt_or ?_ | with_reducible refine wt_not ?_ | with_reducible refine wt_yes ?_ | with_reducible refine we_chain ?_ | with_reducible refine we_fld ?_ | with_reducible refine we_isi ?_ | with_reducible refine we_mb ?_ | with_reducible refine we_frz ?_ | with_reducible refine we_cut ?_ | with_reducible refine we_oN ?_ | with_reducible refine we_oS ?_ | with_reducible refine we_any ?_ | with_reducible refine we_star ?_ | with_reducible refine we_lc ?_ | with_reducible refine we_R1 ?_ | with_reducible refine we_R2 ?_ | with_reducible refine we_rg ?_ | with_reducible refine we_enu ?_ | with_reducible refine we_zip ?_ | with_reducible refine we_tup ?_ | with_reducible refine we_lst ?_ | with_reducible refine we_lstC ?_ | with_reducible refine we_cal ?_ | with_reducible refine wg_nm ?_ | with_reducible refine wg_nl ?_ | with_reducible refine wg_cs ?_ | ((with_reducible refine wg_istp ?_); refine wg_tp rfl ?_) | with_reducible refine wg_sb ?_)
local macro_rules | `(tactic| walk_at "wp1s") => `(tactic| first | with_reducible refine ws_seq ?_ | with_reducible refine ws_next ?_ | with_reducible refine ws_cnt ?_ | with_reducible refine ws_brk ?_ | with_reducible refine ws_retN ?_ | with_reducible refine ws_ret ?_ | with_reducible refine ws_expr ?_ | with_reducible refine ws_if ?_ | with_reducible refine ws_asg ?_ | with_reducible refine ws_par2 ?_ | with_reducible refine ws_par3 ?_ | with_reducible refine ws_for ?_)
local macro_rules | `(tactic| walk_at "wp1") => `(tactic| first | walk_at "wp1e" | walk_at "wp1s")
local macro_rules | `(tactic| walk_at "noslf") => `(tactic| first | (intro h; cases h; done) | assumption | nofun)
local macro_rules | `(tactic| walk_at "wp2") => `(tactic| first | ((with_reducible refine we_isv ?_); refine we_var rfl (by walk_at "noslf") ?_) | with_reducible refine br_t ?_ | with_reducible refine br_f ?_ | refine ⟨_, rfl, br_t ?_⟩ | refine ⟨_, rfl, br_f ?_⟩)
local macro_rules | `(tactic| walk_at "wpx") => `(tactic| first | with_reducible refine x_bl ?_ | with_reducible refine t_bl ?_ | with_reducible refine t_lst ?_ | with_reducible refine t_tup ?_ | with_reducible refine t_int ?_ | with_reducible refine t_non ?_ | with_reducible refine a_lst ?_ | with_reducible refine a_tup ?_ | with_reducible refine s_lst ?_ | with_reducible refine s_tup ?_ | with_reducible refine br_not ?_ | with_reducible refine we_lft pAdd_ii ?_ | with_reducible refine we_lft pSub_ii ?_ | with_reducible refine we_lft pLt_ii ?_ | with_reducible refine we_lft pLe_ii ?_ | with_reducible refine we_lft pGt_ii ?_ | with_reducible refine we_lft pGe_ii ?_ | with_reducible refine we_lft pEq_ii ?_ | with_reducible refine we_lft pNe_ii ?_ | with_reducible refine we_lft len_lI ?_ | with_reducible refine we_lft len_tI ?_ | with_reducible refine we_lft len_rL ?_ | with_reducible refine we_lft len_rT ?_ | with_reducible refine we_lft len_lo ?_ | with_reducible refine we_lft pLen_lst ?_ | with_reducible refine we_lft pLen_tup ?_ | with_reducible refine we_lft pInt_i ?_ | with_reducible refine we_lft pInt_b ?_ | with_reducible refine we_lft all_ok ?_ | with_reducible refine we_lft any_ok ?_ | with_reducible refine we_lft sum_lI ?_ | with_reducible refine we_dT ?_ | with_reducible refine we_lft neg_i ?_ | with_reducible refine x_int ?_ | with_reducible refine len_nil2 ?_ | ((with_reducible refine len_isl ?_); refine len_lit rfl ?_))
local macro_rules | `(tactic| walk_at "wsa") => `(tactic| (with_reducible refine ws_seq ?_; with_reducible refine ws_asg ?_))
local macro_rules | `(tactic| walk_at "wsi") => `(tactic| (with_reducible refine ws_seq ?_; with_reducible refine ws_if ?_))
local macro_rules | `(tactic| walk_at "wsf") => `(tactic| (with_reducible refine ws_seq ?_; with_reducible refine ws_for ?_))
local macro_rules | `(tactic| walk_at "wsn") => `(tactic| with_reducible refine ws_next ?_)
local macro_rules | `(tactic| walk_at "wpe") => `(tactic| repeat (first | walk_at "wp1e" | walk_at "wp2" | walk_at "wpx"))
local macro_rules | `(tactic| walk_at "wps") => `(tactic| repeat (first | walk_at "wp1" | walk_at "wp2" | walk_at "wpx"))
def turnR (R : Rw) (w : Nat) : Rw := (List.range w).map (colOf R)
theorem turn_len {R : Rw} {w : Nat} : (turnR R w).length = w := by simp [turnR]
section
variable {cal : Nat → List D → M D} {S : Store} {h w : Nat} {R : Rw}
def colOf (R : Rw) (k : Nat) : List Int := R.map fun r => r.getD k 0
theorem we_lz {mas : MA} {δ : En} {Q : D → Store → Prop} (h : WE (mas δ) S fun xs S1 => ∃ zs, pZip xs = some zs ∧ zs.length ≤ sizeLine ∧ Q (.lst zs) S1) : WE (eLz mas δ) S Q := we_bind (we_imp h fun xs S1 ⟨zs, e, hl, q⟩ => ⟨_, S1, by simp only [e, hl, if_true], q⟩)
theorem turned_ev (F : Full h w R) (h1 : cal 182 [.lst ((turnR R w).map fun r => D.tup (iD r))] S = .ok (tabD w h (turnR R w)) S) : funM 1 1 (b_Table_turned cal) [tabD h w R] S = .ok (tabD w h (turnR R w)) S := by
  have key : WE (funM 1 1 (b_Table_turned cal) [tabD h w R]) S fun d S' => d = tabD w h (turnR R w) ∧ S' = S := by
    unfold b_Table_turned
    refine we_fun rfl ?_
    show WS (sRet _ [some (tabD h w R)] S) _
    walk_at "wps"
    refine we_lz ?_
    walk_at "wps"
    refine ⟨_, _, _, rfl, rfl, rfl, ?_⟩
    walk_at "wps"
    refine ⟨(turnR R w).map fun r => D.tup (iD r), ?_, by rw [List.length_map, turn_len]; exact Sp.small (by have := F.w2; omega), ?_⟩
    · rw [List.append_nil]
      have := zip_rows F
      rw [this]
      simp [turnR, List.map_map, Function.comp_def]
    · walk_at "wps"
      exact we_ok h1 ⟨rfl, rfl⟩
  obtain ⟨d, S', e, rfl, rfl⟩ := key
  exact e
end
end Ty
namespace Ty
open PySem L2 Ev Bd Sp Rg Wp
local macro_rules | `(tactic| walk_at "wp1e") => `(tactic| first | with_reducible refine we_c ?_ | with_reducible refine we_op ?_ | with_reducible refine we_un ?_ | with_reducible refine we_callV ?_ | with_reducible refine we_cons ?_ | with_reducible refine we_nil ?_ | with_reducible refine we_asB ?_ | with_reducible refine we_tru ?_ | with_reducible refine we_and ?_ | with_reducible refine we_or ?_ | with_reducible refine we_not ?_ | with_reducible refine we_if ?_ | with_reducible refine wt_and ?_ | with_reducible refine wt_or ?_ | with_reducible refine wt_not ?_ | with_reducible refine wt_yes ?_ | with_reducible refine we_chain ?_ | with_reducible refine we_fld ?_ | with_reducible refine we_isi ?_ | with_reducible refine we_mb ?_ | with_reducible refine we_frz ?_ | with_reducible refine we_cut ?_ | with_reducible refine we_oN ?_ | with_reducible refine we_oS ?_ | with_reducible refine we_any ?_ | with_reducible refine we_star ?_ | with_reducible refine we_lc ?_ | with_reducible refine we_R1 ?_ | with_reducible refine we_R2 ?_ | with_reducible refine we_rg ?_ | with_reducible refine we_enu ?_ | with_reducible refine we_zip ?_ | with_reducible refine we_tup ?_ | with_reducible refine we_lst ?_ | with_reducible refine we_lstC ?_ | with_reducible refine we_cal ?_ | with_reducible refine wg_nm ?_ | with_reducible refine wg_nl ?_ | with_reducible refine wg_cs ?_ | ((with_reducible refine wg_istp ?_); refine wg_tp rfl ?_) | with_reducible refine wg_sb ?_)
local macro_rules | `(tactic| walk_at "wp1s") => `(tactic| first | with_reducible refine ws_seq ?_ | with_reducible refine ws_next ?_ | with_reducible refine ws_cnt ?_ | with_reducible refine ws_brk ?_ | with_reducible refine ws_retN ?_ | with_reducible refine ws_ret ?_ | with_reducible refine ws_expr ?_ | with_reducible refine ws_if ?_ | with_reducible refine ws_asg ?_ | with_reducible refine ws_par2 ?_ | with_reducible refine ws_par3 ?_ | with_reducible refine ws_for ?_)
local macro_rules | `(tactic| walk_at "wp1") => `(tactic| first | walk_at "wp1e" | walk_at "wp1s")
local macro_rules | `(tactic| walk_at "noslf") => `(tactic| first | (intro h; cases h; done) | assumption | nofun)
local macro_rules | `(tactic| walk_at "wp2") => `(tactic| first | ((with_reducible refine we_isv ?_); refine we_var rfl (by walk_at "noslf") ?_) | with_reducible refine br_t ?_ | with_reducible refine br_f ?_ | refine ⟨_, rfl, br_t ?_⟩ | refine ⟨_, rfl, br_f ?_⟩)
local macro_rules | `(tactic| walk_at "wpx") => `(tactic| first | with_reducible refine x_bl ?_ | with_reducible refine t_bl ?_ | with_reducible refine t_lst ?_ | with_reducible refine t_tup ?_ | with_reducible refine t_int ?_ | with_reducible refine t_non ?_ | with_reducible refine a_lst ?_ | with_reducible refine a_tup ?_ | with_reducible refine s_lst ?_ | with_reducible refine s_tup ?_ | with_reducible refine br_not ?_ | with_reducible refine we_lft pAdd_ii ?_ | with_reducible refine we_lft pSub_ii ?_ | with_reducible refine we_lft pLt_ii ?_ | with_reducible refine we_lft pLe_ii ?_ | with_reducible refine we_lft pGt_ii ?_ | with_reducible refine we_lft pGe_ii ?_ | with_reducible refine we_lft pEq_ii ?_ | with_reducible refine we_lft pNe_ii ?_ | with_reducible refine we_lft len_lI ?_ | with_reducible refine we_lft len_tI ?_ | with_reducible refine we_lft len_rL ?_ | with_reducible refine we_lft len_rT ?_ | with_reducible refine we_lft len_lo ?_ | with_reducible refine we_lft pLen_lst ?_ | with_reducible refine we_lft pLen_tup ?_ | with_reducible refine we_lft pInt_i ?_ | with_reducible refine we_lft pInt_b ?_ | with_reducible refine we_lft all_ok ?_ | with_reducible refine we_lft any_ok ?_ | with_reducible refine we_lft sum_lI ?_ | with_reducible refine we_dT ?_ | with_reducible refine we_lft neg_i ?_ | with_reducible refine x_int ?_ | with_reducible refine len_nil2 ?_ | ((with_reducible refine len_isl ?_); refine len_lit rfl ?_))
local macro_rules | `(tactic| walk_at "wsa") => `(tactic| (with_reducible refine ws_seq ?_; with_reducible refine ws_asg ?_))
local macro_rules | `(tactic| walk_at "wsi") => `(tactic| (with_reducible refine ws_seq ?_; with_reducible refine ws_if ?_))
local macro_rules | `(tactic| walk_at "wsf") => `(tactic| (with_reducible refine ws_seq ?_; with_reducible refine ws_for ?_))
local macro_rules | `(tactic| walk_at "wsn") => `(tactic| with_reducible refine ws_next ?_)
local macro_rules | `(tactic| walk_at "wpe") => `(tactic| repeat (first | walk_at "wp1e" | walk_at "wp2" | walk_at "wpx"))
local macro_rules | `(tactic| walk_at "wps") => `(tactic| repeat (first | walk_at "wp1" | walk_at "wp2" | walk_at "wpx"))
section
variable {cal : Nat → List D → M D} {S : Store} {h w : Nat} {R : Rw}
end
end Ty
namespace Bd
open PySem L2 Ev
end Bd
namespace Mv
open PySem PySem.W PyProof.Rows L2 Ev Bd Sp Rg Wp
local macro_rules | `(tactic| walk_at "wp1e") => `(tactic| first | with_reducible refine we_c ?_ | with_reducible refine we_op ?_ | with_reducible refine we_un ?_ | with_reducible refine we_callV ?_ | with_reducible refine we_cons ?_ | with_reducible refine we_nil ?_ | with_reducible refine we_asB ?_ | with_reducible refine we_tru ?_ | with_reducible refine we_and ?_ | with_reducible refine we_or ?_ | with_reducible refine we_not ?_ | with_reducible refine we_if ?_ | with_reducible refine wt_and ?_ | with_reducible refine wt_or ?_ | with_reducible refine wt_not ?_ | with_reducible refine wt_yes ?_ | with_reducible refine we_chain ?_ | with_reducible refine we_fld ?_ | with_reducible refine we_isi ?_ | with_reducible refine we_mb ?_ | with_reducible refine we_frz ?_ | with_reducible refine we_cut ?_ | with_reducible refine we_oN ?_ | with_reducible refine we_oS ?_ | with_reducible refine we_any ?_ | with_reducible refine we_star ?_ | with_reducible refine we_lc ?_ | with_reducible refine we_R1 ?_ | with_reducible refine we_R2 ?_ | with_reducible refine we_rg ?_ | with_reducible refine we_enu ?_ | with_reducible refine we_zip ?_ | with_reducible refine we_tup ?_ | with_reducible refine we_lst ?_ | with_reducible refine we_lstC ?_ | with_reducible refine we_cal ?_ | with_reducible refine wg_nm ?_ | with_reducible refine wg_nl ?_ | with_reducible refine wg_cs ?_ | ((with_reducible refine wg_istp ?_); refine wg_tp rfl ?_) | with_reducible refine wg_sb ?_)
local macro_rules | `(tactic| walk_at "wp1s") => `(tactic| first | with_reducible refine ws_seq ?_ | with_reducible refine ws_next ?_ | with_reducible refine ws_cnt ?_ | with_reducible refine ws_brk ?_ | with_reducible refine ws_retN ?_ | with_reducible refine ws_ret ?_ | with_reducible refine ws_expr ?_ | with_reducible refine ws_if ?_ | with_reducible refine ws_asg ?_ | with_reducible refine ws_par2 ?_ | with_reducible refine ws_par3 ?_ | with_reducible refine ws_for ?_)
local macro_rules | `(tactic| walk_at "wp1") => `(tactic| first | walk_at "wp1e" | walk_at "wp1s")
local macro_rules | `(tactic| walk_at "noslf") => `(tactic| first | (intro h; cases h; done) | assumption | nofun)
local macro_rules | `(tactic| walk_at "wp2") => `(tactic| first | ((with_reducible refine we_isv ?_); refine we_var rfl (by walk_at "noslf") ?_) | with_reducible refine br_t ?_ | with_reducible refine br_f ?_ | refine ⟨_, rfl, br_t ?_⟩ | refine ⟨_, rfl, br_f ?_⟩)
local macro_rules | `(tactic| walk_at "wpx") => `(tactic| first | with_reducible refine x_bl ?_ | with_reducible refine t_bl ?_ | with_reducible refine t_lst ?_ | with_reducible refine t_tup ?_ | with_reducible refine t_int ?_ | with_reducible refine t_non ?_ | with_reducible refine a_lst ?_ | with_reducible refine a_tup ?_ | with_reducible refine s_lst ?_ | with_reducible refine s_tup ?_ | with_reducible refine br_not ?_ | with_reducible refine we_lft pAdd_ii ?_ | with_reducible refine we_lft pSub_ii ?_ | with_reducible refine we_lft pLt_ii ?_ | with_reducible refine we_lft pLe_ii ?_ | with_reducible refine we_lft pGt_ii ?_ | with_reducible refine we_lft pGe_ii ?_ | with_reducible refine we_lft pEq_ii ?_ | with_reducible refine we_lft pNe_ii ?_ | with_reducible refine we_lft len_lI ?_ | with_reducible refine we_lft len_tI ?_ | with_reducible refine we_lft len_rL ?_ | with_reducible refine we_lft len_rT ?_ | with_reducible refine we_lft len_lo ?_ | with_reducible refine we_lft pLen_lst ?_ | with_reducible refine we_lft pLen_tup ?_ | with_reducible refine we_lft pInt_i ?_ | with_reducible refine we_lft pInt_b ?_ | with_reducible refine we_lft all_ok ?_ | with_reducible refine we_lft any_ok ?_ | with_reducible refine we_lft sum_lI ?_ | with_reducible refine we_dT ?_ | with_reducible refine we_lft neg_i ?_ | with_reducible refine x_int ?_ | with_reducible refine len_nil2 ?_ | ((with_reducible refine len_isl ?_); refine len_lit rfl ?_))
local macro_rules | `(tactic| walk_at "wsa") => `(tactic| (with_reducible refine ws_seq ?_; with_reducible refine ws_asg ?_))
local macro_rules | `(tactic| walk_at "wsi") => `(tactic| (with_reducible refine ws_seq ?_; with_reducible refine ws_if ?_))
local macro_rules | `(tactic| walk_at "wsf") => `(tactic| (with_reducible refine ws_seq ?_; with_reducible refine ws_for ?_))
local macro_rules | `(tactic| walk_at "wsn") => `(tactic| with_reducible refine ws_next ?_)
local macro_rules | `(tactic| walk_at "wpe") => `(tactic| repeat (first | walk_at "wp1e" | walk_at "wp2" | walk_at "wpx"))
local macro_rules | `(tactic| walk_at "wps") => `(tactic| repeat (first | walk_at "wp1" | walk_at "wp2" | walk_at "wpx"))
section
variable {S : Store}
end
section
variable {cal : Nat → List D → M D} {S : Store} {h w : Nat} {R : Rw} {Q : List Pq}
end
end Mv
namespace Mv
open PySem PySem.W L2 Ev Bd Sp Rg Wp
end Mv
namespace Rk
open PySem Sp Rg Mv
/-- a table that is a ring as a whole -/
structure Hoop (n : Nat) (R : Rw) : Prop where
  len : R.length = n
  g : G01 n R
  row : ∀ j : Int, 0 ≤ j → j < n → ((rng n).map fun k => val R j k).sum = 2
  col : ∀ k : Int, 0 ≤ k → k < n → ((rng n).map fun j => val R j k).sum = 2
  hang : HangS R (rng n) (rng n)
end Rk
namespace Rk
open PySem Sp Rg Mv
end Rk
namespace Rk
open PySem Sp Rg Mv
def tw (n : Nat) (d x : Int) : Int := if x = n then d else x
end Rk
namespace Rk
open PySem Sp Rg Mv
def nx (n : Nat) (a : Int) : Int := (a + 1) % n
structure HoopOf (n : Nat) (T S : List Int) (R : Rw) : Prop where
  len : R.length = n
  g : G01 n R
  v : ∀ a b : Int, 0 ≤ a → a < n → 0 ≤ b → b < n → val R (at' T a) (at' S b) = if b = a ∨ b = nx n a then 1 else 0
end Rk
namespace Bd
open PySem L2 Ev
end Bd
namespace Rk
open PySem PySem.W L2 Ev Bd Sp Rg Mv Wp
/-- the rows of a ring as far as they are made: the ones of the rows before, and some of row j -/
structure Made (n : Nat) (T K : List Int) (j : Nat) (m : Nat) (R : Rw) : Prop where
  len : R.length = n
  g : G01 n R
  v : ∀ a b : Int, 0 ≤ a → a < n → 0 ≤ b → b < n → val R (at' T a) (at' K b) = if (a < j ∧ (b = a ∨ b = nx n a)) ∨ (a = j ∧ ((1 ≤ m ∧ b = a) ∨ (2 ≤ m ∧ b = nx n a))) then 1 else 0
end Rk
namespace Rk
open PySem PySem.W L2 Ev Bd Sp Rg Mv Wp
local macro_rules | `(tactic| walk_at "wp1e") => `(tactic| first | with_reducible refine we_c ?_ | with_reducible refine we_op ?_ | with_reducible refine we_un ?_ | with_reducible refine we_callV ?_ | with_reducible refine we_cons ?_ | with_reducible refine we_nil ?_ | with_reducible refine we_asB ?_ | with_reducible refine we_tru ?_ | with_reducible refine we_and ?_ | with_reducible refine we_or ?_ | with_reducible refine we_not ?_ | with_reducible refine we_if ?_ | with_reducible refine wt_and ?_ | with_reducible refine wt_or ?_ | with_reducible refine wt_not ?_ | with_reducible refine wt_yes ?_ | with_reducible refine we_chain ?_ | with_reducible refine we_fld ?_ | with_reducible refine we_isi ?_ | with_reducible refine we_mb ?_ | with_reducible refine we_frz ?_ | with_reducible refine we_cut ?_ | with_reducible refine we_oN ?_ | with_reducible refine we_oS ?_ | with_reducible refine we_any ?_ | with_reducible refine we_star ?_ | with_reducible refine we_lc ?_ | with_reducible refine we_R1 ?_ | with_reducible refine we_R2 ?_ | with_reducible refine we_rg ?_ | with_reducible refine we_enu ?_ | with_reducible refine we_zip ?_ | with_reducible refine we_tup ?_ | with_reducible refine we_lst ?_ | with_reducible refine we_lstC ?_ | with_reducible refine we_cal ?_ | with_reducible refine wg_nm ?_ | with_reducible refine wg_nl ?_ | with_reducible refine wg_cs ?_ | ((with_reducible refine wg_istp ?_); refine wg_tp rfl ?_) | with_reducible refine wg_sb ?_)
local macro_rules | `(tactic| walk_at "wp1s") => `(tactic| first | with_reducible refine ws_seq ?_ | with_reducible refine ws_next ?_ | with_reducible refine ws_cnt ?_ | with_reducible refine ws_brk ?_ | with_reducible refine ws_retN ?_ | with_reducible refine ws_ret ?_ | with_reducible refine ws_expr ?_ | with_reducible refine ws_if ?_ | with_reducible refine ws_asg ?_ | with_reducible refine ws_par2 ?_ | with_reducible refine ws_par3 ?_ | with_reducible refine ws_for ?_)
local macro_rules | `(tactic| walk_at "wp1") => `(tactic| first | walk_at "wp1e" | walk_at "wp1s")
local macro_rules | `(tactic| walk_at "noslf") => `(tactic| first | (intro h; cases h; done) | assumption | nofun)
local macro_rules | `(tactic| walk_at "wp2") => `(tactic| first | ((with_reducible refine we_isv ?_); refine we_var rfl (by walk_at "noslf") ?_) | with_reducible refine br_t ?_ | with_reducible refine br_f ?_ | refine ⟨_, rfl, br_t ?_⟩ | refine ⟨_, rfl, br_f ?_⟩)
local macro_rules | `(tactic| walk_at "wpx") => `(tactic| first | with_reducible refine x_bl ?_ | with_reducible refine t_bl ?_ | with_reducible refine t_lst ?_ | with_reducible refine t_tup ?_ | with_reducible refine t_int ?_ | with_reducible refine t_non ?_ | with_reducible refine a_lst ?_ | with_reducible refine a_tup ?_ | with_reducible refine s_lst ?_ | with_reducible refine s_tup ?_ | with_reducible refine br_not ?_ | with_reducible refine we_lft pAdd_ii ?_ | with_reducible refine we_lft pSub_ii ?_ | with_reducible refine we_lft pLt_ii ?_ | with_reducible refine we_lft pLe_ii ?_ | with_reducible refine we_lft pGt_ii ?_ | with_reducible refine we_lft pGe_ii ?_ | with_reducible refine we_lft pEq_ii ?_ | with_reducible refine we_lft pNe_ii ?_ | with_reducible refine we_lft len_lI ?_ | with_reducible refine we_lft len_tI ?_ | with_reducible refine we_lft len_rL ?_ | with_reducible refine we_lft len_rT ?_ | with_reducible refine we_lft len_lo ?_ | with_reducible refine we_lft pLen_lst ?_ | with_reducible refine we_lft pLen_tup ?_ | with_reducible refine we_lft pInt_i ?_ | with_reducible refine we_lft pInt_b ?_ | with_reducible refine we_lft all_ok ?_ | with_reducible refine we_lft any_ok ?_ | with_reducible refine we_lft sum_lI ?_ | with_reducible refine we_dT ?_ | with_reducible refine we_lft neg_i ?_ | with_reducible refine x_int ?_ | with_reducible refine len_nil2 ?_ | ((with_reducible refine len_isl ?_); refine len_lit rfl ?_))
local macro_rules | `(tactic| walk_at "wsa") => `(tactic| (with_reducible refine ws_seq ?_; with_reducible refine ws_asg ?_))
local macro_rules | `(tactic| walk_at "wsi") => `(tactic| (with_reducible refine ws_seq ?_; with_reducible refine ws_if ?_))
local macro_rules | `(tactic| walk_at "wsf") => `(tactic| (with_reducible refine ws_seq ?_; with_reducible refine ws_for ?_))
local macro_rules | `(tactic| walk_at "wsn") => `(tactic| with_reducible refine ws_next ?_)
local macro_rules | `(tactic| walk_at "wpe") => `(tactic| repeat (first | walk_at "wp1e" | walk_at "wp2" | walk_at "wpx"))
local macro_rules | `(tactic| walk_at "wps") => `(tactic| repeat (first | walk_at "wp1" | walk_at "wp2" | walk_at "wpx"))
section
variable {cal : Nat → List D → M D} {S : Store}
end
end Rk
namespace Rk
open PySem Sp Rg Mv
end Rk
namespace Rk
open PySem Sp Rg Mv
section
variable {n : Nat} {R : Rw}
end
end Rk
namespace Rk
open PySem PySem.W L2 Ev Bd Sp Rg Mv Wp
local macro_rules | `(tactic| walk_at "wp1e") => `(tactic| first | with_reducible refine we_c ?_ | with_reducible refine we_op ?_ | with_reducible refine we_un ?_ | with_reducible refine we_callV ?_ | with_reducible refine we_cons ?_ | with_reducible refine we_nil ?_ | with_reducible refine we_asB ?_ | with_reducible refine we_tru ?_ | with_reducible refine we_and ?_ | with_reducible refine we_or ?_ | with_reducible refine we_not ?_ | with_reducible refine we_if ?_ | with_reducible refine wt_and ?_ | with_reducible refine wt_or ?_ | with_reducible refine wt_not ?_ | with_reducible refine wt_yes ?_ | with_reducible refine we_chain ?_ | with_reducible refine we_fld ?_ | with_reducible refine we_isi ?_ | with_reducible refine we_mb ?_ | with_reducible refine we_frz ?_ | with_reducible refine we_cut ?_ | with_reducible refine we_oN ?_ | with_reducible refine we_oS ?_ | with_reducible refine we_any ?_ | with_reducible refine we_star ?_ | with_reducible refine we_lc ?_ | with_reducible refine we_R1 ?_ | with_reducible refine we_R2 ?_ | with_reducible refine we_rg ?_ | with_reducible refine we_enu ?_ | with_reducible refine we_zip ?_ | with_reducible refine we_tup ?_ | with_reducible refine we_lst ?_ | with_reducible refine we_lstC ?_ | with_reducible refine we_cal ?_ | with_reducible refine wg_nm ?_ | with_reducible refine wg_nl ?_ | with_reducible refine wg_cs ?_ | ((with_reducible refine wg_istp ?_); refine wg_tp rfl ?_) | with_reducible refine wg_sb ?_)
local macro_rules | `(tactic| walk_at "wp1s") => `(tactic| first | with_reducible refine ws_seq ?_ | with_reducible refine ws_next ?_ | with_reducible refine ws_cnt ?_ | with_reducible refine ws_brk ?_ | with_reducible refine ws_retN ?_ | with_reducible refine ws_ret ?_ | with_reducible refine ws_expr ?_ | with_reducible refine ws_if ?_ | with_reducible refine ws_asg ?_ | with_reducible refine ws_par2 ?_ | with_reducible refine ws_par3 ?_ | with_reducible refine ws_for ?_)
local macro_rules | `(tactic| walk_at "wp1") => `(tactic| first | walk_at "wp1e" | walk_at "wp1s")
local macro_rules | `(tactic| walk_at "noslf") => `(tactic| first | (intro h; cases h; done) | assumption | nofun)
local macro_rules | `(tactic| walk_at "wp2") => `(tactic| first | ((with_reducible refine we_isv ?_); refine we_var rfl (by walk_at "noslf") ?_) | with_reducible refine br_t ?_ | with_reducible refine br_f ?_ | refine ⟨_, rfl, br_t ?_⟩ | refine ⟨_, rfl, br_f ?_⟩)
local macro_rules | `(tactic| walk_at "wpx") => `(tactic| first | with_reducible refine x_bl ?_ | with_reducible refine t_bl ?_ | with_reducible refine t_lst ?_ | with_reducible refine t_tup ?_ | with_reducible refine t_int ?_ | with_reducible refine t_non ?_ | with_reducible refine a_lst ?_ | with_reducible refine a_tup ?_ | with_reducible refine s_lst ?_ | with_reducible refine s_tup ?_ | with_reducible refine br_not ?_ | with_reducible refine we_lft pAdd_ii ?_ | with_reducible refine we_lft pSub_ii ?_ | with_reducible refine we_lft pLt_ii ?_ | with_reducible refine we_lft pLe_ii ?_ | with_reducible refine we_lft pGt_ii ?_ | with_reducible refine we_lft pGe_ii ?_ | with_reducible refine we_lft pEq_ii ?_ | with_reducible refine we_lft pNe_ii ?_ | with_reducible refine we_lft len_lI ?_ | with_reducible refine we_lft len_tI ?_ | with_reducible refine we_lft len_rL ?_ | with_reducible refine we_lft len_rT ?_ | with_reducible refine we_lft len_lo ?_ | with_reducible refine we_lft pLen_lst ?_ | with_reducible refine we_lft pLen_tup ?_ | with_reducible refine we_lft pInt_i ?_ | with_reducible refine we_lft pInt_b ?_ | with_reducible refine we_lft all_ok ?_ | with_reducible refine we_lft any_ok ?_ | with_reducible refine we_lft sum_lI ?_ | with_reducible refine we_dT ?_ | with_reducible refine we_lft neg_i ?_ | with_reducible refine x_int ?_ | with_reducible refine len_nil2 ?_ | ((with_reducible refine len_isl ?_); refine len_lit rfl ?_))
local macro_rules | `(tactic| walk_at "wsa") => `(tactic| (with_reducible refine ws_seq ?_; with_reducible refine ws_asg ?_))
local macro_rules | `(tactic| walk_at "wsi") => `(tactic| (with_reducible refine ws_seq ?_; with_reducible refine ws_if ?_))
local macro_rules | `(tactic| walk_at "wsf") => `(tactic| (with_reducible refine ws_seq ?_; with_reducible refine ws_for ?_))
local macro_rules | `(tactic| walk_at "wsn") => `(tactic| with_reducible refine ws_next ?_)
local macro_rules | `(tactic| walk_at "wpe") => `(tactic| repeat (first | walk_at "wp1e" | walk_at "wp2" | walk_at "wpx"))
local macro_rules | `(tactic| walk_at "wps") => `(tactic| repeat (first | walk_at "wp1" | walk_at "wp2" | walk_at "wpx"))
structure C20 (cal : Nat → List D → M D) : Prop where
  dip : Drw ReedJ (cal 60)
  mix : Mix ReedJ (cal 64)
  rgrid : ∀ (n : Nat) T K S, 3 ≤ n → n ≤ 8 → T.Perm (rng n) → K.Perm (rng n) → ∃ R S', cal 201 [.int n, lI T, lI K] S = .ok (rowsL R) S' ∧ HoopOf n T K R ∧ Keep S S'
  text : ∀ h w R S, Full h w R → cal 2 [rowsL R] S = .ok (.str (txt R)) S
  tab : ∀ h w R S, Full h w R → cal 1 [.str (txt R)] S = .ok (tabD h w R) S
  odd : ∀ h w R S, Full h w R → ∃ S', cal 48 [tabD h w R] S = .ok (.tup ((lawL R h w).map ringD)) S' ∧ Keep S S'
  even : ∀ h w R S, Full h w R → ∃ S', cal 47 [tabD h w R] S = .ok (.bl (lawL R h w).isEmpty) S' ∧ Keep S S'
  times : ∀ (n : Nat) S, 3 ≤ n → n ≤ 7 → cal 200 [.int n] S = .ok (.int ((n * (n - 1) * (n - 2) / 6 : Nat) : Int)) S
theorem at_keepR {I : List D → Prop} {t : Nat} {S S' : Store} (a : At I t S) (k : Keep S S') : At I t S' := by
  have h := a.lt
  obtain ⟨c, h1, h2⟩ := a
  exact ⟨c, by rw [k.2 t h]; exact h1, h2⟩
section
variable {cal : Nat → List D → M D} {S : Store}
end
end Rk
namespace Bd
open PySem L2 Ev
def b_law_v32 (cal : Nat → List D → M D) : MS :=
    (sRet (eCallV (pAll true) (aCons (eLc newL (iR1 (aCons (eC (.int 3)) aNil)) (uNm 1) tYesM (eCal (cal 237) (aCons (eCal (cal 44) (aCons (eVar 0) (aCons (eVar 1) aNil))) aNil)) [1]) aNil)))
def b__law_right_v31 (cal : Nat → List D → M D) : MS :=
    (sSeq (sAsg (eOp pAdd (eC (.int 2)) (eCal (cal 60) (aCons (eVar 0) (aCons (eC (.int 4)) aNil)))) (gNm 1))
    (sSeq (sAsg (eFrz (eCal (cal 58) (aCons (eVar 0) (aCons (eC (.int 8)) (aCons (eVar 1) aNil))))) (gNm 2))
    (sSeq (sIf (tAndM (fun δ => asB (eOp pGt (eVar 1) (eC (.int 2)) δ)) (fun δ => asB (eOp pEq (eCal (cal 60) (aCons (eVar 0) (aCons (eC (.int 2)) aNil))) (eC (.int 0)) δ))) (sAsg (eCal (cal 57) (aCons (eVar 0) (aCons (eC (.int 8)) (aCons (eVar 1) (aCons (eC (.int 3)) aNil))))) (gNm 2)) sNext)
    (sSeq (sIf (tNotM (fun δ => tru ((eCal (cal 50) (aCons (eVar 2) aNil)) δ))) (sRet (eC (.bl true))) sNext)
    (sSeq (sAsg (eCal (cal 1) (aCons (eCal (cal 2) (aCons (eVar 2) aNil)) aNil)) (gNm 3))
    (sSeq (sAsg (eLc newL (iAny (eCal (cal 238) (aCons (eVar 1) aNil))) (uNm 5) (fun δ => tru ((eCal (cal 155) (aCons (eVar 3) (aCons (eVar 5) aNil))) δ)) (eVar 5) [5]) (gNm 4))
    (sSeq (sIf (fun δ => asB (eOp pNe (eCal (cal 154) (aCons (eVar 3) aNil)) (eCallV (pLen) (aCons (eVar 4) aNil)) δ)) (sRet (eC (.bl false))) sNext)
    (sSeq (sFor (iR1 (aCons (eVar 1) aNil)) (gNm 6) (sIf (fun δ => asB (eOp pNotIn (eCallV pTuple (aCons (eLc newL (iR1 (aCons (eVar 1) aNil)) (uNm 7) tYesM (eCallV pInt (aCons (eOp pEq (eVar 7) (eVar 6)) aNil)) [7]) aNil)) (eVar 4) δ)) (sRet (eC (.bl false))) sNext))
    (sSeq (sIf (fun δ => asB (eOp pNotIn (eOp pMulT (eTup (aCons (eC (.int 1)) aNil)) (eVar 1)) (eVar 4) δ)) (sRet (eC (.bl false))) sNext)
    (sSeq (sAsg (eLst aNil) (gNm 8))
    (sSeq (sFor (iAny (eCal (cal 48) (aCons (eVar 3) aNil))) (gNm 9) (sAsg (eOp pAdd (eVar 8) (eCallV (pList newL) (aCons (eOp pIx (eVar 9) (eC (.int 0))) aNil))) (gNm 8)))
    (sSeq (sFor (iR1 (aCons (eC (.int 8)) aNil)) (gNm 7) (sIf (fun δ => asB (eOp pNe (eOp pIn (eCallV pTuple (aCons (eOp pIx (eVar 2) (eVar 7)) aNil)) (eVar 4)) (eOp pNotIn (eVar 7) (eVar 8)) δ)) (sRet (eC (.bl false))) sNext))
    (sRet (eC (.bl true)))))))))))))))
def b__law_every_v2 (cal : Nat → List D → M D) : MS :=
    (sSeq (sAsg (eLst (aCons (eTup aNil) aNil)) (gNm 1))
    (sSeq (sFor (iR1 (aCons (eVar 0) aNil)) (gNm 2) (sAsg (eOp pAdd (eLc newL (iAny (eVar 1)) (uNm 3) tYesM (eOp pAdd (eVar 3) (eTup (aCons (eC (.int 0)) aNil))) [3]) (eLc newL (iAny (eVar 1)) (uNm 3) tYesM (eOp pAdd (eVar 3) (eTup (aCons (eC (.int 1)) aNil))) [3])) (gNm 1)))
    (sRet (eLc newL (iAny (eVar 1)) (uNm 3) (fun δ => asB (eOp pIn (eC (.int 1)) (eVar 3) δ)) (eVar 3) [3]))))
end Bd
namespace Rz
open PySem PySem.W PyProof.Rows L2 Ev Bd Sp Wp Rg Rt
theorem bit_one {R : Rw} {j k : Int} : bit R j k = true ↔ val R j k = 1 := by rw [bit_val, beq_iff_eq]
theorem stay_iff {h w : Nat} {R : Rw} {d : List Int} (hl : R.length = h) : stay h w R d = true ↔ ∀ q, LawR (h + 1) w (R ++ [d]) q → (h : Int) ∉ q.1 := by
  unfold stay
  rw [decide_eq_true_eq, ← same_iff hl]
  constructor
  · intro e q Q hm
    have := mem_lawL.mpr Q
    rw [e] at this
    have := (mem_lawL.mp this).rg1 _ hm
    omega
  · intro H
    have nd : ∀ {R : Rw} {h : Nat}, (lawL R h w).Nodup := fun {R h} => List.Pairwise.imp (fun h e => by subst e; exact ltQ_asymm h h) lawL_sorted
    have sup : ∀ q, LawR (h + 1) w (R ++ [d]) q → LawR h w R q := fun q Q => by
      have hn := H q Q
      have rg : ∀ a ∈ q.1, 0 ≤ a ∧ a < (h : Int) := fun a ha => by
        have := Q.rg1 a ha
        have : a ≠ h := fun e => hn (e ▸ ha)
        omega
      have := Mv.law_move (R := R) (h := h) (w := w) (σ := id) (π := id) Q (fun _ _ _ _ e => e) (fun _ _ _ _ e => e) rg (fun a ha => Q.rg2 a ha) fun a ha b hb => by
        show val (R ++ [d]) a b = val R a b
        exact val_app (rg a ha).1 (by rw [hl]; exact (rg a ha).2)
      have e : Mv.ren id id q = q := by
        unfold Mv.ren
        rw [List.map_id, List.map_id]
        exact Prod.ext (asc_perm (srt_asc (asc_nodup Q.asc1)) Q.asc1 srt_perm) (asc_perm (srt_asc (asc_nodup Q.asc2)) Q.asc2 srt_perm)
      rwa [e] at this
    have e1 := srtR_eq (L := lawL R h w) nd lawL_sorted fun q => ⟨fun hq => mem_lawL.mpr (law_more hl (mem_lawL.mp hq)), fun hq => mem_lawL.mpr (sup q (mem_lawL.mp hq))⟩
    have e2 := srtR_eq (L := lawL R h w) (M := lawL R h w) nd lawL_sorted fun q => Iff.rfl
    rw [← e1, e2]
theorem val_new {R : Rw} {d : List Int} {k : Int} : val (R ++ [d]) R.length k = d.getD k.toNat 0 := by
  unfold val
  rw [show ((R.length : Nat) : Int).toNat = R.length by omega]
  have : (R ++ [d]).getD R.length [] = d := by simp [List.getD_eq_getElem?_getD]
  rw [this]
section
variable {h w : Nat} {R : Rw} {d : List Int}
theorem new_row (hl : R.length = h) (g : G01 w (R ++ [d])) {q : Pq} (Q : LawR (h + 1) w (R ++ [d]) q) (hm : (h : Int) ∈ q.1) : (q.2.filter fun k => d.getD k.toNat 0 == 1).length = 2 := by
  have e := Q.row _ hm
  have hl' : (R ++ [d]).length = h + 1 := by simp [hl]
  rw [sum01 _ fun k hk => val01 g hl' (by omega) (by omega) (Q.rg2 k hk).1 (Q.rg2 k hk).2] at e
  have : (q.2.filter fun k => val (R ++ [d]) (h : Int) k == 1).length = 2 := by omega
  rw [← this]
  congr 1
  refine List.filter_congr fun k _ => ?_
  rw [← hl, val_new]
/-- rows with one 1 -/
theorem stay_unit (hl : R.length = h) (g : G01 w (R ++ [d])) {k : Int} (hd : ∀ x : Int, 0 ≤ x → x < w → d.getD x.toNat 0 = 1 → x = k) : stay h w R d = true := by
  rw [stay_iff hl]
  intro q Q hm
  have e := new_row hl g Q hm
  have nd : (q.2.filter fun k => d.getD k.toNat 0 == 1).Nodup := List.Sublist.nodup List.filter_sublist (asc_nodup Q.asc2)
  have := nodup_le nd (m := [k]) fun x hx => by
    obtain ⟨m, b⟩ := List.mem_filter.mp hx
    have r := Q.rg2 x m
    rw [List.mem_singleton]
    exact hd x r.1 r.2 (by simpa using b)
  rw [List.length_singleton] at this
  omega
/-- ones alone -/
theorem stay_ones (hl : R.length = h) (g : G01 w (R ++ [d])) (hd : ∀ x : Int, 0 ≤ x → x < w → d.getD x.toNat 0 = 1) : stay h w R d = true := by
  rw [stay_iff hl]
  intro q Q hm
  have e := new_row hl g Q hm
  rw [List.filter_eq_self.mpr fun x hx => by rw [hd x (Q.rg2 x hx).1 (Q.rg2 x hx).2]; rfl] at e
  have := Q.eq
  have := Q.size
  omega
/-- a row once more -/
theorem stay_again (hl : R.length = h) (g : G01 w (R ++ [d])) {j : Nat} (hj : j < h) (hd : R.getD j [] = d) : stay h w R d = true ↔ ∀ q, LawR h w R q → (j : Int) ∉ q.1 := by
  rw [stay_iff hl]
  have vj : ∀ k : Int, val (R ++ [d]) (j : Int) k = val (R ++ [d]) (h : Int) k := fun k => by
    rw [val_app (by omega) (by omega), ← hl, val_new]
    unfold val
    rw [show ((j : Nat) : Int).toNat = j by omega, hd]
  have hl' : (R ++ [d]).length = h + 1 := by simp [hl]
  -- both rows at once
  have both : ∀ q, LawR (h + 1) w (R ++ [d]) q → (j : Int) ∈ q.1 → (h : Int) ∈ q.1 → False := fun q Q mj mh => by
    have ne : q.1 ≠ [] := fun e => by rw [e] at mj; simp at mj
    have H := (Mv.hang_iff ne).mp Q.hang
    have all : ∀ x ∈ q.1, x = (j : Int) ∨ x = (h : Int) := H (fun x => x = (j : Int) ∨ x = (h : Int)) ⟨_, mj, .inl rfl⟩ fun i hi x hx k hk pi bi bx => by
      apply Classical.byContradiction
      intro hn
      have e := Q.col k hk
      have rk := Q.rg2 k hk
      rw [sum01 _ fun i hi => val01 g hl' (Q.rg1 i hi).1 (Q.rg1 i hi).2 rk.1 rk.2] at e
      have b1 : val (R ++ [d]) (j : Int) k = 1 ∧ val (R ++ [d]) (h : Int) k = 1 := by
        rw [bit_one] at bi
        rcases pi with rfl | rfl
        · exact ⟨bi, by rw [← vj]; exact bi⟩
        · exact ⟨by rw [vj]; exact bi, bi⟩
      rw [bit_one] at bx
      have := nodup_le (l := [(j : Int), (h : Int), x]) (m := q.1.filter fun i => val (R ++ [d]) i k == 1) (by
        simp only [List.nodup_cons, List.mem_cons, List.not_mem_nil, or_false, not_or, List.nodup_nil, and_true, not_false_eq_true]
        exact ⟨⟨by omega, fun e => hn (.inl e.symm)⟩, fun e => hn (.inr e.symm)⟩) fun y hy => by
        simp only [List.mem_cons, List.not_mem_nil, or_false] at hy
        rcases hy with rfl | rfl | rfl
        · exact List.mem_filter.mpr ⟨mj, by simpa using b1.1⟩
        · exact List.mem_filter.mpr ⟨mh, by simpa using b1.2⟩
        · exact List.mem_filter.mpr ⟨hx, by simpa using bx⟩
      simp at this
      omega
    have := nodup_le (asc_nodup Q.asc1) (m := [(j : Int), (h : Int)]) fun x hx => by simpa using all x hx
    have := Q.size
    simp at *
    omega
  constructor
  · intro H q Q mj
    have rg : ∀ a ∈ q.1, 0 ≤ a ∧ a < (h : Int) := Q.rg1
    have Q' := Mv.law_move (R := R ++ [d]) (h := h + 1) (w := w) (σ := fun x => if x = (j : Int) then (h : Int) else x) (π := id) Q (fun a ha b hb e => by
        have ra := rg a ha
        have rb := rg b hb
        split at e <;> split at e <;> omega) (fun _ _ _ _ e => e) (fun a ha => by
        have := rg a ha
        split <;> omega) (fun a ha => Q.rg2 a ha) fun a ha b hb => by
      have ra := rg a ha
      show val R a b = val (R ++ [d]) (if a = (j : Int) then (h : Int) else a) b
      split
      · rename_i e
        rw [← vj, val_app (by omega) (by omega), e]
      · rw [val_app ra.1 (by omega)]
    refine H _ Q' ?_
    unfold Mv.ren
    exact (srt_perm.mem_iff).mpr (List.mem_map.mpr ⟨(j : Int), mj, by simp⟩)
  · intro H q Q mh
    have nj : (j : Int) ∉ q.1 := fun mj => both q Q mj mh
    have rg : ∀ a ∈ q.1, 0 ≤ a ∧ a < (h : Int) + 1 := fun a ha => by have := Q.rg1 a ha; omega
    have Q' := Mv.law_move (R := R) (h := h) (w := w) (σ := fun x => if x = (h : Int) then (j : Int) else x) (π := id) Q (fun a ha b hb e => by
        have na : a ≠ (j : Int) := fun z => nj (z ▸ ha)
        have nb : b ≠ (j : Int) := fun z => nj (z ▸ hb)
        split at e <;> split at e <;> omega) (fun _ _ _ _ e => e) (fun a ha => by
        have := rg a ha
        split <;> omega) (fun a ha => Q.rg2 a ha) fun a ha b hb => by
      have ra := rg a ha
      show val (R ++ [d]) a b = val R (if a = (h : Int) then (j : Int) else a) b
      split
      · rename_i e
        rw [e, ← vj, val_app (by omega) (by omega)]
      · rw [val_app ra.1 (by omega)]
    refine H _ Q' ?_
    unfold Mv.ren
    exact (srt_perm.mem_iff).mpr (List.mem_map.mpr ⟨(h : Int), mh, by simp⟩)
end
end Rz
namespace Rz
open PySem PySem.W PyProof.Rows L2 Ev Bd Sp Wp Rg Rt
local macro_rules | `(tactic| walk_at "wp1e") => `(tactic| first | with_reducible refine we_c ?_ | with_reducible refine we_op ?_ | with_reducible refine we_un ?_ | with_reducible refine we_callV ?_ | with_reducible refine we_cons ?_ | with_reducible refine we_nil ?_ | with_reducible refine we_asB ?_ | with_reducible refine we_tru ?_ | with_reducible refine we_and ?_ | with_reducible refine we_or ?_ | with_reducible refine we_not ?_ | with_reducible refine we_if ?_ | with_reducible refine wt_and ?_ | with_reducible refine wt_or ?_ | with_reducible refine wt_not ?_ | with_reducible refine wt_yes ?_ | with_reducible refine we_chain ?_ | with_reducible refine we_fld ?_ | with_reducible refine we_isi ?_ | with_reducible refine we_mb ?_ | with_reducible refine we_frz ?_ | with_reducible refine we_cut ?_ | with_reducible refine we_oN ?_ | with_reducible refine we_oS ?_ | with_reducible refine we_any ?_ | with_reducible refine we_star ?_ | with_reducible refine we_lc ?_ | with_reducible refine we_R1 ?_ | with_reducible refine we_R2 ?_ | with_reducible refine we_rg ?_ | with_reducible refine we_enu ?_ | with_reducible refine we_zip ?_ | with_reducible refine we_tup ?_ | with_reducible refine we_lst ?_ | with_reducible refine we_lstC ?_ | with_reducible refine we_cal ?_ | with_reducible refine wg_nm ?_ | with_reducible refine wg_nl ?_ | with_reducible refine wg_cs ?_ | ((with_reducible refine wg_istp ?_); refine wg_tp rfl ?_) | with_reducible refine wg_sb ?_)
local macro_rules | `(tactic| walk_at "wp1s") => `(tactic| first | with_reducible refine ws_seq ?_ | with_reducible refine ws_next ?_ | with_reducible refine ws_cnt ?_ | with_reducible refine ws_brk ?_ | with_reducible refine ws_retN ?_ | with_reducible refine ws_ret ?_ | with_reducible refine ws_expr ?_ | with_reducible refine ws_if ?_ | with_reducible refine ws_asg ?_ | with_reducible refine ws_par2 ?_ | with_reducible refine ws_par3 ?_ | with_reducible refine ws_for ?_)
local macro_rules | `(tactic| walk_at "wp1") => `(tactic| first | walk_at "wp1e" | walk_at "wp1s")
local macro_rules | `(tactic| walk_at "noslf") => `(tactic| first | (intro h; cases h; done) | assumption | nofun)
local macro_rules | `(tactic| walk_at "wp2") => `(tactic| first | ((with_reducible refine we_isv ?_); refine we_var rfl (by walk_at "noslf") ?_) | with_reducible refine br_t ?_ | with_reducible refine br_f ?_ | refine ⟨_, rfl, br_t ?_⟩ | refine ⟨_, rfl, br_f ?_⟩)
local macro_rules | `(tactic| walk_at "wpx") => `(tactic| first | with_reducible refine x_bl ?_ | with_reducible refine t_bl ?_ | with_reducible refine t_lst ?_ | with_reducible refine t_tup ?_ | with_reducible refine t_int ?_ | with_reducible refine t_non ?_ | with_reducible refine a_lst ?_ | with_reducible refine a_tup ?_ | with_reducible refine s_lst ?_ | with_reducible refine s_tup ?_ | with_reducible refine br_not ?_ | with_reducible refine we_lft pAdd_ii ?_ | with_reducible refine we_lft pSub_ii ?_ | with_reducible refine we_lft pLt_ii ?_ | with_reducible refine we_lft pLe_ii ?_ | with_reducible refine we_lft pGt_ii ?_ | with_reducible refine we_lft pGe_ii ?_ | with_reducible refine we_lft pEq_ii ?_ | with_reducible refine we_lft pNe_ii ?_ | with_reducible refine we_lft len_lI ?_ | with_reducible refine we_lft len_tI ?_ | with_reducible refine we_lft len_rL ?_ | with_reducible refine we_lft len_rT ?_ | with_reducible refine we_lft len_lo ?_ | with_reducible refine we_lft pLen_lst ?_ | with_reducible refine we_lft pLen_tup ?_ | with_reducible refine we_lft pInt_i ?_ | with_reducible refine we_lft pInt_b ?_ | with_reducible refine we_lft all_ok ?_ | with_reducible refine we_lft any_ok ?_ | with_reducible refine we_lft sum_lI ?_ | with_reducible refine we_dT ?_ | with_reducible refine we_lft neg_i ?_ | with_reducible refine x_int ?_ | with_reducible refine len_nil2 ?_ | ((with_reducible refine len_isl ?_); refine len_lit rfl ?_))
local macro_rules | `(tactic| walk_at "wsa") => `(tactic| (with_reducible refine ws_seq ?_; with_reducible refine ws_asg ?_))
local macro_rules | `(tactic| walk_at "wsi") => `(tactic| (with_reducible refine ws_seq ?_; with_reducible refine ws_if ?_))
local macro_rules | `(tactic| walk_at "wsf") => `(tactic| (with_reducible refine ws_seq ?_; with_reducible refine ws_for ?_))
local macro_rules | `(tactic| walk_at "wsn") => `(tactic| with_reducible refine ws_next ?_)
local macro_rules | `(tactic| walk_at "wpe") => `(tactic| repeat (first | walk_at "wp1e" | walk_at "wp2" | walk_at "wpx"))
local macro_rules | `(tactic| walk_at "wps") => `(tactic| repeat (first | walk_at "wp1" | walk_at "wp2" | walk_at "wpx"))
theorem toPSs_T58 {S : Store} : ∀ L : Rw, toPSs S (L.map Sp.tI) = some (L.map pyT)
  | [] => rfl
  | l :: L => by
    have e : toPS S (Sp.tI l) = some (pyT l) := by simp only [toPS, toPSs_ints, Option.map_some, pyT]
    simp only [List.map_cons, toPSs, e, toPSs_T58 L, Option.map_some, Option.bind_some]
theorem inD_lots {S : Store} {d : List Int} {L : Rw} : inD S (Sp.tI d) (lotsL L) = some (decide (d ∈ L)) := by
  have e1 : toPS S (Sp.tI d) = some (pyT d) := by simp only [toPS, toPSs_ints, Option.map_some, pyT]
  have e2 : toPS S (lotsL L) = some (.list (L.map pyT)) := by simp only [toPS, toPSs_T58, Option.map_some]
  have hd : (pyT d).depth ≤ 60 := by
    unfold pyT
    simp only [PyData.depth]
    have := Rg.depth_ints d
    omega
  have key : ((L.map pyT).any fun b => PyData.eqv b (pyT d)) = decide (d ∈ L) := by
    rw [Bool.eq_iff_iff, List.any_eq_true, decide_eq_true_eq]
    constructor
    · rintro ⟨b, hb, e⟩
      obtain ⟨l, hl, rfl⟩ := List.mem_map.mp hb
      rw [eqv_t, decide_eq_true_eq] at e
      exact e ▸ hl
    · intro h
      exact ⟨pyT d, List.mem_map.mpr ⟨d, h, rfl⟩, by rw [eqv_t]; simp⟩
  show (match toPS S (Sp.tI d), toPS S (lotsL L) with
    | some a, some (.list bs) => if a.depth ≤ 60 then some (bs.any fun b => PyData.eqv b a) else none
    | some a, some (.tuple bs) => if a.depth ≤ 60 then some (bs.any fun b => PyData.eqv b a) else none
    | _, _ => none) = _
  rw [e1, e2]
  simp only [hd, if_true, key]
theorem in_lots {S : Store} {d : List Int} {L : Rw} : pIn (Sp.tI d) (lotsL L) S = some (.bl (decide (d ∈ L)), S) := by simp only [pIn, inD_lots, Option.map_some]
theorem notin_lots {S : Store} {d : List Int} {L : Rw} : pNotIn (Sp.tI d) (lotsL L) S = some (.bl (!decide (d ∈ L)), S) := by simp only [pNotIn, inD_lots, Option.map_some]
section
variable {cal : Nat → List D → M D}
theorem every2_ev {w : Nat} (w1 : 0 < w) (w8 : w ≤ 8) {S : Store} : funM 4 1 (b__law_every_v2 cal) [.int w] S = .ok (lotsL ((bitsL w).filter fun d => decide ((1 : Int) ∈ d))) S := by
  have bl : ∀ k, k ≤ 8 → (bitsL k).length ≤ 256 := fun k hk => by rw [bitsL_len]; exact Nat.le_trans (Nat.pow_le_pow_right (by omega) hk) (by decide)
  have key : WE (funM 4 1 (b__law_every_v2 cal) [.int w]) S fun x S' => x = lotsL ((bitsL w).filter fun d => decide ((1 : Int) ∈ d)) ∧ S' = S := by
    unfold b__law_every_v2
    refine we_fun rfl ?_
    show WS (sSeq _ _ [some (.int w), none, none, none] S) _
    walk_at "wsa"
    with_reducible refine we_lst ?_
    with_reducible refine we_cons ?_
    with_reducible refine we_tup ?_
    with_reducible refine we_nil ?_
    refine len_nil2 ?_
    with_reducible refine we_nil ?_
    refine len_lit rfl ?_
    refine wg_nm ?_
    walk_at "wsf"
    walk_at "wpe"
    refine ⟨w, rfl, by omega, ?_⟩
    refine ws_loop (fun k δ S' => (∃ o2, δ = ([some (.int w), some (lotsL (bitsL k)), o2, none] : En)) ∧ S' = S) ?_ ?_ ⟨⟨_, rfl⟩, rfl⟩
    · rintro k hk δ S' ⟨⟨o2, rfl⟩, hS'⟩
      subst hS'
      rw [rng_len] at hk
      rw [rng_get]
      have hb := bl k (by omega)
      have hel : ∀ l ∈ bitsL k, l.length = k := fun l hl => (mem_bits.mp (mem_bitsL.mp hl)).1
      refine wg_nm ?_
      with_reducible refine ws_asg ?_
      walk_at "wpe"
      refine we_loopM (S := S') Sp.tI Sp.tI (fun l => l ++ [(0 : Int)]) (zs := bitsL k) (by omega) (fun l hl => ?_) ?_
      · refine ⟨_, rfl, ?_⟩
        have := hel l hl
        walk_at "wpe"
        refine wl_addTT (by rw [iD_len]; simp; omega) ⟨rfl, ?_⟩
        rw [show Sp.tI (l ++ [(0 : Int)]) = .tup (iD l ++ [.int 0]) by rw [Sp.tI, iD_app]; rfl]
      refine we_newL (by rw [List.length_map, List.length_map]; exact small (by omega)) ?_
      walk_at "wpe"
      refine we_loopM (S := S') Sp.tI Sp.tI (fun l => l ++ [(1 : Int)]) (zs := bitsL k) (by omega) (fun l hl => ?_) ?_
      · refine ⟨_, rfl, ?_⟩
        have := hel l hl
        walk_at "wpe"
        refine wl_addTT (by rw [iD_len]; simp; omega) ⟨rfl, ?_⟩
        rw [show Sp.tI (l ++ [(1 : Int)]) = .tup (iD l ++ [.int 1]) by rw [Sp.tI, iD_app]; rfl]
      refine we_newL (by rw [List.length_map, List.length_map]; exact small (by omega)) ?_
      refine wl_addLL (by simp; omega) ?_
      refine wg_nm ?_
      refine ⟨⟨some (.int k), ?_⟩, rfl⟩
      rw [← List.map_append]
      rfl
    · rintro δ S' ⟨⟨o2, rfl⟩, hS'⟩
      subst hS'
      rw [rng_len]
      have hb := bl w w8
      with_reducible refine ws_ret ?_
      walk_at "wpe"
      refine we_loopE (S := S') Sp.tI Sp.tI (fun d => decide ((1 : Int) ∈ d)) id (zs := bitsL w) (by omega) (fun l hl => ?_) ?_
      · refine ⟨_, rfl, ?_⟩
        walk_at "wpe"
        refine we_lft in_tI ?_
        walk_at "wpe"
        refine ⟨rfl, rfl, fun _ => ?_⟩
        walk_at "wpe"
        exact ⟨rfl, rfl⟩
      rw [List.map_id]
      have hf := List.length_filter_le (fun d => decide ((1 : Int) ∈ d)) (bitsL w)
      exact we_newL (by rw [List.length_map]; exact small (by omega)) ⟨rfl, rfl⟩
  obtain ⟨x, S', e, rfl, rfl⟩ := key
  exact e
end
structure C58 (cal : Nat → List D → M D) : Prop where
  dip : Drw ReedJ (cal 60)
  any : AnyF ReedJ (cal 58)
  ringed : RingedF ReedJ (cal 57)
  full : ∀ (R : Rw) (most : Nat) S, Grid most R → most ≤ 8 → ∃ b, cal 50 [rowsL R] S = .ok (.bl b) S ∧ (b = true → ∃ h w, Full h w R ∧ h ≤ most ∧ w ≤ most)
  text : ∀ h w R S, Full h w R → cal 2 [rowsL R] S = .ok (.str (txt R)) S
  tab : ∀ h w R S, Full h w R → cal 1 [.str (txt R)] S = .ok (tabD h w R) S
  every : ∀ (w : Nat) S, 0 < w → w ≤ 8 → cal 238 [.int w] S = .ok (lotsL ((bitsL w).filter fun d => decide ((1 : Int) ∈ d))) S
  may : ∀ w R d S, Full 8 w R → w ≤ 5 → d ∈ bits w → (1 : Int) ∈ d → ∃ S', cal 155 [tabD 8 w R, Sp.tI d] S = .ok (.bl (stay 8 w R d)) S' ∧ Keep S S'
  more : ∀ w R S, Full 8 w R → w ≤ 5 → ∃ S', cal 154 [tabD 8 w R] S = .ok (.int (((bits w).filter fun d => decide ((1 : Int) ∈ d) && stay 8 w R d).length : Nat)) S' ∧ Keep S S'
  odd : ∀ h w R S, Full h w R → ∃ S', cal 48 [tabD h w R] S = .ok (.tup ((lawL R h w).map ringD)) S' ∧ Keep S S'
theorem ne_bb58 {a b : Bool} {S : Store} : pNe (.bl a) (.bl b) S = some (.bl (a != b), S) := by
  cases a <;> cases b <;> rfl
theorem mulT58 {n : Nat} (h1 : 1 ≤ n) (hn : n ≤ 1000) {S : Store} : pMulT (.tup [.int 1]) (.int n) S = some (Sp.tI (List.replicate n 1), S) := by
  have e : (List.replicate n [D.int 1]).flatten = iD (List.replicate n 1) := by
    simp [iD, List.flatten_replicate_singleton]
  unfold pMulT
  simp only
  rw [if_pos ⟨by simp, by omega, by omega, by simp⟩]
  by_cases h : n = 1
  · subst h; rfl
  · rw [if_neg (by omega), Int.toNat_natCast, e]
    exact newT_ev (small (by simp [iD]; omega))
theorem app_g {w : Nat} {R : Rw} {d : List Int} (g : G01 w R) (hl : d.length = w) (hb : ∀ i ∈ d, i = 0 ∨ i = 1) : G01 w (R ++ [d]) := fun r hr => by
  rcases List.mem_append.mp hr with hr | hr
  · exact g r hr
  · rw [List.mem_singleton.mp hr]; exact ⟨hl, hb⟩
theorem right58_ev {cal : Nat → List D → M D} (C : C58 cal) {t : Nat} {S : Store} (ht : At ReedJ t S) : WE (funM 10 1 (b__law_right_v31 cal) [.ref t]) S fun d _ => d = .bl true := by
  unfold b__law_right_v31
  refine we_fun rfl ?_
  show WS (sSeq _ _ [some (.ref t), none, none, none, none, none, none, none, none, none] S) _
  walk_at "wsa"
  walk_at "wpe"
  refine we_dip C.dip ht (by omega) (by omega) fun f S1 hf a1 f1 l1 => ?_
  refine we_lft pAdd_ii ?_
  obtain ⟨w, hw⟩ : ∃ w : Nat, w = 2 + f := ⟨_, rfl⟩
  rw [show (2 : Int) + (f : Int) = (w : Int) by omega]
  have w2 : 2 ≤ w := by omega
  have w5 : w ≤ 5 := by omega
  clear hw hf f1 l1
  refine wg_nm ?_
  walk_at "wsa"
  with_reducible refine we_frz ?_
  walk_at "wpe"
  obtain ⟨R0, S2, e2, G2⟩ := C.any.go t 8 w S1 a1 (by omega) (by omega) (by omega) (by omega)
  refine we_ok e2 ?_
  have hts : t < S1.length := a1.lt
  obtain ⟨S3, e3, l3, k3⟩ := frz_rows G2.c
  rw [G2.len] at e3
  refine we_lft e3 ?_
  refine wg_nm ?_
  have a3 : At ReedJ t S3 := by
    obtain ⟨c, h1, h2⟩ := G2.a
    exact ⟨c, by rw [k3 t hts]; exact h1, h2⟩
  refine ws_seq (ws_imp (P := ⟨fun δ S' => ∃ R, δ = ([some (.ref t), some (.int w), some (rowsL R), none, none, none, none, none, none, none] : En) ∧ R.length = 8 ∧ G01 w R ∧ At ReedJ t S', fun _ _ => False, fun _ _ => False, fun _ _ => False, fun _ _ _ => False⟩) ?_ ?_ (fun _ _ h => h.elim) (fun _ _ h => h.elim) (fun _ _ h => h.elim) (fun _ _ _ h => h.elim))
  · with_reducible refine ws_if ?_
    refine we_imp (QA := fun b S' => (b = true → 3 ≤ w) ∧ At ReedJ t S') ?_ ?_
    · walk_at "wpe"
      refine br_dec (fun h3 => ?_) fun _ => ⟨nofun, a3⟩
      walk_at "wpe"
      refine we_dip C.dip a3 (by omega) (by omega) fun f S4 hf a4 f4 l4 => ?_
      walk_at "wpe"
      exact ⟨fun _ => by omega, a4⟩
    · rintro b S4 ⟨h3, a4⟩
      cases b with
      | false =>
        refine br_f ?_
        walk_at "wsn"
        exact ⟨R0, rfl, G2.len, G2.g, a4⟩
      | true =>
        refine br_t ?_
        with_reducible refine ws_asg ?_
        walk_at "wpe"
        obtain ⟨R1, S5, e5, len5, g5, a5, f5⟩ := C.ringed.go t 8 w 3 S4 a4 (by omega) (by omega) (by omega) (by omega) (h3 rfl)
        refine we_ok e5 ?_
        refine wg_nm ?_
        exact ⟨R1, rfl, len5, g5, a5⟩
  · rintro δ S4 ⟨R, rfl, hlen, g, a4⟩
    obtain ⟨b, eb, hb⟩ := C.full R 8 S4 ⟨8, w, hlen, g, by omega, by omega, by omega, by omega⟩ (by omega)
    walk_at "wsi"
    walk_at "wpe"
    refine we_ok eb ?_
    refine ⟨b, rfl, ?_⟩
    cases b with
    | false =>
      refine br_t ?_
      walk_at "wps"
      rfl
    | true =>
    refine br_f ?_
    obtain ⟨h', w', F', _, _⟩ := hb rfl
    have eh : h' = 8 := by rw [← F'.len, hlen]
    subst eh
    have ew : w' = w := by
      have h0 : R.getD 0 [] ∈ R := by
        rw [List.getD_eq_getElem?_getD, List.getElem?_eq_getElem (show 0 < R.length by omega)]
        exact List.getElem_mem _
      rw [← (F'.g _ h0).1, (g _ h0).1]
    subst ew
    have F := F'
    walk_at "wsn"
    walk_at "wsa"
    walk_at "wpe"
    refine we_ok (C.text 8 w' R S4 F) ?_
    walk_at "wpe"
    refine we_ok (C.tab 8 w' R S4 F) ?_
    refine wg_nm ?_
    obtain ⟨E, hE⟩ : ∃ E, E = (bitsL w').filter fun d => decide ((1 : Int) ∈ d) := ⟨_, rfl⟩
    have hEm : ∀ d, d ∈ E ↔ (d ∈ bits w' ∧ (1 : Int) ∈ d) := fun d => by rw [hE, List.mem_filter, decide_eq_true_eq, mem_bitsL]
    have hEl : E.length ≤ 256 := by
      rw [hE]
      refine Nat.le_trans (List.length_filter_le _ _) ?_
      rw [bitsL_len]
      exact Nat.le_trans (Nat.pow_le_pow_right (by omega) (show w' ≤ 8 by omega)) (by decide)
    have ee := C.every w' S4 (by omega) (by omega)
    rw [← hE] at ee
    walk_at "wsa"
    walk_at "wpe"
    refine we_ok ee ?_
    refine ⟨_, rfl, ?_⟩
    refine we_imp (we_loopC (fun k acc S' => acc = ((E.take k).filter (stay 8 w' R)).map Sp.tI ∧ At ReedJ t S') ?_ ⟨by simp, a4⟩) ?_
    · rintro k hk acc S' ⟨hacc, a'⟩
      have hk' : k < E.length := by simpa using hk
      rw [List.getElem_map]
      obtain ⟨m1, m2⟩ := (hEm _).mp (List.getElem_mem hk')
      obtain ⟨S5, e5, k5⟩ := C.may w' R E[k] S' F w5 m1 m2
      refine ⟨_, rfl, ?_⟩
      walk_at "wpe"
      refine we_ok e5 ?_
      have a5 := Rk.at_keepR a' k5
      refine ⟨_, rfl, ?_⟩
      rw [List.take_succ_eq_append_getElem hk', List.filter_append]
      cases hst : stay 8 w' R E[k] with
      | false =>
        refine br_f ⟨?_, a5⟩
        rw [List.filter_cons, hst]
        simpa using hacc
      | true =>
        refine br_t ?_
        walk_at "wpe"
        refine ⟨?_, ?_, a5⟩
        · rw [hacc, List.length_map]
          have h1 := List.length_filter_le (stay 8 w' R) (E.take k)
          rw [List.length_take] at h1
          exact Nat.lt_of_lt_of_le (show _ < 1000000 by omega) (small (Nat.le_refl _))
        · rw [List.filter_cons, hst]
          simp [hacc]
    rintro acc S5 ⟨rfl, a5⟩
    rw [List.length_map, List.take_length]
    have hTl : (E.filter (stay 8 w' R)).length ≤ 256 := Nat.le_trans (List.length_filter_le _ _) hEl
    refine we_newL (by rw [List.length_map]; exact small (by omega)) ?_
    refine wg_nm ?_
    obtain ⟨T, hT⟩ : ∃ T, T = E.filter (stay 8 w' R) := ⟨_, rfl⟩
    rw [← hT] at hTl ⊢
    have hTm : ∀ d, d.length = w' → (∀ i ∈ d, i = 0 ∨ i = 1) → (1 : Int) ∈ d → decide (d ∈ T) = stay 8 w' R d := fun d h1 h2 h3 => by
      have : d ∈ T ↔ stay 8 w' R d = true := by
        rw [hT, List.mem_filter, hEm, mem_bits]
        exact ⟨fun z => z.2, fun z => ⟨⟨⟨h1, h2⟩, h3⟩, z⟩⟩
      cases hs : stay 8 w' R d with
      | true => exact decide_eq_true (this.mpr hs)
      | false => exact decide_eq_false fun z => by rw [this.mp z] at hs; cases hs
    show WS (sSeq _ _ [some (.ref t), some (.int w'), some (rowsL R), some (tabD 8 w' R), some (lotsL T), none, none, none, none, none] S5) _
    walk_at "wsi"
    walk_at "wpe"
    obtain ⟨S6, e6, k6⟩ := C.more w' R S5 F w5
    refine we_ok e6 ?_
    have a6 := Rk.at_keepR a5 k6
    walk_at "wpe"
    have hcnt : ((bits w').filter fun d => decide ((1 : Int) ∈ d) && stay 8 w' R d).length = T.length := by
      rw [hT]
      exact cnt_same (by rw [hE])
    refine br_eqT (by rw [hcnt]; simp) ?_
    walk_at "wsn"
    -- rows with one 1
    walk_at "wsf"
    walk_at "wpe"
    refine ⟨w', rfl, by omega, ?_⟩
    refine ws_loop (fun _ δ S' => (∃ d6 d7, δ = ([some (.ref t), some (.int w'), some (rowsL R), some (tabD 8 w' R), some (lotsL T), none, d6, d7, none, none] : En)) ∧ S' = S6) ?_ ?_ ⟨⟨_, _, rfl⟩, rfl⟩
    · rintro k hk δ S' ⟨⟨d6, d7, rfl⟩, rfl⟩
      rw [rng_len] at hk
      rw [rng_get]
      refine wg_nm ?_
      with_reducible refine ws_if ?_
      walk_at "wpe"
      refine ⟨w', rfl, by omega, ?_⟩
      rw [show rngD 0 w' = (rng w').map D.int by simp [rngD, rng]]
      refine we_loopM (S := S') D.int D.int (fun j => if j = (k : Int) then 1 else 0) (by rw [rng_length]; omega) (fun j hj => ?_) ?_
      · refine ⟨_, rfl, ?_⟩
        walk_at "wpe"
        refine ⟨rfl, ?_⟩
        by_cases e : j = (k : Int) <;> simp [e]
      refine we_newL (by simp; rw [rng_length]; exact small (by omega)) ?_
      walk_at "wpe"
      refine wl_tuple (by simp; rw [rng_length]; omega) ?_
      walk_at "wpe"
      obtain ⟨u, hu⟩ : ∃ u, u = (rng w').map fun j => if j = (k : Int) then (1 : Int) else 0 := ⟨_, rfl⟩
      rw [← hu]
      have ul : u.length = w' := by rw [hu, List.length_map, rng_length]
      have ub : ∀ i ∈ u, i = 0 ∨ i = 1 := fun i hi => by
        rw [hu] at hi
        obtain ⟨j, _, rfl⟩ := List.mem_map.mp hi
        split <;> simp
      have u1 : (1 : Int) ∈ u := by
        rw [hu]
        exact List.mem_map.mpr ⟨k, mem_rng.mpr (by omega), by simp⟩
      refine we_lft (notin_lots (d := u)) ?_
      rw [hTm u ul ub u1, stay_unit (k := (k : Int)) hlen (app_g g ul ub) fun x x0 x1 e => ?_]
      · walk_at "wpe"
        walk_at "wsn"
        exact ⟨⟨_, _, rfl⟩, rfl⟩
      · rw [hu, List.getD_eq_getElem?_getD, List.getElem?_map, rng_at (show x.toNat < w' by omega)] at e
        simp only [Option.map_some, Option.getD_some] at e
        split at e
        · omega
        · cases e
    · rintro δ S' ⟨⟨d6, d7, rfl⟩, rfl⟩
      walk_at "wsi"
      walk_at "wpe"
      refine we_lft (mulT58 (by omega) (by omega)) ?_
      walk_at "wpe"
      refine we_lft notin_lots ?_
      have ob : ∀ i ∈ List.replicate w' (1 : Int), i = 0 ∨ i = 1 := fun i hi => .inr (List.eq_of_mem_replicate hi)
      rw [hTm _ (by simp) ob (List.mem_replicate.mpr ⟨by omega, rfl⟩), stay_ones hlen (app_g g (by simp) ob) fun x x0 x1 => by
        rw [List.getD_eq_getElem?_getD, List.getElem?_replicate, if_pos (by omega)]; rfl]
      walk_at "wpe"
      walk_at "wsn"
      walk_at "wsa"
      walk_at "wpe"
      obtain ⟨S7, e7, k7⟩ := C.odd 8 w' R S' F
      have a7 := Rk.at_keepR a6 k7
      obtain ⟨Q, hQ⟩ : ∃ Q, Q = lawL R 8 w' := ⟨_, rfl⟩
      rw [← hQ] at e7
      have hQl : Q.length ≤ 100000 := by
        have := law_le (R := R) F.h2 F.w2
        rw [hQ]; omega
      have hq7 : ∀ q ∈ Q, q.1.length ≤ 7 := fun q hq => by
        rw [hQ] at hq
        have := (mem_lawL.mp hq).size
        omega
      walk_at "wsf"
      walk_at "wpe"
      refine we_ok e7 ?_
      refine ⟨_, rfl, ?_⟩
      refine ws_loop (fun k δ S' => (∃ d9, δ = ([some (.ref t), some (.int w'), some (rowsL R), some (tabD 8 w' R), some (lotsL T), none, d6, d7, some (lI ((Q.take k).flatMap (·.1))), d9] : En)) ∧ S' = S7) ?_ ?_ ⟨⟨_, rfl⟩, rfl⟩
      · rintro k hk δ S' ⟨⟨d9, rfl⟩, rfl⟩
        have hk' : k < Q.length := by simpa using hk
        rw [List.getElem_map]
        refine wg_nm ?_
        with_reducible refine ws_asg ?_
        walk_at "wpe"
        refine wl_ixT (k := 0) (by simp) ?_
        walk_at "wpe"
        have hl := hq7 _ (List.getElem_mem hk')
        refine wl_listT (by show (iD (Q[k]).1).length ≤ _; rw [iD_len]; omega) ?_
        have hfl : ((Q.take k).flatMap (·.1)).length ≤ 7 * k := by
          have : ∀ (L : List Pq), (∀ q ∈ L, q.1.length ≤ 7) → (L.flatMap (·.1)).length ≤ 7 * L.length := by
            intro L hL
            induction L with
            | nil => simp
            | cons q L ih =>
              have h1 := hL q (List.mem_cons_self ..)
              have h2 := ih fun y hy => hL y (List.mem_cons_of_mem _ hy)
              rw [List.flatMap_cons, List.length_append, List.length_cons]
              omega
          have h1 := this (Q.take k) fun q hq => hq7 q (List.mem_of_mem_take hq)
          have h2 : (Q.take k).length ≤ k := by rw [List.length_take]; omega
          omega
        refine wl_addLL (by rw [iD_len, iD_len]; omega) ?_
        refine wg_nm ?_
        refine ⟨⟨some (ringD Q[k]), ?_⟩, rfl⟩
        rw [List.take_succ_eq_append_getElem hk', List.flatMap_append]
        simp only [List.flatMap_cons, List.flatMap_nil, List.append_nil]
        show _ = ([some (.ref t), some (.int w'), some (rowsL R), some (tabD 8 w' R), some (lotsL T), none, d6, d7, some (D.lst (iD ((Q.take k).flatMap (·.1) ++ (Q[k]).1))), some (ringD Q[k])] : En)
        rw [iD_app]
        rfl
      · rintro δ S' ⟨⟨d9, rfl⟩, rfl⟩
        rw [List.length_map, List.take_length]
        walk_at "wsf"
        walk_at "wpe"
        refine ⟨8, rfl, by omega, ?_⟩
        refine ws_loop (fun _ δ S' => (∃ d7, δ = ([some (.ref t), some (.int w'), some (rowsL R), some (tabD 8 w' R), some (lotsL T), none, d6, d7, some (lI (Q.flatMap (·.1))), d9] : En))) ?_ ?_ ⟨_, rfl⟩
        · rintro k hk δ S8 ⟨d7, rfl⟩
          rw [rng_len] at hk
          rw [rng_get]
          refine wg_nm ?_
          with_reducible refine ws_if ?_
          walk_at "wpe"
          refine we_lft (ix_rL (i := (k : Int)) (by omega) (by omega)) ?_
          walk_at "wpe"
          rw [show ((k : Nat) : Int).toNat = k by omega]
          have hm : R.getD k [] ∈ R := by
            rw [List.getD_eq_getElem?_getD, List.getElem?_eq_getElem (show k < R.length by omega)]
            exact List.getElem_mem _
          have rl := (g _ hm).1
          have rb := (g _ hm).2
          refine wl_tuple (by rw [iD_len]; omega) ?_
          walk_at "wpe"
          refine we_lft (in_lots (d := R.getD k [])) ?_
          walk_at "wpe"
          refine we_lft notin_lI ?_
          refine we_lft ne_bb58 ?_
          refine x_bl ?_
          have key : decide (R.getD k [] ∈ T) = !decide ((k : Int) ∈ Q.flatMap (·.1)) := by
            rw [hTm _ rl rb (F.row _ hm)]
            have si := stay_again (R := R) (h := 8) (w := w') (d := R.getD k []) (j := k) hlen (app_g g rl rb) hk rfl
            by_cases hin : (k : Int) ∈ Q.flatMap (·.1)
            · rw [decide_eq_true hin]
              obtain ⟨q, hq, hkq⟩ := List.mem_flatMap.mp hin
              rw [hQ] at hq
              cases hs : stay 8 w' R (R.getD k []) with
              | false => rfl
              | true => exact absurd hkq (si.mp hs q (mem_lawL.mp hq))
            · rw [decide_eq_false hin]
              exact si.mpr fun q Qq hkq => hin (List.mem_flatMap.mpr ⟨q, by rw [hQ]; exact mem_lawL.mpr Qq, hkq⟩)
          refine br_eqF (by rw [key]; simp) ?_
          walk_at "wsn"
          exact ⟨_, rfl⟩
        · rintro δ S8 ⟨d7, rfl⟩
          walk_at "wps"
          rfl
end Rz
namespace Xm
open PySem PySem.Spec PySem.Calls PyProof.Rows L2 Ev
open Builtin Builtin.ObjectAttr
/-- own classes, then the tail -/
def refsT (t : List Value) : List Value → Bool
  | .ref _ :: r => refsT t r
  | l => l == t
theorem refsT_cases (t : List Value) : ∀ l : List Value, refsT t l = true → (∃ c r, l = .ref c :: r ∧ refsT t r = true) ∨ l = t := by
  intro l e
  cases l with
  | nil => exact .inr (beq_iff_eq.mp e)
  | cons a r =>
    cases a with
    | ref c => exact .inl ⟨c, r, rfl, e⟩
    | _ => exact .inr (beq_iff_eq.mp e)
/-- what is asked of the built-in class B, whose mro is t -/
structure BaseX (B newId initId : String) (t : List Value) : Prop where
  base : ExcBaseFacts B newId initId t
  obj : t.contains (.type "object") = true
  ne : t.isEmpty = false
  pass : ∀ self : Value, refuseLoop self "__setattr__" t = pure ()
section
variable {t : List Value}
theorem refsT_has (X : String) : ∀ l : List Value, refsT t l = true → l.contains (.type X) = t.contains (.type X) := by
  intro l
  induction l with
  | nil =>
    intro e
    rcases refsT_cases t [] e with ⟨c, r, q, _⟩ | q
    · cases q
    · rw [q]
  | cons a r ih =>
    intro e
    rcases refsT_cases t (a :: r) e with ⟨c, r', q, h⟩ | q
    · obtain ⟨rfl, rfl⟩ := List.cons.inj q
      rw [List.contains_cons, ih h]; rfl
    · rw [q]
theorem refsT_pass (hp : ∀ self : Value, refuseLoop self "__setattr__" t = pure ()) (self : Value) : ∀ l : List Value, refsT t l = true → refuseLoop self "__setattr__" l = pure () := by
  intro l
  induction l with
  | nil =>
    intro e
    rcases refsT_cases t [] e with ⟨c, r, q, _⟩ | q
    · cases q
    · rw [q]; exact hp self
  | cons a r ih =>
    intro e
    rcases refsT_cases t (a :: r) e with ⟨c, r', q, h⟩ | q
    · obtain ⟨rfl, rfl⟩ := List.cons.inj q
      rw [refuseLoop_ref]; exact ih h
    · rw [q]; exact hp self
end
section
variable {prog : Program} {w : World} {A : Around} {E : Value → Shared → Prop} {R : Result → Shared → Prop} {hp : Heap} {g : Array GenState} {d : Drawn} {tk0 : Nat} {os : OsState}
end
/-- what the written part says of an exception class -/
structure OexG (K : PySem.W.Frag) (C : Addr) (newId : String) (t : List Value) : Prop where
  cls : ∃ nm q N bs bm sn sub ab col dd k0 k1 k2 k3 k5, K.lookup C = some (excClassObj nm q C N bs bm true sn sub ab col dd k0 k1 k2 k3 k5 newId) ∧ refsT t bm = true
  sa : PySem.W.findIn K (.ref C) "__setattr__" = some (some (.builtin "object.__setattr__"))
  exC : PySem.W.subIn K (.ref C) (.type "BaseException") = some true
  tyC : PySem.W.typeIn K (.ref C) = some (.type "type")
  kC : PySem.W.keepIn K (.ref C) = true
section
variable {X : Cx} {pins : List (Addr × Obj)} {σ : L2.St} {H : Hp} {s : Shared} {a C dx : Addr} {f : Str} {y : V} {u : Value} {fs : List (Str × V)} {Q : Unit → Shared → Prop} {E : Value → Shared → Prop} {A : Around} {B newId initId : String} {t : List Value}
/-- what setting an attribute needs -/
theorem OexG.more (T : OexG X.K C newId t) (BX : BaseX B newId initId t) : ∃ cd, PySem.W.clsIn X.K C = some cd ∧ cd.mro.isEmpty = false ∧ cd.mro.contains (.type "object") = true ∧ (∀ self : Value, refuseLoop self "__setattr__" cd.mro = pure ()) ∧ cd.hasDict = true := by
  obtain ⟨nm, q, N, bs, bm, sn, sub, ab, col, dd, k0, k1, k2, k3, k5, hC, hbm⟩ := T.cls
  refine ⟨_, by unfold PySem.W.clsIn; rw [hC] <;> rfl, rfl, ?_, fun self => ?_, rfl⟩
  · show (Value.ref C :: bm).contains (.type "object") = true
    rw [List.contains_cons, refsT_has "object" bm hbm, BX.obj, Bool.or_true]
  · show refuseLoop self "__setattr__" (Value.ref C :: bm) = pure ()
    rw [refuseLoop_ref]
    exact refsT_pass BX.pass self bm hbm
end
section
variable {P : Program} {w : World} {K : PySem.W.Frag} {mg : Str → Option Value} {base : Heap} {k : Nat} {fI C : Addr} {qual p0 p1 p2 f1 f2 : Str} {params : Arguments} {scope : Scope} {fd : FuncData} {B newId initId : String} {t : List Value}
end
section
variable {X : Cx} {e : Expr} {es : List Expr} {ta : TA} {p pos : Pos} {x : Str} {C fI : Addr} {k : Nat} {fd : FuncData} {ps : List Str} {fl : List Str} {B newId initId : String} {t : List Value}
end
section
variable {X : Cx} {Wx : WX} {e : Expr} {es : List Expr} {mas : MA} {pos : Pos}
theorem zip_snd : ∀ (fl : List Str) {α : Type} (vs : List α), vs.length = fl.length → (fl.zip vs).map (·.2) = vs
  | [], _, [], _ => rfl
  | f :: fl, _, v :: vs, h => by simp only [List.zip_cons_cons, List.map_cons, zip_snd fl vs (by simpa using h)]
end
end Xm
namespace Xm
open PySem PySem.Spec PySem.Calls PyProof.Rows L2 Ev
/-- the clause's expression names the classes cs -/
inductive TestX (X : Cx) : Expr → List Value → Prop
  | one {x : Str} {c : Value} {np : Pos} (h : Names X x c) : TestX X (.Name x np) [c]
  | three {x1 x2 x3 : Str} {c1 c2 c3 : Value} {p1 p2 p3 tp : Pos} {k : Nat} (h1 : Names X x1 c1) (h2 : Names X x2 c2) (h3 : Names X x3 c3) : TestX X (.Tuple [.Name x1 p1, .Name x2 p2, .Name x3 p3] k tp) [c1, c2, c3]
abbrev ClX := List Value × Option Nat × (Addr → Value → Option Addr → TS)
inductive HdX (X : Cx) : List ExceptHandler → List ClX → Prop
  | nil : HdX X [] []
  | plain {te : Expr} {cs : List Value} {ts : Addr → Value → Option Addr → TS} {b0 : Stmt} {suite : List Stmt} {pos' : Pos} {hds : List ExceptHandler} {l : List ClX} (hc : TestX X te cs)
      (hsu : ∀ (a : Addr) (oe : Obj) (cls : Value) (d : Option Addr) (pn : List (Addr × Obj)), L2N.Zn cls d oe → (∃ vs, oe.data = .fields vs) → PSs (X.suite a ((a, oe) :: pn)) (b0 :: suite) (ts a cls d)) (r : HdX X hds l) :
      HdX X (.ExceptHandler (some te) none (b0 :: suite) pos' :: hds) ((cs, none, ts) :: l)
  | named {te : Expr} {cs : List Value} {i : Nat} {n : Str} {ts : Addr → Value → Option Addr → TS} {b0 : Stmt} {suite : List Stmt} {pos' : Pos} {hds : List ExceptHandler} {l : List ClX} (hc : TestX X te cs) (hi : X.N[i]? = some n) (hln : X.env.kindOf n = some .local)
      (hsu : ∀ (a : Addr) (oe : Obj) (cls : Value) (d : Option Addr) (pn : List (Addr × Obj)), L2N.Zn cls d oe → (∃ vs, oe.data = .fields vs) → PSs (X.suite a ((a, oe) :: pn)) (b0 :: suite) (ts a cls d)) (r : HdX X hds l) :
      HdX X (.ExceptHandler (some te) (some n) (b0 :: suite) pos' :: hds) ((cs, some i, ts) :: l)
section
variable {X : Cx} {body : List Stmt} {h0 : ExceptHandler} {hds : List ExceptHandler} {l : List ClX} {pos : Pos} {tb : WX → TS} {Wout : WX}
end
/-- which class an except clause takes -/
abbrev ExT := Str → Str → Option Bool
structure Cl where
  cls : List Str
  slot : Option Nat
  suite : Addr → Option Addr → Xc → MS
/-- a suite runs where its exception is handled; none leaves it -/
def SuiteOk (X : Cx) (b0 : Stmt) (suite : List Stmt) (m : Addr → Option Addr → Xc → MS) : Prop :=
  ∀ (a : Addr) (oe : Obj) (d : Option Addr) (pn : List (Addr × Obj)) (x : Xc), L2N.Zn (.ref (He.ga X.K x.cls)) d oe → (∃ vs, oe.data = .fields vs) → SB (X.suite a ((a, oe) :: pn)) (fun _ _ _ _ => False) (b0 :: suite) (m a d x)
inductive HdE (X : Cx) : List ExceptHandler → List Cl → Prop
  | nil : HdE X [] []
  | plain {te : Expr} {cs : List Str} {m : Addr → Option Addr → Xc → MS} {b0 : Stmt} {suite : List Stmt} {pos' : Pos} {hds : List ExceptHandler} {l : List Cl} (hc : TestX X te (cs.map fun x => .ref (He.ga X.K x))) (hsu : SuiteOk X b0 suite m) (r : HdE X hds l) :
      HdE X (.ExceptHandler (some te) none (b0 :: suite) pos' :: hds) (⟨cs, none, m⟩ :: l)
  | named {te : Expr} {cs : List Str} {i : Nat} {n : Str} {m : Addr → Option Addr → Xc → MS} {b0 : Stmt} {suite : List Stmt} {pos' : Pos} {hds : List ExceptHandler} {l : List Cl} (hc : TestX X te (cs.map fun x => .ref (He.ga X.K x))) (hi : X.N[i]? = some n) (hln : X.env.kindOf n = some .local) (hsu : SuiteOk X b0 suite m) (r : HdE X hds l) :
      HdE X (.ExceptHandler (some te) (some n) (b0 :: suite) pos' :: hds) (⟨cs, some i, m⟩ :: l)
section
variable {X : Cx} {Wx : WX} {body : List Stmt} {h0 : ExceptHandler} {hds : List ExceptHandler} {cl : List Cl} {pos : Pos} {mb : MS} {t : ExT}
end
end Xm
namespace Xm
open PySem PySem.Spec PySem.Calls PyProof.Rows L2 Ev
open LamX (TabB CodeO LamS lamEnv inv_table among_app codeO_ne)
section
variable {X : Cx} {pins : List (Addr × Obj)} {σ : L2.St} {H : Hp} {s : Shared}
end
/-- the lambda that stands at f is called where slot 0 holds it -/
noncomputable def eAct (act : M D) (f c : Addr) (q : Str) (vs : List V) (ds : List D) : ME := fun δ S => open Classical in if δ[0]? = some (some (Ev.D.lam f c q vs ds)) then act S else .bad
/-- what a def may lean on that got a lambda -/
def LamCall (Z : Cx) (a : Str) (f c : Addr) (q : Str) (vs : List V) (ds : List D) (act : M D) : Prop :=
  ∀ (W : WX) (pn : List (Addr × Obj)) (xe : Value → Shared → Prop) (p1 p2 : Pos), L2N.Takes (Z.tr pn xe) W → SE (Z.tr pn xe) W (.Call (.Name a p1) [] [] p2) (eAct act f c q vs ds)
section
variable {X : Cx} {pins : List (Addr × Obj)} {σ : L2.St} {H : Hp} {s : Shared}
end
def isSlf : Option Ev.D → Bool
  | some .slf => true
  | _ => false
/-- what the def that gets a lambda does -/
structure AskG (P : Program) (w : World) (K : PySem.W.Frag) (mg : Str → Option Value) (base : Heap) (k : Nat) (g : Addr) (y : Str) (nN : Nat) (b : (ME → MS)) : Prop where
  ex : ∃ (params : Arguments) (body : List Stmt) (scope : Scope) (fd : FuncData) (N : List Str) (a : Str), N.length = nN ∧ FunD K y y params body scope [] [] g fd ∧ FnScope N [a] scope ∧ N[0]? = some a ∧ Vis scope a ∧ (a == ("__debug__" : Str)) = false ∧ (a == ("__classdict__" : Str)) = false ∧ BindK K fd [a] [] ∧
    ∀ (cdv : Value) (A : Around) (outer : List Env) (s : Shared) (H : Hp) (E : XK) (f c : Addr) (q : Str) (vs : List V) (ds : List Ev.D) (act : M Ev.D), A.guards = some [] → Room k (A.deeper (envOfC y scope s.heap.objs.size g cdv)) →
      LamCall (cxOf (L2N.CX P w) P w K mg base N y scope g cdv A outer s H E) a f c q vs ds act → SB (cxOf (L2N.CX P w) P w K mg base N y scope g cdv A outer s H E) (fun cls d _ H' => E cls d H') body (b (eAct act f c q vs ds))
section
variable {X : Cx} {Wx : WX}
end
end Xm
namespace Xm
open PySem PySem.Spec PySem.Calls PyProof.Rows L2 Ev
/-- the exception at a, with the dict d, is handled, and pinned -/
structure HotE (X : Cx) (a : Addr) (d : Option Addr) (c : Str) : Prop where
  hd : X.A.handled = some (.ref a)
  ex : ∃ oe, (a, oe) ∈ X.pn ∧ L2N.Zn (.ref (He.ga X.K c)) d oe ∧ ∃ vs, oe.data = .fields vs
/-- what must be known of an exception class -/
structure XcC (K : PySem.W.Frag) (c : Str) : Prop where
  xf : XfC K (He.ga K c)
  cl : (PySem.W.clsIn K (He.ga K c)).isSome = true
  ha : PySem.W.findIn K (.ref (He.ga K c)) "__class__" = some (some (.builtin "object.__class__"))
  hn : PySem.W.specialIn K (.builtin "object.__class__") "__get__" = some (some (.builtin "getset_descriptor.__get__"))
  ht : PySem.W.takesIn K (.builtin "object.__class__") = some true
  hm : PySem.W.mroIn K (He.ga K c) (.type "object") = some true
section
variable {X : Cx} {pins : List (Addr × Obj)} {σ : L2.St} {H : Hp} {s : Shared} {a : Addr} {d : Option Addr} {c : Str} {fs : List (Str × Ev.D)} {W : Wd} {S : Store}
end
section
variable {X : Cx} {Wx : WX} {o e : Expr} {mo : ME} {pos p p1 p2 : Pos} {a : Addr} {d : Option Addr} {c : Str}
end
/-- what a def does that is called with the exception that is handled -/
structure FnX (P : Program) (w : World) (K : PySem.W.Frag) (mg : Str → Option Value) (base : Heap) (k : Nat) (f : Addr) (m : Addr → Option Addr → Xc → M Ev.D) : Prop where
  run : ∀ (A : Around) (outer : List Env) (s : Shared) (H : Hp) (a : Addr) (oe : Obj) (d : Option Addr) (x : Xc) (Q : VK), A.guards = some [] → L2H.RoomH k A → A.handled = some (.ref a) → L2H.PinOk outer H s (a, oe) → L2N.Zn (.ref (He.ga K x.cls)) d oe → (∃ vs, oe.data = .fields vs) →
    Env0 P w K mg base A outer s H → (∃ W S, Good K W S H ∧ Rep K W (.exn a d x.cls x.fs) (.ref a) ∧ okP K (Rep K) W (m a d x S) [] (fun _ _ _ _ => False) Q) → codeAny (model P w) A (.call (.ref f) ⟨[.ref a], []⟩) (CR (L2N.CX P w) outer P w H s Q (fun _ _ _ => False)) s
section
variable {X : Cx} {Wx : WX} {o e : Expr} {mo : ME} {pos p : Pos} {a : Addr} {d : Option Addr} {c : Str}
end
end Xm
namespace Xm
open PySem PySem.Spec PySem.Calls PyProof.Rows L2 Ev
open HotX (HotAt raiseNew_hot)
section
variable {prog : Program} {w : World} {A : Around} {E : Value → Shared → Prop} {s : Shared}
end
/-- the exception at a is handled; its context is None -/
structure Hot2 (X : Cx) (a : Addr) : Prop where
  hd : X.A.handled = some (.ref a)
  pin : ∃ (oe : Obj) (vs : Array Value), (a, oe) ∈ X.pn ∧ oe.data = .fields vs ∧ vs[2]? = some .none
theorem HotE.two {X : Cx} {a : Addr} {d : Option Addr} {c : Str} (h : HotE X a d c) : Hot2 X a := by
  obtain ⟨oe, hp, hz, vs, hd⟩ := h.ex
  exact ⟨h.hd, oe, vs, hp, hd, hz.2.2 vs hd⟩
section
variable {X : Cx} {pins : List (Addr × Obj)} {σ : L2.St} {H : Hp} {s : Shared} {a : Addr}
theorem Hot2.at_ (h : Hot2 X a) (I : Inv X pins σ H s) : HotAt X.A a s.heap := by
  obtain ⟨oe, vs, hp, hd, hc⟩ := h.pin
  exact ⟨h.hd, oe, vs, (I.pin (a, oe) (List.mem_append_left _ hp)).1, hd, hc⟩
end
end Xm
namespace PySem.SeqAt
open AutoSeq1 (wpAny_loadPart')
open MeetsSeq
theorem int_eq_declines_dict (b : Int) (u : Tok) (l : Addr) (c : Value) (es : Array DictEntry) (n : Nat) (dd : Option Addr) (sl : Array (Option Value)) :
    Meets (Builtin.«int.__eq__» ⟨[.int b u, .ref l], []⟩) (fun _ R s => s.heap.get? l = some { cls := c, dict := dd, data := .dict es n, slots := sl } ∧ R (.ok (.ret .notImplemented)) s) :=
  .of_wp fun prog w A R s h => by obtain ⟨hp, g, d, tk, os⟩ := s; obtain ⟨hl, h⟩ := h; wp_walk using wpAny_loadPart' hl, wpAny_load hl; exact ⟨_, rfl, h⟩
theorem dict_eq_declines_int (l : Addr) (es : Array DictEntry) (n : Nat) (dd : Option Addr) (sl : Array (Option Value)) (b : Int) (u : Tok) :
    Meets (Builtin.«dict.__eq__» ⟨[.ref l, .int b u], []⟩) (fun _ R s => s.heap.get? l = some { cls := .type "dict", dict := dd, data := .dict es n, slots := sl } ∧ R (.ok (.ret .notImplemented)) s) :=
  .of_wp fun prog w A R s h => by obtain ⟨hp, g, d, tk, os⟩ := s; obtain ⟨hl, h⟩ := h; have f1 := F.sub_int_dict; wp_walk using wpAny_loadPart' hl; exact ⟨_, rfl, h⟩
theorem RcAt.int_dict {A : Around} {s : Shared} {l : Addr} {o : Obj} {es : Array DictEntry} {n : Nat} (b : Int) (u : Tok) (ho : s.heap.get? l = some o) (hc : o.cls = .type "dict") (hd : o.data = .dict es n) (hu : A.units < cLine) : RcAt A s (.int b u) (.ref l) false := fun prog w E Q h => by
  obtain ⟨cls, dd, data, sl⟩ := o
  simp only at hc hd
  subst hc hd
  exact rc_eq_decline_or (k := false) (typeIs_int s b u) ⟨_, ho, rfl⟩ (by decide) F.sub_dict_int F.slot_int_eq F.slot_dict_eq_refl
    (fun _ hq => call_meets F.slot_int_eq (typeIs_int s b u) F.entry_int_eq (F.args_int_eq_2 _ _) (int_eq_declines_dict b u l (.type "dict") es n dd sl) ⟨ho, hq⟩)
    (fun _ hq => call_meets F.slot_dict_eq_refl ⟨_, ho, rfl⟩ F.entry_dict_eq (F.args_dict_eq_2 _ _) (dict_eq_declines_int l es n dd sl b u) ⟨ho, hq⟩)
    (fun _ hq => wpAny_of_eq (rfl : isSame (.int b u) (.ref l) = pure false) hq) (.inr hu) h
theorem EqAt.int_dict {A : Around} {s : Shared} {l : Addr} {o : Obj} {es : Array DictEntry} {n : Nat} (b : Int) (u : Tok) (ho : s.heap.get? l = some o) (hc : o.cls = .type "dict") (hd : o.data = .dict es n) (hu : A.units < cLine) : EqAt A s (.int b u) (.ref l) false := fun prog w E Q h => by
  unfold eqBool
  refine wpAny_holding ?_
  refine wpAny_ite_split (fun hab => absurd (eq_of_beq hab) nofun) (fun _ => ?_)
  exact wpAny_bind (RcAt.int_dict b u ho hc hd hu prog w E _ (wpAny_truthy_bool h))
theorem tuple_eq_declines_dict (l : Addr) (items : Array Value) (n : Nat) (dd : Option Addr) (sl : Array (Option Value)) (a : Addr) (es : Array DictEntry) (n2 : Nat) (dd2 : Option Addr) (sl2 : Array (Option Value)) :
    Meets (Builtin.«tuple.__eq__» ⟨[.ref l, .ref a], []⟩) (fun _ R s => s.heap.get? l = some { cls := .type "tuple", dict := dd, data := .seq items n, slots := sl } ∧ s.heap.get? a = some { cls := .type "dict", dict := dd2, data := .dict es n2, slots := sl2 } ∧ R (.ok (.ret .notImplemented)) s) :=
  .of_wp fun prog w A R s h => by obtain ⟨hp, g, d, tk, os⟩ := s; obtain ⟨hl, ha, h⟩ := h; have f1 := F.sub_dict_tuple; wp_walk using wpAny_loadPart' hl, wpAny_loadPart' ha, wpAny_load ha, wpAny_load hl; exact ⟨_, rfl, h⟩
theorem dict_eq_declines_tuple (l : Addr) (items : Array Value) (n : Nat) (dd : Option Addr) (sl : Array (Option Value)) (a : Addr) (es : Array DictEntry) (n2 : Nat) (dd2 : Option Addr) (sl2 : Array (Option Value)) :
    Meets (Builtin.«dict.__eq__» ⟨[.ref a, .ref l], []⟩) (fun _ R s => s.heap.get? l = some { cls := .type "tuple", dict := dd, data := .seq items n, slots := sl } ∧ s.heap.get? a = some { cls := .type "dict", dict := dd2, data := .dict es n2, slots := sl2 } ∧ R (.ok (.ret .notImplemented)) s) :=
  .of_wp fun prog w A R s h => by obtain ⟨hp, g, d, tk, os⟩ := s; obtain ⟨hl, ha, h⟩ := h; have f1 := F.sub_tuple_dict; wp_walk using wpAny_loadPart' hl, wpAny_loadPart' ha, wpAny_load ha, wpAny_load hl; exact ⟨_, rfl, h⟩
end PySem.SeqAt
namespace PySem.SeqAt
open AutoSeq1 (wpAny_loadPart')
open MeetsSeq
theorem RcAt.tuple_dict {A : Around} {s : Shared} {l a : Addr} {o : Obj} {items : Array Value} {es : Array DictEntry} {n : Nat} (hl : s.heap.IsTuple l items) (ho : s.heap.get? a = some o) (hc : o.cls = .type "dict") (hd : o.data = .dict es n) (hu : A.units < cLine) : RcAt A s (.ref l) (.ref a) false := fun prog w E Q h => by
  obtain ⟨⟨cls, dd, data, sl⟩, ho2, hc2, n2, hd2⟩ := id hl
  obtain ⟨cls', dd', data', sl'⟩ := o
  simp only at hc hd hc2 hd2
  subst hc hd hc2 hd2
  have hne : l ≠ a := fun z => by
    subst z
    rw [ho2] at ho
    injection ho with ho
    injection ho with _ _ h3 _
    cases h3
  exact rc_eq_decline_or (k := false) ⟨_, ho2, rfl⟩ ⟨_, ho, rfl⟩ (by decide) F.sub_dict_tuple F.slot_tuple_eq F.slot_dict_eq_refl
    (fun _ hq => call_meets F.slot_tuple_eq ⟨_, ho2, rfl⟩ F.entry_tuple_eq (F.args_tuple_eq_2 _ _) (tuple_eq_declines_dict l items n2 dd sl a es n dd' sl') ⟨ho2, ho, hq⟩)
    (fun _ hq => call_meets F.slot_dict_eq_refl ⟨_, ho, rfl⟩ F.entry_dict_eq (F.args_dict_eq_2 _ _) (dict_eq_declines_tuple l items n2 dd sl a es n dd' sl') ⟨ho2, ho, hq⟩)
    (fun _ hq => wpAny_isSame_ref_other' hne ho2 ho (by simp) hq) (.inr hu) h
theorem EqAt.tuple_dict {A : Around} {s : Shared} {l a : Addr} {o : Obj} {items : Array Value} {es : Array DictEntry} {n : Nat} (hl : s.heap.IsTuple l items) (ho : s.heap.get? a = some o) (hc : o.cls = .type "dict") (hd : o.data = .dict es n) (hu : A.units < cLine) : EqAt A s (.ref l) (.ref a) false := by
  have hne : l ≠ a := fun z => by
    subst z
    obtain ⟨o2, ho2, _, n2, hd2⟩ := hl
    rw [ho2] at ho
    injection ho with ho
    subst ho
    rw [hd2] at hd
    cases hd
  exact EqAt.of_refs hne (RcAt.tuple_dict hl ho hc hd hu)
end PySem.SeqAt
namespace Ev
open PySem PySem.Spec PySem.SeqAt L2 PyProof.Rows
mutual
/-- integers and tuples of such -/
def canI : PyData → Bool
  | .int _ => true
  | .tuple xs => canIs xs
  | _ => false
def canIs : List PyData → Bool
  | [] => true
  | x :: xs => canI x && canIs xs
end
mutual
/-- data, dicts too -/
def canM : PyData → Bool
  | .none | .bool _ | .int _ => true
  | .str x => PyData.strOk x
  | .list xs | .tuple xs => canMs xs
  | .dict _ => true
def canMs : List PyData → Bool
  | [] => true
  | x :: xs => canM x && canMs xs
end
mutual
theorem canI_lay : ∀ d : PyData, canI d = true → d.canLay0 = true
  | .int _, _ => rfl
  | .tuple xs, h => canIs_lay xs h
  | .none, h => nomatch h
  | .bool _, h => nomatch h
  | .str _, h => nomatch h
  | .list _, h => nomatch h
  | .dict _, h => nomatch h
theorem canIs_lay : ∀ xs : List PyData, canIs xs = true → PyData.canLayAll0 xs = true
  | [], _ => rfl
  | x :: xs, h => by
    have h' : canI x = true ∧ canIs xs = true := by simpa [canIs] using h
    simp [PyData.canLayAll0, canI_lay x h'.1, canIs_lay xs h'.2]
end
mutual
theorem eqAt_mix : ∀ (da db : PyData) (A : Around) (s : Shared) (a b : Value) (as bs : List Addr), Reads s.heap a da as → Reads s.heap b db bs → canI da = true → canM db = true →
    A.units + min da.depth db.depth < cLine → EqAt A s a b (PyData.eqv da db)
  | .none, _, _, _, _, _, _, _, _, _, ha, _, _ => nomatch ha
  | .bool _, _, _, _, _, _, _, _, _, _, ha, _, _ => nomatch ha
  | .str _, _, _, _, _, _, _, _, _, _, ha, _, _ => nomatch ha
  | .list _, _, _, _, _, _, _, _, _, _, ha, _, _ => nomatch ha
  | .dict _, _, _, _, _, _, _, _, _, _, ha, _, _ => nomatch ha
  | .int x, _, A, s, _, _, _, _, ra, rb, _, hb, hu => by
    cases ra with
    | int _ t =>
      have hu' : A.units < cLine := by omega
      cases rb with
      | none => exact EqAt.int_none x t
      | bool y => exact EqAt.int_bool x t y
      | int y u => exact EqAt.int_int x t y u
      | str y u => exact EqAt.int_str x t y u
      | list k1 k2 k3 k4 => exact EqAt.int_list x t ⟨_, k1, k2, _, k3⟩ hu'
      | tuple k1 k2 k3 k4 => exact EqAt.int_tuple x t ⟨_, k1, k2, _, k3⟩ hu'
      | dict k1 k2 k3 k4 k5 => exact EqAt.int_dict x t k1 k2 k3 hu'
  | .tuple xs, db, A, s, _, _, _, _, ra, rb, ha, hb, hu => by
    have hu' : A.units < cLine := by omega
    cases ra with
    | @tuple l o vs n _ as₁ h1 h2 h3 h4 =>
      have hl : s.heap.IsTuple l vs := ⟨_, h1, h2, _, h3⟩
      cases rb with
      | none => exact EqAt.tuple_none hl hu'
      | bool y => exact EqAt.tuple_bool y hl hu'
      | int y u => exact EqAt.tuple_int y u hl hu'
      | str y u => exact EqAt.tuple_str y u hl hu'
      | list k1 k2 k3 k4 => exact EqAt.tuple_list hl ⟨_, k1, k2, _, k3⟩ hu'
      | dict k1 k2 k3 k4 k5 => exact EqAt.tuple_dict hl k1 k2 k3 hu'
      | @tuple l' o' vs' n' ys bs₁ k1 k2 k3 k4 =>
        have hl' : s.heap.IsTuple l' vs' := ⟨_, k1, k2, _, k3⟩
        have n1 : vs.size = xs.length := by simpa using ReadsAll.length _ _ _ h4
        have n2 : vs'.size = ys.length := by simpa using ReadsAll.length _ _ _ k4
        show EqAt A s (.ref l) (.ref l') (PyData.eqvAll xs ys)
        by_cases hll : l = l'
        · subst hll
          have e : PyData.tuple xs = PyData.tuple ys := Reads.unique (.tuple xs) (.tuple ys) _ _ _ (canIs_lay xs ha) (.tuple h1 h2 h3 h4) (.tuple k1 k2 k3 k4)
          injection e with e
          subst e
          rw [eqvAll_refl xs (canIs_lay xs ha)]
          exact EqAt.same _
        · rw [← eqvAll_eq xs ys, ← n1, ← n2]
          refine EqAt.of_refs hll (RcAt.tuples hl hl' hu' fun j j1 j2 => ?_)
          have hu2 : A.in1.units + min (PyData.depthAll xs) (PyData.depthAll ys) < cLine := by
            have e1 : (PyData.tuple xs).depth = PyData.depthAll xs + 1 := by simp only [PyData.depth]
            have e2 : (PyData.tuple ys).depth = PyData.depthAll ys + 1 := by simp only [PyData.depth]
            rw [e1, e2] at hu
            show A.units + 1 + _ < cLine
            omega
          have := eqAt_mixAll xs ys A.in1 s vs.toList vs'.toList _ _ h4 k4 ha hb hu2 j (by simpa using j1) (by simpa using j2)
          simpa using this
theorem eqAt_mixAll : ∀ (xs ys : List PyData) (A : Around) (s : Shared) (vs ws : List Value) (as bs : List Addr), ReadsAll s.heap vs xs as → ReadsAll s.heap ws ys bs → canIs xs = true → canMs ys = true →
    A.units + min (PyData.depthAll xs) (PyData.depthAll ys) < cLine → ∀ j (h1 : j < vs.length) (h2 : j < ws.length), EqAt A s vs[j] ws[j] (pairEq xs ys j)
  | [], _, _, _, _, _, _, _, ra, _, _, _, _, j, h1, _ => by cases ra; exact absurd h1 (Nat.not_lt_zero _)
  | _ :: _, [], _, _, _, _, _, _, _, rb, _, _, _, j, _, h2 => by cases rb; exact absurd h2 (Nat.not_lt_zero _)
  | x :: xs, y :: ys, A, s, _, _, _, _, ra, rb, ha, hb, hu, j, h1, h2 => by
    have ha' : canI x = true ∧ canIs xs = true := by simpa [canIs] using ha
    have hb' : canM y = true ∧ canMs ys = true := by simpa [canMs] using hb
    have e1 : x.depth ≤ PyData.depthAll (x :: xs) ∧ PyData.depthAll xs ≤ PyData.depthAll (x :: xs) := by simp only [PyData.depthAll]; omega
    have e2 : y.depth ≤ PyData.depthAll (y :: ys) ∧ PyData.depthAll ys ≤ PyData.depthAll (y :: ys) := by simp only [PyData.depthAll]; omega
    cases ra with
    | cons r rs =>
      cases rb with
      | cons r' rs' =>
        cases j with
        | zero => exact eqAt_mix x y A s _ _ _ _ r r' ha'.1 hb'.1 (by omega)
        | succ j => exact eqAt_mixAll xs ys A s _ _ _ _ rs rs' ha'.2 hb'.2 (by omega) j (Nat.lt_of_succ_lt_succ h1) (Nat.lt_of_succ_lt_succ h2)
end
section
variable {prog : Program} {w : World} {A : Around} {E : Value → Shared → Prop} {s : Shared}
end
mutual
def toPX (S : Store) : D → Option PyData
  | .non => some .none
  | .bl b => some (.bool b)
  | .int i => some (.int i)
  | .str s => some (.str s)
  | .tup xs => (toPXs S xs).map .tuple
  | .lst xs => (toPXs S xs).map .list
  | .ref i => (match S[i]? with
    | some (some (.dT [])) => some (.dict [])
    | _ => none)
  | .ins _ _ => none
  | .fn _ => none
  | .scr _ => none
  | .slf => none
  | .dic _ => none
  | .exn _ _ _ _ => none
  | .lam _ _ _ _ _ => none
def toPXs (S : Store) : List D → Option (List PyData)
  | [] => some []
  | x :: xs => (toPX S x).bind fun a => (toPXs S xs).map fun b => a :: b
end
section
variable {X : Cx} {pins : List (Addr × Obj)} {σ : L2.St} {H : Hp} {s : Shared} {W : Wd} {S : Store}
mutual
theorem reads_ofX (I : Inv X pins σ H s) (g : Good X.K W S H) : ∀ (d : D) (v : V) (u : Value) (p : PyData), toPX S d = some p → Rep X.K W d v → RelV v u → ∃ as, Reads s.heap u p as
  | .non, v, u, p, e, q, r => by cases e; cases q; cases r; exact ⟨_, .none⟩
  | .bl b, v, u, p, e, q, r => by cases e; cases q; cases r; exact ⟨_, .bool b⟩
  | .int i, v, u, p, e, q, r => by cases e; cases q; obtain ⟨t, rfl⟩ := r; exact ⟨_, .int i t⟩
  | .str i, v, u, p, e, q, r => by cases e; cases q; obtain ⟨t, rfl⟩ := r; exact ⟨_, .str i t⟩
  | .tup ds, v, u, p, e, q, r => by
    simp only [toPX] at e
    obtain ⟨ps, e1, rfl⟩ := Option.map_eq_some_iff.mp e
    cases q with
    | tup q r' =>
      cases r
      obtain ⟨its, rv, ⟨o, ho, hc, n, hd⟩, hz⟩ := I.tuple (g.sqT q)
      obtain ⟨as, ra⟩ := readsAll_ofX I g ds _ _ _ e1 r' rv
      exact ⟨as, .tuple ho hc hd (by simpa using ra)⟩
  | .lst ds, v, u, p, e, q, r => by
    simp only [toPX] at e
    obtain ⟨ps, e1, rfl⟩ := Option.map_eq_some_iff.mp e
    cases q with
    | lst q r' =>
      cases r
      obtain ⟨its, rv, ⟨o, n, ho, hc, _, hd⟩, hz⟩ := I.list (SqL.of (K := X.K) (g.sub _ _ q))
      obtain ⟨as, ra⟩ := readsAll_ofX I g ds _ _ _ e1 r' rv
      exact ⟨_, .list ho hc hd (by simpa using ra)⟩
  | .ref i, v, u, p, e, q, r => by
    simp only [toPX] at e
    split at e
    · rename_i es
      cases e
      obtain ⟨a, h1, h2, h3, h4⟩ := g.cell i _ es
      cases q with
      | ref q =>
        rw [h1] at q
        cases q
        obtain rfl : u = Value.ref a := r
        obtain ⟨vk, k1, k2, k3⟩ := h4
        have : vk = [] := by simpa using k2
        subst this
        obtain ⟨_, _, xs, kt, o, es', ep, d1, d2, d3, d4, _⟩ := dt_of I.hok k1
        cases kt
        have : es'.toList = [] := by simpa using d4
        exact ⟨_, .dict (kvs := []) d1 d2.1 d3 (by rw [this]; exact .nil) (by rw [this]; exact .nil)⟩
    · cases e
  | .ins _ _, v, u, p, e, q, r => by cases e
  | .fn _, v, u, p, e, q, r => by cases e
  | .scr _, v, u, p, e, q, r => by cases e
  | .slf, v, u, p, e, q, r => by cases e
  | .dic _, v, u, p, e, q, r => by cases e
  | .exn _ _ _ _, v, u, p, e, q, r => by cases e
  | .lam _ _ _ _ _, v, u, p, e, q, r => by cases e
theorem readsAll_ofX (I : Inv X pins σ H s) (g : Good X.K W S H) : ∀ (ds : List D) (vs : List V) (us : List Value) (ps : List PyData), toPXs S ds = some ps → Reps X.K W ds vs → Vals vs us → ∃ as, ReadsAll s.heap us ps as
  | [], vs, us, ps, e, q, r => by cases e; cases q; cases r; exact ⟨_, .nil⟩
  | d :: ds, vs, us, ps, e, q, r => by
    simp only [toPXs] at e
    obtain ⟨p1, e1, e2⟩ := Option.bind_eq_some_iff.mp e
    obtain ⟨p2, e3, rfl⟩ := Option.map_eq_some_iff.mp e2
    cases q with
    | cons q1 q2 =>
      cases r with
      | cons r1 r2 =>
        obtain ⟨as, ra⟩ := reads_ofX I g d _ _ _ e1 q1 r1
        obtain ⟨bs, rb⟩ := readsAll_ofX I g ds _ _ _ e3 q2 r2
        exact ⟨_, .cons ra rb⟩
end
end
end Ev
namespace Xm
open PySem PySem.Spec PySem.Calls PyProof.Rows L2 Ev
open LamX (TabB LamS lamEnv lamSB lamS_by)
section
variable {X : Cx} {Wx : WX} {a : Addr}
end
/-- where an exception is handled -/
structure CtX (X : Cx) (Wx : WX) (k : Nat) (a : Addr) (d : Option Addr) (c : Str) : Prop where
  hot : HotE X a d c
  gd : X.A.guards = some []
  room : L2H.RoomH k X.A
theorem CtX.hu {X : Cx} {Wx : WX} {k : Nat} {a : Addr} {d : Option Addr} {c : Str} (C : CtX X Wx k a d c) : X.A.units + 64 < cLine := by have := C.room.un; omega
section
variable {X : Cx} {Wx : WX} {o e tg elt iter ce : Expr} {es : List Expr} {mo m me : ME} {mas : MA} {pos p p1 p2 : Pos} {k : Nat} {a : Addr} {d : Option Addr} {c x : Str}
end
structure OexF (K : PySem.W.Frag) (c : Str) (newId : String) (t : List Value) (fl : List Str) : Prop where
  oex : OexG K (He.ga K c) newId t
  ini : PySem.W.findIn K (.ref (He.ga K c)) "__init__" = some (some (.ref (He.ma K (He.ga K c) "__init__")))
  tfn : PySem.W.typeIn K (.ref (He.ma K (He.ga K c) "__init__")) = some (.type "function")
  no : ∀ f ∈ fl, PySem.W.findIn K (.ref (He.ga K c)) f = some none
end Xm
namespace Xm
open PySem PySem.Spec PySem.Calls PyProof.Rows L2 Ev
open LamX (TabB)
def tabsB (lams : List Str) (K : PySem.W.Frag) : Bool := decide (lams.map fun x => (tabK K x).2).Nodup && lams.all fun x => (K.lookup (tabK K x).2).isNone && PySem.W.codeHdIn K (tabK K x).1 (tabK K x).2
def SysAt (h : Heap) : Prop := ∃ o es n, h.get? sysModules = some o ∧ o.data = .dict es n
/-- what the end leans on -/
structure SaysT (fa : List He.Fa) (fn : List He.DefD) (ex : List Ex) (lams : List Str) (K : PySem.W.Frag) (h : Heap) : Prop where
  kin : K.In h
  facts : He.SaysD fa fn K
  more : (ex.all fun f => f K) = true
  tabs : tabsB lams K = true
  empty : ∀ x ∈ lams, h.get? (tabK K x).2 = some (PySem.W.tabObj #[])
  sys : SysAt h
section
variable {P : Program} {w : World} {K : PySem.W.Frag} {mg mb : Str → Option Value} {k : Nat} {fa a : Addr} {fd : FuncData} {x : Str} {s1 : Shared} {vs : List Value} {ns : List Int} {m : List Ev.D → M Ev.D} {lams : List Str}
end
end Xm
namespace Xm
open PySem PySem.Spec PySem.Calls PyProof.Rows L2 Ev
/-- what is known of the exception classes: isinstance, attributes, except -/
structure XT where
  kit : List (Str × Ty × Bool)
  fl : List (Str × Str)
  ex : List (Str × Str × Bool)
theorem Ct.mono {X : Cx} {Wx : WX} {k k' : Nat} (C : Ct X Wx k) (h : k' ≤ k) : Ct X Wx k' := ⟨C.calm, C.gd, C.room.mono h, C.tk⟩
end Xm
namespace Xm
open PySem PySem.Spec PySem.Calls PyProof.Rows L2 Ev
end Xm
namespace Bd
open PySem L2 Ev Xm
end Bd
namespace Bd
open PySem L2 Ev Xm
end Bd
namespace Bd
open PySem L2 Ev Xm
end Bd
namespace Ev
open PySem PySem.Spec PySem.SeqAt L2 PyProof.Rows
section
variable {X : Cx} {Wx : WX} {pos : Pos} {c a b : Expr} {tC tA tB : TT}
variable {ta tb tc : MT}
end
end Ev
namespace Ev
open PySem PySem.Spec PySem.SeqAt L2 PyProof.Rows PySem.W
end Ev
namespace Ev
open PySem PySem.Spec PySem.SeqAt L2 PyProof.Rows PySem.W
section
variable {X : Cx} {pins : List (Addr × Obj)} {σ : L2.St} {H : Hp} {s : Shared} {W : Wd} {S : Store}
theorem not_sys (hB : ∃ o, X.base.get? sysModules = some o) (I : Inv X pins σ H s) {a : Addr} {o : HO} (e : H a = some o) : a ≠ sysModules := fun z => by
  subst z
  obtain ⟨o', h⟩ := hB
  have := (I.bs _ o' h).2
  rw [e] at this
  cases this
mutual
theorem reads_ofN (hB : ∃ o, X.base.get? sysModules = some o) (I : Inv X pins σ H s) (g : Good X.K W S H) : ∀ (d : D) (v : V) (u : Value) (p : PyData), toPX S d = some p → Rep X.K W d v → RelV v u → ∃ as, Reads s.heap u p as ∧ sysModules ∉ as
  | .non, v, u, p, e, q, r => by cases e; cases q; cases r; exact ⟨_, .none, List.not_mem_nil⟩
  | .bl b, v, u, p, e, q, r => by cases e; cases q; cases r; exact ⟨_, .bool b, List.not_mem_nil⟩
  | .int i, v, u, p, e, q, r => by cases e; cases q; obtain ⟨t, rfl⟩ := r; exact ⟨_, .int i t, List.not_mem_nil⟩
  | .str i, v, u, p, e, q, r => by cases e; cases q; obtain ⟨t, rfl⟩ := r; exact ⟨_, .str i t, List.not_mem_nil⟩
  | .tup ds, v, u, p, e, q, r => by
    simp only [toPX] at e
    obtain ⟨ps, e1, rfl⟩ := Option.map_eq_some_iff.mp e
    cases q with
    | tup q r' =>
      cases r
      obtain ⟨its, rv, ⟨o, ho, hc, n, hd⟩, hz⟩ := I.tuple (g.sqT q)
      obtain ⟨as, ra, nm⟩ := readsAll_ofN hB I g ds _ _ _ e1 r' rv
      exact ⟨as, .tuple ho hc hd (by simpa using ra), nm⟩
  | .lst ds, v, u, p, e, q, r => by
    simp only [toPX] at e
    obtain ⟨ps, e1, rfl⟩ := Option.map_eq_some_iff.mp e
    cases q with
    | lst q r' =>
      cases r
      obtain ⟨its, rv, ⟨o, n, ho, hc, _, hd⟩, hz⟩ := I.list (SqL.of (K := X.K) (g.sub _ _ q))
      obtain ⟨as, ra, nm⟩ := readsAll_ofN hB I g ds _ _ _ e1 r' rv
      exact ⟨_, .list ho hc hd (by simpa using ra), fun z => (List.mem_cons.mp z).elim (fun z => not_sys hB I (g.sub _ _ q) z.symm) nm⟩
  | .ref i, v, u, p, e, q, r => by
    simp only [toPX] at e
    split at e
    · rename_i es
      cases e
      obtain ⟨a, h1, h2, h3, h4⟩ := g.cell i _ es
      cases q with
      | ref q =>
        rw [h1] at q
        cases q
        obtain rfl : u = Value.ref a := r
        obtain ⟨vk, k1, k2, k3⟩ := h4
        have : vk = [] := by simpa using k2
        subst this
        obtain ⟨_, ns, xs, kt, o, es', ep, d1, d2, d3, d4, _⟩ := dt_of I.hok k1
        cases kt
        have : es'.toList = [] := by simpa using d4
        exact ⟨_, .dict (kvs := []) d1 d2.1 d3 (by rw [this]; exact .nil) (by rw [this]; exact .nil), fun z => by
          have z' : sysModules = a := by simpa using z
          rw [← z'] at ns
          simp at ns⟩
    · cases e
  | .ins _ _, v, u, p, e, q, r => by cases e
  | .fn _, v, u, p, e, q, r => by cases e
  | .scr _, v, u, p, e, q, r => by cases e
  | .slf, v, u, p, e, q, r => by cases e
  | .dic _, v, u, p, e, q, r => by cases e
  | .exn _ _ _ _, v, u, p, e, q, r => by cases e
  | .lam _ _ _ _ _, v, u, p, e, q, r => by cases e
theorem readsAll_ofN (hB : ∃ o, X.base.get? sysModules = some o) (I : Inv X pins σ H s) (g : Good X.K W S H) : ∀ (ds : List D) (vs : List V) (us : List Value) (ps : List PyData), toPXs S ds = some ps → Reps X.K W ds vs → Vals vs us → ∃ as, ReadsAll s.heap us ps as ∧ sysModules ∉ as
  | [], vs, us, ps, e, q, r => by cases e; cases q; cases r; exact ⟨_, .nil, List.not_mem_nil⟩
  | d :: ds, vs, us, ps, e, q, r => by
    simp only [toPXs] at e
    obtain ⟨p1, e1, e2⟩ := Option.bind_eq_some_iff.mp e
    obtain ⟨p2, e3, rfl⟩ := Option.map_eq_some_iff.mp e2
    cases q with
    | cons q1 q2 =>
      cases r with
      | cons r1 r2 =>
        obtain ⟨as, ra, na⟩ := reads_ofN hB I g d _ _ _ e1 q1 r1
        obtain ⟨bs, rb, nb⟩ := readsAll_ofN hB I g ds _ _ _ e3 q2 r2
        exact ⟨_, .cons ra rb, fun z => (List.mem_append.mp z).elim na nb⟩
end

end
end Ev
namespace Ev
open PySem PySem.Spec PySem.SeqAt L2 PyProof.Rows PySem.W
end Ev
namespace Bd
open PySem L2 Ev Xm
end Bd
namespace Bd
open PySem L2 Ev Xm
end Bd
namespace Bd
open PySem L2 Ev
end Bd
namespace Lw
open PySem PySem.Spec PySem.SeqAt PyProof.Rows L2 Ev Bd
def top (i : Nat) : Stmt := PySem.Challenge.pw_oddrings_k58_rows_added_to_full_tables.main.body.getD i (.Pass ⟨0, 0, 0, 0⟩)
def calF (cal : Nat → List D → M D) (i : Nat) : List D → M D :=
  if i = 239 then funM 2 1 (b_law_v32 cal) else
  if i = 237 then funM 10 1 (b__law_right_v31 cal) else
  if i = 44 then funM 5 2 (b__law_reed cal) else
  if i = 48 then funM 1 1 (b_odd_rings cal) else
  if i = 154 then funM 5 1 (b_more_rows cal) else
  if i = 238 then funM 4 1 (b__law_every_v2 cal) else
  if i = 155 then funM 2 2 (b_may_add cal) else
  if i = 1 then (fun ds => M.bind (initM 3 1 (b_Table cal) ds) fun fs => M.pure (.ins "Table" fs)) else
  if i = 2 then funM 3 1 (b__law_text cal) else
  if i = 50 then funM 2 1 (b__law_full cal) else
  if i = 60 then funM 3 2 (b__law_dip cal) else
  if i = 57 then funM 9 4 (b__law_ringed cal) else
  if i = 58 then funM 8 3 (b__law_any cal) else
  if i = 53 then funM 9 1 (b_rings_of cal) else
  if i = 23 then funM 1 1 (b_check_table cal) else
  if i = 157 then funM 2 2 (b_adds_none cal) else
  if i = 158 then funM 2 2 (b_check_digits cal) else
  if i = 7 then funM 5 1 (b_read_rows cal) else
  if i = 6 then funM 1 1 (b_Table___str__ cal) else
  if i = 36 then funM 3 1 (b__law_turned cal) else
  if i = 64 then funM 5 2 (b__law_mixed_v2 cal) else
  if i = 61 then funM 1 1 (b_length_first cal) else
  if i = 62 then funM 6 3 (b_grown cal) else
  if i = 63 then funM 6 1 (b_spots_of cal) else
  if i = 159 then funM 5 4 (b_are_numbers cal) else
  if i = 9 then funM 3 1 (b_is_full cal) else
  if i = 41 then funM 3 3 (b_is_between cal) else
  if i = 42 then funM 1 1 (b_is_integer cal) else
  fun _ _ => .bad
def callN : Nat → Nat → List D → M D
  | 0 => fun _ _ _ => .bad
  | n + 1 => calF (callN n)
theorem c_law_v32 (n : Nat) : callN (n + 1) 239 = funM 2 1 (b_law_v32 (callN n)) := rfl
theorem c__law_right_v31 (n : Nat) : callN (n + 1) 237 = funM 10 1 (b__law_right_v31 (callN n)) := rfl
theorem c__law_reed (n : Nat) : callN (n + 1) 44 = funM 5 2 (b__law_reed (callN n)) := rfl
theorem c_odd_rings (n : Nat) : callN (n + 1) 48 = funM 1 1 (b_odd_rings (callN n)) := rfl
theorem c_more_rows (n : Nat) : callN (n + 1) 154 = funM 5 1 (b_more_rows (callN n)) := rfl
theorem c__law_every_v2 (n : Nat) : callN (n + 1) 238 = funM 4 1 (b__law_every_v2 (callN n)) := rfl
theorem c_may_add (n : Nat) : callN (n + 1) 155 = funM 2 2 (b_may_add (callN n)) := rfl
theorem c_Table (n : Nat) : callN (n + 1) 1 = fun ds => M.bind (initM 3 1 (b_Table (callN n)) ds) fun fs => M.pure (.ins "Table" fs) := rfl
theorem c__law_text (n : Nat) : callN (n + 1) 2 = funM 3 1 (b__law_text (callN n)) := rfl
theorem c__law_full (n : Nat) : callN (n + 1) 50 = funM 2 1 (b__law_full (callN n)) := rfl
theorem c__law_dip (n : Nat) : callN (n + 1) 60 = funM 3 2 (b__law_dip (callN n)) := rfl
theorem c__law_ringed (n : Nat) : callN (n + 1) 57 = funM 9 4 (b__law_ringed (callN n)) := rfl
theorem c__law_any (n : Nat) : callN (n + 1) 58 = funM 8 3 (b__law_any (callN n)) := rfl
theorem c_rings_of (n : Nat) : callN (n + 1) 53 = funM 9 1 (b_rings_of (callN n)) := rfl
theorem c_check_table (n : Nat) : callN (n + 1) 23 = funM 1 1 (b_check_table (callN n)) := rfl
theorem c_adds_none (n : Nat) : callN (n + 1) 157 = funM 2 2 (b_adds_none (callN n)) := rfl
theorem c_check_digits (n : Nat) : callN (n + 1) 158 = funM 2 2 (b_check_digits (callN n)) := rfl
theorem c_read_rows (n : Nat) : callN (n + 1) 7 = funM 5 1 (b_read_rows (callN n)) := rfl
theorem c_Table___str__ (n : Nat) : callN (n + 1) 6 = funM 1 1 (b_Table___str__ (callN n)) := rfl
theorem c__law_turned (n : Nat) : callN (n + 1) 36 = funM 3 1 (b__law_turned (callN n)) := rfl
theorem c__law_mixed_v2 (n : Nat) : callN (n + 1) 64 = funM 5 2 (b__law_mixed_v2 (callN n)) := rfl
theorem c_length_first (n : Nat) : callN (n + 1) 61 = funM 1 1 (b_length_first (callN n)) := rfl
theorem c_grown (n : Nat) : callN (n + 1) 62 = funM 6 3 (b_grown (callN n)) := rfl
theorem c_spots_of (n : Nat) : callN (n + 1) 63 = funM 6 1 (b_spots_of (callN n)) := rfl
theorem c_are_numbers (n : Nat) : callN (n + 1) 159 = funM 5 4 (b_are_numbers (callN n)) := rfl
theorem c_is_full (n : Nat) : callN (n + 1) 9 = funM 3 1 (b_is_full (callN n)) := rfl
theorem c_is_between (n : Nat) : callN (n + 1) 41 = funM 3 3 (b_is_between (callN n)) := rfl
theorem c_is_integer (n : Nat) : callN (n + 1) 42 = funM 1 1 (b_is_integer (callN n)) := rfl
/-- what the module holds -/
structure Fc (K : PySem.W.Frag) (mg : Str → Option Value) : Prop where
  b_abs : mg "abs" = none
  b_all : mg "all" = none
  b_any : mg "any" = none
  b_bool : mg "bool" = none
  b_divmod : mg "divmod" = none
  b_int : mg "int" = none
  b_isinstance : mg "isinstance" = none
  b_len : mg "len" = none
  b_list : mg "list" = none
  b_max : mg "max" = none
  b_range : mg "range" = none
  b_sorted : mg "sorted" = none
  b_str : mg "str" = none
  b_tuple : mg "tuple" = none
  b_zip : mg "zip" = none
  c_MOST_COLUMNS : ∃ t, mg "MOST_COLUMNS" = some (.int 8 t)
  c_MOST_ROWS : ∃ t, mg "MOST_ROWS" = some (.int 8 t)
  g_law : mg "law" = some (.ref (He.ga K "law"))
  k_law : PySem.W.keepIn K (.ref (He.ga K "law")) = true
  g__law_right : mg "_law_right" = some (.ref (He.ga K "_law_right"))
  k__law_right : PySem.W.keepIn K (.ref (He.ga K "_law_right")) = true
  g__law_reed : mg "_law_reed" = some (.ref (He.ga K "_law_reed"))
  k__law_reed : PySem.W.keepIn K (.ref (He.ga K "_law_reed")) = true
  g_odd_rings : mg "odd_rings" = some (.ref (He.ga K "odd_rings"))
  k_odd_rings : PySem.W.keepIn K (.ref (He.ga K "odd_rings")) = true
  g_more_rows : mg "more_rows" = some (.ref (He.ga K "more_rows"))
  k_more_rows : PySem.W.keepIn K (.ref (He.ga K "more_rows")) = true
  g__law_every : mg "_law_every" = some (.ref (He.ga K "_law_every"))
  k__law_every : PySem.W.keepIn K (.ref (He.ga K "_law_every")) = true
  g_may_add : mg "may_add" = some (.ref (He.ga K "may_add"))
  k_may_add : PySem.W.keepIn K (.ref (He.ga K "may_add")) = true
  g_Table : mg "Table" = some (.ref (He.ga K "Table"))
  k_Table : PySem.W.keepIn K (.ref (He.ga K "Table")) = true
  mk_Table : Mk K (He.ga K "Table") (He.ma K (He.ga K "Table") "__init__")
  cls_Table : Cls K (He.ga K "Table")
  g__law_text : mg "_law_text" = some (.ref (He.ga K "_law_text"))
  k__law_text : PySem.W.keepIn K (.ref (He.ga K "_law_text")) = true
  g__law_full : mg "_law_full" = some (.ref (He.ga K "_law_full"))
  k__law_full : PySem.W.keepIn K (.ref (He.ga K "_law_full")) = true
  g__law_dip : mg "_law_dip" = some (.ref (He.ga K "_law_dip"))
  k__law_dip : PySem.W.keepIn K (.ref (He.ga K "_law_dip")) = true
  g__law_ringed : mg "_law_ringed" = some (.ref (He.ga K "_law_ringed"))
  k__law_ringed : PySem.W.keepIn K (.ref (He.ga K "_law_ringed")) = true
  g__law_any : mg "_law_any" = some (.ref (He.ga K "_law_any"))
  k__law_any : PySem.W.keepIn K (.ref (He.ga K "_law_any")) = true
  g_rings_of : mg "rings_of" = some (.ref (He.ga K "rings_of"))
  k_rings_of : PySem.W.keepIn K (.ref (He.ga K "rings_of")) = true
  g_check_table : mg "check_table" = some (.ref (He.ga K "check_table"))
  k_check_table : PySem.W.keepIn K (.ref (He.ga K "check_table")) = true
  g_adds_none : mg "adds_none" = some (.ref (He.ga K "adds_none"))
  k_adds_none : PySem.W.keepIn K (.ref (He.ga K "adds_none")) = true
  g_check_digits : mg "check_digits" = some (.ref (He.ga K "check_digits"))
  k_check_digits : PySem.W.keepIn K (.ref (He.ga K "check_digits")) = true
  g_read_rows : mg "read_rows" = some (.ref (He.ga K "read_rows"))
  k_read_rows : PySem.W.keepIn K (.ref (He.ga K "read_rows")) = true
  g__law_turned : mg "_law_turned" = some (.ref (He.ga K "_law_turned"))
  k__law_turned : PySem.W.keepIn K (.ref (He.ga K "_law_turned")) = true
  g__law_mixed : mg "_law_mixed" = some (.ref (He.ga K "_law_mixed"))
  k__law_mixed : PySem.W.keepIn K (.ref (He.ga K "_law_mixed")) = true
  g_length_first : mg "length_first" = some (.ref (He.ga K "length_first"))
  k_length_first : PySem.W.keepIn K (.ref (He.ga K "length_first")) = true
  g_grown : mg "grown" = some (.ref (He.ga K "grown"))
  k_grown : PySem.W.keepIn K (.ref (He.ga K "grown")) = true
  g_spots_of : mg "spots_of" = some (.ref (He.ga K "spots_of"))
  k_spots_of : PySem.W.keepIn K (.ref (He.ga K "spots_of")) = true
  g_are_numbers : mg "are_numbers" = some (.ref (He.ga K "are_numbers"))
  k_are_numbers : PySem.W.keepIn K (.ref (He.ga K "are_numbers")) = true
  g_is_full : mg "is_full" = some (.ref (He.ga K "is_full"))
  k_is_full : PySem.W.keepIn K (.ref (He.ga K "is_full")) = true
  g_is_between : mg "is_between" = some (.ref (He.ga K "is_between"))
  k_is_between : PySem.W.keepIn K (.ref (He.ga K "is_between")) = true
  g_is_integer : mg "is_integer" = some (.ref (He.ga K "is_integer"))
  k_is_integer : PySem.W.keepIn K (.ref (He.ga K "is_integer")) = true
  ok_height : ∀ c, ok_height c = true → Cls K (He.ga K c) ∧ NoAttr K (He.ga K c) "height"
  ok_rows : ∀ c, ok_rows c = true → Cls K (He.ga K c) ∧ NoAttr K (He.ga K c) "rows"
  ok_text : ∀ c, ok_text c = true → Cls K (He.ga K c) ∧ NoAttr K (He.ga K c) "text"
  ok_width : ∀ c, ok_width c = true → Cls K (He.ga K c) ∧ NoAttr K (He.ga K c) "width"
  ok_bool : ∀ c, ok_bool c = true → NoAttr K (He.ga K c) "__bool__" ∧ NoAttr K (He.ga K c) "__len__"
  isi : IsiOk K (isiT isi)
  me_Table___str__ : Meth K (He.ga K "Table") "__str__" (He.ma K (He.ga K "Table") "__str__")
  d_law : ∃ fd, FunD K "law" "law" (defArgs (top 39)) (defBody (top 39)) (defScope (top 39)) [] [] (He.ga K "law") fd
  d__law_right : ∃ fd, FunD K "_law_right" "_law_right" (defArgs (top 38)) (defBody (top 38)) (defScope (top 38)) [] [] (He.ga K "_law_right") fd
  d__law_reed : ∃ fd, FunD K "_law_reed" "_law_reed" (defArgs (top 29)) (defBody (top 29)) (defScope (top 29)) [] [] (He.ga K "_law_reed") fd
  d_odd_rings : ∃ fd, FunD K "odd_rings" "odd_rings" (defArgs (top 23)) (defBody (top 23)) (defScope (top 23)) [] [] (He.ga K "odd_rings") fd
  d_more_rows : ∃ fd, FunD K "more_rows" "more_rows" (defArgs (top 27)) (defBody (top 27)) (defScope (top 27)) [] [] (He.ga K "more_rows") fd
  d__law_every : ∃ fd, FunD K "_law_every" "_law_every" (defArgs (top 37)) (defBody (top 37)) (defScope (top 37)) [] [] (He.ga K "_law_every") fd
  d_may_add : ∃ fd, FunD K "may_add" "may_add" (defArgs (top 26)) (defBody (top 26)) (defScope (top 26)) [] [] (He.ga K "may_add") fd
  d_Table : ∃ fd, FunD K "__init__" "Table.__init__" (defArgs (inClass (top 15) 0)) (defBody (inClass (top 15) 0)) (defScope (inClass (top 15) 0)) [] [] (He.ma K (He.ga K "Table") "__init__") fd
  d__law_text : ∃ fd, FunD K "_law_text" "_law_text" (defArgs (top 36)) (defBody (top 36)) (defScope (top 36)) [] [] (He.ga K "_law_text") fd
  d__law_full : ∃ fd, FunD K "_law_full" "_law_full" (defArgs (top 35)) (defBody (top 35)) (defScope (top 35)) [] [] (He.ga K "_law_full") fd
  d__law_dip : ∃ fd, FunD K "_law_dip" "_law_dip" (defArgs (top 30)) (defBody (top 30)) (defScope (top 30)) [] [] (He.ga K "_law_dip") fd
  d__law_ringed : ∃ fd, FunD K "_law_ringed" "_law_ringed" (defArgs (top 33)) (defBody (top 33)) (defScope (top 33)) [] [] (He.ga K "_law_ringed") fd
  d__law_any : ∃ fd, FunD K "_law_any" "_law_any" (defArgs (top 32)) (defBody (top 32)) (defScope (top 32)) [] [] (He.ga K "_law_any") fd
  d_rings_of : ∃ fd, FunD K "rings_of" "rings_of" (defArgs (top 21)) (defBody (top 21)) (defScope (top 21)) [] [] (He.ga K "rings_of") fd
  d_check_table : ∃ fd, FunD K "check_table" "check_table" (defArgs (top 16)) (defBody (top 16)) (defScope (top 16)) [] [] (He.ga K "check_table") fd
  d_adds_none : ∃ fd, FunD K "adds_none" "adds_none" (defArgs (top 25)) (defBody (top 25)) (defScope (top 25)) [] [] (He.ga K "adds_none") fd
  d_check_digits : ∃ fd, FunD K "check_digits" "check_digits" (defArgs (top 17)) (defBody (top 17)) (defScope (top 17)) [] [] (He.ga K "check_digits") fd
  d_read_rows : ∃ fd, FunD K "read_rows" "read_rows" (defArgs (top 14)) (defBody (top 14)) (defScope (top 14)) [] [] (He.ga K "read_rows") fd
  d_Table___str__ : ∃ fd, FunD K "__str__" "Table.__str__" (defArgs (inClass (top 15) 2)) (defBody (inClass (top 15) 2)) (defScope (inClass (top 15) 2)) [] [] (He.ma K (He.ga K "Table") "__str__") fd
  d__law_turned : ∃ fd, FunD K "_law_turned" "_law_turned" (defArgs (top 34)) (defBody (top 34)) (defScope (top 34)) [] [] (He.ga K "_law_turned") fd
  d__law_mixed : ∃ fd, FunD K "_law_mixed" "_law_mixed" (defArgs (top 31)) (defBody (top 31)) (defScope (top 31)) [] [] (He.ga K "_law_mixed") fd
  d_length_first : ∃ fd, FunD K "length_first" "length_first" (defArgs (top 22)) (defBody (top 22)) (defScope (top 22)) [] [] (He.ga K "length_first") fd
  d_grown : ∃ fd, FunD K "grown" "grown" (defArgs (top 20)) (defBody (top 20)) (defScope (top 20)) [] [] (He.ga K "grown") fd
  d_spots_of : ∃ fd, FunD K "spots_of" "spots_of" (defArgs (top 19)) (defBody (top 19)) (defScope (top 19)) [] [] (He.ga K "spots_of") fd
  d_are_numbers : ∃ fd, FunD K "are_numbers" "are_numbers" (defArgs (top 11)) (defBody (top 11)) (defScope (top 11)) [] [] (He.ga K "are_numbers") fd
  d_is_full : ∃ fd, FunD K "is_full" "is_full" (defArgs (top 13)) (defBody (top 13)) (defScope (top 13)) [] [] (He.ga K "is_full") fd
  d_is_between : ∃ fd, FunD K "is_between" "is_between" (defArgs (top 10)) (defBody (top 10)) (defScope (top 10)) [] [] (He.ga K "is_between") fd
  d_is_integer : ∃ fd, FunD K "is_integer" "is_integer" (defArgs (top 9)) (defBody (top 9)) (defScope (top 9)) [] [] (He.ga K "is_integer") fd
/-- what may be called -/
structure Tab (P : Program) (w : World) (K : PySem.W.Frag) (mg : Str → Option Value) (base : Heap) (k : Nat) (cal : Nat → List D → M D) : Prop where
  trv : True
  t__law_right : CalG P w K mg base (k + 2) (He.ga K "_law_right") [] (cal 237)
  t__law_reed : CalG P w K mg base (k + 2) (He.ga K "_law_reed") [] (cal 44)
  t_odd_rings : CalG P w K mg base (k + 2) (He.ga K "odd_rings") [] (cal 48)
  t_more_rows : CalG P w K mg base (k + 2) (He.ga K "more_rows") [] (cal 154)
  t__law_every : CalG P w K mg base (k + 2) (He.ga K "_law_every") [] (cal 238)
  t_may_add : CalG P w K mg base (k + 2) (He.ga K "may_add") [] (cal 155)
  t_Table : CalG P w K mg base (k + 2) (He.ga K "Table") [] (cal 1)
  t__law_text : CalG P w K mg base (k + 2) (He.ga K "_law_text") [] (cal 2)
  t__law_full : CalG P w K mg base (k + 2) (He.ga K "_law_full") [] (cal 50)
  t__law_dip : CalG P w K mg base (k + 2) (He.ga K "_law_dip") [] (cal 60)
  t__law_ringed : CalG P w K mg base (k + 2) (He.ga K "_law_ringed") [] (cal 57)
  t__law_any : CalG P w K mg base (k + 2) (He.ga K "_law_any") [] (cal 58)
  t_rings_of : CalG P w K mg base (k + 2) (He.ga K "rings_of") [] (cal 53)
  t_check_table : CalG P w K mg base (k + 2) (He.ga K "check_table") [] (cal 23)
  t_adds_none : CalG P w K mg base (k + 2) (He.ga K "adds_none") [] (cal 157)
  t_check_digits : CalG P w K mg base (k + 2) (He.ga K "check_digits") [] (cal 158)
  t_read_rows : CalG P w K mg base (k + 2) (He.ga K "read_rows") [] (cal 7)
  t__law_turned : CalG P w K mg base (k + 2) (He.ga K "_law_turned") [] (cal 36)
  t__law_mixed : CalG P w K mg base (k + 2) (He.ga K "_law_mixed") [] (cal 64)
  t_grown : CalG P w K mg base (k + 2) (He.ga K "grown") [] (cal 62)
  t_spots_of : CalG P w K mg base (k + 2) (He.ga K "spots_of") [] (cal 63)
  t_are_numbers : CalG P w K mg base (k + 2) (He.ga K "are_numbers") [] (cal 159)
  t_is_full : CalG P w K mg base (k + 2) (He.ga K "is_full") [] (cal 9)
  t_is_between : CalG P w K mg base (k + 2) (He.ga K "is_between") [] (cal 41)
  t_is_integer : CalG P w K mg base (k + 2) (He.ga K "is_integer") [] (cal 42)
  k_length_first : KeyG P w K mg base k (He.ga K "length_first") (cal 61)
  str : StrG P w K mg base k (strT cal)
section
variable {P : Program} {w : World} {K : PySem.W.Frag} {mg : Str → Option Value} {base : Heap} {k : Nat} {cal : Nat → List D → M D}
theorem sc_law : FnScope ["_law_cells", "_law_turn"] ["_law_cells"] (defScope (top 39)) := ⟨rfl, rfl, rfl, by decide +kernel, rfl, by decide +kernel, by decide +kernel⟩
theorem fb_law (F : Fc K mg) (T : Tab P w K mg base k cal) : FB P w K mg base (k + 2) ["_law_cells", "_law_turn"] "law" (defScope (top 39)) (defBody (top 39)) (b_law_v32 cal) := by
  intro f cdv A outer s H E hg hr
  have C := ct_of (P := P) (w := w) (K := K) (mg := mg) (base := base) (k := k + 2) (N := ["_law_cells", "_law_turn"]) (qual := "law") (scope := defScope (top 39)) (f := f) (cdv := cdv) (A := A) (outer := outer) (s := s) (H := H) (E := E) hg hr
  have nd := sc_law.nd
  exact (sb_one (ss_ret (nB (cr_pAll C.calm) F.b_all bt_all (nCons (nLc [("_law_turn", 1)] C fin_newL nd (nR1 F.b_range (nCons se_int sa_nil)) (blkOk_by (by kernel_rfl)) (fun _ _ _ _ _ => (uName 1 nd)) (fun _ _ _ _ _ => ptsNil) (fun _ _ _ _ _ => (nCal C.blk T.t__law_right F.g__law_right F.k__law_right (nCons (nCal C.blk T.t__law_reed F.g__law_reed F.k__law_reed (nCons (nVar 0) (nCons (nVar 1) sa_nil))) sa_nil))) upNm) sa_nil))))
theorem sc__law_right : FnScope ["_law_reed_here", "_law_wide", "_law_grid", "_law_mine", "_law_told", "_law_row", "_law_k", "_law_j", "_law_within", "_law_ring"] ["_law_reed_here"] (defScope (top 38)) := ⟨rfl, rfl, rfl, by decide +kernel, rfl, by decide +kernel, by decide +kernel⟩
theorem fb__law_right (F : Fc K mg) (T : Tab P w K mg base k cal) : FB P w K mg base (k + 2) ["_law_reed_here", "_law_wide", "_law_grid", "_law_mine", "_law_told", "_law_row", "_law_k", "_law_j", "_law_within", "_law_ring"] "_law_right" (defScope (top 38)) (defBody (top 38)) (b__law_right_v31 cal) := by
  intro f cdv A outer s H E hg hr
  have C := ct_of (P := P) (w := w) (K := K) (mg := mg) (base := base) (k := k + 2) (N := ["_law_reed_here", "_law_wide", "_law_grid", "_law_mine", "_law_told", "_law_row", "_law_k", "_law_j", "_law_within", "_law_ring"]) (qual := "_law_right") (scope := defScope (top 38)) (f := f) (cdv := cdv) (A := A) (outer := outer) (s := s) (H := H) (E := E) hg hr
  have nd := sc__law_right.nd
  exact (sb_cons (nSet 1 (se_op op_pAdd se_int (nCal C T.t__law_dip F.g__law_dip F.k__law_dip (nCons (nVar 0) (nCons se_int sa_nil)))) nd)
    (sb_cons (nSet 2 (se_frz (nCal C T.t__law_any F.g__law_any F.k__law_any (nCons (nVar 0) (nCons se_int (nCons (nVar 1) sa_nil))))) nd)
    (sb_cons (ss_if (sw_st (sw_and (nCmpT op_pGt (nVar 1) se_int) (sw_and1 (nCmpT (op_pEq C.hu) (nCal C T.t__law_dip F.g__law_dip F.k__law_dip (nCons (nVar 0) (nCons se_int sa_nil))) se_int)))) (sb_one (nSet 2 (nCal C T.t__law_ringed F.g__law_ringed F.k__law_ringed (nCons (nVar 0) (nCons se_int (nCons (nVar 1) (nCons se_int sa_nil))))) nd)) sb_nil)
    (sb_cons (ss_if (st_not (nTru (nCal C T.t__law_full F.g__law_full F.k__law_full (nCons (nVar 2) sa_nil)))) (sb_one (ss_ret se_bl)) sb_nil)
    (sb_cons (nSet 3 (nCal C T.t_Table F.g_Table F.k_Table (nCons (nCal C T.t__law_text F.g__law_text F.k__law_text (nCons (nVar 2) sa_nil)) sa_nil)) nd)
    (sb_cons (nSetLc 4 [("_law_row", 5)] C fin_newL nd (si_any (nCal C T.t__law_every F.g__law_every F.k__law_every (nCons (nVar 1) sa_nil))) (blkOk_by (by kernel_rfl)) (fun _ _ _ _ _ => (uName 5 nd)) (fun _ _ _ _ _ => (ptsOne (nTru (nCal C.blk T.t_may_add F.g_may_add F.k_may_add (nCons (nVar 3) (nCons (nVar 5) sa_nil)))))) (fun _ _ _ _ _ => (nVar 5)) upNm)
    (sb_cons (ss_if (nCmpT (op_pNe C.hu) (nCal C T.t_more_rows F.g_more_rows F.k_more_rows (nCons (nVar 3) sa_nil)) (nB cr_pLen F.b_len bt_len (nCons (nVar 4) sa_nil))) (sb_one (ss_ret se_bl)) sb_nil)
    (sb_cons (nFor C po_of (nR1 F.b_range (nCons (nVar 1) sa_nil)) (gName 6 nd) (sb_one (ss_if (nCmpT (op_pNotIn C.hu) (nT cr_pTuple F.b_tuple bt_tuple (nCons (nLc [("_law_j", 7)] C fin_newL nd (nR1 F.b_range (nCons (nVar 1) sa_nil)) (blkOk_by (by kernel_rfl)) (fun _ _ _ _ _ => (uName 7 nd)) (fun _ _ _ _ _ => ptsNil) (fun _ _ _ _ _ => (nT cr_pInt F.b_int bt_int (nCons (nCmp (op_pEq C.blk.hu) (nVar 7) (nVar 6)) sa_nil))) upNm) sa_nil)) (nVar 4)) (sb_one (ss_ret se_bl)) sb_nil)))
    (sb_cons (ss_if (nCmpT (op_pNotIn C.hu) (se_op op_pMulT (se_tup (nCons se_int sa_nil)) (nVar 1)) (nVar 4)) (sb_one (ss_ret se_bl)) sb_nil)
    (sb_cons (nSet 8 (se_lst sa_nil) nd)
    (sb_cons (nFor C po_of (si_any (nCal C T.t_odd_rings F.g_odd_rings F.k_odd_rings (nCons (nVar 3) sa_nil))) (gName 9 nd) (sb_one (nSet 8 (se_op op_pAdd (nVar 8) (nT (cr_pList newL_ok) F.b_list bt_list (nCons (nIx (nVar 9) se_int) sa_nil))) nd)))
    (sb_cons (nFor C po_of (nR1 F.b_range (nCons se_int sa_nil)) (gName 7 nd) (sb_one (ss_if (nCmpT (op_pNe C.hu) (nCmp (op_pIn C.hu) (nT cr_pTuple F.b_tuple bt_tuple (nCons (nIx (nVar 2) (nVar 7)) sa_nil)) (nVar 4)) (nCmp (op_pNotIn C.hu) (nVar 7) (nVar 8))) (sb_one (ss_ret se_bl)) sb_nil)))
    (sb_one (ss_ret se_bl))))))))))))))
theorem sc__law_reed : FnScope ["_law_cells", "_law_turn", "_law_mixed_here", "_law_cell", "_law_own"] ["_law_cells", "_law_turn"] (defScope (top 29)) := ⟨rfl, rfl, rfl, by decide +kernel, rfl, by decide +kernel, by decide +kernel⟩
theorem fb__law_reed (F : Fc K mg) (T : Tab P w K mg base k cal) : FB P w K mg base (k + 2) ["_law_cells", "_law_turn", "_law_mixed_here", "_law_cell", "_law_own"] "_law_reed" (defScope (top 29)) (defBody (top 29)) (b__law_reed cal) := by
  intro f cdv A outer s H E hg hr
  have C := ct_of (P := P) (w := w) (K := K) (mg := mg) (base := base) (k := k + 2) (N := ["_law_cells", "_law_turn", "_law_mixed_here", "_law_cell", "_law_own"]) (qual := "_law_reed") (scope := defScope (top 29)) (f := f) (cdv := cdv) (A := A) (outer := outer) (s := s) (H := H) (E := E) hg hr
  have nd := sc__law_reed.nd
  exact (sb_cons (nSet 2 (se_op op_pAdd se_int (se_op op_pMul se_int (nVar 1))) nd)
    (sb_cons (nFor C po_of (si_any (se_cut (nVar 0) so_none (so_some se_int))) (gName 3 nd) (sb_one (nSet 2 (se_op op_pMod (nT cr_pInt F.b_int bt_int (nCons (se_op op_pAdd (se_op op_pAdd (se_op op_pMul (nVar 2) se_int) (nVar 3)) se_int) sa_nil)) se_int) nd)))
    (sb_cons (nSet 4 (se_if (nCmpT op_pLt (nVar 1) (nB cr_pLen F.b_len bt_len (nCons (nVar 0) sa_nil))) (nIx (nVar 0) (nVar 1)) se_int) nd)
    (sb_one (ss_ret (se_lstC (nCons (se_op op_pMod (nT cr_pInt F.b_int bt_int (nCons (se_op op_pAdd (se_op op_pMul (nVar 2) se_int) (nVar 4)) sa_nil)) se_int) (nCons (se_if (nCmpT op_pGe (nB cr_pAbs F.b_abs bt_abs (nCons (nVar 4) sa_nil)) (se_op op_pPow se_int se_int)) (nB cr_pAbs F.b_abs bt_abs (nCons (nVar 4) sa_nil)) se_int) sa_nil))))))))
theorem sc_odd_rings : FnScope ["table"] ["table"] (defScope (top 23)) := ⟨rfl, rfl, rfl, by decide +kernel, rfl, by decide +kernel, by decide +kernel⟩
theorem fb_odd_rings (F : Fc K mg) (T : Tab P w K mg base k cal) : FB P w K mg base (k + 2) ["table"] "odd_rings" (defScope (top 23)) (defBody (top 23)) (b_odd_rings cal) := by
  intro f cdv A outer s H E hg hr
  have C := ct_of (P := P) (w := w) (K := K) (mg := mg) (base := base) (k := k + 2) (N := ["table"]) (qual := "odd_rings") (scope := defScope (top 23)) (f := f) (cdv := cdv) (A := A) (outer := outer) (s := s) (H := H) (E := E) hg hr
  have nd := sc_odd_rings.nd
  exact (sb_cons (nExpr (nCal C T.t_check_table F.g_check_table F.k_check_table (nCons (nVar 0) sa_nil)))
    (sb_one (ss_ret (nT cr_pTuple F.b_tuple bt_tuple (nCons (nCal C T.t_rings_of F.g_rings_of F.k_rings_of (nCons (nFld F.ok_rows (nVar 0)) sa_nil)) sa_nil)))))
theorem sc_more_rows : FnScope ["table", "found", "column", "digits", "digit"] ["table"] (defScope (top 27)) := ⟨rfl, rfl, rfl, by decide +kernel, rfl, by decide +kernel, by decide +kernel⟩
theorem fb_more_rows (F : Fc K mg) (T : Tab P w K mg base k cal) : FB P w K mg base (k + 2) ["table", "found", "column", "digits", "digit"] "more_rows" (defScope (top 27)) (defBody (top 27)) (b_more_rows cal) := by
  intro f cdv A outer s H E hg hr
  have C := ct_of (P := P) (w := w) (K := K) (mg := mg) (base := base) (k := k + 2) (N := ["table", "found", "column", "digits", "digit"]) (qual := "more_rows") (scope := defScope (top 27)) (f := f) (cdv := cdv) (A := A) (outer := outer) (s := s) (H := H) (E := E) hg hr
  have nd := sc_more_rows.nd
  exact (sb_cons (nExpr (nCal C T.t_check_table F.g_check_table F.k_check_table (nCons (nVar 0) sa_nil)))
    (sb_cons (nSet 1 (se_lst (nCons (se_tup sa_nil) sa_nil)) nd)
    (sb_cons (nFor C po_of (nR1 F.b_range (nCons (nFld F.ok_width (nVar 0)) sa_nil)) (gName 2 nd) (sb_one (nSetLc2 1 [("digits", 3), ("digit", 4)] [4] C fin_newL nd (si_any (nVar 1)) (blkOk_by (by kernel_rfl)) (by decide) (fun _ _ _ _ _ => (uName 3 nd)) (fun _ _ _ _ _ => ptsNil) (fun _ _ _ _ _ => (si_any (se_tup (nCons se_int (nCons se_int sa_nil))))) (fun _ _ _ _ _ => (uName 4 nd)) (fun _ _ _ _ _ => ptsNil) (fun _ _ _ _ _ => (se_tup (sa_star (nVar 3) (nCons (nVar 4) sa_nil)))) upNm upNm)))
    (sb_one (ss_ret (nB cr_pLen F.b_len bt_len (nCons (nLc [("digits", 3)] C fin_newL nd (si_any (nVar 1)) (blkOk_by (by kernel_rfl)) (fun _ _ _ _ _ => (uName 3 nd)) (fun _ _ _ _ _ => (ptsOne (sw_st (sw_and (nTru (nB (cr_pAnyT C.blk.calm) F.b_any bt_any (nCons (nVar 3) sa_nil))) (sw_and1 (nTru (nCal C.blk T.t_adds_none F.g_adds_none F.k_adds_none (nCons (nFld F.ok_rows (nVar 0)) (nCons (nVar 3) sa_nil))))))))) (fun _ _ _ _ _ => (nVar 3)) upNm) sa_nil)))))))
theorem sc__law_every : FnScope ["_law_wide", "_law_found", "_law_k", "_law_row"] ["_law_wide"] (defScope (top 37)) := ⟨rfl, rfl, rfl, by decide +kernel, rfl, by decide +kernel, by decide +kernel⟩
theorem fb__law_every (F : Fc K mg) (T : Tab P w K mg base k cal) : FB P w K mg base (k + 2) ["_law_wide", "_law_found", "_law_k", "_law_row"] "_law_every" (defScope (top 37)) (defBody (top 37)) (b__law_every_v2 cal) := by
  intro f cdv A outer s H E hg hr
  have C := ct_of (P := P) (w := w) (K := K) (mg := mg) (base := base) (k := k + 2) (N := ["_law_wide", "_law_found", "_law_k", "_law_row"]) (qual := "_law_every") (scope := defScope (top 37)) (f := f) (cdv := cdv) (A := A) (outer := outer) (s := s) (H := H) (E := E) hg hr
  have nd := sc__law_every.nd
  exact (sb_cons (nSet 1 (se_lst (nCons (se_tup sa_nil) sa_nil)) nd)
    (sb_cons (nFor C po_of (nR1 F.b_range (nCons (nVar 0) sa_nil)) (gName 2 nd) (sb_one (nSet 1 (se_op op_pAdd (nLc [("_law_row", 3)] C fin_newL nd (si_any (nVar 1)) (blkOk_by (by kernel_rfl)) (fun _ _ _ _ _ => (uName 3 nd)) (fun _ _ _ _ _ => ptsNil) (fun _ _ _ _ _ => (se_op op_pAdd (nVar 3) (se_tup (nCons se_int sa_nil)))) upNm) (nLc [("_law_row", 3)] C fin_newL nd (si_any (nVar 1)) (blkOk_by (by kernel_rfl)) (fun _ _ _ _ _ => (uName 3 nd)) (fun _ _ _ _ _ => ptsNil) (fun _ _ _ _ _ => (se_op op_pAdd (nVar 3) (se_tup (nCons se_int sa_nil)))) upNm)) nd)))
    (sb_one (ss_ret (nLc [("_law_row", 3)] C fin_newL nd (si_any (nVar 1)) (blkOk_by (by kernel_rfl)) (fun _ _ _ _ _ => (uName 3 nd)) (fun _ _ _ _ _ => (ptsOne (nCmpT (op_pIn C.blk.hu) se_int (nVar 3)))) (fun _ _ _ _ _ => (nVar 3)) upNm)))))
theorem sc_may_add : FnScope ["table", "digits"] ["table", "digits"] (defScope (top 26)) := ⟨rfl, rfl, rfl, by decide +kernel, rfl, by decide +kernel, by decide +kernel⟩
theorem fb_may_add (F : Fc K mg) (T : Tab P w K mg base k cal) : FB P w K mg base (k + 2) ["table", "digits"] "may_add" (defScope (top 26)) (defBody (top 26)) (b_may_add cal) := by
  intro f cdv A outer s H E hg hr
  have C := ct_of (P := P) (w := w) (K := K) (mg := mg) (base := base) (k := k + 2) (N := ["table", "digits"]) (qual := "may_add") (scope := defScope (top 26)) (f := f) (cdv := cdv) (A := A) (outer := outer) (s := s) (H := H) (E := E) hg hr
  have nd := sc_may_add.nd
  exact (sb_cons (nExpr (nCal C T.t_check_table F.g_check_table F.k_check_table (nCons (nVar 0) sa_nil)))
    (sb_cons (nExpr (nCal C T.t_check_digits F.g_check_digits F.k_check_digits (nCons (nVar 0) (nCons (nVar 1) sa_nil))))
    (sb_one (ss_ret (nCal C T.t_adds_none F.g_adds_none F.k_adds_none (nCons (nFld F.ok_rows (nVar 0)) (nCons (nVar 1) sa_nil)))))))
theorem sc_Table : FnScope ["self", "text", "rows"] ["self", "text"] (defScope (inClass (top 15) 0)) := ⟨rfl, rfl, rfl, by decide +kernel, rfl, by decide +kernel, by decide +kernel⟩
theorem fb_Table (F : Fc K mg) (T : Tab P w K mg base k cal) : FBI P w K mg base (k + 2) ["self", "text", "rows"] "Table.__init__" (defScope (inClass (top 15) 0)) "Table" (defBody (inClass (top 15) 0)) (b_Table cal) := by
  intro f cdv A outer s H E hg hr
  have C := ct_of (P := P) (w := w) (K := K) (mg := mg) (base := base) (k := k + 2) (N := ["self", "text", "rows"]) (qual := "Table.__init__") (scope := defScope (inClass (top 15) 0)) (f := f) (cdv := cdv) (A := A) (outer := outer) (s := s) (H := H) (E := E) hg hr
  have nd := sc_Table.nd
  exact (sbi_ord (nSet 2 (nCal C T.t_read_rows F.g_read_rows F.k_read_rows (nCons (nVar 1) sa_nil)) nd)
    (sbi_ord (ss_if (nCmpT op_pIs (nVar 2) se_non) (sb_one ss_bad) sb_nil)
    (iMany C (se_tup (nCons (nVar 1) (nCons (nVar 2) sa_nil))) (iCs (iSelf (F.ok_text "Table" rfl)) (iCs (iSelf (F.ok_rows "Table" rfl)) sgis_nil)) (iMany C (se_tup (nCons (nB cr_pLen F.b_len bt_len (nCons (nVar 2) sa_nil)) (nCons (nB cr_pLen F.b_len bt_len (nCons (nIx (nVar 2) se_int) sa_nil)) sa_nil))) (iCs (iSelf (F.ok_height "Table" rfl)) (iCs (iSelf (F.ok_width "Table" rfl)) sgis_nil)) sbi_nil))))
theorem sc__law_text : FnScope ["_law_grid", "_law_digit", "_law_row"] ["_law_grid"] (defScope (top 36)) := ⟨rfl, rfl, rfl, by decide +kernel, rfl, by decide +kernel, by decide +kernel⟩
theorem fb__law_text (F : Fc K mg) (T : Tab P w K mg base k cal) : FB P w K mg base (k + 2) ["_law_grid", "_law_digit", "_law_row"] "_law_text" (defScope (top 36)) (defBody (top 36)) (b__law_text cal) := by
  intro f cdv A outer s H E hg hr
  have C := ct_of (P := P) (w := w) (K := K) (mg := mg) (base := base) (k := k + 2) (N := ["_law_grid", "_law_digit", "_law_row"]) (qual := "_law_text") (scope := defScope (top 36)) (f := f) (cdv := cdv) (A := A) (outer := outer) (s := s) (H := H) (E := E) hg hr
  have nd := sc__law_text.nd
  exact (sb_one (ss_ret (nMb PySem.F.plainAttrs_str PySem.F.slot_str_join PySem.F.type_str_join mt_pJoin se_str (nCons (nLc [("_law_row", 2)] C fin_newL nd (si_any (nVar 0)) (blkOk_by (by kernel_rfl)) (fun _ _ _ _ _ => (uName 2 nd)) (fun _ _ _ _ _ => ptsNil) (fun _ _ _ _ _ => (nMb PySem.F.plainAttrs_str PySem.F.slot_str_join PySem.F.type_str_join mt_pJoin se_str (nCons (nLc [("_law_digit", 1)] C.blk fin_newL nd (si_any (nVar 2)) (blkOk_by (by kernel_rfl)) (fun _ _ _ _ _ => (uName 1 nd)) (fun _ _ _ _ _ => ptsNil) (fun _ _ _ _ _ => (nT (cr_pStrI (k := k) T.str (C.blk.blk.room.mono (by omega)) C.blk.blk.gd) F.b_str bt_str (nCons (nVar 1) sa_nil))) upNm) sa_nil))) upNm) sa_nil))))
theorem sc__law_full : FnScope ["_law_grid", "_law_row"] ["_law_grid"] (defScope (top 35)) := ⟨rfl, rfl, rfl, by decide +kernel, rfl, by decide +kernel, by decide +kernel⟩
theorem fb__law_full (F : Fc K mg) (T : Tab P w K mg base k cal) : FB P w K mg base (k + 2) ["_law_grid", "_law_row"] "_law_full" (defScope (top 35)) (defBody (top 35)) (b__law_full cal) := by
  intro f cdv A outer s H E hg hr
  have C := ct_of (P := P) (w := w) (K := K) (mg := mg) (base := base) (k := k + 2) (N := ["_law_grid", "_law_row"]) (qual := "_law_full") (scope := defScope (top 35)) (f := f) (cdv := cdv) (A := A) (outer := outer) (s := s) (H := H) (E := E) hg hr
  have nd := sc__law_full.nd
  exact (sb_one (ss_ret (se_and (nCmp (op_pNotIn C.hu) se_int (nLc [("_law_row", 1)] C fin_newL nd (si_any (nVar 0)) (blkOk_by (by kernel_rfl)) (fun _ _ _ _ _ => (uName 1 nd)) (fun _ _ _ _ _ => ptsNil) (fun _ _ _ _ _ => (nB (cr_pMax C.blk.calm) F.b_max bt_max (nCons (nVar 1) sa_nil))) upNm)) (and1 (nCmp (op_pNotIn C.hu) se_int (nLc [("_law_row", 1)] C fin_newL nd (si_any (nCal C T.t__law_turned F.g__law_turned F.k__law_turned (nCons (nVar 0) sa_nil))) (blkOk_by (by kernel_rfl)) (fun _ _ _ _ _ => (uName 1 nd)) (fun _ _ _ _ _ => ptsNil) (fun _ _ _ _ _ => (nB (cr_pMax C.blk.calm) F.b_max bt_max (nCons (nVar 1) sa_nil))) upNm))))))
theorem sc__law_dip : FnScope ["_law_reed_here", "_law_amount", "_law_figure"] ["_law_reed_here", "_law_amount"] (defScope (top 30)) := ⟨rfl, rfl, rfl, by decide +kernel, rfl, by decide +kernel, by decide +kernel⟩
theorem fb__law_dip (F : Fc K mg) (T : Tab P w K mg base k cal) : FB P w K mg base (k + 2) ["_law_reed_here", "_law_amount", "_law_figure"] "_law_dip" (defScope (top 30)) (defBody (top 30)) (b__law_dip cal) := by
  intro f cdv A outer s H E hg hr
  have C := ct_of (P := P) (w := w) (K := K) (mg := mg) (base := base) (k := k + 2) (N := ["_law_reed_here", "_law_amount", "_law_figure"]) (qual := "_law_dip") (scope := defScope (top 30)) (f := f) (cdv := cdv) (A := A) (outer := outer) (s := s) (H := H) (E := E) hg hr
  have nd := sc__law_dip.nd
  exact (sb_cons (ss_if (nCmpT op_pGt (nIx (nVar 0) se_int) se_int) (sb_cons (nAsg (nB cr_pDivmod F.b_divmod bt_divmod (nCons (nIx (nVar 0) se_int) (nCons (nVar 1) sa_nil))) (gTup C (gCons (gSub (fun cls d _ H' => E cls d H') (nVar 0) se_int set_pStore) (gCons (gName 2 nd) sgs_nil))))
    (sb_one (ss_ret (nVar 2)))) sb_nil)
    (sb_cons (nAsg (se_op op_pMod (nT cr_pInt F.b_int bt_int (nCons (se_op op_pAdd (se_op op_pMul (nIx (nVar 0) se_int) se_int) se_int) sa_nil)) se_int) (gSub (fun cls d _ H' => E cls d H') (nVar 0) se_int set_pStore))
    (sb_one (ss_ret (se_op op_pMod (nT cr_pInt F.b_int bt_int (nCons (se_op op_pFdiv (nIx (nVar 0) se_int) se_int) sa_nil)) (nVar 1))))))
theorem sc__law_ringed : FnScope ["_law_reed_here", "_law_tall", "_law_wide", "_law_many", "_law_grid", "_law_places_here", "_law_spots", "_law_j", "_law_k"] ["_law_reed_here", "_law_tall", "_law_wide", "_law_many"] (defScope (top 33)) := ⟨rfl, rfl, rfl, by decide +kernel, rfl, by decide +kernel, by decide +kernel⟩
theorem fb__law_ringed (F : Fc K mg) (T : Tab P w K mg base k cal) : FB P w K mg base (k + 2) ["_law_reed_here", "_law_tall", "_law_wide", "_law_many", "_law_grid", "_law_places_here", "_law_spots", "_law_j", "_law_k"] "_law_ringed" (defScope (top 33)) (defBody (top 33)) (b__law_ringed cal) := by
  intro f cdv A outer s H E hg hr
  have C := ct_of (P := P) (w := w) (K := K) (mg := mg) (base := base) (k := k + 2) (N := ["_law_reed_here", "_law_tall", "_law_wide", "_law_many", "_law_grid", "_law_places_here", "_law_spots", "_law_j", "_law_k"]) (qual := "_law_ringed") (scope := defScope (top 33)) (f := f) (cdv := cdv) (A := A) (outer := outer) (s := s) (H := H) (E := E) hg hr
  have nd := sc__law_ringed.nd
  exact (sb_cons (nPar2 4 5 C nd (nCons (nCal C T.t__law_any F.g__law_any F.k__law_any (nCons (nVar 0) (nCons (nVar 1) (nCons (nVar 2) sa_nil)))) (nCons (se_cut (nCal C T.t__law_mixed F.g__law_mixed F.k__law_mixed (nCons (nVar 0) (nCons (nListRg1 C newL_ok F.b_list F.b_range (nVar 1)) sa_nil))) so_none (so_some (nVar 3))) sa_nil)))
    (sb_cons (nSet 6 (se_cut (nCal C T.t__law_mixed F.g__law_mixed F.k__law_mixed (nCons (nVar 0) (nCons (nListRg1 C newL_ok F.b_list F.b_range (nVar 2)) sa_nil))) so_none (so_some (nVar 3))) nd)
    (sb_cons (nFor C po_of (nR1 F.b_range (nCons (nVar 3) sa_nil)) (gName 7 nd) (sb_one (nFor C po_of (nR1 F.b_range (nCons (nVar 3) sa_nil)) (gName 8 nd) (sb_one (nAsg (nT cr_pInt F.b_int bt_int (nCons (nCmp (op_pIn C.hu) (nVar 8) (se_lst (nCons (nVar 7) (nCons (se_op op_pMod (nT cr_pInt F.b_int bt_int (nCons (se_op op_pAdd (nVar 7) se_int) sa_nil)) (nVar 3)) sa_nil)))) sa_nil)) (gSub (fun cls d _ H' => E cls d H') (nIx (nVar 4) (nIx (nVar 5) (nVar 7))) (nIx (nVar 6) (nVar 8)) set_pStore))))))
    (sb_one (ss_ret (se_frz (nVar 4)))))))
theorem sc__law_any : FnScope ["_law_reed_here", "_law_tall", "_law_wide", "_law_some", "_law_grid", "_law_k", "_law_j", "_law_row"] ["_law_reed_here", "_law_tall", "_law_wide"] (defScope (top 32)) := ⟨rfl, rfl, rfl, by decide +kernel, rfl, by decide +kernel, by decide +kernel⟩
theorem fb__law_any (F : Fc K mg) (T : Tab P w K mg base k cal) : FB P w K mg base (k + 2) ["_law_reed_here", "_law_tall", "_law_wide", "_law_some", "_law_grid", "_law_k", "_law_j", "_law_row"] "_law_any" (defScope (top 32)) (defBody (top 32)) (b__law_any cal) := by
  intro f cdv A outer s H E hg hr
  have C := ct_of (P := P) (w := w) (K := K) (mg := mg) (base := base) (k := k + 2) (N := ["_law_reed_here", "_law_tall", "_law_wide", "_law_some", "_law_grid", "_law_k", "_law_j", "_law_row"]) (qual := "_law_any") (scope := defScope (top 32)) (f := f) (cdv := cdv) (A := A) (outer := outer) (s := s) (H := H) (E := E) hg hr
  have nd := sc__law_any.nd
  exact (sb_cons (nSet 3 (se_op op_pAdd se_int (nCal C T.t__law_dip F.g__law_dip F.k__law_dip (nCons (nVar 0) (nCons se_int sa_nil)))) nd)
    (sb_cons (nSetLc 4 [("_law_j", 6)] C fin_newL nd (nR1 F.b_range (nCons (nVar 1) sa_nil)) (blkOk_by (by kernel_rfl)) (fun _ _ _ _ _ => (uName 6 nd)) (fun _ _ _ _ _ => ptsNil) (fun _ _ _ _ _ => (nLc [("_law_k", 5)] C.blk fin_newC nd (nR1 F.b_range (nCons (nVar 2) sa_nil)) (blkOk_by (by kernel_rfl)) (fun _ _ _ _ _ => (uName 5 nd)) (fun _ _ _ _ _ => ptsNil) (fun _ _ _ _ _ => (nT cr_pInt F.b_int bt_int (nCons (nCmp (op_pEq C.blk.blk.hu) (nCal C.blk.blk T.t__law_dip F.g__law_dip F.k__law_dip (nCons (nVar 0) (nCons (nVar 3) sa_nil))) se_int) sa_nil))) upNm)) upNm)
    (sb_cons (nFor C po_of (nR1 F.b_range (nCons (nVar 1) sa_nil)) (gName 6 nd) (sb_one (ss_if (nCmpT (op_pNotIn C.hu) se_int (nIx (nVar 4) (nVar 6))) (sb_one (nAsg se_int (gSub (fun cls d _ H' => E cls d H') (nIx (nVar 4) (nVar 6)) (nCal C T.t__law_dip F.g__law_dip F.k__law_dip (nCons (nVar 0) (nCons (nVar 2) sa_nil))) set_pStore))) sb_nil)))
    (sb_cons (nFor C po_of (nR1 F.b_range (nCons (nVar 2) sa_nil)) (gName 5 nd) (sb_one (ss_if (nCmpT (op_pNotIn C.hu) se_int (nLc [("_law_row", 7)] C fin_newL nd (si_any (nVar 4)) (blkOk_by (by kernel_rfl)) (fun _ _ _ _ _ => (uName 7 nd)) (fun _ _ _ _ _ => ptsNil) (fun _ _ _ _ _ => (nIx (nVar 7) (nVar 5))) upNm)) (sb_one (nAsg se_int (gSub (fun cls d _ H' => E cls d H') (nIx (nVar 4) (nCal C T.t__law_dip F.g__law_dip F.k__law_dip (nCons (nVar 0) (nCons (nVar 1) sa_nil)))) (nVar 5) set_pStore))) sb_nil)))
    (sb_one (ss_ret (nVar 4)))))))
theorem sc_rings_of : FnScope ["rows", "height", "spots", "found", "row", "rings", "places", "many", "place"] ["rows"] (defScope (top 21)) := ⟨rfl, rfl, rfl, by decide +kernel, rfl, by decide +kernel, by decide +kernel⟩
theorem fb_rings_of (F : Fc K mg) (T : Tab P w K mg base k cal) : FB P w K mg base (k + 2) ["rows", "height", "spots", "found", "row", "rings", "places", "many", "place"] "rings_of" (defScope (top 21)) (defBody (top 21)) (b_rings_of cal) := by
  intro f cdv A outer s H E hg hr
  have C := ct_of (P := P) (w := w) (K := K) (mg := mg) (base := base) (k := k + 2) (N := ["rows", "height", "spots", "found", "row", "rings", "places", "many", "place"]) (qual := "rings_of") (scope := defScope (top 21)) (f := f) (cdv := cdv) (A := A) (outer := outer) (s := s) (H := H) (E := E) hg hr
  have nd := sc_rings_of.nd
  exact (sb_cons (nAsg (se_tup (nCons (nB cr_pLen F.b_len bt_len (nCons (nVar 0) sa_nil)) (nCons (nCal C T.t_spots_of F.g_spots_of F.k_spots_of (nCons (nVar 0) sa_nil)) (nCons se_dT sa_nil)))) (gTup C (gCons (gName 1 nd) (gCons (gName 2 nd) (gCons (gName 3 nd) sgs_nil)))))
    (sb_cons (nFor C po_of (nR1 F.b_range (nCons (nVar 1) sa_nil)) (gName 4 nd) (sb_one (nExpr (nCal C T.t_grown F.g_grown F.k_grown (nCons (nVar 2) (nCons (se_lst (nCons (nVar 4) sa_nil)) (nCons (nVar 3) sa_nil)))))))
    (sb_cons (nSet 5 (se_lstC sa_nil) nd)
    (sb_cons (nFor C po_of (nKeysV 3) (gName 6 nd) (sb_cons (nSet 7 (se_op op_pFdiv (nB cr_pLen F.b_len bt_len (nCons (nVar 6) sa_nil)) se_int) nd)
    (sb_one (ss_if (sw_st (sw_and (nCmpT op_pGt (nVar 7) se_int) (sw_and1 (nCmpT (op_pEq C.hu) (se_op op_pMod (nT cr_pInt F.b_int bt_int (nCons (nVar 7) sa_nil)) se_int) se_int)))) (sb_one (nExpr (nMb PySem.F.plainAttrs_list PySem.F.slot_list_append PySem.F.type_list_append mt_pAppend (nVar 5) (nCons (se_tup (nCons (se_cut (nVar 6) so_none (so_some (nVar 7))) (nCons (nT cr_pTuple F.b_tuple bt_tuple (nCons (nLc [("place", 8)] C fin_newL nd (si_any (se_cut (nVar 6) (so_some (nVar 7)) so_none)) (blkOk_by (by kernel_rfl)) (fun _ _ _ _ _ => (uName 8 nd)) (fun _ _ _ _ _ => ptsNil) (fun _ _ _ _ _ => (se_op op_pSub (nVar 8) (nVar 1))) upNm) sa_nil)) sa_nil))) sa_nil)))) sb_nil))))
    (sb_one (ss_ret (nSortK C T.k_length_first F.b_sorted F.g_length_first (nVar 5))))))))
theorem sc_check_table : FnScope ["value"] ["value"] (defScope (top 16)) := ⟨rfl, rfl, rfl, by decide +kernel, rfl, by decide +kernel, by decide +kernel⟩
theorem fb_check_table (F : Fc K mg) (T : Tab P w K mg base k cal) : FB P w K mg base (k + 2) ["value"] "check_table" (defScope (top 16)) (defBody (top 16)) (b_check_table cal) := by
  intro f cdv A outer s H E hg hr
  have C := ct_of (P := P) (w := w) (K := K) (mg := mg) (base := base) (k := k + 2) (N := ["value"]) (qual := "check_table") (scope := defScope (top 16)) (f := f) (cdv := cdv) (A := A) (outer := outer) (s := s) (H := H) (E := E) hg hr
  have nd := sc_check_table.nd
  exact (sb_one (ss_if (st_not (nTru (nIsi (p2 := ⟨0, 0, 0, 0⟩) (c := .own "Table") F.isi (nVar 0) (pe_glob (v := .ref (He.ga K "Table")) rfl F.g_Table rfl) (.own _) F.b_isinstance))) (sb_one ss_bad) sb_nil))
theorem sc_adds_none : FnScope ["rows", "digits"] ["rows", "digits"] (defScope (top 25)) := ⟨rfl, rfl, rfl, by decide +kernel, rfl, by decide +kernel, by decide +kernel⟩
theorem fb_adds_none (F : Fc K mg) (T : Tab P w K mg base k cal) : FB P w K mg base (k + 2) ["rows", "digits"] "adds_none" (defScope (top 25)) (defBody (top 25)) (b_adds_none cal) := by
  intro f cdv A outer s H E hg hr
  have C := ct_of (P := P) (w := w) (K := K) (mg := mg) (base := base) (k := k + 2) (N := ["rows", "digits"]) (qual := "adds_none") (scope := defScope (top 25)) (f := f) (cdv := cdv) (A := A) (outer := outer) (s := s) (H := H) (E := E) hg hr
  have nd := sc_adds_none.nd
  exact (sb_one (ss_ret (nCmp (op_pEq C.hu) (nB cr_pLen F.b_len bt_len (nCons (nCal C T.t_rings_of F.g_rings_of F.k_rings_of (nCons (se_lst (sa_star (nVar 0) (nCons (nVar 1) sa_nil))) sa_nil)) sa_nil)) (nB cr_pLen F.b_len bt_len (nCons (nCal C T.t_rings_of F.g_rings_of F.k_rings_of (nCons (nVar 0) sa_nil)) sa_nil)))))
theorem sc_check_digits : FnScope ["table", "value"] ["table", "value"] (defScope (top 17)) := ⟨rfl, rfl, rfl, by decide +kernel, rfl, by decide +kernel, by decide +kernel⟩
theorem fb_check_digits (F : Fc K mg) (T : Tab P w K mg base k cal) : FB P w K mg base (k + 2) ["table", "value"] "check_digits" (defScope (top 17)) (defBody (top 17)) (b_check_digits cal) := by
  intro f cdv A outer s H E hg hr
  have C := ct_of (P := P) (w := w) (K := K) (mg := mg) (base := base) (k := k + 2) (N := ["table", "value"]) (qual := "check_digits") (scope := defScope (top 17)) (f := f) (cdv := cdv) (A := A) (outer := outer) (s := s) (H := H) (E := E) hg hr
  have nd := sc_check_digits.nd
  exact (sb_one (ss_if (sw_st (sw_or (st_not (nTru (nCal C T.t_are_numbers F.g_are_numbers F.k_are_numbers (nCons (nVar 1) (nCons (nFld F.ok_width (nVar 0)) (nCons se_int (nCons se_int sa_nil))))))) (sw_or1 (nCmpT (op_pNotIn C.hu) se_int (nVar 1))))) (sb_one ss_bad) sb_nil))
theorem sc_read_rows : FnScope ["text", "lines", "sign", "line", "rows"] ["text"] (defScope (top 14)) := ⟨rfl, rfl, rfl, by decide +kernel, rfl, by decide +kernel, by decide +kernel⟩
theorem fb_read_rows (F : Fc K mg) (T : Tab P w K mg base k cal) : FB P w K mg base (k + 2) ["text", "lines", "sign", "line", "rows"] "read_rows" (defScope (top 14)) (defBody (top 14)) (b_read_rows cal) := by
  intro f cdv A outer s H E hg hr
  have C := ct_of (P := P) (w := w) (K := K) (mg := mg) (base := base) (k := k + 2) (N := ["text", "lines", "sign", "line", "rows"]) (qual := "read_rows") (scope := defScope (top 14)) (f := f) (cdv := cdv) (A := A) (outer := outer) (s := s) (H := H) (E := E) hg hr
  have nd := sc_read_rows.nd
  exact (sb_cons (ss_if (st_not (nTru (nIsi (p2 := ⟨0, 0, 0, 0⟩) (c := .blt "str") F.isi (nVar 0) (pe_bltn (v := .ty "str") rfl F.b_str bt_str rfl) (.ty _) F.b_isinstance))) (sb_one (ss_ret se_non)) sb_nil)
    (sb_cons (nSet 1 (nMb PySem.F.plainAttrs_str PySem.F.slot_str_split PySem.F.type_str_split mt_pSplit (nVar 0) (nCons se_str sa_nil)) nd)
    (sb_cons (ss_if (sw_st (sw_or (nCmpT op_pGt (nB cr_pLen F.b_len bt_len (nCons (nVar 1) sa_nil)) (nInt F.c_MOST_ROWS)) (sw_or1 (st_not (nChT op_pLe op_pLe se_int (nB cr_pLen F.b_len bt_len (nCons (nIx (nVar 1) se_int) sa_nil)) (nInt F.c_MOST_COLUMNS)))))) (sb_one (ss_ret se_non)) sb_nil)
    (sb_cons (ss_if (st_not (nTru (nB (cr_pAll C.calm) F.b_all bt_all (nCons (nLc [("line", 3)] C fin_newL nd (si_any (nVar 1)) (blkOk_by (by kernel_rfl)) (fun _ _ _ _ _ => (uName 3 nd)) (fun _ _ _ _ _ => ptsNil) (fun _ _ _ _ _ => (se_and (nCmp (op_pEq C.blk.hu) (nB cr_pLen F.b_len bt_len (nCons (nVar 3) sa_nil)) (nB cr_pLen F.b_len bt_len (nCons (nIx (nVar 1) se_int) sa_nil))) (and1 (nB (cr_pAll C.blk.calm) F.b_all bt_all (nCons (nLc [("sign", 2)] C.blk fin_newL nd (si_any (nVar 3)) (blkOk_by (by kernel_rfl)) (fun _ _ _ _ _ => (uName 2 nd)) (fun _ _ _ _ _ => ptsNil) (fun _ _ _ _ _ => (nCmp (op_pIn C.blk.blk.hu) (nVar 2) se_str)) upNm) sa_nil))))) upNm) sa_nil)))) (sb_one (ss_ret se_non)) sb_nil)
    (sb_cons (nSet 4 (nT cr_pTuple F.b_tuple bt_tuple (nCons (nLc [("line", 3)] C fin_newL nd (si_any (nVar 1)) (blkOk_by (by kernel_rfl)) (fun _ _ _ _ _ => (uName 3 nd)) (fun _ _ _ _ _ => ptsNil) (fun _ _ _ _ _ => (nT cr_pTuple F.b_tuple bt_tuple (nCons (nLc [("sign", 2)] C.blk fin_newL nd (si_any (nVar 3)) (blkOk_by (by kernel_rfl)) (fun _ _ _ _ _ => (uName 2 nd)) (fun _ _ _ _ _ => ptsNil) (fun _ _ _ _ _ => (nT cr_pInt F.b_int bt_int (nCons (nVar 2) sa_nil))) upNm) sa_nil))) upNm) sa_nil)) nd)
    (sb_one (ss_ret (se_if (nTru (nCal C T.t_is_full F.g_is_full F.k_is_full (nCons (nVar 4) sa_nil))) (nVar 4) se_non))))))))
theorem sc_Table___str__ : FnScope ["self"] ["self"] (defScope (inClass (top 15) 2)) := ⟨rfl, rfl, rfl, by decide +kernel, rfl, by decide +kernel, by decide +kernel⟩
theorem fb_Table___str__ (F : Fc K mg) (T : Tab P w K mg base k cal) : FB P w K mg base (k + 2) ["self"] "Table.__str__" (defScope (inClass (top 15) 2)) (defBody (inClass (top 15) 2)) (b_Table___str__ cal) := by
  intro f cdv A outer s H E hg hr
  have C := ct_of (P := P) (w := w) (K := K) (mg := mg) (base := base) (k := k + 2) (N := ["self"]) (qual := "Table.__str__") (scope := defScope (inClass (top 15) 2)) (f := f) (cdv := cdv) (A := A) (outer := outer) (s := s) (H := H) (E := E) hg hr
  have nd := sc_Table___str__.nd
  exact (sb_one (ss_ret (nT (cr_pStrI (k := k) T.str (C.room.mono (by omega)) C.gd) F.b_str bt_str (nCons (nFld F.ok_text (nVar 0)) sa_nil))))
theorem sc__law_turned : FnScope ["_law_grid", "_law_row", "_law_k"] ["_law_grid"] (defScope (top 34)) := ⟨rfl, rfl, rfl, by decide +kernel, rfl, by decide +kernel, by decide +kernel⟩
theorem fb__law_turned (F : Fc K mg) (T : Tab P w K mg base k cal) : FB P w K mg base (k + 2) ["_law_grid", "_law_row", "_law_k"] "_law_turned" (defScope (top 34)) (defBody (top 34)) (b__law_turned cal) := by
  intro f cdv A outer s H E hg hr
  have C := ct_of (P := P) (w := w) (K := K) (mg := mg) (base := base) (k := k + 2) (N := ["_law_grid", "_law_row", "_law_k"]) (qual := "_law_turned") (scope := defScope (top 34)) (f := f) (cdv := cdv) (A := A) (outer := outer) (s := s) (H := H) (E := E) hg hr
  have nd := sc__law_turned.nd
  exact (sb_one (ss_ret (nLc [("_law_k", 2)] C fin_newL nd (nR1 F.b_range (nCons (nB cr_pLen F.b_len bt_len (nCons (nIx (nVar 0) se_int) sa_nil)) sa_nil)) (blkOk_by (by kernel_rfl)) (fun _ _ _ _ _ => (uName 2 nd)) (fun _ _ _ _ _ => ptsNil) (fun _ _ _ _ _ => (nLc [("_law_row", 1)] C.blk fin_newL nd (si_any (nVar 0)) (blkOk_by (by kernel_rfl)) (fun _ _ _ _ _ => (uName 1 nd)) (fun _ _ _ _ _ => ptsNil) (fun _ _ _ _ _ => (nIx (nVar 1) (nVar 2))) upNm)) upNm)))
theorem sc__law_mixed : FnScope ["_law_reed_here", "_law_things", "_law_left", "_law_found", "_law_turn"] ["_law_reed_here", "_law_things"] (defScope (top 31)) := ⟨rfl, rfl, rfl, by decide +kernel, rfl, by decide +kernel, by decide +kernel⟩
theorem fb__law_mixed (F : Fc K mg) (T : Tab P w K mg base k cal) : FB P w K mg base (k + 2) ["_law_reed_here", "_law_things", "_law_left", "_law_found", "_law_turn"] "_law_mixed" (defScope (top 31)) (defBody (top 31)) (b__law_mixed_v2 cal) := by
  intro f cdv A outer s H E hg hr
  have C := ct_of (P := P) (w := w) (K := K) (mg := mg) (base := base) (k := k + 2) (N := ["_law_reed_here", "_law_things", "_law_left", "_law_found", "_law_turn"]) (qual := "_law_mixed") (scope := defScope (top 31)) (f := f) (cdv := cdv) (A := A) (outer := outer) (s := s) (H := H) (E := E) hg hr
  have nd := sc__law_mixed.nd
  exact (sb_cons (nPar2 2 3 C nd (nCons (nT (cr_pList newC_ok) F.b_list bt_list (nCons (nVar 1) sa_nil)) (nCons (se_lstC sa_nil) sa_nil)))
    (sb_cons (nFor C po_of (nR1 F.b_range (nCons (nB cr_pLen F.b_len bt_len (nCons (nVar 1) sa_nil)) sa_nil)) (gName 4 nd) (sb_one (nExpr (nMb PySem.F.plainAttrs_list PySem.F.slot_list_append PySem.F.type_list_append mt_pAppend (nVar 3) (nCons (nMb PySem.F.plainAttrs_list PySem.F.slot_list_pop PySem.F.type_list_pop mt_pPop (nVar 2) (nCons (nCal C T.t__law_dip F.g__law_dip F.k__law_dip (nCons (nVar 0) (nCons (nB cr_pLen F.b_len bt_len (nCons (nVar 2) sa_nil)) sa_nil))) sa_nil)) sa_nil)))))
    (sb_one (ss_ret (se_frz (nVar 3))))))
theorem sc_length_first : FnScope ["ring"] ["ring"] (defScope (top 22)) := ⟨rfl, rfl, rfl, by decide +kernel, rfl, by decide +kernel, by decide +kernel⟩
theorem fb_length_first (F : Fc K mg) (T : Tab P w K mg base k cal) : FB P w K mg base (k + 2) ["ring"] "length_first" (defScope (top 22)) (defBody (top 22)) (b_length_first cal) := by
  intro f cdv A outer s H E hg hr
  have C := ct_of (P := P) (w := w) (K := K) (mg := mg) (base := base) (k := k + 2) (N := ["ring"]) (qual := "length_first") (scope := defScope (top 22)) (f := f) (cdv := cdv) (A := A) (outer := outer) (s := s) (H := H) (E := E) hg hr
  have nd := sc_length_first.nd
  exact (sb_one (ss_ret (se_tup (nCons (nB cr_pLen F.b_len bt_len (nCons (nIx (nVar 0) se_int) sa_nil)) (nCons (nVar 0) sa_nil)))))
theorem sc_grown : FnScope ["spots", "walk", "found", "place", "near", "mate"] ["spots", "walk", "found"] (defScope (top 20)) := ⟨rfl, rfl, rfl, by decide +kernel, rfl, by decide +kernel, by decide +kernel⟩
theorem fb_grown (F : Fc K mg) (T : Tab P w K mg base k cal) : FB P w K mg base (k + 2) ["spots", "walk", "found", "place", "near", "mate"] "grown" (defScope (top 20)) (defBody (top 20)) (b_grown cal) := by
  intro f cdv A outer s H E hg hr
  have C := ct_of (P := P) (w := w) (K := K) (mg := mg) (base := base) (k := k + 2) (N := ["spots", "walk", "found", "place", "near", "mate"]) (qual := "grown") (scope := defScope (top 20)) (f := f) (cdv := cdv) (A := A) (outer := outer) (s := s) (H := H) (E := E) hg hr
  have nd := sc_grown.nd
  exact (sb_one (nFor C po_of (si_any (nIx (nVar 0) (nIx (nVar 1) (se_un un_pNeg se_int)))) (gName 3 nd) (sb_cons (ss_if (sw_st (sw_or (nCmpT op_pLe (nVar 3) (nIx (nVar 1) se_int)) (sw_or1 (nCmpT (op_pIn C.hu) (nVar 3) (nVar 1))))) (sb_one ss_continue) sb_nil)
    (sb_cons (nSetLc 4 [("mate", 5)] C fin_newL nd (si_any (se_cut (nVar 1) (so_some se_int) (so_some (se_un un_pNeg se_int)))) (blkOk_by (by kernel_rfl)) (fun _ _ _ _ _ => (uName 5 nd)) (fun _ _ _ _ _ => (ptsOne (nCmpT (op_pIn C.blk.hu) (nVar 3) (nIx (nVar 0) (nVar 5))))) (fun _ _ _ _ _ => (nVar 5)) upNm)
    (sb_cons (ss_if (nTru (nVar 4)) (sb_one ss_continue) sb_nil)
    (sb_cons (ss_if (sw_st (sw_and (nCmpT op_pGt (nB cr_pLen F.b_len bt_len (nCons (nVar 1) sa_nil)) se_int) (sw_and1 (nCmpT (op_pIn C.hu) (nIx (nVar 1) se_int) (nIx (nVar 0) (nVar 3)))))) (sb_cons (ss_if (sw_st (sw_and (nCmpT op_pGt (nB cr_pLen F.b_len bt_len (nCons (nVar 1) sa_nil)) se_int) (sw_and1 (nCmpT op_pLt (nIx (nVar 1) se_int) (nVar 3))))) (sb_one (nPutT C F.b_tuple (nVar 2) (nB (cr_pSortD C.hu) F.b_sorted (by decide +kernel) (nCons (se_lst (sa_star (nVar 1) (nCons (nVar 3) sa_nil))) sa_nil)) se_bl)) sb_nil)
    (sb_one ss_continue)) sb_nil)
    (sb_one (nExpr (nCal C T.t_grown F.g_grown F.k_grown (nCons (nVar 0) (nCons (se_lst (sa_star (nVar 1) (nCons (nVar 3) sa_nil))) (nCons (nVar 2) sa_nil))))))))))))
theorem sc_spots_of : FnScope ["rows", "height", "width", "found", "column", "row"] ["rows"] (defScope (top 19)) := ⟨rfl, rfl, rfl, by decide +kernel, rfl, by decide +kernel, by decide +kernel⟩
theorem fb_spots_of (F : Fc K mg) (T : Tab P w K mg base k cal) : FB P w K mg base (k + 2) ["rows", "height", "width", "found", "column", "row"] "spots_of" (defScope (top 19)) (defBody (top 19)) (b_spots_of cal) := by
  intro f cdv A outer s H E hg hr
  have C := ct_of (P := P) (w := w) (K := K) (mg := mg) (base := base) (k := k + 2) (N := ["rows", "height", "width", "found", "column", "row"]) (qual := "spots_of") (scope := defScope (top 19)) (f := f) (cdv := cdv) (A := A) (outer := outer) (s := s) (H := H) (E := E) hg hr
  have nd := sc_spots_of.nd
  exact (sb_cons (nAsg (se_tup (nCons (nB cr_pLen F.b_len bt_len (nCons (nVar 0) sa_nil)) (nCons (nB cr_pLen F.b_len bt_len (nCons (nIx (nVar 0) se_int) sa_nil)) sa_nil))) (gTup C (gCons (gName 1 nd) (gCons (gName 2 nd) sgs_nil))))
    (sb_cons (nSetLc 3 [("row", 5)] C fin_newL nd (nR1 F.b_range (nCons (nVar 1) sa_nil)) (blkOk_by (by kernel_rfl)) (fun _ _ _ _ _ => (uName 5 nd)) (fun _ _ _ _ _ => ptsNil) (fun _ _ _ _ _ => (nLc [("column", 4)] C.blk fin_newL nd (nR1 F.b_range (nCons (nVar 2) sa_nil)) (blkOk_by (by kernel_rfl)) (fun _ _ _ _ _ => (uName 4 nd)) (fun _ _ _ _ _ => (ptsOne (nTru (nIx (nIx (nVar 0) (nVar 5)) (nVar 4))))) (fun _ _ _ _ _ => (se_op op_pAdd (nVar 1) (nVar 4))) upNm)) upNm)
    (sb_one (ss_ret (se_op op_pAdd (nVar 3) (nLc [("column", 4)] C fin_newL nd (nR1 F.b_range (nCons (nVar 2) sa_nil)) (blkOk_by (by kernel_rfl)) (fun _ _ _ _ _ => (uName 4 nd)) (fun _ _ _ _ _ => ptsNil) (fun _ _ _ _ _ => (nLc [("row", 5)] C.blk fin_newL nd (nR1 F.b_range (nCons (nVar 1) sa_nil)) (blkOk_by (by kernel_rfl)) (fun _ _ _ _ _ => (uName 5 nd)) (fun _ _ _ _ _ => (ptsOne (nTru (nIx (nIx (nVar 0) (nVar 5)) (nVar 4))))) (fun _ _ _ _ _ => (nVar 5)) upNm)) upNm))))))
theorem sc_are_numbers : FnScope ["value", "many", "least", "most", "number"] ["value", "many", "least", "most"] (defScope (top 11)) := ⟨rfl, rfl, rfl, by decide +kernel, rfl, by decide +kernel, by decide +kernel⟩
theorem fb_are_numbers (F : Fc K mg) (T : Tab P w K mg base k cal) : FB P w K mg base (k + 2) ["value", "many", "least", "most", "number"] "are_numbers" (defScope (top 11)) (defBody (top 11)) (b_are_numbers cal) := by
  intro f cdv A outer s H E hg hr
  have C := ct_of (P := P) (w := w) (K := K) (mg := mg) (base := base) (k := k + 2) (N := ["value", "many", "least", "most", "number"]) (qual := "are_numbers") (scope := defScope (top 11)) (f := f) (cdv := cdv) (A := A) (outer := outer) (s := s) (H := H) (E := E) hg hr
  have nd := sc_are_numbers.nd
  exact (sb_cons (ss_if (sw_st (sw_or (st_not (nTru (nIsi (p2 := ⟨0, 0, 0, 0⟩) (c := .blt "tuple") F.isi (nVar 0) (pe_bltn (v := .ty "tuple") rfl F.b_tuple bt_tuple rfl) (.ty _) F.b_isinstance))) (sw_or1 (nCmpT (op_pNe C.hu) (nB cr_pLen F.b_len bt_len (nCons (nVar 0) sa_nil)) (nVar 1))))) (sb_one (ss_ret se_bl)) sb_nil)
    (sb_one (ss_ret (nB (cr_pAll C.calm) F.b_all bt_all (nCons (nLc [("number", 4)] C fin_newL nd (si_any (nVar 0)) (blkOk_by (by kernel_rfl)) (fun _ _ _ _ _ => (uName 4 nd)) (fun _ _ _ _ _ => ptsNil) (fun _ _ _ _ _ => (nCal C.blk T.t_is_between F.g_is_between F.k_is_between (nCons (nVar 4) (nCons (nVar 2) (nCons (nVar 3) sa_nil))))) upNm) sa_nil)))))
theorem sc_is_full : FnScope ["rows", "row", "column"] ["rows"] (defScope (top 13)) := ⟨rfl, rfl, rfl, by decide +kernel, rfl, by decide +kernel, by decide +kernel⟩
theorem fb_is_full (F : Fc K mg) (T : Tab P w K mg base k cal) : FB P w K mg base (k + 2) ["rows", "row", "column"] "is_full" (defScope (top 13)) (defBody (top 13)) (b_is_full cal) := by
  intro f cdv A outer s H E hg hr
  have C := ct_of (P := P) (w := w) (K := K) (mg := mg) (base := base) (k := k + 2) (N := ["rows", "row", "column"]) (qual := "is_full") (scope := defScope (top 13)) (f := f) (cdv := cdv) (A := A) (outer := outer) (s := s) (H := H) (E := E) hg hr
  have nd := sc_is_full.nd
  exact (sb_one (ss_ret (se_and (nCmp op_pGt (nB cr_pLen F.b_len bt_len (nCons (nVar 0) sa_nil)) se_int) (se_and (nB (cr_pAll C.calm) F.b_all bt_all (nCons (nLc [("row", 1)] C fin_newL nd (si_any (nVar 0)) (blkOk_by (by kernel_rfl)) (fun _ _ _ _ _ => (uName 1 nd)) (fun _ _ _ _ _ => ptsNil) (fun _ _ _ _ _ => (nCmp (op_pIn C.blk.hu) se_int (nVar 1))) upNm) sa_nil)) (and1 (nB (cr_pAll C.calm) F.b_all bt_all (nCons (nLc [("column", 2)] C fin_newL nd (nZipS F.b_zip (nVar 0)) (blkOk_by (by kernel_rfl)) (fun _ _ _ _ _ => (uName 2 nd)) (fun _ _ _ _ _ => ptsNil) (fun _ _ _ _ _ => (nCmp (op_pIn C.blk.hu) se_int (nVar 2))) upNm) sa_nil)))))))
theorem sc_is_between : FnScope ["value", "least", "most"] ["value", "least", "most"] (defScope (top 10)) := ⟨rfl, rfl, rfl, by decide +kernel, rfl, by decide +kernel, by decide +kernel⟩
theorem fb_is_between (F : Fc K mg) (T : Tab P w K mg base k cal) : FB P w K mg base (k + 2) ["value", "least", "most"] "is_between" (defScope (top 10)) (defBody (top 10)) (b_is_between cal) := by
  intro f cdv A outer s H E hg hr
  have C := ct_of (P := P) (w := w) (K := K) (mg := mg) (base := base) (k := k + 2) (N := ["value", "least", "most"]) (qual := "is_between") (scope := defScope (top 10)) (f := f) (cdv := cdv) (A := A) (outer := outer) (s := s) (H := H) (E := E) hg hr
  have nd := sc_is_between.nd
  exact (sb_cons (ss_if (st_not (nTru (nCal C T.t_is_integer F.g_is_integer F.k_is_integer (nCons (nVar 0) sa_nil)))) (sb_one (ss_ret se_bl)) sb_nil)
    (sb_one (ss_ret (se_and (se_or (nCmp op_pIs (nVar 1) se_non) (or1 (nCmp op_pLe (nVar 1) (nVar 0)))) (and1 (se_or (nCmp op_pIs (nVar 2) se_non) (or1 (nCmp op_pLe (nVar 0) (nVar 2)))))))))
theorem sc_is_integer : FnScope ["value"] ["value"] (defScope (top 9)) := ⟨rfl, rfl, rfl, by decide +kernel, rfl, by decide +kernel, by decide +kernel⟩
theorem fb_is_integer (F : Fc K mg) (T : Tab P w K mg base k cal) : FB P w K mg base (k + 2) ["value"] "is_integer" (defScope (top 9)) (defBody (top 9)) (b_is_integer cal) := by
  intro f cdv A outer s H E hg hr
  have C := ct_of (P := P) (w := w) (K := K) (mg := mg) (base := base) (k := k + 2) (N := ["value"]) (qual := "is_integer") (scope := defScope (top 9)) (f := f) (cdv := cdv) (A := A) (outer := outer) (s := s) (H := H) (E := E) hg hr
  have nd := sc_is_integer.nd
  exact (sb_one (ss_ret (se_and (nIsi (p2 := ⟨0, 0, 0, 0⟩) (c := .blt "int") F.isi (nVar 0) (pe_bltn (v := .ty "int") rfl F.b_int bt_int rfl) (.ty _) F.b_isinstance) (and1 (se_not (nIsi (p2 := ⟨0, 0, 0, 0⟩) (c := .blt "bool") F.isi (nVar 0) (pe_bltn (v := .ty "bool") rfl F.b_bool bt_bool rfl) (.ty _) F.b_isinstance))))))
theorem tab0 (F : Fc K mg) : Tab P w K mg base 0 (callN 0) where
  trv := trivial
  t__law_right := CalG.bad
  t__law_reed := CalG.bad
  t_odd_rings := CalG.bad
  t_more_rows := CalG.bad
  t__law_every := CalG.bad
  t_may_add := CalG.bad
  t_Table := CalG.bad
  t__law_text := CalG.bad
  t__law_full := CalG.bad
  t__law_dip := CalG.bad
  t__law_ringed := CalG.bad
  t__law_any := CalG.bad
  t_rings_of := CalG.bad
  t_check_table := CalG.bad
  t_adds_none := CalG.bad
  t_check_digits := CalG.bad
  t_read_rows := CalG.bad
  t__law_turned := CalG.bad
  t__law_mixed := CalG.bad
  t_grown := CalG.bad
  t_spots_of := CalG.bad
  t_are_numbers := CalG.bad
  t_is_full := CalG.bad
  t_is_between := CalG.bad
  t_is_integer := CalG.bad
  k_length_first := by
    obtain ⟨fd, D⟩ := F.d_length_first
    exact KeyG.bad (bindK_of (ks := []) (ps := ["ring"]) D (fun _ _ _ _ _ _ us ws h1 h2 => match us, ws, h1, h2 with | [_], [], _, _ => rfl))
  str := by
    intro c m e
    unfold strT at e
    split at e
    · rename_i h
      subst h
      cases e
      obtain ⟨fd, D⟩ := F.d_Table___str__
      exact ⟨_, fd, F.me_Table___str__.at_, F.me_Table___str__.fn, FnG.bad, bindK_of D (fun _ _ _ _ _ _ us ws h1 h2 => match us, ws, h1, h2 with | [_], [], _, _ => rfl)⟩
    · cases e
theorem tabS {n : Nat} (F : Fc K mg) (T : Tab P w K mg base k (callN n)) : Tab P w K mg base (k + 3) (callN (n + 1)) where
  trv := trivial
  t__law_right := (by
    obtain ⟨fd, D⟩ := F.d__law_right
    exact CalG.mono (calG_fn (m := funM 10 1 (b__law_right_v31 (callN n))) (fnG_body D sc__law_right (fb__law_right F T)) (bindK_of D (fun _ _ _ _ _ _ us ws h1 h2 => match us, ws, h1, h2 with | [_], [], _, _ => rfl)) rfl funM_len) (by omega))
  t__law_reed := (by
    obtain ⟨fd, D⟩ := F.d__law_reed
    exact CalG.mono (calG_fn (m := funM 5 2 (b__law_reed (callN n))) (fnG_body D sc__law_reed (fb__law_reed F T)) (bindK_of D (fun _ _ _ _ _ _ us ws h1 h2 => match us, ws, h1, h2 with | [_, _], [], _, _ => rfl)) rfl funM_len) (by omega))
  t_odd_rings := (by
    obtain ⟨fd, D⟩ := F.d_odd_rings
    exact CalG.mono (calG_fn (m := funM 1 1 (b_odd_rings (callN n))) (fnG_body D sc_odd_rings (fb_odd_rings F T)) (bindK_of D (fun _ _ _ _ _ _ us ws h1 h2 => match us, ws, h1, h2 with | [_], [], _, _ => rfl)) rfl funM_len) (by omega))
  t_more_rows := (by
    obtain ⟨fd, D⟩ := F.d_more_rows
    exact CalG.mono (calG_fn (m := funM 5 1 (b_more_rows (callN n))) (fnG_body D sc_more_rows (fb_more_rows F T)) (bindK_of D (fun _ _ _ _ _ _ us ws h1 h2 => match us, ws, h1, h2 with | [_], [], _, _ => rfl)) rfl funM_len) (by omega))
  t__law_every := (by
    obtain ⟨fd, D⟩ := F.d__law_every
    exact CalG.mono (calG_fn (m := funM 4 1 (b__law_every_v2 (callN n))) (fnG_body D sc__law_every (fb__law_every F T)) (bindK_of D (fun _ _ _ _ _ _ us ws h1 h2 => match us, ws, h1, h2 with | [_], [], _, _ => rfl)) rfl funM_len) (by omega))
  t_may_add := (by
    obtain ⟨fd, D⟩ := F.d_may_add
    exact CalG.mono (calG_fn (m := funM 2 2 (b_may_add (callN n))) (fnG_body D sc_may_add (fb_may_add F T)) (bindK_of D (fun _ _ _ _ _ _ us ws h1 h2 => match us, ws, h1, h2 with | [_, _], [], _, _ => rfl)) rfl funM_len) (by omega))
  t_Table := (by
    obtain ⟨fd, D⟩ := F.d_Table
    exact CalG.mono (calG_cls (m := initM 3 1 (b_Table (callN n))) F.mk_Table (fnG_init (n := 1) rfl D sc_Table (fb_Table F T)) (bindK_of D (fun _ _ _ _ _ _ us ws h1 h2 => match us, ws, h1, h2 with | [_, _], [], _, _ => rfl)) rfl initM_len) (by omega))
  t__law_text := (by
    obtain ⟨fd, D⟩ := F.d__law_text
    exact CalG.mono (calG_fn (m := funM 3 1 (b__law_text (callN n))) (fnG_body D sc__law_text (fb__law_text F T)) (bindK_of D (fun _ _ _ _ _ _ us ws h1 h2 => match us, ws, h1, h2 with | [_], [], _, _ => rfl)) rfl funM_len) (by omega))
  t__law_full := (by
    obtain ⟨fd, D⟩ := F.d__law_full
    exact CalG.mono (calG_fn (m := funM 2 1 (b__law_full (callN n))) (fnG_body D sc__law_full (fb__law_full F T)) (bindK_of D (fun _ _ _ _ _ _ us ws h1 h2 => match us, ws, h1, h2 with | [_], [], _, _ => rfl)) rfl funM_len) (by omega))
  t__law_dip := (by
    obtain ⟨fd, D⟩ := F.d__law_dip
    exact CalG.mono (calG_fn (m := funM 3 2 (b__law_dip (callN n))) (fnG_body D sc__law_dip (fb__law_dip F T)) (bindK_of D (fun _ _ _ _ _ _ us ws h1 h2 => match us, ws, h1, h2 with | [_, _], [], _, _ => rfl)) rfl funM_len) (by omega))
  t__law_ringed := (by
    obtain ⟨fd, D⟩ := F.d__law_ringed
    exact CalG.mono (calG_fn (m := funM 9 4 (b__law_ringed (callN n))) (fnG_body D sc__law_ringed (fb__law_ringed F T)) (bindK_of D (fun _ _ _ _ _ _ us ws h1 h2 => match us, ws, h1, h2 with | [_, _, _, _], [], _, _ => rfl)) rfl funM_len) (by omega))
  t__law_any := (by
    obtain ⟨fd, D⟩ := F.d__law_any
    exact CalG.mono (calG_fn (m := funM 8 3 (b__law_any (callN n))) (fnG_body D sc__law_any (fb__law_any F T)) (bindK_of D (fun _ _ _ _ _ _ us ws h1 h2 => match us, ws, h1, h2 with | [_, _, _], [], _, _ => rfl)) rfl funM_len) (by omega))
  t_rings_of := (by
    obtain ⟨fd, D⟩ := F.d_rings_of
    exact CalG.mono (calG_fn (m := funM 9 1 (b_rings_of (callN n))) (fnG_body D sc_rings_of (fb_rings_of F T)) (bindK_of D (fun _ _ _ _ _ _ us ws h1 h2 => match us, ws, h1, h2 with | [_], [], _, _ => rfl)) rfl funM_len) (by omega))
  t_check_table := (by
    obtain ⟨fd, D⟩ := F.d_check_table
    exact CalG.mono (calG_fn (m := funM 1 1 (b_check_table (callN n))) (fnG_body D sc_check_table (fb_check_table F T)) (bindK_of D (fun _ _ _ _ _ _ us ws h1 h2 => match us, ws, h1, h2 with | [_], [], _, _ => rfl)) rfl funM_len) (by omega))
  t_adds_none := (by
    obtain ⟨fd, D⟩ := F.d_adds_none
    exact CalG.mono (calG_fn (m := funM 2 2 (b_adds_none (callN n))) (fnG_body D sc_adds_none (fb_adds_none F T)) (bindK_of D (fun _ _ _ _ _ _ us ws h1 h2 => match us, ws, h1, h2 with | [_, _], [], _, _ => rfl)) rfl funM_len) (by omega))
  t_check_digits := (by
    obtain ⟨fd, D⟩ := F.d_check_digits
    exact CalG.mono (calG_fn (m := funM 2 2 (b_check_digits (callN n))) (fnG_body D sc_check_digits (fb_check_digits F T)) (bindK_of D (fun _ _ _ _ _ _ us ws h1 h2 => match us, ws, h1, h2 with | [_, _], [], _, _ => rfl)) rfl funM_len) (by omega))
  t_read_rows := (by
    obtain ⟨fd, D⟩ := F.d_read_rows
    exact CalG.mono (calG_fn (m := funM 5 1 (b_read_rows (callN n))) (fnG_body D sc_read_rows (fb_read_rows F T)) (bindK_of D (fun _ _ _ _ _ _ us ws h1 h2 => match us, ws, h1, h2 with | [_], [], _, _ => rfl)) rfl funM_len) (by omega))
  t__law_turned := (by
    obtain ⟨fd, D⟩ := F.d__law_turned
    exact CalG.mono (calG_fn (m := funM 3 1 (b__law_turned (callN n))) (fnG_body D sc__law_turned (fb__law_turned F T)) (bindK_of D (fun _ _ _ _ _ _ us ws h1 h2 => match us, ws, h1, h2 with | [_], [], _, _ => rfl)) rfl funM_len) (by omega))
  t__law_mixed := (by
    obtain ⟨fd, D⟩ := F.d__law_mixed
    exact CalG.mono (calG_fn (m := funM 5 2 (b__law_mixed_v2 (callN n))) (fnG_body D sc__law_mixed (fb__law_mixed F T)) (bindK_of D (fun _ _ _ _ _ _ us ws h1 h2 => match us, ws, h1, h2 with | [_, _], [], _, _ => rfl)) rfl funM_len) (by omega))
  t_grown := (by
    obtain ⟨fd, D⟩ := F.d_grown
    exact CalG.mono (calG_fn (m := funM 6 3 (b_grown (callN n))) (fnG_body D sc_grown (fb_grown F T)) (bindK_of D (fun _ _ _ _ _ _ us ws h1 h2 => match us, ws, h1, h2 with | [_, _, _], [], _, _ => rfl)) rfl funM_len) (by omega))
  t_spots_of := (by
    obtain ⟨fd, D⟩ := F.d_spots_of
    exact CalG.mono (calG_fn (m := funM 6 1 (b_spots_of (callN n))) (fnG_body D sc_spots_of (fb_spots_of F T)) (bindK_of D (fun _ _ _ _ _ _ us ws h1 h2 => match us, ws, h1, h2 with | [_], [], _, _ => rfl)) rfl funM_len) (by omega))
  t_are_numbers := (by
    obtain ⟨fd, D⟩ := F.d_are_numbers
    exact CalG.mono (calG_fn (m := funM 5 4 (b_are_numbers (callN n))) (fnG_body D sc_are_numbers (fb_are_numbers F T)) (bindK_of D (fun _ _ _ _ _ _ us ws h1 h2 => match us, ws, h1, h2 with | [_, _, _, _], [], _, _ => rfl)) rfl funM_len) (by omega))
  t_is_full := (by
    obtain ⟨fd, D⟩ := F.d_is_full
    exact CalG.mono (calG_fn (m := funM 3 1 (b_is_full (callN n))) (fnG_body D sc_is_full (fb_is_full F T)) (bindK_of D (fun _ _ _ _ _ _ us ws h1 h2 => match us, ws, h1, h2 with | [_], [], _, _ => rfl)) rfl funM_len) (by omega))
  t_is_between := (by
    obtain ⟨fd, D⟩ := F.d_is_between
    exact CalG.mono (calG_fn (m := funM 3 3 (b_is_between (callN n))) (fnG_body D sc_is_between (fb_is_between F T)) (bindK_of D (fun _ _ _ _ _ _ us ws h1 h2 => match us, ws, h1, h2 with | [_, _, _], [], _, _ => rfl)) rfl funM_len) (by omega))
  t_is_integer := (by
    obtain ⟨fd, D⟩ := F.d_is_integer
    exact CalG.mono (calG_fn (m := funM 1 1 (b_is_integer (callN n))) (fnG_body D sc_is_integer (fb_is_integer F T)) (bindK_of D (fun _ _ _ _ _ _ us ws h1 h2 => match us, ws, h1, h2 with | [_], [], _, _ => rfl)) rfl funM_len) (by omega))
  k_length_first := by
    obtain ⟨fd, D⟩ := F.d_length_first
    exact KeyG.mono ⟨fd, "ring", fnG_body D sc_length_first (fb_length_first F T), bindK_of (ks := []) (ps := ["ring"]) D (fun _ _ _ _ _ _ us ws h1 h2 => match us, ws, h1, h2 with | [_], [], _, _ => rfl)⟩ (by omega)
  str := by
    intro c m e
    unfold strT at e
    split at e
    · rename_i h
      subst h
      cases e
      obtain ⟨fd, D⟩ := F.d_Table___str__
      exact ⟨_, fd, F.me_Table___str__.at_, F.me_Table___str__.fn, fnG_body D sc_Table___str__ (fb_Table___str__ F T), bindK_of D (fun _ _ _ _ _ _ us ws h1 h2 => match us, ws, h1, h2 with | [_], [], _, _ => rfl)⟩
    · cases e
theorem tabN (F : Fc K mg) : ∀ n : Nat, Tab P w K mg base (3 * n) (callN n)
  | 0 => tab0 F
  | n + 1 => tabS F (tabN F n)
theorem law_b {fd : FuncData} (D : FunD K "law" "law" (defArgs (top 39)) (defBody (top 39)) (defScope (top 39)) [] [] (He.ga K "law") fd) (s : Shared) (u : Value) : BindsTo s fd ⟨[u], []⟩ [("_law_cells", u)] := bindK_of (ks := []) (ps := ["_law_cells"]) D (fun _ _ _ _ _ _ us ws h1 h2 => match us, ws, h1, h2 with | [_], [], _, _ => rfl) s [u] [] rfl rfl
theorem law_f (F : Fc K mg) (n : Nat) {fd : FuncData} (D : FunD K "law" "law" (defArgs (top 39)) (defBody (top 39)) (defScope (top 39)) [] [] (He.ga K "law") fd) : FnG P w K mg base (3 * n + 3) (He.ga K "law") fd ["_law_cells"] (spM K 1 (funM 2 1 (b_law_v32 (callN n)))) := fnG_body D sc_law (fb_law F (tabN F n))
end
def dd_law : He.DefD := ⟨("law", none), "law", "law", defArgs (top 39), defBody (top 39), defScope (top 39), [], []⟩
def dd__law_right : He.DefD := ⟨("_law_right", none), "_law_right", "_law_right", defArgs (top 38), defBody (top 38), defScope (top 38), [], []⟩
def dd__law_reed : He.DefD := ⟨("_law_reed", none), "_law_reed", "_law_reed", defArgs (top 29), defBody (top 29), defScope (top 29), [], []⟩
def dd_odd_rings : He.DefD := ⟨("odd_rings", none), "odd_rings", "odd_rings", defArgs (top 23), defBody (top 23), defScope (top 23), [], []⟩
def dd_more_rows : He.DefD := ⟨("more_rows", none), "more_rows", "more_rows", defArgs (top 27), defBody (top 27), defScope (top 27), [], []⟩
def dd__law_every : He.DefD := ⟨("_law_every", none), "_law_every", "_law_every", defArgs (top 37), defBody (top 37), defScope (top 37), [], []⟩
def dd_may_add : He.DefD := ⟨("may_add", none), "may_add", "may_add", defArgs (top 26), defBody (top 26), defScope (top 26), [], []⟩
def dd_Table : He.DefD := ⟨("Table", some "__init__"), "__init__", "Table.__init__", defArgs (inClass (top 15) 0), defBody (inClass (top 15) 0), defScope (inClass (top 15) 0), [], []⟩
def dd__law_text : He.DefD := ⟨("_law_text", none), "_law_text", "_law_text", defArgs (top 36), defBody (top 36), defScope (top 36), [], []⟩
def dd__law_full : He.DefD := ⟨("_law_full", none), "_law_full", "_law_full", defArgs (top 35), defBody (top 35), defScope (top 35), [], []⟩
def dd__law_dip : He.DefD := ⟨("_law_dip", none), "_law_dip", "_law_dip", defArgs (top 30), defBody (top 30), defScope (top 30), [], []⟩
def dd__law_ringed : He.DefD := ⟨("_law_ringed", none), "_law_ringed", "_law_ringed", defArgs (top 33), defBody (top 33), defScope (top 33), [], []⟩
def dd__law_any : He.DefD := ⟨("_law_any", none), "_law_any", "_law_any", defArgs (top 32), defBody (top 32), defScope (top 32), [], []⟩
def dd_rings_of : He.DefD := ⟨("rings_of", none), "rings_of", "rings_of", defArgs (top 21), defBody (top 21), defScope (top 21), [], []⟩
def dd_check_table : He.DefD := ⟨("check_table", none), "check_table", "check_table", defArgs (top 16), defBody (top 16), defScope (top 16), [], []⟩
def dd_adds_none : He.DefD := ⟨("adds_none", none), "adds_none", "adds_none", defArgs (top 25), defBody (top 25), defScope (top 25), [], []⟩
def dd_check_digits : He.DefD := ⟨("check_digits", none), "check_digits", "check_digits", defArgs (top 17), defBody (top 17), defScope (top 17), [], []⟩
def dd_read_rows : He.DefD := ⟨("read_rows", none), "read_rows", "read_rows", defArgs (top 14), defBody (top 14), defScope (top 14), [], []⟩
def dd_Table___str__ : He.DefD := ⟨("Table", some "__str__"), "__str__", "Table.__str__", defArgs (inClass (top 15) 2), defBody (inClass (top 15) 2), defScope (inClass (top 15) 2), [], []⟩
def dd__law_turned : He.DefD := ⟨("_law_turned", none), "_law_turned", "_law_turned", defArgs (top 34), defBody (top 34), defScope (top 34), [], []⟩
def dd__law_mixed : He.DefD := ⟨("_law_mixed", none), "_law_mixed", "_law_mixed", defArgs (top 31), defBody (top 31), defScope (top 31), [], []⟩
def dd_length_first : He.DefD := ⟨("length_first", none), "length_first", "length_first", defArgs (top 22), defBody (top 22), defScope (top 22), [], []⟩
def dd_grown : He.DefD := ⟨("grown", none), "grown", "grown", defArgs (top 20), defBody (top 20), defScope (top 20), [], []⟩
def dd_spots_of : He.DefD := ⟨("spots_of", none), "spots_of", "spots_of", defArgs (top 19), defBody (top 19), defScope (top 19), [], []⟩
def dd_are_numbers : He.DefD := ⟨("are_numbers", none), "are_numbers", "are_numbers", defArgs (top 11), defBody (top 11), defScope (top 11), [], []⟩
def dd_is_full : He.DefD := ⟨("is_full", none), "is_full", "is_full", defArgs (top 13), defBody (top 13), defScope (top 13), [], []⟩
def dd_is_between : He.DefD := ⟨("is_between", none), "is_between", "is_between", defArgs (top 10), defBody (top 10), defScope (top 10), [], []⟩
def dd_is_integer : He.DefD := ⟨("is_integer", none), "is_integer", "is_integer", defArgs (top 9), defBody (top 9), defScope (top 9), [], []⟩
def fn : List He.DefD := dd_law :: dd__law_right :: dd__law_reed :: dd_odd_rings :: dd_more_rows :: dd__law_every :: dd_may_add :: dd_Table :: dd__law_text :: dd__law_full :: dd__law_dip :: dd__law_ringed :: dd__law_any :: dd_rings_of :: dd_check_table :: dd_adds_none :: dd_check_digits :: dd_read_rows :: dd_Table___str__ :: dd__law_turned :: dd__law_mixed :: dd_length_first :: dd_grown :: dd_spots_of :: dd_are_numbers :: dd_is_full :: dd_is_between :: dd_is_integer :: []
def fa : List He.Fa := .free "abs" :: .free "all" :: .free "any" :: .free "bool" :: .free "divmod" :: .free "int" :: .free "isinstance" :: .free "len" :: .free "list" :: .free "max" :: .free "range" :: .free "sorted" :: .free "str" :: .free "tuple" :: .free "zip" :: .int "MOST_COLUMNS" 8 :: .int "MOST_ROWS" 8 :: .glo "law" :: .keep "law" :: .glo "_law_right" :: .keep "_law_right" :: .glo "_law_reed" :: .keep "_law_reed" :: .glo "odd_rings" :: .keep "odd_rings" :: .glo "more_rows" :: .keep "more_rows" :: .glo "_law_every" :: .keep "_law_every" :: .glo "may_add" :: .keep "may_add" :: .glo "Table" :: .keep "Table" :: .mkr "Table" :: .cls "Table" :: .glo "_law_text" :: .keep "_law_text" :: .glo "_law_full" :: .keep "_law_full" :: .glo "_law_dip" :: .keep "_law_dip" :: .glo "_law_ringed" :: .keep "_law_ringed" :: .glo "_law_any" :: .keep "_law_any" :: .glo "rings_of" :: .keep "rings_of" :: .glo "check_table" :: .keep "check_table" :: .glo "adds_none" :: .keep "adds_none" :: .glo "check_digits" :: .keep "check_digits" :: .glo "read_rows" :: .keep "read_rows" :: .glo "_law_turned" :: .keep "_law_turned" :: .glo "_law_mixed" :: .keep "_law_mixed" :: .glo "length_first" :: .keep "length_first" :: .glo "grown" :: .keep "grown" :: .glo "spots_of" :: .keep "spots_of" :: .glo "are_numbers" :: .keep "are_numbers" :: .glo "is_full" :: .keep "is_full" :: .glo "is_between" :: .keep "is_between" :: .glo "is_integer" :: .keep "is_integer" :: .noat "Table" "height" :: .noat "Table" "rows" :: .noat "Table" "text" :: .noat "Table" "width" :: .noat "Table" "__bool__" :: .noat "Table" "__len__" :: .meth "Table" "__str__" :: []
def ex : List Ex := [kitB isi, ownB ["Table"]]
theorem facts {K : PySem.W.Frag} {h : Heap} {mg : Str → Option Value} (X : K.In h) (G : h.Ns mainGlobals mg) (c : He.SaysD fa fn K) (xx : (ex.all fun f => f K) = true) : Fc K mg := by
  have cc := c
  exact {
    b_abs := He.free_ok X G (c.fact 0 (f := .free "abs") rfl),
    b_all := He.free_ok X G (c.fact 1 (f := .free "all") rfl),
    b_any := He.free_ok X G (c.fact 2 (f := .free "any") rfl),
    b_bool := He.free_ok X G (c.fact 3 (f := .free "bool") rfl),
    b_divmod := He.free_ok X G (c.fact 4 (f := .free "divmod") rfl),
    b_int := He.free_ok X G (c.fact 5 (f := .free "int") rfl),
    b_isinstance := He.free_ok X G (c.fact 6 (f := .free "isinstance") rfl),
    b_len := He.free_ok X G (c.fact 7 (f := .free "len") rfl),
    b_list := He.free_ok X G (c.fact 8 (f := .free "list") rfl),
    b_max := He.free_ok X G (c.fact 9 (f := .free "max") rfl),
    b_range := He.free_ok X G (c.fact 10 (f := .free "range") rfl),
    b_sorted := He.free_ok X G (c.fact 11 (f := .free "sorted") rfl),
    b_str := He.free_ok X G (c.fact 12 (f := .free "str") rfl),
    b_tuple := He.free_ok X G (c.fact 13 (f := .free "tuple") rfl),
    b_zip := He.free_ok X G (c.fact 14 (f := .free "zip") rfl),
    c_MOST_COLUMNS := He.int_ok X G (c.fact 15 (f := .int "MOST_COLUMNS" 8) rfl),
    c_MOST_ROWS := He.int_ok X G (c.fact 16 (f := .int "MOST_ROWS" 8) rfl),
    g_law := He.glo_ok X G (c.fact 17 (f := .glo "law") rfl),
    k_law := He.keep_ok (c.fact 18 (f := .keep "law") rfl),
    g__law_right := He.glo_ok X G (c.fact 19 (f := .glo "_law_right") rfl),
    k__law_right := He.keep_ok (c.fact 20 (f := .keep "_law_right") rfl),
    g__law_reed := He.glo_ok X G (c.fact 21 (f := .glo "_law_reed") rfl),
    k__law_reed := He.keep_ok (c.fact 22 (f := .keep "_law_reed") rfl),
    g_odd_rings := He.glo_ok X G (c.fact 23 (f := .glo "odd_rings") rfl),
    k_odd_rings := He.keep_ok (c.fact 24 (f := .keep "odd_rings") rfl),
    g_more_rows := He.glo_ok X G (c.fact 25 (f := .glo "more_rows") rfl),
    k_more_rows := He.keep_ok (c.fact 26 (f := .keep "more_rows") rfl),
    g__law_every := He.glo_ok X G (c.fact 27 (f := .glo "_law_every") rfl),
    k__law_every := He.keep_ok (c.fact 28 (f := .keep "_law_every") rfl),
    g_may_add := He.glo_ok X G (c.fact 29 (f := .glo "may_add") rfl),
    k_may_add := He.keep_ok (c.fact 30 (f := .keep "may_add") rfl),
    g_Table := He.glo_ok X G (c.fact 31 (f := .glo "Table") rfl),
    k_Table := He.keep_ok (c.fact 32 (f := .keep "Table") rfl),
    mk_Table := He.mkr_ok (c.fact 33 (f := .mkr "Table") rfl),
    cls_Table := He.cls_ok (c.fact 34 (f := .cls "Table") rfl),
    g__law_text := He.glo_ok X G (c.fact 35 (f := .glo "_law_text") rfl),
    k__law_text := He.keep_ok (c.fact 36 (f := .keep "_law_text") rfl),
    g__law_full := He.glo_ok X G (c.fact 37 (f := .glo "_law_full") rfl),
    k__law_full := He.keep_ok (c.fact 38 (f := .keep "_law_full") rfl),
    g__law_dip := He.glo_ok X G (c.fact 39 (f := .glo "_law_dip") rfl),
    k__law_dip := He.keep_ok (c.fact 40 (f := .keep "_law_dip") rfl),
    g__law_ringed := He.glo_ok X G (c.fact 41 (f := .glo "_law_ringed") rfl),
    k__law_ringed := He.keep_ok (c.fact 42 (f := .keep "_law_ringed") rfl),
    g__law_any := He.glo_ok X G (c.fact 43 (f := .glo "_law_any") rfl),
    k__law_any := He.keep_ok (c.fact 44 (f := .keep "_law_any") rfl),
    g_rings_of := He.glo_ok X G (c.fact 45 (f := .glo "rings_of") rfl),
    k_rings_of := He.keep_ok (c.fact 46 (f := .keep "rings_of") rfl),
    g_check_table := He.glo_ok X G (c.fact 47 (f := .glo "check_table") rfl),
    k_check_table := He.keep_ok (c.fact 48 (f := .keep "check_table") rfl),
    g_adds_none := He.glo_ok X G (c.fact 49 (f := .glo "adds_none") rfl),
    k_adds_none := He.keep_ok (c.fact 50 (f := .keep "adds_none") rfl),
    g_check_digits := He.glo_ok X G (c.fact 51 (f := .glo "check_digits") rfl),
    k_check_digits := He.keep_ok (c.fact 52 (f := .keep "check_digits") rfl),
    g_read_rows := He.glo_ok X G (c.fact 53 (f := .glo "read_rows") rfl),
    k_read_rows := He.keep_ok (c.fact 54 (f := .keep "read_rows") rfl),
    g__law_turned := He.glo_ok X G (c.fact 55 (f := .glo "_law_turned") rfl),
    k__law_turned := He.keep_ok (c.fact 56 (f := .keep "_law_turned") rfl),
    g__law_mixed := He.glo_ok X G (c.fact 57 (f := .glo "_law_mixed") rfl),
    k__law_mixed := He.keep_ok (c.fact 58 (f := .keep "_law_mixed") rfl),
    g_length_first := He.glo_ok X G (c.fact 59 (f := .glo "length_first") rfl),
    k_length_first := He.keep_ok (c.fact 60 (f := .keep "length_first") rfl),
    g_grown := He.glo_ok X G (c.fact 61 (f := .glo "grown") rfl),
    k_grown := He.keep_ok (c.fact 62 (f := .keep "grown") rfl),
    g_spots_of := He.glo_ok X G (c.fact 63 (f := .glo "spots_of") rfl),
    k_spots_of := He.keep_ok (c.fact 64 (f := .keep "spots_of") rfl),
    g_are_numbers := He.glo_ok X G (c.fact 65 (f := .glo "are_numbers") rfl),
    k_are_numbers := He.keep_ok (c.fact 66 (f := .keep "are_numbers") rfl),
    g_is_full := He.glo_ok X G (c.fact 67 (f := .glo "is_full") rfl),
    k_is_full := He.keep_ok (c.fact 68 (f := .keep "is_full") rfl),
    g_is_between := He.glo_ok X G (c.fact 69 (f := .glo "is_between") rfl),
    k_is_between := He.keep_ok (c.fact 70 (f := .keep "is_between") rfl),
    g_is_integer := He.glo_ok X G (c.fact 71 (f := .glo "is_integer") rfl),
    k_is_integer := He.keep_ok (c.fact 72 (f := .keep "is_integer") rfl),
    ok_height := (fun c e => by
    have e : c = "Table" := by simpa [ok_height] using e
    rcases e with rfl
    · exact ⟨He.cls_ok (cc.fact 34 (f := .cls "Table") rfl), He.noat_ok (cc.fact 73 (f := .noat "Table" "height") rfl)⟩),
    ok_rows := (fun c e => by
    have e : c = "Table" := by simpa [ok_rows] using e
    rcases e with rfl
    · exact ⟨He.cls_ok (cc.fact 34 (f := .cls "Table") rfl), He.noat_ok (cc.fact 74 (f := .noat "Table" "rows") rfl)⟩),
    ok_text := (fun c e => by
    have e : c = "Table" := by simpa [ok_text] using e
    rcases e with rfl
    · exact ⟨He.cls_ok (cc.fact 34 (f := .cls "Table") rfl), He.noat_ok (cc.fact 75 (f := .noat "Table" "text") rfl)⟩),
    ok_width := (fun c e => by
    have e : c = "Table" := by simpa [ok_width] using e
    rcases e with rfl
    · exact ⟨He.cls_ok (cc.fact 34 (f := .cls "Table") rfl), He.noat_ok (cc.fact 76 (f := .noat "Table" "width") rfl)⟩),
    ok_bool := (fun c e => by
    have e : c = "Table" := by simpa [ok_bool] using e
    rcases e with rfl
    · exact ⟨He.noat_ok (cc.fact 77 (f := .noat "Table" "__bool__") rfl), He.noat_ok (cc.fact 78 (f := .noat "Table" "__len__") rfl)⟩),
    isi := isi_ok (cs := ["Table"]) (ex_at xx 0) (ex_at xx 1) (by decide +kernel),
    me_Table___str__ := He.meth_ok (c.fact 79 (f := .meth "Table" "__str__") rfl),
    d_law := c.def_ 0 (d := dd_law) rfl,
    d__law_right := c.def_ 1 (d := dd__law_right) rfl,
    d__law_reed := c.def_ 2 (d := dd__law_reed) rfl,
    d_odd_rings := c.def_ 3 (d := dd_odd_rings) rfl,
    d_more_rows := c.def_ 4 (d := dd_more_rows) rfl,
    d__law_every := c.def_ 5 (d := dd__law_every) rfl,
    d_may_add := c.def_ 6 (d := dd_may_add) rfl,
    d_Table := c.def_ 7 (d := dd_Table) rfl,
    d__law_text := c.def_ 8 (d := dd__law_text) rfl,
    d__law_full := c.def_ 9 (d := dd__law_full) rfl,
    d__law_dip := c.def_ 10 (d := dd__law_dip) rfl,
    d__law_ringed := c.def_ 11 (d := dd__law_ringed) rfl,
    d__law_any := c.def_ 12 (d := dd__law_any) rfl,
    d_rings_of := c.def_ 13 (d := dd_rings_of) rfl,
    d_check_table := c.def_ 14 (d := dd_check_table) rfl,
    d_adds_none := c.def_ 15 (d := dd_adds_none) rfl,
    d_check_digits := c.def_ 16 (d := dd_check_digits) rfl,
    d_read_rows := c.def_ 17 (d := dd_read_rows) rfl,
    d_Table___str__ := c.def_ 18 (d := dd_Table___str__) rfl,
    d__law_turned := c.def_ 19 (d := dd__law_turned) rfl,
    d__law_mixed := c.def_ 20 (d := dd__law_mixed) rfl,
    d_length_first := c.def_ 21 (d := dd_length_first) rfl,
    d_grown := c.def_ 22 (d := dd_grown) rfl,
    d_spots_of := c.def_ 23 (d := dd_spots_of) rfl,
    d_are_numbers := c.def_ 24 (d := dd_are_numbers) rfl,
    d_is_full := c.def_ 25 (d := dd_is_full) rfl,
    d_is_between := c.def_ 26 (d := dd_is_between) rfl,
    d_is_integer := c.def_ 27 (d := dd_is_integer) rfl }
def names : List PySem.Str := "_wall" :: "BadValue" :: "InvalidText" :: "InvalidRow" :: "NotATable" :: "MOST_ROWS" :: "MOST_COLUMNS" :: "is_integer" :: "is_between" :: "are_numbers" :: "is_full" :: "read_rows" :: "Table" :: "check_table" :: "check_digits" :: "spots_of" :: "grown" :: "rings_of" :: "length_first" :: "odd_rings" :: "adds_none" :: "may_add" :: "more_rows" :: "_law_reed" :: "_law_dip" :: "_law_mixed" :: "_law_any" :: "_law_ringed" :: "_law_turned" :: "_law_full" :: "_law_text" :: "_law_every" :: "_law_right" :: []
abbrev R : PySem.W.OpenRow := PySem.W.OpenLaw.row PySem.Challenge.rw_oddrings_k58_rows_added_to_full_tables
abbrev hk : PySem.W.Hook := hookX 4 fa fn ex
def ob (s : PySem.W.SharedT) : AlX := obsX 4 fa fn ex (HandSHeadRun.getT s)
theorem ob_eq (s : PySem.W.SharedT) : ob s = hk.obs s.abs := obsX_eq (HandSHeadRun.getT_eq s)
theorem run (w : World) : HandSHeadRun.RunEq R (PySem.W.view R.prog [39]) hk ob 40000 names w := by
  intro os
  kernel_rfl
/-- the law, from the evaluator's answer -/
theorem holds (n : Nat) (hn : n ≤ 60) (h : ∀ ns : List Int, ns.length ≤ 63 → (∀ i ∈ ns, Builtin.Int.intBits i ≤ 1048576) → ∃ S, funM 2 1 (b_law_v32 (callN n)) [.scr ns] [] = .ok (.bl true) S) : PySem.Challenge.rw_oddrings_k58_rows_added_to_full_tables.Holds := by
  w_on; o_law
  refine HandSHeadRun.head_any (r := PySem.W.OpenLaw.row PySem.Challenge.rw_oddrings_k58_rows_added_to_full_tables) (q := PySem.W.view (PySem.W.OpenLaw.row PySem.Challenge.rw_oddrings_k58_rows_added_to_full_tables).prog [39]) (H := hk) (ob := ob) (M := 40000) (loose := names) (d := HandSHeadRun.topDef (PySem.W.OpenLaw.row PySem.Challenge.rw_oddrings_k58_rows_added_to_full_tables).prog 39) (kwd := []) ob_eq
    (by kernel_rfl) (fun s => by kernel_rfl) run (by kernel_rfl) (by kernel_rfl) (by kernel_rfl) (by rfl) (by first | assumption | decide +kernel) (by decide +kernel) ⟨rfl, rfl, rfl, rfl, rfl, by decide +kernel⟩ ?hw ?hc
  case hw => w_witness2
  case hc =>
    refine walk_ev (l := PySem.Challenge.rw_oddrings_k58_rows_added_to_full_tables) (n := 63) (k := 3 * n + 3) (x := "_law_cells") rfl (by decide) (by kernel_rfl) ⟨rfl, ?_, ?_⟩ ?F h
    · show 1 + claimMargin + 3 * (3 * n + 3) + 5 < recursionLimit
      have e : 1 + claimMargin + 3 * (3 * 60 + 3) + 5 < recursionLimit := by decide
      omega
    · show 4 + 16 * (3 * n + 3) + 200 < cLine
      have e : 4 + 16 * (3 * 60 + 3) + 200 < cLine := by decide
      omega
    intro w mg fa h Y G hmg0
    obtain ⟨K, KX, c, xx⟩ := Y
    have hmg : mg ("law" : PySem.Str) = some (.ref fa) := by
      have e : (HandSHeadRun.topDef (PySem.W.OpenLaw.row PySem.Challenge.rw_oddrings_k58_rows_added_to_full_tables).prog 39).name = ("law" : PySem.Str) := by kernel_rfl
      rw [← e]
      exact hmg0
    have F := facts KX G c xx
    have e := hmg.symm.trans F.g_law
    cases e
    obtain ⟨fd, D⟩ := F.d_law
    exact ⟨K, fd, KX, law_b D, fun base _ _ => law_f F n D⟩

end Lw
namespace Lw
open PySem L2 Ev Bd Sp Rg Wp
theorem dipD (n : Nat) : Drw ReedJ (callN (n + 1) 60) := by rw [c__law_dip]; exact dip_drw
theorem mixD (n : Nat) : Mix ReedJ (callN (n + 2) 64) := ⟨fun t S ns a h => by rw [c__law_mixed_v2, mixed_v2]; exact mixed_ints (dipD n) a h⟩
theorem anyD (n : Nat) : AnyF ReedJ (callN (n + 2) 58) := ⟨fun t h w S a h1 h2 w1 w2 => by rw [c__law_any]; exact any_ev (dipD n) a h1 h2 w1 w2⟩
theorem ringedD (n : Nat) : RingedF ReedJ (callN (n + 3) 57) := ⟨fun t h w m S a h2 w2 m0 m1 m2 => by rw [c__law_ringed]; exact ringed_ev (dipD (n + 1)) (mixD n) a h2 w2 m0 m1 m2 fun S a => (anyD n).go t h w S a (by omega) h2 (by omega) w2⟩
theorem turnedD (n : Nat) : TurnF (callN (n + 1) 36) := ⟨fun R w S h1 h2 h3 h4 => by rw [c__law_turned]; exact turned_ev h1 h2 h3 h4⟩
theorem fullD (n : Nat) (R : Rw) (most : Nat) (S : Store) (g : Grid most R) (hm : most ≤ 8) : ∃ b, callN (n + 2) 50 [rowsL R] S = .ok (.bl b) S ∧ (b = true → ∃ h w, Full h w R ∧ h ≤ most ∧ w ≤ most) := by rw [c__law_full]; exact fulls_ev (turnedD n) g hm
theorem textD (n h w : Nat) (R : Rw) (S : Store) (F : Full h w R) : callN (n + 1) 2 [rowsL R] S = .ok (.str (txt R)) S := by rw [c__law_text]; exact text_ev F
theorem readD (n h w : Nat) (R : Rw) (S : Store) (F : Full h w R) : callN (n + 2) 7 [.str (txt R)] S = .ok (rowsT R) S := by rw [c_read_rows]; exact read_ev F (by rw [c_is_full]; exact full_ev F)
theorem tabDD (n h w : Nat) (R : Rw) (S : Store) (F : Full h w R) : callN (n + 3) 1 [.str (txt R)] S = .ok (tabD h w R) S := by rw [c_Table]; exact table_ev F (readD n h w R S F)
theorem betweenD (n : Nat) (x a b : Int) (S : Store) : callN (n + 2) 41 [.int x, .int a, .int b] S = .ok (.bl (decide (a ≤ x) && decide (x ≤ b))) S := by rw [c_is_between]; exact between_ev fun S => by rw [c_is_integer]; exact integer_ev
theorem grownX {h w : Nat} {R : Rw} (hw : h + w ≤ 16) : ∀ d m, d ≤ m → ∀ p, p.length + d = h + w → Rg.Walk (adjR h w R) p → (∀ v ∈ p, 0 ≤ v ∧ v < (h + w : Nat)) → GrS (h + w) (spotsL h w R) (adjR h w R) (callN (m + 2) 62) p := by
  have H := spots_okX (R := R) hw
  have hle : ∀ {p : List Int}, Rg.Walk (adjR h w R) p → (∀ v ∈ p, 0 ≤ v ∧ v < (h + w : Nat)) → p.length ≤ h + w := fun W hp => by
    have := nodup_le W.nd (m := rng (h + w)) fun v hv => mem_rng.mpr (hp v hv)
    rwa [rng_length] at this
  have hrg : ∀ {p : List Int} {x : Int}, Rg.Walk (adjR h w R) (p ++ [x]) → 0 < p.length → (∀ v ∈ p, 0 ≤ v ∧ v < (h + w : Nat)) → ∀ v ∈ p ++ [x], 0 ≤ v ∧ v < (h + w : Nat) := fun {p x} W h0 hp v hv => by
    rcases List.mem_append.mp hv with hv | hv
    · exact hp v hv
    · rw [List.mem_singleton.mp hv]
      have := W.nxt (p.length - 1) (by simp; omega)
      rw [show p.length - 1 + 1 = p.length by omega, at_mid] at this
      exact (H.rg _ _ this).2
  intro d
  induction d with
  | zero =>
    intro m _ p e W hp
    rw [c_grown]
    refine grown_ev H W hp fun x Wx => ?_
    have h1 := hle Wx (hrg Wx W.ne hp)
    simp at h1; omega
  | succ d ih =>
    intro m hm p e W hp
    rw [c_grown]
    obtain ⟨m, rfl⟩ : ∃ m', m = m' + 1 := ⟨m - 1, by omega⟩
    exact grown_ev H W hp fun x Wx => ih m (by omega) (p ++ [x]) (by simp; omega) Wx (hrg Wx W.ne hp)
theorem ringsD (n h w : Nat) (R : Rw) (S : Store) (F : Full h w R) : ∃ S', callN (n + 20) 53 [rowsT R] S = .ok (.lst ((lawL R h w).map ringD)) S' ∧ Keep S S' := by
  have h8 := F.h2
  have w8 := F.w2
  have h1 := F.h1
  obtain ⟨L, S', e, k, nd, hm⟩ := rings_ev (cal := callN (n + 19)) (S := S) F (fun S => by rw [c_spots_of]; exact spots_ev F) (fun r r0 r1 => grownX (by omega) (h + w - 1) (n + 17) (by omega) [r] (by simp; omega) Walk.one (fun v hv => by rw [List.mem_singleton.mp hv]; omega)) (fun q S => by rw [c_length_first]; exact length_first_ev)
  rw [rings_same F.len h8 F.g nd hm] at e
  exact ⟨S', by rw [c_rings_of]; exact e, k⟩
theorem ringsXL (n h w : Nat) (R : Rw) (S : Store) (F : GrX h w R) : ∃ S', callN (n + 20) 53 [lotsL R] S = .ok (.lst ((lawL R h w).map ringD)) S' ∧ Keep S S' := by
  have hw := F.hw
  have h1 := F.h1
  obtain ⟨L, S', e, k, nd, hm⟩ := rings_evXL (cal := callN (n + 19)) (S := S) F (fun S => by rw [c_spots_of]; exact spots_evXL F) (fun r r0 r1 => grownX hw (h + w - 1) (n + 17) (by omega) [r] (by simp; omega) Walk.one (fun v hv => by rw [List.mem_singleton.mp hv]; omega)) (fun q S => by rw [c_length_first]; exact length_first_ev)
  rw [rings_sameX F.len F.w8 F.g nd hm] at e
  exact ⟨S', by rw [c_rings_of]; exact e, k⟩
theorem addsD (n w : Nat) (R : Rw) (d : List Int) (S : Store) (F : Full 8 w R) (w5 : w ≤ 5) (hd : d ∈ Rt.bits w) : ∃ S', callN (n + 21) 157 [rowsT R, Sp.tI d] S = .ok (.bl (Rt.stay 8 w R d)) S' ∧ Keep S S' := by
  rw [c_adds_none]
  have := F.len
  have hb := Rt.mem_bits.mp hd
  refine Rt.adds_ev (by omega) (fun S => ringsXL n 9 w (R ++ [d]) S ⟨by simp [F.len], Rz.app_g F.g hb.1 hb.2, by omega, F.w1, by omega, F.w2⟩) fun S => ringsD n 8 w R S F
theorem c58 (n : Nat) : Rz.C58 (callN (n + 22)) := ⟨dipD (n + 21), anyD (n + 20), ringedD (n + 19), fun R most S => fullD (n + 20) R most S, fun h w R S => textD (n + 21) h w R S, fun h w R S => tabDD (n + 19) h w R S,
  fun w S w1 w8 => by rw [c__law_every_v2]; exact Rz.every2_ev w1 w8,
  fun w R d S F w5 hd h1 => by
    rw [c_may_add]
    have hb := Rt.mem_bits.mp hd
    refine Rt.may_ev (fun S => by rw [c_check_table]; exact check_table_ev) (fun S => ?_) fun S => addsD n w R d S F w5 hd
    rw [c_check_digits]
    refine Rt.digits_ev h1 fun S => ?_
    rw [c_are_numbers]
    exact Rt.numbers_ev hb.1 F.w2 hb.2 fun x S => betweenD (n + 17) x _ _ S,
  fun w R S F w5 => by
    rw [c_more_rows]
    exact Rt.more_ev F.w2 (fun S => by rw [c_check_table]; exact check_table_ev) fun d S hd h1 => addsD n w R d S F w5 hd,
  fun h w R S F => by
    rw [c_odd_rings]
    refine odd_rings_ev ?_ (fun S => by rw [c_check_table]; exact check_table_ev) fun S => ringsD (n + 1) h w R S F
    have := law_le (R := R) F.h2 F.w2
    omega⟩
theorem law_ev {ns : List Int} : ∃ S, funM 2 1 (b_law_v32 (callN 23)) [.scr ns] [] = .ok (.bl true) S :=
  lawT_ev (n := 3) (r := callN 23 237) (e := callN 23 44) (J := ReedJ) (by omega) (fun k S hk => by rw [c__law_reed 22]; exact reed_ev hk) fun t S a => by rw [c__law_right_v31 22]; exact Rz.right58_ev (c58 0) a
end Lw
theorem PySem.Challenge.cw_oddrings_k58_rows_added_to_full_tables_holds : PySem.Challenge.rw_oddrings_k58_rows_added_to_full_tables.Holds :=
  Lw.holds 23 (by decide) fun ns _ _ => Lw.law_ev

