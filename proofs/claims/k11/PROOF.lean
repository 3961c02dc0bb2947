import PyProof.Rows.All
import Wide.All
import OpenK.AllK
import Wide.FinOn
import HandS.ForMost
import HandS.ForExc
import HandS.Walk
import HandS.Flow
import HandS.Defaults
import HandS.HeadHook2
import HandS.Lambda
import HandS.ExcCtx
import HandS.HotCalls
import KE.DataEq
import KE.DataAny
import HandS.Star
import HandS.Style
import HandS.TupAny
import HandS.IsInst
import HandS.RaiseMore
import PyProof.ReprReads
import HandS.MakeKw
import PyProof.ReprRoads
import HandS.Small
import HandS.Zip
import KE.KDictZip
import KE.GoesMore
import KE.KCallOwn
import HandS.Ends
import HandS.HeadEnd
import HandS.EndBits
import HandS.Head0
import HandS.Head1
import HandS.Head2
import HandS.More
import HandS.Text
import PyProof.Rows.RegFStrParts
import HandS.Conv
import KE.GoesEnum
import HandS.SortKw
import KE.SortKeyHeap
import HandS.ExcValue
import HandS.Dict
import HandS.Iter
import HandS.Sort
import KE.KTupSum
import HandS.ExcInit
import KE.KExcInit
import KE.KTryMore
import HandS.ExcField
import KE.KExcIs
import KE.KRevSl
import HandS.TupMul
import HandS.HeadHook3
import HandS.EndTab
import KE.KNestM
import PyProof.Rows.Nodes
import PyProof.StrOps2
import HandS.NoneIn
import KE.KStateDown
import HandS.HeadHook1
import PyProof.CallFns
import PyProof.StrLawsRepr
import PyProof.StrLawsChain
import PyProof.Rows.StrItems
import PyProof.TupleOfStr
import PySem.Challenge.RW_oddrings_k11_whole_tables_of_webs
set_option Elab.async false
set_option linter.all false
set_option maxRecDepth 100000
set_option maxHeartbeats 0
namespace Ev
open PySem L2

/-- data as trees; ref: a mutable cell of the store -/
inductive D where
  | non | bl (b : Bool) | int (i : Int) | str (s : Str)
  | tup (xs : List D) | lst (xs : List D)
  | ins (c : Str) (fs : List (Str × D))
  | ref (i : Nat)
  | fn (x : Str)
  | scr (ns : List Int)
  | slf
  | dic (kvs : List (Key × D))
  /-- an exception in hand: where it stands, its dict, its class, its attributes -/
  | exn (a : Addr) (d : Option Addr) (c : Str) (fs : List (Str × D))
  /-- a lambda: where it stands, its code; what it captured -/
  | lam (f c : Addr) (q : Str) (vs : List V) (ds : List D)
  deriving Inhabited

inductive Cell where
  | lst (xs : List D)
  | ins (c : Str) (fs : List (Str × D))
  | dT (kvs : List (List Int × D))
  | dK (kvs : List (Key × D))
  /-- the table of lambdas of the module's def x -/
  | tab (x : Str)
  deriving Inhabited

abbrev Store := List (Option Cell)
abbrev En := List (Option D)
/-- an exception: its class, its attributes -/
structure Xc where
  cls : Str
  fs : List (Str × D)

inductive Res (α : Type) where
  | ok (a : α) (S : Store)
  | exc (x : Xc) (S : Store)
  | bad

abbrev M (α : Type) := Store → Res α
@[reducible] def M.pure {α : Type} (a : α) : M α := fun S => .ok a S
def M.bind {α β : Type} (m : M α) (f : α → M β) : M β := fun S => match m S with
  | .ok a S' => f a S'
  | .exc x S' => .exc x S'
  | .bad => .bad
def M.bad {α : Type} : M α := fun _ => .bad
instance : Monad M where
  pure := M.pure
  bind := M.bind

abbrev ME := En → M D
abbrev MT := En → M Bool
abbrev MA := En → M (List D)

inductive Fl where
  | nx (δ : En) (S : Store)
  | rt (d : D) (S : Store)
  | bk (δ : En) (S : Store)
  | ct (δ : En) (S : Store)
  | exc (x : Xc) (δ : En) (S : Store)
  | bad
abbrev MS := En → Store → Fl
/-- F: what is frozen; m: where the cells stand; P: what is private, kept as it is by all else; sf: the instance that an __init__ is filling -/
structure Wd where
  F : Hp
  m : List Addr
  P : Hp
  sf : Option Addr
structure Wd.lf (W W' : Wd) : Prop where
  f : ∀ a o, W.F a = some o → W'.F a = some o
  sq : W'.sf = W.sf
  mm : ∃ t, W'.m = W.m ++ t
structure Wd.le (W W' : Wd) : Prop extends toLf : Wd.lf W W' where
  pp : W'.P = W.P
instance {W W' : Wd} : CoeOut (W.le W') (W.lf W') := ⟨fun h => h.toLf⟩
theorem Wd.le_refl (W : Wd) : W.le W := ⟨⟨fun _ _ h => h, rfl, [], by simp⟩, rfl⟩
theorem Wd.lf.trans {A B C : Wd} (h : A.lf B) (g : B.lf C) : A.lf C := by
  obtain ⟨h1, h0, t, h2⟩ := h
  obtain ⟨g1, g0, u, g2⟩ := g
  exact ⟨fun a o e => g1 a o (h1 a o e), g0.trans h0, t ++ u, by rw [g2, h2, List.append_assoc]⟩
theorem Wd.le.trans {A B C : Wd} (h : A.le B) (g : B.le C) : A.le C := ⟨h.toLf.trans g.toLf, g.pp.trans h.pp⟩
theorem Wd.lf.get {A B : Wd} (h : A.lf B) {i : Nat} {a : Addr} (e : A.m[i]? = some a) : B.m[i]? = some a := by
  obtain ⟨_, _, t, h2⟩ := h
  rw [h2, List.getElem?_append_left (List.getElem?_eq_some_iff.mp e).1]
  exact e

mutual
inductive Rep (K : PySem.W.Frag) (W : Wd) : D → V → Prop where
  | non : Rep K W .non .non
  | bl (b : Bool) : Rep K W (.bl b) (.bl b)
  | int (i : Int) : Rep K W (.int i) (.int i)
  | str (x : Str) : Rep K W (.str x) (.str x)
  | tup {a : Addr} {vs : List V} {ds : List D} : SqT K W.F a vs → Reps K W ds vs → Rep K W (.tup ds) (.ref a)
  | lst {a : Addr} {vs : List V} {ds : List D} : W.F a = some (.lst vs) → Reps K W ds vs → Rep K W (.lst ds) (.ref a)
  | ins {a dx : Addr} {c : Str} {vfs : List (Str × V)} {fs : List (Str × D)} : W.F a = some (.ins (He.ga K c) dx vfs) → vfs.map (·.1) = fs.map (·.1) → Reps K W (fs.map (·.2)) (vfs.map (·.2)) → Rep K W (.ins c fs) (.ref a)
  | ref {i : Nat} {a : Addr} : W.m[i]? = some a → Rep K W (.ref i) (.ref a)
  | fn (x : Str) : Rep K W (.fn x) (.ref (He.ga K x))
  | scr {a : Addr} {ns : List Int} : SqL K W.F a (ns.map V.int) → Rep K W (.scr ns) (.ref a)
  | dic {a : Addr} {vk : List (Key × V)} {kvs : List (Key × D)} : W.F a = some (.dK vk) → vk.map (·.1) = kvs.map (·.1) → Reps K W (kvs.map (·.2)) (vk.map (·.2)) → Rep K W (.dic kvs) (.ref a)
  | exn0 {a : Addr} {c : Str} : Rep K W (.exn a none c []) (.ref a)
  | exn1 {a d : Addr} {c : Str} {vfs : List (Str × V)} {fs : List (Str × D)} : W.F d = some (.xd vfs) → vfs.map (·.1) = fs.map (·.1) → Reps K W (fs.map (·.2)) (vfs.map (·.2)) → Rep K W (.exn a (some d) c fs) (.ref a)
  | lam {f c : Addr} {q : Str} {vs : List V} {ds : List D} : W.F c = some (LamX.CodeO c q) → Reps K W ds vs → Rep K W (.lam f c q vs ds) (.ref f)
inductive Reps (K : PySem.W.Frag) (W : Wd) : List D → List V → Prop where
  | nil : Reps K W [] []
  | cons {d : D} {v : V} {ds : List D} {vs : List V} : Rep K W d v → Reps K W ds vs → Reps K W (d :: ds) (v :: vs)
end

section
variable {K : PySem.W.Frag} {W W' : Wd}
theorem rd_mono (h : W.lf W') {a : Addr} {u : HO} (r : Rd W.F a u) : Rd W'.F a u := by
  rcases r with r | ⟨o, r⟩
  · exact .inl (h.f _ _ r)
  · exact .inr ⟨o, h.f _ _ r⟩
theorem sqL_mono (h : W.lf W') {a : Addr} {xs : List V} (r : SqL K W.F a xs) : SqL K W'.F a xs := by
  rcases r with r | r
  · exact .inl (rd_mono h r)
  · exact .inr r
theorem sqT_mono (h : W.lf W') {a : Addr} {xs : List V} (r : SqT K W.F a xs) : SqT K W'.F a xs := by
  rcases r with r | r
  · exact .inl (rd_mono h r)
  · exact .inr r
mutual
theorem Rep.mono (h : W.lf W') : ∀ {d : D} {v : V}, Rep K W d v → Rep K W' d v
  | _, _, .non => .non
  | _, _, .bl b => .bl b
  | _, _, .int i => .int i
  | _, _, .str x => .str x
  | _, _, .tup q r => .tup (sqT_mono h q) (Reps.mono h r)
  | _, _, .lst q r => .lst (h.f _ _ q) (Reps.mono h r)
  | _, _, .scr q => .scr (sqL_mono h q)
  | _, _, .ins e k r => .ins (h.f _ _ e) k (Reps.mono h r)
  | _, _, .ref e => .ref (h.get e)
  | _, _, .fn x => .fn x
  | _, _, .dic e k r => .dic (h.f _ _ e) k (Reps.mono h r)
  | _, _, .exn0 => .exn0
  | _, _, .exn1 e k r => .exn1 (h.f _ _ e) k (Reps.mono h r)
  | _, _, .lam e r => .lam (h.f _ _ e) (Reps.mono h r)
theorem Reps.mono (h : W.lf W') : ∀ {ds : List D} {vs : List V}, Reps K W ds vs → Reps K W' ds vs
  | _, _, .nil => .nil
  | _, _, .cons r t => .cons (Rep.mono h r) (Reps.mono h t)
end
theorem Reps.length : ∀ {ds : List D} {vs : List V}, Reps K W ds vs → ds.length = vs.length
  | _, _, .nil => rfl
  | _, _, .cons _ t => congrArg Nat.succ (Reps.length t)
theorem Reps.get : ∀ {ds : List D} {vs : List V} {i : Nat} {d : D}, Reps K W ds vs → ds[i]? = some d → ∃ v, vs[i]? = some v ∧ Rep K W d v
  | _, _, _, _, .nil, e => by simp at e
  | _, _, 0, _, .cons r _, e => by simp at e; subst e; exact ⟨_, rfl, r⟩
  | _, _, i + 1, _, .cons _ t, e => by
    obtain ⟨v, e1, r⟩ := Reps.get (i := i) t (by simpa using e)
    exact ⟨v, by simpa using e1, r⟩
theorem Reps.append : ∀ {ds es : List D} {vs us : List V}, Reps K W ds vs → Reps K W es us → Reps K W (ds ++ es) (vs ++ us)
  | _, _, _, _, .nil, s => s
  | _, _, _, _, .cons r t, s => .cons r (Reps.append t s)
theorem Reps.set {d : D} {v : V} (r : Rep K W d v) : ∀ {ds : List D} {vs : List V} (i : Nat), Reps K W ds vs → Reps K W (ds.set i d) (vs.set i v)
  | _, _, _, .nil => .nil
  | _, _, 0, .cons _ t => .cons r t
  | _, _, i + 1, .cons q t => .cons q (Reps.set r i t)
theorem Reps.take : ∀ {ds : List D} {vs : List V} (n : Nat), Reps K W ds vs → Reps K W (ds.take n) (vs.take n)
  | _, _, 0, _ => .nil
  | _, _, _ + 1, .nil => .nil
  | _, _, n + 1, .cons r t => .cons r (Reps.take n t)
theorem Reps.drop : ∀ {ds : List D} {vs : List V} (n : Nat), Reps K W ds vs → Reps K W (ds.drop n) (vs.drop n)
  | _, _, 0, r => r
  | _, _, _ + 1, .nil => .nil
  | _, _, n + 1, .cons _ t => Reps.drop n t
theorem Reps.reverse {ds : List D} {vs : List V} (r : Reps K W ds vs) : Reps K W ds.reverse vs.reverse := by
  induction ds generalizing vs with
  | nil => cases r; exact .nil
  | cons d ds ih =>
    cases r with
    | cons a b =>
      rw [List.reverse_cons, List.reverse_cons]
      exact (ih b).append (.cons a .nil)
end

/-- the code object of the module's def x, its table -/
def tabK (K : PySem.W.Frag) (x : Str) : Addr × Addr := (PySem.W.tabIn K x).getD (0, 0)
/-- how the lambdas in the def x are named -/
def lamQ (x : Str) : Str := (x ++ ".<locals>.") ++ "<lambda>"
/-- what stands at a cell's address -/
def CellAt (K : PySem.W.Frag) (W : Wd) (H : Hp) (a : Addr) : Cell → Prop
  | .lst ds => ∃ vs, H a = some (.lst vs) ∧ Reps K W ds vs
  | .ins c fs => ∃ dx vfs, H a = some (.ins (He.ga K c) dx vfs) ∧ vfs.map (·.1) = fs.map (·.1) ∧ Reps K W (fs.map (·.2)) (vfs.map (·.2))
  | .dT kvs => ∃ vkvs : List (List Key × V), H a = some (.dT vkvs) ∧ vkvs.map (·.1) = kvs.map (fun p => p.1.map Sum.inl) ∧ Reps K W (kvs.map (·.2)) (vkvs.map (·.2))
  | .dK kvs => ∃ vkvs : List (Key × V), H a = some (.dK vkvs) ∧ vkvs.map (·.1) = kvs.map (·.1) ∧ Reps K W (kvs.map (·.2)) (vkvs.map (·.2))
  | .tab x => ∃ ps : Array Value, H a = some (.tbl ps) ∧ (a = (tabK K x).2 ∧ PySem.TriplesOk ps.toList) ∧ ∀ (pos : Pos) (cv : Value), codeAmong pos ps.toList = some cv → ∃ c, cv = .ref c ∧ W.F c = some (LamX.CodeO c (lamQ x))
theorem CellAt.mono {K : PySem.W.Frag} {W W' : Wd} {H : Hp} {a : Addr} (h : W.lf W') : ∀ {c : Cell}, CellAt K W H a c → CellAt K W' H a c
  | .lst _, ⟨vs, e, r⟩ => ⟨vs, e, r.mono h⟩
  | .ins _ _, ⟨dx, vfs, e, k, r⟩ => ⟨dx, vfs, e, k, r.mono h⟩
  | .dT _, ⟨vk, e, k, r⟩ => ⟨vk, e, k, r.mono h⟩
  | .dK _, ⟨vk, e, k, r⟩ => ⟨vk, e, k, r.mono h⟩
  | .tab _, ⟨ps, e, k, r⟩ => ⟨ps, e, k, fun p v z => (r p v z).imp fun c ⟨z1, z2⟩ => ⟨z1, h.f _ _ z2⟩⟩
theorem CellAt.there {K : PySem.W.Frag} {W : Wd} {H : Hp} {a : Addr} : ∀ {c : Cell}, CellAt K W H a c → ∃ o, H a = some o
  | .lst _, ⟨vs, e, r⟩ => ⟨_, e⟩
  | .ins _ _, ⟨dx, vfs, e, k, r⟩ => ⟨_, e⟩
  | .dT _, ⟨vk, e, k, r⟩ => ⟨_, e⟩
  | .dK _, ⟨vk, e, k, r⟩ => ⟨_, e⟩
  | .tab _, ⟨ps, e, k, r⟩ => ⟨_, e⟩
theorem CellAt.eqH {K : PySem.W.Frag} {W : Wd} {H H' : Hp} {a : Addr} (h : H' a = H a) : ∀ {c : Cell}, CellAt K W H a c → CellAt K W H' a c
  | .lst _, ⟨vs, e, r⟩ => ⟨vs, h.trans e, r⟩
  | .ins _ _, ⟨dx, vfs, e, k, r⟩ => ⟨dx, vfs, h.trans e, k, r⟩
  | .dT _, ⟨vk, e, k, r⟩ => ⟨vk, h.trans e, k, r⟩
  | .dK _, ⟨vk, e, k, r⟩ => ⟨vk, h.trans e, k, r⟩
  | .tab _, ⟨ps, e, k, r⟩ => ⟨ps, h.trans e, k, r⟩

structure Good (K : PySem.W.Frag) (W : Wd) (S : Store) (H : Hp) : Prop where
  sub : ∀ a o, W.F a = some o → H a = some o
  len : W.m.length = S.length
  cell : ∀ (i : Nat) (c : Cell), S[i]? = some (some c) → ∃ a, W.m[i]? = some a ∧ W.F a = none ∧ W.P a = none ∧ CellAt K W H a c
  inj : ∀ (i j : Nat) (a : Addr) (c c' : Cell), S[i]? = some (some c) → S[j]? = some (some c') → W.m[i]? = some a → W.m[j]? = some a → i = j
  prv : ∀ a o, W.P a = some o → H a = some o ∧ W.F a = none
  ptup : ∀ a xs, W.P a ≠ some (.tup xs)

section
variable {K : PySem.W.Frag} {W : Wd} {S : Store} {H : Hp}
theorem rd_sub {F H : Hp} (s : ∀ a o, F a = some o → H a = some o) {a : Addr} {u : HO} (r : Rd F a u) : Rd H a u := by
  rcases r with r | ⟨o, r⟩
  · exact .inl (s _ _ r)
  · exact .inr ⟨o, s _ _ r⟩
theorem Good.sqL (g : Good K W S H) {a : Addr} {xs : List V} (r : SqL K W.F a xs) : SqL K H a xs := by
  rcases r with r | r
  · exact .inl (rd_sub g.sub r)
  · exact .inr r
theorem Good.sqT (g : Good K W S H) {a : Addr} {xs : List V} (r : SqT K W.F a xs) : SqT K H a xs := by
  rcases r with r | r
  · exact .inl (rd_sub g.sub r)
  · exact .inr r
/-- a new frozen object -/
def Wd.add (W : Wd) (p : Addr) (o : HO) : Wd := ⟨upd W.F p o, W.m, W.P, W.sf⟩
theorem Good.free (g : Good K W S H) {p : Addr} (n : H p = none) : W.F p = none := by
  cases e : W.F p with
  | none => rfl
  | some o => rw [g.sub p o e] at n; cases n
theorem Good.freeP (g : Good K W S H) {p : Addr} (n : H p = none) : W.P p = none := by
  cases e : W.P p with
  | none => rfl
  | some o => rw [(g.prv p o e).1] at n; cases n
theorem Good.add_le (g : Good K W S H) {p : Addr} {o : HO} (n : H p = none) : W.le (W.add p o) :=
  ⟨⟨fun a u e => by show upd W.F p o a = _; rw [upd_ne (ne_of_none e (g.free n))]; exact e, rfl, [], by simp [Wd.add]⟩, rfl⟩
theorem Good.add (g : Good K W S H) {p : Addr} {o : HO} (n : H p = none) : Good K (W.add p o) S (upd H p o) where
  sub := fun a u e => by
    have e1 : upd W.F p o a = some u := e
    by_cases h : a = p
    · subst h; rw [upd_same] at e1 ⊢; exact e1
    · rw [upd_ne h] at e1 ⊢; exact g.sub a u e1
  len := g.len
  cell := fun i c e => by
    obtain ⟨a, e1, e2, e2', e3⟩ := g.cell i c e
    obtain ⟨u, e4⟩ := e3.there
    have ne : a ≠ p := ne_of_none e4 n
    exact ⟨a, e1, by show upd W.F p o a = _; rw [upd_ne ne]; exact e2, e2', (e3.eqH (upd_ne ne)).mono (g.add_le n).toLf⟩
  inj := g.inj
  prv := fun a u e => by
    obtain ⟨h1, h2⟩ := g.prv a u e
    have ne : a ≠ p := ne_of_none h1 n
    exact ⟨by rw [upd_ne ne]; exact h1, by show upd W.F p o a = _; rw [upd_ne ne]; exact h2⟩
  ptup := g.ptup
/-- a new cell -/
def Wd.addC (W : Wd) (p : Addr) : Wd := ⟨W.F, W.m ++ [p], W.P, W.sf⟩
theorem Wd.addC_le (W : Wd) (p : Addr) : W.le (W.addC p) := ⟨⟨fun _ _ h => h, rfl, [p], rfl⟩, rfl⟩
theorem Good.addC (g : Good K W S H) {p : Addr} {o : HO} {c : Cell} (n : H p = none) (hc : CellAt K (W.addC p) (upd H p o) p c) : Good K (W.addC p) (S ++ [some c]) (upd H p o) where
  sub := fun a u e => by
    rw [upd_ne (ne_of_none (g.sub a u e) n)]
    exact g.sub a u e
  len := by simp [Wd.addC, g.len]
  cell := fun i c' e => by
    by_cases h : i < S.length
    · rw [List.getElem?_append_left h] at e
      obtain ⟨a, e1, e2, e2', e3⟩ := g.cell i c' e
      obtain ⟨u, e4⟩ := e3.there
      exact ⟨a, (Wd.addC_le W p).get e1, e2, e2', (e3.eqH (upd_ne (ne_of_none e4 n))).mono (Wd.addC_le W p).toLf⟩
    · have hi : i = S.length := by
        have := (List.getElem?_eq_some_iff.mp e).1
        simp at this; omega
      subst hi
      simp at e
      subst e
      exact ⟨p, by simp [Wd.addC, ← g.len], g.free n, g.freeP n, hc⟩
  inj := fun i j a c1 c2 e1 e2 h1 h2 => by
    have old : ∀ {i : Nat} {a : Addr} {c' : Cell}, i < S.length → (S ++ [some c])[i]? = some (some c') → (W.addC p).m[i]? = some a → W.m[i]? = some a ∧ S[i]? = some (some c') ∧ a ≠ p := fun {i a c'} hi e h => by
      rw [List.getElem?_append_left hi] at e
      obtain ⟨a', q1, q2, _, q3⟩ := g.cell i _ e
      have : (W.addC p).m[i]? = some a' := (Wd.addC_le W p).get q1
      rw [h] at this
      cases this
      obtain ⟨u, q4⟩ := q3.there
      exact ⟨q1, e, ne_of_none q4 n⟩
    have last : ∀ {i : Nat} {a : Addr} {c' : Cell}, ¬ i < S.length → (S ++ [some c])[i]? = some (some c') → (W.addC p).m[i]? = some a → i = S.length ∧ a = p := fun {i a c'} hi e h => by
      have hi' : i = S.length := by
        have := (List.getElem?_eq_some_iff.mp e).1
        simp at this; omega
      subst hi'
      refine ⟨rfl, ?_⟩
      simp [Wd.addC, ← g.len] at h
      exact h.symm
    by_cases hi : i < S.length
    · obtain ⟨a1, a2, a3⟩ := old hi e1 h1
      by_cases hj : j < S.length
      · obtain ⟨b1, b2, b3⟩ := old hj e2 h2
        exact g.inj i j a _ _ a2 b2 a1 b1
      · obtain ⟨b1, b2⟩ := last hj e2 h2
        exact absurd b2 a3
    · obtain ⟨a1, a2⟩ := last hi e1 h1
      by_cases hj : j < S.length
      · obtain ⟨b1, b2, b3⟩ := old hj e2 h2
        exact absurd a2 b3
      · obtain ⟨b1, b2⟩ := last hj e2 h2
        rw [a1, b1]
  prv := fun a u e => by
    obtain ⟨h1, h2⟩ := g.prv a u e
    exact ⟨by rw [upd_ne (ne_of_none h1 n)]; exact h1, h2⟩
  ptup := g.ptup
/-- a cell is written -/
theorem Good.put (g : Good K W S H) {i : Nat} {a : Addr} {c c' : Cell} {o : HO} (e : S[i]? = some (some c)) (h : W.m[i]? = some a) (hc : CellAt K W (upd H a o) a c') : Good K W (S.set i (some c')) (upd H a o) := by
  obtain ⟨a', z1, z2, z3, z4⟩ := g.cell i c e
  rw [h] at z1; cases z1
  refine ⟨fun b u q => ?_, by rw [List.length_set]; exact g.len, fun j c1 q => ?_, fun j k b c1 c2 q1 q2 h1 h2 => ?_, fun b u q => ?_, g.ptup⟩
  · have ne : b ≠ a := fun z => by subst z; rw [q] at z2; cases z2
    rw [upd_ne ne]
    exact g.sub b u q
  · by_cases hj : i = j
    · subst hj
      rw [List.getElem?_set_self (List.getElem?_eq_some_iff.mp e).1] at q
      cases q
      exact ⟨a, h, z2, z3, hc⟩
    · rw [List.getElem?_set_ne hj] at q
      obtain ⟨b, q1, q2, q2', q3⟩ := g.cell j c1 q
      have ne : b ≠ a := fun z => by subst z; exact hj (g.inj i j b _ _ e q h q1)
      exact ⟨b, q1, q2, q2', q3.eqH (upd_ne ne)⟩
  · have old : ∀ {j : Nat} {c1 : Cell}, (S.set i (some c'))[j]? = some (some c1) → ∃ c2, S[j]? = some (some c2) := fun {j c1} q => by
      by_cases hj : i = j
      · subst hj; exact ⟨c, e⟩
      · rw [List.getElem?_set_ne hj] at q; exact ⟨_, q⟩
    obtain ⟨d1, p1⟩ := old q1
    obtain ⟨d2, p2⟩ := old q2
    exact g.inj j k b d1 d2 p1 p2 h1 h2
  · have ne : b ≠ a := fun z => by subst z; rw [q] at z3; cases z3
    obtain ⟨h1, h2⟩ := g.prv b u q
    exact ⟨by rw [upd_ne ne]; exact h1, h2⟩
/-- a cell is frozen -/
theorem Good.freeze (g : Good K W S H) {i : Nat} {a : Addr} {c : Cell} {o : HO} (e : S[i]? = some (some c)) (h : W.m[i]? = some a) (ho : H a = some o) : Good K (W.add a o) (S.set i none) H ∧ W.le (W.add a o) := by
  obtain ⟨a', q1, fa, pa, q3⟩ := g.cell i c e
  rw [h] at q1; cases q1
  have le : W.le (W.add a o) := ⟨⟨fun b u q => by
    have ne : b ≠ a := fun z => by subst z; rw [q] at fa; cases fa
    show upd W.F a o b = _
    rw [upd_ne ne]; exact q, rfl, [], by simp [Wd.add]⟩, rfl⟩
  have old : ∀ {j : Nat} {c1 : Cell}, (S.set i none)[j]? = some (some c1) → i ≠ j ∧ S[j]? = some (some c1) := fun {j c1} q => by
    by_cases hj : i = j
    · subst hj
      rw [List.getElem?_set_self (List.getElem?_eq_some_iff.mp e).1] at q
      cases q
    · rw [List.getElem?_set_ne hj] at q; exact ⟨hj, q⟩
  refine ⟨⟨fun b u q => ?_, by rw [List.length_set]; exact g.len, fun j c1 q => ?_, fun j k b c1 c2 q1 q2 h1 h2 => ?_, fun b u q => ?_, g.ptup⟩, le⟩
  · have q' : upd W.F a o b = some u := q
    by_cases hb : b = a
    · subst hb; rw [upd_same] at q'; cases q'; exact ho
    · rw [upd_ne hb] at q'; exact g.sub b u q'
  · obtain ⟨hj, q'⟩ := old q
    obtain ⟨b, p1, p2, p2', p3⟩ := g.cell j c1 q'
    have ne : b ≠ a := fun z => by subst z; exact hj (g.inj i j b _ _ e q' h p1)
    exact ⟨b, p1, by show upd W.F a o b = _; rw [upd_ne ne]; exact p2, p2', p3.mono le.toLf⟩
  · exact g.inj j k b c1 c2 (old q1).2 (old q2).2 h1 h2
  · have ne : b ≠ a := fun z => by subst z; have q' : W.P b = some u := q; rw [q'] at pa; cases pa
    obtain ⟨h1, h2⟩ := g.prv b u q
    exact ⟨h1, by show upd W.F a o b = _; rw [upd_ne ne]; exact h2⟩
/-- something private is laid, or changed -/
def Wd.prv (W : Wd) (p : Addr) (o : HO) : Wd := ⟨W.F, W.m, upd W.P p o, W.sf⟩
theorem Wd.prv_lf (W : Wd) (p : Addr) (o : HO) : W.lf (W.prv p o) := ⟨fun _ _ h => h, rfl, [], by simp [Wd.prv]⟩
theorem Good.toPrv (g : Good K W S H) {p : Addr} {o : HO} (hf : W.F p = none) (hxt : ∀ xs, o ≠ .tup xs) (hm : ∀ (i : Nat) c, S[i]? = some (some c) → W.m[i]? ≠ some p) : Good K (W.prv p o) S (upd H p o) where
  sub := fun a u e => by
    have ne : a ≠ p := fun z => by subst z; have e' : W.F a = some u := e; rw [e'] at hf; cases hf
    rw [upd_ne ne]; exact g.sub a u e
  len := g.len
  cell := fun i c e => by
    obtain ⟨a, e1, e2, e3, e4⟩ := g.cell i c e
    have ne : a ≠ p := fun z => by subst z; exact hm i c e e1
    exact ⟨a, e1, e2, by show upd W.P p o a = _; rw [upd_ne ne]; exact e3, (e4.eqH (upd_ne ne)).mono (W.prv_lf p o)⟩
  inj := g.inj
  prv := fun a u e => by
    have e' : upd W.P p o a = some u := e
    by_cases h : a = p
    · subst h; rw [upd_same] at e'; cases e'; exact ⟨upd_same, hf⟩
    · rw [upd_ne h] at e' ⊢; exact g.prv a u e'
  ptup := fun a xs e => by
    have e' : upd W.P p o a = some (.tup xs) := e
    by_cases h : a = p
    · subst h; rw [upd_same] at e'; cases e'; exact hxt _ rfl
    · rw [upd_ne h] at e'; exact g.ptup a xs e'
theorem Good.newPrv (g : Good K W S H) {p : Addr} {o : HO} (n : H p = none) (hxt : ∀ xs, o ≠ .tup xs := by intro xs z; cases z) : Good K (W.prv p o) S (upd H p o) := g.toPrv (g.free n) hxt fun i c e h => by
  obtain ⟨a, e1, _, _, e4⟩ := g.cell i c e
  rw [h] at e1; cases e1
  obtain ⟨u, q⟩ := e4.there
  rw [n] at q; cases q
theorem Good.updPrv (g : Good K W S H) {p : Addr} {o u : HO} (n : W.P p = some u) (hxt : ∀ xs, o ≠ .tup xs := by intro xs z; cases z) : Good K (W.prv p o) S (upd H p o) := g.toPrv (g.prv p u n).2 hxt fun i c e h => by
  obtain ⟨a, e1, _, e3, _⟩ := g.cell i c e
  rw [h] at e1; cases e1
  rw [n] at e3; cases e3
theorem Good.unPrv_lf (g : Good K W S H) {p : Addr} {o : HO} {P : Hp} (e : W.P = upd P p o) : W.lf ⟨upd W.F p o, W.m, P, W.sf⟩ := ⟨fun b u q => by
    have nb : b ≠ p := fun z => by subst z; rw [(g.prv b _ (by rw [e, upd_same])).2] at q; cases q
    show upd W.F p o b = _; rw [upd_ne nb]; exact q, rfl, [], by simp⟩
/-- what was private is frozen; P: the privacy around it -/
theorem Good.unPrv (g : Good K W S H) {p : Addr} {o : HO} {P : Hp} (e : W.P = upd P p o) (n : P p = none) : Good K ⟨upd W.F p o, W.m, P, W.sf⟩ S H where
  sub := fun a u q => by
    have q' : upd W.F p o a = some u := q
    by_cases h : a = p
    · subst h; rw [upd_same] at q'; cases q'; exact (g.prv a _ (by rw [e, upd_same])).1
    · rw [upd_ne h] at q'; exact g.sub a u q'
  len := g.len
  cell := fun i c q => by
    obtain ⟨a, e1, e2, e3, e4⟩ := g.cell i c q
    have ne : a ≠ p := fun z => by subst z; rw [e, upd_same] at e3; cases e3
    rw [e, upd_ne ne] at e3
    exact ⟨a, e1, by show upd W.F p o a = _; rw [upd_ne ne]; exact e2, e3, e4.mono (g.unPrv_lf e)⟩
  inj := g.inj
  prv := fun a u q => by
    have ne : a ≠ p := fun z => by subst z; have q' : P a = some u := q; rw [q'] at n; cases n
    obtain ⟨h1, h2⟩ := g.prv a u (by rw [e, upd_ne ne]; exact q)
    exact ⟨h1, by show upd W.F p o a = _; rw [upd_ne ne]; exact h2⟩
  ptup := fun a xs q => by
    have q' : P a = some (.tup xs) := q
    have ne : a ≠ p := fun z => by subst z; rw [q'] at n; cases n
    exact g.ptup a xs (by rw [e, upd_ne ne]; exact q')
end

/-- what a slot holds -/
def Slt (K : PySem.W.Frag) (W : Wd) (d : D) (v : V) : Prop := Rep K W d v ∨ (d = .slf ∧ ∃ a, W.sf = some a ∧ v = .ref a)
theorem Slt.mono {K : PySem.W.Frag} {W W' : Wd} {d : D} {v : V} (h : W.lf W') (r : Slt K W d v) : Slt K W' d v := by
  rcases r with r | ⟨e, a, h1, h2⟩
  · exact .inl (r.mono h)
  · exact .inr ⟨e, a, h.sq.trans h1, h2⟩
def REnv (K : PySem.W.Frag) (W : Wd) (δ : En) (σ : St) : Prop := δ.length = σ.length ∧ ∀ (i : Nat) (d : D), δ[i]? = some (some d) → ∃ v, σ[i]? = some (some v) ∧ Slt K W d v
theorem REnv.mono {K : PySem.W.Frag} {W W' : Wd} {δ : En} {σ : St} (h : W.lf W') (r : REnv K W δ σ) : REnv K W' δ σ := ⟨r.1, fun i d e => by
  obtain ⟨v, e1, e2⟩ := r.2 i d e
  exact ⟨v, e1, e2.mono h⟩⟩
theorem REnv.set {K : PySem.W.Frag} {W : Wd} {δ : En} {σ : St} {d : D} {v : V} (r : REnv K W δ σ) (i : Nat) (q : Rep K W d v) : REnv K W (δ.set i (some d)) (σ.set i (some v)) := by
  refine ⟨by simp [r.1], fun j d' e => ?_⟩
  by_cases hj : i = j
  · subst hj
    have hi : i < δ.length := by
      have := (List.getElem?_eq_some_iff.mp e).1
      simpa using this
    rw [List.getElem?_set_self hi] at e
    cases e
    exact ⟨v, List.getElem?_set_self (by rw [← r.1]; exact hi), .inl q⟩
  · rw [List.getElem?_set_ne hj] at e
    obtain ⟨v', e1, e2⟩ := r.2 j d' e
    exact ⟨v', by rw [List.getElem?_set_ne hj]; exact e1, e2⟩

/-- how an exception lies: its class, its own dict -/
def XRep (K : PySem.W.Frag) (W : Wd) (x : Xc) (cls : Value) (d : Option Addr) : Prop :=
  cls = .ref (He.ga K x.cls) ∧ ((x.fs = [] ∧ d = none) ∨ ∃ a vfs, d = some a ∧ W.F a = some (.xd vfs) ∧ vfs.map (·.1) = x.fs.map (·.1) ∧ Reps K W (x.fs.map (·.2)) (vfs.map (·.2)))

def okP {α β : Type} (K : PySem.W.Frag) (R : Wd → α → β → Prop) (W : Wd) (r : Res α) (σ : St) (Wx : WX) (Q : β → Hp → Prop) : Prop := match r with
  | .ok d S' => ∀ W' H' v, W.le W' → Good K W' S' H' → R W' d v → Q v H'
  | .exc x S' => ∀ W' H' cls d, W.le W' → Good K W' S' H' → XRep K W' x cls d → Wx cls d σ H'
  | .bad => False
theorem okP.mono {α β : Type} {K : PySem.W.Frag} {R : Wd → α → β → Prop} {W W1 : Wd} {r : Res α} {σ : St} {Wx : WX} {Q : β → Hp → Prop} (h : W.le W1) (p : okP K R W r σ Wx Q) : okP K R W1 r σ Wx Q := by
  cases r with
  | ok d S' => exact fun W' H' v l => p W' H' v (h.trans l)
  | exc x S' => exact fun W' H' cls d l => p W' H' cls d (h.trans l)
  | bad => exact p
/-- readings of expressions, tests, argument lists -/
def tD (K : PySem.W.Frag) (Wx : WX) (m : ME) : TE := fun σ H Q => ∃ W S δ, Good K W S H ∧ REnv K W δ σ ∧ okP K (Rep K) W (m δ S) σ Wx Q
def tDT (K : PySem.W.Frag) (Wx : WX) (m : MT) : TT := fun σ H Q => ∃ W S δ, Good K W S H ∧ REnv K W δ σ ∧ okP K (fun _ (b c : Bool) => b = c) W (m δ S) σ Wx Q
def tDA (K : PySem.W.Frag) (Wx : WX) (m : MA) : TA := fun σ H Q => ∃ W S δ, Good K W S H ∧ REnv K W δ σ ∧ okP K (Reps K) W (m δ S) σ Wx Q
def flP (K : PySem.W.Frag) (W : Wd) (r : Fl) (Wx : WX) (E : Ends) : Prop := match r with
  | .nx δ S => ∀ W' H' σ, W.le W' → Good K W' S H' → REnv K W' δ σ → E.nx σ H'
  | .rt d S => ∀ W' H' v, W.le W' → Good K W' S H' → Rep K W' d v → E.rt v H'
  | .bk δ S => ∀ W' H' σ, W.le W' → Good K W' S H' → REnv K W' δ σ → E.bk σ H'
  | .ct δ S => ∀ W' H' σ, W.le W' → Good K W' S H' → REnv K W' δ σ → E.ct σ H'
  | .exc x δ S => ∀ W' H' σ cls d, W.le W' → Good K W' S H' → REnv K W' δ σ → XRep K W' x cls d → Wx cls d σ H'
  | .bad => False
theorem flP.mono {K : PySem.W.Frag} {W W1 : Wd} {r : Fl} {Wx : WX} {E : Ends} (h : W.le W1) (p : flP K W r Wx E) : flP K W1 r Wx E := by
  cases r with
  | nx δ S => exact fun W' H' σ l => p W' H' σ (h.trans l)
  | rt d S => exact fun W' H' σ l => p W' H' σ (h.trans l)
  | bk δ S => exact fun W' H' σ l => p W' H' σ (h.trans l)
  | ct δ S => exact fun W' H' σ l => p W' H' σ (h.trans l)
  | exc x δ S => exact fun W' H' σ cls d l => p W' H' σ cls d (h.trans l)
  | bad => exact p
def tDS (K : PySem.W.Frag) (Wx : WX) (m : MS) : TS := fun E σ H => ∃ W S δ, Good K W S H ∧ REnv K W δ σ ∧ flP K W (m δ S) Wx E

theorem PE.imp {X : Cx} {e : Expr} {t t' : TE} (p : PE X e t) (h : ∀ σ H Q, t' σ H Q → t σ H Q) : PE X e t' := ⟨fun pins s σ H Q I q => p.run pins s σ H Q I (h σ H Q q)⟩
theorem PT.imp {X : Cx} {e : Expr} {t t' : TT} (p : PT X e t) (h : ∀ σ H Q, t' σ H Q → t σ H Q) : PT X e t' := ⟨fun pins s σ H Q I q => p.run pins s σ H Q I (h σ H Q q)⟩
theorem PW.imp {X : Cx} {e : Expr} {t t' : TT} (p : PW X e t) (h : ∀ σ H Q, t' σ H Q → t σ H Q) : PW X e t' := ⟨fun w pins s σ H Q I q => p.run w pins s σ H Q I (h σ H Q q)⟩
theorem PA.imp {X : Cx} {e : List Expr} {t t' : TA} (p : PA X e t) (h : ∀ σ H Q, t' σ H Q → t σ H Q) : PA X e t' := ⟨fun pos pins s σ H Q I q => p.run pos pins s σ H Q I (h σ H Q q)⟩
theorem PS.imp {X : Cx} {e : Stmt} {t t' : TS} (p : PS X e t) (h : ∀ D σ H, t' D σ H → t D σ H) : PS X e t' := ⟨fun pins s σ H D I q => p.run pins s σ H D I (h D σ H q)⟩
theorem PSs.imp {X : Cx} {e : List Stmt} {t t' : TS} (p : PSs X e t) (h : ∀ D σ H, t' D σ H → t D σ H) : PSs X e t' := ⟨fun pins s σ H D I q => p.run pins s σ H D I (h D σ H q)⟩
theorem PG.imp {X : Cx} {e : Expr} {t t' : TG} (p : PG X e t) (h : ∀ v σ H Q, t' v σ H Q → t v σ H Q) : PG X e t' := ⟨fun pins s σ H v u Q I r q => p.run pins s σ H v u Q I r (h v σ H Q q)⟩
end Ev
namespace Ev
open PySem L2

theorem okP.imp {α β : Type} {K : PySem.W.Frag} {R : Wd → α → β → Prop} {W : Wd} {r : Res α} {σ : St} {Wx : WX} {Q Q' : β → Hp → Prop} (p : okP K R W r σ Wx Q) (h : ∀ v H, Q v H → Q' v H) : okP K R W r σ Wx Q' := by
  cases r with
  | ok d S' => exact fun W' H' v l g r => h _ _ (p W' H' v l g r)
  | exc x S' => exact p
  | bad => exact p
theorem okP.bind {α β γ ε : Type} {K : PySem.W.Frag} {R : Wd → α → β → Prop} {R' : Wd → γ → ε → Prop} {W : Wd} {m : M α} {f : α → M γ} {S : Store} {σ : St} {Wx : WX} {Q : ε → Hp → Prop}
    (h : okP K R' W (M.bind m f S) σ Wx Q) : okP K R W (m S) σ Wx (fun v H' => ∃ W' S' a, W.le W' ∧ Good K W' S' H' ∧ R W' a v ∧ okP K R' W' (f a S') σ Wx Q) := by
  unfold M.bind at h
  cases e : m S with
  | ok a S' =>
    rw [e] at h
    exact fun W' H' v l g r => ⟨W', S', a, l, g, r, h.mono l⟩
  | exc x S' =>
    rw [e] at h
    exact h
  | bad =>
    rw [e] at h
    exact h
theorem okP.pure {α β : Type} {K : PySem.W.Frag} {R : Wd → α → β → Prop} {W : Wd} {a : α} {S : Store} {σ : St} {Wx : WX} {Q : β → Hp → Prop} {H : Hp} {v : β} (h : okP K R W (M.pure a S) σ Wx Q) (g : Good K W S H) (r : R W a v) : Q v H := h W H v W.le_refl g r

/-- a primitive operation: no exception -/
abbrev PO := Store → Option (D × Store)
def lft (p : PO) : M D := fun S => match p S with
  | some (d, S') => .ok d S'
  | none => .bad
def oV (K : PySem.W.Frag) (W : Wd) (r : Option (D × Store)) (Q : VK) : Prop := match r with
  | some (d, S') => ∀ W' H' v, W.le W' → Good K W' S' H' → Rep K W' d v → Q v H'
  | none => False
theorem okP.lft {K : PySem.W.Frag} {W : Wd} {p : PO} {S : Store} {σ : St} {Wx : WX} {Q : VK} (h : okP K (Rep K) W (lft p S) σ Wx Q) : oV K W (p S) Q := by
  unfold Ev.lft at h
  cases e : p S with
  | none =>
    rw [e] at h
    exact h
  | some r =>
    rw [e] at h
    exact h
theorem oV.val {K : PySem.W.Frag} {W : Wd} {S : Store} {d : D} {Q : VK} {H : Hp} {v : V} (h : oV K W (some (d, S)) Q) (g : Good K W S H) (r : Rep K W d v) : Q v H := h W H v W.le_refl g r
/-- a new frozen object -/
theorem oV.new {K : PySem.W.Frag} {W : Wd} {S : Store} {d : D} {Q : VK} {H : Hp} {p : Addr} {o : HO} (h : oV K W (some (d, S)) Q) (g : Good K W S H) (n : H p = none) (r : Rep K (W.add p o) d (.ref p)) : Q (.ref p) (upd H p o) :=
  h _ _ _ (g.add_le n) (g.add n) r

def rD2 (K : PySem.W.Frag) (f : D → D → PO) : R2 := fun x y H Q => ∃ W S dx dy, Good K W S H ∧ Rep K W dx x ∧ Rep K W dy y ∧ oV K W (f dx dy S) Q
def rDC (K : PySem.W.Frag) (f : List D → PO) : List V → Hp → VK → Prop := fun xs H Q => ∃ W S ds, Good K W S H ∧ Reps K W ds xs ∧ oV K W (f ds S) Q

section
variable {X : Cx} {Wx : WX} {a b c e : Expr} {ma mb mc m : ME} {pos : Pos}
abbrev SE (X : Cx) (Wx : WX) (e : Expr) (m : ME) : Prop := PE X e (tD X.K Wx m)
abbrev ST (X : Cx) (Wx : WX) (e : Expr) (m : MT) : Prop := PT X e (tDT X.K Wx m)
abbrev SW (X : Cx) (Wx : WX) (e : Expr) (m : MT) : Prop := PW X e (tDT X.K Wx m)
abbrev SA (X : Cx) (Wx : WX) (e : List Expr) (m : MA) : Prop := PA X e (tDA X.K Wx m)
abbrev SS (X : Cx) (Wx : WX) (e : Stmt) (m : MS) : Prop := PS X e (tDS X.K Wx m)
abbrev SB (X : Cx) (Wx : WX) (e : List Stmt) (m : MS) : Prop := PSs X e (tDS X.K Wx m)

theorem ss_bad {st : Stmt} : SS X Wx st (fun _ _ => .bad) := ⟨fun _ _ _ _ _ _ h => by obtain ⟨_, _, _, _, _, z⟩ := h; exact z.elim⟩
def eVar (i : Nat) : ME := fun δ => match δ[i]? with
  | some (some .slf) => M.bad
  | some (some d) => M.pure d
  | _ => M.bad
theorem se_var {i : Nat} {x : Str} (hN : X.N[i]? = some x) (hv : Vis X.env.scope x) (hd : (x == ("__debug__" : Str)) = false) (hcd : (x == ("__classdict__" : Str)) = false) : SE X Wx (.Name x pos) (eVar i) :=
  PE.imp (pe_var hN hv hd hcd) fun σ H Q ⟨W, S, δ, g, r, p⟩ => by
    unfold eVar at p
    cases q : δ[i]? with
    | none => rw [q] at p; exact p.elim
    | some o =>
      cases o with
      | none => rw [q] at p; exact p.elim
      | some d =>
        rw [q] at p
        obtain ⟨v, e1, e2⟩ := r.2 i d q
        rcases e2 with e2 | ⟨rfl, _⟩
        · exact ⟨v, e1, okP.pure (a := d) (by cases d <;> first | exact p | exact p.elim) g e2⟩
        · exact p.elim
def eC (d : D) : ME := fun _ => M.pure d
theorem se_c {d : D} {v : V} (h : PE X e (tC v)) (r : ∀ W, Rep X.K W d v) : SE X Wx e (eC d) := PE.imp h fun σ H Q ⟨W, S, δ, g, q, p⟩ => okP.pure p g (r W)
theorem se_int {i j} : SE X Wx (.Constant (.int i) j pos) (eC (.int i)) := se_c pe_int fun _ => .int i
theorem se_bl {i j} : SE X Wx (.Constant (.bool i) j pos) (eC (.bl i)) := se_c pe_bl fun _ => .bl i
theorem se_non {j} : SE X Wx (.Constant .none j pos) (eC .non) := se_c pe_non fun _ => .non
theorem se_str {i j} : SE X Wx (.Constant (.str i) j pos) (eC (.str i)) := se_c pe_str fun _ => .str i

def eOp (f : D → D → PO) (ma mb : ME) : ME := fun δ => M.bind (ma δ) fun x => M.bind (mb δ) fun y => lft (f x y)
theorem tOp_of {f : D → D → PO} (σ : St) (H : Hp) (Q : VK) (h : tD X.K Wx (eOp f ma mb) σ H Q) : tOp (rD2 X.K f) (tD X.K Wx ma) (tD X.K Wx mb) σ H Q := by
  obtain ⟨W, S, δ, g, r, p⟩ := h
  refine ⟨W, S, δ, g, r, p.bind.imp fun v H1 ⟨W1, S1, x, l1, g1, r1, p1⟩ => ⟨W1, S1, δ, g1, r.mono l1, p1.bind.imp fun v2 H2 ⟨W2, S2, y, l2, g2, r2, p2⟩ => ⟨W2, S2, x, y, g2, r1.mono l2, r2, p2.lft⟩⟩⟩
theorem se_op {op : Operator} {f : D → D → PO} (ho : OpR X (binaryOp op) (rD2 X.K f)) (ha : SE X Wx a ma) (hb : SE X Wx b mb) : SE X Wx (.BinOp a op b pos) (eOp f ma mb) := PE.imp (pe_op ho ha hb) tOp_of
theorem se_cmp {op : CmpOp} {f : D → D → PO} (ho : OpR X (compareOp op) (rD2 X.K f)) (ha : SE X Wx a ma) (hb : SE X Wx b mb) (hm : behindInMarks op b = false) : SE X Wx (.Compare a [op] [b] pos) (eOp f ma mb) := PE.imp (pe_cmpR ho ha hb hm) tOp_of
/-- a value that is a truth -/
def asB (m : M D) : M Bool := M.bind m fun d => match d with
  | .bl b => M.pure b
  | _ => M.bad
theorem okP.asB {K : PySem.W.Frag} {W : Wd} {S : Store} {m : M D} {σ : St} {Q : Bool → Hp → Prop} (h : okP K (fun _ (b c : Bool) => b = c) W (asB m S) σ Wx Q) : okP K (Rep K) W (m S) σ Wx (fun v H' => ∃ k, v = .bl k ∧ Q k H') :=
  (okP.bind (R := Rep K) h).imp fun v H1 ⟨W1, S1, d, l1, g1, r1, p1⟩ => by
    cases r1 with
    | bl b => exact ⟨b, rfl, okP.pure p1 g1 rfl⟩
    | _ => exact p1.elim
theorem okP.assoc {α β γ δ' : Type} {K : PySem.W.Frag} {R : Wd → γ → δ' → Prop} {W : Wd} {S : Store} {m : M α} {f : α → M β} {g : β → M γ} {σ : St} {Q : δ' → Hp → Prop} (h : okP K R W (M.bind (M.bind m f) g S) σ Wx Q) : okP K R W (M.bind m (fun a => M.bind (f a) g) S) σ Wx Q := by
  unfold M.bind at h ⊢
  cases e : m S with
  | ok a S' => rw [e] at h; exact h
  | exc x S' => rw [e] at h; exact h
  | bad => rw [e] at h; exact h
theorem st_cmp {op : CmpOp} {f : D → D → PO} (ho : OpR X (compareOp op) (rD2 X.K f)) (ha : SE X Wx a ma) (hb : SE X Wx b mb) (hm : behindInMarks op b = false) : ST X Wx (.Compare a [op] [b] pos) (fun δ => asB (eOp f ma mb δ)) :=
  PT.imp (pt_cmpR ho ha hb hm) fun σ H Q ⟨W, S, δ, g, r, p⟩ => tOp_of σ H _ ⟨W, S, δ, g, r, p.asB⟩

def eChain (f f' : D → D → PO) (ma mb mc : ME) : ME := fun δ => M.bind (ma δ) fun x => M.bind (mb δ) fun y => M.bind (lft (f x y)) fun z => match z with
  | .bl true => M.bind (mc δ) fun w => lft (f' y w)
  | .bl false => M.pure (.bl false)
  | _ => M.bad
theorem tChain_of {f f' : D → D → PO} (σ : St) (H : Hp) (Q : VK) (h : tD X.K Wx (eChain f f' ma mb mc) σ H Q) : tChain (rD2 X.K f) (rD2 X.K f') (tD X.K Wx ma) (tD X.K Wx mb) (tD X.K Wx mc) σ H Q := by
  obtain ⟨W, S, δ, g, r, p⟩ := h
  refine ⟨W, S, δ, g, r, p.bind.imp fun v H1 ⟨W1, S1, x, l1, g1, r1, p1⟩ => ⟨W1, S1, δ, g1, r.mono l1, p1.bind.imp fun v2 H2 ⟨W2, S2, y, l2, g2, r2, p2⟩ => ⟨W2, S2, x, y, g2, r1.mono l2, r2, ?_⟩⟩⟩
  have p3 := (okP.bind (R := Rep X.K) p2).lft
  cases e : f x y S2 with
  | none => rw [e] at p3; exact p3
  | some q =>
    obtain ⟨d, S3⟩ := q
    rw [e] at p3
    intro W3 H3 v3 l3 g3 r3
    obtain ⟨W4, S4, d4, l4, g4, r4, p4⟩ := p3 W3 H3 v3 l3 g3 r3
    cases r4 with
    | bl k =>
      refine ⟨k, rfl, ?_⟩
      cases k with
      | false =>
        rw [if_neg Bool.false_ne_true]
        exact okP.pure p4 g4 (.bl false)
      | true =>
        rw [if_pos rfl]
        have l04 := (l1.trans l2).trans l4
        refine ⟨W4, S4, δ, g4, r.mono l04, (okP.bind (R := Rep X.K) p4).imp fun v5 H5 ⟨W5, S5, d5, l5, g5, r5, p5⟩ => ⟨W5, S5, y, d5, g5, r2.mono (l4.trans l5), r5, p5.lft⟩⟩
    | _ => exact p4.elim
theorem reps_ints {K : PySem.W.Frag} {W : Wd} : ∀ ns : List Int, Reps K W (ns.map D.int) (ns.map V.int)
  | [] => .nil
  | n :: ns => .cons (.int n) (reps_ints ns)
/-- the items of a list that may be changed or added to another -/
def plstOf (S : Store) (d : D) : Option (List D) := match d with
  | .lst ds => some ds
  | .ref i => (match S[i]? with
    | some (some (.lst ds)) => some ds
    | _ => none)
  | _ => none
theorem plstOf_ok {K : PySem.W.Frag} {W : Wd} {S : Store} {H : Hp} {d : D} {v : V} {ds : List D} (e : plstOf S d = some ds) (g : Good K W S H) (r : Rep K W d v) : ∃ a vs, v = .ref a ∧ H a = some (.lst vs) ∧ Reps K W ds vs := by
  cases r with
  | lst q r =>
    cases e
    exact ⟨_, _, rfl, g.sub _ _ q, r⟩
  | @ref i a h =>
    simp only [plstOf] at e
    split at e
    · rename_i c hc
      cases e
      obtain ⟨a', e1, e2, _, vs, e3, e4⟩ := g.cell i _ hc
      rw [h] at e1; cases e1
      exact ⟨a, vs, rfl, e3, e4⟩
    · cases e
  | _ => cases e
def lstOf (S : Store) (d : D) : Option (List D) := match d with
  | .lst ds => some ds
  | .scr ns => some (ns.map D.int)
  | .ref i => (match S[i]? with
    | some (some (.lst ds)) => some ds
    | _ => none)
  | _ => none
theorem lstOf_ok {K : PySem.W.Frag} {W : Wd} {S : Store} {H : Hp} {d : D} {v : V} {ds : List D} (e : lstOf S d = some ds) (g : Good K W S H) (r : Rep K W d v) : ∃ a vs, v = .ref a ∧ SqL K H a vs ∧ Reps K W ds vs := by
  cases r with
  | lst q r =>
    cases e
    exact ⟨_, _, rfl, SqL.of (g.sub _ _ q), r⟩
  | scr q =>
    cases e
    exact ⟨_, _, rfl, g.sqL q, reps_ints _⟩
  | @ref i a h =>
    simp only [lstOf] at e
    split at e
    · rename_i c hc
      cases e
      obtain ⟨a', e1, e2, _, vs, e3, e4⟩ := g.cell i _ hc
      rw [h] at e1; cases e1
      exact ⟨a, vs, rfl, SqL.of e3, e4⟩
    · cases e
  | _ => cases e
/-- the items of a list, a tuple, a list cell -/
def seqOf (S : Store) (d : D) : Option (List D) := match d with
  | .tup ds => some ds
  | d => lstOf S d
theorem seqOf_ok {K : PySem.W.Frag} {W : Wd} {S : Store} {H : Hp} {d : D} {v : V} {ds : List D} (e : seqOf S d = some ds) (g : Good K W S H) (r : Rep K W d v) : ∃ a vs, v = .ref a ∧ (SqL K H a vs ∨ SqT K H a vs) ∧ Reps K W ds vs := by
  cases d with
  | tup xs =>
    cases r with
    | tup q r =>
      cases e
      exact ⟨_, _, rfl, .inr (g.sqT q), r⟩
  | lst xs => obtain ⟨a, vs, h1, h2, h3⟩ := lstOf_ok (show lstOf S (.lst xs) = some ds from e) g r; exact ⟨a, vs, h1, .inl h2, h3⟩
  | ref i => obtain ⟨a, vs, h1, h2, h3⟩ := lstOf_ok (show lstOf S (.ref i) = some ds from e) g r; exact ⟨a, vs, h1, .inl h2, h3⟩
  | scr ns => obtain ⟨a, vs, h1, h2, h3⟩ := lstOf_ok (show lstOf S (.scr ns) = some ds from e) g r; exact ⟨a, vs, h1, .inl h2, h3⟩
  | _ => cases e
def truD (S : Store) : D → Option Bool
  | .non => some false
  | .bl b => some b
  | .int i => some (i != 0)
  | .str x => if x.length ≤ sizeLine then some ((x.length : Int) != 0) else none
  | d => (seqOf S d).map fun ds => !ds.isEmpty
theorem reps_empty {K : PySem.W.Frag} {W : Wd} {ds : List D} {vs : List V} (r : Reps K W ds vs) : ds.isEmpty = vs.isEmpty := by
  cases r <;> rfl
theorem truD_ok {K : PySem.W.Frag} {W : Wd} {S : Store} {H : Hp} {d : D} {v : V} {k : Bool} (e : truD S d = some k) (g : Good K W S H) (r : Rep K W d v) : TruV K v H k := by
  have seq : ∀ {d : D}, (seqOf S d).map (fun ds => !ds.isEmpty) = some k → Rep K W d v → TruV K v H k := fun {d} e r => by
    obtain ⟨ds, e1, e2⟩ := Option.map_eq_some_iff.mp e
    obtain ⟨a, vs, rfl, h2, h3⟩ := seqOf_ok e1 g r
    rcases h2 with h2 | h2
    · exact .inl ⟨vs, h2, by rw [← reps_empty h3]; exact e2.symm⟩
    · exact .inr (.inl ⟨vs, h2, by rw [← reps_empty h3]; exact e2.symm⟩)
  cases r with
  | non => cases e; rfl
  | bl b => cases e; rfl
  | int i => cases e; rfl
  | str x =>
    simp only [truD] at e
    split at e
    · cases e; exact ⟨by assumption, rfl⟩
    · cases e
  | tup q r => exact seq (by rw [← e]; rfl) (.tup q r)
  | lst q r => exact seq (by rw [← e]; rfl) (.lst q r)
  | ref h => exact seq (by rw [← e]; rfl) (.ref h)
  | ins h1 h2 h3 => cases e
  | fn x => cases e
  | dic _ _ _ => cases e
  | exn0 => cases e
  | exn1 _ _ _ => cases e
  | lam _ _ => cases e
  | scr h => exact seq (by rw [← e]; rfl) (.scr h)
/-- a value's truth -/
def tru (m : M D) : M Bool := M.bind m fun d S => match truD S d with
  | some b => .ok b S
  | none => .bad
theorem okP.tru {K : PySem.W.Frag} {W : Wd} {S : Store} {m : M D} {σ : St} {Q : Bool → Hp → Prop} (h : okP K (fun _ (b c : Bool) => b = c) W (tru m S) σ Wx Q) : okP K (Rep K) W (m S) σ Wx (fun v H' => ∃ k, TruV K v H' k ∧ Q k H') :=
  (okP.bind (R := Rep K) h).imp fun v H1 ⟨W1, S1, d, l1, g1, r1, p1⟩ => by
    cases e : truD S1 d with
    | none => rw [e] at p1; exact p1.elim
    | some k => rw [e] at p1; exact ⟨k, truD_ok e g1 r1, p1 W1 H1 k W1.le_refl g1 rfl⟩
theorem st_truth (ha : SE X Wx a ma) (he : ∀ whole, isTrue a X.env whole = (do let v ← whole; standAt a.pos; holding [v] (truthy v))) : ST X Wx a (fun δ => tru (ma δ)) :=
  PT.imp (pt_truth ha he) fun σ H Q ⟨W, S, δ, g, r, p⟩ => ⟨W, S, δ, g, r, p.tru⟩
theorem st_chain {op op' : CmpOp} {f f' : D → D → PO} (ho : OpR X (compareOp op) (rD2 X.K f)) (ho' : OpR X (compareOp op') (rD2 X.K f')) (ha : SE X Wx a ma) (hb : SE X Wx b mb) (hc : SE X Wx c mc) (hm : lastMarks [op, op'] [b, c] = false) : ST X Wx (.Compare a [op, op'] [b, c] pos) (fun δ => asB (eChain f f' ma mb mc δ)) :=
  PT.imp (pt_chain ho ho' ha hb hc hm) fun σ H Q ⟨W, S, δ, g, r, p⟩ => tChain_of σ H _ ⟨W, S, δ, g, r, p.asB⟩
theorem se_chain {op op' : CmpOp} {f f' : D → D → PO} (ho : OpR X (compareOp op) (rD2 X.K f)) (ho' : OpR X (compareOp op') (rD2 X.K f')) (ha : SE X Wx a ma) (hb : SE X Wx b mb) (hc : SE X Wx c mc) (hm : lastMarks [op, op'] [b, c] = false) : SE X Wx (.Compare a [op, op'] [b, c] pos) (eChain f f' ma mb mc) :=
  PE.imp (pe_chain ho ho' ha hb hc hm) tChain_of
end
end Ev
namespace Ev
open PySem L2
section
variable {X : Cx} {Wx : WX} {a b c e : Expr} {ma mb mc m : ME} {pos : Pos} {rest : List Expr}

def eAnd (ma mb : ME) : ME := fun δ => M.bind (ma δ) fun x S => match truD S x with
  | some true => mb δ S
  | some false => .ok x S
  | none => .bad
def eOr (ma mb : ME) : ME := fun δ => M.bind (ma δ) fun x S => match truD S x with
  | some true => .ok x S
  | some false => mb δ S
  | none => .bad
theorem se_and (ha : SE X Wx a ma) (hb : SE X Wx (.BoolOp .And (b :: rest) pos) mb) : SE X Wx (.BoolOp .And (a :: b :: rest) pos) (eAnd ma mb) :=
  PE.imp (pe_andT ha hb) fun σ H Q ⟨W, S, δ, g, r, p⟩ => ⟨W, S, δ, g, r, (okP.bind (R := Rep X.K) p).imp fun v H1 ⟨W1, S1, x, l1, g1, r1, p1⟩ => by
    cases e : truD S1 x with
    | none => rw [e] at p1; exact p1.elim
    | some k =>
      rw [e] at p1
      refine ⟨k, truD_ok e g1 r1, ?_⟩
      cases k with
      | true => rw [if_pos rfl]; exact ⟨W1, S1, δ, g1, r.mono l1, p1⟩
      | false => rw [if_neg Bool.false_ne_true]; exact p1 W1 H1 v W1.le_refl g1 r1⟩
def eNot (ma : ME) : ME := fun δ => M.bind (tru (ma δ)) fun k => M.pure (.bl (!k))
variable {ta tb tc : MT}
def tAndM (ta tb : MT) : MT := fun δ => M.bind (ta δ) fun c => cond c (tb δ) (M.pure false)
def tOrM (ta tb : MT) : MT := fun δ => M.bind (ta δ) fun c => cond c (M.pure true) (tb δ)
def tNotM (ta : MT) : MT := fun δ => M.bind (ta δ) fun c => M.pure (!c)
theorem sw_and1 (ha : ST X Wx a ta) : SW X Wx (.BoolOp .And [a] pos) ta := pw_and1 ha
theorem sw_or1 (ha : ST X Wx a ta) : SW X Wx (.BoolOp .Or [a] pos) ta := pw_or1 ha
theorem sw_and (ha : ST X Wx a ta) (hb : SW X Wx (.BoolOp .And (b :: rest) pos) tb) : SW X Wx (.BoolOp .And (a :: b :: rest) pos) (tAndM ta tb) :=
  PW.imp (pw_and ha hb) fun σ H Q ⟨W, S, δ, g, r, p⟩ => ⟨W, S, δ, g, r, (okP.bind (R := fun _ (b c : Bool) => b = c) p).imp fun v H1 ⟨W1, S1, k, l1, g1, ek, p1⟩ => by
    subst ek
    cases k with
    | true => rw [if_pos rfl]; exact ⟨W1, S1, δ, g1, r.mono l1, p1⟩
    | false => rw [if_neg Bool.false_ne_true]; exact okP.pure p1 g1 rfl⟩
theorem sw_or (ha : ST X Wx a ta) (hb : SW X Wx (.BoolOp .Or (b :: rest) pos) tb) : SW X Wx (.BoolOp .Or (a :: b :: rest) pos) (tOrM ta tb) :=
  PW.imp (pw_or ha hb) fun σ H Q ⟨W, S, δ, g, r, p⟩ => ⟨W, S, δ, g, r, (okP.bind (R := fun _ (b c : Bool) => b = c) p).imp fun v H1 ⟨W1, S1, k, l1, g1, ek, p1⟩ => by
    subst ek
    cases k with
    | false => rw [if_neg Bool.false_ne_true]; exact ⟨W1, S1, δ, g1, r.mono l1, p1⟩
    | true => rw [if_pos rfl]; exact okP.pure p1 g1 rfl⟩
theorem st_not (ha : ST X Wx a ta) : ST X Wx (.UnaryOp .Not a pos) (tNotM ta) :=
  PT.imp (pt_not ha) fun σ H Q ⟨W, S, δ, g, r, p⟩ => ⟨W, S, δ, g, r, (okP.bind (R := fun _ (b c : Bool) => b = c) p).imp fun v H1 ⟨W1, S1, k, l1, g1, ek, p1⟩ => by
    subst ek
    exact okP.pure p1 g1 rfl⟩
def eIf (tc : MT) (ma mb : ME) : ME := fun δ => M.bind (tc δ) fun k => cond k (ma δ) (mb δ)
theorem se_if (hc : ST X Wx c tc) (ha : SE X Wx a ma) (hb : SE X Wx b mb) : SE X Wx (.IfExp c a b pos) (eIf tc ma mb) :=
  PE.imp (pe_ifExp hc ha hb) fun σ H Q ⟨W, S, δ, g, r, p⟩ => ⟨W, S, δ, g, r, (okP.bind (R := fun _ (b c : Bool) => b = c) p).imp fun v H1 ⟨W1, S1, k, l1, g1, ek, p1⟩ => by
    subst ek
    cases k with
    | true => rw [if_pos rfl]; exact ⟨W1, S1, δ, g1, r.mono l1, p1⟩
    | false => rw [if_neg Bool.false_ne_true]; exact ⟨W1, S1, δ, g1, r.mono l1, p1⟩⟩
def eUn (f : D → PO) (ma : ME) : ME := fun δ => M.bind (ma δ) fun x => lft (f x)
variable {es : List Expr} {mas : MA}
def aNil : MA := fun _ => M.pure []
def aCons (ma : ME) (mas : MA) : MA := fun δ => M.bind (ma δ) fun x => M.bind (mas δ) fun xs => M.pure (x :: xs)
def aStar (ma : ME) (mas : MA) : MA := fun δ => M.bind (ma δ) fun x S => match seqOf S x with
  | some xs => M.bind (mas δ) (fun ys => M.pure (xs ++ ys)) S
  | none => .bad
theorem sa_nil : SA X Wx [] aNil := PA.imp pa_nil fun σ H Q ⟨W, S, δ, g, r, p⟩ => okP.pure p g .nil
theorem sa_cons (ha : SE X Wx e ma) (hr : SA X Wx es mas) (hs : starEach (e :: es) X.env = (false, eval e X.env) :: starEach es X.env) : SA X Wx (e :: es) (aCons ma mas) :=
  PA.imp (pa_cons ha hr hs) fun σ H Q ⟨W, S, δ, g, r, p⟩ => ⟨W, S, δ, g, r, (okP.bind (R := Rep X.K) p).imp fun v H1 ⟨W1, S1, x, l1, g1, r1, p1⟩ =>
    ⟨W1, S1, δ, g1, r.mono l1, (okP.bind (R := Reps X.K) p1).imp fun vs H2 ⟨W2, S2, xs, l2, g2, r2, p2⟩ => okP.pure p2 g2 (.cons (r1.mono l2) r2)⟩⟩
/-- a new frozen list, tuple; a new list cell -/
def newT (xs : List D) : PO := fun S => if xs.length ≤ sizeLine then some (.tup xs, S) else none
def newL (xs : List D) : PO := fun S => if xs.length ≤ sizeLine then some (.lst xs, S) else none
def newC (xs : List D) : PO := fun S => if xs.length ≤ sizeLine then some (.ref S.length, S ++ [some (.lst xs)]) else none
theorem newT_ok {K : PySem.W.Frag} {W : Wd} {S : Store} {H : Hp} {xs : List D} {vs : List V} {Q : VK} (p : oV K W (newT xs S) Q) (g : Good K W S H) (r : Reps K W xs vs) : vs.length ≤ sizeLine ∧ ∀ a, H a = none → Q (.ref a) (upd H a (.tup vs)) := by
  unfold newT at p
  split at p
  · rename_i hl
    exact ⟨by rw [← r.length]; exact hl, fun a n => p.new g n (.tup (SqT.of upd_same) (r.mono (g.add_le n).toLf))⟩
  · exact p.elim
theorem newL_ok {K : PySem.W.Frag} {W : Wd} {S : Store} {H : Hp} {xs : List D} {vs : List V} {Q : VK} (p : oV K W (newL xs S) Q) (g : Good K W S H) (r : Reps K W xs vs) : vs.length ≤ sizeLine ∧ ∀ a, H a = none → Q (.ref a) (upd H a (.lst vs)) := by
  unfold newL at p
  split at p
  · rename_i hl
    exact ⟨by rw [← r.length]; exact hl, fun a n => p.new g n (.lst upd_same (r.mono (g.add_le n).toLf))⟩
  · exact p.elim
theorem newC_ok {K : PySem.W.Frag} {W : Wd} {S : Store} {H : Hp} {xs : List D} {vs : List V} {Q : VK} (p : oV K W (newC xs S) Q) (g : Good K W S H) (r : Reps K W xs vs) : vs.length ≤ sizeLine ∧ ∀ a, H a = none → Q (.ref a) (upd H a (.lst vs)) := by
  unfold newC at p
  split at p
  · rename_i hl
    refine ⟨by rw [← r.length]; exact hl, fun a n => p _ _ _ (Wd.addC_le W a) (g.addC n ⟨vs, upd_same, r.mono (Wd.addC_le W a)⟩) (.ref ?_)⟩
    simp [Wd.addC, ← g.len]
  · exact p.elim
def eTup (mas : MA) : ME := fun δ => M.bind (mas δ) fun xs => lft (newT xs)
def eLst (mas : MA) : ME := fun δ => M.bind (mas δ) fun xs => lft (newL xs)
def eLstC (mas : MA) : ME := fun δ => M.bind (mas δ) fun xs => lft (newC xs)
theorem se_tup {k : Nat} (h : SA X Wx es mas) : SE X Wx (.Tuple es k pos) (eTup mas) :=
  PE.imp (pe_tup h) fun σ H Q ⟨W, S, δ, g, r, p⟩ => ⟨W, S, δ, g, r, (okP.bind (R := Reps X.K) p).imp fun vs H1 ⟨W1, S1, xs, l1, g1, r1, p1⟩ => newT_ok p1.lft g1 r1⟩
theorem se_lst (h : SA X Wx es mas) : SE X Wx (.List es pos) (eLst mas) :=
  PE.imp (pe_lst h) fun σ H Q ⟨W, S, δ, g, r, p⟩ => ⟨W, S, δ, g, r, (okP.bind (R := Reps X.K) p).imp fun vs H1 ⟨W1, S1, xs, l1, g1, r1, p1⟩ => newL_ok p1.lft g1 r1⟩
theorem se_lstC (h : SA X Wx es mas) : SE X Wx (.List es pos) (eLstC mas) :=
  PE.imp (pe_lst h) fun σ H Q ⟨W, S, δ, g, r, p⟩ => ⟨W, S, δ, g, r, (okP.bind (R := Reps X.K) p).imp fun vs H1 ⟨W1, S1, xs, l1, g1, r1, p1⟩ => newC_ok p1.lft g1 r1⟩

def eCallV (f : List D → PO) (mas : MA) : ME := fun δ => M.bind (mas δ) fun xs => lft (f xs)
theorem tCB_of {f : List D → PO} (σ : St) (H : Hp) (Q : VK) (h : tD X.K Wx (eCallV f mas) σ H Q) : tCB (rDC X.K f) (tDA X.K Wx mas) σ H Q := by
  obtain ⟨W, S, δ, g, r, p⟩ := h
  exact ⟨W, S, δ, g, r, (okP.bind (R := Reps X.K) p).imp fun vs H1 ⟨W1, S1, xs, l1, g1, r1, p1⟩ => ⟨W1, S1, xs, g1, r1, p1.lft⟩⟩

variable {st : Stmt} {sts : List Stmt} {ms mt : MS}
def sNext : MS := fun δ S => .nx δ S
def sSeq (ms mt : MS) : MS := fun δ S => match ms δ S with
  | .nx δ' S' => mt δ' S'
  | r => r
theorem sb_nil : SB X Wx [] sNext := PSs.imp pss_nil fun D σ H ⟨W, S, δ, g, r, p⟩ => p W H σ W.le_refl g r
theorem flP_seq {K : PySem.W.Frag} {W : Wd} {δ : En} {S : Store} {D : Ends} (p : flP K W (sSeq ms mt δ S) Wx D) : flP K W (ms δ S) Wx { D with nx := tDS K Wx mt D } := by
  unfold sSeq at p
  cases e : ms δ S with
  | nx δ' S' =>
    rw [e] at p
    exact fun W' H' σ' l g' r' => ⟨W', S', δ', g', r', p.mono l⟩
  | rt d S' => rw [e] at p; exact p
  | bk δ' S' => rw [e] at p; exact p
  | ct δ' S' => rw [e] at p; exact p
  | exc x δ' S' => rw [e] at p; exact p
  | bad => rw [e] at p; exact p
theorem sb_cons (h1 : SS X Wx st ms) (h2 : SB X Wx sts mt) : SB X Wx (st :: sts) (sSeq ms mt) :=
  PSs.imp (pss_cons h1 h2) fun D σ H ⟨W, S, δ, g, r, p⟩ => ⟨W, S, δ, g, r, flP_seq p⟩
theorem sb_one (h1 : SS X Wx st ms) : SB X Wx [st] ms := pss_one h1
def ofE {α : Type} (m : M α) (δ : En) (k : α → Store → Fl) (S : Store) : Fl := match m S with
  | .ok a S' => k a S'
  | .exc x S' => .exc x δ S'
  | .bad => .bad
theorem flP_ofE {α β : Type} {K : PySem.W.Frag} {R : Wd → α → β → Prop} {W : Wd} {m : M α} {δ : En} {S : Store} {k : α → Store → Fl} {D : Ends} {σ : St} (r : REnv K W δ σ) (p : flP K W (ofE m δ k S) Wx D) :
    okP K R W (m S) σ Wx (fun v H' => ∃ W' S' a, W.le W' ∧ Good K W' S' H' ∧ R W' a v ∧ flP K W' (k a S') Wx D) := by
  unfold ofE at p
  cases e : m S with
  | ok a S' =>
    rw [e] at p
    exact fun W' H' v l g' r' => ⟨W', S', a, l, g', r', p.mono l⟩
  | exc x S' =>
    rw [e] at p
    exact fun W' H' cls d l g' x' => p W' H' σ cls d l g' (r.mono l) x'
  | bad => rw [e] at p; exact p
def sExpr (m : ME) : MS := fun δ => ofE (m δ) δ fun _ S => .nx δ S
theorem ss_expr (he : SE X Wx e m) (hs : swapsWith e none pos.line X.env = pure false) : SS X Wx (.Expr e pos) (sExpr m) :=
  PS.imp (ps_expr he hs) fun D σ H ⟨W, S, δ, g, r, p⟩ => ⟨W, S, δ, g, r, (flP_ofE (R := Rep X.K) r p).imp fun v H1 ⟨W1, S1, x, l1, g1, r1, p1⟩ => p1 W1 H1 σ W1.le_refl g1 (r.mono l1)⟩
def sRet (m : ME) : MS := fun δ => ofE (m δ) δ fun d S => .rt d S
theorem ss_ret (he : SE X Wx e m) : SS X Wx (.Return (some e) pos) (sRet m) :=
  PS.imp (ps_ret he) fun D σ H ⟨W, S, δ, g, r, p⟩ => ⟨W, S, δ, g, r, (flP_ofE (R := Rep X.K) r p).imp fun v H1 ⟨W1, S1, x, l1, g1, r1, p1⟩ => p1 W1 H1 v W1.le_refl g1 r1⟩
def sRetN : MS := fun _ S => .rt .non S
def sBrk : MS := fun δ S => .bk δ S
def sCnt : MS := fun δ S => .ct δ S
def sIf (tc : MT) (ms mt : MS) : MS := fun δ => ofE (tc δ) δ fun k S => cond k (ms δ S) (mt δ S)
theorem ss_if {sts' : List Stmt} (hc : ST X Wx c tc) (h1 : SB X Wx sts ms) (h2 : SB X Wx sts' mt) : SS X Wx (.If c sts sts' pos) (sIf tc ms mt) :=
  PS.imp (ps_if hc h1 h2) fun D σ H ⟨W, S, δ, g, r, p⟩ => ⟨W, S, δ, g, r, (flP_ofE (R := fun _ (b c : Bool) => b = c) r p).imp fun v H1 ⟨W1, S1, k, l1, g1, ek, p1⟩ => by
    subst ek
    cases k with
    | true => rw [if_pos rfl]; exact ⟨W1, S1, δ, g1, r.mono l1, p1⟩
    | false => rw [if_neg Bool.false_ne_true]; exact ⟨W1, S1, δ, g1, r.mono l1, p1⟩⟩

abbrev TGM := D → En → Store → Option (En × Store)
abbrev TGMs := List D → En → Store → Option (En × Store)
def oG (K : PySem.W.Frag) (W : Wd) (r : Option (En × Store)) (Q : St → Hp → Prop) : Prop := match r with
  | some (δ, S) => ∀ W' H' σ, W.le W' → Good K W' S H' → REnv K W' δ σ → Q σ H'
  | none => False
theorem oG.mono {K : PySem.W.Frag} {W W1 : Wd} {r : Option (En × Store)} {Q : St → Hp → Prop} (h : W.le W1) (p : oG K W r Q) : oG K W1 r Q := by
  cases r with
  | none => exact p
  | some q => exact fun W' H' σ l => p W' H' σ (h.trans l)
def tDG (K : PySem.W.Frag) (mg : TGM) : TG := fun v σ H Q => ∃ W S δ d, Good K W S H ∧ REnv K W δ σ ∧ Rep K W d v ∧ oG K W (mg d δ S) Q
def tDGs (K : PySem.W.Frag) (mg : TGMs) : TGs := fun vs σ H Q => ∃ W S δ ds, Good K W S H ∧ REnv K W δ σ ∧ Reps K W ds vs ∧ oG K W (mg ds δ S) Q
abbrev SG (X : Cx) (e : Expr) (m : TGM) : Prop := PG X e (tDG X.K m)
abbrev SGs (X : Cx) (e : List Expr) (m : TGMs) : Prop := PGs X e (tDGs X.K m)
theorem PGs.imp {X : Cx} {e : List Expr} {t t' : TGs} (p : PGs X e t) (h : ∀ v σ H Q, t' v σ H Q → t v σ H Q) : PGs X e t' := ⟨fun pins s σ H v u Q I r q => p.run pins s σ H v u Q I r (h v σ H Q q)⟩
def gNm (i : Nat) : TGM := fun d δ S => some (δ.set i (some d), S)
theorem sg_name {i : Nat} {x : Str} (hN : X.N.Nodup) (hi : X.N[i]? = some x) (hx : Loc X.env.scope x) (hf : X.fn x = true ∨ X.env.scope.names.lookup x = some .local) : SG X (.Name x pos) (gNm i) :=
  PG.imp (pg_name hN hi hx hf) fun v σ H Q ⟨W, S, δ, d, g, r, q, p⟩ => p W H _ W.le_refl g (r.set i q)
def gNl : TGMs := fun ds δ S => match ds with
  | [] => some (δ, S)
  | _ => none
def gCs (m : TGM) (ms : TGMs) : TGMs := fun ds δ S => match ds with
  | d :: ds => (m d δ S).bind fun r => ms ds r.1 r.2
  | [] => none
theorem sgs_nil : SGs X [] gNl := PGs.imp pgs_nil fun v σ H Q ⟨W, S, δ, ds, g, r, q, p⟩ => by
  cases q with
  | nil => exact ⟨rfl, p W H σ W.le_refl g r⟩
  | cons _ _ => exact p.elim
theorem sgs_cons {m : TGM} {ms : TGMs} (h1 : SG X e m) (h2 : SGs X es ms) (hs : (assignEach (e :: es) X.env).map (·.2) = assign e X.env :: (assignEach es X.env).map (·.2)) : SGs X (e :: es) (gCs m ms) :=
  PGs.imp (pgs_cons h1 h2 hs) fun v σ H Q ⟨W, S, δ, ds, g, r, q, p⟩ => by
    cases q with
    | nil => exact p.elim
    | @cons d v ds vs q1 q2 =>
      refine ⟨v, vs, rfl, W, S, δ, d, g, r, q1, ?_⟩
      have p' : oG X.K W ((m d δ S).bind fun r => ms ds r.1 r.2) Q := p
      cases e1 : m d δ S with
      | none => rw [e1] at p'; exact p'.elim
      | some z =>
        rw [e1] at p'
        exact fun W1 H1 σ1 l1 g1 r1 => ⟨W1, z.2, z.1, ds, g1, r1, q2.mono l1, p'.mono l1⟩
/-- (a, b, ..) = a tuple -/
def gTp (n : Nat) (ms : TGMs) : TGM := fun d δ S => match d with
  | .tup ds => if ds.length = n then ms ds δ S else none
  | _ => none
theorem sg_tup {k n : Nat} {ms : TGMs} (hc : X.calm = true) (h : SGs X es ms) (hn : (assignEach es X.env).length = n) (hst : (assignEach es X.env).findIdx? (·.1) = none) : SG X (.Tuple es k pos) (gTp n ms) :=
  PG.imp (pg_tup hc h hn hst) fun v σ H Q ⟨W, S, δ, d, g, r, q, p⟩ => by
    cases q with
    | @tup a vs ds q1 q2 =>
      have p' : oG X.K W (if ds.length = n then ms ds δ S else none) Q := p
      split at p'
      · rename_i hl
        exact ⟨a, vs, rfl, g.sqT q1, by rw [← q2.length]; exact hl, W, S, δ, ds, g, r, q2, p'⟩
      · exact p'.elim
    | _ => exact p.elim
def toO {α : Type} (m : M α) (S : Store) : Option (α × Store) := match m S with
  | .ok a S' => some (a, S')
  | _ => none
/-- o[i] = v by values -/
abbrev PSt := D → D → D → Store → Option Store
def tDSet (K : PySem.W.Frag) (f : PSt) : TSet := fun o i v H Q => ∃ W S do_ di dv, Good K W S H ∧ Rep K W do_ o ∧ Rep K W di i ∧ Rep K W dv v ∧ (match f do_ di dv S with
  | some S' => ∀ W' H', W.le W' → Good K W' S' H' → Q H'
  | none => False)
def gSb (f : PSt) (mo mi : ME) : TGM := fun d δ S => (toO (mo δ) S).bind fun o => (toO (mi δ) o.2).bind fun i => (f o.1 i.1 d i.2).map fun S' => (δ, S')
theorem toO_ok {α β γ : Type} {K : PySem.W.Frag} {R : Wd → α → β → Prop} {W : Wd} {m : M α} {S : Store} {σ : St} {f : α × Store → Option γ} {P : Option γ → Prop} {Q : β → Hp → Prop} (h0 : P none → False) (p : P ((toO m S).bind f))
    (k : ∀ a S', P (f (a, S')) → ∀ W' H' v, W.le W' → Good K W' S' H' → R W' a v → Q v H') : okP K R W (m S) σ Wx Q := by
  unfold toO at p
  cases e : m S with
  | ok a S' =>
    rw [e] at p
    exact fun W' H' v l g r => k a S' p W' H' v l g r
  | exc x S' => rw [e] at p; exact (h0 p).elim
  | bad => rw [e] at p; exact h0 p
theorem sg_sub {o i : Expr} {mo mi : ME} {f : PSt} (ho : SE X Wx o mo) (hi : SE X Wx i mi) (hs : PSet X (tDSet X.K f))
    (ha : ∀ v, assign (.Subscript o i pos) X.env v = (do
      let ov ← holding [v] (eval o X.env)
      let iv ← holding [v, ov] (eval i X.env)
      standAt pos
      holding [v, ov, iv] (setItem ov iv v)
      release [v, ov, iv] [])) : SG X (.Subscript o i pos) (gSb f mo mi) :=
  PG.imp (pg_sub ho hi hs ha) fun v σ H Q ⟨W, S, δ, d, g, r, q, p⟩ => by
    refine ⟨W, S, δ, g, r, toO_ok (P := fun r => oG X.K W r Q) (fun z => z) p fun o1 S1 p1 W1 H1 v1 l1 g1 r1 => ?_⟩
    refine ⟨W1, S1, δ, g1, r.mono l1, toO_ok (P := fun r => oG X.K W r Q) (fun z => z) p1 fun i1 S2 p2 W2 H2 v2 l2 g2 r2 => ?_⟩
    refine ⟨W2, S2, o1, i1, d, g2, r1.mono l2, r2, q.mono (l1.trans l2), ?_⟩
    have p3 : oG X.K W ((f o1 i1 d S2).map fun S' => (δ, S')) Q := p2
    cases e1 : f o1 i1 d S2 with
    | none => rw [e1] at p3; exact p3.elim
    | some S' =>
      rw [e1] at p3
      exact fun W3 H3 l3 g3 => p3 W3 H3 σ ((l1.trans l2).trans l3) g3 (r.mono ((l1.trans l2).trans l3))
def sAsg (m : ME) (mg : TGM) : MS := fun δ => ofE (m δ) δ fun d S => match mg d δ S with
  | some (δ', S') => .nx δ' S'
  | none => .bad
theorem flP_oG {K : PySem.W.Frag} {W : Wd} {r : Option (En × Store)} {D : Ends} (p : flP K W (match r with
  | some (δ', S') => .nx δ' S'
  | none => .bad) Wx D) : oG K W r D.nx := by
  cases r with
  | none => exact p
  | some q => exact p
theorem tAsg_of {mg : TGM} (D : Ends) (σ : St) (H : Hp) (h : tDS X.K Wx (sAsg m mg) D σ H) : tAsg (tD X.K Wx m) (tDG X.K mg) D σ H := by
  obtain ⟨W, S, δ, g, r, p⟩ := h
  exact ⟨W, S, δ, g, r, (flP_ofE (R := Rep X.K) r p).imp fun v H1 ⟨W1, S1, d, l1, g1, r1, p1⟩ => ⟨W1, S1, δ, d, g1, r.mono l1, r1, flP_oG p1⟩⟩
theorem ss_asg {tg : Expr} {mg : TGM} (he : SE X Wx e m) (hg : SG X tg mg) (hs : swapsWithSole [tg] e pos.line X.env = pure false) (hw : swappedStores [tg] e X.env = pure none) (h1 : (assignEach [tg] X.env).map (·.2) = [assign tg X.env]) : SS X Wx (.Assign [tg] e pos) (sAsg m mg) :=
  PS.imp (ps_asg he hg hs hw h1) tAsg_of
theorem ss_set {i : Nat} {x : Str} {pos' : Pos} (hN : X.N.Nodup) (hi : X.N[i]? = some x) (hx : Loc X.env.scope x) (he : SE X Wx e m) (hs : swapsWith e (some (.Name x pos')) pos.line X.env = pure false) (hf : X.fn x = true ∨ X.env.scope.names.lookup x = some .local) : SS X Wx (.Assign [.Name x pos'] e pos) (sAsg m (gNm i)) :=
  PS.imp (ps_set hN hi hx he hs hf) fun D σ H ⟨W, S, δ, g, r, p⟩ => ⟨W, S, δ, g, r, (flP_ofE (R := Rep X.K) r p).imp fun v H1 ⟨W1, S1, d, l1, g1, r1, p1⟩ => p1 W1 H1 _ W1.le_refl g1 ((r.mono l1).set i r1)⟩
/-- a, b = x, y of names stored the other way round -/
def sPar2 (i j : Nat) (mas : MA) : MS := fun δ => ofE (mas δ) δ fun ds S => match ds with
  | [x, y] => .nx ((δ.set i (some x)).set j (some y)) S
  | _ => .bad
theorem ss_par2 {i j : Nat} {x y : Str} {px py pt : Pos} {kt k2 : Nat} {pt2 : Pos} (hc : X.calm = true) (hN : X.N.Nodup) (hi : X.N[i]? = some x) (hj : X.N[j]? = some y) (hij : i ≠ j)
    (hx : X.env.scope.names.lookup x = some .local) (hy : X.env.scope.names.lookup y = some .local) (ha : SA X Wx [a, b] mas)
    (hw : swappedStores [.Tuple [.Name x px, .Name y py] kt pt] (.Tuple [a, b] k2 pt2) X.env = pure (some [x, y])) :
    SS X Wx (.Assign [.Tuple [.Name x px, .Name y py] kt pt] (.Tuple [a, b] k2 pt2) pos) (sPar2 i j mas) :=
  PS.imp (ps_par hc hN hi hj hij hx hy ha hw) fun D σ H ⟨W, S, δ, g, r, p⟩ => ⟨W, S, δ, g, r, (flP_ofE (R := Reps X.K) r p).imp fun vs H1 ⟨W1, S1, ds, l1, g1, r1, p1⟩ => by
    cases r1 with
    | nil => exact p1.elim
    | cons q1 r1 =>
      cases r1 with
      | nil => exact p1.elim
      | cons q2 r1 =>
        cases r1 with
        | nil => exact ⟨_, _, rfl, p1 W1 H1 _ W1.le_refl g1 (((r.mono l1).set i q1).set j q2)⟩
        | cons _ _ => exact p1.elim⟩
end
end Ev
namespace Ev
open PySem L2
/-- J walks the items ds, while what W has frozen stands -/
def WalkD (K : PySem.W.Frag) (W : Wd) (ds : List D) (J : It) : Prop :=
  Walk J ds.length (fun H => ∀ a o, W.F a = some o → H a = some o) (fun i H x H' => ∀ d, ds[i]? = some d → ∀ W2 S2, W.lf W2 → Good K W2 S2 H → ∃ W3, W2.le W3 ∧ Good K W3 S2 H' ∧ Rep K W3 d x)
def tDI (K : PySem.W.Frag) (Wx : WX) (mi : MA) : TI := fun σ H R => ∃ W S δ, Good K W S H ∧ REnv K W δ σ ∧ okP K (WalkD K) W (mi δ S) σ Wx R
abbrev SI (X : Cx) (Wx : WX) (tg e : Expr) (m : MA) : Prop := PI X tg e (tDI X.K Wx m)
theorem PI.imp {X : Cx} {tg e : Expr} {t t' : TI} (p : PI X tg e t) (h : ∀ σ H R, t' σ H R → t σ H R) : PI X tg e t' := ⟨fun pins s σ H R I q => p.run pins s σ H R I (h σ H R q)⟩
section
variable {X : Cx} {Wx : WX} {a b c e tg : Expr} {ma mb mc m : ME} {pos : Pos} {K : PySem.W.Frag} {W : Wd}
/-- one value after another, the heap as it is -/
theorem walkD_at {J : It} {ds : List D} {vs : List V} (r : Reps K W ds vs) (w : Walk J ds.length (fun H => ∀ a o, W.F a = some o → H a = some o) (YAt vs)) : WalkD K W ds J :=
  w.mono (fun _ h => h) fun i H x H' hi hG y d hd W2 S2 l g => by
    obtain ⟨rfl, hx⟩ := y
    obtain ⟨v, e1, e2⟩ := r.get hd
    rw [hx] at e1; cases e1
    exact ⟨W2, W2.le_refl, g, e2.mono l⟩
def signs (z : Str) : List D := z.cps.toList.map fun c => .str ⟨#[c]⟩
/-- a for over one of the three, by what the value is -/
theorem PI.or {t t' : TI} (h1 : PI X tg e t) (h2 : PI X tg e t') : PI X tg e (fun σ H R => t σ H R ∨ t' σ H R) := ⟨fun pins s σ H R I q => by
  rcases q with q | q
  · exact h1.run pins s σ H R I q
  · exact h2.run pins s σ H R I q⟩
def rngD (lo : Int) (n : Nat) : List D := (List.range n).map fun (i : Nat) => .int (lo + i)
theorem walkD_range (lo : Int) (n : Nat) : WalkD K W (rngD lo n) (Itr lo n) := by
  have w := walk_range (lo := lo) (n := n)
  have e : (rngD lo n).length = n := by simp [rngD]
  unfold WalkD
  rw [e]
  refine w.mono (fun _ _ => trivial) fun i H x H' hi hG y d hd W2 S2 l g => ?_
  obtain ⟨rfl, rfl⟩ := y
  refine ⟨W2, W2.le_refl, g, ?_⟩
  simp [rngD, hi] at hd
  subst hd
  exact .int _
theorem si_range1 {mas : MA} {p : Pos} (hg : Gl X "range") (hm : X.mg "range" = none) (ha : SA X Wx [a] mas) (hs : starEach [a] X.env = [(false, eval a X.env)]) : SI X Wx tg (.Call (.Name "range" p) [a] [] pos) (fun δ => M.bind (mas δ) fun ds => match ds with
    | [.int j] => if -(2 ^ 62) ≤ j ∧ j < 2 ^ 62 then M.pure (rngD 0 j.toNat) else M.bad
    | _ => M.bad) :=
  PI.imp (pi_range1 hg hm ha hs) fun σ H R ⟨W, S, δ, g, r, p⟩ => ⟨W, S, δ, g, r, (okP.bind (R := Reps X.K) p).imp fun v H1 ⟨W1, S1, ds, l1, g1, r1, p1⟩ => by
    cases r1 with
    | nil => exact p1.elim
    | cons q r1 =>
      cases r1 with
      | cons _ _ => cases q <;> exact p1.elim
      | nil =>
        cases q with
        | int j =>
          dsimp only at p1
          split at p1
          · rename_i h
            exact ⟨j, rfl, h.1, h.2, okP.pure p1 g1 (walkD_range 0 _)⟩
          · exact p1.elim
        | _ => exact p1.elim⟩
def loopF (mg : TGM) (mb : MS) : List D → MS
  | [] => fun δ S => .nx δ S
  | d :: ds => fun δ S => match mg d δ S with
    | none => .bad
    | some (δ', S') => match mb δ' S' with
      | .nx δ2 S2 => loopF mg mb ds δ2 S2
      | .ct δ2 S2 => loopF mg mb ds δ2 S2
      | .bk δ2 S2 => .nx δ2 S2
      | r => r
def sFor (mi : MA) (mg : TGM) (mb : MS) : MS := fun δ => ofE (mi δ) δ fun ds S => loopF mg mb ds δ S
theorem ss_for {iter : Expr} {body : List Stmt} {mi : MA} {mg : TGM} {mb : MS} (hp : PassesOwn (model X.prog X.w) X.A X.env X.xe) (hc : X.calm = true) (hi : SI X Wx tg iter mi) (hg : SG X tg mg) (hb : SB X Wx body mb)
    (hs : ∀ x, foldedSetIterable iter X.env x = pure x) : SS X Wx (.For tg iter body [] pos) (sFor mi mg mb) :=
  PS.imp (ps_for hp hc hi hg hb hs) fun E σ H ⟨W, S, δ, g, r, p⟩ => ⟨W, S, δ, g, r, (flP_ofE (R := WalkD X.K) r p).imp fun J H1 ⟨W1, S1, ds, l1, g1, w1, p1⟩ => by
    refine for_it (w1 : Walk J ds.length _ _) (fun i σ2 H2 => ∃ W2 S2 δ2, W1.le W2 ∧ Good X.K W2 S2 H2 ∧ REnv X.K W2 δ2 σ2 ∧ flP X.K W2 (loopF mg mb (ds.drop i) δ2 S2) Wx E) ⟨W1, S1, δ, W1.le_refl, g1, r.mono l1, p1⟩ ?_ ?_ ?_
    · rintro i σ2 H2 _ ⟨W2, S2, δ2, l2, g2, _, _⟩ a o ha
      exact g2.sub a o (l2.f a o ha)
    · rintro i x σ2 H2 H3 hi ⟨W2, S2, δ2, l2, g2, r2, p2⟩ y
      have hd : ds[i]? = some ds[i] := by simp [hi]
      obtain ⟨W3, l3, g3, q3⟩ := y ds[i] hd W2 S2 l2 g2
      rw [List.drop_eq_getElem_cons hi] at p2
      refine ⟨W3, S2, δ2, ds[i], g3, r2.mono l3, q3, ?_⟩
      simp only [loopF] at p2
      cases e1 : mg ds[i] δ2 S2 with
      | none => rw [e1] at p2; exact p2.elim
      | some z =>
        obtain ⟨δ4, S4⟩ := z
        rw [e1] at p2
        intro W4 H4 σ4 l4 g4 r4
        refine ⟨W4, S4, δ4, g4, r4, ?_⟩
        have l24 := l3.trans l4
        dsimp only at p2
        cases e2 : mb δ4 S4 with
        | nx δ5 S5 =>
          rw [e2] at p2
          exact fun W5 H5 σ5 l5 g5 r5 => ⟨W5, S5, δ5, (l2.trans l24).trans l5, g5, r5, p2.mono (l24.trans l5)⟩
        | ct δ5 S5 =>
          rw [e2] at p2
          exact fun W5 H5 σ5 l5 g5 r5 => ⟨W5, S5, δ5, (l2.trans l24).trans l5, g5, r5, p2.mono (l24.trans l5)⟩
        | bk δ5 S5 =>
          rw [e2] at p2
          exact fun W5 H5 σ5 l5 g5 r5 => p2 W5 H5 σ5 (l24.trans l5) g5 r5
        | rt d5 S5 =>
          rw [e2] at p2
          exact fun W5 H5 σ5 l5 g5 r5 => p2 W5 H5 σ5 (l24.trans l5) g5 r5
        | exc x5 δ5 S5 =>
          rw [e2] at p2
          exact fun W5 H5 σ5 cls dd l5 g5 r5 x6 => p2 W5 H5 σ5 cls dd (l24.trans l5) g5 r5 x6
        | bad => rw [e2] at p2; exact p2
    · rintro σ2 H2 ⟨W2, S2, δ2, l2, g2, r2, p2⟩
      rw [List.drop_length] at p2
      exact p2 W2 H2 σ2 W2.le_refl g2 r2⟩

end
end Ev
namespace Ev
open PySem L2
def noX {α : Type} (m : M α) : M α := fun S => match m S with
  | .ok a S' => .ok a S'
  | _ => .bad
theorem okP.bindN {α β γ ε : Type} {K : PySem.W.Frag} {R : Wd → α → β → Prop} {R' : Wd → γ → ε → Prop} {W : Wd} {m : M α} {f : α → M γ} {S : Store} {σ : St} {Wx : WX} {Q : ε → Hp → Prop}
    (h : okP K R' W (M.bind (noX m) f S) σ Wx Q) (W0 : Wd) (σ' : St) (Wx' : WX) : okP K R W0 (m S) σ' Wx' (fun v H' => ∃ W' S' a, W0.le W' ∧ Good K W' S' H' ∧ R W' a v ∧ okP K R' W (f a S') σ Wx Q) := by
  unfold M.bind noX at h
  cases e : m S with
  | ok a S' =>
    rw [e] at h
    exact fun W' H' v l g r => ⟨W', S', a, l, g, r, h⟩
  | exc x S' =>
    rw [e] at h
    exact h.elim
  | bad =>
    rw [e] at h
    exact h
abbrev UpD := D → Option (List (Nat × D))
def setsV : St → List (Nat × V) → St
  | σ, [] => σ
  | σ, (i, v) :: r => setsV (σ.set i (some v)) r
def setsD : En → List (Nat × D) → En
  | δ, [] => δ
  | δ, (i, v) :: r => setsD (δ.set i (some v)) r
theorem setsV_append : ∀ (σ : St) (a b : List (Nat × V)), setsV σ (a ++ b) = setsV (setsV σ a) b
  | _, [], _ => rfl
  | σ, (i, v) :: r, b => setsV_append (σ.set i (some v)) r b
theorem REnv.sets {K : PySem.W.Frag} {W : Wd} : ∀ {us : List (Nat × D)} {us' : List (Nat × V)} {δ : En} {σ : St}, REnv K W δ σ → us'.map (·.1) = us.map (·.1) → Reps K W (us.map (·.2)) (us'.map (·.2)) → REnv K W (setsD δ us) (setsV σ us')
  | [], [], _, _, r, _, _ => r
  | [], _ :: _, _, _, _, e, _ => by cases e
  | _ :: _, [], _, _, _, e, _ => by cases e
  | (i, d) :: us, (j, v) :: us', δ, σ, r, e, q => by
    simp only [List.map_cons, List.cons.injEq] at e
    obtain ⟨rfl, e⟩ := e
    cases q with
    | cons q1 q2 => exact REnv.sets (us := us) (us' := us') (δ := δ.set j (some d)) (σ := σ.set j (some v)) (r.set j q1) e q2
theorem wipe_get (σ : St) (j : Nat) : ∀ vs : List Nat, (wipe σ vs)[j]? = if j ∈ vs then (if j < σ.length then some none else none) else σ[j]?
  | [] => by simp [wipe]
  | v :: vs => by
    unfold wipe
    rw [List.getElem?_set, wipe_get σ j vs, wipe_length]
    by_cases h1 : v = j
    · subst h1; simp
    · rw [if_neg h1]
      have : (j ∈ v :: vs) ↔ j ∈ vs := by simp [Ne.symm h1]
      simp only [this]
theorem wipe_set {σ : St} {i : Nat} {x : Option V} {vs : List Nat} (h : i ∈ vs) : wipe (σ.set i x) vs = wipe σ vs := by
  apply List.ext_getElem?
  intro j
  rw [wipe_get, wipe_get]
  by_cases hj : j ∈ vs
  · rw [if_pos hj, if_pos hj, List.length_set]
  · rw [if_neg hj, if_neg hj, List.getElem?_set_ne]
    rintro rfl
    exact hj h
theorem wipe_sets : ∀ {us : List (Nat × V)} {σ : St} {vs : List Nat}, (∀ p ∈ us, p.1 ∈ vs) → wipe (setsV σ us) vs = wipe σ vs
  | [], _, _, _ => rfl
  | (i, v) :: r, σ, vs, h => by
    show wipe (setsV (σ.set i (some v)) r) vs = _
    rw [wipe_sets fun p hp => h p (List.mem_cons_of_mem _ hp)]
    exact wipe_set (h (i, v) List.mem_cons_self)
theorem wipe_wipe (σ : St) (vs : List Nat) : wipe (wipe σ vs) vs = wipe σ vs := by
  apply List.ext_getElem?
  intro j
  rw [wipe_get, wipe_get, wipe_length]
  by_cases hj : j ∈ vs
  · rw [if_pos hj, if_pos hj]
  · rw [if_neg hj, if_neg hj]
def wipeD (δ : En) : List Nat → En
  | [] => δ
  | v :: vs => (wipeD δ vs).set v none
theorem REnv.wipe {K : PySem.W.Frag} {W : Wd} {δ : En} {σ : St} (r : REnv K W δ σ) : ∀ vs : List Nat, REnv K W (wipeD δ vs) (L2.wipe σ vs)
  | [] => r
  | v :: vs => by
    have ih := REnv.wipe r vs
    refine ⟨by simp [wipeD, L2.wipe, ih.1], fun i d e => ?_⟩
    simp only [wipeD, L2.wipe] at e ⊢
    by_cases h : v = i
    · subst h
      by_cases hv : v < (wipeD δ vs).length
      · rw [List.getElem?_set_self hv] at e; cases e
      · rw [List.getElem?_eq_none (by simpa using hv)] at e; cases e
    · rw [List.getElem?_set_ne h] at e ⊢
      exact ih.2 i d e
def tDU (K : PySem.W.Frag) (up : UpD) : TG := fun v σ H Q => ∃ W S d, Good K W S H ∧ Rep K W d v ∧ (match up d with
  | some us => ∀ us' : List (Nat × V), us'.map (·.1) = us.map (·.1) → Reps K W (us.map (·.2)) (us'.map (·.2)) → Q (setsV σ us') H
  | none => False)
def tDUs (K : PySem.W.Frag) (up : List D → Option (List (Nat × D))) : TGs := fun vs σ H Q => ∃ W S ds, Good K W S H ∧ Reps K W ds vs ∧ (match up ds with
  | some us => ∀ us' : List (Nat × V), us'.map (·.1) = us.map (·.1) → Reps K W (us.map (·.2)) (us'.map (·.2)) → Q (setsV σ us') H
  | none => False)
section
variable {X : Cx} {Wx : WX} {a b c e tg : Expr} {es : List Expr} {ma mb mc m : ME} {pos : Pos}
def uNm (i : Nat) : UpD := fun d => some [(i, d)]
theorem su_name {i : Nat} {x : Str} (hN : X.N.Nodup) (hi : X.N[i]? = some x) (hx : Loc X.env.scope x) (hf : X.fn x = true ∨ X.env.scope.names.lookup x = some .local) : PG X (.Name x pos) (tDU X.K (uNm i)) :=
  PG.imp (pg_name hN hi hx hf) fun v σ H Q ⟨W, S, d, g, r, p⟩ => p [(i, v)] rfl (.cons r .nil)
def uNl : List D → Option (List (Nat × D)) := fun ds => match ds with
  | [] => some []
  | _ => none
def uCs (u : UpD) (us : List D → Option (List (Nat × D))) : List D → Option (List (Nat × D)) := fun ds => match ds with
  | d :: ds => (u d).bind fun a => (us ds).map fun b => a ++ b
  | [] => none
theorem sus_nil : PGs X [] (tDUs X.K uNl) := PGs.imp pgs_nil fun v σ H Q ⟨W, S, ds, g, r, p⟩ => by
  cases r with
  | nil => exact ⟨rfl, p [] rfl .nil⟩
  | cons _ _ => exact p.elim
theorem sus_cons {u : UpD} {us : List D → Option (List (Nat × D))} (h1 : PG X e (tDU X.K u)) (h2 : PGs X es (tDUs X.K us)) (hs : (assignEach (e :: es) X.env).map (·.2) = assign e X.env :: (assignEach es X.env).map (·.2)) : PGs X (e :: es) (tDUs X.K (uCs u us)) :=
  PGs.imp (pgs_cons h1 h2 hs) fun v σ H Q ⟨W, S, ds, g, r, p⟩ => by
    cases r with
    | nil => exact p.elim
    | @cons d v ds vs q1 q2 =>
      refine ⟨v, vs, rfl, W, S, d, g, q1, ?_⟩
      simp only [uCs] at p
      cases e1 : u d with
      | none => rw [e1] at p; exact p.elim
      | some us1 =>
        rw [e1] at p
        simp only [Option.bind_some] at p
        intro us' k1 r1
        refine ⟨W, S, ds, g, q2, ?_⟩
        cases e2 : us ds with
        | none => rw [e2] at p; exact p.elim
        | some us2 =>
          rw [e2] at p
          intro us2' k2 r2
          have p' := p (us' ++ us2') (by simp [k1, k2]) (by simp only [List.map_append]; exact r1.append r2)
          rw [setsV_append] at p'
          exact p'
def loopC (up : UpD) (mt : MT) (me : ME) (δ0 : En) : List D → List D → M (List D)
  | [], acc => M.pure acc
  | d :: ds, acc => match up d with
    | none => M.bad
    | some us => M.bind (noX (mt (setsD δ0 us))) fun k => match k with
      | false => loopC up mt me δ0 ds acc
      | true => M.bind (noX (me (setsD δ0 us))) fun y => if acc.length < sizeLine then loopC up mt me δ0 ds (acc ++ [y]) else M.bad
def eLc (fin : List D → PO) (mi : MA) (up : UpD) (mt : MT) (me : ME) (vs : List Nat) : ME := fun δ => M.bind (mi δ) fun ds => M.bind (loopC up mt me (wipeD δ vs) ds []) fun ys => lft (fin ys)
/-- how the new list at p ends: frozen, or a cell -/
def FinOk (K : PySem.W.Frag) (fin : List D → PO) : Prop := ∀ (W : Wd) (S : Store) (H : Hp) (p : Addr) (P : Hp) (acc : List D) (vacc : List V) (Q : VK), Good K W S H → W.P = upd P p (.lst vacc) → P p = none → Reps K W acc vacc → oV K ⟨W.F, W.m, P, W.sf⟩ (fin acc S) Q → Q (.ref p) H
theorem fin_newL {K : PySem.W.Frag} : FinOk K newL := fun W S H p P acc vacc Q g e n r o => by
  unfold newL at o
  split at o
  · refine o _ _ _ ⟨⟨(g.unPrv_lf e).f, rfl, [], by simp⟩, rfl⟩ (g.unPrv e n) (.lst upd_same (r.mono (g.unPrv_lf e)))
  · exact o.elim
theorem tLc_of {mi : MA} {up : UpD} {mt : MT} {me : ME} {vs : List Nat} {fin : List D → PO} (hf : FinOk X.K fin) (hu : ∀ d us, up d = some us → ∀ p ∈ us, p.1 ∈ vs) (σ : St) (H : Hp) (Q : VK) (h : tD X.K Wx (eLc fin mi up mt me vs) σ H Q) :
    tLc (tDI X.K Wx mi) (tDU X.K up) (tDT X.K (fun _ _ _ _ => False) mt) (tD X.K (fun _ _ _ _ => False) me) vs σ H Q := by
  obtain ⟨W, S, δ, g, r, p⟩ := h
  refine ⟨W, S, δ, g, r, (okP.bind (R := WalkD X.K) p).imp fun J H1 ⟨W1, S1, ds, l1, g1, w1, p1⟩ => fun Dd nD => ?_⟩
  have pD : W1.P Dd = none := g1.freeP nD
  refine lc_it (w1 : Walk J ds.length _ _) (fun i H2 => ∃ W2 S2 acc vacc, W1.lf W2 ∧ W2.P = upd W1.P Dd (.lst vacc) ∧ Good X.K W2 S2 H2 ∧ Reps X.K W2 acc vacc ∧
    okP X.K (Rep X.K) ⟨W2.F, W2.m, W1.P, W2.sf⟩ (M.bind (loopC up mt me (wipeD δ vs) (ds.drop i) acc) (fun ys => lft (fin ys)) S2) σ Wx Q) ?_ ?_ ?_ ?_
  · exact ⟨W1.prv Dd (.lst []), S1, [], [], W1.prv_lf _ _, rfl, g1.newPrv nD, .nil, p1⟩
  · rintro i H2 _ ⟨W2, S2, acc, vacc, l2, _, g2, _⟩ a o ha
    exact g2.sub a o (l2.f a o ha)
  · rintro i x H2 H3 hi ⟨W2, S2, acc, vacc, l2, e2, g2, ra, p2⟩ y
    have hd : ds[i]? = some ds[i] := by simp [hi]
    obtain ⟨W3, l3, g3, q3⟩ := y ds[i] hd W2 S2 l2 g2
    rw [List.drop_eq_getElem_cons hi] at p2
    refine ⟨W3, S2, ds[i], g3, q3, ?_⟩
    simp only [loopC] at p2
    cases e1 : up ds[i] with
    | none => rw [e1] at p2; exact p2.elim
    | some us =>
      rw [e1] at p2
      intro us' k1 r1
      have hus : ∀ p ∈ us', p.1 ∈ vs := fun p hp => by
        have : p.1 ∈ us'.map (·.1) := List.mem_map_of_mem hp
        rw [k1] at this
        obtain ⟨q, hq, eq⟩ := List.mem_map.mp this
        rw [← eq]
        exact hu _ _ e1 q hq
      refine ⟨by rw [wipe_sets hus, wipe_wipe], ?_⟩
      have rE : REnv X.K W3 (setsD (wipeD δ vs) us) (setsV (wipe σ vs) us') := ((r.mono (l1.toLf.trans (l2.trans l3))).wipe vs).sets k1 r1
      have p3 := okP.assoc p2
      refine ⟨W3, S2, setsD (wipeD δ vs) us, g3, rE, (okP.bindN p3 W3 _ _).imp fun k H4 ⟨W4, S4, k', l4, g4, ek, p4⟩ => ?_⟩
      subst ek
      cases k' with
      | false =>
        rw [if_neg Bool.false_ne_true]
        refine ⟨W4, S4, acc, vacc, l2.trans (l3.trans l4), by rw [l4.pp, l3.pp, e2], g4, ra.mono (l3.trans l4), ?_⟩
        exact okP.mono (W := ⟨W2.F, W2.m, W1.P, W2.sf⟩) ⟨⟨(l3.trans l4).f, (l3.trans l4).sq, (l3.trans l4).mm⟩, rfl⟩ p4
      | true =>
        rw [if_pos rfl]
        have p5 := okP.assoc p4
        refine ⟨W4, S4, setsD (wipeD δ vs) us, g4, rE.mono l4, (okP.bindN p5 W4 _ _).imp fun yv H5 ⟨W5, S5, y5, l5, g5, r5, p6⟩ => ?_⟩
        have eP : W5.P = upd W1.P Dd (.lst vacc) := by rw [l5.pp, l4.pp, l3.pp, e2]
        have hD : W5.P Dd = some (.lst vacc) := by rw [eP, upd_same]
        have l35 := (l3.trans l4).trans l5
        by_cases hz : acc.length < sizeLine
        · rw [if_pos hz] at p6
          refine ⟨vacc, (g5.prv Dd _ hD).1, by rw [← ra.length]; exact hz, W5.prv Dd (.lst (vacc ++ [yv])), S5, acc ++ [y5], vacc ++ [yv], l2.trans (l35.toLf.trans (W5.prv_lf _ _)), by show upd W5.P Dd _ = _; rw [eP, upd_upd], g5.updPrv hD, ?_, ?_⟩
          · exact ((ra.mono l35).append (.cons r5 .nil)).mono (W5.prv_lf _ _)
          · exact okP.mono (W := ⟨W2.F, W2.m, W1.P, W2.sf⟩) ⟨⟨l35.f, l35.sq, l35.mm⟩, rfl⟩ p6
        · rw [if_neg hz] at p6; exact p6.elim
  · rintro H2 ⟨W2, S2, acc, vacc, l2, e2, g2, ra, p2⟩
    rw [List.drop_length] at p2
    exact hf W2 S2 H2 Dd W1.P acc vacc Q g2 e2 pD ra (okP.lft p2)
theorem se_lc {elt tg iter : Expr} {ifs : List Expr} {scope : Scope} {own : List (Str × Nat)} {mi : MA} {up : UpD} {mt : MT} {me : ME} {fin : List D → PO} (hf : FinOk X.K fin) (hu : ∀ d us, up d = some us → ∀ p ∈ us, p.1 ∈ own.map (·.2))
    (hc : X.calm = true) (hN : X.N.Nodup) (hi : SI X Wx tg iter mi) (ok : BlkOk X.N X.env.scope scope own)
    (hg : ∀ (s : Shared) (H : Hp) (C : Addr) (cl : List (Str × Addr)) (fp : List Addr), PG (X.blk s H scope (compEnvC scope cl C X.env) fp) tg (tDU X.K up)) (ht : ∀ (s : Shared) (H : Hp) (C : Addr) (cl : List (Str × Addr)) (fp : List Addr), PTs (X.blk s H scope (compEnvC scope cl C X.env) fp) ifs (tDT X.K (fun _ _ _ _ => False) mt))
    (he : ∀ (s : Shared) (H : Hp) (C : Addr) (cl : List (Str × Addr)) (fp : List Addr), SE (X.blk s H scope (compEnvC scope cl C X.env) fp) (fun _ _ _ _ => False) elt me) (hs : ∀ x, foldedSetIterable iter X.env x = pure x) :
    SE X Wx (.ListComp elt [⟨tg, iter, ifs, 0⟩] scope pos) (eLc fin mi up mt me (own.map (·.2))) :=
  PE.imp (pe_lc hc hN hi ok hg ht he hs) (tLc_of hf hu)
theorem ss_setLc {i : Nat} {y : Str} {py spos : Pos} {elt tg iter : Expr} {ifs : List Expr} {scope : Scope} {own : List (Str × Nat)} {mi : MA} {up : UpD} {mt : MT} {me : ME} {fin : List D → PO} (hf : FinOk X.K fin) (hu : ∀ d us, up d = some us → ∀ p ∈ us, p.1 ∈ own.map (·.2))
    (hc : X.calm = true) (hN : X.N.Nodup) (hy : X.N[i]? = some y) (hyl : X.env.scope.names.lookup y = some .local)
    (hsw : swapsWith (.ListComp elt [⟨tg, iter, ifs, 0⟩] scope pos) (some (.Name y py)) spos.line X.env = pure true) (hi : SI X Wx tg iter mi) (ok : BlkOk X.N X.env.scope scope own)
    (hg : ∀ (s : Shared) (H : Hp) (C : Addr) (cl : List (Str × Addr)) (fp : List Addr), PG (X.blk s H scope (compEnvC scope cl C X.env) fp) tg (tDU X.K up)) (ht : ∀ (s : Shared) (H : Hp) (C : Addr) (cl : List (Str × Addr)) (fp : List Addr), PTs (X.blk s H scope (compEnvC scope cl C X.env) fp) ifs (tDT X.K (fun _ _ _ _ => False) mt))
    (he : ∀ (s : Shared) (H : Hp) (C : Addr) (cl : List (Str × Addr)) (fp : List Addr), SE (X.blk s H scope (compEnvC scope cl C X.env) fp) (fun _ _ _ _ => False) elt me) (hs : ∀ x, foldedSetIterable iter X.env x = pure x) :
    SS X Wx (.Assign [.Name y py] (.ListComp elt [⟨tg, iter, ifs, 0⟩] scope pos) spos) (sAsg (eLc fin mi up mt me (own.map (·.2))) (gNm i)) :=
  PS.imp (ps_setLc hc hN hy hyl hsw hi ok hg ht he hs) fun D σ H ⟨W, S, δ, g, r, p⟩ => tLc_of hf hu σ H _ ⟨W, S, δ, g, r, (flP_ofE (R := Rep X.K) r p).imp fun v H1 ⟨W1, S1, d, l1, g1, r1, p1⟩ => p1 W1 H1 _ W1.le_refl g1 ((r.mono l1).set i r1)⟩
end
end Ev
namespace Ev
open PySem PySem.SeqAt L2 PyProof.Rows
mutual
def toP : D → Option PyData
  | .non => some .none
  | .bl b => some (.bool b)
  | .int i => some (.int i)
  | .str s => some (.str s)
  | .tup xs => (toPs xs).map .tuple
  | .lst xs => (toPs xs).map .list
  | .ins _ _ => none
  | .ref _ => none
  | .fn _ => none
  | .scr _ => none
  | .slf => none
  | .dic _ => none
  | .exn _ _ _ _ => none
  | .lam _ _ _ _ _ => none
def toPs : List D → Option (List PyData)
  | [] => some []
  | x :: xs => (toP x).bind fun a => (toPs xs).map fun b => a :: b
end
mutual
def toPS (S : Store) : D → Option PyData
  | .non => some .none
  | .bl b => some (.bool b)
  | .int i => some (.int i)
  | .str s => some (.str s)
  | .tup xs => (toPSs S xs).map .tuple
  | .lst xs => (toPSs S xs).map .list
  | .ref i => (plstOf S (.ref i)).bind fun ds => (toPs ds).map .list
  | .ins _ _ => none
  | .fn _ => none
  | .scr _ => none
  | .slf => none
  | .dic _ => none
  | .exn _ _ _ _ => none
  | .lam _ _ _ _ _ => none
def toPSs (S : Store) : List D → Option (List PyData)
  | [] => some []
  | x :: xs => (toPS S x).bind fun a => (toPSs S xs).map fun b => a :: b
end
section
variable {X : Cx} {pins : List (Addr × Obj)} {σ : L2.St} {H : Hp} {s : Shared} {W : Wd} {S : Store}
mutual
theorem reads_of' (I : Inv X pins σ H s) (g : Good X.K W S H) : ∀ (d : D) (v : V) (u : Value) (p : PyData), toP d = some p → Rep X.K W d v → RelV v u → p.plain = true ∧ ∃ as, Reads s.heap u p as
  | .non, v, u, p, e, q, r => by cases e; cases q; cases r; exact ⟨rfl, _, .none⟩
  | .bl b, v, u, p, e, q, r => by cases e; cases q; cases r; exact ⟨rfl, _, .bool b⟩
  | .int i, v, u, p, e, q, r => by cases e; cases q; obtain ⟨t, rfl⟩ := r; exact ⟨rfl, _, .int i t⟩
  | .str i, v, u, p, e, q, r => by cases e; cases q; obtain ⟨t, rfl⟩ := r; exact ⟨rfl, _, .str i t⟩
  | .tup ds, v, u, p, e, q, r => by
    simp only [toP] at e
    obtain ⟨ps, e1, rfl⟩ := Option.map_eq_some_iff.mp e
    cases q with
    | tup q r' =>
      cases r
      obtain ⟨its, rv, ⟨o, ho, hc, n, hd⟩, hz⟩ := I.tuple (g.sqT q)
      obtain ⟨pl, as, ra⟩ := readsAll_of' I g ds _ _ _ e1 r' rv
      exact ⟨pl, as, .tuple ho hc hd (by simpa using ra)⟩
  | .lst ds, v, u, p, e, q, r => by
    simp only [toP] at e
    obtain ⟨ps, e1, rfl⟩ := Option.map_eq_some_iff.mp e
    cases q with
    | lst q r' =>
      cases r
      obtain ⟨its, rv, ⟨o, n, ho, hc, _, hd⟩, hz⟩ := I.list (SqL.of (K := X.K) (g.sub _ _ q))
      obtain ⟨pl, as, ra⟩ := readsAll_of' I g ds _ _ _ e1 r' rv
      exact ⟨pl, _, .list ho hc hd (by simpa using ra)⟩
  | .ins _ _, v, u, p, e, q, r => by cases e
  | .ref _, v, u, p, e, q, r => by cases e
  | .fn _, v, u, p, e, q, r => by cases e
  | .scr _, v, u, p, e, q, r => by cases e
  | .slf, v, u, p, e, q, r => by cases e
  | .dic _, v, u, p, e, q, r => by cases e
  | .exn _ _ _ _, v, u, p, e, q, r => by cases e
  | .lam _ _ _ _ _, v, u, p, e, q, r => by cases e
theorem readsAll_of' (I : Inv X pins σ H s) (g : Good X.K W S H) : ∀ (ds : List D) (vs : List V) (us : List Value) (ps : List PyData), toPs ds = some ps → Reps X.K W ds vs → Vals vs us → PyData.plainAll ps = true ∧ ∃ as, ReadsAll s.heap us ps as
  | [], vs, us, ps, e, q, r => by cases e; cases q; cases r; exact ⟨rfl, _, .nil⟩
  | d :: ds, vs, us, ps, e, q, r => by
    simp only [toPs] at e
    obtain ⟨p1, e1, e2⟩ := Option.bind_eq_some_iff.mp e
    obtain ⟨p2, e3, rfl⟩ := Option.map_eq_some_iff.mp e2
    cases q with
    | cons q r' =>
      cases r with
      | cons ra rb =>
        obtain ⟨pl, as, h1⟩ := reads_of' I g d _ _ _ e1 q ra
        obtain ⟨pl2, bs, h2⟩ := readsAll_of' I g ds _ _ _ e3 r' rb
        exact ⟨by simp [PyData.plainAll, pl, pl2], _, .cons h1 h2⟩
end
theorem reads_of (I : Inv X pins σ H s) (g : Good X.K W S H) {d : D} {v : V} {u : Value} {p : PyData} (e : toP d = some p) (q : Rep X.K W d v) (r : RelV v u) : p.plain = true ∧ ∃ as, Reads s.heap u p as := reads_of' I g d v u p e q r
theorem readsAll_of (I : Inv X pins σ H s) (g : Good X.K W S H) {ds : List D} {vs : List V} {us : List Value} {ps : List PyData} (e : toPs ds = some ps) (q : Reps X.K W ds vs) (r : Vals vs us) : PyData.plainAll ps = true ∧ ∃ as, ReadsAll s.heap us ps as := readsAll_of' I g ds vs us ps e q r
mutual
theorem reads_ofS' (I : Inv X pins σ H s) (g : Good X.K W S H) : ∀ (d : D) (v : V) (u : Value) (p : PyData), toPS S d = some p → Rep X.K W d v → RelV v u → p.plain = true ∧ ∃ as, Reads s.heap u p as
  | .non, v, u, p, e, q, r => by simp only [toPS] at e; cases e; cases q; cases r; exact ⟨rfl, _, .none⟩
  | .bl b, v, u, p, e, q, r => by simp only [toPS] at e; cases e; cases q; cases r; exact ⟨rfl, _, .bool b⟩
  | .int i, v, u, p, e, q, r => by simp only [toPS] at e; cases e; cases q; obtain ⟨t, rfl⟩ := r; exact ⟨rfl, _, .int i t⟩
  | .str i, v, u, p, e, q, r => by simp only [toPS] at e; cases e; cases q; obtain ⟨t, rfl⟩ := r; exact ⟨rfl, _, .str i t⟩
  | .tup ds, v, u, p, e, q, r => by
    simp only [toPS] at e
    obtain ⟨ps, e1, rfl⟩ := Option.map_eq_some_iff.mp e
    cases q with
    | tup q r' =>
      cases r
      obtain ⟨its, rv, ⟨o, ho, hc, n, hd⟩, hz⟩ := I.tuple (g.sqT q)
      obtain ⟨pl, as, ra⟩ := readsAll_ofS' I g ds _ _ _ e1 r' rv
      exact ⟨pl, as, .tuple ho hc hd (by simpa using ra)⟩
  | .lst ds, v, u, p, e, q, r => by
    simp only [toPS] at e
    obtain ⟨ps, e1, rfl⟩ := Option.map_eq_some_iff.mp e
    cases q with
    | lst q r' =>
      cases r
      obtain ⟨its, rv, ⟨o, n, ho, hc, _, hd⟩, hz⟩ := I.list (SqL.of (K := X.K) (g.sub _ _ q))
      obtain ⟨pl, as, ra⟩ := readsAll_ofS' I g ds _ _ _ e1 r' rv
      exact ⟨pl, _, .list ho hc hd (by simpa using ra)⟩
  | .ref i, v, u, p, e, q, r => by
    simp only [toPS] at e
    obtain ⟨ds, e1, e2⟩ := Option.bind_eq_some_iff.mp e
    obtain ⟨ps, e3, rfl⟩ := Option.map_eq_some_iff.mp e2
    obtain ⟨a, vs, rfl, h1, h2⟩ := plstOf_ok e1 g q
    cases r
    obtain ⟨its, rv, ⟨o, n, ho, hc, _, hd⟩, hz⟩ := I.list (SqL.of (K := X.K) h1)
    obtain ⟨pl, as, ra⟩ := readsAll_of I g e3 h2 rv
    exact ⟨pl, _, .list ho hc hd (by simpa using ra)⟩
  | .ins _ _, v, u, p, e, q, r => by simp only [toPS] at e; cases e
  | .fn _, v, u, p, e, q, r => by simp only [toPS] at e; cases e
  | .scr _, v, u, p, e, q, r => by simp only [toPS] at e; cases e
  | .slf, v, u, p, e, q, r => by simp only [toPS] at e; cases e
  | .dic _, v, u, p, e, q, r => by simp only [toPS] at e; cases e
  | .exn _ _ _ _, v, u, p, e, q, r => by simp only [toPS] at e; cases e
  | .lam _ _ _ _ _, v, u, p, e, q, r => by simp only [toPS] at e; cases e
theorem readsAll_ofS' (I : Inv X pins σ H s) (g : Good X.K W S H) : ∀ (ds : List D) (vs : List V) (us : List Value) (ps : List PyData), toPSs S ds = some ps → Reps X.K W ds vs → Vals vs us → PyData.plainAll ps = true ∧ ∃ as, ReadsAll s.heap us ps as
  | [], vs, us, ps, e, q, r => by simp only [toPSs] at e; cases e; cases q; cases r; exact ⟨rfl, _, .nil⟩
  | d :: ds, vs, us, ps, e, q, r => by
    simp only [toPSs] at e
    obtain ⟨p1, e1, e2⟩ := Option.bind_eq_some_iff.mp e
    obtain ⟨p2, e3, rfl⟩ := Option.map_eq_some_iff.mp e2
    cases q with
    | cons q r' =>
      cases r with
      | cons ra rb =>
        obtain ⟨pl, as, h1⟩ := reads_ofS' I g d _ _ _ e1 q ra
        obtain ⟨pl2, bs, h2⟩ := readsAll_ofS' I g ds _ _ _ e3 r' rb
        exact ⟨by simp [PyData.plainAll, pl, pl2], _, .cons h1 h2⟩
end
theorem reads_ofS (I : Inv X pins σ H s) (g : Good X.K W S H) {d : D} {v : V} {u : Value} {p : PyData} (e : toPS S d = some p) (q : Rep X.K W d v) (r : RelV v u) : p.plain = true ∧ ∃ as, Reads s.heap u p as := reads_ofS' I g d v u p e q r
end
section
variable {X : Cx}
theorem op_of {f : Value → Value → Sem Value} {r : R2} {g : D → D → PO} (h : OpR X f r) (k : ∀ W S H x y dx dy Q, Good X.K W S H → Rep X.K W dx x → Rep X.K W dy y → oV X.K W (g dx dy S) Q → r x y H Q) : OpR X f (rD2 X.K g) :=
  fun pins s σ H x y v u Q I rx ry ⟨W, S, dx, dy, gd, r1, r2, p⟩ => h pins s σ H x y v u Q I rx ry (k W S H x y dx dy Q gd r1 r2 p)
def pInt2 (ok : Int → Int → Bool) (f : Int → Int → D) : D → D → PO := fun x y S => match x, y with
  | .int i, .int j => if ok i j = true then some (f i j, S) else none
  | _, _ => none
theorem pInt2_inv {ok : Int → Int → Bool} {f : Int → Int → D} {K : PySem.W.Frag} {W : Wd} {S : Store} {x y : V} {dx dy : D} {Q : VK} (r1 : Rep K W dx x) (r2 : Rep K W dy y) (p : oV K W (pInt2 ok f dx dy S) Q) :
    ∃ i j, x = .int i ∧ y = .int j ∧ ok i j = true ∧ oV K W (some (f i j, S)) Q := by
  cases r1 with
  | int i =>
    cases r2 with
    | int j =>
      simp only [pInt2] at p
      split at p
      · exact ⟨i, j, rfl, rfl, by assumption, p⟩
      · exact p.elim
    | _ => exact p.elim
  | _ => cases r2 <;> exact p.elim
def pSub : D → D → PO := pInt2 (fun _ _ => true) fun i j => .int (i - j)
theorem op_pSub : OpR X (binaryOp .Sub) (rD2 X.K pSub) := op_of op_sub fun W S H x y dx dy Q g r1 r2 p => by
  obtain ⟨i, j, rfl, rfl, _, o⟩ := pInt2_inv r1 r2 p
  exact ⟨i, j, rfl, rfl, o.val g (.int _)⟩
def mulOk (i j : Int) : Bool := decide (-(2 ^ 64) < i ∧ i < 2 ^ 64) || decide (-(2 ^ 64) < j ∧ j < 2 ^ 64)
theorem op_mulI : OpR X (binaryOp .Mult) (rD2 X.K (pInt2 mulOk fun i j => .int (i * j))) := op_of op_mul fun W S H x y dx dy Q g r1 r2 p => by
  obtain ⟨i, j, rfl, rfl, h, o⟩ := pInt2_inv r1 r2 p
  refine ⟨i, j, rfl, rfl, ?_, o.val g (.int _)⟩
  simp only [mulOk, Bool.or_eq_true, decide_eq_true_eq] at h
  exact h
def pFdiv : D → D → PO := pInt2 (fun _ j => decide (0 < j ∧ j < 1073741824)) fun i j => .int (i / j)
theorem op_pFdiv : OpR X (binaryOp .FloorDiv) (rD2 X.K pFdiv) := op_of op_fdiv fun W S H x y dx dy Q g r1 r2 p => by
  obtain ⟨i, j, rfl, rfl, h, o⟩ := pInt2_inv r1 r2 p
  exact ⟨i, j, rfl, rfl, of_decide_eq_true (p := 0 < j ∧ j < 1073741824) h, o.val g (.int _)⟩
def pMod : D → D → PO := pInt2 (fun _ j => decide (0 < j)) fun i j => .int (i % j)
theorem op_pMod : OpR X (binaryOp .Mod) (rD2 X.K pMod) := op_of op_mod fun W S H x y dx dy Q g r1 r2 p => by
  obtain ⟨i, j, rfl, rfl, h, o⟩ := pInt2_inv r1 r2 p
  exact ⟨i, j, rfl, rfl, of_decide_eq_true h, o.val g (.int _)⟩
def pPow : D → D → PO := pInt2 (fun i j => decide (0 ≤ j ∧ j ≤ 1000000 ∧ i.natAbs < 2 ^ 64)) fun i j => .int (i ^ j.toNat)
theorem op_pPow : OpR X (binaryOp .Pow) (rD2 X.K pPow) := op_of op_pow fun W S H x y dx dy Q g r1 r2 p => by
  obtain ⟨i, j, rfl, rfl, h, o⟩ := pInt2_inv r1 r2 p
  exact ⟨i, j, rfl, rfl, of_decide_eq_true (p := 0 ≤ j ∧ j ≤ 1000000 ∧ i.natAbs < 2 ^ 64) h, o.val g (.int _)⟩
def pNeg : D → PO := fun x S => match x with
  | .int i => some (.int (-i), S)
  | _ => none
/-- a * b: ints; a list so many times -/
def pMul : D → D → PO := fun x y S => match x, y with
  | .int i, .int j => if mulOk i j = true then some (.int (i * j), S) else none
  | x, .int k => (match plstOf S x with
    | some xs => if -(2 ^ 63) ≤ k ∧ k < 2 ^ 63 ∧ xs.length * k.toNat ≤ sizeLine then newL (List.replicate k.toNat xs).flatten S else none
    | none => none)
  | _, _ => none
theorem reps_repl {K : PySem.W.Frag} {W : Wd} {xs : List D} {vs : List V} (r : Reps K W xs vs) : ∀ n : Nat, Reps K W (List.replicate n xs).flatten (List.replicate n vs).flatten
  | 0 => .nil
  | n + 1 => by
    simp only [List.replicate_succ, List.flatten_cons]
    exact r.append (reps_repl r n)
theorem op_pMul : OpR X (binaryOp .Mult) (rD2 X.K pMul) := fun pins s σ H x y v u Q I rx ry ⟨W, S, dx, dy, g, r1, r2, p⟩ => by
  have lst : ∀ {k : Int} {xs : List D}, plstOf S dx = some xs → y = .int k → oV X.K W (if -(2 ^ 63) ≤ k ∧ k < 2 ^ 63 ∧ xs.length * k.toNat ≤ sizeLine then newL (List.replicate k.toNat xs).flatten S else none) Q → wpAny (model X.prog X.w) X.A (binaryOp .Mult v u) (EP X pins σ Q) X.xe s := by
    intro k xs e ey p
    subst ey
    split at p
    · rename_i h
      obtain ⟨a, vs, rfl, h1, h2⟩ := plstOf_ok e g r1
      refine op_rep pins s σ H _ _ v u Q I rx ry ⟨a, k, vs, rfl, rfl, h1, h.1, h.2.1, by rw [← h2.length]; exact h.2.2, (newL_ok p g (reps_repl h2 k.toNat)).2⟩
    · exact p.elim
  cases r2 with
  | int k =>
    cases r1 with
    | int i =>
      refine op_mulI pins s σ H _ _ v u Q I rx ry ⟨W, S, .int i, .int k, g, .int i, .int k, p⟩
    | lst q r => exact lst rfl rfl p
    | ref h =>
      simp only [pMul] at p
      split at p
      · rename_i xs e
        exact lst e rfl p
      · exact p.elim
    | _ => exact p.elim
  | _ => cases r1 <;> exact p.elim
/-- a + b: ints, texts, tuples, lists -/
def pAdd : D → D → PO := fun x y S => match x, y with
  | .int i, .int j => some (.int (i + j), S)
  | .str a, .str b => if a.length + b.length ≤ sizeLine then some (.str (a ++ b), S) else none
  | .tup a, .tup b => newT (a ++ b) S
  | x, y => (match plstOf S x, plstOf S y with
    | some a, some b => newL (a ++ b) S
    | _, _ => none)
theorem op_pAdd : OpR X (binaryOp .Add) (rD2 X.K pAdd) := fun pins s σ H x y v u Q I rx ry ⟨W, S, dx, dy, g, r1, r2, p⟩ => by
  have lst : ∀ {xs ys : List D}, plstOf S dx = some xs → plstOf S dy = some ys → oV X.K W (newL (xs ++ ys) S) Q → wpAny (model X.prog X.w) X.A (binaryOp .Add v u) (EP X pins σ Q) X.xe s := by
    intro xs ys e1 e2 p
    obtain ⟨a, vs, rfl, h1, h2⟩ := plstOf_ok e1 g r1
    obtain ⟨b, us, rfl, h3, h4⟩ := plstOf_ok e2 g r2
    obtain ⟨hl, k⟩ := newL_ok p g (h2.append h4)
    exact op_cat pins s σ H _ _ v u Q I rx ry ⟨a, b, vs, us, rfl, rfl, h1, h3, by rw [← List.length_append]; exact hl, k⟩
  cases r1 with
  | int i =>
    cases r2 with
    | int j => exact op_add pins s σ H _ _ v u Q I rx ry ⟨i, j, rfl, rfl, p.val g (.int _)⟩
    | _ => simp [pAdd, plstOf] at p; exact p.elim
  | str a =>
    cases r2 with
    | str b =>
      simp only [pAdd] at p
      split at p
      · exact op_add_str pins s σ H _ _ v u Q I rx ry ⟨a, b, rfl, rfl, by assumption, p.val g (.str _)⟩
      · exact p.elim
    | _ => simp [pAdd, plstOf] at p; exact p.elim
  | @tup a vs ds q r =>
    cases r2 with
    | @tup b us es q2 r2 =>
      simp only [pAdd] at p
      have hp := p
      unfold newT at hp
      split at hp
      · rename_i hl
        refine op_catA pins s σ H _ _ v u Q I rx ry ⟨a, b, vs, us, rfl, rfl, g.sqT q, g.sqT q2, by rw [← r.length, ← r2.length, ← List.length_append]; exact hl, ?_⟩
        have el : es.length = us.length := r2.length
        have dl : ds.length = vs.length := r.length
        refine ⟨fun z => ?_, fun z z2 => ?_, fun z z2 => (newT_ok p g (r.append r2)).2⟩
        · subst z
          have : ds = [] := List.eq_nil_of_length_eq_zero (by rw [dl]; rfl)
          subst this
          exact hp.val g (.tup q2 r2)
        · subst z2
          have : es = [] := List.eq_nil_of_length_eq_zero (by rw [el]; rfl)
          subst this
          rw [List.append_nil] at hp
          exact hp.val g (.tup q r)
      · exact hp.elim
    | _ => simp [pAdd, plstOf] at p; exact p.elim
  | lst q r =>
    simp only [pAdd] at p
    split at p
    · rename_i e1 e2; exact lst e1 e2 p
    · exact p.elim
  | ref h =>
    simp only [pAdd] at p
    split at p
    · rename_i e1 e2; exact lst e1 e2 p
    · exact p.elim
  | _ => cases r2 <;> (simp [pAdd, plstOf] at p; exact p.elim)

def pLt : D → D → PO := pInt2 (fun _ _ => true) fun i j => .bl (decide (i < j))
def pLe : D → D → PO := pInt2 (fun _ _ => true) fun i j => .bl (decide (i ≤ j))
def pGt : D → D → PO := pInt2 (fun _ _ => true) fun i j => .bl (decide (j < i))
def pGe : D → D → PO := pInt2 (fun _ _ => true) fun i j => .bl (decide (j ≤ i))
theorem op_pLt : OpR X (compareOp .Lt) (rD2 X.K pLt) := op_of op_lt fun W S H x y dx dy Q g r1 r2 p => by
  obtain ⟨i, j, rfl, rfl, _, o⟩ := pInt2_inv r1 r2 p
  exact ⟨i, j, rfl, rfl, o.val g (.bl _)⟩
theorem op_pLe : OpR X (compareOp .LtE) (rD2 X.K pLe) := op_of op_le fun W S H x y dx dy Q g r1 r2 p => by
  obtain ⟨i, j, rfl, rfl, _, o⟩ := pInt2_inv r1 r2 p
  exact ⟨i, j, rfl, rfl, o.val g (.bl _)⟩
theorem op_pGt : OpR X (compareOp .Gt) (rD2 X.K pGt) := op_of op_gt fun W S H x y dx dy Q g r1 r2 p => by
  obtain ⟨i, j, rfl, rfl, _, o⟩ := pInt2_inv r1 r2 p
  exact ⟨i, j, rfl, rfl, o.val g (.bl _)⟩
theorem op_pGe : OpR X (compareOp .GtE) (rD2 X.K pGe) := op_of op_ge fun W S H x y dx dy Q g r1 r2 p => by
  obtain ⟨i, j, rfl, rfl, _, o⟩ := pInt2_inv r1 r2 p
  exact ⟨i, j, rfl, rfl, o.val g (.bl _)⟩
def eqD (S : Store) (x y : D) : Option Bool := match toPS S x, toPS S y with
  | some a, some b => if a.depth ≤ 60 then some (PyData.eqv a b) else none
  | _, _ => none
def pEq : D → D → PO := fun x y S => (eqD S x y).map fun b => (.bl b, S)
def pNe : D → D → PO := fun x y S => (eqD S x y).map fun b => (.bl (!b), S)
theorem eqD_inv {S : Store} {x y : D} {b : Bool} (h : eqD S x y = some b) : ∃ p q, toPS S x = some p ∧ toPS S y = some q ∧ p.depth ≤ 60 ∧ PyData.eqv p q = b := by
  unfold eqD at h
  cases e1 : toPS S x with
  | none => rw [e1] at h; cases h
  | some p =>
    cases e2 : toPS S y with
    | none => rw [e1, e2] at h; cases h
    | some q =>
      rw [e1, e2] at h
      simp only at h
      split at h
      · exact ⟨p, q, rfl, rfl, by assumption, Option.some.inj h⟩
      · cases h
theorem op_pEq (hu : X.A.units + 64 < cLine) : OpR X (compareOp .Eq) (rD2 X.K pEq) := fun pins s σ H x y v u Q I rx ry ⟨W, S, dx, dy, g, r1, r2, p⟩ => by
  unfold pEq at p
  cases e : eqD S dx dy with
  | none => rw [e] at p; exact p.elim
  | some b =>
    rw [e] at p
    obtain ⟨a, c, e1, e2, hd, rfl⟩ := eqD_inv e
    obtain ⟨p1, as, ra⟩ := reads_ofS I g e1 r1 rx
    obtain ⟨p2, bs, rb⟩ := reads_ofS I g e2 r2 ry
    exact eq_plain ra rb p1 p2 (by omega) ⟨.bl _, H, I, rfl, p.val g (.bl _)⟩
theorem op_pNe (hu : X.A.units + 64 < cLine) : OpR X (compareOp .NotEq) (rD2 X.K pNe) := fun pins s σ H x y v u Q I rx ry ⟨W, S, dx, dy, g, r1, r2, p⟩ => by
  unfold pNe at p
  cases e : eqD S dx dy with
  | none => rw [e] at p; exact p.elim
  | some b =>
    rw [e] at p
    obtain ⟨a, c, e1, e2, hd, rfl⟩ := eqD_inv e
    obtain ⟨p1, as, ra⟩ := reads_ofS I g e1 r1 rx
    obtain ⟨p2, bs, rb⟩ := reads_ofS I g e2 r2 ry
    exact ne_plain ra rb p1 p2 (by omega) ⟨.bl _, H, I, rfl, p.val g (.bl _)⟩
/-- x in y -/
def inD (S : Store) (x y : D) : Option Bool := match y with
  | .str z => (match x with
    | .str w => if w.length = 1 then some (decide (w.cps.getD 0 0 ∈ z.cps.toList)) else none
    | _ => none)
  | y => (match toPS S x, toPS S y with
    | some a, some (.list bs) => if a.depth ≤ 60 then some (bs.any fun b => PyData.eqv b a) else none
    | some a, some (.tuple bs) => if a.depth ≤ 60 then some (bs.any fun b => PyData.eqv b a) else none
    | _, _ => none)
def pIn : D → D → PO := fun x y S => (inD S x y).map fun b => (.bl b, S)
def pNotIn : D → D → PO := fun x y S => (inD S x y).map fun b => (.bl (!b), S)
theorem inD_inv {S : Store} {x y : D} {b : Bool} (h : inD S x y = some b) : (∃ (c : Nat) (z : Str), x = .str ⟨#[c]⟩ ∧ y = .str z ∧ b = decide (c ∈ z.cps.toList)) ∨
    ∃ a bs, toPS S x = some a ∧ (toPS S y = some (.list bs) ∨ toPS S y = some (.tuple bs)) ∧ a.depth ≤ 60 ∧ b = bs.any fun b => PyData.eqv b a := by
  have dat : ∀ {y : D}, (match toPS S x, toPS S y with
    | some a, some (.list bs) => if a.depth ≤ 60 then some (bs.any fun b => PyData.eqv b a) else none
    | some a, some (.tuple bs) => if a.depth ≤ 60 then some (bs.any fun b => PyData.eqv b a) else none
    | _, _ => none) = some b → ∃ a bs, toPS S x = some a ∧ (toPS S y = some (.list bs) ∨ toPS S y = some (.tuple bs)) ∧ a.depth ≤ 60 ∧ b = bs.any fun b => PyData.eqv b a := by
    intro y h
    split at h
    · rename_i a bs e1 e2
      split at h
      · exact ⟨a, bs, e1, .inl e2, by assumption, (Option.some.inj h).symm⟩
      · cases h
    · rename_i a bs e1 e2
      split at h
      · exact ⟨a, bs, e1, .inr e2, by assumption, (Option.some.inj h).symm⟩
      · cases h
    · cases h
  cases y with
  | str z =>
    simp only [inD] at h
    split at h
    · rename_i w
      split at h
      · rename_i hw
        left
        obtain ⟨⟨l⟩⟩ := w
        match l, hw with
        | [c], _ => exact ⟨c, z, rfl, rfl, by simpa using (Option.some.inj h).symm⟩
      · cases h
    · cases h
  | _ => exact .inr (dat h)
theorem op_pIn (hu : X.A.units + 64 < cLine) : OpR X (compareOp .In) (rD2 X.K pIn) := fun pins s σ H x y v u Q I rx ry ⟨W, S, dx, dy, g, r1, r2, p⟩ => by
  unfold pIn at p
  cases e : inD S dx dy with
  | none => rw [e] at p; exact p.elim
  | some b =>
    rw [e] at p
    rcases inD_inv e with ⟨c, z, rfl, rfl, rfl⟩ | ⟨a, bs, e1, e2, hd, rfl⟩
    · cases r1; cases r2
      exact op_in_sign pins s σ H _ _ v u Q I rx ry ⟨c, z, rfl, rfl, p.val g (.bl _)⟩
    · obtain ⟨p1, as, ra⟩ := reads_ofS I g e1 r1 rx
      rcases e2 with e2 | e2
      · obtain ⟨p2, bs', rb⟩ := reads_ofS I g e2 r2 ry
        exact in_list_data rb ra (by simpa [PyData.plain] using p2) p1 (by omega) ⟨.bl _, H, I, rfl, p.val g (.bl _)⟩
      · obtain ⟨p2, bs', rb⟩ := reads_ofS I g e2 r2 ry
        exact in_tuple_data rb ra (by simpa [PyData.plain] using p2) p1 (by omega) ⟨.bl _, H, I, rfl, p.val g (.bl _)⟩
theorem op_pNotIn (hu : X.A.units + 64 < cLine) : OpR X (compareOp .NotIn) (rD2 X.K pNotIn) := fun pins s σ H x y v u Q I rx ry ⟨W, S, dx, dy, g, r1, r2, p⟩ => by
  unfold pNotIn at p
  cases e : inD S dx dy with
  | none => rw [e] at p; exact p.elim
  | some b =>
    rw [e] at p
    rcases inD_inv e with ⟨c, z, rfl, rfl, rfl⟩ | ⟨a, bs, e1, e2, hd, rfl⟩
    · cases r1; cases r2
      exact op_notIn_sign pins s σ H _ _ v u Q I rx ry ⟨c, z, rfl, rfl, p.val g (.bl _)⟩
    · obtain ⟨p1, as, ra⟩ := reads_ofS I g e1 r1 rx
      rcases e2 with e2 | e2
      · obtain ⟨p2, bs', rb⟩ := reads_ofS I g e2 r2 ry
        exact notIn_list_data rb ra (by simpa [PyData.plain] using p2) p1 (by omega) ⟨.bl _, H, I, rfl, p.val g (.bl _)⟩
      · obtain ⟨p2, bs', rb⟩ := reads_ofS I g e2 r2 ry
        exact notIn_tuple_data rb ra (by simpa [PyData.plain] using p2) p1 (by omega) ⟨.bl _, H, I, rfl, p.val g (.bl _)⟩
/-- is None -/
def isNon : D → Bool
  | .non => true
  | _ => false
theorem isNon_ok {K : PySem.W.Frag} {W : Wd} {d : D} {v : V} (r : Rep K W d v) : isNon d = decide (v = .non) := by
  cases r <;> simp [isNon]
def pIs : D → D → PO := fun x y S => match y with
  | .non => some (.bl (isNon x), S)
  | _ => none
theorem op_pIs : OpR X (compareOp .Is) (rD2 X.K pIs) := op_of op_isN fun W S H x y dx dy Q g r1 r2 p => by
  cases r2 with
  | non => exact ⟨rfl, by rw [← isNon_ok r1]; exact p.val g (.bl _)⟩
  | _ => exact p.elim
def pIx : D → D → PO := fun x y S => match x, y with
  | .str z, .int i => if z.length ≤ sizeLine then (atI z.cps.toList i).map fun c => (.str ⟨#[c]⟩, S) else none
  | x, .int i => (seqOf S x).bind fun xs => (atI xs i).map fun d => (d, S)
  | _, _ => none
theorem atI_reps {K : PySem.W.Frag} {W : Wd} {ds : List D} {vs : List V} {i : Int} {d : D} (r : Reps K W ds vs) (e : atI ds i = some d) : ∃ v, atI vs i = some v ∧ Rep K W d v := by
  unfold atI at e ⊢
  rw [← r.length]
  obtain ⟨j, e1, e2⟩ := Option.bind_eq_some_iff.mp e
  obtain ⟨v, h1, h2⟩ := r.get e2
  exact ⟨v, Option.bind_eq_some_iff.mpr ⟨j, e1, h1⟩, h2⟩
theorem ix_pIx : IxR X (rD2 X.K pIx) := fun value slice pins s σ H x y v u Q I rx ry ⟨W, S, dx, dy, g, r1, r2, p⟩ hs => by
  have sq : ∀ {i : Int}, y = .int i → oV X.K W ((seqOf S dx).bind fun xs => (atI xs i).map fun d => (d, S)) Q → wpAny (model X.prog X.w) X.A (subscriptTail value slice v u) (EP X pins σ Q) X.xe s := by
    intro i ey p
    subst ey
    cases e : seqOf S dx with
    | none => rw [e] at p; exact p.elim
    | some xs =>
      rw [e] at p
      simp only [Option.bind_some] at p
      cases e2 : atI xs i with
      | none => rw [e2] at p; exact p.elim
      | some d =>
        rw [e2] at p
        obtain ⟨a, vs, rfl, h2, h3⟩ := seqOf_ok e g r1
        obtain ⟨w, h4, h5⟩ := atI_reps h3 e2
        refine ix_seq value slice pins s σ H _ _ v u Q I rx ry ?_ hs
        rcases h2 with h2 | h2
        · exact .inl ⟨a, vs, i, w, rfl, rfl, h2, h4, p.val g h5⟩
        · exact .inr (.inl ⟨a, vs, i, w, rfl, rfl, h2, h4, p.val g h5⟩)
  cases r2 with
  | int i =>
    cases r1 with
    | str z =>
      simp only [pIx] at p
      split at p
      · rename_i hl
        cases e : atI z.cps.toList i with
        | none => rw [e] at p; exact p.elim
        | some c =>
          rw [e] at p
          exact ix_seq value slice pins s σ H _ _ v u Q I rx ry (.inr (.inr ⟨z, i, c, rfl, rfl, hl, e, p.val g (.str _)⟩)) hs
      · exact p.elim
    | _ => exact sq rfl p
  | _ => cases r1 <;> exact p.elim
end
end Ev
namespace Ev
open PySem PySem.Spec PySem.SeqAt L2 PyProof.Rows
/-- a def's promise, asked only where no repr is under way -/
structure FnG (P : Program) (w : World) (K : PySem.W.Frag) (mg : Str → Option Value) (base : Heap) (k : Nat) (f : Addr) (fd : FuncData) (ps : List Str) (sp : Sp) : Prop where
  len : ∀ vs H Q E, sp vs H Q E → vs.length = ps.length
  run : ∀ (A : Around), A.guards = some [] → ∀ (outer : List Env) (s : Shared) (H : Hp) (args : Args) (us : List Value) (vs : List V) (Q : VK) (E : XK),
    Room k A → Env0 P w K mg base A outer s H → BindsTo s fd args (ps.zip us) → Vals vs us → sp vs H Q E →
    codeAny (model P w) A (.call (.ref f) args) (CR (L2N.CX P w) outer P w H s Q E) s
theorem FnG.mono {P : Program} {w : World} {K : PySem.W.Frag} {mg : Str → Option Value} {base : Heap} {j k : Nat} {f : Addr} {fd : FuncData} {ps : List Str} {sp : Sp} (F : FnG P w K mg base j f fd ps sp) (h : j ≤ k) : FnG P w K mg base k f fd ps sp :=
  ⟨F.len, fun A hg outer s H args us vs Q E r => F.run A hg outer s H args us vs Q E (r.mono h)⟩
/-- from the body's reading -/
theorem fnG_of {P : Program} {w : World} {K : PySem.W.Frag} {mg : Str → Option Value} {base : Heap} {k : Nat} {f : Addr} {name qual : Str} {params : Arguments} {body : List Stmt} {scope : Scope} {dvs : List V} {kws : List (Str × V)} {fd : FuncData} {N ps : List Str} {sp : Sp}
    (F : FunD K name qual params body scope dvs kws f fd) (Sc : FnScope N ps scope) (len : ∀ vs H Q E, sp vs H Q E → vs.length = ps.length)
    (bd : ∀ (cdv : Value) (A : Around) (outer : List Env) (s : Shared) (H : Hp) (vs : List V) (Q : VK) (E : XK), A.guards = some [] → Room k (A.deeper (envOfC qual scope s.heap.objs.size f cdv)) → sp vs H Q E →
      ∃ t, PSs (cxOf (L2N.CX P w) P w K mg base N qual scope f cdv A outer s H E) body t ∧ t { nx := fun _ H' => Q .non H', rt := Q } (start N vs) H) : FnG P w K mg base (k + 1) f fd ps sp := by
  obtain ⟨oc, od, dV, kV, doc, pm, an, cdv, ct, osl, rfl, lk, hcd, _, _⟩ := F.ex
  refine ⟨len, fun A hg outer s H args us vs Q E room e0 hb rel want => ?_⟩
  have eqn := len _ _ _ _ want
  have KX : K.In s.heap := e0.mod.kin.keeps (fun b o e => (e0.bs b o e).left)
  have lim : s.heap.NoLimit := e0.mod.nolimit.keeps (fun b o e => (e0.bs b o e).left)
  refine codeAny_call_function room.depth (KX _ _ lk) rfl Sc.co Sc.gen rfl (PySem.W.codeRec_of KX hcd) (hb _ _ _ _ ?_)
  refine wpAny_newFunctionEnv_cells Sc.kind (fun ⟨n, v⟩ hy => ?_) (fun env he s1 x => ?_)
  · rcases Sc.par n (List.of_mem_zip hy).left with q | q
    · exact Or.inl q
    · exact Or.inr ⟨q, PySem.W.cellsFrom_some _ _ _ (Or.inl q)⟩
  · subst he
    refine ⟨lim.keeps x.toInCall.keep, codeAny_func ?_⟩
    obtain ⟨t, ht, hq⟩ := bd cdv A outer s H vs Q E hg (room.deeper _) want
    have J := inv_start (CX := L2N.CX P w) (E := E) Sc room.hd e0 eqn rel x
    refine wpAny_mono (ht.run [] s1 (start N vs) H _ J hq) (fun fl s' hs => ?_) (fun _ _ hs => hs)
    cases fl with
    | ret u =>
      obtain ⟨v, _, H', J2, rv, q⟩ := hs
      exact ⟨v, H', J2.os, J2.bare, J2.base, J2.hok, rv, q⟩
    | next =>
      obtain ⟨_, H', J2, q⟩ := hs
      exact ⟨.non, H', J2.os, J2.bare, J2.base, J2.hok, rfl, q⟩
    | brk =>
      obtain ⟨_, _, _, q⟩ := hs
      exact q.elim
    | cont =>
      obtain ⟨_, _, _, q⟩ := hs
      exact q.elim

/-- the promise: what the evaluator's function says -/
def spM (K : PySem.W.Frag) (n : Nat) (m : List D → M D) : Sp := fun vs H Q E => vs.length = n ∧ ∃ W S ds, Good K W S H ∧ Reps K W ds vs ∧ okP K (Rep K) W (m ds S) [] (fun cls d _ H' => E cls d H') Q
/-- a value that may be called: what comes of it, by place and by name -/
def CallF (X : Cx) (Wx : WX) (f : Value) (ks : List Str) (m : List D → List D → M D) : Prop :=
  ∀ (pins : List (Addr × Obj)) (s : Shared) (σ : L2.St) (H : Hp) (vs zs : List V) (us ws : List Value) (Q : VK), Inv X pins σ H s → Vals vs us → Vals zs ws → zs.length = ks.length →
    (∃ W S ds es, Good X.K W S H ∧ Reps X.K W ds vs ∧ Reps X.K W es zs ∧ okP X.K (Rep X.K) W (m ds es S) σ Wx Q) → wpAny (model X.prog X.w) X.A (call f us (ks.zip ws)) (EP X pins σ Q) X.xe s
/-- how arguments come to parameters -/
structure BindG (K : PySem.W.Frag) (fd : FuncData) (ps ks : List Str) (pick : {α : Type} → List α → List α → Option (List α)) : Prop where
  to : ∀ (s : Shared) (us ws as : List Value), K.In s.heap → pick us ws = some as → as.length = ps.length → ws.length = ks.length → BindsTo s fd ⟨us, ks.zip ws⟩ (ps.zip as)
  rel : ∀ {α β : Type} {F : α → β → Prop} {xs ys : List α} {us ws : List β} {as : List α}, Paired F xs us → Paired F ys ws → pick xs ys = some as → ∃ bs, pick us ws = some bs ∧ Paired F as bs
section
variable {X : Cx} {Wx : WX}
variable {x nm : Str} {p pos apos : Pos} {e o : Expr} {es : List Expr} {kws : List Keyword} {ks : List Str} {mas mks : MA} {mo : ME} {m : List D → List D → M D} {f : Addr}
def eCallF (m : List D → List D → M D) (mas mks : MA) : ME := fun δ => M.bind (mas δ) fun xs => M.bind (mks δ) fun ys => m xs ys
/-- f(e, ..) -/
theorem se_call (hf : CallF X Wx (.ref f) [] m) (hgl : Gl X x) (hm : X.mg x = some (.ref f)) (hk : PySem.W.keepIn X.K (.ref f) = true) (hdb : (x == ("__debug__" : Str)) = false) (ha : SA X Wx (e :: es) mas)
    (he : starEach (e :: es) X.env = (false, eval e X.env) :: starEach es X.env) (hpl : (backTo pos (starEach es X.env)).any (·.1) = false) : SE X Wx (.Call (.Name x p) (e :: es) [] pos) (eCallF m mas aNil) :=
  ⟨fun pins s σ H Q I ⟨W, S, δ, g, r, pp⟩ => by
    refine wpAny_Call_Name_kw (ld_glob I hgl hm ?_ hdb)
    refine PySem.W.callWith_K (h₀ := X.base) I.ok.mod.kin hk (thn (ha.run pos pins s σ H _ I ⟨W, S, δ, g, r, okP.bind (R := Reps X.K) pp⟩) fun us s1 ⟨vs, H1, I1, rv, W1, S1, ds, l1, g1, r1, p1⟩ => ⟨I1.kIn, ?_⟩) he hpl
    exact hf pins s1 σ H1 vs [] us [] Q I1 rv .nil rfl ⟨W1, S1, ds, [], g1, r1, .nil, p1⟩⟩
def clsOf (S : Store) : D → Option (Str × List (Str × D))
  | .ins c fs => some (c, fs)
  | .ref i => (match S[i]? with
    | some (some (.ins c fs)) => some (c, fs)
    | _ => none)
  | _ => none
theorem lookup_reps {K : PySem.W.Frag} {W : Wd} {x : Str} {d : D} : ∀ {fs : List (Str × D)} {gs : List (Str × V)}, gs.map (·.1) = fs.map (·.1) → Reps K W (fs.map (·.2)) (gs.map (·.2)) → fs.lookup x = some d → ∃ v, gs.lookup x = some v ∧ Rep K W d v
  | [], _, _, _, h => by cases h
  | _ :: _, [], e, _, _ => by cases e
  | (a, d1) :: fs, (b, v1) :: gs, e, r, h => by
    simp only [List.map_cons, List.cons.injEq] at e
    obtain ⟨rfl, e⟩ := e
    cases r with
    | cons r1 r2 =>
      simp only [List.lookup_cons] at h ⊢
      cases q : x == b with
      | true => rw [q] at h; cases h; exact ⟨v1, rfl, r1⟩
      | false => rw [q] at h; exact lookup_reps e r2 h
theorem clsOf_ok {K : PySem.W.Frag} {W : Wd} {S : Store} {H : Hp} {d : D} {v : V} {c : Str} {fs : List (Str × D)} (e : clsOf S d = some (c, fs)) (g : Good K W S H) (r : Rep K W d v) :
    ∃ a dx vfs, v = .ref a ∧ H a = some (.ins (He.ga K c) dx vfs) ∧ vfs.map (·.1) = fs.map (·.1) ∧ Reps K W (fs.map (·.2)) (vfs.map (·.2)) := by
  cases r with
  | @ins a dx c' vfs fs' h1 h2 h3 =>
    cases e
    exact ⟨a, dx, vfs, rfl, g.sub _ _ h1, h2, h3⟩
  | @ref i a h =>
    simp only [clsOf] at e
    split at e
    · rename_i c' fs' hc
      cases e
      obtain ⟨a', e1, e2, _, dx, vfs, e3, e4, e5⟩ := g.cell i _ hc
      rw [h] at e1; cases e1
      exact ⟨a, dx, vfs, rfl, e3, e4, e5⟩
    · cases e
  | _ => cases e
/-- o.f: an attribute that the instance has -/
def eFld (ok : Str → Bool) (f : Str) (mo : ME) : ME := fun δ => M.bind (mo δ) fun x S => match clsOf S x with
  | some (c, fs) => if ok c = true then (match fs.lookup f with
    | some d => .ok d S
    | none => .bad) else .bad
  | none => .bad
theorem se_fld {ok : Str → Bool} {fl : Str} (ho : SE X Wx o mo) (hcls : ∀ c, ok c = true → Cls X.K (He.ga X.K c) ∧ NoAttr X.K (He.ga X.K c) fl) (hb : attributeBase o fl X.env (eval o X.env) = eval o X.env) : SE X Wx (.Attribute o fl pos) (eFld ok fl mo) :=
  PE.imp (pe_fld ho hb) fun σ H Q ⟨W, S, δ, g, r, p⟩ => ⟨W, S, δ, g, r, (okP.bind (R := Rep X.K) p).imp fun v H1 ⟨W1, S1, d, l1, g1, r1, p1⟩ => by
    cases e : clsOf S1 d with
    | none => rw [e] at p1; exact p1.elim
    | some q =>
      obtain ⟨c, fs⟩ := q
      rw [e] at p1
      dsimp only at p1
      split at p1
      · rename_i hok
        cases e2 : fs.lookup fl with
        | none => rw [e2] at p1; exact p1.elim
        | some d2 =>
          rw [e2] at p1
          obtain ⟨a, dx, vfs, rfl, h1, h2, h3⟩ := clsOf_ok e g1 r1
          obtain ⟨v2, h4, h5⟩ := lookup_reps h2 h3 e2
          exact ⟨a, _, dx, vfs, v2, rfl, h1, (hcls c hok).1, (hcls c hok).2, h4, p1 W1 H1 v2 W1.le_refl g1 h5⟩
      · exact p1.elim⟩
end
end Ev
namespace Ev
open PySem PySem.Spec PySem.SeqAt L2 PyProof.Rows
section
variable {X : Cx}
theorem call_of {f : Value} {r : List V → Hp → VK → Prop} {g : List D → PO} (h : CallR X f r) (k : ∀ W S H vs ds Q, Good X.K W S H → Reps X.K W ds vs → oV X.K W (g ds S) Q → r vs H Q) : CallR X f (rDC X.K g) :=
  fun pins s σ H vs us Q I rv ⟨W, S, ds, gd, r1, p⟩ => h pins s σ H vs us Q I rv (k W S H vs ds Q gd r1 p)
theorem reps1 {K : PySem.W.Frag} {W : Wd} {d : D} {vs : List V} (r : Reps K W [d] vs) : ∃ v, vs = [v] ∧ Rep K W d v := by
  cases r with
  | cons r t => cases t; exact ⟨_, rfl, r⟩
theorem reps2 {K : PySem.W.Frag} {W : Wd} {d e : D} {vs : List V} (r : Reps K W [d, e] vs) : ∃ v u, vs = [v, u] ∧ Rep K W d v ∧ Rep K W e u := by
  cases r with
  | cons r t =>
    obtain ⟨u, rfl, q⟩ := reps1 t
    exact ⟨_, u, rfl, r, q⟩
def intsOf : List D → Option (List Int)
  | [] => some []
  | .int i :: ds => (intsOf ds).map fun l => i :: l
  | _ :: _ => none
theorem intsOf_ok {K : PySem.W.Frag} {W : Wd} : ∀ {ds : List D} {vs : List V} {ns : List Int}, intsOf ds = some ns → Reps K W ds vs → ds = ns.map D.int ∧ vs = ns.map V.int
  | [], _, _, e, .nil => by cases e; exact ⟨rfl, rfl⟩
  | .int i :: ds, _, _, e, .cons r t => by
    simp only [intsOf] at e
    obtain ⟨l, e1, rfl⟩ := Option.map_eq_some_iff.mp e
    cases r
    obtain ⟨h1, h2⟩ := intsOf_ok e1 t
    exact ⟨by rw [h1]; rfl, by rw [h2]; rfl⟩
  | .non :: _, _, _, e, _ | .bl _ :: _, _, _, e, _ | .str _ :: _, _, _, e, _ | .tup _ :: _, _, _, e, _ | .lst _ :: _, _, _, e, _ | .ins _ _ :: _, _, _, e, _ | .ref _ :: _, _, _, e, _ | .fn _ :: _, _, _, e, _ | .scr _ :: _, _, _, e, _ | .slf :: _, _, _, e, _ | .dic _ :: _, _, _, e, _ => by cases e
def blsOf : List D → Option (List Bool)
  | [] => some []
  | .bl i :: ds => (blsOf ds).map fun l => i :: l
  | _ :: _ => none
theorem blsOf_ok {K : PySem.W.Frag} {W : Wd} : ∀ {ds : List D} {vs : List V} {ns : List Bool}, blsOf ds = some ns → Reps K W ds vs → ds = ns.map D.bl ∧ vs = ns.map V.bl
  | [], _, _, e, .nil => by cases e; exact ⟨rfl, rfl⟩
  | .bl i :: ds, _, _, e, .cons r t => by
    simp only [blsOf] at e
    obtain ⟨l, e1, rfl⟩ := Option.map_eq_some_iff.mp e
    cases r
    obtain ⟨h1, h2⟩ := blsOf_ok e1 t
    exact ⟨by rw [h1]; rfl, by rw [h2]; rfl⟩
  | .non :: _, _, _, e, _ | .int _ :: _, _, _, e, _ | .str _ :: _, _, _, e, _ | .tup _ :: _, _, _, e, _ | .lst _ :: _, _, _, e, _ | .ins _ _ :: _, _, _, e, _ | .ref _ :: _, _, _, e, _ | .fn _ :: _, _, _, e, _ | .scr _ :: _, _, _, e, _ | .slf :: _, _, _, e, _ | .dic _ :: _, _, _, e, _ => by cases e
def strsOf : List D → Option (List Str)
  | [] => some []
  | .str i :: ds => (strsOf ds).map fun l => i :: l
  | _ :: _ => none
theorem strsOf_ok {K : PySem.W.Frag} {W : Wd} : ∀ {ds : List D} {vs : List V} {ns : List Str}, strsOf ds = some ns → Reps K W ds vs → ds = ns.map D.str ∧ vs = ns.map V.str
  | [], _, _, e, .nil => by cases e; exact ⟨rfl, rfl⟩
  | .str i :: ds, _, _, e, .cons r t => by
    simp only [strsOf] at e
    obtain ⟨l, e1, rfl⟩ := Option.map_eq_some_iff.mp e
    cases r
    obtain ⟨h1, h2⟩ := strsOf_ok e1 t
    exact ⟨by rw [h1]; rfl, by rw [h2]; rfl⟩
  | .non :: _, _, _, e, _ | .int _ :: _, _, _, e, _ | .bl _ :: _, _, _, e, _ | .tup _ :: _, _, _, e, _ | .lst _ :: _, _, _, e, _ | .ins _ _ :: _, _, _, e, _ | .ref _ :: _, _, _, e, _ | .fn _ :: _, _, _, e, _ | .scr _ :: _, _, _, e, _ | .slf :: _, _, _, e, _ | .dic _ :: _, _, _, e, _ => by cases e
theorem reps_strs {K : PySem.W.Frag} {W : Wd} : ∀ ns : List Str, Reps K W (ns.map D.str) (ns.map V.str)
  | [] => .nil
  | n :: ns => .cons (.str n) (reps_strs ns)
def pLen : List D → PO := fun ds S => match ds with
  | [.str z] => if z.length ≤ sizeLine then some (.int z.length, S) else none
  | [x] => (seqOf S x).map fun xs => (.int xs.length, S)
  | _ => none
theorem cr_pLen : CallR X (.builtin "len") (rDC X.K pLen) := call_of call_len fun W S H vs ds Q g r p => by
  match ds, r, p with
  | [], _, p => exact p.elim
  | [d], r, p =>
    obtain ⟨v, rfl, q⟩ := reps1 r
    have sq : oV X.K W ((seqOf S d).map fun xs => (.int xs.length, S)) Q → ∃ x n, [v] = [x] ∧ LenV X.K x H n ∧ Q (.int n) H := fun p => by
      cases e : seqOf S d with
      | none => rw [e] at p; exact p.elim
      | some xs =>
        rw [e] at p
        obtain ⟨a, us, rfl, h2, h3⟩ := seqOf_ok e g q
        refine ⟨_, xs.length, rfl, ?_, p.val g (.int _)⟩
        rcases h2 with h2 | h2
        · exact .inl ⟨us, h2, h3.length⟩
        · exact .inr ⟨us, h2, h3.length⟩
    cases q with
    | str z =>
      simp only [pLen] at p
      split at p
      · exact ⟨_, z.length, rfl, ⟨by assumption, rfl⟩, p.val g (.int _)⟩
      · exact p.elim
    | _ => exact sq p
  | a :: _ :: _, _, p => cases a <;> exact p.elim
def pAbs : List D → PO := fun ds S => match ds with
  | [.int i] => some (.int (if i < 0 then -i else i), S)
  | _ => none
theorem cr_pAbs : CallR X (.builtin "abs") (rDC X.K pAbs) := call_of call_abs fun W S H vs ds Q g r p => by
  match ds, r, p with
  | [.int i], r, p =>
    obtain ⟨v, rfl, q⟩ := reps1 r
    cases q
    exact ⟨i, rfl, p.val g (.int _)⟩
def minL : List Int → Int
  | [] => 0
  | [x] => x
  | x :: y :: r => if x ≤ minL (y :: r) then x else minL (y :: r)
theorem minL_ok : ∀ l : List Int, l ≠ [] → minL l ∈ l ∧ ∀ y ∈ l, minL l ≤ y
  | [], h => (h rfl).elim
  | [x], _ => ⟨by simp [minL], by simp [minL]⟩
  | x :: y :: r, _ => by
    obtain ⟨h1, h2⟩ := minL_ok (y :: r) (by simp)
    unfold minL
    split
    · rename_i h
      refine ⟨by simp, fun z hz => ?_⟩
      rcases List.mem_cons.mp hz with rfl | hz
      · exact Int.le_refl _
      · exact Int.le_trans h (h2 z hz)
    · rename_i h
      refine ⟨List.mem_cons_of_mem _ h1, fun z hz => ?_⟩
      rcases List.mem_cons.mp hz with rfl | hz
      · omega
      · exact h2 z hz
def maxL : List Int → Int
  | [] => 0
  | [x] => x
  | x :: y :: r => if maxL (y :: r) ≤ x then x else maxL (y :: r)
theorem maxL_ok : ∀ l : List Int, l ≠ [] → maxL l ∈ l ∧ ∀ y ∈ l, y ≤ maxL l
  | [], h => (h rfl).elim
  | [x], _ => ⟨by simp [maxL], by simp [maxL]⟩
  | x :: y :: r, _ => by
    obtain ⟨h1, h2⟩ := maxL_ok (y :: r) (by simp)
    unfold maxL
    split
    · rename_i h
      refine ⟨by simp, fun z hz => ?_⟩
      rcases List.mem_cons.mp hz with rfl | hz
      · exact Int.le_refl _
      · exact Int.le_trans (h2 z hz) h
    · rename_i h
      refine ⟨List.mem_cons_of_mem _ h1, fun z hz => ?_⟩
      rcases List.mem_cons.mp hz with rfl | hz
      · omega
      · exact h2 z hz
def pMin : List D → PO := fun ds S => match ds with
  | [x, y] => (match x, y with
    | .int i, .int j => some (.int (if j < i then j else i), S)
    | _, _ => none)
  | [x] => ((lstOf S x).bind intsOf).bind fun ns => if ns = [] then none else some (.int (minL ns), S)
  | _ => none
def pMax : List D → PO := fun ds S => match ds with
  | [x, y] => (match x, y with
    | .int i, .int j => some (.int (if j > i then j else i), S)
    | _, _ => none)
  | [x] => ((lstOf S x).bind intsOf).bind fun ns => if ns = [] then none else some (.int (maxL ns), S)
  | _ => none
theorem ints_of_lst {W : Wd} {S : Store} {H : Hp} {d : D} {v : V} {ns : List Int} (g : Good X.K W S H) (q : Rep X.K W d v) (e : (lstOf S d).bind intsOf = some ns) : ∃ a, v = .ref a ∧ SqL X.K H a (ns.map V.int) := by
  obtain ⟨xs, e1, e2⟩ := Option.bind_eq_some_iff.mp e
  obtain ⟨a, us, rfl, h2, h3⟩ := lstOf_ok e1 g q
  obtain ⟨rfl, rfl⟩ := intsOf_ok e2 h3
  exact ⟨a, rfl, h2⟩
theorem cr_pMin (hc : X.calm = true) : CallR X (.builtin "min") (rDC X.K pMin) := fun pins s σ H vs us Q I rv ⟨W, S, ds, g, r, p⟩ => by
  have one : ∀ {d : D}, ds = [d] → oV X.K W (((lstOf S d).bind intsOf).bind fun ns => if ns = [] then none else some (.int (minL ns), S)) Q → wpAny (model X.prog X.w) X.A (call (.builtin "min") us) (EP X pins σ Q) X.xe s := by
    intro d ed p'
    clear p
    subst ed
    obtain ⟨v, rfl, q⟩ := reps1 r
    cases e : (lstOf S d).bind intsOf with
    | none => rw [e] at p'; exact p'.elim
    | some ns =>
      rw [e] at p'
      simp only [Option.bind_some] at p'
      split at p'
      · exact p'.elim
      · rename_i hn
        obtain ⟨a, rfl, h⟩ := ints_of_lst g q e
        obtain ⟨m1, m2⟩ := minL_ok ns hn
        refine cr_min hc pins s σ H _ us Q I rv ⟨a, ns, rfl, h, List.length_pos_iff.mpr hn, fun m h1 h2 => ?_⟩
        have : m = minL ns := Int.le_antisymm (h2 _ m1) (m2 _ h1)
        rw [this]
        exact p'.val g (.int _)
  match ds, r, p, @one with
  | [], _, p, _ => exact p.elim
  | [d], _, p, one => exact @one d rfl p
  | [d, e], r, p, _ =>
    obtain ⟨v, u, rfl, q1, q2⟩ := reps2 r
    cases q1 with
    | int i =>
      cases q2 with
      | int j => exact call_min2 hc pins s σ H _ us Q I rv ⟨i, j, rfl, p.val g (.int _)⟩
      | _ => exact p.elim
    | _ => cases q2 <;> exact p.elim
  | _ :: _ :: _ :: _, _, p, _ => exact p.elim
theorem cr_pMax (hc : X.calm = true) : CallR X (.builtin "max") (rDC X.K pMax) := fun pins s σ H vs us Q I rv ⟨W, S, ds, g, r, p⟩ => by
  have one : ∀ {d : D}, ds = [d] → oV X.K W (((lstOf S d).bind intsOf).bind fun ns => if ns = [] then none else some (.int (maxL ns), S)) Q → wpAny (model X.prog X.w) X.A (call (.builtin "max") us) (EP X pins σ Q) X.xe s := by
    intro d ed p'
    clear p
    subst ed
    obtain ⟨v, rfl, q⟩ := reps1 r
    cases e : (lstOf S d).bind intsOf with
    | none => rw [e] at p'; exact p'.elim
    | some ns =>
      rw [e] at p'
      simp only [Option.bind_some] at p'
      split at p'
      · exact p'.elim
      · rename_i hn
        obtain ⟨a, rfl, h⟩ := ints_of_lst g q e
        obtain ⟨m1, m2⟩ := maxL_ok ns hn
        refine cr_max hc pins s σ H _ us Q I rv ⟨a, ns, rfl, h, List.length_pos_iff.mpr hn, fun m h1 h2 => ?_⟩
        have : m = maxL ns := Int.le_antisymm (m2 _ h1) (h2 _ m1)
        rw [this]
        exact p'.val g (.int _)
  match ds, r, p, @one with
  | [], _, p, _ => exact p.elim
  | [d], _, p, one => exact @one d rfl p
  | [d, e], r, p, _ =>
    obtain ⟨v, u, rfl, q1, q2⟩ := reps2 r
    cases q1 with
    | int i =>
      cases q2 with
      | int j => exact call_max2 hc pins s σ H _ us Q I rv ⟨i, j, rfl, p.val g (.int _)⟩
      | _ => exact p.elim
    | _ => cases q2 <;> exact p.elim
  | _ :: _ :: _ :: _, _, p, _ => exact p.elim
def pSum : List D → PO := fun ds S => match ds with
  | [x] => ((lstOf S x).bind intsOf).map fun ns => (.int ns.sum, S)
  | _ => none
def pAll (b : Bool) : List D → PO := fun ds S => match ds with
  | [x] => ((lstOf S x).bind blsOf).map fun ns => (.bl (if b then ns.all id else ns.any id), S)
  | _ => none
theorem bls_of_lst {W : Wd} {S : Store} {H : Hp} {d : D} {v : V} {ns : List Bool} (g : Good X.K W S H) (q : Rep X.K W d v) (e : (lstOf S d).bind blsOf = some ns) : ∃ a, v = .ref a ∧ SqL X.K H a (ns.map V.bl) := by
  obtain ⟨xs, e1, e2⟩ := Option.bind_eq_some_iff.mp e
  obtain ⟨a, us, rfl, h2, h3⟩ := lstOf_ok e1 g q
  obtain ⟨rfl, rfl⟩ := blsOf_ok e2 h3
  exact ⟨a, rfl, h2⟩
theorem cr_pAll (hc : X.calm = true) : CallR X (.builtin "all") (rDC X.K (pAll true)) := call_of (cr_all hc) fun W S H vs ds Q g r p => by
  match ds, r, p with
  | [d], r, p =>
    obtain ⟨v, rfl, q⟩ := reps1 r
    simp only [pAll] at p
    cases e : (lstOf S d).bind blsOf with
    | none => rw [e] at p; exact p.elim
    | some ns =>
      rw [e] at p
      obtain ⟨a, rfl, h⟩ := bls_of_lst g q e
      exact ⟨a, ns, rfl, h, p.val g (.bl _)⟩
def pDivmod : List D → PO := fun ds S => match ds with
  | [.int i, .int j] => if 0 < j ∧ j < 1073741824 then some (.tup [.int (i / j), .int (i % j)], S) else none
  | _ => none
theorem cr_pDivmod : CallR X (.builtin "divmod") (rDC X.K pDivmod) := call_of call_divmod fun W S H vs ds Q g r p => by
  match ds, r, p with
  | [.int i, .int j], r, p =>
    obtain ⟨v, u, rfl, q1, q2⟩ := reps2 r
    cases q1; cases q2
    simp only [pDivmod] at p
    split at p
    · rename_i h
      exact ⟨i, j, rfl, h, fun a n => p.new g n (.tup (SqT.of upd_same) (.cons (.int _) (.cons (.int _) .nil)))⟩
    · exact p.elim
def pInt : List D → PO := fun ds S => match ds with
  | [.int i] => some (.int i, S)
  | [.bl b] => some (.int (if b then 1 else 0), S)
  | [.str a] => if a.length ≤ 640 then (PySem.intText? a).map fun n => (.int n, S) else none
  | _ => none
theorem cr_pInt : CallR X (.type "int") (rDC X.K pInt) := fun pins s σ H vs us Q I rv ⟨W, S, ds, g, r, p⟩ => by
  match ds, r, p with
  | [.int i], r, p =>
    obtain ⟨v, rfl, q⟩ := reps1 r
    cases q
    exact call_int1 pins s σ H _ us Q I rv (.inl ⟨i, rfl, p.val g (.int _)⟩)
  | [.bl i], r, p =>
    obtain ⟨v, rfl, q⟩ := reps1 r
    cases q
    exact call_int1 pins s σ H _ us Q I rv (.inr ⟨i, rfl, p.val g (.int _)⟩)
  | [.str a], r, p =>
    obtain ⟨v, rfl, q⟩ := reps1 r
    cases q
    simp only [pInt] at p
    split at p
    · rename_i h
      cases e : PySem.intText? a with
      | none => rw [e] at p; exact p.elim
      | some n =>
        rw [e] at p
        exact call_int_str pins s σ H _ us Q I rv ⟨a, n, rfl, e, h, p.val g (.int _)⟩
    · exact p.elim
def pStr : List D → PO := fun ds S => match ds with
  | [.int i] => if i.natAbs.log2 < 1920 then some (.str (toString i), S) else none
  | [.str a] => some (.str a, S)
  | _ => none
theorem cr_pStr : CallR X (.type "str") (rDC X.K pStr) := fun pins s σ H vs us Q I rv ⟨W, S, ds, g, r, p⟩ => by
  match ds, r, p with
  | [.int i], r, p =>
    obtain ⟨v, rfl, q⟩ := reps1 r
    cases q
    simp only [pStr] at p
    split at p
    · exact call_str_int pins s σ H _ us Q I rv ⟨i, rfl, by assumption, p.val g (.str _)⟩
    · exact p.elim
  | [.str a], r, p =>
    obtain ⟨v, rfl, q⟩ := reps1 r
    cases q
    exact SkE.call_str_str pins s σ H _ us Q I rv ⟨a, rfl, p.val g (.str _)⟩
def pTuple : List D → PO := fun ds S => match ds with
  | [.tup xs] => some (.tup xs, S)
  | [x] => (lstOf S x).bind fun xs => newT xs S
  | _ => none
theorem cr_pTuple : CallR X (.type "tuple") (rDC X.K pTuple) := call_of call_tuple_of fun W S H vs ds Q g r p => by
  match ds, r, p with
  | [], _, p => exact p.elim
  | a :: _ :: _, _, p => cases a <;> exact p.elim
  | [d], r, p =>
    obtain ⟨v, rfl, q⟩ := reps1 r
    have ls : oV X.K W ((lstOf S d).bind fun xs => newT xs S) Q → ∃ p ys, [v] = [.ref p] ∧ ((SqL X.K H p ys ∧ ∀ l, H l = none → Q (.ref l) (upd H l (.tup ys))) ∨ (SqT X.K H p ys ∧ Q (.ref p) H)) := fun p => by
      cases e : lstOf S d with
      | none => rw [e] at p; exact p.elim
      | some xs =>
        rw [e] at p
        obtain ⟨a, us, rfl, h2, h3⟩ := lstOf_ok e g q
        exact ⟨a, us, rfl, .inl ⟨h2, (newT_ok p g h3).2⟩⟩
    cases q with
    | @tup a us ds q r' => exact ⟨a, us, rfl, .inr ⟨g.sqT q, p.val g (.tup q r')⟩⟩
    | _ => exact ls p
mutual
theorem plain_hasDict : ∀ p : PyData, p.plain = true → p.hasDict = false
  | .none, _ => rfl
  | .bool _, _ => rfl
  | .int _, _ => rfl
  | .str _, _ => rfl
  | .list xs, h => by simp only [PyData.hasDict]; exact plain_hasDictAll xs (by simpa [PyData.plain] using h)
  | .tuple xs, h => by simp only [PyData.hasDict]; exact plain_hasDictAll xs (by simpa [PyData.plain] using h)
  | .dict _, h => by cases h
theorem plain_hasDictAll : ∀ ps : List PyData, PyData.plainAll ps = true → PyData.hasDictAll ps = false
  | [], _ => rfl
  | p :: ps, h => by
    simp only [PyData.plainAll, Bool.and_eq_true] at h
    simp only [PyData.hasDictAll, Bool.or_eq_false_iff]
    exact ⟨plain_hasDict p h.1, plain_hasDictAll ps h.2⟩
end
end
end Ev
namespace Ev
open PySem PySem.Spec PySem.SeqAt L2 PyProof.Rows
section
variable {X : Cx} {Wx : WX} {o e : Expr} {es : List Expr} {mo : ME} {mas : MA} {nm : Str} {apos cpos pos : Pos} {T id : String}
def rDM (K : PySem.W.Frag) (f : D → List D → PO) : V → List V → Hp → VK → Prop := fun x xs H Q => ∃ W S d ds, Good K W S H ∧ Rep K W d x ∧ Reps K W ds xs ∧ oV K W (f d ds S) Q
def tyD (T : String) (S : Store) : D → Bool
  | .str _ => T == "str"
  | d => T == "list" && (lstOf S d).isSome
theorem tyD_ok {K : PySem.W.Frag} {W : Wd} {S : Store} {H : Hp} {d : D} {v : V} (h : tyD T S d = true) (g : Good K W S H) (r : Rep K W d v) : tyV K T v H := by
  have ls : (T == "list" && (lstOf S d).isSome) = true → tyV K T v H := fun h => by
    simp only [Bool.and_eq_true, beq_iff_eq] at h
    obtain ⟨xs, e⟩ := Option.isSome_iff_exists.mp h.2
    obtain ⟨a, vs, rfl, h1, h2⟩ := lstOf_ok e g r
    exact .inl ⟨h.1, vs, h1⟩
  cases r with
  | str x => exact beq_iff_eq.mp h
  | _ => exact ls h
def eMB (T : String) (f : D → List D → PO) (mo : ME) (mas : MA) : ME := fun δ => M.bind (mo δ) fun x S => if tyD T S x = true then M.bind (mas δ) (fun xs => lft (f x xs)) S else .bad
theorem se_mb {f : D → List D → PO} (pa : PlainAttrs T) (slot : Slot T nm id) (hty : typeOf (.builtin id) = pure (.type "method_descriptor")) (hm : MtR X id (rDM X.K f)) (ho : SE X Wx o mo) (ha : SA X Wx (e :: es) mas)
    (hbase : attributeBase o nm X.env (eval o X.env) = eval o X.env)
    (hfew : ((backTo cpos (starEach (e :: es) X.env)).all (fun x => !x.1) && (backToKw cpos (keywordEach [] X.env)).all (fun x => x.1.isSome)
      && decide ((e :: es).length + ([] : List Keyword).length + (if ([] : List Keyword).isEmpty then 0 else 1) < 30)) = true)
    (hline : (apos.endLine == cpos.line) = true) (hs : starEach (e :: es) X.env = (false, eval e X.env) :: starEach es X.env) (hpl : (backTo cpos (starEach es X.env)).any (·.1) = false) :
    SE X Wx (.Call (.Attribute o nm apos) (e :: es) [] cpos) (eMB T f mo mas) :=
  PE.imp (pe_bm pa slot hty hm ho ha hbase hfew hline hs hpl) fun σ H Q ⟨W, S, δ, g, r, p⟩ => ⟨W, S, δ, g, r, (okP.bind (R := Rep X.K) p).imp fun v H1 ⟨W1, S1, x, l1, g1, r1, p1⟩ => by
    by_cases ht : tyD T S1 x = true
    · rw [if_pos ht] at p1
      exact ⟨tyD_ok ht g1 r1, W1, S1, δ, g1, r.mono l1, (okP.bind (R := Reps X.K) p1).imp fun vs H2 ⟨W2, S2, xs, l2, g2, r2, p2⟩ => ⟨W2, S2, x, xs, g2, r1.mono l2, r2, p2.lft⟩⟩
    · rw [if_neg ht] at p1; exact p1.elim⟩
def pSplit : D → List D → PO := fun x ds S => match x, ds with
  | .str a, [.str b] => if (b.length == 0) = false ∧ a.length + 2 ≤ sizeLine then newL ((Txt.split a b).map D.str) S else none
  | _, _ => none
theorem mt_pSplit : MtR X "str.split" (rDM X.K pSplit) := fun pins s σ H x xs v us Q I rx rv ⟨W, S, d, ds, g, r1, r2, p⟩ => by
  cases r1 with
  | str a =>
    match ds, r2, p with
    | [.str b], r2, p =>
      obtain ⟨w, rfl, q⟩ := reps1 r2
      cases q
      simp only [pSplit] at p
      split at p
      · rename_i h
        exact mt_split pins s σ H _ _ v us Q I rx rv ⟨a, b, rfl, rfl, h.1, h.2, fun p0 n => (newL_ok p g (reps_strs _)).2 p0 n⟩
      · exact p.elim
  | _ => cases ds with
    | nil => exact p.elim
    | cons d ds => cases d <;> cases ds <;> exact p.elim
def pJoin : D → List D → PO := fun x ds S => match x, ds with
  | .str a, [y] => ((seqOf S y).bind strsOf).bind fun ys => if (ys.map (·.length)).sum + ys.length * a.length ≤ 16777216 then some (.str (Txt.join a ys), S) else none
  | _, _ => none
theorem mt_pJoin : MtR X "str.join" (rDM X.K pJoin) := fun pins s σ H x xs v us Q I rx rv ⟨W, S, d, ds, g, r1, r2, p⟩ => by
  cases r1 with
  | str a =>
    match ds, r2, p with
    | [y], r2, p =>
      obtain ⟨w, rfl, q⟩ := reps1 r2
      simp only [pJoin] at p
      cases e : (seqOf S y).bind strsOf with
      | none => rw [e] at p; exact p.elim
      | some ys =>
        rw [e] at p
        simp only [Option.bind_some] at p
        split at p
        · rename_i h
          obtain ⟨zs, e1, e2⟩ := Option.bind_eq_some_iff.mp e
          obtain ⟨b, vs, rfl, h2, h3⟩ := seqOf_ok e1 g q
          obtain ⟨rfl, rfl⟩ := strsOf_ok e2 h3
          exact mt_join pins s σ H _ _ v us Q I rx rv ⟨a, b, ys, rfl, rfl, h2, h, p.val g (.str _)⟩
        · exact p.elim
  | _ => cases ds with
    | nil => exact p.elim
    | cons d ds => cases ds <;> exact p.elim
def pAppend : D → List D → PO := fun x ds S => match x, ds with
  | .ref i, [y] => (match S[i]? with
    | some (some (.lst xs)) => if xs.length < sizeLine then some (.non, S.set i (some (.lst (xs ++ [y])))) else none
    | _ => none)
  | _, _ => none
theorem mt_pAppend : MtR X "list.append" (rDM X.K pAppend) := fun pins s σ H x xs v us Q I rx rv ⟨W, S, d, ds, g, r1, r2, p⟩ => by
  cases r1 with
  | @ref i a h =>
    match ds, r2, p with
    | [y], r2, p =>
      obtain ⟨w, rfl, q⟩ := reps1 r2
      simp only [pAppend] at p
      split at p
      · rename_i zs hc
        split at p
        · rename_i hl
          obtain ⟨a', e1, e2, _, vs, e3, e4⟩ := g.cell i _ hc
          rw [h] at e1; cases e1
          exact mt_append pins s σ H _ _ v us Q I rx rv ⟨a, vs, w, rfl, rfl, e3, by rw [← e4.length]; exact hl, p W _ _ W.le_refl (g.put hc h ⟨_, upd_same, e4.append (.cons q .nil)⟩) .non⟩
        · exact p.elim
      · exact p.elim
  | _ => cases ds with
    | nil => exact p.elim
    | cons d ds => cases ds <;> exact p.elim
def pExtend : D → List D → PO := fun x ds S => match x, ds with
  | .ref i, [.lst ys] => (match S[i]? with
    | some (some (.lst xs)) => if xs.length + ys.length ≤ sizeLine then some (.non, S.set i (some (.lst (xs ++ ys)))) else none
    | _ => none)
  | _, _ => none
theorem mt_pExtend : MtR X "list.extend" (rDM X.K pExtend) := fun pins s σ H x xs v us Q I rx rv ⟨W, S, d, ds, g, r1, r2, p⟩ => by
  cases r1 with
  | @ref i a h =>
    match ds, r2, p with
    | [.lst ys], r2, p =>
      obtain ⟨w, rfl, q⟩ := reps1 r2
      simp only [pExtend] at p
      split at p
      · rename_i zs hc
        split at p
        · rename_i hl
          obtain ⟨a', e1, e2, _, vs, e3, e4⟩ := g.cell i _ hc
          rw [h] at e1; cases e1
          cases q with
          | @lst b us' _ q1 q2 =>
            exact mt_extend pins s σ H _ _ v us Q I rx rv ⟨a, b, vs, us', rfl, rfl, e3, g.sub _ _ q1, by rw [← e4.length, ← q2.length]; exact hl, p W _ _ W.le_refl (g.put hc h ⟨_, upd_same, e4.append q2⟩) .non⟩
        · exact p.elim
      · exact p.elim
  | _ => cases ds with
    | nil => exact p.elim
    | cons d ds => cases d <;> cases ds <;> exact p.elim
/-- o[i] = v -/
def pStore : PSt := fun o i v S => match o, i with
  | .ref n, .int k => (match S[n]? with
    | some (some (.lst xs)) => (ixN xs.length k).map fun j => S.set n (some (.lst (xs.set j v)))
    | _ => none)
  | _, _ => none
theorem set_pStore : PSet X (tDSet X.K pStore) := fun pins s σ H o i v ov iv u Q I r1 r2 r3 ⟨W, S, do_, di, dv, g, q1, q2, q3, p⟩ => by
  cases q1 with
  | @ref n a h =>
    cases q2 with
    | int k =>
      simp only [pStore] at p
      cases e : S[n]? with
      | none => rw [e] at p; exact p.elim
      | some c =>
        rw [e] at p
        match c, e, p with
        | some (.lst xs), e, p =>
          dsimp only at p
          cases e2 : ixN xs.length k with
          | none => rw [e2] at p; exact p.elim
          | some j =>
            rw [e2] at p
            obtain ⟨a', e1, _, _, vs, e3, e4⟩ := g.cell n _ e
            rw [h] at e1; cases e1
            exact set_list pins s σ H _ _ _ ov iv u Q I r1 r2 r3 ⟨a, vs, k, j, rfl, rfl, e3, by rw [← e4.length]; exact e2, p W _ W.le_refl (g.put e h ⟨_, upd_same, e4.set q3 j⟩)⟩
    | _ => exact p.elim
  | _ => cases q2 <;> exact p.elim
def oPart (m : Option ME) (δ : En) : M (Option Int) := match m with
  | none => M.pure none
  | some m => M.bind (m δ) fun d => match d with
    | .int i => M.pure (some i)
    | _ => M.bad
def tDO (K : PySem.W.Frag) (Wx : WX) (m : En → M (Option Int)) : TO := fun σ H Q => ∃ W S δ, Good K W S H ∧ REnv K W δ σ ∧ okP K (fun _ (a b : Option Int) => a = b) W (m δ S) σ Wx Q
theorem so_none : L2.PO X none (tDO X.K Wx (oPart none)) := ⟨fun pins s σ H Q I ⟨W, S, δ, g, r, p⟩ => (po_none (X := X)).run pins s σ H Q I (okP.pure (R := fun _ (a b : Option Int) => a = b) p g rfl)⟩
theorem so_some {m : ME} (h : SE X Wx e m) : L2.PO X (some e) (tDO X.K Wx (oPart (some m))) := ⟨fun pins s σ H Q I ⟨W, S, δ, g, r, p⟩ => (po_some h).run pins s σ H Q I ⟨W, S, δ, g, r, (okP.bind (R := Rep X.K) p).imp fun v H1 ⟨W1, S1, d, l1, g1, r1, p1⟩ => by
  cases r1 with
  | int i => exact ⟨i, rfl, okP.pure (R := fun _ (a b : Option Int) => a = b) p1 g1 rfl⟩
  | _ => exact p1.elim⟩⟩
def cutD (xs : List D) (lo hi : Option Int) : List D := (xs.drop (HT.sIx xs.length 0 lo)).take (HT.sIx xs.length xs.length hi - HT.sIx xs.length 0 lo)
theorem cutD_reps {K : PySem.W.Frag} {W : Wd} {xs : List D} {vs : List V} (r : Reps K W xs vs) (lo hi : Option Int) : Reps K W (cutD xs lo hi) (cutV vs lo hi) := by
  unfold cutD cutV
  rw [← r.length]
  exact (r.drop _).take _
def pCut : D → Option Int → Option Int → PO := fun x lo hi S => match x with
  | .str z => if z.length ≤ sizeLine then some (.str (cutS z lo hi), S) else none
  | .tup xs => newT (cutD xs lo hi) S
  | x => (lstOf S x).bind fun xs => newL (cutD xs lo hi) S
def rDSl (K : PySem.W.Frag) (f : D → Option Int → Option Int → PO) : V → Option Int → Option Int → Hp → VK → Prop := fun x lo hi H Q => ∃ W S d, Good K W S H ∧ Rep K W d x ∧ oV K W (f d lo hi S) Q
theorem sl_pCut : SlR X (rDSl X.K pCut) := fun pins s σ H x v vl vu lo hi sl Q I rx hs pl pu ⟨W, S, d, g, r1, p⟩ => by
  have ls : oV X.K W ((lstOf S d).bind fun xs => newL (cutD xs lo hi) S) Q → ∃ T id, typeLookup (.type T) "__getitem__" = pure (some (.builtin id)) ∧ s.TypeIs v T ∧ wpAny (model X.prog X.w) X.A (getItem v (.ref sl)) (EP X pins σ Q) X.xe s := fun p => by
    cases e : lstOf S d with
    | none => rw [e] at p; exact p.elim
    | some xs =>
      rw [e] at p
      obtain ⟨a, vs, rfl, h1, h2⟩ := lstOf_ok e g r1
      exact sl_list pins s σ H _ v vl vu lo hi sl Q I rx hs pl pu ⟨a, vs, rfl, h1, (newL_ok p g (cutD_reps h2 lo hi)).2⟩
  cases r1 with
  | str z =>
    simp only [pCut] at p
    split at p
    · exact sl_str pins s σ H _ v vl vu lo hi sl Q I rx hs pl pu ⟨z, rfl, by assumption, p.val g (.str _)⟩
    · exact p.elim
  | @tup a vs ds q r =>
    simp only [pCut] at p
    refine sl_tupA pins s σ H _ v vl vu lo hi sl Q I rx hs pl pu ⟨a, vs, rfl, g.sqT q, fun h => ?_, fun h => (newT_ok p g (cutD_reps r lo hi)).2⟩
    have ec : cutD ds lo hi = ds := by
      unfold cutD
      rw [r.length, h.1, h.2]
      simp [← r.length]
    rw [ec] at p
    unfold newT at p
    split at p
    · exact p.val g (.tup q r)
    · exact p.elim
  | _ => exact ls p
def eCut (mo : ME) (ml mh : Option ME) : ME := fun δ => M.bind (mo δ) fun x => M.bind (oPart ml δ) fun lo => M.bind (oPart mh δ) fun hi => lft (pCut x lo hi)
theorem se_cut {lo hi : Option Expr} {ml mh : Option ME} {p2 : Pos} (ho : SE X Wx o mo) (hl : L2.PO X lo (tDO X.K Wx (oPart ml))) (hh : L2.PO X hi (tDO X.K Wx (oPart mh))) : SE X Wx (.Subscript o (.Slice lo hi none p2) pos) (eCut mo ml mh) :=
  PE.imp (pe_slice sl_pCut ho hl hh) fun σ H Q ⟨W, S, δ, g, r, p⟩ => ⟨W, S, δ, g, r, (okP.bind (R := Rep X.K) p).imp fun v H1 ⟨W1, S1, x, l1, g1, r1, p1⟩ =>
    ⟨W1, S1, δ, g1, r.mono l1, (okP.bind (R := fun _ (a b : Option Int) => a = b) p1).imp fun a H2 ⟨W2, S2, a', l2, g2, ea, p2⟩ => by
      subst ea
      exact ⟨W2, S2, δ, g2, r.mono (l1.trans l2), (okP.bind (R := fun _ (a b : Option Int) => a = b) p2).imp fun b H3 ⟨W3, S3, b', l3, g3, eb, p3⟩ => by
        subst eb
        exact ⟨W3, S3, x, g3, r1.mono (l2.trans l3), p3.lft⟩⟩⟩⟩
theorem se_ix {i : Expr} {mi : ME} (ho : SE X Wx o mo) (hi : SE X Wx i mi) (hs : PlainIx i) : SE X Wx (.Subscript o i pos) (eOp pIx mo mi) := PE.imp (pe_ix ix_pIx ho hi hs) tOp_of
/-- a type: a built-in one, a class of the text -/
inductive Ty where
  | blt (n : String) | own (c : Str)
  deriving DecidableEq
def Ty.val (K : PySem.W.Frag) : Ty → Value
  | .blt n => .type n
  | .own c => .ref (He.ga K c)
def tyOf (S : Store) : D → Option Ty
  | .non => some (.blt "NoneType")
  | .bl _ => some (.blt "bool")
  | .int _ => some (.blt "int")
  | .str _ => some (.blt "str")
  | .tup _ => some (.blt "tuple")
  | .lst _ => some (.blt "list")
  | .ins c _ => some (.own c)
  | .ref i => (match S[i]? with
    | some (some (.lst _)) => some (.blt "list")
    | some (some (.ins c _)) => some (.own c)
    | some (some (.dT _)) => some (.blt "dict")
    | some (some (.dK _)) => some (.blt "dict")
    | _ => none)
  | .dic _ => some (.blt "dict")
  | _ => none
/-- what is known of the types -/
structure IsiOk (K : PySem.W.Frag) (isi : Ty → Ty → Option Bool) : Prop where
  kit : ∀ t c b, isi t c = some b → PySem.W.kitOne K (t.val K) (c.val K) = some b
  own : ∀ c d b, isi (.own c) d = some b → Cls K (He.ga K c) ∧ PySem.W.findIn K (.ref (He.ga K c)) "__class__" = some (some (.builtin "object.__class__")) ∧
    PySem.W.specialIn K (.builtin "object.__class__") "__get__" = some (some (.builtin "getset_descriptor.__get__")) ∧ PySem.W.takesIn K (.builtin "object.__class__") = some true ∧ PySem.W.mroIn K (He.ga K c) (.type "object") = some true
theorem tyOf_ok {K : PySem.W.Frag} {isi : Ty → Ty → Option Bool} {W : Wd} {S : Store} {H : Hp} {d : D} {v : V} {t c : Ty} {b : Bool} (k : IsiOk K isi) (e : tyOf S d = some t) (eb : isi t c = some b) (g : Good K W S H) (r : Rep K W d v) : TyX K H v (t.val K) := by
  have ins : ∀ {a dx : Addr} {c' : Str} {vfs : List (Str × V)}, H a = some (.ins (He.ga K c') dx vfs) → t = .own c' → v = .ref a → TyX K H v (t.val K) := fun {a dx c' vfs} h et ev => by
    subst et ev
    obtain ⟨h1, h2, h3, h4, h5⟩ := k.own c' c b eb
    exact .base (.ins h h1 h2 h3 h4 h5)
  cases r with
  | non => cases e; exact .base .non
  | bl x => cases e; exact .base (.bl x)
  | int x => cases e; exact .base (.int x)
  | str x => cases e; exact .base (.str x)
  | @tup a vs ds q r =>
    cases e
    rcases g.sqT q with q | ⟨o, its, n, hk, hc, _⟩
    · rcases q with q | ⟨ob, q⟩
      · exact .base (.tup q)
      · exact .fTuple q
    · exact .kTuple hk hc
  | lst q r => cases e; exact .base (.lst (g.sub _ _ q))
  | ins h1 h2 h3 => cases e; exact ins (g.sub _ _ h1) rfl rfl
  | @ref i a h =>
    simp only [tyOf] at e
    split at e
    · rename_i xs hc
      cases e
      obtain ⟨a', e1, _, _, vs, e3, e4⟩ := g.cell i _ hc
      rw [h] at e1; cases e1
      exact .base (.lst e3)
    · rename_i c' fs hc
      cases e
      obtain ⟨a', e1, _, _, dx, vfs, e3, e4, e5⟩ := g.cell i _ hc
      rw [h] at e1; cases e1
      exact ins e3 rfl rfl
    · rename_i kvs hc
      cases e
      obtain ⟨a', e1, _, _, vk, e3, e4⟩ := g.cell i _ hc
      rw [h] at e1; cases e1
      exact .base (.dT e3)
    · rename_i kvs hc
      cases e
      obtain ⟨a', e1, _, _, vk, e3, e4⟩ := g.cell i _ hc
      rw [h] at e1; cases e1
      exact .base (.dK e3)
    · cases e
  | dic q1 q2 q3 => cases e; exact .base (.dK (g.sub _ _ q1))
  | _ => cases e
def eIsi (isi : Ty → Ty → Option Bool) (c : Ty) (mo : ME) : ME := fun δ => M.bind (mo δ) fun x S => match (tyOf S x).bind fun t => isi t c with
  | some b => .ok (.bl b) S
  | none => .bad
theorem se_isi {isi : Ty → Ty → Option Bool} {p p2 : Pos} {c : Ty} {ce : Expr} {cv : V} (k : IsiOk X.K isi) (ho : SE X Wx o mo) (hc : PE X ce (tC cv)) (hcv : ClsV cv (c.val X.K)) (hgl : Gl X "isinstance") (hm : X.mg "isinstance" = none)
    (h1 : starEach [o, ce] X.env = (false, eval o X.env) :: starEach [ce] X.env) (h2 : starEach [ce] X.env = (false, eval ce X.env) :: starEach [] X.env) :
    SE X Wx (.Call (.Name "isinstance" p) [o, ce] [] pos) (eIsi isi c mo) :=
  PE.imp (pe_callB call_isi hgl hm (by decide +kernel) (pa_cons ho (pa_cons hc pa_nil h2) h1) (by decide) (by decide) h1 (by rw [h2]; rfl)) fun σ H Q ⟨W, S, δ, g, r, p⟩ => ⟨W, S, δ, g, r, (okP.bind (R := Rep X.K) p).imp fun v H1 ⟨W1, S1, d, l1, g1, r1, p1⟩ => by
    cases e : tyOf S1 d with
    | none => rw [e] at p1; exact p1.elim
    | some t =>
      rw [e] at p1
      simp only [Option.bind_some] at p1
      cases e2 : isi t c with
      | none => rw [e2] at p1; exact p1.elim
      | some b =>
        rw [e2] at p1
        exact ⟨v, cv, t.val X.K, c.val X.K, b, rfl, hcv, tyOf_ok k e e2 g1 r1, k.kit t c b e2, p1 W1 H1 _ W1.le_refl g1 (.bl b)⟩⟩
end
end Ev
namespace Ev
open PySem PySem.Spec PySem.SeqAt L2 PyProof.Rows
section
variable {K : PySem.W.Frag} {W W' : Wd}
mutual
theorem Rep.mono0 (hf : ∀ a o, W.F a = some o → W'.F a = some o) (hm : ∀ (i : Nat) a, W.m[i]? = some a → W'.m[i]? = some a) : ∀ {d : D} {v : V}, Rep K W d v → Rep K W' d v
  | _, _, .non => .non
  | _, _, .bl b => .bl b
  | _, _, .int i => .int i
  | _, _, .str x => .str x
  | _, _, .tup q r => .tup (by
      rcases q with q | q
      · exact .inl (rd_sub hf q)
      · exact .inr q) (Reps.mono0 hf hm r)
  | _, _, .lst q r => .lst (hf _ _ q) (Reps.mono0 hf hm r)
  | _, _, .scr q => .scr (by
      rcases q with q | q
      · exact .inl (rd_sub hf q)
      · exact .inr q)
  | _, _, .ins e k r => .ins (hf _ _ e) k (Reps.mono0 hf hm r)
  | _, _, .ref e => .ref (hm _ _ e)
  | _, _, .fn x => .fn x
  | _, _, .dic e k r => .dic (hf _ _ e) k (Reps.mono0 hf hm r)
  | _, _, .exn0 => .exn0
  | _, _, .exn1 e k r => .exn1 (hf _ _ e) k (Reps.mono0 hf hm r)
  | _, _, .lam e r => .lam (hf _ _ e) (Reps.mono0 hf hm r)
theorem Reps.mono0 (hf : ∀ a o, W.F a = some o → W'.F a = some o) (hm : ∀ (i : Nat) a, W.m[i]? = some a → W'.m[i]? = some a) : ∀ {ds : List D} {vs : List V}, Reps K W ds vs → Reps K W' ds vs
  | _, _, .nil => .nil
  | _, _, .cons r t => .cons (Rep.mono0 hf hm r) (Reps.mono0 hf hm t)
end
theorem CellAt.mono0 {H : Hp} {a : Addr} (hf : ∀ a o, W.F a = some o → W'.F a = some o) (hm : ∀ (i : Nat) a, W.m[i]? = some a → W'.m[i]? = some a) : ∀ {c : Cell}, CellAt K W H a c → CellAt K W' H a c
  | .lst _, ⟨vs, e, r⟩ => ⟨vs, e, r.mono0 hf hm⟩
  | .ins _ _, ⟨dx, vfs, e, k, r⟩ => ⟨dx, vfs, e, k, r.mono0 hf hm⟩
  | .dT _, ⟨vk, e, k, r⟩ => ⟨vk, e, k, r.mono0 hf hm⟩
  | .dK _, ⟨vk, e, k, r⟩ => ⟨vk, e, k, r.mono0 hf hm⟩
  | .tab _, ⟨ps, e, k, r⟩ => ⟨ps, e, k, fun p v z => (r p v z).imp fun c ⟨z1, z2⟩ => ⟨z1, hf _ _ z2⟩⟩
variable {S : Store} {H : Hp}
/-- another self; less privacy -/
theorem Good.other (g : Good K W S H) {P : Hp} {sf : Option Addr} (h : ∀ a o, P a = some o → W.P a = some o) : Good K ⟨W.F, W.m, P, sf⟩ S H where
  sub := g.sub
  len := g.len
  cell := fun i c e => by
    obtain ⟨a, e1, e2, e3, e4⟩ := g.cell i c e
    refine ⟨a, e1, e2, ?_, CellAt.mono0 (W := W) (W' := ⟨W.F, W.m, P, sf⟩) (fun _ _ h => h) (fun _ _ h => h) e4⟩
    show P a = none
    cases q : P a with
    | none => rfl
    | some o => rw [h a o q] at e3; cases e3
  inj := g.inj
  prv := fun a o e => g.prv a o (h a o e)
  ptup := fun a xs e => g.ptup a xs (h a _ e)
/-- a new object that nothing speaks of -/
theorem Good.skip (g : Good K W S H) {p : Addr} {o : HO} (n : H p = none) : Good K W S (upd H p o) where
  sub := fun a u e => by rw [upd_ne (ne_of_none (g.sub a u e) n)]; exact g.sub a u e
  len := g.len
  cell := fun i c e => by
    obtain ⟨a, e1, e2, e3, e4⟩ := g.cell i c e
    obtain ⟨u, q⟩ := e4.there
    exact ⟨a, e1, e2, e3, e4.eqH (upd_ne (ne_of_none q n))⟩
  inj := g.inj
  prv := fun a u e => by
    obtain ⟨h1, h2⟩ := g.prv a u e
    exact ⟨by rw [upd_ne (ne_of_none h1 n)]; exact h1, h2⟩
  ptup := g.ptup
end
/-- the instance that is being filled -/
structure Ini (K : PySem.W.Frag) (c : Str) (W : Wd) (fs : List (Str × D)) (P0 : Hp) (a dx : Addr) : Prop where
  sf : W.sf = some a
  n : P0 a = none
  p : ∃ vfs, W.P = upd P0 a (.ins (He.ga K c) dx vfs) ∧ vfs.map (·.1) = fs.map (·.1) ∧ Reps K W (fs.map (·.2)) (vfs.map (·.2))
theorem Ini.mono {K : PySem.W.Frag} {c : Str} {W W' : Wd} {fs : List (Str × D)} {P0 : Hp} {a dx : Addr} (i : Ini K c W fs P0 a dx) (l : W.le W') : Ini K c W' fs P0 a dx := by
  obtain ⟨vfs, h1, h2, h3⟩ := i.p
  exact ⟨l.sq.trans i.sf, i.n, vfs, l.pp.trans h1, h2, h3.mono l⟩
inductive FlI where
  | nx (δ : En) (fs : List (Str × D)) (S : Store)
  | exc (x : Xc) (S : Store)
  | bad
abbrev MI := En → List (Str × D) → Store → FlI
def iP (K : PySem.W.Frag) (c : Str) (P0 : Hp) (a dx : Addr) (W : Wd) (r : FlI) (Wx : WX) (E : Ends) : Prop := match r with
  | .nx δ fs S => ∀ W' H' σ, W.lf W' → Good K W' S H' → REnv K W' δ σ → Ini K c W' fs P0 a dx → E.nx σ H'
  | .exc x S => ∀ W' H' σ cls d, W.lf W' → Good K W' S H' → (∃ o, W'.P = upd P0 a o) → XRep K W' x cls d → Wx cls d σ H'
  | .bad => False
theorem iP.mono {K : PySem.W.Frag} {c : Str} {P0 : Hp} {a dx : Addr} {W W1 : Wd} {r : FlI} {Wx : WX} {E : Ends} (h : W.lf W1) (p : iP K c P0 a dx W r Wx E) : iP K c P0 a dx W1 r Wx E := by
  cases r with
  | nx δ fs S => exact fun W' H' σ l => p W' H' σ (h.trans l)
  | exc x S => exact fun W' H' σ cls d l => p W' H' σ cls d (h.trans l)
  | bad => exact p
def tI (K : PySem.W.Frag) (Wx : WX) (c : Str) (m : MI) : TS := fun E σ H => ∃ W S δ a dx fs P0, Good K W S H ∧ REnv K W δ σ ∧ Ini K c W fs P0 a dx ∧ iP K c P0 a dx W (m δ fs S) Wx E
abbrev SBI (X : Cx) (Wx : WX) (c : Str) (body : List Stmt) (m : MI) : Prop := PSs X body (tI X.K Wx c m)
section
variable {X : Cx} {Wx : WX} {c : Str} {st : Stmt} {sts : List Stmt} {ms : MS} {mi : MI} {e o : Expr} {m : ME} {pos : Pos}
def iEnd : MI := fun δ fs S => .nx δ fs S
def iOrd (ms : MS) (mi : MI) : MI := fun δ fs S => match ms δ S with
  | .nx δ' S' => mi δ' fs S'
  | .exc x _ S' => .exc x S'
  | _ => .bad
theorem sbi_nil : SBI X Wx c [] iEnd := PSs.imp pss_nil fun E σ H ⟨W, S, δ, a, dx, fs, P0, g, r, i, p⟩ => p W H σ W.le_refl.toLf g r i
theorem sbi_ord (h1 : SS X Wx st ms) (h2 : SBI X Wx c sts mi) : SBI X Wx c (st :: sts) (iOrd ms mi) :=
  PSs.imp (pss_cons h1 h2) fun E σ H ⟨W, S, δ, a, dx, fs, P0, g, r, i, p⟩ => ⟨W, S, δ, g, r, by
    unfold iOrd at p
    cases e : ms δ S with
    | nx δ' S' =>
      rw [e] at p
      exact fun W' H' σ' l g' r' => ⟨W', S', δ', a, dx, fs, P0, g', r', i.mono l, p.mono l⟩
    | exc x δ' S' =>
      rw [e] at p
      intro W' H' σ' cls d l g' r' x'
      obtain ⟨vfs, h1, _⟩ := i.p
      exact p W' H' σ' cls d l g' ⟨_, l.pp.trans h1⟩ x'
    | rt d S' => rw [e] at p; exact p.elim
    | bk δ' S' => rw [e] at p; exact p.elim
    | ct δ' S' => rw [e] at p; exact p.elim
    | bad => rw [e] at p; exact p.elim⟩
/-- o.f as a target -/
theorem pg_fld {f : Str} {ta : TE} (ha : PE X o ta) : PG X (.Attribute o f pos) (fun v σ H Q => ta σ H fun x H1 => ∃ a C dx fs, x = .ref a ∧ H1 a = some (.ins C dx fs) ∧ Cls X.K C ∧ NoAttr X.K C f ∧ fs.length < 1000 ∧ Q σ (upd H1 a (.ins C dx (putF f v fs)))) := by
  refine ⟨fun pins s σ H v u Q I r h => ?_⟩
  rw [assign_Attribute]
  refine wpAny_bind (wpAny_holding (thn (ha.run pins s σ H _ I h) fun ov s1 ⟨x, H1, I1, rx, a, C, dx, fs, ex, ea, c, n, l, q⟩ => ?_))
  subst ex
  obtain rfl : ov = Value.ref a := rx
  refine wpAny_bind (wpAny_standAt (wpAny_bind (wpAny_holding (setattr_ok I1 ea c n l r fun s3 I3 => wpAny_release ⟨σ, _, I3, q⟩))))
def putD (f : Str) (v : D) : List (Str × D) → List (Str × D)
  | [] => [(f, v)]
  | (g, x) :: r => if g = f then (g, v) :: r else (g, x) :: putD f v r
theorem put_reps {K : PySem.W.Frag} {W : Wd} {f : Str} {d : D} {v : V} (q : Rep K W d v) : ∀ {fs : List (Str × D)} {vfs : List (Str × V)}, vfs.map (·.1) = fs.map (·.1) → Reps K W (fs.map (·.2)) (vfs.map (·.2)) → (putF f v vfs).map (·.1) = (putD f d fs).map (·.1) ∧ Reps K W ((putD f d fs).map (·.2)) ((putF f v vfs).map (·.2))
  | [], [], _, _ => ⟨rfl, .cons q .nil⟩
  | [], _ :: _, e, _ => by cases e
  | _ :: _, [], e, _ => by cases e
  | (x, dx) :: fs, (y, vy) :: vfs, e, r => by
    simp only [List.map_cons, List.cons.injEq] at e
    obtain ⟨rfl, e⟩ := e
    cases r with
    | cons r1 r2 =>
      simp only [putD, putF]
      split
      · exact ⟨by simp [e], .cons q r2⟩
      · obtain ⟨h1, h2⟩ := put_reps q e r2
        exact ⟨by simp [h1], .cons r1 h2⟩
/-- the attributes ps set to ds -/
def putAll : List Str → List D → List (Str × D) → Option (List (Str × D))
  | [], [], fs => some fs
  | p :: ps, d :: ds, fs => if fs.length < 1000 then putAll ps ds (putD p d fs) else none
  | _, _, _ => none
def oI (K : PySem.W.Frag) (c : Str) (P0 : Hp) (a dx : Addr) (W : Wd) (δ : En) (S : Store) (r : Option (List (Str × D))) (Q : L2.St → Hp → Prop) : Prop := match r with
  | some fs => ∀ W' H' σ, W.lf W' → Good K W' S H' → REnv K W' δ σ → Ini K c W' fs P0 a dx → Q σ H'
  | none => False
theorem oI.mono {K : PySem.W.Frag} {P0 : Hp} {a dx : Addr} {W W1 : Wd} {δ : En} {S : Store} {r : Option (List (Str × D))} {Q : L2.St → Hp → Prop} (h : W.lf W1) (p : oI K c P0 a dx W δ S r Q) : oI K c P0 a dx W1 δ S r Q := by
  cases r with
  | none => exact p
  | some fs => exact fun W' H' σ l => p W' H' σ (h.trans l)
def tGI (K : PySem.W.Frag) (c f : Str) : TG := fun v σ H Q => ∃ W S δ a dx fs P0 d, Good K W S H ∧ REnv K W δ σ ∧ δ[0]? = some (some .slf) ∧ Ini K c W fs P0 a dx ∧ Rep K W d v ∧ fs.length < 1000 ∧ oI K c P0 a dx W δ S (some (putD f d fs)) Q
def tGIs (K : PySem.W.Frag) (c : Str) (ps : List Str) : TGs := fun vs σ H Q => ∃ W S δ a dx fs P0 ds, Good K W S H ∧ REnv K W δ σ ∧ δ[0]? = some (some .slf) ∧ Ini K c W fs P0 a dx ∧ Reps K W ds vs ∧ oI K c P0 a dx W δ S (putAll ps ds fs) Q
/-- self.f -/
theorem sgi {x f : Str} {px : Pos} (hN : X.N[0]? = some x) (hv : Vis X.env.scope x) (hd : (x == ("__debug__" : Str)) = false) (hcd : (x == ("__classdict__" : Str)) = false) (hc : Cls X.K (He.ga X.K c) ∧ NoAttr X.K (He.ga X.K c) f) : PG X (.Attribute (.Name x px) f pos) (tGI X.K c f) :=
  PG.imp (pg_fld (pe_var hN hv hd hcd)) fun v σ H Q ⟨W, S, δ, a, dx, fs, P0, d, g, r, e0, i, q, hl, p⟩ => by
    obtain ⟨v0, h0, s0⟩ := r.2 0 _ e0
    rcases s0 with s0 | ⟨_, a', ha, rfl⟩
    · cases s0
    · rw [i.sf] at ha; cases ha
      obtain ⟨vfs, h1, h2, h3⟩ := i.p
      have hP : W.P a = some (.ins (He.ga X.K c) dx vfs) := by rw [h1, upd_same]
      have hH := (g.prv a _ hP).1
      obtain ⟨k1, k2⟩ := put_reps (f := f) q h2 h3
      refine ⟨.ref a, h0, a, _, dx, vfs, rfl, hH, hc.1, hc.2, by have := congrArg List.length h2; simp at this; omega, ?_⟩
      have l : W.lf (W.prv a (.ins (He.ga X.K c) dx (putF f v vfs))) := W.prv_lf _ _
      refine p _ _ σ l (g.updPrv hP) (r.mono l) ⟨i.sf, i.n, _, ?_, k1, k2.mono l⟩
      show upd W.P a _ = upd P0 a _
      rw [h1]
      funext b
      by_cases hb : b = a
      · subst hb; rw [upd_same, upd_same]
      · rw [upd_ne hb, upd_ne hb, upd_ne hb]
theorem sgis_nil : PGs X [] (tGIs X.K c []) := PGs.imp pgs_nil fun v σ H Q ⟨W, S, δ, a, dx, fs, P0, ds, g, r, e0, i, q, p⟩ => by
  cases q with
  | nil => exact ⟨rfl, p W H σ W.le_refl.toLf g r i⟩
  | cons _ _ => exact p.elim
theorem sgis_cons {es : List Expr} {f : Str} {ps : List Str} (h1 : PG X e (tGI X.K c f)) (h2 : PGs X es (tGIs X.K c ps)) (hs : (assignEach (e :: es) X.env).map (·.2) = assign e X.env :: (assignEach es X.env).map (·.2)) : PGs X (e :: es) (tGIs X.K c (f :: ps)) :=
  PGs.imp (pgs_cons h1 h2 hs) fun v σ H Q ⟨W, S, δ, a, dx, fs, P0, ds, g, r, e0, i, q, p⟩ => by
    cases q with
    | nil => exact p.elim
    | @cons d v ds vs q1 q2 =>
      simp only [putAll] at p
      split at p
      · rename_i hl
        exact ⟨v, vs, rfl, W, S, δ, a, dx, fs, P0, d, g, r, e0, i, q1, hl, fun W' H' σ' l g' r' i' => ⟨W', S, δ, a, dx, _, P0, ds, g', r', e0, i', q2.mono l, p.mono l⟩⟩
      · exact p.elim
/-- self.f = e -/
def isSlf : En → Bool
  | some D.slf :: _ => true
  | _ => false
theorem isSlf_of {δ : En} (h : isSlf δ = true) : δ[0]? = some (some D.slf) := by
  unfold isSlf at h
  split at h
  · rfl
  · cases h
def iSets (m : ME) (ps : List Str) (mi : MI) : MI := fun δ fs S => match m δ S with
  | .ok (D.tup ds) S' => if isSlf δ then (match putAll ps ds fs with
    | some fs' => mi δ fs' S'
    | none => .bad) else .bad
  | .exc x S' => .exc x S'
  | _ => .bad
theorem putAll_len : ∀ {ps : List Str} {ds : List D} {fs fs' : List (Str × D)}, putAll ps ds fs = some fs' → ds.length = ps.length
  | [], [], _, _, _ => rfl
  | _ :: _, _ :: _, fs, _, e => by
    simp only [putAll] at e
    split at e
    · simp [putAll_len e]
    · cases e
  | [], _ :: _, _, _, e => by simp [putAll] at e
  | _ :: _, [], _, _, e => by simp [putAll] at e
theorem sbi_sets {ps : List Str} {es : List Expr} {k n : Nat} {pt : Pos} (hc : X.calm = true) (he : SE X Wx e m) (hg : PGs X es (tGIs X.K c ps)) (h2 : SBI X Wx c sts mi) (hn : (assignEach es X.env).length = ps.length) (hst : (assignEach es X.env).findIdx? (·.1) = none)
    (hs : swapsWithSole [.Tuple es k pt] e pos.line X.env = pure false) (hw : swappedStores [.Tuple es k pt] e X.env = pure none) (h1 : (assignEach [.Tuple es k pt] X.env).map (·.2) = [assign (.Tuple es k pt) X.env]) :
    SBI X Wx c (.Assign [.Tuple es k pt] e pos :: sts) (iSets m ps mi) :=
  PSs.imp (pss_cons (ps_asg he (pg_tup hc hg hn hst) hs hw h1) h2) fun E σ H ⟨W, S, δ, a, dx, fs, P0, g, r, i, p⟩ => ⟨W, S, δ, g, r, by
    unfold iSets at p
    cases e1 : m δ S with
    | bad => rw [e1] at p; exact p.elim
    | exc x S' =>
      rw [e1] at p
      intro W' H' cls d l g' x'
      obtain ⟨vfs, h1, _⟩ := i.p
      exact p W' H' σ cls d l g' ⟨_, l.pp.trans h1⟩ x'
    | ok d S' =>
      rw [e1] at p
      cases d with
      | tup ds =>
        dsimp only at p
        split at p
        · rename_i hs
          have hs := isSlf_of hs
          cases e2 : putAll ps ds fs with
          | none => rw [e2] at p; exact p.elim
          | some fs' =>
            rw [e2] at p
            intro W' H' v l g' q
            cases q with
            | @tup a2 vs ds q1 q2 =>
              exact ⟨a2, vs, rfl, g'.sqT q1, by rw [← q2.length]; exact putAll_len e2, W', S', δ, a, dx, fs, P0, ds, g', r.mono l, hs, i.mono l, q2, by
                rw [e2]
                exact fun W2 H2 σ2 l2 g2 r2 i2 => ⟨W2, S', δ, a, dx, _, P0, g2, r2, i2, p.mono (l.toLf.trans l2)⟩⟩
        · exact p.elim
      | _ => exact p.elim⟩
end
end Ev
namespace EvZ
open PySem PySem.Spec PySem.SeqAt L2 PyProof.Rows
section
variable {prog : Program} {w : World} {A : Around} {E : Value → Shared → Prop} {s : Shared}
/-- a source: is it a tuple; its iterator; the sequence; its items -/
structure Sr where
  tp : Bool
  it : Addr
  l : Addr
  xs : List Value
def ItAt (h : Heap) (k : Nat) (r : Sr) : Prop := match r.tp with
  | true => h.IsTupleIter r.it r.l k
  | false => h.IsListIter r.it r.l k
def SqAt (h : Heap) (r : Sr) : Prop := match r.tp with
  | true => h.IsTuple r.l r.xs.toArray
  | false => h.IsList r.l r.xs.toArray
theorem ItAt.at {h h' : Heap} {k : Nat} {r : Sr} (x : ItAt h k r) (e : ∀ o, h.get? r.it = some o → h'.get? r.it = some o) : ItAt h' k r := by
  obtain ⟨tp, it, l, xs⟩ := r
  cases tp with
  | true => obtain ⟨o, h1, h2⟩ := x; exact ⟨o, e o h1, h2⟩
  | false => obtain ⟨o, h1, h2⟩ := x; exact ⟨o, e o h1, h2⟩
theorem SqAt.at {h h' : Heap} {r : Sr} (x : SqAt h r) (e : ∀ o, h.get? r.l = some o → h'.get? r.l = some o) : SqAt h' r := by
  obtain ⟨tp, it, l, xs⟩ := r
  cases tp with
  | true => obtain ⟨o, h1, h2⟩ := x; exact ⟨o, e o h1, h2⟩
  | false => obtain ⟨o, h1, h2⟩ := x; exact ⟨o, e o h1, h2⟩
theorem ItAt.there {h : Heap} {k : Nat} {r : Sr} (x : ItAt h k r) : ∃ o, h.get? r.it = some o ∧ ∀ v, o.data ≠ .cell v := by
  obtain ⟨tp, it, l, xs⟩ := r
  cases tp with
  | true => obtain ⟨o, h1, h2, h3⟩ := x; exact ⟨o, h1, fun v z => by rw [h3] at z; cases z⟩
  | false => obtain ⟨o, h1, h2, h3⟩ := x; exact ⟨o, h1, fun v z => by rw [h3] at z; cases z⟩
theorem next_item {r : Sr} {k : Nat} {x : Value} {Q : Value → Shared → Prop} (hi : ItAt s.heap k r) (hs : SqAt s.heap r) (hx : r.xs[k]? = some x)
    (hQ : ∀ h', ItAt h' (k + 1) r → Heap.SameBut r.it s.heap h' → Q x { s with heap := h' }) : wpAny (model prog w) A (Builtin.SmallTypes.nextOf (.ref r.it)) Q E s := by
  obtain ⟨tp, it, l, xs⟩ := r
  cases tp with
  | true => exact wpAny_nextOf_tuple_item hi hs (by simpa using hx) hQ
  | false => exact wpAny_nextOf_list_item hi hs (by simpa using hx) hQ
theorem next_end {r : Sr} {k : Nat} {Q : Value → Shared → Prop} (hh : A.handled = none) (hi : ItAt s.heap k r) (hs : SqAt s.heap r) (hx : r.xs[k]? = none)
    (hE : ∀ h' e, Heap.ExtBut r.it s.heap h' → (∃ o, h'.get? e = some o ∧ o.cls = .type "StopIteration") → E (.ref e) { s with heap := h' }) : wpAny (model prog w) A (Builtin.SmallTypes.nextOf (.ref r.it)) Q E s := by
  obtain ⟨tp, it, l, xs⟩ := r
  cases tp with
  | true => exact wpAny_nextOf_tuple_end hh hi hs (by simpa using hx) hE
  | false => exact wpAny_nextOf_list_end hh hi hs (by simpa using hx) hE
abbrev Zp (h : Heap) (z TI TO : Addr) (f0 f1 : Value) : Prop := h.get? z = some { cls := .type "zip", dict := none, data := .fields #[f0, f1, .bool false, .ref TI, .ref TO], slots := #[] }
abbrev Tp (h : Heap) (T : Addr) (xs : List Value) : Prop := h.get? T = some { cls := .type "tuple", data := .seq xs.toArray }
/-- nothing stands in the way of another -/
structure Apart (z TI TO : Addr) (rs : List Sr) : Prop where
  TIz : TI ≠ z
  TOz : TO ≠ z
  TT : TI ≠ TO
  iz : ∀ r ∈ rs, r.it ≠ z ∧ r.it ≠ TI ∧ r.it ≠ TO
  lz : ∀ r ∈ rs, r.l ≠ z ∧ r.l ≠ TO ∧ ∀ q ∈ rs, r.l ≠ q.it
  nd : (rs.map (·.it)).Nodup
theorem Apart.inj {z TI TO : Addr} {rs : List Sr} (D : Apart z TI TO rs) {i j : Nat} {r q : Sr} (hi : rs[i]? = some r) (hj : rs[j]? = some q) (e : r.it = q.it) : i = j := by
  have h1 : (rs.map (·.it))[i]? = some r.it := by simp [hi]
  have h2 : (rs.map (·.it))[j]? = some q.it := by simp [hj]
  obtain ⟨a1, b1⟩ := List.getElem?_eq_some_iff.mp h1
  obtain ⟨a2, b2⟩ := List.getElem?_eq_some_iff.mp h2
  exact (List.getElem_inj D.nd).mp (b1.trans (e.trans b2.symm))
/-- the items of turn k -/
def row (rs : List Sr) (k : Nat) : List Value := rs.map fun r => r.xs.getD k .none
theorem free_none {z TI TO : Addr} {f0 f1 : Value} {Q : Bool → Shared → Prop} (hz : Zp s.heap z TI TO f0 f1) (h0 : f0 = .none ∨ ∃ T : Addr, f0 = rawInt T) (hf : f1 = .bool true ∨ f1 = .bool false)
    (hq : Q true s) (hq2 : ∀ h', Zp h' z TI TO f0 (.bool true) → Heap.SameBut z s.heap h' → Q false { s with heap := h' }) : wpAny (model prog w) A (Builtin.SmallTypes.ownedTupleIsFree (.ref z)) Q E s := by
  unfold Builtin.SmallTypes.ownedTupleIsFree
  refine wpAny_bind (wpAny_field hz rfl (x := f0) rfl ?_)
  rcases h0 with rfl | ⟨T, rfl⟩
  · exact wpAny_pure hq
  · show wpAny _ _ (loadIfAlive ((T : Int).toNat) >>= _) _ _ _
    rw [Int.toNat_natCast]
    refine wpAny_bind (show wpAny _ _ (loadIfAlive T) _ _ _ from fun _ _ _ => ?_)
    show wpAny _ _ (if (s.heap.get? T).isNone = true then _ else _) _ _ _
    cases e : s.heap.get? T with
    | none =>
      simp only [Option.isNone_none, if_true]
      exact wpAny_pure hq
    | some o =>
      simp only [Option.isNone_some, Bool.false_eq_true, if_false]
      refine wpAny_bind (wpAny_field hz rfl (x := f1) rfl ?_)
      rcases hf with rfl | rfl
      · rw [if_neg (show ¬ ((Value.bool true != Value.bool true) = true) from Bool.false_ne_true)]
        exact wpAny_pure (hq2 s.heap hz (Heap.SameBut.refl _ _))
      · rw [if_pos (show (Value.bool false != Value.bool true) = true from rfl)]
        exact wpAny_bind (wpAny_setField_rec hz (by simp) fun h₁ hz₁ hs₁ => wpAny_pure (hq2 h₁ hz₁ hs₁))
/-- what stands between two draws of one turn -/
structure Mid (h0 h : Heap) (z TI TO : Addr) (rs pre post : List Sr) (k : Nat) (f0 f1 : Value) : Prop where
  zp : Zp h z TI TO f0 f1
  pr : ∀ r ∈ pre, ItAt h (k + 1) r
  po : ∀ r ∈ post, ItAt h k r
  sz : h.objs.size = h0.objs.size
  fr : ∀ c o, c ≠ z → c ≠ TO → (∀ r ∈ rs, c ≠ r.it) → h0.get? c = some o → h.get? c = some o
theorem Mid.sq {h0 h : Heap} {z TI TO : Addr} {rs pre post : List Sr} {k : Nat} {f0 f1 : Value} (M : Mid h0 h z TI TO rs pre post k f0 f1) (D : Apart z TI TO rs) {r : Sr} (hr : r ∈ rs) (hs : SqAt h0 r) : SqAt h r :=
  hs.at fun o e => M.fr _ _ (D.lz r hr).1 (D.lz r hr).2.1 (D.lz r hr).2.2 e
theorem Mid.step {h0 h h' : Heap} {z TI TO : Addr} {rs pre post : List Sr} {r : Sr} {k : Nat} {f0 f1 : Value} (M : Mid h0 h z TI TO rs pre (r :: post) k f0 f1) (D : Apart z TI TO rs) (er : rs = pre ++ r :: post)
    (hi : ItAt h' (k + 1) r) (sb : Heap.SameBut r.it h h') : Mid h0 h' z TI TO rs (pre ++ [r]) post k f0 f1 := by
  have hr : r ∈ rs := by rw [er]; simp
  have nd := D.nd
  rw [er] at nd
  simp only [List.map_append, List.map_cons, List.nodup_append, List.nodup_cons, List.mem_map, List.mem_cons] at nd
  refine ⟨sb.extBut _ _ (D.iz r hr).1.symm M.zp, fun q hq => ?_, fun q hq => ?_, sb.1.trans M.sz, fun c o c1 c2 c3 e => sb.extBut _ _ (c3 r hr) (M.fr c o c1 c2 c3 e)⟩
  · rcases List.mem_append.mp hq with hq | hq
    · exact (M.pr q hq).at fun o e => sb.extBut _ _ (fun z => nd.2.2 q.it ⟨q, hq, rfl⟩ r.it (.inl rfl) z) e
    · obtain rfl := List.mem_singleton.mp hq
      exact hi
  · exact (M.po q (List.mem_cons_of_mem _ hq)).at fun o e => sb.extBut _ _ (fun z => nd.2.1.1 ⟨q, hq, z⟩) e
theorem Mid.put {h0 h h' : Heap} {z TI TO : Addr} {rs pre post : List Sr} {k : Nat} {f0 f1 : Value} (M : Mid h0 h z TI TO rs pre post k f0 f1) (D : Apart z TI TO rs) (er : rs = pre ++ post) (sb : Heap.SameBut TO h h') : Mid h0 h' z TI TO rs pre post k f0 f1 := by
  refine ⟨sb.extBut _ _ D.TOz.symm M.zp, fun q hq => (M.pr q hq).at fun o e => sb.extBut _ _ (D.iz q (by rw [er]; simp [hq])).2.2 e, fun q hq => (M.po q hq).at fun o e => sb.extBut _ _ (D.iz q (by rw [er]; simp [hq])).2.2 e, sb.1.trans M.sz,
    fun c o c1 c2 c3 e => sb.extBut _ _ c2 (M.fr c o c1 c2 c3 e)⟩
theorem Mid.ref {h0 : Heap} {z TI TO : Addr} {rs : List Sr} {k : Nat} {f0 f1 g0 g1 : Value} {h : Heap} (D : Apart z TI TO rs) (hz : Zp h z TI TO g0 g1) (sb : Heap.SameBut z h0 h) (hi : ∀ r ∈ rs, ItAt h0 k r) : Mid h0 h z TI TO rs [] rs k g0 g1 :=
  ⟨hz, (fun _ q => nomatch q), fun r hr => (hi r hr).at fun o e => sb.extBut _ _ (D.iz r hr).1 e, sb.1, fun c o c1 _ _ e => sb.extBut _ _ c1 e⟩
theorem upd_tup {T : Addr} {arr : List Value} {x : Value} {k : Nat} {Q : Unit → Shared → Prop} (hn : arr.length ≤ sizeLine) (hT : Tp s.heap T arr)
    (h : ∀ h', Tp h' T (arr.set k x) → Heap.SameBut T s.heap h' → Q () { s with heap := h' }) :
    wpAny (model prog w) A (updateSeq T (·.setIfInBounds k x)) Q E s := by
  refine wpAny_updateSeq (hz := by simpa using hn) (_hz' := by simpa using Nat.le_succ_of_le hn) hT rfl (h _ ?_ (Heap.SameBut.update ..))
  show Heap.get? _ _ = _
  rw [Heap.get?_update_self _ hT rfl]
  simp [Obj.mapSeq]
theorem zip_item {z TI TO : Addr} {rs : List Sr} {f0 f1 : Value} {arr : List Value} {k : Nat} {Q : Value → Shared → Prop} (D : Apart z TI TO rs) (hn : rs.length ≤ sizeLine) (hne : rs ≠ []) (hz : Zp s.heap z TI TO f0 f1) (h0 : f0 = .none ∨ ∃ T : Addr, f0 = rawInt T) (hf : f1 = .bool true ∨ f1 = .bool false)
    (hTI : Tp s.heap TI (rs.map fun r => .ref r.it)) (hTO : Tp s.heap TO arr) (ha : arr.length = rs.length) (hi : ∀ r ∈ rs, ItAt s.heap k r) (hs : ∀ r ∈ rs, SqAt s.heap r) (hk : ∀ r ∈ rs, k < r.xs.length)
    (hQ : ∀ h' g0 g1 arr', Zp h' z TI TO g0 g1 → (g0 = .none ∨ ∃ T : Addr, g0 = rawInt T) → (g1 = .bool true ∨ g1 = .bool false) → Tp h' TO arr' → arr'.length = rs.length → (∀ r ∈ rs, ItAt h' (k + 1) r) → Tp h' s.heap.objs.size (row rs k) → h'.objs.size = s.heap.objs.size + 1 →
      (∀ c o, c ≠ z → c ≠ TO → (∀ r ∈ rs, c ≠ r.it) → s.heap.get? c = some o → h'.get? c = some o) → Q (.ref s.heap.objs.size) { s with heap := h' }) :
    wpAny (model prog w) A (Builtin.«zip.__next__» ⟨[.ref z], []⟩) (fun fin s' => ∃ v, fin = .done (.ret v) ∧ Q v s') E s := by
  show wpAny _ _ (field (.ref z) 2 >>= _) _ _ _
  refine wpAny_bind (wpAny_field hz rfl (x := .bool false) rfl ?_)
  show wpAny _ _ (field (.ref z) 3 >>= _) _ _ _
  refine wpAny_bind (wpAny_field hz rfl (x := .ref TI) rfl ?_)
  refine wpAny_bind (wpAny_seqItems hTI rfl ?_)
  have hemp : (rs.map fun r => Value.ref r.it).toArray.isEmpty = false := by
    cases rs with
    | nil => exact absurd rfl hne
    | cons _ _ => simp
  have gk : ∀ r ∈ rs, r.xs[k]? = some (r.xs.getD k .none) := fun r hr => by
    rw [List.getD_eq_getElem?_getD, List.getElem?_eq_getElem (hk r hr)]; rfl
  simp only [hemp, Bool.false_eq_true, if_false, pure_bind]
  refine wpAny_bind (free_none hz h0 hf ?_ fun h₁ hz₁ hs₁ => ?_)
  · simp only [if_true]
    refine wpAny_bind (wpAny_rule ?_)
    refine wpAny_bind (wpAny_field hz rfl (x := .ref TO) rfl ?_)
    refine wpAny_bind (wpAny_setField_rec hz (by simp) fun h₁ hz₁ hs₁ => ?_)
    replace hz₁ : Zp h₁ z TI TO .ellipsis f1 := hz₁
    refine wpAny_bind ?_
    refine wpAny_forIn_list _ (fun rest b s' => ∃ pre post h arr', rs = pre ++ post ∧ rest = (post.map fun r => Value.ref r.it).zipIdx pre.length ∧ b = (none, ()) ∧ s' = { s with heap := h } ∧ Mid s.heap h z TI TO rs pre post k .ellipsis f1 ∧ Tp h TO (row pre k ++ arr') ∧ arr'.length = post.length) _ ?_ ?_ _ _
      ⟨[], rs, h₁, arr, rfl, rfl, rfl, rfl, .ref (h0 := s.heap) (f0 := f0) (f1 := f1) D hz₁ hs₁ hi, hs₁.extBut _ _ D.TOz hTO, ha⟩
    · rintro ⟨x, j⟩ rest b s' ⟨pre, post, h, arr', er, hrest, rfl, rfl, M, hT, hl⟩
      cases post with
      | nil => simp at hrest
      | cons r post =>
        have hr : r ∈ rs := by rw [er]; simp
        simp only [List.map_cons, List.zipIdx_cons, List.cons.injEq, Prod.mk.injEq] at hrest
        obtain ⟨⟨rfl, rfl⟩, rfl⟩ := hrest
        cases arr' with
        | nil => simp at hl
        | cons a0 arr' =>
          refine wpAny_bind (wpAny_onRaise ?_)
          show wpAny _ _ (Builtin.SmallTypes.nextOf (.ref r.it) >>= _) _ _ _
          refine wpAny_bind (next_item (s := { s with heap := h }) (M.po r (List.mem_cons_self ..)) (M.sq D hr (hs r hr)) (gk r hr) fun h₂ hi₂ sb₂ => wpAny_pure ?_)
          have M2 := M.step D er hi₂ sb₂
          have hT2 : Tp h₂ TO (row pre k ++ a0 :: arr') := sb₂.extBut _ _ (D.iz r hr).2.2.symm hT
          refine wpAny_bind (wpAny_seqItems (s := { s with heap := h₂ }) hT2 rfl ?_)
          refine wpAny_bind (upd_tup (s := { s with heap := h₂ }) (by rw [er] at hn; simp [row] at hn hl ⊢; omega) hT2 fun h₃ hT₃ sb₃ => ?_)
          refine wpAny_bind (wpAny_letGo (wpAny_pure ?_))
          have er' : rs = (pre ++ [r]) ++ post := by rw [er]; simp
          refine ⟨pre ++ [r], post, h₃, arr', er', by simp, rfl, rfl, M2.put D er' sb₃, ?_, by simpa using hl⟩
          have e : (row pre k ++ a0 :: arr').set pre.length (r.xs.getD k .none) = row (pre ++ [r]) k ++ arr' := by
            rw [List.set_append_right _ _ (by simp [row])]
            simp [row]
          rw [e] at hT₃
          exact hT₃
    · rintro b s' ⟨pre, post, h, arr', er, hrest, rfl, rfl, M, hT, hl⟩
      cases post with
      | cons r post => simp at hrest
      | nil =>
        cases arr' with
        | cons _ _ => simp at hl
        | nil =>
          have er' : pre = rs := by rw [er]; simp
          subst er'
          simp only [List.append_nil] at hT
          refine wpAny_bind (wpAny_seqItems (s := { s with heap := h }) hT rfl ?_)
          refine wpAny_bind (wpAny_newTuple (hsz := by simpa [row] using hn) ?_)
          refine wpAny_bind ?_
          show wpAny _ _ (Builtin.SmallTypes.ownedTupleHandOut (.ref z) (.ref h.objs.size)) _ _ _
          unfold Builtin.SmallTypes.ownedTupleHandOut
          have hzlt : z < h.objs.size := Heap.lt_size M.zp
          have up0 : ∀ c o, h.get? c = some o → (h.push { cls := .type "tuple", data := .seq (row pre k).toArray }).get? c = some o := fun c o e => Heap.get?_push_of_some _ e
          refine wpAny_bind (wpAny_setField_rec (up0 _ _ M.zp) (by simp) fun h₇ hz₇ hs₇ => ?_)
          replace hz₇ : Zp h₇ z TI TO (rawInt h.objs.size) f1 := hz₇
          refine wpAny_setField_rec hz₇ (by simp) fun h₈ hz₈ hs₈ => ?_
          replace hz₈ : Zp h₈ z TI TO (rawInt h.objs.size) (.bool false) := hz₈
          replace hs₇ : Heap.SameBut z (h.push { cls := .type "tuple", data := .seq (row pre k).toArray }) h₇ := hs₇
          replace hs₈ : Heap.SameBut z h₇ h₈ := hs₈
          have up : ∀ c o, c ≠ z → h.get? c = some o → h₈.get? c = some o := fun c o c1 e => hs₈.extBut _ _ c1 (hs₇.extBut _ _ c1 (up0 _ _ e))
          have hT₈ : Tp h₈ h.objs.size (row pre k) := hs₈.extBut _ _ (Nat.ne_of_gt hzlt) (hs₇.extBut _ _ (Nat.ne_of_gt hzlt) (Heap.get?_push_size _ rfl))
          have hz8 : h₈.objs.size = h.objs.size + 1 := by rw [hs₈.1, hs₇.1, Heap.size_push]
          refine wpAny_pure ⟨_, rfl, ?_⟩
          show Q (.ref h.objs.size) { s with heap := h₈ }
          rw [M.sz] at hT₈ hz8 ⊢
          exact hQ h₈ _ _ _ hz₈ (.inr ⟨_, rfl⟩) (.inr rfl) (up _ _ D.TOz hT) (by simp [row]) (fun r hr => (M.pr r hr).at fun o e => up _ _ (D.iz r hr).1 e) hT₈ hz8 fun c o c1 c2 c3 e => up _ _ c1 (M.fr c o c1 c2 c3 e)
  · simp only [Bool.false_eq_true, if_false]
    refine wpAny_bind ?_
    rw [← Array.forIn_toList]
    refine wpAny_forIn_list _ (fun rest b s' => ∃ pre post h, rs = pre ++ post ∧ rest = (post.map fun r => Value.ref r.it) ∧ b = (none, (row pre k).toArray) ∧ s' = { s with heap := h } ∧ Mid s.heap h z TI TO rs pre post k f0 (.bool true) ∧ Tp h TO arr) _ ?_ ?_ _ _
      ⟨[], rs, h₁, rfl, by simp, rfl, rfl, .ref (h0 := s.heap) (f0 := f0) (f1 := f1) D hz₁ hs₁ hi, hs₁.extBut _ _ D.TOz hTO⟩
    · rintro x rest b s' ⟨pre, post, h, er, hrest, rfl, rfl, M, hT⟩
      cases post with
      | nil => simp at hrest
      | cons r post =>
        have hr : r ∈ rs := by rw [er]; simp
        simp only [List.map_cons, List.cons.injEq] at hrest
        obtain ⟨rfl, rfl⟩ := hrest
        refine wpAny_bind (wpAny_holding ?_)
        show wpAny _ _ (Builtin.SmallTypes.nextOf (.ref r.it) >>= _) _ _ _
        refine wpAny_bind (next_item (s := { s with heap := h }) (M.po r (List.mem_cons_self ..)) (M.sq D hr (hs r hr)) (gk r hr) fun h₂ hi₂ sb₂ => wpAny_pure (wpAny_pure ?_))
        have er' : rs = (pre ++ [r]) ++ post := by rw [er]; simp
        exact ⟨pre ++ [r], post, h₂, er', rfl, by simp [row], rfl, M.step D er hi₂ sb₂, sb₂.extBut _ _ (D.iz r hr).2.2.symm hT⟩
    · rintro b s' ⟨pre, post, h, er, hrest, rfl, rfl, M, hT⟩
      cases post with
      | cons r post => simp at hrest
      | nil =>
        have er' : pre = rs := by rw [er]; simp
        subst er'
        show wpAny _ _ (newTuple (row pre k) >>= _) _ _ _
        refine wpAny_bind (wpAny_newTuple (hsz := by simpa [row] using hn) (wpAny_pure ⟨_, rfl, ?_⟩))
        have up : ∀ c o, h.get? c = some o → (h.push { cls := .type "tuple", data := .seq (row pre k).toArray }).get? c = some o := fun c o e => Heap.get?_push_of_some _ e
        have hT₈ : Tp (h.push { cls := .type "tuple", data := .seq (row pre k).toArray }) h.objs.size (row pre k) := Heap.get?_push_size _ rfl
        have hz8 : (h.push { cls := .type "tuple", data := .seq (row pre k).toArray }).objs.size = h.objs.size + 1 := Heap.size_push ..
        show Q (.ref h.objs.size) { s with heap := h.push { cls := .type "tuple", data := .seq (row pre k).toArray } }
        rw [M.sz] at hT₈ hz8 ⊢
        exact hQ _ _ _ _ (up _ _ M.zp) h0 (.inl rfl) (up _ _ hT) ha (fun r hr => (M.pr r hr).at fun o e => up _ _ e) hT₈ hz8 fun c o c1 c2 c3 e => up _ _ (M.fr c o c1 c2 c3 e)
end
end EvZ
namespace EvZ
open PySem PySem.Spec PySem.SeqAt L2 PyProof.Rows
theorem typeCall_zip (args : List Value) : checkTypeCall "zip" ⟨args, []⟩ = pure () := by kernel_rfl
theorem newCall_zip : ∀ (args : List Value), args.length ≤ 9 → checkBuiltinCall "zip.__new__" ⟨.type "zip" :: args, []⟩ = pure ()
  | [], _ => by kernel_rfl
  | [_], _ => by kernel_rfl
  | [_, _], _ => by kernel_rfl
  | [_, _, _], _ => by kernel_rfl
  | [_, _, _, _], _ => by kernel_rfl
  | [_, _, _, _, _], _ => by kernel_rfl
  | [_, _, _, _, _, _], _ => by kernel_rfl
  | [_, _, _, _, _, _, _], _ => by kernel_rfl
  | [_, _, _, _, _, _, _, _], _ => by kernel_rfl
  | [_, _, _, _, _, _, _, _, _], _ => by kernel_rfl
  | _ :: _ :: _ :: _ :: _ :: _ :: _ :: _ :: _ :: _ :: _, h => by simp at h
theorem init_zip (obj : Value) (args : List Value) : argsOk "object.__init__" ⟨obj :: args, []⟩ := by
  unfold argsOk; kernel_rfl
section
variable {prog : Program} {w : World} {A : Around} {E : Value → Shared → Prop} {s : Shared}
/-- new iterators over the sources -/
theorem iterAll_zip {rs0 : List Sr} {Q : List Value → Shared → Prop} (hs : ∀ r ∈ rs0, SqAt s.heap r)
    (hQ : ∀ (h' : Heap) (rs : List Sr), rs.map (fun r => (r.tp, r.l, r.xs)) = rs0.map (fun r => (r.tp, r.l, r.xs)) → (∀ r ∈ rs, ItAt h' 0 r) → rs.map (·.it) = List.range' s.heap.objs.size rs0.length → h'.objs.size = s.heap.objs.size + rs0.length → (∀ c o, s.heap.get? c = some o → h'.get? c = some o) →
      Q (rs.map fun r => .ref r.it) { s with heap := h' }) :
    wpAny (model prog w) A (Builtin.SmallTypes.iterAll (rs0.map fun r => .ref r.l)) Q E s := by
  unfold Builtin.SmallTypes.iterAll
  refine wpAny_bind ?_
  refine wpAny_forIn_list _ (fun rest b s' => ∃ (pre : List Sr) (pre0 post : List Sr) (h : Heap), rs0 = pre0 ++ post ∧ pre.map (fun r => (r.tp, r.l, r.xs)) = pre0.map (fun r => (r.tp, r.l, r.xs)) ∧ rest = (post.map fun r => Value.ref r.l) ∧ b = (pre.map fun r => Value.ref r.it).toArray ∧ s' = { s with heap := h } ∧ (∀ r ∈ pre, ItAt h 0 r) ∧
    pre.map (·.it) = List.range' s.heap.objs.size pre0.length ∧ h.objs.size = s.heap.objs.size + pre0.length ∧ ∀ c o, s.heap.get? c = some o → h.get? c = some o) _ ?_ ?_ _ _
    ⟨[], [], rs0, s.heap, rfl, rfl, rfl, rfl, rfl, (fun _ q => nomatch q), rfl, rfl, fun _ _ e => e⟩
  · rintro x rest b s' ⟨pre, pre0, post, h, er, em, hrest, rfl, rfl, hi, hr, hz, hk⟩
    cases post with
    | nil => simp at hrest
    | cons r post =>
      simp only [List.map_cons, List.cons.injEq] at hrest
      obtain ⟨rfl, rfl⟩ := hrest
      have hsq : SqAt h r := (hs r (by rw [er]; simp)).at fun o e => hk _ _ e
      refine wpAny_bind (wpAny_holding ?_)
      have key : ∀ o, (∀ hn : Heap, hn.get? h.objs.size = some o → ItAt hn 0 { r with it := h.objs.size }) → o.isFreed = false → wpAny (model prog w) A (pure (ForInStep.yield ((pre.map fun r => Value.ref r.it).toArray.push (Value.ref h.objs.size)))) (fun r s' => match r with
          | .yield b' => ∃ (pre : List Sr) (pre0 post_1 : List Sr) (h : Heap), rs0 = pre0 ++ post_1 ∧ pre.map (fun r => (r.tp, r.l, r.xs)) = pre0.map (fun r => (r.tp, r.l, r.xs)) ∧ (post.map fun r => Value.ref r.l) = (post_1.map fun r => Value.ref r.l) ∧ b' = (pre.map fun r => Value.ref r.it).toArray ∧ s' = { s with heap := h } ∧ (∀ r ∈ pre, ItAt h 0 r) ∧
            pre.map (·.it) = List.range' s.heap.objs.size pre0.length ∧ h.objs.size = s.heap.objs.size + pre0.length ∧ ∀ c o, s.heap.get? c = some o → h.get? c = some o
          | .done b' => wpAny (model prog w) A (pure b'.toList) Q E s') E { s with heap := h.push o } := fun o h1 h2 => by
        refine wpAny_pure ⟨pre ++ [{ r with it := h.objs.size }], pre0 ++ [r], post, h.push o, by rw [er]; simp, by simp [em], rfl, by simp, rfl, fun q hq => ?_, ?_, by rw [Heap.size_push, hz]; simp; omega, fun c o e => Heap.get?_push_of_some _ (hk c o e)⟩
        · rcases List.mem_append.mp hq with hq | hq
          · exact (hi q hq).at fun o e => Heap.get?_push_of_some _ e
          · obtain rfl := List.mem_singleton.mp hq
            exact h1 _ (Heap.get?_push_size _ h2)
        · simp [hr, List.range'_concat, hz]
      obtain ⟨tp, it, l, xs⟩ := r
      cases tp with
      | true => exact wpAny_pyIter_tuple (s := { s with heap := h }) hsq (key _ (fun hn e => ⟨_, e, rfl, rfl⟩) rfl)
      | false => exact wpAny_pyIter_list (s := { s with heap := h }) hsq (key _ (fun hn e => ⟨_, e, rfl, rfl⟩) rfl)
  · rintro b s' ⟨pre, pre0, post, h, er, em, hrest, rfl, rfl, hi, hr, hz, hk⟩
    cases post with
    | cons r post => simp at hrest
    | nil =>
      have er' : pre0 = rs0 := by rw [er]; simp
      subst er'
      exact wpAny_pure (hQ h pre em hi hr hz hk)
def ZipMade (rs0 : List Sr) (s : Shared) (Q : Value → Shared → Prop) : Prop :=
  ∀ (h' : Heap) (rs : List Sr), rs.map (fun r => (r.tp, r.l, r.xs)) = rs0.map (fun r => (r.tp, r.l, r.xs)) → (∀ r ∈ rs, ItAt h' 0 r) → rs.map (·.it) = List.range' s.heap.objs.size rs0.length → h'.objs.size = s.heap.objs.size + rs0.length + 3 → (∀ c o, s.heap.get? c = some o → h'.get? c = some o) →
      Zp h' (s.heap.objs.size + rs0.length + 2) (s.heap.objs.size + rs0.length) (s.heap.objs.size + rs0.length + 1) .none (.bool false) → Tp h' (s.heap.objs.size + rs0.length) (rs.map fun r => .ref r.it) → Tp h' (s.heap.objs.size + rs0.length + 1) (rs.map fun _ => .none) →
      Q (.ref (s.heap.objs.size + rs0.length + 2)) { s with heap := h' }
theorem meets_zip (rs0 : List Sr) (hn : rs0.length ≤ 9) : Meets (Builtin.«zip.__new__» ⟨.type "zip" :: (rs0.map fun r => .ref r.l), []⟩) (fun _ R s => (∀ r ∈ rs0, SqAt s.heap r) ∧ ZipMade rs0 s fun v s' => R (.ok (.ret v)) s') :=
  .of_wp fun prog w A R s ⟨hs, h⟩ => by
    unfold Builtin.«zip.__new__»
    refine wpAny_bind (m := Builtin.SmallTypes.newClass "zip" _) ?_
    unfold Builtin.SmallTypes.newClass
    show wpAny _ _ (isType (.type "zip") >>= _) _ _ _
    refine wpAny_bind (wpAny_pure ?_)
    simp only [Bool.not_true, Bool.false_eq_true, if_false, pure_bind]
    rw [sub_zip]
    simp only [pure_bind, Bool.not_true, Bool.false_eq_true, if_false]
    refine wpAny_pure ?_
    simp only [List.length_nil, gt_iff_lt, Nat.not_lt_zero, if_false, pure_bind]
    refine wpAny_bind (iterAll_zip hs fun h1 rs e1 e2 e3 e4 e5 => ?_)
    have el : rs.length = rs0.length := by simpa using congrArg List.length e1
    have en : rs.length ≤ sizeLine := by rw [el]; exact Nat.le_trans hn (by decide)
    refine wpAny_bind (wpAny_newTuple (hsz := by simpa using en) ?_)
    refine wpAny_bind (wpAny_newTuple (hsz := by simpa using en) ?_)
    generalize eh2 : h1.push { cls := Value.type "tuple", data := Data.seq (List.map (fun r => Value.ref r.it) rs).toArray } = h2
    generalize eh3 : h2.push { cls := Value.type "tuple", data := Data.seq (List.map (fun x => Value.none) (List.map (fun r => Value.ref r.it) rs)).toArray } = h3
    refine wpAny_bind ?_
    show wpAny _ _ (newObj (.type "zip") (.fields #[.none, .bool false, .bool false, .ref h1.objs.size, .ref h2.objs.size])) _ _ { s with heap := h3 }
    refine wpAny_newObj_type (wpAny_pure ⟨_, rfl, ?_⟩) (by size_fits)
    have z2 : h2.objs.size = h1.objs.size + 1 := by rw [← eh2]; exact Heap.size_push ..
    have z3 : h3.objs.size = h2.objs.size + 1 := by rw [← eh3]; exact Heap.size_push ..
    show R (.ok (.ret (.ref h3.objs.size))) { s with heap := h3.push { cls := .type "zip", dict := none, data := .fields #[.none, .bool false, .bool false, .ref h1.objs.size, .ref h2.objs.size], slots := #[] } }
    have g3 : ∀ c o, h1.get? c = some o → (h3.push { cls := .type "zip", dict := none, data := .fields #[.none, .bool false, .bool false, .ref h1.objs.size, .ref h2.objs.size], slots := #[] }).get? c = some o := fun c o e => by
      refine Heap.get?_push_of_some _ ?_
      rw [← eh3]; refine Heap.get?_push_of_some _ ?_
      rw [← eh2]; exact Heap.get?_push_of_some _ e
    have a1 : Tp (h3.push { cls := .type "zip", dict := none, data := .fields #[.none, .bool false, .bool false, .ref h1.objs.size, .ref h2.objs.size], slots := #[] }) h1.objs.size (rs.map fun r => .ref r.it) := by
      refine Heap.get?_push_of_some _ ?_
      rw [← eh3]; refine Heap.get?_push_of_some _ ?_
      rw [← eh2]; exact Heap.get?_push_size _ rfl
    have a2 : Tp (h3.push { cls := .type "zip", dict := none, data := .fields #[.none, .bool false, .bool false, .ref h1.objs.size, .ref h2.objs.size], slots := #[] }) h2.objs.size (rs.map fun _ => .none) := by
      refine Heap.get?_push_of_some _ ?_
      rw [← eh3]
      have := Heap.get?_push_size h2 (o := { cls := Value.type "tuple", data := Data.seq (List.map (fun x => Value.none) (List.map (fun r => Value.ref r.it) rs)).toArray }) rfl
      rw [List.map_map] at this ⊢
      exact this
    have a3 : Zp (h3.push { cls := .type "zip", dict := none, data := .fields #[.none, .bool false, .bool false, .ref h1.objs.size, .ref h2.objs.size], slots := #[] }) h3.objs.size h1.objs.size h2.objs.size .none (.bool false) := Heap.get?_push_size _ rfl
    have zz : (h3.push { cls := .type "zip", dict := none, data := .fields #[.none, .bool false, .bool false, .ref h1.objs.size, .ref h2.objs.size], slots := #[] }).objs.size = h3.objs.size + 1 := Heap.size_push ..
    generalize (h3.push { cls := .type "zip", dict := none, data := .fields #[.none, .bool false, .bool false, .ref h1.objs.size, .ref h2.objs.size], slots := #[] }) = h4 at *
    rw [z3, z2, e4] at a3 zz ⊢
    rw [z2, e4] at a2
    rw [e4] at a1
    exact h h4 rs e1 (fun r hr => (e2 r hr).at fun o e => g3 _ _ e) e3 zz (fun c o e => g3 _ _ (e5 c o e)) a3 a1 a2
theorem call_zip {rs0 : List Sr} {Q : Value → Shared → Prop} (hn : rs0.length ≤ 9) (hs : ∀ r ∈ rs0, SqAt s.heap r) (hQ : ZipMade rs0 s Q) :
    wpAny (model prog w) A (call (.type "zip") (rs0.map fun r => .ref r.l)) Q E s :=
  callType_new F.called_zip (by decide) (typeCall_zip _) (newCall_zip _ (by simpa using hn)) (fun obj => init_zip obj _) F.entry_zip_new (meets_zip rs0 hn)
    ⟨hs, fun h' rs e1 e2 e3 e4 e5 e6 e7 e8 => ⟨⟨_, e6, rfl⟩, hQ h' rs e1 e2 e3 e4 e5 e6 e7 e8⟩⟩
theorem zip_end {z TI TO : Addr} {r : Sr} {rs : List Sr} {f0 f1 : Value} {k : Nat} {Q : Fin → Shared → Prop} (hh : A.handled = none) (D : Apart z TI TO (r :: rs)) (hz : Zp s.heap z TI TO f0 f1) (h0 : f0 = .none ∨ ∃ T : Addr, f0 = rawInt T) (hf : f1 = .bool true ∨ f1 = .bool false)
    (hTI : Tp s.heap TI ((r :: rs).map fun r => .ref r.it)) (hi : ItAt s.heap k r) (hs : SqAt s.heap r) (hk : r.xs.length ≤ k)
    (hE : ∀ h' e, (∀ c o, c ≠ z → c ≠ r.it → s.heap.get? c = some o → h'.get? c = some o) → (∃ o, h'.get? e = some o ∧ o.cls = .type "StopIteration") → E (.ref e) { s with heap := h' }) :
    wpAny (model prog w) A (Builtin.«zip.__next__» ⟨[.ref z], []⟩) Q E s := by
  have hr := D.iz r (List.mem_cons_self ..)
  have hl := D.lz r (List.mem_cons_self ..)
  have gk : r.xs[k]? = none := List.getElem?_eq_none hk
  show wpAny _ _ (field (.ref z) 2 >>= _) _ _ _
  refine wpAny_bind (wpAny_field hz rfl (x := .bool false) rfl ?_)
  show wpAny _ _ (field (.ref z) 3 >>= _) _ _ _
  refine wpAny_bind (wpAny_field hz rfl (x := .ref TI) rfl ?_)
  refine wpAny_bind (wpAny_seqItems hTI rfl ?_)
  have hemp : ((r :: rs).map fun r => Value.ref r.it).toArray.isEmpty = false := by simp
  simp only [hemp, Bool.false_eq_true, if_false, pure_bind]
  refine wpAny_bind (free_none hz h0 hf ?_ fun h₁ hz₁ hs₁ => ?_)
  · simp only [if_true]
    refine wpAny_bind (wpAny_rule ?_)
    refine wpAny_bind (wpAny_field hz rfl (x := .ref TO) rfl ?_)
    refine wpAny_bind (wpAny_setField_rec hz (by simp) fun h₁ hz₁ hs₁ => ?_)
    replace hz₁ : Zp h₁ z TI TO .ellipsis f1 := hz₁
    refine wpAny_bind ?_
    simp only [List.map_cons, List.zipIdx_cons, List.forIn_cons]
    refine wpAny_bind (wpAny_bind (wpAny_onRaise ?_))
    show wpAny _ _ (Builtin.SmallTypes.nextOf (.ref r.it) >>= _) _ _ _
    refine wpAny_bind (next_end (s := { s with heap := h₁ }) hh (hi.at fun o e => hs₁.extBut _ _ hr.1 e) (hs.at fun o e => hs₁.extBut _ _ hl.1 e) gk fun h₂ e hx he => ?_)
    obtain ⟨oe, hoe, hce⟩ := he
    have hzq : Zp h₂ z TI TO .ellipsis f1 := hx _ _ hr.1.symm hz₁
    have hez : e ≠ z := fun x => by subst x; rw [hzq] at hoe; cases hoe; simp at hce
    refine wpAny_setField_rec (s := { s with heap := h₂ }) hzq (by simp) fun q' _ hq' => ?_
    replace hq' : Heap.SameBut z h₂ q' := hq'
    exact hE q' e (fun c o cz c1 x => hq'.extBut _ _ cz (hx _ _ c1 (hs₁.extBut _ _ cz x))) ⟨oe, hq'.extBut _ _ hez hoe, hce⟩
  · simp only [Bool.false_eq_true, if_false]
    refine wpAny_bind ?_
    rw [← Array.forIn_toList]
    simp only [List.map_cons, List.forIn_cons]
    refine wpAny_bind (wpAny_bind (wpAny_holding ?_))
    show wpAny _ _ (Builtin.SmallTypes.nextOf (.ref r.it) >>= _) _ _ _
    refine wpAny_bind (next_end (s := { s with heap := h₁ }) hh (hi.at fun o e => hs₁.extBut _ _ hr.1 e) (hs.at fun o e => hs₁.extBut _ _ hl.1 e) gk fun h₂ e hx he => ?_)
    exact hE h₂ e (fun c o cz c1 x => hx _ _ c1 (hs₁.extBut _ _ cz x)) he
theorem pyNext_item {z TI TO : Addr} {rs : List Sr} {f0 f1 : Value} {arr : List Value} {k : Nat} {Q : Option Value → Shared → Prop} (D : Apart z TI TO rs) (hn : rs.length ≤ sizeLine) (hne : rs ≠ []) (hz : Zp s.heap z TI TO f0 f1) (h0 : f0 = .none ∨ ∃ T : Addr, f0 = rawInt T) (hf : f1 = .bool true ∨ f1 = .bool false)
    (hTI : Tp s.heap TI (rs.map fun r => .ref r.it)) (hTO : Tp s.heap TO arr) (ha : arr.length = rs.length) (hi : ∀ r ∈ rs, ItAt s.heap k r) (hs : ∀ r ∈ rs, SqAt s.heap r) (hk : ∀ r ∈ rs, k < r.xs.length)
    (hQ : ∀ h' g0 g1 arr', Zp h' z TI TO g0 g1 → (g0 = .none ∨ ∃ T : Addr, g0 = rawInt T) → (g1 = .bool true ∨ g1 = .bool false) → Tp h' TO arr' → arr'.length = rs.length → (∀ r ∈ rs, ItAt h' (k + 1) r) → Tp h' s.heap.objs.size (row rs k) → h'.objs.size = s.heap.objs.size + 1 →
      (∀ c o, c ≠ z → c ≠ TO → (∀ r ∈ rs, c ≠ r.it) → s.heap.get? c = some o → h'.get? c = some o) → Q (some (.ref s.heap.objs.size)) { s with heap := h' }) :
    wpAny (model prog w) A (pyNext (.ref z)) Q E s := by
  have hT : s.TypeIs (.ref z) "zip" := ⟨_, hz, rfl⟩
  unfold pyNext
  exact wpAny_bind (wpAny_attempt (wpAny_callSpecial?_slot (name := Str.ofString "__next__") hT F.slot_zip_next
    (wpAny_call_entry F.slot_zip_next hT F.entry_zip_next
      (zip_item D hn hne hz h0 hf hTI hTO ha hi hs hk fun h' g0 g1 arr' b1 b2 b3 b4 b5 b6 b7 b8 b9 => wpAny_pure (hQ h' g0 g1 arr' b1 b2 b3 b4 b5 b6 b7 b8 b9)) (F.args_zip_next_1 _))))
theorem pyNext_end {z TI TO : Addr} {r : Sr} {rs : List Sr} {f0 f1 : Value} {k : Nat} {Q : Option Value → Shared → Prop} (hh : A.handled = none) (D : Apart z TI TO (r :: rs)) (hz : Zp s.heap z TI TO f0 f1) (h0 : f0 = .none ∨ ∃ T : Addr, f0 = rawInt T) (hf : f1 = .bool true ∨ f1 = .bool false)
    (hTI : Tp s.heap TI ((r :: rs).map fun r => .ref r.it)) (hi : ItAt s.heap k r) (hs : SqAt s.heap r) (hk : r.xs.length ≤ k)
    (hQ : ∀ h', (∀ c o, c ≠ z → c ≠ r.it → s.heap.get? c = some o → h'.get? c = some o) → Q none { s with heap := h' }) : wpAny (model prog w) A (pyNext (.ref z)) Q E s := by
  have hT : s.TypeIs (.ref z) "zip" := ⟨_, hz, rfl⟩
  unfold pyNext
  refine wpAny_bind (wpAny_attempt (wpAny_callSpecial?_slot (name := Str.ofString "__next__") hT F.slot_zip_next
    (wpAny_call_entry F.slot_zip_next hT F.entry_zip_next (zip_end (A := A.in1) hh D hz h0 hf hTI hi hs hk fun h' e hk he => ?_) (F.args_zip_next_1 _))))
  obtain ⟨o, ho, hc⟩ := he
  refine wpAny_bind (wpAny_isInstance (T := "StopIteration") (b := true) ⟨o, ho, hc⟩ isSubtype_stop ?_)
  exact wpAny_pure (hQ _ hk)
theorem pyIter_zp {z TI TO : Addr} {f0 f1 : Value} {Q : Value → Shared → Prop} (hz : Zp s.heap z TI TO f0 f1) (h : Q (.ref z) s) : wpAny (model prog w) A (pyIter (.ref z)) Q E s := by
  have hT : s.TypeIs (.ref z) "zip" := ⟨_, hz, rfl⟩
  refine wpAny_pyIter_slot hT F.slot_zip_iter (wpAny_call_entry F.slot_zip_iter hT F.entry_zip_iter ?_ (F.args_zip_iter_1 _))
  show wpAny _ _ (ret (.ref z)) _ _ s
  exact wpAny_pure ⟨_, rfl, "zip", _, hT, F.slot_zip_next.lookup, h⟩
/-- what the step ahead of the store does -/
theorem letGo_zp {tg : Expr} {z TI TO T : Addr} {f0 f1 : Value} {Q : Unit → Shared → Prop} (hz : Zp s.heap z TI TO f0 f1) (h0 : f0 = .none ∨ ∃ T : Addr, f0 = rawInt T)
    (hQ : ∀ h' g0, Zp h' z TI TO g0 f1 → (g0 = .none ∨ ∃ T : Addr, g0 = rawInt T) → Heap.SameBut z s.heap h' → Q () { s with heap := h' }) : wpAny (model prog w) A (letOwnedTupleGo tg (.ref z) (.ref T)) Q E s := by
  have stay : Q () s := hQ s.heap f0 hz h0 (Heap.SameBut.refl _ _)
  have main : wpAny (model prog w) A (do
      let o ← load z
      match o.cls, o.data with
      | .type n, .fields vs =>
        if ["enumerate", "zip", "dict_itemiterator", "dict_reverseitemiterator", "odict_iterator", "itertools.zip_longest", "itertools.pairwise"].contains n && vs[0]? == some (rawInt T) then
          rule "for.unpacks-the-owned-tuple"
          updateField z 0 .none
      | _, _ => pure ()) Q E s := by
    refine wpAny_bind (wpAny_load hz ?_)
    show wpAny _ _ (if (["enumerate", "zip", "dict_itemiterator", "dict_reverseitemiterator", "odict_iterator", "itertools.zip_longest", "itertools.pairwise"].contains "zip" && (#[f0, f1, .bool false, .ref TI, .ref TO] : Array Value)[0]? == some (rawInt T)) = true then _ else _) Q E s
    split
    · refine wpAny_bind (wpAny_rule ?_)
      show wpAny _ _ (setField (.ref z) 0 .none) Q E s
      exact wpAny_setField_rec hz (by simp) fun h' hz' hs' => hQ h' _ hz' (.inl rfl) hs'
    · exact wpAny_pure stay
  unfold letOwnedTupleGo
  cases tg <;> first
    | exact wpAny_pure stay
    | exact main
end
end EvZ
namespace EvZ
open PySem PySem.Spec PySem.SeqAt L2 PyProof.Rows
abbrev Src := Bool × Addr × List V
def Sq (K : PySem.W.Frag) (H : Hp) (s : Src) : Prop := match s.1 with
  | true => SqT K H s.2.1 s.2.2
  | false => SqL K H s.2.1 s.2.2
def ItN (K : PySem.W.Frag) (ss : List Src) : It :=
  ⟨fun i H => ∀ s ∈ ss, Sq K H s ∧ i < s.2.2.length, fun i H v H' => ∃ T, v = .ref T ∧ H T = none ∧ H' = upd H T (.tup (ss.map fun s => s.2.2.getD i .non)), fun i H => ∃ s t, ss = s :: t ∧ Sq K H s ∧ s.2.2.length ≤ i⟩
def Sr.b (r : Sr) : Bool × Addr × Addr := (r.tp, r.it, r.l)
theorem mem_b {rs rs0 : List Sr} (e : rs.map Sr.b = rs0.map Sr.b) {r : Sr} (h : r ∈ rs) : ∃ r0 ∈ rs0, r0.b = r.b := by
  have : r.b ∈ rs0.map Sr.b := by rw [← e]; exact List.mem_map_of_mem h
  obtain ⟨r0, h1, h2⟩ := List.mem_map.mp this
  exact ⟨r0, h1, h2⟩
theorem its_b {rs rs0 : List Sr} (e : rs.map Sr.b = rs0.map Sr.b) : rs.map (·.it) = rs0.map (·.it) := by
  have := congrArg (List.map fun (x : Bool × Addr × Addr) => x.2.1) e
  simpa [Sr.b, Function.comp_def] using this
theorem Apart.congr {z TI TO : Addr} {rs rs0 : List Sr} (D : Apart z TI TO rs0) (e : rs.map Sr.b = rs0.map Sr.b) : Apart z TI TO rs := by
  refine ⟨D.TIz, D.TOz, D.TT, fun r hr => ?_, fun r hr => ?_, by rw [its_b e]; exact D.nd⟩
  · obtain ⟨r0, h0, e0⟩ := mem_b e hr
    simp only [Sr.b, Prod.mk.injEq] at e0
    have := D.iz r0 h0
    rw [e0.2.1] at this
    exact this
  · obtain ⟨r0, h0, e0⟩ := mem_b e hr
    simp only [Sr.b, Prod.mk.injEq] at e0
    have := D.lz r0 h0
    rw [e0.2.2] at this
    refine ⟨this.1, this.2.1, fun q hq => ?_⟩
    obtain ⟨q0, k0, f0⟩ := mem_b e hq
    simp only [Sr.b, Prod.mk.injEq] at f0
    have := this.2.2 q0 k0
    rw [f0.2.1] at this
    exact this
theorem ItAt.congr {h : Heap} {k : Nat} {r r0 : Sr} (e : r0.b = r.b) (x : ItAt h k r0) : ItAt h k r := by
  obtain ⟨tp, it, l, xs⟩ := r
  obtain ⟨tp0, it0, l0, xs0⟩ := r0
  simp only [Sr.b, Prod.mk.injEq] at e
  obtain ⟨rfl, rfl, rfl⟩ := e
  exact x
theorem its_all {h : Heap} {k : Nat} {rs rs0 : List Sr} (e : rs.map Sr.b = rs0.map Sr.b) (x : ∀ r ∈ rs0, ItAt h k r) : ∀ r ∈ rs, ItAt h k r := fun r hr => by
  obtain ⟨r0, h0, e0⟩ := mem_b e hr
  exact (x r0 h0).congr e0
section
variable {X : Cx} {pins : List (Addr × Obj)} {σ : L2.St} {H : Hp} {s : Shared}
theorem vals_getD {xs : List V} {us : List Value} (r : Vals xs us) {i : Nat} (h : i < xs.length) : RelV (xs.getD i .non) (us.getD i .none) := by
  obtain ⟨u, h1, h2⟩ := r.get (List.getElem?_eq_getElem h)
  rw [List.getD_eq_getElem?_getD, List.getD_eq_getElem?_getD, List.getElem?_eq_getElem h, h1]
  exact h2
theorem fill (I : Inv X pins σ H s) : ∀ (rs0 : List Sr) (ss : List Src), rs0.map (fun r => (r.tp, r.l)) = ss.map (fun s => (s.1, s.2.1)) → (∀ q ∈ ss, Sq X.K H q) →
    ∃ rs : List Sr, rs.map Sr.b = rs0.map Sr.b ∧ (∀ r ∈ rs, SqAt s.heap r) ∧ rs.map (fun r => r.xs.length) = ss.map (fun s => s.2.2.length) ∧ ∀ i, (∀ q ∈ ss, i < q.2.2.length) → Vals (ss.map fun q => q.2.2.getD i .non) (row rs i)
  | [], [], _, _ => ⟨[], rfl, (fun _ q => nomatch q), rfl, fun _ _ => .nil⟩
  | r0 :: rs0, q :: ss, e, h => by
    simp only [List.map_cons, List.cons.injEq, Prod.mk.injEq] at e
    obtain ⟨rs, a1, a2, a3, a4⟩ := fill I rs0 ss e.2 fun q hq => h q (List.mem_cons_of_mem _ hq)
    have hq := h q (List.mem_cons_self ..)
    obtain ⟨tp, a, xs⟩ := q
    obtain ⟨tp0, it0, l0, xs0⟩ := r0
    obtain ⟨⟨rfl, rfl⟩, _⟩ := e
    have key : ∃ its : List Value, Vals xs its ∧ SqAt s.heap ⟨tp0, it0, l0, its⟩ := by
      cases tp0 with
      | true =>
        obtain ⟨its, rv, p, _⟩ := I.tuple hq
        exact ⟨its, rv, p⟩
      | false =>
        obtain ⟨its, rv, p, _⟩ := I.list hq
        exact ⟨its, rv, p.isList⟩
    obtain ⟨its, rv, p⟩ := key
    refine ⟨⟨tp0, it0, l0, its⟩ :: rs, by simp [a1, Sr.b], fun r hr => ?_, ?_, fun i hi => ?_⟩
    · rcases List.mem_cons.mp hr with rfl | hr
      · exact p
      · exact a2 r hr
    · simp only [List.map_cons, a3]
      rw [rv.length]
    · simp only [row, List.map_cons]
      exact .cons (vals_getD rv (hi _ (List.mem_cons_self ..))) (a4 i fun q hq => hi q (List.mem_cons_of_mem _ hq))
  | [], _ :: _, e, _ => by simp at e
  | _ :: _, [], e, _ => by simp at e
end
theorem turn_zip {P : Program} {w : World} {K : PySem.W.Frag} {tg : Expr} {z TI TO : Addr} {rs0 : List Sr} {ss : List Src} (D : Apart z TI TO rs0) (hne : rs0 ≠ []) (hn : rs0.length ≤ 9) (hs : rs0.map (fun r => (r.tp, r.l)) = ss.map (fun s => (s.1, s.2.1))) :
    Turn P w K tg (ItN K ss) (z :: TI :: TO :: rs0.map (·.it)) z (fun i h => ∃ f0 f1 arr, Zp h z TI TO f0 f1 ∧ (f0 = .none ∨ ∃ T : Addr, f0 = rawInt T) ∧ (f1 = .bool true ∨ f1 = .bool false) ∧ Tp h TI (rs0.map fun r => .ref r.it) ∧ Tp h TO arr ∧ arr.length = rs0.length ∧ ∀ r ∈ rs0, ItAt h i r) where
  mem := by simp
  obj := fun i h st c hc => by
    obtain ⟨f0, f1, arr, hz, _, _, hTI, hTO, _, hi⟩ := st
    have e' : c = z ∨ c = TI ∨ c = TO ∨ ∃ r ∈ rs0, r.it = c := by simpa using hc
    rcases e' with q | q | q | ⟨r, hr, q⟩
    · rw [q]; exact ⟨_, hz, fun v q => nomatch q⟩
    · rw [q]; exact ⟨_, hTI, fun v q => nomatch q⟩
    · rw [q]; exact ⟨_, hTO, fun v q => nomatch q⟩
    · rw [← q]; exact (hi r hr).there
  keep := fun i h h' st k => by
    obtain ⟨f0, f1, arr, hz, h0, hf, hTI, hTO, ha, hi⟩ := st
    exact ⟨f0, f1, arr, k z (by simp) _ hz, h0, hf, k TI (by simp) _ hTI, k TO (by simp) _ hTO, ha, fun r hr => (hi r hr).at fun o q => k r.it (by simp; exact .inr (.inr (.inr ⟨r, hr, rfl⟩))) o q⟩
  item := by
    intro X hP hw hK hc i pins s σ H E I hf st hg
    subst hP hw hK
    obtain ⟨f0, f1, arr, hz, h0, hf1, hTI, hTO, ha, hi⟩ := st
    obtain ⟨rs, b1, b2, b3, b4⟩ := fill I rs0 ss hs fun q hq => (hg q hq).1
    have D' := D.congr b1
    have el : rs.length = rs0.length := by simpa using congrArg List.length b1
    have es : ss.length = rs0.length := by simpa using (congrArg List.length hs).symm
    have eit : (rs.map fun r => Value.ref r.it) = rs0.map fun r => Value.ref r.it := by
      have := congrArg (List.map Value.ref) (its_b b1)
      rw [List.map_map, List.map_map] at this
      exact this
    have hne' : rs ≠ [] := fun q => hne (List.length_eq_zero_iff.mp (by rw [← el, q]; rfl))
    have hlen : ∀ r ∈ rs, i < r.xs.length := fun r hr => by
      have : r.xs.length ∈ ss.map (fun s => s.2.2.length) := by rw [← b3]; exact List.mem_map_of_mem (f := fun r : Sr => r.xs.length) hr
      obtain ⟨q, hq, e⟩ := List.mem_map.mp this
      rw [← e]; exact (hg q hq).2
    have hnn : rs.length ≤ sizeLine := by rw [el]; exact Nat.le_trans hn (by decide)
    have hzl : z < s.heap.objs.size := Heap.lt_size hz
    refine pyNext_item D' hnn hne' hz h0 hf1 (by rw [eit]; exact hTI) hTO (by rw [el]; exact ha) (its_all b1 hi) b2 hlen fun h' g0 g1 arr' z' k0 k1 TO' la it' hT hsz hk => ?_
    refine ⟨_, rfl, letGo_zp (s := { s with heap := h' }) z' k0 fun h'' g0' z'' k0' sb => ?_⟩
    have hT2 : Tp h'' s.heap.objs.size (row rs i) := (sb.2 _ (Nat.ne_of_gt hzl)).trans hT
    have new : ObjOk X.prog X.w (upd H s.heap.objs.size (.tup (ss.map fun q => q.2.2.getD i .non))) h'' s.heap.objs.size (.tup (ss.map fun q => q.2.2.getD i .non)) :=
      ⟨by simp only [List.length_map]; rw [es]; exact Nat.le_trans hn (by decide), row rs i, b4 i fun q hq => (hg q hq).2, ⟨_, hT2, rfl, _, rfl⟩⟩
    have hk' : ∀ c o, c ∉ (z :: TI :: TO :: rs0.map (·.it)) → s.heap.get? c = some o → h''.get? c = some o := fun c o hb q => by
      simp only [List.mem_cons, List.mem_map, not_or, not_exists, not_and] at hb
      refine (sb.2 c hb.1).trans (hk c o hb.1 hb.2.2.1 (fun r hr => ?_) q)
      obtain ⟨r0, h0, e0⟩ := mem_b b1 hr
      simp only [Sr.b, Prod.mk.injEq] at e0
      rw [← e0.2.1]
      exact fun e => hb.2.2.2 r0 h0 e.symm
    have I1 : Inv X pins σ (upd H s.heap.objs.size (.tup (ss.map fun q => q.2.2.getD i .non))) { s with heap := h'' } :=
      I.turnedNew (t' := s.toks) (ch := z :: TI :: TO :: rs0.map (·.it)) hk' hf (Nat.le_refl _) new
    have hTI' : Tp h'' TI (rs0.map fun r => .ref r.it) := (sb.2 _ D.TIz).trans (hk _ _ D.TIz D.TT (fun r hr => (D'.iz r hr).2.1.symm) hTI)
    refine ⟨.ref s.heap.objs.size, _, I1, rfl, ⟨_, rfl, I.hok.fresh (Nat.le_refl _), rfl⟩, ⟨g0', g1, arr', z'', k0', k1, hTI', (sb.2 _ D.TOz).trans TO', by rw [la, el], fun r hr => ?_⟩, fun c hcm => ?_⟩
    · exact (its_all b1.symm it' r hr).at fun o q => (sb.2 _ (D.iz r hr).1).trans q
    · have hlt : c < s.heap.objs.size := by
        have e' : c = z ∨ c = TI ∨ c = TO ∨ ∃ r ∈ rs0, r.it = c := by simpa using hcm
        rcases e' with q | q | q | ⟨r, hr, q⟩
        · rw [q]; exact hzl
        · rw [q]; exact Heap.lt_size hTI
        · rw [q]; exact Heap.lt_size hTO
        · rw [← q]; obtain ⟨_, e1, _⟩ := (hi r hr).there; exact Heap.lt_size e1
      rw [upd_ne (Nat.ne_of_lt hlt)]
      exact (hf c hcm).1
  done := by
    intro X hP hw hK hc i pins s σ H E I hf st hg
    subst hP hw hK
    obtain ⟨f0, f1, arr, hz, h0, hf1, hTI, hTO, ha, hi⟩ := st
    obtain ⟨q, t, rfl, hq, hl⟩ := hg
    cases rs0 with
    | nil => exact absurd rfl hne
    | cons r0 rs0 =>
      simp only [List.map_cons, List.cons.injEq] at hs
      obtain ⟨rs, b1, b2, b3, _⟩ := fill I [r0] [q] (by simp [hs.1]) fun q' hq' => by rw [List.mem_singleton.mp hq']; exact hq
      obtain ⟨r, rfl⟩ : ∃ r, rs = [r] := by
        match rs, congrArg List.length b1 with
        | [r], _ => exact ⟨r, rfl⟩
      have er : r.b = r0.b := by simpa using b1
      have eall : (r :: rs0).map Sr.b = (r0 :: rs0).map Sr.b := by simp [er]
      have D' := D.congr eall
      have ei : r.it = r0.it := by simp only [Sr.b, Prod.mk.injEq] at er; exact er.2.1
      refine pyNext_end (I.ok.hd hc) D' hz h0 hf1 (by simp only [List.map_cons, ei]; exact hTI) ((hi r0 (List.mem_cons_self ..)).congr er.symm) (b2 r (List.mem_cons_self ..)) (by simp at b3; omega) fun h' hk => ⟨rfl, I.turnedL (t' := s.toks) (ch := z :: TI :: TO :: (r0 :: rs0).map (·.it)) (fun c o hb q => ?_) hf⟩
      simp only [List.map_cons, List.mem_cons, not_or] at hb
      exact hk c o hb.1 (by rw [ei]; exact hb.2.2.2.1) q
  self := fun A i s Q E st h => by
    obtain ⟨f0, f1, arr, hz, _⟩ := st
    exact pyIter_zp hz h
end EvZ
namespace Ev
open PySem PySem.Spec PySem.SeqAt L2 PyProof.Rows EvZ
def frz : D → Option (List D)
  | .tup ds => some ds
  | .lst ds => some ds
  | _ => none
def frzs : List D → Option (List (List D))
  | [] => some []
  | d :: ds => match frz d, frzs ds with
    | some x, some xs => some (x :: xs)
    | _, _ => none
section
variable {K : PySem.W.Frag} {W : Wd}
theorem reps_getD {ds : List D} {vs : List V} (r : Reps K W ds vs) {i : Nat} (h : i < ds.length) : Rep K W (ds.getD i .non) (vs.getD i .non) := by
  obtain ⟨v, h1, h2⟩ := r.get (List.getElem?_eq_getElem h)
  rw [List.getD_eq_getElem?_getD, List.getD_eq_getElem?_getD, List.getElem?_eq_getElem h, h1]
  exact h2
theorem srcs : ∀ {ds : List D} {vs : List V} {xss : List (List D)}, Reps K W ds vs → frzs ds = some xss → ∃ ss : List Src, vs = ss.map (fun q => V.ref q.2.1) ∧ (∀ q ∈ ss, ∀ H : Hp, (∀ a o, W.F a = some o → H a = some o) → Sq K H q) ∧ ss.map (fun q => q.2.2.length) = xss.map List.length ∧
    ∀ i, (∀ x ∈ xss, i < x.length) → Reps K W (xss.map (·.getD i .non)) (ss.map (·.2.2.getD i .non))
  | [], _, xss, r, e => by
    cases r; cases e
    exact ⟨[], rfl, (fun _ q => nomatch q), rfl, fun _ _ => .nil⟩
  | d :: ds, _, xss, .cons r1 r2, e => by
    unfold frzs at e
    cases e1 : frz d with
    | none => rw [e1] at e; cases e
    | some x =>
      cases e2 : frzs ds with
      | none => rw [e1, e2] at e; cases e
      | some xs =>
        rw [e1, e2] at e
        cases e
        obtain ⟨ss, a1, a2, a3, a4⟩ := srcs r2 e2
        have key : ∃ q : Src, ‹V› = V.ref q.2.1 ∧ (∀ H : Hp, (∀ a o, W.F a = some o → H a = some o) → Sq K H q) ∧ Reps K W x q.2.2 := by
          cases r1 with
          | @tup a vs ds q r =>
            cases e1
            exact ⟨(true, a, vs), rfl, fun H h => by
              rcases q with q | q
              · exact .inl (rd_sub h q)
              · exact .inr q, r⟩
          | @lst a vs ds q r =>
            cases e1
            exact ⟨(false, a, vs), rfl, fun H h => SqL.of (h _ _ q), r⟩
          | _ => cases e1
        obtain ⟨q, k1, k2, k3⟩ := key
        refine ⟨q :: ss, by simp [k1, a1], fun p hp => ?_, by simp [a3, k3.length], fun i hi => ?_⟩
        · rcases List.mem_cons.mp hp with rfl | hp
          · exact k2
          · exact a2 p hp
        · exact .cons (reps_getD k3 (hi x (List.mem_cons_self ..))) (a4 i fun y hy => hi y (List.mem_cons_of_mem _ hy))
def zipD (xss : List (List D)) (n : Nat) : List D := (List.range n).map fun i => .tup (xss.map (·.getD i .non))
def pZip (ds : List D) : Option (List D) := match frzs ds with
  | some (x :: xss) => if xss.length < 9 ∧ ∀ y ∈ xss, y.length = x.length then some (zipD (x :: xss) x.length) else none
  | _ => none
theorem pZip_ok {ds zs : List D} {vs : List V} (e : pZip ds = some zs) (r : Reps K W ds vs) : ∃ ss : List Src, vs = ss.map (fun q => V.ref q.2.1) ∧ ss ≠ [] ∧ ss.length ≤ 9 ∧ (∀ q ∈ ss, ∀ H : Hp, (∀ a o, W.F a = some o → H a = some o) → Sq K H q) ∧ WalkD K W zs (ItN K ss) := by
  unfold pZip at e
  split at e
  · rename_i x xss ef
    split at e
    · rename_i hc
      cases e
      obtain ⟨ss, a1, a2, a3, a4⟩ := srcs r ef
      have hn : ss.length = xss.length + 1 := by simpa using congrArg List.length a3
      have hall : ∀ y ∈ x :: xss, y.length = x.length := fun y hy => by
        rcases List.mem_cons.mp hy with rfl | hy
        · rfl
        · exact hc.2 y hy
      have hss : ∀ q ∈ ss, q.2.2.length = x.length := fun q hq => by
        have : q.2.2.length ∈ (x :: xss).map List.length := by rw [← a3]; exact List.mem_map_of_mem (f := fun q : Src => q.2.2.length) hq
        obtain ⟨y, hy, ey⟩ := List.mem_map.mp this
        rw [← ey]; exact hall y hy
      refine ⟨ss, a1, fun q => by rw [q] at hn; simp at hn, by omega, a2, ?_⟩
      have el : (zipD (x :: xss) x.length).length = x.length := by simp [zipD]
      unfold WalkD
      rw [el]
      refine ⟨fun i H hi hG q hq => ⟨a2 q hq H hG, by rw [hss q hq]; exact hi⟩, fun H hG => ?_, fun i H v H' hi hG y d hd W2 S2 l g => ?_⟩
      · cases ss with
        | nil => simp at hn
        | cons q ss => exact ⟨q, ss, rfl, a2 q (List.mem_cons_self ..) H hG, by rw [hss q (List.mem_cons_self ..)]; exact Nat.le_refl _⟩
      · obtain ⟨T, rfl, hT, rfl⟩ := y
        have ed : d = .tup ((x :: xss).map (·.getD i .non)) := by rw [← Option.some_inj, ← hd]; simp [zipD, hi]
        subst ed
        have rr := a4 i fun y hy => by rw [hall y hy]; exact hi
        have l3 : W2.le (W2.add T (.tup (ss.map (·.2.2.getD i .non)))) := g.add_le hT
        exact ⟨W2.add T (.tup (ss.map (·.2.2.getD i .non))), l3, g.add hT, .tup (.inl (.inl (by show upd _ _ _ _ = _; rw [upd_same]))) ((rr.mono l).mono l3)⟩
    · cases e
  · cases e
end
section
variable {X : Cx} {Wx : WX} {a b c e tg : Expr} {ma mb mc m : ME} {pos : Pos}
/-- the call of zip has come to its iterator -/
theorem zip_pie {pins : List (Addr × Obj)} {s : Shared} {σ : L2.St} {H : Hp} {R : It → Hp → Prop} {us : List Value} {ss : List Src} (I : Inv X pins σ H s) (r : Vals (ss.map fun q => V.ref q.2.1) us) (hne : ss ≠ []) (hn : ss.length ≤ 9) (hs : ∀ q ∈ ss, Sq X.K H q) (hR : R (ItN X.K ss) H) :
    wpAny (model X.prog X.w) X.A (call (.type "zip") us) (fun v s1 => wpAny (model X.prog X.w) X.A (pyIter v) (PIE X pins σ tg R) X.xe s1) X.xe s := by
  obtain ⟨rs0, b1, b2, b3, b4⟩ := fill I (ss.map fun q => ⟨q.1, 0, q.2.1, []⟩) ss (by simp) hs
  have eu : us = rs0.map fun r => .ref r.l := by
    have e1 : rs0.map (fun r => r.l) = ss.map fun q => q.2.1 := by
      have := congrArg (List.map fun (x : Bool × Addr × Addr) => x.2.2) b1
      simpa [Sr.b, Function.comp_def] using this
    have e2 : ∀ (xs : List Addr) (us : List Value), Vals (xs.map V.ref) us → us = xs.map Value.ref := by
      intro xs
      induction xs with
      | nil => intro us h; cases h; rfl
      | cons x xs ih =>
        intro us h
        cases h with
        | cons h1 h2 =>
          obtain rfl := h1
          rw [ih _ h2]; rfl
    have e3 := e2 (ss.map fun q => q.2.1) us (by rw [List.map_map]; exact r)
    rw [e3, ← e1, List.map_map]
    rfl
  have el : rs0.length = ss.length := by simpa using congrArg List.length b1
  subst eu
  refine call_zip (by rw [el]; exact hn) b2 fun h' rs e1 e2 e3 e4 e5 e6 e7 e8 => pyIter_zp e6 ?_
  have el2 : rs.length = rs0.length := by simpa using congrArg List.length e1
  have hI : Inv X pins σ H { s with heap := h' } := I.kept (t' := s.toks) e5
  have hit : ∀ r ∈ rs, s.heap.objs.size ≤ r.it ∧ r.it < s.heap.objs.size + rs0.length := fun r hr => by
    have : r.it ∈ rs.map (·.it) := List.mem_map_of_mem hr
    rw [e3] at this
    obtain ⟨i, hi, e⟩ := List.mem_range'.mp this
    have e' : (r.it : Nat) = s.heap.objs.size + 1 * i := e
    constructor
    · rw [e']; exact Nat.le_add_right _ _
    · rw [e', Nat.one_mul]; exact Nat.add_lt_add_left hi _
  have hl : ∀ r ∈ rs, r.l < s.heap.objs.size := fun r hr => by
    have : (r.tp, r.l, r.xs) ∈ rs0.map (fun r => (r.tp, r.l, r.xs)) := by rw [← e1]; exact List.mem_map_of_mem (f := fun r : Sr => (r.tp, r.l, r.xs)) hr
    obtain ⟨r0, h0, eq⟩ := List.mem_map.mp this
    have sq := b2 r0 h0
    simp only [Prod.mk.injEq] at eq
    rw [← eq.2.1]
    obtain ⟨tp, it, l, xs⟩ := r0
    cases tp with
    | true => obtain ⟨o, h1, _⟩ := sq; exact Heap.lt_size h1
    | false => obtain ⟨o, h1, _⟩ := sq; exact Heap.lt_size h1
  have D : Apart (s.heap.objs.size + rs0.length + 2) (s.heap.objs.size + rs0.length) (s.heap.objs.size + rs0.length + 1) rs := by
    refine ⟨Nat.ne_of_lt (by omega), Nat.ne_of_lt (by omega), Nat.ne_of_lt (by omega), fun r hr => ?_, fun r hr => ?_, by rw [e3]; exact List.nodup_range'⟩
    · have h2 := (hit r hr).2
      exact ⟨Nat.ne_of_lt (Nat.lt_of_lt_of_le h2 (by omega)), Nat.ne_of_lt h2, Nat.ne_of_lt (Nat.lt_of_lt_of_le h2 (by omega))⟩
    · have h1 := hl r hr
      exact ⟨Nat.ne_of_lt (Nat.lt_of_lt_of_le h1 (by omega)), Nat.ne_of_lt (Nat.lt_of_lt_of_le h1 (by omega)), fun q hq => Nat.ne_of_lt (Nat.lt_of_lt_of_le h1 (hit q hq).1)⟩
  have hss : rs.map (fun r => (r.tp, r.l)) = ss.map (fun q => (q.1, q.2.1)) := by
    have := congrArg (List.map fun (x : Bool × Addr × List Value) => (x.1, x.2.1)) e1
    have t2 := congrArg (List.map fun (x : Bool × Addr × Addr) => (x.1, x.2.2)) b1
    simp [Sr.b, Function.comp_def] at this t2 ⊢
    rw [this, t2]
  refine ⟨_, _, _, _, H, rfl, hI, turn_zip D (fun q => hne (List.length_eq_zero_iff.mp (by rw [← el, ← el2, q]; rfl))) (by rw [el2, el]; exact hn) hss, ⟨_, _, _, e6, .inl rfl, .inr rfl, e7, e8, by simp, e2⟩, fun c hc => ?_, hR⟩
  have hle : s.heap.objs.size ≤ c := by
    have e' : c = s.heap.objs.size + rs0.length + 2 ∨ c = s.heap.objs.size + rs0.length ∨ c = s.heap.objs.size + rs0.length + 1 ∨ ∃ r ∈ rs, r.it = c := by simpa using hc
    rcases e' with q | q | q | ⟨r, hr, q⟩
    · rw [q]; exact Nat.le_trans (Nat.le_add_right _ _) (Nat.le_add_right _ _)
    · rw [q]; exact Nat.le_add_right _ _
    · rw [q]; exact Nat.le_trans (Nat.le_add_right _ _) (Nat.le_add_right _ _)
    · rw [← q]; exact (hit r hr).1
  exact I.fpOk hle (I.hok.fresh hle)
def iZip (mas : MA) : MA := fun δ => M.bind (mas δ) fun ds S => match pZip ds with
  | some zs => .ok zs S
  | none => .bad
/-- the star takes the items of a frozen sequence -/
theorem callWith_typeS {M : Model} {A : Around} {E : Value → Shared → Prop} {s : Shared} {T : String} {env : Env} {q : Pos} {Q : Value → Shared → Prop}
    (h : wpAny M A (eval e env) (fun v s₁ => PySem.W.StarOf M A E v (fun vs s₂ => wpAny M A (call (.type T) vs) Q E s₂) s₁) E s) :
    wpAny M A (callWith pos (.type T) [] (backTo pos (starEach [.Starred e q] env)) []) Q E s := by
  have h0 : starEach [.Starred e q] env = [(true, eval e env)] := rfl
  rw [h0]
  have h1 : wpAny M A (eval e env) (fun v s₁ => PySem.W.StarOf M A E v (fun vs s₂ => True ∧ wpAny M A (call (.type T) ([] ++ vs)) Q E s₂) s₁) E s := by
    refine wpAny_mono h (fun v s1 h1 => ?_) fun _ _ x => x
    exact wpAny_mono h1 (fun b s2 h2 => ⟨h2.1, wpAny_mono h2.2 (fun vs s3 h3 => ⟨trivial, h3⟩) fun _ _ x => x⟩) fun _ _ x => x
  exact PySem.W.ks_call (P := fun _ => True) rfl (fun _ _ => ⟨.machine, .inr (.inl rfl), PySem.W.Looks.of_pure rfl⟩) (PySem.W.ks_lone h1)
theorem si_zipS {p q : Pos} (hg : Gl X "zip") (hm : X.mg "zip" = none) (ha : SE X Wx e ma) : SI X Wx tg (.Call (.Name "zip" p) [.Starred e q] [] pos) (iZip (aStar ma aNil)) := by
  refine ⟨fun pins s σ H R I ⟨W, S, δ, g, r, h⟩ => ?_⟩
  unfold iZip aStar at h
  refine Call_ (ld_blt I hg hm PyProof.Rows.boot_zip (callWith_typeS (thn (ha.run pins s σ H _ I ⟨W, S, δ, g, r, okP.bind (R := Rep X.K) (okP.assoc h)⟩) fun u s1 ⟨v, H1, I1, r1, W1, S1, d, l1, g1, q1, p1⟩ => ?_)))
  cases ez : seqOf S1 d with
  | none => simp only [M.bind, ez] at p1; exact p1.elim
  | some xs =>
    obtain ⟨a, vs, rfl, h2, h3⟩ := seqOf_ok ez g1 q1
    obtain rfl : u = Value.ref a := r1
    simp only [M.bind, ez, aNil, M.pure, List.append_nil] at p1
    split at p1
    · rename_i zs ez
      obtain ⟨ss, c1, c2, c3, c4, c5⟩ := pZip_ok ez h3
      subst c1
      exact StX.star_any I1 h2.symm fun us s2 I2 rv => zip_pie I2 rv c2 c3 (fun q hq => c4 q hq H1 g1.sub) (okP.pure p1 g1 c5)
    · exact p1.elim
end
end Ev
namespace Ev
open PySem PySem.Spec PySem.SeqAt L2 PyProof.Rows
/-- the value at v may be called with keywords ks (after the values by place): what comes is m -/
def CalG (P : Program) (w : World) (K : PySem.W.Frag) (mg : Str → Option Value) (base : Heap) (k : Nat) (v : Addr) (ks : List Str) (m : List D → M D) : Prop :=
  ∀ (X : Cx) (Wx : WX), X.prog = P → X.w = w → X.K = K → X.mg = mg → X.base = base → Room k X.A → X.A.guards = some [] → L2N.Takes X Wx → CallF X Wx (.ref v) ks (fun ds es => m (ds ++ es))
def BindK (K : PySem.W.Frag) (fd : FuncData) (ps ks : List Str) : Prop :=
  ∀ (s : Shared) (us ws : List Value), us.length + ks.length = ps.length → ws.length = ks.length → BindsTo s fd ⟨us, ks.zip ws⟩ (ps.zip (us ++ ws))
theorem bindK_of {K : PySem.W.Frag} {x qual : Str} {params : Arguments} {body : List Stmt} {scope : Scope} {f : Addr} {fd : FuncData} {ps ks : List Str} (F : FunD K x qual params body scope [] [] f fd)
    (h : ∀ (kV doc pm : Value) (an : Option Addr) (cdv ct : Value) (us ws : List Value), us.length + ks.length = ps.length → ws.length = ks.length → bindArgs (PySem.W.fnOf x qual params body scope .none kV doc pm an cdv ct) ⟨us, ks.zip ws⟩ = pure (ps.zip (us ++ ws))) : BindK K fd ps ks := by
  obtain ⟨oc, od, dV, kV, doc, pm, an, cdv, ct, osl, rfl, lk, hcd, hD, hK⟩ := F.ex
  rcases hD with ⟨_, rfl⟩ | ⟨e, _⟩
  · exact fun s us ws h1 h2 => .of_eq (h kV doc pm an cdv ct us ws h1 h2)
  · exact absurd rfl e
theorem paired_append {α β : Type} {F : α → β → Prop} : ∀ {xs : List α} {us : List β} {ys : List α} {ws : List β}, Paired F xs us → Paired F ys ws → Paired F (xs ++ ys) (us ++ ws)
  | _, _, _, _, .nil, h => h
  | _, _, _, _, .cons a t, h => .cons a (paired_append t h)
section
variable {P : Program} {w : World} {K : PySem.W.Frag} {mg : Str → Option Value} {base : Heap}
theorem calG_fn {k n : Nat} {f : Addr} {fd : FuncData} {ps ks : List Str} {m : List D → M D} (F : FnG P w K mg base k f fd ps (spM K n m)) (hb : BindK K fd ps ks) (hn : n = ps.length) (hm : ∀ ds S, ds.length ≠ n → m ds S = .bad) : CalG P w K mg base k f ks m := by
  intro X Wx e1 e2 e3 e4 e5 hr hg tk
  subst e1 e2 e3 e4 e5
  intro pins s σ H vs zs us ws Q I r1 r2 hl ⟨W, S, ds, es, g, q1, q2, p⟩
  dsimp only at p
  by_cases hlen : (ds ++ es).length = n
  · have l1 : ds.length = us.length := q1.length.trans (Paired.length r1)
    have l2 : ws.length = ks.length := (Paired.length r2).symm.trans hl
    have l3 : es.length = ks.length := q2.length.trans hl
    have hv : (vs ++ zs).length = n := by rw [← hlen]; simp [q1.length, q2.length]
    have want : spM X.K n m (vs ++ zs) H Q (fun cls d H' => Wx cls d σ H') := ⟨hv, W, S, ds ++ es, g, q1.append q2, by
      cases e5 : m (ds ++ es) S with
      | ok d S' => rw [e5] at p; exact p
      | exc x S' => rw [e5] at p; exact p
      | bad => rw [e5] at p; exact p⟩
    refine wpAny_call (codeAny_mono (F.run X.A hg X.stack s H ⟨us, ks.zip ws⟩ (us ++ ws) (vs ++ zs) Q _ hr I.env0 (hb s us ws (by rw [← hn, ← hlen]; simp [l1, l3]) l2) (paired_append r1 r2) want) fun res s' hq => ?_)
    cases res with
    | error ex => exact tk ex s' (L2N.XE.of_call (W := Wx) I (fun cls d H' h => h) hq)
    | ok fl =>
      cases fl with
      | ret u => exact I.after hq
      | next => exact hq.elim
      | brk => exact hq.elim
      | cont => exact hq.elim
  · rw [hm _ S hlen] at p
    exact p.elim
def startD (nN : Nat) (ds : List D) : En := ds.map some ++ List.replicate (nN - ds.length) none
theorem renv_start {W : Wd} {N : List Str} {ds : List D} {vs : List V} (r : Reps K W ds vs) : REnv K W (startD N.length ds) (L2.start N vs) := by
  refine ⟨by simp [startD, L2.start, r.length], fun i d e => ?_⟩
  unfold startD at e
  unfold L2.start
  by_cases h : i < ds.length
  · rw [List.getElem?_append_left (by simpa using h)] at e
    simp only [List.getElem?_map, Option.map_eq_some_iff] at e
    obtain ⟨d', e1, e2⟩ := e
    cases e2
    obtain ⟨v, h1, h2⟩ := r.get e1
    refine ⟨v, ?_, .inl h2⟩
    rw [List.getElem?_append_left (by simpa [← r.length] using h)]
    simp [h1]
  · rw [List.getElem?_append_right (by simpa using h)] at e
    rw [List.getElem?_replicate] at e
    split at e <;> cases e
/-- the body's reading as a function -/
def funM (nN n : Nat) (m : MS) : List D → M D := fun ds S => if ds.length = n then (match m (startD nN ds) S with
  | .rt d S' => .ok d S'
  | .nx _ S' => .ok .non S'
  | .exc x _ S' => .exc x S'
  | _ => .bad) else .bad
theorem funM_len {nN n : Nat} {m : MS} (ds : List D) (S : Store) (h : ds.length ≠ n) : funM nN n m ds S = .bad := by unfold funM; rw [if_neg h]
/-- a body does what m says, wherever it is called from -/
def FB (P : Program) (w : World) (K : PySem.W.Frag) (mg : Str → Option Value) (base : Heap) (k : Nat) (N : List Str) (qual : Str) (scope : Scope) (body : List Stmt) (m : MS) : Prop :=
  ∀ (f : Addr) (cdv : Value) (A : Around) (outer : List Env) (s : Shared) (H : Hp) (E : XK), A.guards = some [] → Room k (A.deeper (envOfC qual scope s.heap.objs.size f cdv)) →
    SB (cxOf (L2N.CX P w) P w K mg base N qual scope f cdv A outer s H E) (fun cls d _ H' => E cls d H') body m
theorem fnG_body {k : Nat} {f : Addr} {name qual : Str} {params : Arguments} {body : List Stmt} {scope : Scope} {fd : FuncData} {N ps : List Str} {m : MS}
    (F : FunD K name qual params body scope [] [] f fd) (Sc : FnScope N ps scope) (B : FB P w K mg base k N qual scope body m) : FnG P w K mg base (k + 1) f fd ps (spM K ps.length (funM N.length ps.length m)) := by
  refine fnG_of F Sc (fun vs H Q E h => h.1) fun cdv A outer s H vs Q E hg hr ⟨hl, W, S, ds, g, r, p⟩ => ⟨_, B f cdv A outer s H E hg hr, W, S, startD N.length ds, g, renv_start r, ?_⟩
  have hd : ds.length = ps.length := r.length.trans hl
  unfold funM at p
  rw [if_pos hd] at p
  cases e : m (startD N.length ds) S with
  | rt d S' => rw [e] at p; exact p
  | nx δ S' => rw [e] at p; exact fun W' H' σ l g' _ => p W' H' .non l g' .non
  | exc x δ S' => rw [e] at p; exact fun W' H' σ cls d l g' _ x' => p W' H' cls d l g' x'
  | bk δ S' => rw [e] at p; exact p.elim
  | ct δ S' => rw [e] at p; exact p.elim
  | bad => rw [e] at p; exact p.elim
def spI (K : PySem.W.Frag) (c : Str) (n : Nat) (m : List D → M (List (Str × D))) : Sp := fun vs H Q E => ∃ W S a dx ds P0 vs', vs = .ref a :: vs' ∧ vs'.length = n ∧ Good K W S H ∧ Ini K c W [] P0 a dx ∧ Reps K W ds vs' ∧ (match m ds S with
  | .ok fs S' => ∀ W' H', W.lf W' → Good K W' S' H' → Ini K c W' fs P0 a dx → Q .non H'
  | .exc x S' => ∀ W' H' cls d, W.lf W' → Good K W' S' H' → (∃ o, W'.P = upd P0 a o) → XRep K W' x cls d → E cls d H'
  | .bad => False)
def initM (nN n : Nat) (m : MI) : List D → M (List (Str × D)) := fun ds S => if ds.length = n then (match m (some .slf :: startD (nN - 1) ds) [] S with
  | .nx _ fs S' => .ok fs S'
  | .exc x S' => .exc x S'
  | .bad => .bad) else .bad
def FBI (P : Program) (w : World) (K : PySem.W.Frag) (mg : Str → Option Value) (base : Heap) (k : Nat) (N : List Str) (qual : Str) (scope : Scope) (c : Str) (body : List Stmt) (m : MI) : Prop :=
  ∀ (f : Addr) (cdv : Value) (A : Around) (outer : List Env) (s : Shared) (H : Hp) (E : XK), A.guards = some [] → Room k (A.deeper (envOfC qual scope s.heap.objs.size f cdv)) →
    SBI (cxOf (L2N.CX P w) P w K mg base N qual scope f cdv A outer s H E) (fun cls d _ H' => E cls d H') c body m
theorem fnG_init {k n : Nat} {c : Str} {f : Addr} {name qual : Str} {params : Arguments} {body : List Stmt} {scope : Scope} {fd : FuncData} {N ps : List Str} {m : MI} (hn : ps.length = n + 1)
    (F : FunD K name qual params body scope [] [] f fd) (Sc : FnScope N ps scope) (B : FBI P w K mg base k N qual scope c body m) : FnG P w K mg base (k + 1) f fd ps (spI K c n (initM N.length n m)) := by
  have hN : n + 1 ≤ N.length := by have := congrArg List.length Sc.pre; simp at this; omega
  refine fnG_of F Sc (fun vs H Q E h => ?_) fun cdv A outer s H vs Q E hg hr ⟨W, S, a, dx, ds, P0, vs', ev, hl, g, i, r, p⟩ => ⟨_, B f cdv A outer s H E hg hr, W, S, some .slf :: startD (N.length - 1) ds, a, dx, [], P0, g, ?_, i, ?_⟩
  · obtain ⟨W, S, a, dx, ds, P0, vs', ev, hl, _⟩ := h
    rw [ev, hn]; simp [hl]
  · subst ev
    have r0 := renv_start (N := N.drop 1) r
    have e1 : L2.start N (.ref a :: vs') = some (.ref a) :: L2.start (N.drop 1) vs' := by
      unfold L2.start
      simp only [List.map_cons, List.cons_append, List.length_cons, List.length_drop]
      congr 2
      rw [show N.length - (vs'.length + 1) = N.length - 1 - vs'.length by omega]
    rw [e1]
    have e2 : (N.drop 1).length = N.length - 1 := by simp
    rw [e2] at r0
    refine ⟨by simp [r0.1], fun j d e => ?_⟩
    cases j with
    | zero =>
      simp at e
      subst e
      exact ⟨.ref a, rfl, .inr ⟨rfl, a, i.sf, rfl⟩⟩
    | succ j =>
      obtain ⟨v, h1, h2⟩ := r0.2 j d (by simpa using e)
      exact ⟨v, by simpa using h1, h2⟩
  · have hd : ds.length = n := r.length.trans hl
    unfold initM at p
    rw [if_pos hd] at p
    cases e : m (some .slf :: startD (N.length - 1) ds) [] S with
    | nx δ fs S' => rw [e] at p; exact fun W' H' σ l g' _ i' => p W' H' l g' i'
    | exc x S' => rw [e] at p; exact fun W' H' σ cls d l g' i' x' => p W' H' cls d l g' i' x'
    | bad => rw [e] at p; exact p.elim
theorem rep_other {W : Wd} {P0 : Hp} {sf : Option Addr} {ds : List D} {vs : List V} (r : Reps K W ds vs) : Reps K ⟨W.F, W.m, P0, sf⟩ ds vs := Reps.mono0 (W := W) (W' := ⟨W.F, W.m, P0, sf⟩) (fun _ _ h => h) (fun _ _ h => h) r
/-- C(..) -/
theorem calG_cls {k n : Nat} {c : Str} {f : Addr} {fd : FuncData} {ps ks : List Str} {m : List D → M (List (Str × D))} (Mc : Mk K (He.ga K c) f) (F : FnG P w K mg base k f fd ps (spI K c n m)) (hb : BindK K fd ps ks) (hn : ps.length = n + 1) (hm : ∀ ds S, ds.length ≠ n → m ds S = .bad) :
    CalG P w K mg base (k + 1) (He.ga K c) ks (fun ds => M.bind (m ds) fun fs => M.pure (.ins c fs)) := by
  intro X Wx e1 e2 e3 e4 e5 hr hg tk
  subst e1 e2 e3 e4 e5
  intro pins s σ H vs zs us ws Q I r1 r2 hl ⟨W, S, ds, es, g, q1, q2, p⟩
  dsimp only at p
  by_cases hlen : (ds ++ es).length = n
  · have l1 : ds.length = us.length := q1.length.trans (Paired.length r1)
    have l2 : ws.length = ks.length := (Paired.length r2).symm.trans hl
    have l3 : es.length = ks.length := q2.length.trans hl
    have hv : (vs ++ zs).length = n := by rw [← hlen]; simp [q1.length, q2.length]
    have n1 : H (s.heap.objs.size + 1) = none := I.hok.fresh (Nat.le_succ _)
    have n0 : H s.heap.objs.size = none := I.hok.fresh (Nat.le_refl _)
    have ne : s.heap.objs.size + 1 ≠ s.heap.objs.size := Nat.succ_ne_self _
    have I2 := Inv.made (C := He.ga X.K c) I
    have g0 : Good X.K W S (upd H s.heap.objs.size (.own (s.heap.objs.size + 1))) := g.skip n0
    have g1 := g0.newPrv (p := s.heap.objs.size + 1) (o := .ins (He.ga X.K c) s.heap.objs.size []) (by rw [upd_ne ne]; exact n1)
    have g2 := g1.other (P := (W.prv (s.heap.objs.size + 1) (.ins (He.ga X.K c) s.heap.objs.size [])).P) (sf := some (s.heap.objs.size + 1)) fun _ _ h => h
    have pn : W.P (s.heap.objs.size + 1) = none := g.freeP n1
    have want : spI X.K c n m (.ref (s.heap.objs.size + 1) :: (vs ++ zs)) (upd (upd H s.heap.objs.size (.own (s.heap.objs.size + 1))) (s.heap.objs.size + 1) (.ins (He.ga X.K c) s.heap.objs.size [])) (fun v H2 => v = .non ∧ Q (.ref (s.heap.objs.size + 1)) H2) (fun cls d H' => Wx cls d σ H') := by
      refine ⟨_, S, s.heap.objs.size + 1, s.heap.objs.size, ds ++ es, W.P, vs ++ zs, rfl, hv, g2, ⟨rfl, pn, [], rfl, rfl, .nil⟩, Reps.mono0 (W := W) (W' := ⟨W.F, W.m, (W.prv (s.heap.objs.size + 1) (.ins (He.ga X.K c) s.heap.objs.size [])).P, some (s.heap.objs.size + 1)⟩) (fun _ _ h => h) (fun _ _ h => h) (q1.append q2), ?_⟩
      cases e5 : m (ds ++ es) S with
      | ok fs S' =>
        simp only [M.bind, e5, M.pure] at p
        intro W' H' l g' i
        obtain ⟨vfs, h1, h2, h3⟩ := i.p
        have g3 := g'.unPrv h1 pn
        have g4 := g3.other (P := W.P) (sf := W.sf) fun _ _ h => h
        have lf2 := g'.unPrv_lf h1
        refine ⟨rfl, p ⟨upd W'.F (s.heap.objs.size + 1) (.ins (He.ga X.K c) s.heap.objs.size vfs), W'.m, W.P, W.sf⟩ H' _ ⟨⟨fun a o h => lf2.f a o (l.f a o h), rfl, l.mm⟩, rfl⟩ g4 (.ins (dx := s.heap.objs.size) upd_same h2 ?_)⟩
        exact Reps.mono0 (W := W') (W' := ⟨upd W'.F (s.heap.objs.size + 1) (.ins (He.ga X.K c) s.heap.objs.size vfs), W'.m, W.P, W.sf⟩) (fun a o h => lf2.f a o h) (fun _ _ h => h) h3
      | exc x S' =>
        simp only [M.bind, e5] at p
        intro W' H' cls d l g' ⟨o, hP⟩ x'
        have g4 := g'.other (P := W.P) (sf := W.sf) fun a u h => by
          rw [hP]
          have na : a ≠ s.heap.objs.size + 1 := fun z => by subst z; rw [pn] at h; cases h
          rw [upd_ne na]; exact h
        refine p ⟨W'.F, W'.m, W.P, W.sf⟩ H' cls d ⟨⟨fun a o h => l.f a o h, rfl, l.mm⟩, rfl⟩ g4 ?_
        obtain ⟨x1, x2⟩ := x'
        refine ⟨x1, ?_⟩
        rcases x2 with x2 | ⟨a, vfs, y1, y2, y3, y4⟩
        · exact .inl x2
        · exact .inr ⟨a, vfs, y1, y2, y3, rep_other y4⟩
      | bad => simp only [M.bind, e5] at p; exact p
    have r3 : Vals (V.ref (s.heap.objs.size + 1) :: (vs ++ zs)) (Value.ref (s.heap.objs.size + 1) :: (us ++ ws)) := .cons rfl (paired_append r1 r2)
    refine wpAny_call (make_map (f := f) I.kIn Mc.makes Mc.init (beq_iff_eq.mp Mc.fn) (codeAny_mono (F.run _ ?_ X.stack _ _ ⟨Value.ref (s.heap.objs.size + 1) :: us, ks.zip ws⟩ (Value.ref (s.heap.objs.size + 1) :: (us ++ ws)) _ _ _ (hr.make (He.ga X.K c) us (ks.zip ws))
      (I2.env0.make (He.ga X.K c) us (ks.zip ws)) (hb _ (Value.ref (s.heap.objs.size + 1) :: us) ws (by rw [hn, ← hlen]; simp [l1, l3]; omega) l2) r3 want) fun r s' hq' => ?_))
    · exact hg
    cases r with
    | error e => exact tk e s' (L2N.XE.of_call (W := Wx) I2 (fun cls d H' h => h) hq')
    | ok fl =>
      cases fl with
      | ret u =>
        obtain ⟨v, H', I3, rv, ev, q3⟩ := I2.after hq'
        subst ev
        exact ⟨rv, ⟨V.ref (s.heap.objs.size + 1), H', I3, rfl, q3⟩⟩
      | next => exact False.elim hq'
      | brk => exact False.elim hq'
      | cont => exact False.elim hq'
  · simp only [M.bind, hm _ S hlen] at p
    exact p.elim
end
end Ev
namespace Ev
open PySem PySem.Spec PySem.SeqAt L2 PyProof.Rows
section
variable {X : Cx} {Wx : WX} {a b c e o tg : Expr} {es : List Expr} {ma mb mc m mo : ME} {mas mks : MA} {pos p : Pos}
def anyOf : D → Option (List D)
  | .lst ds => some ds
  | .tup ds => some ds
  | .str z => some (signs z)
  | _ => none
def iAny (m : ME) : MA := fun δ => M.bind (m δ) fun d S => match anyOf d with
  | some ds => .ok ds S
  | none => .bad
theorem si_any (h : SE X Wx e m) : SI X Wx tg e (iAny m) := by
  refine ⟨fun pins s σ H R I ⟨W, S, δ, g, r, hp⟩ => ?_⟩
  refine thn (h.run pins s σ H _ I ⟨W, S, δ, g, r, okP.bind (R := Rep X.K) hp⟩) fun v s1 ⟨x, H1, I1, r1, W1, S1, d, l1, g1, q1, p1⟩ => ?_
  cases e1 : anyOf d with
  | none => rw [e1] at p1; exact p1.elim
  | some ds =>
    rw [e1] at p1
    have fpk : ∀ b ∈ [s1.heap.objs.size], FpOk X pins H1 b := fun b hb => by
      have e : b = s1.heap.objs.size := by simpa using hb
      subst e
      exact I1.fpOk (Nat.le_refl _) (I1.hok.fresh (Nat.le_refl _))
    cases q1 with
    | @lst a vs ds' q r2 =>
      cases e1
      obtain rfl : v = Value.ref a := r1
      obtain ⟨its, rv, p, hz⟩ := I1.list (SqL.of (g1.sub _ _ q))
      refine wpAny_pyIter_list p.isList ⟨s1.heap.objs.size, [s1.heap.objs.size], _, _, H1, rfl, I1.kept (t' := s1.toks) fun b o e => Heap.get?_push_of_some _ e, turn_list a _, ⟨_, Heap.get?_push_size _ rfl, rfl, rfl⟩, fpk, ?_⟩
      have w := walk_list (K := X.K) (a := a) (xs := vs)
      rw [← r2.length] at w
      exact okP.pure p1 g1 (walkD_at r2 (w.mono (fun H h => SqL.of (h _ _ q)) fun _ _ _ _ _ _ y => y))
    | @tup a vs ds' q r2 =>
      cases e1
      obtain rfl : v = Value.ref a := r1
      obtain ⟨its, rv, p, hz⟩ := I1.tuple (g1.sqT q)
      refine wpAny_pyIter_tuple (show s1.heap.IsTuple a its.toArray from p) ⟨s1.heap.objs.size, [s1.heap.objs.size], _, _, H1, rfl, I1.kept (t' := s1.toks) fun b o e => Heap.get?_push_of_some _ e, turn_tuple a _, ⟨_, Heap.get?_push_size _ rfl, rfl, rfl⟩, fpk, ?_⟩
      have w := walk_tup (K := X.K) (a := a) (xs := vs)
      rw [← r2.length] at w
      refine okP.pure p1 g1 (walkD_at r2 (w.mono (fun H h => ?_) fun _ _ _ _ _ _ y => y))
      rcases q with q | q
      · exact .inl (rd_sub h q)
      · exact .inr q
    | str z =>
      cases e1
      obtain ⟨t, rfl⟩ := r1
      have wd : WalkD X.K W1 (signs z) (Its z) := by
        have w := walk_str (z := z)
        have el : (signs z).length = z.cps.size := by simp [signs]
        unfold WalkD
        rw [el]
        refine w.mono (fun _ _ => trivial) fun i H x H' hi hG y d hd W2 S2 l g => ?_
        obtain ⟨rfl, c, hc, rfl⟩ := y
        refine ⟨W2, W2.le_refl, g, ?_⟩
        have : d = .str ⟨#[c]⟩ := by
          simp only [signs, List.getElem?_map, Array.getElem?_toList, hc, Option.map_some, Option.some.injEq] at hd
          exact hd.symm
        subst this
        exact .str _
      cases ha : z.cps.all (· < 128)
      · exact wpAny_pyIter_wide ha (pi_one (tk := s1.toks) I1 _ (turn_str _ z t "str_iterator" (.inr rfl)) ⟨_, Heap.get?_push_size _ rfl, rfl, rfl⟩ (okP.pure p1 g1 wd))
      · exact wpAny_pyIter_ascii ha (pi_one (tk := s1.toks) I1 _ (turn_str _ z t "str_ascii_iterator" (.inl rfl)) ⟨_, Heap.get?_push_size _ rfl, rfl, rfl⟩ (okP.pure p1 g1 wd))
    | _ => cases e1
theorem se_gint {x : Str} {i : Int} (hg : Gl X x) (hm : ∃ t, X.mg x = some (.int i t)) (hd : (x == ("__debug__" : Str)) = false) : SE X Wx (.Name x pos) (eC (.int i)) := by
  obtain ⟨t, hm⟩ := hm
  exact se_c (v := .int i) (pe_glob hg hm ⟨t, rfl⟩ hd) fun _ => .int i
theorem se_gstr {x z : Str} (hg : Gl X x) (hm : ∃ t, X.mg x = some (.str z t)) (hd : (x == ("__debug__" : Str)) = false) : SE X Wx (.Name x pos) (eC (.str z)) := by
  obtain ⟨t, hm⟩ := hm
  exact se_c (v := .str z) (pe_glob hg hm ⟨t, rfl⟩ hd) fun _ => .str z
def eCal (m : List D → M D) (mas : MA) : ME := fun δ => M.bind (mas δ) m
section
variable {m : List D → M D} {x : Str} {f : Addr} {ks : List Str} {k : Nat}
theorem se_cal (hf : CalG X.prog X.w X.K X.mg X.base k f [] m) (hr : Room k X.A) (hgd : X.A.guards = some []) (tk : L2N.Takes X Wx) (hgl : Gl X x) (hm : X.mg x = some (.ref f)) (hk : PySem.W.keepIn X.K (.ref f) = true) (hdb : (x == ("__debug__" : Str)) = false) (ha : SA X Wx (e :: es) mas)
    (he : starEach (e :: es) X.env = (false, eval e X.env) :: starEach es X.env) (hpl : (backTo pos (starEach es X.env)).any (·.1) = false) : SE X Wx (.Call (.Name x p) (e :: es) [] pos) (eCal m mas) :=
  PE.imp (se_call (hf X Wx rfl rfl rfl rfl rfl hr hgd tk) hgl hm hk hdb ha he hpl) fun σ H Q ⟨W, S, δ, g, r, h⟩ => ⟨W, S, δ, g, r, by
    have : eCallF (fun ds es => m (ds ++ es)) mas aNil δ S = eCal m mas δ S := by
      simp only [eCallF, eCal, aNil, M.bind, M.pure, List.append_nil]
    rw [this]; exact h⟩
/-- keyword arguments -/
abbrev SK (X : Cx) (Wx : WX) (kws : List Keyword) (m : MA) : Prop := PK X kws (tDA X.K Wx m)
theorem PK.imp {kws : List Keyword} {t t' : TA} (h : PK X kws t) (i : ∀ σ H Q, t' σ H Q → t σ H Q) : PK X kws t' := ⟨fun pos pins s σ H Q I q => h.run pos pins s σ H Q I (i σ H Q q)⟩
theorem sk_nil : SK X Wx [] aNil := PK.imp pk_nil fun σ H Q ⟨W, S, δ, g, r, p⟩ => okP.pure p g .nil
theorem sk_cons {kws : List Keyword} {nm : Option Str} {kp : Pos} (ha : SE X Wx e ma) (hr : SK X Wx kws mas) : SK X Wx (⟨nm, e, kp⟩ :: kws) (aCons ma mas) :=
  PK.imp (pk_cons ha hr) fun σ H Q ⟨W, S, δ, g, r, p⟩ => ⟨W, S, δ, g, r, (okP.bind (R := Rep X.K) p).imp fun v H1 ⟨W1, S1, x, l1, g1, r1, p1⟩ =>
    ⟨W1, S1, δ, g1, r.mono l1, (okP.bind (R := Reps X.K) p1).imp fun vs H2 ⟨W2, S2, xs, l2, g2, r2, p2⟩ => okP.pure p2 g2 (.cons (r1.mono l2) r2)⟩⟩
/-- f(k = e, ..) -/
theorem se_calK0 {kws : List Keyword} (hf : CalG X.prog X.w X.K X.mg X.base k f ks m) (hr : Room k X.A) (hgd : X.A.guards = some []) (tk : L2N.Takes X Wx) (hgl : Gl X x) (hm : X.mg x = some (.ref f)) (hk : PySem.W.keepIn X.K (.ref f) = true) (hdb : (x == ("__debug__" : Str)) = false) (ha : SK X Wx kws mks)
    (hall : (backToKw pos (keywordEach kws X.env)).all (·.1.isSome) = true) (hks : (backToKw pos (keywordEach kws X.env)).filterMap (·.1) = ks) (hpl : ((backTo pos (starEach [] X.env)).any (·.1) || (backToKw pos (keywordEach kws X.env)).any (·.1.isNone)) = false)
    (hn : ∀ δ S ds S', mks δ S = .ok ds S' → ds.length = ks.length) : SE X Wx (.Call (.Name x p) [] kws pos) (eCal m mks) := by
  refine ⟨fun pins s σ H Q I ⟨W, S, δ, g, r, h⟩ => ?_⟩
  refine wpAny_Call_Name_kw (ld_glob I hgl hm ?_ hdb)
  have h2 : okP X.K (Reps X.K) W (mks δ S) σ Wx (fun v H' => ∃ W' S' a, W.le W' ∧ Good X.K W' S' H' ∧ (Reps X.K W' a v ∧ a.length = ks.length) ∧ okP X.K (Rep X.K) W' (m a S') σ Wx Q) := by
    unfold eCal M.bind at h
    cases e1 : mks δ S with
    | ok ds S' =>
      rw [e1] at h
      exact fun W' H' v l g' r' => ⟨W', S', ds, l, g', ⟨r', hn _ _ _ _ e1⟩, okP.mono l h⟩
    | exc x S' => rw [e1] at h; exact h
    | bad => rw [e1] at h; exact h
  refine PySem.W.callWith_KW0 (h₀ := X.base) I.ok.mod.kin hk hall (thn (ha.run pos pins s σ H _ I ⟨W, S, δ, g, r, h2⟩) fun us s1 ⟨vs, H1, I1, rv, W1, S1, ds, l1, g1, ⟨r1, hl⟩, p1⟩ => ⟨I1.kIn, ?_⟩) hpl
  rw [hks]
  exact hf X Wx rfl rfl rfl rfl rfl hr hgd tk pins s1 σ H1 [] vs [] us Q I1 .nil rv (by rw [← r1.length]; exact hl) ⟨W1, S1, [], ds, g1, .nil, r1, p1⟩
end
mutual
def frzD : Nat → D → Store → Option (D × Store)
  | n + 1, .ref i, S => (match S[i]? with
    | some (some (.lst ds)) => (frzDs n ds (S.set i none)).map fun r => (.lst r.1, r.2)
    | _ => none)
  | n + 1, .lst ds, S => (frzDs n ds S).map fun r => (.lst r.1, r.2)
  | n + 1, .tup ds, S => (frzDs n ds S).map fun r => (.tup r.1, r.2)
  | 0, .ref _, _ => none
  | _, d, S => some (d, S)
def frzDs : Nat → List D → Store → Option (List D × Store)
  | _, [], S => some ([], S)
  | n, d :: ds, S => (frzD n d S).bind fun r => (frzDs n ds r.2).map fun q => (r.1 :: q.1, q.2)
end
theorem frz_ok {K : PySem.W.Frag} {H : Hp} : ∀ (n : Nat), (∀ {W : Wd} {S : Store} {d d' : D} {S' : Store} {v : V}, Good K W S H → Rep K W d v → frzD n d S = some (d', S') → ∃ W', W.le W' ∧ Good K W' S' H ∧ Rep K W' d' v) ∧
    ∀ {ds ds' : List D} {W : Wd} {S S' : Store} {vs : List V}, Good K W S H → Reps K W ds vs → frzDs n ds S = some (ds', S') → ∃ W', W.le W' ∧ Good K W' S' H ∧ Reps K W' ds' vs := by
  have list : ∀ n, (∀ {W : Wd} {S : Store} {d d' : D} {S' : Store} {v : V}, Good K W S H → Rep K W d v → frzD n d S = some (d', S') → ∃ W', W.le W' ∧ Good K W' S' H ∧ Rep K W' d' v) → ∀ {ds ds' : List D} {W : Wd} {S S' : Store} {vs : List V}, Good K W S H → Reps K W ds vs → frzDs n ds S = some (ds', S') → ∃ W', W.le W' ∧ Good K W' S' H ∧ Reps K W' ds' vs := by
    intro n h ds
    induction ds with
    | nil =>
      intro ds' W S S' vs g r e
      cases r
      simp only [frzDs, Option.some.injEq, Prod.mk.injEq] at e
      obtain ⟨rfl, rfl⟩ := e
      exact ⟨W, W.le_refl, g, .nil⟩
    | cons d ds ih =>
      intro ds' W S S' vs g r e
      cases r with
      | cons r1 r2 =>
        simp only [frzDs] at e
        cases e1 : frzD n d S with
        | none => rw [e1] at e; cases e
        | some z =>
          obtain ⟨d1, S1⟩ := z
          rw [e1] at e
          simp only [Option.bind_some] at e
          cases e2 : frzDs n ds S1 with
          | none => rw [e2] at e; cases e
          | some z2 =>
            obtain ⟨ds2, S2⟩ := z2
            rw [e2] at e
            simp only [Option.map_some, Option.some.injEq, Prod.mk.injEq] at e
            obtain ⟨rfl, rfl⟩ := e
            obtain ⟨W1, l1, g1, q1⟩ := h g r1 e1
            obtain ⟨W2, l2, g2, q2⟩ := ih g1 (r2.mono l1) e2
            exact ⟨W2, l1.trans l2, g2, .cons (q1.mono l2) q2⟩
  intro n
  induction n with
  | zero =>
    have h0 : ∀ {W : Wd} {S : Store} {d d' : D} {S' : Store} {v : V}, Good K W S H → Rep K W d v → frzD 0 d S = some (d', S') → ∃ W', W.le W' ∧ Good K W' S' H ∧ Rep K W' d' v := by
      intro W S d d' S' v g r e
      cases d <;> first
        | (simp only [frzD, Option.some.injEq, Prod.mk.injEq] at e; obtain ⟨rfl, rfl⟩ := e; exact ⟨W, W.le_refl, g, r⟩)
        | (simp only [frzD] at e; cases e)
    exact ⟨h0, list 0 h0⟩
  | succ n ih =>
    have h1 : ∀ {W : Wd} {S : Store} {d d' : D} {S' : Store} {v : V}, Good K W S H → Rep K W d v → frzD (n + 1) d S = some (d', S') → ∃ W', W.le W' ∧ Good K W' S' H ∧ Rep K W' d' v := by
      intro W S d d' S' v g r e
      cases d with
      | lst ds =>
        cases r with
        | @lst a vs _ q r2 =>
          simp only [frzD] at e
          cases e2 : frzDs n ds S with
          | none => rw [e2] at e; cases e
          | some z =>
            obtain ⟨ds2, S2⟩ := z
            rw [e2] at e
            simp only [Option.map_some, Option.some.injEq, Prod.mk.injEq] at e
            obtain ⟨rfl, rfl⟩ := e
            obtain ⟨W1, l1, g1, q1⟩ := ih.2 g r2 e2
            exact ⟨W1, l1, g1, .lst (l1.f _ _ q) q1⟩
      | tup ds =>
        cases r with
        | @tup a vs _ q r2 =>
          simp only [frzD] at e
          cases e2 : frzDs n ds S with
          | none => rw [e2] at e; cases e
          | some z =>
            obtain ⟨ds2, S2⟩ := z
            rw [e2] at e
            simp only [Option.map_some, Option.some.injEq, Prod.mk.injEq] at e
            obtain ⟨rfl, rfl⟩ := e
            obtain ⟨W1, l1, g1, q1⟩ := ih.2 g r2 e2
            exact ⟨W1, l1, g1, .tup (sqT_mono l1 q) q1⟩
      | ref i =>
        cases r with
        | @ref _ a hm =>
          simp only [frzD] at e
          split at e
          · rename_i ds hc
            obtain ⟨a', e1, e2, e3, vs, e4, e5⟩ := g.cell i _ hc
            rw [hm] at e1; cases e1
            obtain ⟨g1, l1⟩ := g.freeze hc hm e4
            cases e6 : frzDs n ds (S.set i none) with
            | none => rw [e6] at e; cases e
            | some z =>
              obtain ⟨ds2, S2⟩ := z
              rw [e6] at e
              simp only [Option.map_some, Option.some.injEq, Prod.mk.injEq] at e
              obtain ⟨rfl, rfl⟩ := e
              obtain ⟨W1, l2, g2, q2⟩ := ih.2 g1 (e5.mono l1) e6
              exact ⟨W1, l1.trans l2, g2, .lst (l2.f _ _ (by show upd _ _ _ _ = _; rw [upd_same])) q2⟩
          · cases e
      | _ =>
        simp only [frzD, Option.some.injEq, Prod.mk.injEq] at e
        obtain ⟨rfl, rfl⟩ := e
        exact ⟨W, W.le_refl, g, r⟩
    exact ⟨h1, list (n + 1) h1⟩
def eFrz (m : ME) : ME := fun δ => M.bind (m δ) fun d => lft (frzD 4 d)
theorem se_frz (h : SE X Wx e m) : SE X Wx e (eFrz m) :=
  PE.imp h fun σ H Q ⟨W, S, δ, g, r, p⟩ => ⟨W, S, δ, g, r, (okP.bind (R := Rep X.K) p).imp fun v H1 ⟨W1, S1, d, l1, g1, r1, p1⟩ => by
    have p2 := p1.lft
    cases e1 : frzD 4 d S1 with
    | none => rw [e1] at p2; exact p2.elim
    | some z =>
      obtain ⟨d', S'⟩ := z
      rw [e1] at p2
      obtain ⟨W2, l2, g2, q2⟩ := (frz_ok 4).1 g1 r1 e1
      exact p2 W2 H1 v l2 g2 q2⟩
def pStrI (tab : Str → Option (List D → M D)) : List D → PO := fun ds S => match ds with
  | [d] => (match clsOf S d with
    | some (c, _) => (match tab c with
      | some m => (match m [d] S with
        | .ok (.str z) S' => some (.str z, S')
        | _ => none)
      | none => none)
    | none => pStr [d] S)
  | _ => none
def StrOk (X : Cx) (k : Nat) (tab : Str → Option (List D → M D)) : Prop := ∀ c m, tab c = some m → ∃ f fd, PySem.W.findIn X.K (.ref (He.ga X.K c)) "__str__" = some (some (.ref f)) ∧ PySem.W.isFn X.K (.ref f) = true ∧ FnG X.prog X.w X.K X.mg X.base k f fd ["self"] (spM X.K 1 m) ∧ BindK X.K fd ["self"] []
theorem cr_pStrI {k : Nat} {tab : Str → Option (List D → M D)} (ht : StrOk X k tab) (hr : Room (k + 2) X.A) (hg : X.A.guards = some []) : CallR X (.type "str") (rDC X.K (pStrI tab)) := fun pins s σ H vs us Q I rv ⟨W, S, ds, g, r, p⟩ => by
  match ds, r, p with
  | [d], r, p =>
    obtain ⟨v, rfl, q⟩ := reps1 r
    simp only [pStrI] at p
    cases e : clsOf S d with
    | none => rw [e] at p; exact cr_pStr pins s σ H _ us Q I rv ⟨W, S, [d], g, r, p⟩
    | some z =>
      obtain ⟨c, fs⟩ := z
      rw [e] at p
      dsimp only at p
      cases e1 : tab c with
      | none => rw [e1] at p; exact p.elim
      | some m =>
        rw [e1] at p
        dsimp only at p
        obtain ⟨f, fd, k1, k2, F, hb⟩ := ht c m e1
        obtain ⟨a, dx, vfs, rfl, h1, h2, h3⟩ := clsOf_ok e g q
        obtain rfl := Vals.ref1 rv
        obtain ⟨mA, O, _⟩ := ins_get I.hok h1
        obtain ⟨od, J, _⟩ := O.look
        have hr2 : Room k X.A.in1.in1 := Room.in1 (Room.in1 hr)
        refine PySem.W.kso_call (by have := hr2.un; omega) I.kIn J k1 k2 (wpAny_call ?_)
        have want : spM X.K 1 m [.ref a] H (fun v H' => ∃ z, v = .str z ∧ Q (.str z) H') (fun _ _ _ => False) := ⟨rfl, W, S, [d], g, r, by
          cases e2 : m [d] S with
          | ok d2 S2 =>
            rw [e2] at p
            cases d2 with
            | str z =>
              intro W' H' v' l g' q'
              cases q'
              exact ⟨z, rfl, p W' H' _ l g' (.str z)⟩
            | _ => exact p.elim
          | exc x S2 => rw [e2] at p; exact p.elim
          | bad => rw [e2] at p; exact p.elim⟩
        refine codeAny_mono (F.run X.A.in1.in1 hg X.stack s H ⟨[.ref a], []⟩ [.ref a] [.ref a] _ _ hr2 (Env0.in1 (Env0.in1 I.env0)) (hb s [.ref a] [] rfl rfl) (.cons rfl .nil) want) fun res s' hq => ?_
        cases res with
        | error ex =>
          obtain ⟨_, _, _, _, _, _, _, _, _, _, _, _, z⟩ := hq
          exact z.elim
        | ok fl =>
          cases fl with
          | ret u =>
            obtain ⟨v, H', I3, rv, z, rfl, q3⟩ := I.after hq
            obtain ⟨t, rfl⟩ := rv
            exact ⟨.str z, H', I3, ⟨t, rfl⟩, q3⟩
          | next => exact hq.elim
          | brk => exact hq.elim
          | cont => exact hq.elim
  | [], r, p => exact p.elim
  | _ :: _ :: _, r, p => exact p.elim
end
end Ev
namespace Ev
open PySem PySem.Spec PySem.SeqAt L2 PyProof.Rows
theorem takes_no {X : Cx} : L2N.Takes X (fun _ _ _ _ => False) := fun u s' ⟨_, _, _, _, _, _, _, _, _, _, _, _, _, _, _, _, w⟩ => w.elim
/-- where a piece of text is run -/
structure Ct (X : Cx) (Wx : WX) (k : Nat) : Prop where
  calm : X.calm = true
  gd : X.A.guards = some []
  room : Room k X.A
  tk : L2N.Takes X Wx
theorem Ct.blk {X : Cx} {Wx : WX} {k : Nat} (c : Ct X Wx k) {s : Shared} {H : Hp} {scope : Scope} {cenv : Env} {fp : List Addr} : Ct (X.blk s H scope cenv fp) (fun _ _ _ _ => False) k := ⟨c.calm, c.gd, c.room, takes_no⟩
theorem Ct.hu {X : Cx} {Wx : WX} {k : Nat} (c : Ct X Wx k) : X.A.units + 64 < cLine := by have := c.room.un; omega
theorem ct_of {P : Program} {w : World} {K : PySem.W.Frag} {mg : Str → Option Value} {base : Heap} {k : Nat} {N : List Str} {qual : Str} {scope : Scope} {f : Addr} {cdv : Value} {A : Around} {outer : List Env} {s : Shared} {H : Hp} {E : XK}
    (hg : A.guards = some []) (hr : Room k (A.deeper (envOfC qual scope s.heap.objs.size f cdv))) : Ct (cxOf (L2N.CX P w) P w K mg base N qual scope f cdv A outer s H E) (fun cls d _ H' => E cls d H') k := ⟨rfl, hg, hr, L2N.takes_of rfl rfl rfl rfl⟩
theorem po_of {P : Program} {w : World} {K : PySem.W.Frag} {mg : Str → Option Value} {base : Heap} {N : List Str} {qual : Str} {scope : Scope} {f : Addr} {cdv : Value} {A : Around} {outer : List Env} {s : Shared} {H : Hp} {E : XK} :
    PassesOwn (model P w) (cxOf (L2N.CX P w) P w K mg base N qual scope f cdv A outer s H E).A (cxOf (L2N.CX P w) P w K mg base N qual scope f cdv A outer s H E).env (cxOf (L2N.CX P w) P w K mg base N qual scope f cdv A outer s H E).xe := passes_of rfl
section
variable {X : Cx} {Wx : WX} {a b c e o tg : Expr} {es : List Expr} {ma mb mc m mo mi : ME} {mas mks : MA} {pos p : Pos} {k : Nat} {x : Str}
/-- f(e, ..), f a built-in function; a type -/
theorem nB {id : String} {g : List D → PO} (hc : CallR X (.builtin id) (rDC X.K g)) (hm : X.mg x = none) (hv : bootBuiltins x = some (.builtin id)) (ha : SA X Wx (e :: es) mas) (hg : Gl X x := by rfl) (hn : x ≠ "__name__" := by decide) (hdb : (x == ("__debug__" : Str)) = false := by decide)
    (he : starEach (e :: es) X.env = (false, eval e X.env) :: starEach es X.env := by rfl) (hpl : (backTo pos (starEach es X.env)).any (·.1) = false := by rfl) : SE X Wx (.Call (.Name x p) (e :: es) [] pos) (eCallV g mas) :=
  PE.imp (pe_callB hc hg hm hv ha hn hdb he hpl) tCB_of
theorem nT {T : String} {g : List D → PO} (hc : CallR X (.type T) (rDC X.K g)) (hm : X.mg x = none) (hv : bootBuiltins x = some (.type T)) (ha : SA X Wx (e :: es) mas) (hg : Gl X x := by rfl) (hn : x ≠ "__name__" := by decide) (hdb : (x == ("__debug__" : Str)) = false := by decide)
    (he : starEach (e :: es) X.env = (false, eval e X.env) :: starEach es X.env := by rfl) (hpl : (backTo pos (starEach es X.env)).any (·.1) = false := by rfl) : SE X Wx (.Call (.Name x p) (e :: es) [] pos) (eCallV g mas) :=
  PE.imp (pe_callTy hc hg hm hv ha hn hdb he hpl) tCB_of
theorem nVar (i : Nat) (hN : X.N[i]? = some x := by rfl) (hv : Vis X.env.scope x := by first | exact .inl rfl | exact .inr (.inl rfl) | exact .inr (.inr rfl)) (hd : (x == ("__debug__" : Str)) = false := by rfl) (hcd : (x == ("__classdict__" : Str)) = false := by rfl) : SE X Wx (.Name x pos) (eVar i) := se_var hN hv hd hcd
theorem nCons (ha : SE X Wx e ma) (hr : SA X Wx es mas) (hs : starEach (e :: es) X.env = (false, eval e X.env) :: starEach es X.env := by rfl) : SA X Wx (e :: es) (aCons ma mas) := sa_cons ha hr hs
theorem nInt {x : Str} {i : Int} (hm : ∃ t, X.mg x = some (.int i t)) (hg : Gl X x := by rfl) (hd : (x == ("__debug__" : Str)) = false := by rfl) : SE X Wx (.Name x pos) (eC (.int i)) := se_gint hg hm hd
theorem nStr {x z : Str} (hm : ∃ t, X.mg x = some (.str z t)) (hg : Gl X x := by rfl) (hd : (x == ("__debug__" : Str)) = false := by rfl) : SE X Wx (.Name x pos) (eC (.str z)) := se_gstr hg hm hd
theorem nCmp {op : CmpOp} {f : D → D → PO} (ho : OpR X (compareOp op) (rD2 X.K f)) (ha : SE X Wx a ma) (hb : SE X Wx b mb) (hm : behindInMarks op b = false := by rfl) : SE X Wx (.Compare a [op] [b] pos) (eOp f ma mb) := se_cmp ho ha hb hm
theorem nCmpT {op : CmpOp} {f : D → D → PO} (ho : OpR X (compareOp op) (rD2 X.K f)) (ha : SE X Wx a ma) (hb : SE X Wx b mb) (hm : behindInMarks op b = false := by rfl) : ST X Wx (.Compare a [op] [b] pos) (fun δ => asB (eOp f ma mb δ)) := st_cmp ho ha hb hm
theorem nChT {op op' : CmpOp} {f f' : D → D → PO} (ho : OpR X (compareOp op) (rD2 X.K f)) (ho' : OpR X (compareOp op') (rD2 X.K f')) (ha : SE X Wx a ma) (hb : SE X Wx b mb) (hc : SE X Wx c mc) (hm : lastMarks [op, op'] [b, c] = false := by rfl) : ST X Wx (.Compare a [op, op'] [b, c] pos) (fun δ => asB (eChain f f' ma mb mc δ)) := st_chain ho ho' ha hb hc hm
theorem nCh {op op' : CmpOp} {f f' : D → D → PO} (ho : OpR X (compareOp op) (rD2 X.K f)) (ho' : OpR X (compareOp op') (rD2 X.K f')) (ha : SE X Wx a ma) (hb : SE X Wx b mb) (hc : SE X Wx c mc) (hm : lastMarks [op, op'] [b, c] = false := by rfl) : SE X Wx (.Compare a [op, op'] [b, c] pos) (eChain f f' ma mb mc) := se_chain ho ho' ha hb hc hm
theorem nTru (ha : SE X Wx a ma) (he : ∀ whole, isTrue a X.env whole = (do let v ← whole; standAt a.pos; holding [v] (truthy v)) := by intro _; rfl) : ST X Wx a (fun δ => tru (ma δ)) := st_truth ha he
theorem nIx {i : Expr} (ho : SE X Wx o mo) (hi : SE X Wx i mi) (hs : PlainIx i := by intro _ _; rfl) : SE X Wx (.Subscript o i pos) (eOp pIx mo mi) := se_ix ho hi hs
theorem sw_st {ta : MT} (h : SW X Wx a ta) : ST X Wx a ta := PW.pt h
theorem and1 (ha : SE X Wx a ma) : SE X Wx (.BoolOp .And [a] pos) ma := pe_one ha
theorem nFld {ok : Str → Bool} {fl : Str} (hcls : ∀ c, ok c = true → Cls X.K (He.ga X.K c) ∧ NoAttr X.K (He.ga X.K c) fl) (ho : SE X Wx o mo) (hb : attributeBase o fl X.env (eval o X.env) = eval o X.env := by rfl) : SE X Wx (.Attribute o fl pos) (eFld ok fl mo) := se_fld ho hcls hb
theorem nCal {f : Addr} {m : List D → M D} (C : Ct X Wx k) (hf : CalG X.prog X.w X.K X.mg X.base k f [] m) (hm : X.mg x = some (.ref f)) (hk : PySem.W.keepIn X.K (.ref f) = true) (ha : SA X Wx (e :: es) mas) (hgl : Gl X x := by rfl) (hdb : (x == ("__debug__" : Str)) = false := by rfl)
    (he : starEach (e :: es) X.env = (false, eval e X.env) :: starEach es X.env := by rfl) (hpl : (backTo pos (starEach es X.env)).any (·.1) = false := by rfl) : SE X Wx (.Call (.Name x p) (e :: es) [] pos) (eCal m mas) := se_cal hf C.room C.gd C.tk hgl hm hk hdb ha he hpl
theorem aCons_len {ma : ME} {mas : MA} {n : Nat} (h : ∀ δ S ds S', mas δ S = .ok ds S' → ds.length = n) : ∀ δ S ds S', aCons ma mas δ S = .ok ds S' → ds.length = n + 1 := fun δ S ds S' e => by
  unfold aCons M.bind at e
  cases e1 : ma δ S with
  | bad => rw [e1] at e; cases e
  | exc x S1 => rw [e1] at e; cases e
  | ok d S1 =>
    rw [e1] at e
    cases e2 : mas δ S1 with
    | bad => simp only [e2] at e; cases e
    | exc x S2 => simp only [e2] at e; cases e
    | ok ds2 S2 =>
      simp only [e2, M.pure, Res.ok.injEq] at e
      obtain ⟨rfl, rfl⟩ := e
      simp [h _ _ _ _ e2]
theorem aNil_len : ∀ δ S ds S', aNil δ S = .ok ds S' → ds.length = 0 := fun δ S ds S' e => by
  unfold aNil M.pure at e
  cases e
  rfl
theorem nCalK0 {f : Addr} {m : List D → M D} {ks : List Str} {kws : List Keyword} (C : Ct X Wx k) (hf : CalG X.prog X.w X.K X.mg X.base k f ks m) (hm : X.mg x = some (.ref f)) (hk : PySem.W.keepIn X.K (.ref f) = true) (ha : SK X Wx kws mks) (hn : ∀ δ S ds S', mks δ S = .ok ds S' → ds.length = ks.length) (hgl : Gl X x := by rfl) (hdb : (x == ("__debug__" : Str)) = false := by rfl)
    (hall : (backToKw pos (keywordEach kws X.env)).all (·.1.isSome) = true := by rfl) (hks : (backToKw pos (keywordEach kws X.env)).filterMap (·.1) = ks := by rfl) (hpl : ((backTo pos (starEach [] X.env)).any (·.1) || (backToKw pos (keywordEach kws X.env)).any (·.1.isNone)) = false := by rfl) :
    SE X Wx (.Call (.Name x p) [] kws pos) (eCal m mks) := se_calK0 hf C.room C.gd C.tk hgl hm hk hdb ha hall hks hpl hn
theorem nMb {T id : String} {nm : Str} {f : D → List D → PO} {apos : Pos} (pa : PlainAttrs T) (slot : Slot T nm id) (hty : typeOf (.builtin id) = pure (.type "method_descriptor")) (hm : MtR X id (rDM X.K f)) (ho : SE X Wx o mo) (ha : SA X Wx (e :: es) mas)
    (hbase : attributeBase o nm X.env (eval o X.env) = eval o X.env := by rfl)
    (hfew : ((backTo pos (starEach (e :: es) X.env)).all (fun x => !x.1) && (backToKw pos (keywordEach [] X.env)).all (fun x => x.1.isSome)
      && decide ((e :: es).length + ([] : List Keyword).length + (if ([] : List Keyword).isEmpty then 0 else 1) < 30)) = true := by rfl)
    (hline : (apos.endLine == pos.line) = true := by rfl) (hs : starEach (e :: es) X.env = (false, eval e X.env) :: starEach es X.env := by rfl) (hpl : (backTo pos (starEach es X.env)).any (·.1) = false := by rfl) :
    SE X Wx (.Call (.Attribute o nm apos) (e :: es) [] pos) (eMB T f mo mas) := se_mb pa slot hty hm ho ha hbase hfew hline hs hpl
theorem nIsi {isi : Ty → Ty → Option Bool} {c : Ty} {p2 : Pos} {ce : Expr} {cv : V} (kk : IsiOk X.K isi) (ho : SE X Wx o mo) (hc : PE X ce (tC cv)) (hcv : ClsV cv (c.val X.K)) (hm : X.mg "isinstance" = none) (hgl : Gl X "isinstance" := by rfl)
    (h1 : starEach [o, ce] X.env = (false, eval o X.env) :: starEach [ce] X.env := by rfl) (h2 : starEach [ce] X.env = (false, eval ce X.env) :: starEach [] X.env := by rfl) : SE X Wx (.Call (.Name "isinstance" p) [o, ce] [] pos) (eIsi isi c mo) := se_isi (p2 := p2) kk ho hc hcv hgl hm h1 h2
variable {st : Stmt} {sts : List Stmt} {ms mt : MS}
theorem nSet (i : Nat) {y : Str} {pos' : Pos} (he : SE X Wx e m) (hN : X.N.Nodup) (hi : X.N[i]? = some y := by rfl) (hx : Loc X.env.scope y := by first | exact .inl rfl | exact .inr rfl) (hs : swapsWith e (some (.Name y pos')) pos.line X.env = pure false := by rfl) (hf : X.fn y = true ∨ X.env.scope.names.lookup y = some .local := by first | exact .inl rfl | exact .inr rfl) : SS X Wx (.Assign [.Name y pos'] e pos) (sAsg m (gNm i)) :=
  ss_set hN hi hx he hs hf
theorem nAsg {mg : TGM} (he : SE X Wx e m) (hg : SG X tg mg) (hs : swapsWithSole [tg] e pos.line X.env = pure false := by rfl) (hw : swappedStores [tg] e X.env = pure none := by rfl) (h1 : (assignEach [tg] X.env).map (·.2) = [assign tg X.env] := by rfl) : SS X Wx (.Assign [tg] e pos) (sAsg m mg) := ss_asg he hg hs hw h1
theorem nPar2 (i j : Nat) {x y : Str} {px py pt : Pos} {kt k2 : Nat} {pt2 : Pos} (C : Ct X Wx k) (hN : X.N.Nodup) (ha : SA X Wx [a, b] mas) (hi : X.N[i]? = some x := by rfl) (hj : X.N[j]? = some y := by rfl) (hij : i ≠ j := by decide)
    (hx : X.env.scope.names.lookup x = some .local := by rfl) (hy : X.env.scope.names.lookup y = some .local := by rfl)
    (hw : swappedStores [.Tuple [.Name x px, .Name y py] kt pt] (.Tuple [a, b] k2 pt2) X.env = pure (some [x, y]) := by rfl) :
    SS X Wx (.Assign [.Tuple [.Name x px, .Name y py] kt pt] (.Tuple [a, b] k2 pt2) pos) (sPar2 i j mas) := ss_par2 C.calm hN hi hj hij hx hy ha hw
theorem nExpr (he : SE X Wx e m) (hs : swapsWith e none pos.line X.env = pure false := by rfl) : SS X Wx (.Expr e pos) (sExpr m) := ss_expr he hs
theorem nFor {iter : Expr} {body : List Stmt} {mi : MA} {mg : TGM} {mb : MS} (C : Ct X Wx k) (hp : PassesOwn (model X.prog X.w) X.A X.env X.xe) (hi : SI X Wx tg iter mi) (hg : SG X tg mg) (hb : SB X Wx body mb) (hs : ∀ x, foldedSetIterable iter X.env x = pure x := by intro _; rfl) : SS X Wx (.For tg iter body [] pos) (sFor mi mg mb) :=
  ss_for hp C.calm hi hg hb hs
theorem gName (i : Nat) (hN : X.N.Nodup) (hi : X.N[i]? = some x := by rfl) (hx : Loc X.env.scope x := by first | exact .inl rfl | exact .inr rfl) (hf : X.fn x = true ∨ X.env.scope.names.lookup x = some .local := by first | exact .inl rfl | exact .inr rfl) : SG X (.Name x pos) (gNm i) := sg_name hN hi hx hf
theorem gTup {kk n : Nat} {ms : TGMs} (C : Ct X Wx k) (h : SGs X es ms) (hn : (assignEach es X.env).length = n := by rfl) (hst : (assignEach es X.env).findIdx? (·.1) = none := by rfl) : SG X (.Tuple es kk pos) (gTp n ms) := sg_tup C.calm h hn hst
theorem gCons {m : TGM} {ms : TGMs} (h1 : SG X e m) (h2 : SGs X es ms) (hs : (assignEach (e :: es) X.env).map (·.2) = assign e X.env :: (assignEach es X.env).map (·.2) := by rfl) : SGs X (e :: es) (gCs m ms) := sgs_cons h1 h2 hs
theorem gSub {o i : Expr} {mo mi : ME} {f : PSt} (Wx : WX) (ho : SE X Wx o mo) (hi : SE X Wx i mi) (hs : PSet X (tDSet X.K f)) (ha : ∀ v, assign (.Subscript o i pos) X.env v = (do
      let ov ← holding [v] (eval o X.env)
      let iv ← holding [v, ov] (eval i X.env)
      standAt pos
      holding [v, ov, iv] (setItem ov iv v)
      release [v, ov, iv] []) := by intro _; rfl) : SG X (.Subscript o i pos) (gSb f mo mi) := sg_sub ho hi hs ha
theorem uName (i : Nat) (hN : X.N.Nodup) (hi : X.N[i]? = some x := by rfl) (hx : Loc X.env.scope x := by first | exact .inl rfl | exact .inr rfl) (hf : X.fn x = true ∨ X.env.scope.names.lookup x = some .local := by first | exact .inl rfl | exact .inr rfl) : PG X (.Name x pos) (tDU X.K (uNm i)) := su_name hN hi hx hf
theorem uCons {u : UpD} {us : List D → Option (List (Nat × D))} (h1 : PG X e (tDU X.K u)) (h2 : PGs X es (tDUs X.K us)) (hs : (assignEach (e :: es) X.env).map (·.2) = assign e X.env :: (assignEach es X.env).map (·.2) := by rfl) : PGs X (e :: es) (tDUs X.K (uCs u us)) := sus_cons h1 h2 hs
def tYesM : MT := fun _ => M.pure true
theorem ptsNil : PTs X [] (tDT X.K Wx tYesM) := ⟨fun pins s σ H Q I ⟨W, S, δ, g, r, p⟩ => pts_nil.run pins s σ H Q I (okP.pure p g rfl)⟩
theorem ptsOne {t : MT} (h : ST X Wx c t) : PTs X [c] (tDT X.K Wx t) := pts_one h
def iR1 (mas : MA) : MA := fun δ => M.bind (mas δ) fun ds => match ds with
    | [.int j] => if -(2 ^ 62) ≤ j ∧ j < 2 ^ 62 then M.pure (rngD 0 j.toNat) else M.bad
    | _ => M.bad
def iR2 (mas : MA) : MA := fun δ => M.bind (mas δ) fun ds => match ds with
    | [.int i, .int j] => if -(2 ^ 62) ≤ i ∧ i < 2 ^ 62 ∧ -(2 ^ 62) ≤ j ∧ j < 2 ^ 62 then M.pure (rngD i (j - i).toNat) else M.bad
    | _ => M.bad
theorem nR1 {p : Pos} (hm : X.mg "range" = none) (ha : SA X Wx [a] mas) (hg : Gl X "range" := by rfl) (hs : starEach [a] X.env = [(false, eval a X.env)] := by rfl) : SI X Wx tg (.Call (.Name "range" p) [a] [] pos) (iR1 mas) := si_range1 hg hm ha hs
theorem nLc {elt tg iter : Expr} {ifs : List Expr} {scope : Scope} (own : List (Str × Nat)) {mi : MA} {up : UpD} {mt : MT} {me : ME} {fin : List D → PO} (C : Ct X Wx k) (hf : FinOk X.K fin) (hN : X.N.Nodup) (hi : SI X Wx tg iter mi) (ok : BlkOk X.N X.env.scope scope own)
    (hg : ∀ (s : Shared) (H : Hp) (C : Addr) (cl : List (Str × Addr)) (fp : List Addr), PG (X.blk s H scope (compEnvC scope cl C X.env) fp) tg (tDU X.K up)) (ht : ∀ (s : Shared) (H : Hp) (C : Addr) (cl : List (Str × Addr)) (fp : List Addr), PTs (X.blk s H scope (compEnvC scope cl C X.env) fp) ifs (tDT X.K (fun _ _ _ _ => False) mt))
    (he : ∀ (s : Shared) (H : Hp) (C : Addr) (cl : List (Str × Addr)) (fp : List Addr), SE (X.blk s H scope (compEnvC scope cl C X.env) fp) (fun _ _ _ _ => False) elt me) (hu : ∀ d us, up d = some us → ∀ p ∈ us, p.1 ∈ own.map (·.2)) (hs : ∀ x, foldedSetIterable iter X.env x = pure x := by intro _; rfl) :
    SE X Wx (.ListComp elt [⟨tg, iter, ifs, 0⟩] scope pos) (eLc fin mi up mt me (own.map (·.2))) := se_lc hf hu C.calm hN hi ok hg ht he hs
theorem nSetLc (i : Nat) {y : Str} {py spos : Pos} {elt tg iter : Expr} {ifs : List Expr} {scope : Scope} (own : List (Str × Nat)) {mi : MA} {up : UpD} {mt : MT} {me : ME} {fin : List D → PO} (C : Ct X Wx k) (hf : FinOk X.K fin) (hN : X.N.Nodup) (hi : SI X Wx tg iter mi) (ok : BlkOk X.N X.env.scope scope own)
    (hg : ∀ (s : Shared) (H : Hp) (C : Addr) (cl : List (Str × Addr)) (fp : List Addr), PG (X.blk s H scope (compEnvC scope cl C X.env) fp) tg (tDU X.K up)) (ht : ∀ (s : Shared) (H : Hp) (C : Addr) (cl : List (Str × Addr)) (fp : List Addr), PTs (X.blk s H scope (compEnvC scope cl C X.env) fp) ifs (tDT X.K (fun _ _ _ _ => False) mt))
    (he : ∀ (s : Shared) (H : Hp) (C : Addr) (cl : List (Str × Addr)) (fp : List Addr), SE (X.blk s H scope (compEnvC scope cl C X.env) fp) (fun _ _ _ _ => False) elt me) (hu : ∀ d us, up d = some us → ∀ p ∈ us, p.1 ∈ own.map (·.2)) (hy : X.N[i]? = some y := by rfl) (hyl : X.env.scope.names.lookup y = some .local := by rfl)
    (hsw : swapsWith (.ListComp elt [⟨tg, iter, ifs, 0⟩] scope pos) (some (.Name y py)) spos.line X.env = pure true := by exact sw_true rfl rfl rfl (by decide +kernel)) (hs : ∀ x, foldedSetIterable iter X.env x = pure x := by intro _; rfl) :
    SS X Wx (.Assign [.Name y py] (.ListComp elt [⟨tg, iter, ifs, 0⟩] scope pos) spos) (sAsg (eLc fin mi up mt me (own.map (·.2))) (gNm i)) := ss_setLc hf hu C.calm hN hy hyl hsw hi ok hg ht he hs
theorem upNm {i : Nat} {l : List Nat} (h : i ∈ l := by decide) : ∀ d us, uNm i d = some us → ∀ p ∈ us, p.1 ∈ l := fun d us e p hp => by
  unfold uNm at e
  cases e
  rw [List.mem_singleton.mp hp]
  exact h
theorem nZipS {p q : Pos} (hm : X.mg "zip" = none) (ha : SE X Wx e ma) (hg : Gl X "zip" := by rfl) : SI X Wx tg (.Call (.Name "zip" p) [.Starred e q] [] pos) (iZip (aStar ma aNil)) := si_zipS hg hm ha
variable {cn : Str} {mI : MI}
theorem iSelf {x f : Str} {px : Pos} (hc : Cls X.K (He.ga X.K cn) ∧ NoAttr X.K (He.ga X.K cn) f) (hN : X.N[0]? = some x := by rfl) (hv : Vis X.env.scope x := by first | exact .inl rfl | exact .inr (.inl rfl) | exact .inr (.inr rfl)) (hd : (x == ("__debug__" : Str)) = false := by rfl) (hcd : (x == ("__classdict__" : Str)) = false := by rfl) : PG X (.Attribute (.Name x px) f pos) (tGI X.K cn f) := sgi hN hv hd hcd hc
theorem iCs {f : Str} {ps : List Str} (h1 : PG X e (tGI X.K cn f)) (h2 : PGs X es (tGIs X.K cn ps)) (hs : (assignEach (e :: es) X.env).map (·.2) = assign e X.env :: (assignEach es X.env).map (·.2) := by rfl) : PGs X (e :: es) (tGIs X.K cn (f :: ps)) := sgis_cons h1 h2 hs
theorem iMany {ps : List Str} {kk : Nat} {pt : Pos} (C : Ct X Wx k) (he : SE X Wx e m) (hg : PGs X es (tGIs X.K cn ps)) (h2 : SBI X Wx cn sts mI) (hn : (assignEach es X.env).length = ps.length := by rfl) (hst : (assignEach es X.env).findIdx? (·.1) = none := by rfl)
    (hs : swapsWithSole [.Tuple es kk pt] e pos.line X.env = pure false := by rfl) (hw : swappedStores [.Tuple es kk pt] e X.env = pure none := by rfl) (h1 : (assignEach [.Tuple es kk pt] X.env).map (·.2) = [assign (.Tuple es kk pt) X.env] := by rfl) : SBI X Wx cn (.Assign [.Tuple es kk pt] e pos :: sts) (iSets m ps mI) := sbi_sets (n := 0) C.calm he hg h2 hn hst hs hw h1
end
def StrG (P : Program) (w : World) (K : PySem.W.Frag) (mg : Str → Option Value) (base : Heap) (k : Nat) (tab : Str → Option (List D → M D)) : Prop := ∀ c m, tab c = some m → ∃ f fd, PySem.W.findIn K (.ref (He.ga K c)) "__str__" = some (some (.ref f)) ∧ PySem.W.isFn K (.ref f) = true ∧ FnG P w K mg base k f fd ["self"] (spM K 1 m) ∧ BindK K fd ["self"] []
theorem CalG.mono {P : Program} {w : World} {K : PySem.W.Frag} {mg : Str → Option Value} {base : Heap} {j k : Nat} {v : Addr} {ks : List Str} {m : List D → M D} (h : CalG P w K mg base j v ks m) (l : j ≤ k) : CalG P w K mg base k v ks m :=
  fun X Wx e1 e2 e3 e4 e5 hr => h X Wx e1 e2 e3 e4 e5 (hr.mono l)

theorem CalG.bad {P : Program} {w : World} {K : PySem.W.Frag} {mg : Str → Option Value} {base : Heap} {k : Nat} {v : Addr} {ks : List Str} : CalG P w K mg base k v ks (fun _ _ => .bad) :=
  fun X Wx e1 e2 e3 e4 e5 hr hg tk pins s σ H vs zs us ws Q I r1 r2 hl ⟨W, S, ds, es, g, q1, q2, p⟩ => p.elim
theorem FnG.bad {P : Program} {w : World} {K : PySem.W.Frag} {mg : Str → Option Value} {base : Heap} {k : Nat} {f : Addr} {fd : FuncData} {x : Str} : FnG P w K mg base k f fd [x] (spM K 1 (fun _ _ => .bad)) :=
  ⟨fun vs H Q E h => h.1, fun A hg outer s H args us vs Q E hr e0 hb rel ⟨_, W, S, ds, g, r, p⟩ => p.elim⟩
theorem initM_len {nN n : Nat} {m : MI} (ds : List D) (S : Store) (h : ds.length ≠ n) : initM nN n m ds S = .bad := by unfold initM; rw [if_neg h]
theorem bt_len : bootBuiltins "len" = some (.builtin "len") := by decide +kernel
theorem bt_abs : bootBuiltins "abs" = some (.builtin "abs") := by decide +kernel
theorem bt_min : bootBuiltins "min" = some (.builtin "min") := by decide +kernel
theorem bt_max : bootBuiltins "max" = some (.builtin "max") := by decide +kernel
theorem bt_all : bootBuiltins "all" = some (.builtin "all") := by decide +kernel
theorem bt_divmod : bootBuiltins "divmod" = some (.builtin "divmod") := by decide +kernel
theorem bt_int : bootBuiltins "int" = some (.type "int") := by decide +kernel
theorem bt_str : bootBuiltins "str" = some (.type "str") := by decide +kernel
theorem bt_tuple : bootBuiltins "tuple" = some (.type "tuple") := by decide +kernel
end Ev
namespace Ev
open PySem PySem.Spec PyProof.Rows L2
/-- the world at the law's entry -/
def w0 (H : Hp) : Wd := ⟨H, [], fun _ => none, none⟩
theorem good0 {K : PySem.W.Frag} (H : Hp) : Good K (w0 H) [] H where
  sub := fun _ _ e => e
  len := rfl
  cell := fun i c e => by simp at e
  inj := fun i j a c c' e => by simp at e
  prv := fun a o e => by cases e
  ptup := fun a xs e => by cases e
section
variable {P : Program} {w : World} {K : PySem.W.Frag} {mg mb : Str → Option Value} {k : Nat} {fa a : Addr} {fd : FuncData} {x : Str} {s1 : Shared} {vs : List Value} {ns : List Int} {m : List D → M D}
/-- the entry, from a heap that tracks the script at most -/
theorem law_at (H : Hp) (only : ∀ b u, H b = some u → b = a ∧ K.lookup b = none ∧ ∃ o xs, u = .frz o (.lst xs)) (hS : SqL K H a (ns.map V.int)) (hok : HOk P w H s1.heap)
    (KX : K.In s1.heap) (hns : s1.heap.Ns mainGlobals mg) (hb : s1.heap.Ns builtinsNs mb) (hbb : ∀ y : Str, y ≠ "__name__" → mb y = bootBuiltins y) (hlim : s1.heap.NoLimit) (hg : s1.gens = #[])
    (ha : s1.heap.get? a = some { cls := .type "list", data := .seq vs.toArray }) (hr : Room k callerA)
    (F : ∀ base : Heap, K.In base → base.Ns mainGlobals mg → FnG P w K mg base k fa fd [x] (spM K 1 m)) (hbind : ∀ (s : Shared) (u : Value), BindsTo s fd ⟨[u], []⟩ [(x, u)])
    (hm : ∃ S, m [.scr ns] [] = .ok (.bl true) S) :
    codeAny (model P w) callerA (.call (.ref fa) ⟨[.ref a], []⟩) (fun r s' => (r = .ok (.ret (.bool true)) ∧ OldK s1.heap s'.heap) ∧ s'.os = s1.os ∧ AllBare s'.gens) s1 := by
  let B : Heap := hidT s1.heap H
  have inB : ∀ {b : Addr} {o : Obj}, s1.heap.get? b = some o → H b = none → B.get? b = some o := fun e n => hidT_get e n
  have untracked : ∀ {b : Addr} {o : Obj}, s1.heap.get? b = some o → (∀ ys n, o.data ≠ .seq ys n) → H b = none := by
    intro b o e hn
    cases q : H b with
    | none => rfl
    | some u =>
      obtain ⟨rfl, _⟩ := only b u q
      rw [ha] at e
      cases e
      exact absurd rfl (hn _ _)
  have spaces : ∀ {b : Addr} {g : Str → Option Value}, s1.heap.Ns b g → B.Ns b g := by
    rintro b g ⟨o, es, ep, e, hd, r⟩
    exact ⟨o, es, ep, inB e (untracked e fun ys n z => by rw [hd] at z; cases z), hd, r⟩
  have KB : K.In B := by
    intro b o e
    refine inB (KX b o e) ?_
    cases q : H b with
    | none => rfl
    | some u =>
      obtain ⟨_, z, _⟩ := only b u q
      rw [z] at e; cases e
  obtain ⟨mc, c1, c2⟩ := hlim
  have env : Env0 P w K mg B callerA [] s1 H := by
    refine ⟨rfl, ⟨KB, spaces hns, ⟨mb, spaces hb, hbb⟩, mc, spaces c1, c2⟩, fun b o e => of_hidT e, Nat.le_of_eq (hidT_size _ _), trivial, fun b z => ?_, hok, .of_eq hg⟩
    exact absurd (show b ∈ ([] : List Addr) from z) (by simp)
  obtain ⟨S, hmS⟩ := hm
  have want : spM K 1 m [.ref a] H (fun v _ => v = .bl true) (fun _ _ _ => False) := by
    refine ⟨rfl, w0 H, [], [.scr ns], good0 H, .cons (.scr hS) .nil, ?_⟩
    rw [hmS]
    intro W' H' v _ _ q
    cases q
    rfl
  refine codeAny_mono ((F B KB (spaces hns)).run callerA rfl [] s1 H ⟨[.ref a], []⟩ [.ref a] [.ref a] _ _ hr env (hbind s1 _) (.cons rfl .nil) want) ?_
  intro r s' res
  match r, res with
  | .error e, res =>
    obtain ⟨_, _, _, _, _, _, _, _, _, _, _, _, z⟩ := res
    exact z.elim
  | .ok .next, res => exact False.elim res
  | .ok .brk, res => exact False.elim res
  | .ok .cont, res => exact False.elim res
  | .ok (.ret u), res =>
    obtain ⟨v, H', hos, hbare, un, hok2, rel, rfl⟩ := res
    obtain rfl : u = Value.bool true := rel
    refine ⟨⟨rfl, OldK.of_keep ?_⟩, hos, hbare⟩
    intro b o e
    cases q : H b with
    | none =>
      refine un.keep b o e q (fun z => ?_) (by simp)
      exact absurd (show b ∈ ([] : List Addr) from z) (by simp)
    | some u =>
      obtain ⟨_, _, ob, xs, rfl⟩ := only b u q
      have t1 := (hok b _ q).1
      have t2 := (hok2 b _ (un.frzs b ob _ q)).1
      rw [e] at t1; cases t1
      exact t2
/-- the law's call, from the head's facts -/
theorem law_go (KX : K.In s1.heap) (hns : s1.heap.Ns mainGlobals mg) (hb : s1.heap.Ns builtinsNs mb) (hbb : ∀ y : Str, y ≠ "__name__" → mb y = bootBuiltins y) (hlim : s1.heap.NoLimit) (hg : s1.gens = #[])
    (ha : s1.heap.get? a = some { cls := .type "list", data := .seq vs.toArray }) (hi : IntsAre vs ns) (hl : ns.length ≤ sizeLine) (hr : Room k callerA)
    (F : ∀ base : Heap, K.In base → base.Ns mainGlobals mg → FnG P w K mg base k fa fd [x] (spM K 1 m)) (hbind : ∀ (s : Shared) (u : Value), BindsTo s fd ⟨[u], []⟩ [(x, u)])
    (hm : ∃ S, m [.scr ns] [] = .ok (.bl true) S) :
    codeAny (model P w) callerA (.call (.ref fa) ⟨[.ref a], []⟩) (fun r s' => (r = .ok (.ret (.bool true)) ∧ OldK s1.heap s'.heap) ∧ s'.os = s1.os ∧ AllBare s'.gens) s1 := by
  have vi := vals_ints hi
  by_cases hk : K.lookup a = none
  · let ob : Obj := { cls := .type "list", data := .seq vs.toArray }
    let H : Hp := fun b => if b = a then some (.frz ob (.lst (ns.map V.int))) else none
    have atA : H a = some (.frz ob (.lst (ns.map V.int))) := if_pos rfl
    have onA : ∀ b u, H b = some u → b = a ∧ u = .frz ob (.lst (ns.map V.int)) := by
      intro b u e
      by_cases hb : b = a
      · have e' : (if b = a then some (HO.frz ob (.lst (ns.map V.int))) else none) = some u := e
        rw [if_pos hb] at e'
        exact ⟨hb, (Option.some.inj e').symm⟩
      · have e' : (if b = a then some (HO.frz ob (.lst (ns.map V.int))) else none) = some u := e
        rw [if_neg hb] at e'; cases e'
    refine law_at H (fun b u e => ?_) (.inl (.inr ⟨ob, atA⟩)) (fun b u e => ?_) KX hns hb hbb hlim hg ha hr F hbind hm
    · obtain ⟨rfl, rfl⟩ := onA b u e
      exact ⟨rfl, hk, _, _, rfl⟩
    · obtain ⟨rfl, rfl⟩ := onA b u e
      exact ⟨ha, by simpa using hl, vs, _, vi, ha⟩
  · obtain ⟨o, ho⟩ := Option.ne_none_iff_exists'.mp hk
    have eo := KX a o ho
    rw [ha] at eo
    cases eo
    have len := hi.length
    refine law_at (fun _ => none) (fun b u e => by cases e) (.inr ⟨_, vs.toArray, _, ho, rfl, rfl, rfl, ?_, by simpa using vi⟩) (fun b u e => ?_) KX hns hb hbb hlim hg ha hr F hbind hm
    · rw [List.size_toArray, len]; exact hl
    · have e' : (none : Option HO) = some u := e
      cases e'
end
/-- the goal that the head leaves -/
theorem walk_ev {l : PySem.W.OpenLaw} {n k : Nat} {q : Program} {loose : List Str} {XP : (Str → Option Value) → Heap → Prop} {YP : World → Heap → Prop} {d : DefRec} {x : Str} {m : List D → M D}
    (hn : l.most = some n) (hn2 : n ≤ sizeLine) (hdf : d.params.defaults = []) (hr : Room k callerA)
    (F : ∀ (w : World) (mg : Str → Option Value) (fa : Addr) (h : Heap), YP w h → h.Ns mainGlobals mg → mg d.name = some (.ref fa) →
      ∃ (K : PySem.W.Frag) (fd : FuncData), K.In h ∧ (∀ (s : Shared) (u : Value), BindsTo s fd ⟨[u], []⟩ [(x, u)]) ∧ ∀ base : Heap, K.In base → base.Ns mainGlobals mg → FnG l.prog w K mg base k fa fd [x] (spM K 1 m))
    (hm : ∀ ns : List Int, ns.length ≤ n → (∀ i ∈ ns, Builtin.Int.intBits i ≤ 1048576) → ∃ S, m [.scr ns] [] = .ok (.bl true) S) :
    PySem.W.WalkO q loose XP YP l.row.toRowW d [] (fun f vs => PySem.call f vs) := by
  refine Att.attach_callB hn hdf ?_
  intro w s0 s1 mg mb fa o pm cd doc a vs ns G Y _ _ _ hmg hobj hints hlen hbits hg
  obtain ⟨K, fd, KX, hb, hF⟩ := F w mg fa _ Y G.T.g hmg
  exact codeAny_mono (law_go KX G.T.g G.T.b G.T.builtins G.T.nolimit hg hobj hints (Nat.le_trans hlen hn2) hr hF hb (hm ns hlen hbits)) fun r s' ⟨⟨h1, h2⟩, h3, h4⟩ => ⟨h1, h2, h3, h4⟩
end Ev
namespace Ev
open PySem PySem.Spec PyProof.Rows L2
abbrev Ex : Type := PySem.W.Frag → Bool
abbrev AlX : Type := He.AlD × Bool
def obsX (n : Nat) (fa : List He.Fa) (fn : List He.DefD) (ex : List Ex) (g : Addr → Option Obj) : AlX := (He.obsDG n fa fn g, ex.all fun f => f (He.frG g (He.asD g n)))
def hookX (n : Nat) (fa : List He.Fa) (fn : List He.DefD) (ex : List Ex) : PySem.W.Hook where
  α := AlX
  obs := fun s => obsX n fa fn ex s.heap.get?
  val := fun _ => (He.valD fn, true)
  says := fun _ h => ∃ K : PySem.W.Frag, K.In h ∧ He.SaysD fa fn K ∧ (ex.all fun f => f K) = true
  of := fun _ _ e => ⟨_, He.frG_in, congrArg Prod.fst e, congrArg Prod.snd e⟩
  keeps := fun _ _ _ ⟨K, hK, c⟩ k => ⟨K, PySem.W.Frag.In.keeps hK k, c⟩
theorem obsX_eq {n : Nat} {fa : List He.Fa} {fn : List He.DefD} {ex : List Ex} {g : Addr → Option Obj} {s : Shared} (h : ∀ a, g a = s.heap.get? a) : obsX n fa fn ex g = (hookX n fa fn ex).obs s := by
  have e : g = s.heap.get? := funext h
  subst e
  rfl
theorem ex_at {K : PySem.W.Frag} {ex : List Ex} (h : (ex.all fun f => f K) = true) (i : Nat) {f : Ex} (e : ex[i]? = some f := by rfl) : f K = true := List.all_eq_true.mp h f (List.mem_of_getElem? e)
def isiT (tab : List (Ty × Ty × Bool)) (t c : Ty) : Option Bool := (tab.find? fun x => decide (x.1 = t) && decide (x.2.1 = c)).map fun x => x.2.2
def kitB (tab : List (Ty × Ty × Bool)) : Ex := fun K => tab.all fun x => decide (PySem.W.kitOne K (x.1.val K) (x.2.1.val K) = some x.2.2)
def ownB (cs : List Str) : Ex := fun K => cs.all fun c => (He.Fa.cls c).ok K && (decide (PySem.W.findIn K (.ref (He.ga K c)) "__class__" = some (some (.builtin "object.__class__"))) &&
  (decide (PySem.W.specialIn K (.builtin "object.__class__") "__get__" = some (some (.builtin "getset_descriptor.__get__"))) && (decide (PySem.W.takesIn K (.builtin "object.__class__") = some true) && decide (PySem.W.mroIn K (He.ga K c) (.type "object") = some true))))
theorem isi_ok {K : PySem.W.Frag} {tab : List (Ty × Ty × Bool)} {cs : List Str} (h1 : kitB tab K = true) (h2 : ownB cs K = true) (h3 : (tab.all fun x => match x.1 with
  | .own c => decide (c ∈ cs)
  | .blt _ => true) = true) : IsiOk K (isiT tab) := by
  have key : ∀ t c b, isiT tab t c = some b → (t, c, b) ∈ tab := fun t c b e => by
    unfold isiT at e
    obtain ⟨x, e1, e2⟩ := Option.map_eq_some_iff.mp e
    have hm := List.mem_of_find?_eq_some e1
    have hp := List.find?_some e1
    simp only [Bool.and_eq_true, decide_eq_true_eq] at hp
    obtain ⟨rfl, rfl⟩ := hp
    subst e2
    exact hm
  refine ⟨fun t c b e => ?_, fun c d b e => ?_⟩
  · exact of_decide_eq_true (List.all_eq_true.mp h1 _ (key t c b e))
  · have hc : c ∈ cs := of_decide_eq_true (List.all_eq_true.mp h3 _ (key _ d b e))
    have h := List.all_eq_true.mp h2 c hc
    simp only [Bool.and_eq_true, decide_eq_true_eq] at h
    obtain ⟨a1, a2, a3, a4, a5⟩ := h
    exact ⟨He.cls_ok a1, a2, a3, a4, a5⟩
end Ev
namespace Ev
open PySem PySem.Spec PyProof.Rows L2
section
variable {prog : Program} {w : World} {A : Around} {E : Value → Shared → Prop} {s : Shared} {K : PySem.W.Frag} {x y C f : Addr} {ox oy : Obj} {od od' : Option Obj}
end
section
variable {X : Cx} {k : Nat} {tab : Str → Option (List D → M D)}
end
end Ev
namespace Ev
open PySem L2
section
variable {S S1 S2 : Store} {i j : Int} {xs ys ds : List D} {δ : En} {m ma mb : ME} {d x y : D}
theorem pAdd_ii : pAdd (.int i) (.int j) S = some (.int (i + j), S) := rfl
theorem pSub_ii : pSub (.int i) (.int j) S = some (.int (i - j), S) := rfl
theorem pMul_ii (h : mulOk i j = true) : pMul (.int i) (.int j) S = some (.int (i * j), S) := by
  unfold pMul
  simp only [h, if_true]
theorem mul_l (h1 : -(2 ^ 64) < i) (h2 : i < 2 ^ 64) : mulOk i j = true := by
  unfold mulOk
  simp only [Bool.or_eq_true, decide_eq_true_eq]
  exact .inl ⟨h1, h2⟩
theorem mul_r (h1 : -(2 ^ 64) < j) (h2 : j < 2 ^ 64) : mulOk i j = true := by
  unfold mulOk
  simp only [Bool.or_eq_true, decide_eq_true_eq]
  exact .inr ⟨h1, h2⟩
theorem pMod_ii (h : 0 < j) : pMod (.int i) (.int j) S = some (.int (i % j), S) := by
  simp only [pMod, pInt2, h, decide_true, if_true]
theorem pFdiv_ii (h : 0 < j) (h2 : j < 1073741824) : pFdiv (.int i) (.int j) S = some (.int (i / j), S) := by
  simp only [pFdiv, pInt2, h, h2, and_self, decide_true, if_true]
theorem pLt_ii : pLt (.int i) (.int j) S = some (.bl (decide (i < j)), S) := rfl
theorem pLe_ii : pLe (.int i) (.int j) S = some (.bl (decide (i ≤ j)), S) := rfl
theorem pGt_ii : pGt (.int i) (.int j) S = some (.bl (decide (j < i)), S) := rfl
theorem pGe_ii : pGe (.int i) (.int j) S = some (.bl (decide (j ≤ i)), S) := rfl
theorem pEq_ii : pEq (.int i) (.int j) S = some (.bl (i == j), S) := by
  simp [pEq, eqD, toPS, PyData.depth, PyData.eqv]
theorem pNe_ss {a b : Str} : pNe (.str a) (.str b) S = some (.bl (!(a == b)), S) := by
  simp [pNe, eqD, toPS, PyData.depth, PyData.eqv]
theorem atI_nat {α : Type} {xs : List α} {k : Nat} (h : k < xs.length) : atI xs (k : Int) = some xs[k] := by
  have h0 : (0 : Int) ≤ k := Int.natCast_nonneg k
  have h1 : (k : Int) < (xs.length : Int) := by omega
  simp [atI, ixN, h0, h1, h]
theorem pIx_lst {k : Nat} (h : k < xs.length) : pIx (.lst xs) (.int k) S = some (xs[k], S) := by
  simp only [pIx, seqOf, lstOf, Option.bind_some, atI_nat h, Option.map_some]
theorem pIx_tup {k : Nat} (h : k < xs.length) : pIx (.tup xs) (.int k) S = some (xs[k], S) := by
  simp only [pIx, seqOf, Option.bind_some, atI_nat h, Option.map_some]
theorem pIx_scr {ns : List Int} {k : Nat} (h : k < ns.length) : pIx (.scr ns) (.int k) S = some (.int ns[k], S) := by
  have h' : k < (ns.map D.int).length := by simpa using h
  simp only [pIx, seqOf, lstOf, Option.bind_some, atI_nat h', Option.map_some, List.getElem_map]
theorem pIx_ref {t k : Nat} (hS : S[t]? = some (some (.lst xs))) (h : k < xs.length) : pIx (.ref t) (.int k) S = some (xs[k], S) := by
  simp only [pIx, seqOf, lstOf, hS, Option.bind_some, atI_nat h, Option.map_some]
theorem pLen_lst : pLen [.lst xs] S = some (.int xs.length, S) := rfl
theorem pLen_tup : pLen [.tup xs] S = some (.int xs.length, S) := rfl
theorem pLen_scr {ns : List Int} : pLen [.scr ns] S = some (.int ns.length, S) := by simp [pLen, seqOf, lstOf]
theorem pInt_i : pInt [.int i] S = some (.int i, S) := rfl
theorem pInt_b {b : Bool} : pInt [.bl b] S = some (.int (if b then 1 else 0), S) := rfl
theorem newL_ev (h : xs.length ≤ sizeLine) : newL xs S = some (.lst xs, S) := by simp only [newL, h, if_true]
theorem newT_ev (h : xs.length ≤ sizeLine) : newT xs S = some (.tup xs, S) := by simp only [newT, h, if_true]
theorem newC_ev (h : xs.length ≤ sizeLine) : newC xs S = some (.ref S.length, S ++ [some (.lst xs)]) := by simp only [newC, h, if_true]
theorem loop_inv {mg : TGM} {mb : MS} (P : Nat → En → Store → Prop) (h : ∀ k δ S, (hk : k < ds.length) → P k δ S → ∃ δ1 S1, mg ds[k] δ S = some (δ1, S1) ∧ ∃ δ2 S2, mb δ1 S1 = .nx δ2 S2 ∧ P (k + 1) δ2 S2) (h0 : P 0 δ S) :
    ∃ δ2 S2, loopF mg mb ds δ S = .nx δ2 S2 ∧ P ds.length δ2 S2 := by
  have key : ∀ (n k : Nat) (δ : En) (S : Store), k + n = ds.length → P k δ S → ∃ δ2 S2, loopF mg mb (ds.drop k) δ S = .nx δ2 S2 ∧ P ds.length δ2 S2 := by
    intro n
    induction n with
    | zero =>
      intro k δ S e p
      have : k = ds.length := by omega
      subst this
      rw [List.drop_length]
      exact ⟨δ, S, rfl, p⟩
    | succ n ih =>
      intro k δ S e p
      have hk : k < ds.length := by omega
      obtain ⟨δ1, S1, e1, δ2, S2, e2, p2⟩ := h k δ S hk p
      obtain ⟨δ3, S3, e3, p3⟩ := ih (k + 1) δ2 S2 (by omega) p2
      refine ⟨δ3, S3, ?_, p3⟩
      rw [List.drop_eq_getElem_cons hk]
      simp only [loopF, e1, e2]
      exact e3
  exact key ds.length 0 δ S (by omega) h0
theorem rng_len {n : Nat} : (rngD 0 n).length = n := by simp [rngD]
theorem rng_get {n k : Nat} (h : k < (rngD 0 n).length) : (rngD 0 n)[k] = .int k := by simp [rngD]
/-- the store may change: the invariant by what has been made -/
theorem lc_inv {up : UpD} {mt : MT} {me : ME} {δ0 : En} (P : Nat → List D → Store → Prop)
    (h : ∀ k acc S, (hk : k < ds.length) → P k acc S → ∃ us, up ds[k] = some us ∧ ((∃ S1, mt (setsD δ0 us) S = .ok false S1 ∧ P (k + 1) acc S1) ∨ ∃ S1, mt (setsD δ0 us) S = .ok true S1 ∧ ∃ y S2, me (setsD δ0 us) S1 = .ok y S2 ∧ acc.length < sizeLine ∧ P (k + 1) (acc ++ [y]) S2)) (h0 : P 0 [] S) :
    ∃ ys S2, loopC up mt me δ0 ds [] S = .ok ys S2 ∧ P ds.length ys S2 := by
  have key : ∀ (n k : Nat) (acc : List D) (S : Store), k + n = ds.length → P k acc S → ∃ ys S2, loopC up mt me δ0 (ds.drop k) acc S = .ok ys S2 ∧ P ds.length ys S2 := by
    intro n
    induction n with
    | zero =>
      intro k acc S e p
      have : k = ds.length := by omega
      subst this
      rw [List.drop_length]
      exact ⟨acc, S, rfl, p⟩
    | succ n ih =>
      intro k acc S e p
      have hk : k < ds.length := by omega
      obtain ⟨us, e1, h1⟩ := h k acc S hk p
      rw [List.drop_eq_getElem_cons hk]
      rcases h1 with ⟨S1, e2, p2⟩ | ⟨S1, e2, y, S2, e3, hl, p2⟩
      · obtain ⟨ys, S3, e4, p3⟩ := ih (k + 1) acc S1 (by omega) p2
        refine ⟨ys, S3, ?_, p3⟩
        simp only [loopC, e1, M.bind, noX, e2]
        exact e4
      · obtain ⟨ys, S3, e4, p3⟩ := ih (k + 1) (acc ++ [y]) S2 (by omega) p2
        refine ⟨ys, S3, ?_, p3⟩
        simp only [loopC, e1, M.bind, noX, e2, e3, hl, if_true]
        exact e4
  exact key ds.length 0 [] S (by omega) h0
/-- nothing changes, all are taken -/
theorem lc_map {me : ME} {δ0 : En} {k : Nat} (f : D → D) (hl : ds.length ≤ sizeLine) (h : ∀ d ∈ ds, me (δ0.set k (some d)) S = .ok (f d) S) : loopC (uNm k) tYesM me δ0 ds [] S = .ok (ds.map f) S := by
  obtain ⟨ys, S2, e, p1, p2⟩ := lc_inv (up := uNm k) (mt := tYesM) (me := me) (δ0 := δ0) (ds := ds) (S := S) (fun n acc S' => acc = (ds.take n).map f ∧ S' = S) (by
    rintro n acc S' hn ⟨rfl, rfl⟩
    refine ⟨_, rfl, .inr ⟨S', rfl, f ds[n], S', h _ (List.getElem_mem hn), by simp; omega, ?_, rfl⟩⟩
    rw [List.take_succ_eq_append_getElem hn, List.map_append]; rfl) ⟨rfl, rfl⟩
  subst p2
  rw [e, p1, List.take_length]
section
variable {S3 : Store} {z : D} {f f' : D → D → PO} {g : List D → PO} {mas : MA} {fm : List D → M D} {tc ta tb : MT} {b : Bool} {md : M D} {rd : Res D} {rb : Res Bool} {fin : List D → PO} {mi : MA} {up : UpD} {me : ME} {vs : List Nat} {mc : ME}
theorem eOp_ok (ha : ma δ S = .ok x S1) (hb : mb δ S1 = .ok y S2) (hf : f x y S2 = some (z, S3)) : eOp f ma mb δ S = .ok z S3 := by simp only [eOp, M.bind, ha, hb, lft, hf]
theorem eCallV_ok (ha : mas δ S = .ok xs S1) (hf : g xs S1 = some (z, S2)) : eCallV g mas δ S = .ok z S2 := by simp only [eCallV, M.bind, ha, lft, hf]
theorem eCal_ok (ha : mas δ S = .ok xs S1) (hf : fm xs S1 = rd) : eCal fm mas δ S = rd := by simp only [eCal, M.bind, ha, hf]
theorem aCons_ok (ha : ma δ S = .ok x S1) (hb : mas δ S1 = .ok xs S2) : aCons ma mas δ S = .ok (x :: xs) S2 := by simp only [aCons, M.bind, ha, hb, M.pure]
theorem eTup_ok (ha : mas δ S = .ok xs S1) (hl : xs.length ≤ sizeLine) : eTup mas δ S = .ok (.tup xs) S1 := by simp only [eTup, M.bind, ha, lft, newT_ev hl]
theorem eLstC_ok (ha : mas δ S = .ok xs S1) (hl : xs.length ≤ sizeLine) : eLstC mas δ S = .ok (.ref S1.length) (S1 ++ [some (.lst xs)]) := by simp only [eLstC, M.bind, ha, lft, newC_ev hl]
theorem asB_ok (h : md S = .ok (.bl b) S1) : asB md S = .ok b S1 := by simp only [asB, M.bind, h, M.pure]
theorem tru_ok (h : md S = .ok d S1) (ht : truD S1 d = some b) : tru md S = .ok b S1 := by simp only [tru, M.bind, h, ht]
theorem tNot_ok (h : ta δ S = .ok b S1) : tNotM ta δ S = .ok (!b) S1 := by simp only [tNotM, M.bind, h, M.pure]
theorem tOr_t (h : ta δ S = .ok true S1) : tOrM ta tb δ S = .ok true S1 := by simp only [tOrM, M.bind, h, cond_true, M.pure]
theorem tOr_f (h : ta δ S = .ok false S1) (h2 : tb δ S1 = rb) : tOrM ta tb δ S = rb := by simp only [tOrM, M.bind, h, cond_false, h2]
theorem eIf_t (h : tc δ S = .ok true S1) (h2 : ma δ S1 = rd) : eIf tc ma mb δ S = rd := by simp only [eIf, M.bind, h, cond_true, h2]
theorem eIf_f (h : tc δ S = .ok false S1) (h2 : mb δ S1 = rd) : eIf tc ma mb δ S = rd := by simp only [eIf, M.bind, h, cond_false, h2]
theorem eAnd_t (h : ma δ S = .ok x S1) (ht : truD S1 x = some true) (h2 : mb δ S1 = rd) : eAnd ma mb δ S = rd := by simp only [eAnd, M.bind, h, ht, h2]
theorem eChain_t (ha : ma δ S = .ok x S1) (hb : mb δ S1 = .ok y S2) (hf : f x y S2 = some (.bl true, S2)) (hc : mc δ S2 = .ok z S3) {u : D} {S4 : Store} (hf2 : f' y z S3 = some (u, S4)) : eChain f f' ma mb mc δ S = .ok u S4 := by
  simp only [eChain, M.bind, ha, hb, lft, hf, hc, hf2]
theorem eLc_ok {mt : MT} (hi : mi δ S = .ok ds S1) (hl : loopC up mt me (wipeD δ vs) ds [] S1 = .ok ys S2) (hf : fin ys S2 = some (z, S3)) : eLc fin mi up mt me vs δ S = .ok z S3 := by simp only [eLc, M.bind, hi, hl, lft, hf]
theorem eMB_ok {T : String} {f : D → List D → PO} {mo : ME} (ho : mo δ S = .ok x S1) (ht : tyD T S1 x = true) (ha : mas δ S1 = .ok xs S2) (hf : f x xs S2 = some (z, S3)) : eMB T f mo mas δ S = .ok z S3 := by simp only [eMB, M.bind, ho, ht, if_true, ha, lft, hf]
theorem eFld_ok {okf : Str → Bool} {fl c : Str} {fs : List (Str × D)} {mo : ME} (ho : mo δ S = .ok x S1) (hc : clsOf S1 x = some (c, fs)) (hk : okf c = true) (hl : fs.lookup fl = some d) : eFld okf fl mo δ S = .ok d S1 := by simp only [eFld, M.bind, ho, hc, hk, if_true, hl]
theorem eIsi_ok {isi : Ty → Ty → Option Bool} {c t : Ty} {mo : ME} (ho : mo δ S = .ok x S1) (ht : tyOf S1 x = some t) (hi : isi t c = some b) : eIsi isi c mo δ S = .ok (.bl b) S1 := by simp only [eIsi, M.bind, ho, ht, Option.bind_some, hi]
theorem iAny_ok (h : ma δ S = .ok x S1) (ha : anyOf x = some xs) : iAny ma δ S = .ok xs S1 := by simp only [iAny, M.bind, h, ha]
theorem iR1_ok {k : Nat} (h : mas δ S = .ok [.int k] S1) (hk : k < 4611686018427387904) : iR1 mas δ S = .ok (rngD 0 k) S1 := by
  have hr : -(2 ^ 62) ≤ (k : Int) ∧ (k : Int) < 2 ^ 62 := by omega
  simp only [iR1, M.bind, h]
  rw [if_pos hr, Int.toNat_natCast]
theorem iZip_ok {zs : List D} (h : mas δ S = .ok xs S1) (hz : pZip xs = some zs) : iZip mas δ S = .ok zs S1 := by simp only [iZip, M.bind, h, hz]
theorem aStar_ok (ha : ma δ S = .ok x S1) (hs : seqOf S1 x = some xs) (hb : mas δ S1 = .ok ys S2) : aStar ma mas δ S = .ok (xs ++ ys) S2 := by simp only [aStar, M.bind, ha, hs, hb, M.pure]
variable {ms mt : MS} {mg : TGM} {δ1 δ2 : En} {rf : Fl}
theorem sAsg_ok (h : ma δ S = .ok d S1) (hg : mg d δ S1 = some (δ2, S2)) : sAsg ma mg δ S = .nx δ2 S2 := by simp only [sAsg, ofE, h, hg]
theorem sRet_ok (h : ma δ S = .ok d S1) : sRet ma δ S = .rt d S1 := by simp only [sRet, ofE, h]
theorem sIf_t (h : tc δ S = .ok true S1) (h2 : ms δ S1 = rf) : sIf tc ms mt δ S = rf := by simp only [sIf, ofE, h, cond_true, h2]
theorem sIf_f (h : tc δ S = .ok false S1) (h2 : mt δ S1 = rf) : sIf tc ms mt δ S = rf := by simp only [sIf, ofE, h, cond_false, h2]
theorem sSeq_nx (h : ms δ S = .nx δ1 S1) (h2 : mt δ1 S1 = rf) : sSeq ms mt δ S = rf := by simp only [sSeq, h, h2]
theorem sSeq_rt (h : ms δ S = .rt d S1) : sSeq ms mt δ S = .rt d S1 := by simp only [sSeq, h]
theorem sFor_ok (hi : mi δ S = .ok ds S1) (hl : loopF mg ms ds δ S1 = rf) : sFor mi mg ms δ S = rf := by simp only [sFor, ofE, hi, hl]
theorem sPar2_ok {i j : Nat} (h : mas δ S = .ok [x, y] S1) : sPar2 i j mas δ S = .nx ((δ.set i (some x)).set j (some y)) S1 := by simp only [sPar2, ofE, h]
theorem funM_rt {nN n : Nat} (hl : ds.length = n) (h : ms (startD nN ds) S = .rt d S1) : funM nN n ms ds S = .ok d S1 := by simp only [funM, hl, if_true, h]
theorem iOrd_nx {mI : MI} {fs : List (Str × D)} {rI : FlI} (h : ms δ S = .nx δ1 S1) (h2 : mI δ1 fs S1 = rI) : iOrd ms mI δ fs S = rI := by simp only [iOrd, h, h2]
theorem iSets_ok {mI : MI} {ps : List Str} {fs fs' : List (Str × D)} {rI : FlI} (h : ma δ S = .ok (.tup ds) S1) (hs : isSlf δ = true) (hp : putAll ps ds fs = some fs') (h2 : mI δ fs' S1 = rI) : iSets ma ps mI δ fs S = rI := by simp only [iSets, h, hs, if_true, hp, h2]
theorem initM_ok {nN n : Nat} {mI : MI} {δ' : En} {fs : List (Str × D)} (hl : ds.length = n) (h : mI (some .slf :: startD (nN - 1) ds) [] S = .nx δ' fs S1) : initM nN n mI ds S = .ok fs S1 := by simp only [initM, hl, if_true, h]
theorem gTp2_ok {g1 g2 : TGM} (h1 : g1 x δ S = some (δ1, S1)) (h2 : g2 y δ1 S1 = some (δ2, S2)) : gTp 2 (gCs g1 (gCs g2 gNl)) (.tup [x, y]) δ S = some (δ2, S2) := by
  simp only [gTp, List.length_cons, List.length_nil, gCs, h1, h2, Option.bind_some, gNl]
  rfl
theorem gSb_ok {fp : PSt} {mo mi : ME} {S4 : Store} (ho : mo δ S = .ok x S1) (hi : mi δ S1 = .ok y S2) (hf : fp x y d S2 = some S4) : gSb fp mo mi d δ S = some (δ, S4) := by
  simp only [gSb, toO, ho, hi, Option.bind_some, hf, Option.map_some]
end
end
end Ev
namespace Ev
open PySem PySem.Spec PySem.SeqAt PyProof.Rows L2
section
variable {X : Cx} {Wx : WX} {a b e : Expr} {ma mb : ME} {pos p : Pos}
def rgD (a b : Int) : List D := (List.range (b - a).toNat).map fun (i : Nat) => .int (a + i)
def rgOk (a b : Int) : Bool := decide (-(2 ^ 62) ≤ a ∧ a < 2 ^ 62 ∧ -(2 ^ 62) ≤ b ∧ b < 2 ^ 62 ∧ (b - a).toNat ≤ 2 ^ 24)
/-- the bounds of a range -/
def g1 (ma : ME) : En → M (Int × Int) := fun δ => M.bind (ma δ) fun x => match x with
  | .int n => M.pure (0, n)
  | _ => M.bad
def g2 (ma mb : ME) : En → M (Int × Int) := fun δ => M.bind (ma δ) fun x => M.bind (mb δ) fun y => match x, y with
  | .int i, .int j => M.pure (i, j)
  | _, _ => M.bad
def eRg (fin : List D → PO) (m : En → M (Int × Int)) : ME := fun δ => M.bind (m δ) fun r => lft fun S => if rgOk r.1 r.2 = true then fin (rgD r.1 r.2) S else none
theorem PRg.imp {t t' : L2.St → Hp → (Int → Int → Hp → Prop) → Prop} (h : PRg X e t) (i : ∀ σ H Q, t' σ H Q → t σ H Q) : PRg X e t' := fun pins s σ H Q I q => h pins s σ H Q I (i σ H Q q)
end
end Ev
namespace EvZ
open PySem PySem.Spec PySem.SeqAt L2 PyProof.Rows
set_option maxHeartbeats 1000000 in
section
variable {prog : Program} {w : World} {A : Around} {E : Value → Shared → Prop} {s : Shared}
end
end EvZ
namespace Ev
open PySem PySem.Spec PySem.SeqAt L2 PyProof.Rows EvZ
section
variable {X : Cx} {Wx : WX} {tg e : Expr} {K : PySem.W.Frag} {W : Wd} {pos : Pos}
def enumD (xs : List D) : List D := (List.range xs.length).map fun i => .tup [.int (i : Nat), xs.getD i .non]
def iEnu (mas : MA) : MA := fun δ => M.bind (mas δ) fun ds S => match ds with
  | [.lst xs] => .ok (enumD xs) S
  | [.tup xs] => .ok (enumD xs) S
  | _ => .bad
end
end Ev
namespace Ev
open PySem PySem.Spec PySem.SeqAt L2 PyProof.Rows PySem.W
def tup1 : PyData → Bool
  | .tuple (_ :: _) => true
  | _ => false
def notNT : PyData → Bool
  | .tuple _ => false
  | .none => false
  | _ => true
def sortOk (ps : List PyData) : Bool := ps.all (fun a => ps.all fun b => alike a b) && (ps.all tup1 || ps.all notNT) && ps.all (fun p => decide (p.depth ≤ 60))
theorem sortOk_ok {ps : List PyData} (h : sortOk ps = true) : AllAlike ps ∧ Sortable ps ∧ ∀ p ∈ ps, p.depth ≤ 60 := by
  unfold sortOk at h
  simp only [Bool.and_eq_true, Bool.or_eq_true, List.all_eq_true, decide_eq_true_eq] at h
  obtain ⟨⟨h1, h2⟩, h3⟩ := h
  refine ⟨fun d hd d' hd' => h1 d hd d' hd', ?_, h3⟩
  rcases h2 with h2 | h2
  · exact .inl fun d hd => by
      have := h2 d hd
      unfold tup1 at this
      split at this
      · exact ⟨_, _, rfl⟩
      · cases this
  · exact .inr fun d hd => by
      have := h2 d hd
      unfold notNT at this
      split at this
      · cases this
      · cases this
      · rename_i n1 n2
        exact ⟨fun e => n2 e, fun xs e => n1 xs e⟩
def sortBy (zs : List (D × PyData)) : List D := (zs.mergeSort (dataLe false (·.2))).map (·.1)
/-- an item stands for a datum and a key -/
def RI (K : PySem.W.Frag) (W : Wd) (v : Value) (b : D × PyData) : Prop := ∃ x : V, RelV x v ∧ Rep K W b.1 x
theorem each_RI {K : PySem.W.Frag} {W : Wd} : ∀ {xs : List D} {vs : List V} {its : List Value} {ps : List PyData}, Reps K W xs vs → Vals vs its → ps.length = xs.length → EachIs (RI K W) its (xs.zip ps)
  | _, _, _, [], .nil, .nil, _ => .nil
  | _, _, _, _ :: _, .nil, .nil, h => by simp at h
  | _, _, _, [], .cons _ _, .cons _ _, h => by simp at h
  | _, _, _, p :: ps, .cons q r, .cons a b, h => .cons ⟨_, a, q⟩ (each_RI r b (by simpa using h))
theorem RI_each {K : PySem.W.Frag} {W : Wd} : ∀ {out : List Value} {zs : List (D × PyData)}, EachIs (RI K W) out zs → ∃ vs, Vals vs out ∧ Reps K W (zs.map (·.1)) vs
  | _, _, .nil => ⟨[], .nil, .nil⟩
  | _, _, .cons ⟨x, h1, h2⟩ t => by
    obtain ⟨vs, a, b⟩ := RI_each t
    exact ⟨x :: vs, .cons h1 a, .cons h2 b⟩
theorem toPs_len : ∀ {xs : List D} {ps : List PyData}, toPs xs = some ps → ps.length = xs.length
  | [], _, e => by cases e; rfl
  | x :: xs, ps, e => by
    simp only [toPs] at e
    cases e1 : toP x with
    | none => rw [e1] at e; simp at e
    | some p =>
      rw [e1] at e
      cases e2 : toPs xs with
      | none => rw [e2] at e; simp at e
      | some qs =>
        rw [e2] at e
        simp at e
        subst e
        simp [toPs_len e2]
section
variable {X : Cx} {pins : List (Addr × Obj)} {σ : L2.St} {H : Hp} {s : Shared} {W : Wd} {S : Store}
theorem each_reads (I : Inv X pins σ H s) (g : Good X.K W S H) : ∀ {xs : List D} {vs : List V} {its : List Value} {ps : List PyData}, toPs xs = some ps → Reps X.K W xs vs → Vals vs its → EachIs (fun v p => ∃ as, Reads s.heap v p as) its ps
  | [], _, _, ps, e, .nil, .nil => by cases e; exact .nil
  | x :: xs, _, _, ps, e, .cons q r, .cons a b => by
    simp only [toPs] at e
    cases e1 : toP x with
    | none => rw [e1] at e; simp at e
    | some p =>
      rw [e1] at e
      cases e2 : toPs xs with
      | none => rw [e2] at e; simp at e
      | some qs =>
        rw [e2] at e
        simp at e
        subst e
        exact .cons (reads_of I g e1 q a).2 (each_reads I g e2 r b)
theorem each_zip2 {R : Value → PyData → Prop} : ∀ {its : List Value} {ps : List PyData} {xs : List D}, EachIs R its ps → xs.length = ps.length → EachIs (fun v (b : D × PyData) => R v b.2) its (xs.zip ps)
  | _, _, [], .nil, _ => .nil
  | _, _, _ :: _, .nil, h => by simp at h
  | _, _, [], .cons _ _, h => by simp at h
  | _, _, x :: xs, .cons a t, h => .cons a (each_zip2 t (by simpa using h))
theorem zip_snd : ∀ {xs : List D} {ps : List PyData}, xs.length = ps.length → (xs.zip ps).map (·.2) = ps
  | [], [], _ => rfl
  | [], _ :: _, h => by simp at h
  | _ :: _, [], h => by simp at h
  | x :: xs, p :: ps, h => by simp [zip_snd (xs := xs) (ps := ps) (by simpa using h)]
end
def pSortD : List D → PO := fun ds S => match ds with
  | [x] => (lstOf S x).bind fun xs => (toPs xs).bind fun ps => if sortOk ps = true ∧ xs.length ≤ sizeLine then some (.lst (sortBy (xs.zip ps)), S) else none
  | _ => none
theorem cr_pSortD {X : Cx} (hu : X.A.units + 64 < cLine) : CallR X (.builtin "sorted") (rDC X.K pSortD) := fun pins s σ H vs us Q I rv ⟨W, S, ds, g, r, p⟩ => by
  match ds, r, p with
  | [d], r, p =>
    obtain ⟨v, rfl, q⟩ := reps1 r
    simp only [pSortD] at p
    cases e : lstOf S d with
    | none => rw [e] at p; exact p.elim
    | some xs =>
      rw [e] at p
      simp only [Option.bind_some] at p
      cases e2 : toPs xs with
      | none => rw [e2] at p; exact p.elim
      | some ps =>
        rw [e2] at p
        simp only [Option.bind_some] at p
        split at p
        · rename_i hc
          obtain ⟨ho, hl⟩ := hc
          obtain ⟨h1, h2, h3⟩ := sortOk_ok ho
          obtain ⟨a, vs, rfl, hs, r2⟩ := lstOf_ok e g q
          obtain rfl := Vals.ref1 rv
          obtain ⟨its, rv2, hp, hz⟩ := I.list hs
          have hlen := toPs_len e2
          have hzs := zip_snd (xs := xs) (ps := ps) hlen.symm
          refine PySem.W.sorted_data (enc := fun b : D × PyData => b.2) (R := RI X.K W) hp.isList (each_RI r2 rv2 hlen) (each_zip2 (R := fun v p => ∃ as, Reads s.heap v p as) (each_reads I g e2 r2 rv2) hlen.symm) (by rw [hzs]; exact h1) (by rw [hzs]; exact h2) (by simp [hlen]; exact hl) (fun b hb => ?_) fun out hol he => ?_
          · have : b.2 ∈ ps := by rw [← hzs]; exact List.mem_map_of_mem hb
            have := h3 _ this
            omega
          · obtain ⟨vs', k1, k2⟩ := RI_each he
            obtain ⟨ep, he'⟩ := PyProof.Rows.sortedAll_at s.heap its out.toArray
            have hlen2 : vs'.length ≤ sizeLine := by
              rw [Vals.length k1, hol]
              simp [hlen]; exact hl
            have n := I.hok.fresh (a := s.heap.objs.size + 1) (Nat.le_succ _)
            refine ⟨.ref _, upd H (s.heap.objs.size + 1) (.lst vs'), I.laid (t' := s.toks) (fun _ _ => PyProof.Rows.sortedAll_old) (Nat.le_succ _) ⟨hlen2, out, ep, k1, he'⟩, rfl, ?_⟩
            exact p.new g n (.lst upd_same (k2.mono (g.add_le n).toLf))
        · exact p.elim
  | [], r, p => exact p.elim
  | _ :: _ :: _, r, p => exact p.elim
/-- one more is pinned -/
theorem pinned {X : Cx} {pins : List (Addr × Obj)} {σ : L2.St} {H : Hp} {s : Shared} {a : Addr} {o : Obj} (I : Inv X pins σ H s) (fp : FpOk X pins H a) (e : s.heap.get? a = some o) (hc : ∀ v, o.data ≠ .cell v) : Inv X ((a, o) :: pins) σ H s :=
  ⟨I.ok, I.os, I.bare, I.base, I.loc, I.cell, I.free, I.freeC, fun p hp => by
    rcases List.mem_append.mp hp with hp | hp
    · exact I.pin p (List.mem_append_left _ hp)
    · rcases List.mem_cons.mp hp with rfl | hp
      · exact ⟨e, fp.1, fp.2.1, fp.2.2.1, hc⟩
      · exact I.pin p (List.mem_append_right _ hp), I.hok, I.len⟩
section
variable {X : Cx} {pins : List (Addr × Obj)} {σ : L2.St} {H : Hp} {s : Shared} {W : Wd} {S : Store}
/-- a def that may be a key -/
def KeyG (P : Program) (w : World) (K : PySem.W.Frag) (mg : Str → Option Value) (base : Heap) (k : Nat) (f : Addr) (m : List D → M D) : Prop := ∃ fd x0, FnG P w K mg base k f fd [x0] (spM K 1 m) ∧ BindK K fd [x0] []
theorem KeyG.bad {P : Program} {w : World} {K : PySem.W.Frag} {mg : Str → Option Value} {base : Heap} {k : Nat} {f : Addr} {fd : FuncData} {x : Str} (hb : BindK K fd [x] []) : KeyG P w K mg base k f (fun _ _ => .bad) := ⟨fd, x, FnG.bad, hb⟩
theorem KeyG.mono {P : Program} {w : World} {K : PySem.W.Frag} {mg : Str → Option Value} {base : Heap} {j k : Nat} {f : Addr} {m : List D → M D} (h : KeyG P w K mg base j f m) (l : j ≤ k) : KeyG P w K mg base k f m := by
  obtain ⟨fd, x, F, b⟩ := h
  exact ⟨fd, x, F.mono l, b⟩
end
end Ev
namespace Ev
open PySem PySem.Spec PySem.SeqAt L2 PyProof.Rows
section
variable {X : Cx} {Wx : WX} {K : PySem.W.Frag} {W : Wd} {S : Store} {H : Hp} {pos pos' p : Pos} {e o value : Expr}
def newDT : PO := fun S => some (.ref S.length, S ++ [some (.dT [])])
def eDT : ME := fun _ => lft newDT
end
end Ev
namespace Ev
open PySem PySem.Spec PySem.SeqAt L2 PyProof.Rows
section
variable {X : Cx} {Wx : WX} {K : PySem.W.Frag} {W : Wd} {S : Store} {H : Hp} {pos pos' p px kp tpos : Pos} {e o a b value tg : Expr} {mas : MA} {ma mb m : ME} {k : Nat} {x : Str}
def UpIn (l : List Nat) (u : UpD) : Prop := ∀ d us, u d = some us → ∀ p ∈ us, p.1 ∈ l
def UpsIn (l : List Nat) (u : List D → Option (List (Nat × D))) : Prop := ∀ d us, u d = some us → ∀ p ∈ us, p.1 ∈ l
theorem upsNl {l : List Nat} : UpsIn l uNl := fun d us e p hp => by
  unfold uNl at e
  split at e
  · cases e; simp at hp
  · cases e
theorem upsCs {l : List Nat} {u : UpD} {us : List D → Option (List (Nat × D))} (h1 : UpIn l u) (h2 : UpsIn l us) : UpsIn l (uCs u us) := fun ds r e p hp => by
  unfold uCs at e
  split at e
  · rename_i d ds
    cases e1 : u d with
    | none => rw [e1] at e; cases e
    | some a =>
      rw [e1] at e
      cases e2 : us ds with
      | none => rw [e2] at e; cases e
      | some b =>
        rw [e2] at e
        cases e
        rcases List.mem_append.mp hp with hp | hp
        · exact h1 _ _ e1 p hp
        · exact h2 _ _ e2 p hp
  · cases e
/-- a, b, c = x, y, z of names -/
def sPar3 (i j l : Nat) (mas : MA) : MS := fun δ => ofE (mas δ) δ fun ds S => match ds with
  | [x, y, z] => .nx (((δ.set i (some x)).set j (some y)).set l (some z)) S
  | _ => .bad
end
end Ev
namespace Ev
open PySem PySem.Spec PySem.SeqAt L2 PyProof.Rows
def pick {α : Type} (is : List Nat) (xs : List α) : List α := is.filterMap fun i => xs[i]?
section
variable {P : Program} {w : World} {K : PySem.W.Frag} {mg : Str → Option Value} {base : Heap}
end
section
variable {X : Cx}
end
end Ev
namespace Ev
open PySem PySem.Spec PySem.SeqAt L2 PyProof.Rows PySem.Calls PyProof.V
section
variable {prog : Program} {w : World} {A : Around} {E : Value → Shared → Prop} {s : Shared}
end
section
variable {X : Cx} {Wx : WX} {a b e : Expr} {ma mb : ME} {pos p : Pos}
section
variable (neg : Bool) {p1 p2 : Pos} (hm : X.mg "range" = none) (ha : SE X Wx a ma) (hb : SE X Wx b mb) (hg : Gl X "range" := by rfl) (hs : starEach [b] X.env = (false, eval b X.env) :: starEach [] X.env := by rfl) (hpl : (backTo p2 (starEach [] X.env)).any (·.1) = false := by rfl)
    (hk : behindInMarks (if neg then .NotIn else .In) (.Call (.Name "range" p1) [b] [] p2) = false := by rfl)
include hm ha hb hg hs hpl hk
end
end
end Ev
namespace Bd
open PySem L2 Ev
def strT (cal : Nat → List D → M D) (c : Str) : Option (List D → M D) := if c = "Table" then some (cal 6) else none
def ok_width (c : Str) : Bool := c == "Table"
def ok_height (c : Str) : Bool := c == "Table"
def ok_rows (c : Str) : Bool := c == "Table"
def ok_text (c : Str) : Bool := c == "Table"
def isi : List (Ty × Ty × Bool) := [(.blt "NoneType", .blt "str", false), (.blt "NoneType", .blt "tuple", false), (.blt "NoneType", .blt "int", false), (.blt "NoneType", .blt "list", false), (.blt "NoneType", .blt "bool", false), (.blt "bool", .blt "str", false), (.blt "bool", .blt "tuple", false), (.blt "bool", .blt "int", true), (.blt "bool", .blt "list", false), (.blt "bool", .blt "bool", true), (.blt "int", .blt "str", false), (.blt "int", .blt "tuple", false), (.blt "int", .blt "int", true), (.blt "int", .blt "list", false), (.blt "int", .blt "bool", false), (.blt "str", .blt "str", true), (.blt "str", .blt "tuple", false), (.blt "str", .blt "int", false), (.blt "str", .blt "list", false), (.blt "str", .blt "bool", false), (.blt "tuple", .blt "str", false), (.blt "tuple", .blt "tuple", true), (.blt "tuple", .blt "int", false), (.blt "tuple", .blt "list", false), (.blt "tuple", .blt "bool", false), (.blt "list", .blt "str", false), (.blt "list", .blt "tuple", false), (.blt "list", .blt "int", false), (.blt "list", .blt "list", true), (.blt "list", .blt "bool", false), (.blt "dict", .blt "str", false), (.blt "dict", .blt "tuple", false), (.blt "dict", .blt "int", false), (.blt "dict", .blt "list", false), (.blt "dict", .blt "bool", false), (.blt "NoneType", .own "Table", false), (.blt "bool", .own "Table", false), (.blt "int", .own "Table", false), (.blt "str", .own "Table", false), (.blt "tuple", .own "Table", false), (.blt "list", .own "Table", false), (.blt "dict", .own "Table", false), (.own "Table", .blt "str", false), (.own "Table", .blt "tuple", false), (.own "Table", .blt "int", false), (.own "Table", .blt "list", false), (.own "Table", .blt "bool", false), (.own "Table", .own "Table", true)]
def b_Table (cal : Nat → List D → M D) : MI :=
    (iOrd (sAsg (eCal (cal 7) (aCons (eVar 1) aNil)) (gNm 2))
    (iOrd (sIf (fun δ => asB (eOp pIs (eVar 2) (eC .non) δ)) (fun _ _ => .bad) sNext)
    (iSets (eTup (aCons (eVar 1) (aCons (eVar 2) aNil))) ["text", "rows"]
    (iSets (eTup (aCons (eCallV (pLen) (aCons (eVar 2) aNil)) (aCons (eCallV (pLen) (aCons (eOp pIx (eVar 2) (eC (.int 0))) aNil)) aNil))) ["height", "width"]
    iEnd))))
def b__law_text (cal : Nat → List D → M D) : MS :=
    (sRet (eMB "str" pJoin (eC (.str "\n")) (aCons (eLc newL (iAny (eVar 0)) (uNm 2) tYesM (eMB "str" pJoin (eC (.str "")) (aCons (eLc newL (iAny (eVar 2)) (uNm 1) tYesM (eCallV (pStrI (strT cal)) (aCons (eVar 1) aNil)) [1]) aNil)) [2]) aNil)))
def b__law_rows (cal : Nat → List D → M D) : MS :=
    (sSeq (sAsg (eOp pAdd (eC (.int 1)) (eCal (cal 3) (aCons (eVar 0) (aCons (eC (.int 3)) aNil)))) (gNm 3))
    (sSeq (sAsg (eLc newL (iR1 (aCons (eVar 1) aNil)) (uNm 6) tYesM (eLc newL (iR1 (aCons (eVar 2) aNil)) (uNm 5) tYesM (eCallV pInt (aCons (eOp pLt (eCal (cal 3) (aCons (eVar 0) (aCons (eC (.int 4)) aNil))) (eVar 3)) aNil)) [5]) [6]) (gNm 4))
    (sRet (eCal (cal 8) (aCons (eVar 0) (aCons (eVar 4) aNil))))))
def b__law_take (cal : Nat → List D → M D) : MS :=
    (sSeq (sIf (fun δ => asB (eOp pGt (eOp pIx (eVar 0) (eC (.int 0))) (eC (.int 0)) δ)) (sSeq (sAsg (eCallV (pDivmod) (aCons (eOp pIx (eVar 0) (eC (.int 0))) (aCons (eVar 1) aNil))) (gTp 2 (gCs (gSb pStore (eVar 0) (eC (.int 0))) (gCs (gNm 2) gNl))))
    (sRet (eVar 2))) sNext)
    (sSeq (sAsg (eOp pAdd (eOp pIx (eVar 0) (eC (.int 2))) (eC (.int 1))) (gSb pStore (eVar 0) (eC (.int 2))))
    (sSeq (sAsg (eOp pMod (eCallV pInt (aCons (eOp pAdd (eOp pAdd (eOp pMul (eOp pIx (eVar 0) (eC (.int 1))) (eOp pAdd (eOp pMod (eCallV pInt (aCons (eOp pFdiv (eOp pIx (eVar 0) (eC (.int 1))) (eC (.int 64))) aNil)) (eC (.int 26003))) (eC (.int 23)))) (eOp pMul (eC (.int 18013)) (eOp pIx (eVar 0) (eC (.int 2))))) (eC (.int 11))) aNil)) (eC (.int 2147483323))) (gSb pStore (eVar 0) (eC (.int 1))))
    (sRet (eOp pMod (eCallV pInt (aCons (eOp pFdiv (eOp pIx (eVar 0) (eC (.int 1))) (eC (.int 1024))) aNil)) (eVar 1))))))
def b__law_tray (cal : Nat → List D → M D) : MS :=
    (sSeq (sPar2 2 3 (aCons (eIf (fun δ => asB (eOp pLt (eVar 1) (eCallV (pLen) (aCons (eVar 0) aNil)) δ)) (eOp pIx (eVar 0) (eVar 1)) (eC (.int 0))) (aCons (eOp pAdd (eC (.int 173205)) (eOp pMul (eC (.int 80021)) (eVar 1))) aNil)))
    (sSeq (sFor (iR1 (aCons (eCallV (pMin) (aCons (eCallV (pLen) (aCons (eVar 0) aNil)) (aCons (eC (.int 9)) aNil))) aNil)) (gNm 4) (sAsg (eOp pMod (eCallV pInt (aCons (eOp pAdd (eOp pAdd (eOp pMul (eVar 3) (eOp pAdd (eC (.int 30011)) (eOp pMul (eC (.int 2)) (eVar 4)))) (eOp pMul (eC (.int 13)) (eOp pIx (eVar 0) (eVar 4)))) (eC (.int 8009))) aNil)) (eC (.int 2147483323))) (gNm 3)))
    (sRet (eLstC (aCons (eIf (tOrM (fun δ => asB (eOp pLt (eVar 2) (eC (.int 0)) δ)) (fun δ => asB (eOp pGe (eVar 2) (eOp pPow (eC (.int 10)) (eC (.int 18))) δ))) (eCallV (pAbs) (aCons (eVar 2) aNil)) (eC (.int 0))) (aCons (eOp pMod (eCallV pInt (aCons (eOp pAdd (eOp pMul (eVar 3) (eC (.int 5))) (eOp pMul (eVar 2) (eC (.int 6007)))) aNil)) (eC (.int 2147483323))) (aCons (eC (.int 3)) aNil)))))))
def b_Table___str__ (cal : Nat → List D → M D) : MS :=
    (sRet (eCallV (pStrI (strT cal)) (aCons (eFld ok_text "text" (eVar 0)) aNil)))
def b_read_rows (cal : Nat → List D → M D) : MS :=
    (sSeq (sIf (tNotM (fun δ => tru ((eIsi (isiT isi) (.blt "str") (eVar 0)) δ))) (sRet (eC .non)) sNext)
    (sSeq (sAsg (eMB "str" pSplit (eVar 0) (aCons (eC (.str "\n")) aNil)) (gNm 1))
    (sSeq (sIf (tOrM (fun δ => asB (eOp pGt (eCallV (pLen) (aCons (eVar 1) aNil)) (eC (.int 8)) δ)) (tNotM (fun δ => asB ((eChain pLe pLe (eC (.int 1)) (eCallV (pLen) (aCons (eOp pIx (eVar 1) (eC (.int 0))) aNil)) (eC (.int 8))) δ)))) (sRet (eC .non)) sNext)
    (sSeq (sIf (tNotM (fun δ => tru ((eCallV (pAll true) (aCons (eLc newL (iAny (eVar 1)) (uNm 3) tYesM (eAnd (eOp pEq (eCallV (pLen) (aCons (eVar 3) aNil)) (eCallV (pLen) (aCons (eOp pIx (eVar 1) (eC (.int 0))) aNil))) (eCallV (pAll true) (aCons (eLc newL (iAny (eVar 3)) (uNm 2) tYesM (eOp pIn (eVar 2) (eC (.str "01"))) [2]) aNil))) [3]) aNil)) δ))) (sRet (eC .non)) sNext)
    (sSeq (sAsg (eCallV pTuple (aCons (eLc newL (iAny (eVar 1)) (uNm 3) tYesM (eCallV pTuple (aCons (eLc newL (iAny (eVar 3)) (uNm 2) tYesM (eCallV pInt (aCons (eVar 2) aNil)) [2]) aNil)) [3]) aNil)) (gNm 4))
    (sRet (eIf (fun δ => tru ((eCal (cal 9) (aCons (eVar 4) aNil)) δ)) (eVar 4) (eC .non))))))))
def b_is_full (cal : Nat → List D → M D) : MS :=
    (sRet (eAnd (eOp pGt (eCallV (pLen) (aCons (eVar 0) aNil)) (eC (.int 0))) (eAnd (eCallV (pAll true) (aCons (eLc newL (iAny (eVar 0)) (uNm 1) tYesM (eOp pIn (eC (.int 1)) (eVar 1)) [1]) aNil)) (eCallV (pAll true) (aCons (eLc newL (iZip (aStar (eVar 0) aNil)) (uNm 2) tYesM (eOp pIn (eC (.int 1)) (eVar 2)) [2]) aNil)))))
end Bd
namespace Xm
open PySem PySem.Spec PySem.Calls PyProof.Rows L2 Ev
open Builtin Builtin.ObjectAttr
/-- own classes, then the tail -/
def refsT (t : List Value) : List Value → Bool
  | .ref _ :: r => refsT t r
  | l => l == t
theorem refsT_cases (t : List Value) : ∀ l : List Value, refsT t l = true → (∃ c r, l = .ref c :: r ∧ refsT t r = true) ∨ l = t := by
  intro l e
  cases l with
  | nil => exact .inr (beq_iff_eq.mp e)
  | cons a r =>
    cases a with
    | ref c => exact .inl ⟨c, r, rfl, e⟩
    | _ => exact .inr (beq_iff_eq.mp e)
/-- what is asked of the built-in class B, whose mro is t -/
structure BaseX (B newId initId : String) (t : List Value) : Prop where
  base : ExcBaseFacts B newId initId t
  obj : t.contains (.type "object") = true
  ne : t.isEmpty = false
  pass : ∀ self : Value, refuseLoop self "__setattr__" t = pure ()
section
variable {t : List Value}
theorem refsT_has (X : String) : ∀ l : List Value, refsT t l = true → l.contains (.type X) = t.contains (.type X) := by
  intro l
  induction l with
  | nil =>
    intro e
    rcases refsT_cases t [] e with ⟨c, r, q, _⟩ | q
    · cases q
    · rw [q]
  | cons a r ih =>
    intro e
    rcases refsT_cases t (a :: r) e with ⟨c, r', q, h⟩ | q
    · obtain ⟨rfl, rfl⟩ := List.cons.inj q
      rw [List.contains_cons, ih h]; rfl
    · rw [q]
theorem refsT_pass (hp : ∀ self : Value, refuseLoop self "__setattr__" t = pure ()) (self : Value) : ∀ l : List Value, refsT t l = true → refuseLoop self "__setattr__" l = pure () := by
  intro l
  induction l with
  | nil =>
    intro e
    rcases refsT_cases t [] e with ⟨c, r, q, _⟩ | q
    · cases q
    · rw [q]; exact hp self
  | cons a r ih =>
    intro e
    rcases refsT_cases t (a :: r) e with ⟨c, r', q, h⟩ | q
    · obtain ⟨rfl, rfl⟩ := List.cons.inj q
      rw [refuseLoop_ref]; exact ih h
    · rw [q]; exact hp self
end
section
variable {prog : Program} {w : World} {A : Around} {E : Value → Shared → Prop} {R : Result → Shared → Prop} {hp : Heap} {g : Array GenState} {d : Drawn} {tk0 : Nat} {os : OsState}
end
/-- what the written part says of an exception class -/
structure OexG (K : PySem.W.Frag) (C : Addr) (newId : String) (t : List Value) : Prop where
  cls : ∃ nm q N bs bm sn sub ab col dd k0 k1 k2 k3 k5, K.lookup C = some (excClassObj nm q C N bs bm true sn sub ab col dd k0 k1 k2 k3 k5 newId) ∧ refsT t bm = true
  sa : PySem.W.findIn K (.ref C) "__setattr__" = some (some (.builtin "object.__setattr__"))
  exC : PySem.W.subIn K (.ref C) (.type "BaseException") = some true
  tyC : PySem.W.typeIn K (.ref C) = some (.type "type")
  kC : PySem.W.keepIn K (.ref C) = true
section
variable {X : Cx} {pins : List (Addr × Obj)} {σ : L2.St} {H : Hp} {s : Shared} {a C dx : Addr} {f : Str} {y : V} {u : Value} {fs : List (Str × V)} {Q : Unit → Shared → Prop} {E : Value → Shared → Prop} {A : Around} {B newId initId : String} {t : List Value}
/-- what setting an attribute needs -/
theorem OexG.more (T : OexG X.K C newId t) (BX : BaseX B newId initId t) : ∃ cd, PySem.W.clsIn X.K C = some cd ∧ cd.mro.isEmpty = false ∧ cd.mro.contains (.type "object") = true ∧ (∀ self : Value, refuseLoop self "__setattr__" cd.mro = pure ()) ∧ cd.hasDict = true := by
  obtain ⟨nm, q, N, bs, bm, sn, sub, ab, col, dd, k0, k1, k2, k3, k5, hC, hbm⟩ := T.cls
  refine ⟨_, by unfold PySem.W.clsIn; rw [hC] <;> rfl, rfl, ?_, fun self => ?_, rfl⟩
  · show (Value.ref C :: bm).contains (.type "object") = true
    rw [List.contains_cons, refsT_has "object" bm hbm, BX.obj, Bool.or_true]
  · show refuseLoop self "__setattr__" (Value.ref C :: bm) = pure ()
    rw [refuseLoop_ref]
    exact refsT_pass BX.pass self bm hbm
end
section
variable {P : Program} {w : World} {K : PySem.W.Frag} {mg : Str → Option Value} {base : Heap} {k : Nat} {fI C : Addr} {qual p0 p1 p2 f1 f2 : Str} {params : Arguments} {scope : Scope} {fd : FuncData} {B newId initId : String} {t : List Value}
end
section
variable {X : Cx} {e : Expr} {es : List Expr} {ta : TA} {p pos : Pos} {x : Str} {C fI : Addr} {k : Nat} {fd : FuncData} {ps : List Str} {fl : List Str} {B newId initId : String} {t : List Value}
end
section
variable {X : Cx} {Wx : WX} {e : Expr} {es : List Expr} {mas : MA} {pos : Pos}
theorem zip_snd : ∀ (fl : List Str) {α : Type} (vs : List α), vs.length = fl.length → (fl.zip vs).map (·.2) = vs
  | [], _, [], _ => rfl
  | f :: fl, _, v :: vs, h => by simp only [List.zip_cons_cons, List.map_cons, zip_snd fl vs (by simpa using h)]
end
end Xm
namespace Xm
open PySem PySem.Spec PySem.Calls PyProof.Rows L2 Ev
/-- the clause's expression names the classes cs -/
inductive TestX (X : Cx) : Expr → List Value → Prop
  | one {x : Str} {c : Value} {np : Pos} (h : Names X x c) : TestX X (.Name x np) [c]
  | three {x1 x2 x3 : Str} {c1 c2 c3 : Value} {p1 p2 p3 tp : Pos} {k : Nat} (h1 : Names X x1 c1) (h2 : Names X x2 c2) (h3 : Names X x3 c3) : TestX X (.Tuple [.Name x1 p1, .Name x2 p2, .Name x3 p3] k tp) [c1, c2, c3]
abbrev ClX := List Value × Option Nat × (Addr → Value → Option Addr → TS)
inductive HdX (X : Cx) : List ExceptHandler → List ClX → Prop
  | nil : HdX X [] []
  | plain {te : Expr} {cs : List Value} {ts : Addr → Value → Option Addr → TS} {b0 : Stmt} {suite : List Stmt} {pos' : Pos} {hds : List ExceptHandler} {l : List ClX} (hc : TestX X te cs)
      (hsu : ∀ (a : Addr) (oe : Obj) (cls : Value) (d : Option Addr) (pn : List (Addr × Obj)), L2N.Zn cls d oe → (∃ vs, oe.data = .fields vs) → PSs (X.suite a ((a, oe) :: pn)) (b0 :: suite) (ts a cls d)) (r : HdX X hds l) :
      HdX X (.ExceptHandler (some te) none (b0 :: suite) pos' :: hds) ((cs, none, ts) :: l)
  | named {te : Expr} {cs : List Value} {i : Nat} {n : Str} {ts : Addr → Value → Option Addr → TS} {b0 : Stmt} {suite : List Stmt} {pos' : Pos} {hds : List ExceptHandler} {l : List ClX} (hc : TestX X te cs) (hi : X.N[i]? = some n) (hln : X.env.kindOf n = some .local)
      (hsu : ∀ (a : Addr) (oe : Obj) (cls : Value) (d : Option Addr) (pn : List (Addr × Obj)), L2N.Zn cls d oe → (∃ vs, oe.data = .fields vs) → PSs (X.suite a ((a, oe) :: pn)) (b0 :: suite) (ts a cls d)) (r : HdX X hds l) :
      HdX X (.ExceptHandler (some te) (some n) (b0 :: suite) pos' :: hds) ((cs, some i, ts) :: l)
section
variable {X : Cx} {body : List Stmt} {h0 : ExceptHandler} {hds : List ExceptHandler} {l : List ClX} {pos : Pos} {tb : WX → TS} {Wout : WX}
end
/-- which class an except clause takes -/
abbrev ExT := Str → Str → Option Bool
structure Cl where
  cls : List Str
  slot : Option Nat
  suite : Addr → Option Addr → Xc → MS
/-- a suite runs where its exception is handled; none leaves it -/
def SuiteOk (X : Cx) (b0 : Stmt) (suite : List Stmt) (m : Addr → Option Addr → Xc → MS) : Prop :=
  ∀ (a : Addr) (oe : Obj) (d : Option Addr) (pn : List (Addr × Obj)) (x : Xc), L2N.Zn (.ref (He.ga X.K x.cls)) d oe → (∃ vs, oe.data = .fields vs) → SB (X.suite a ((a, oe) :: pn)) (fun _ _ _ _ => False) (b0 :: suite) (m a d x)
inductive HdE (X : Cx) : List ExceptHandler → List Cl → Prop
  | nil : HdE X [] []
  | plain {te : Expr} {cs : List Str} {m : Addr → Option Addr → Xc → MS} {b0 : Stmt} {suite : List Stmt} {pos' : Pos} {hds : List ExceptHandler} {l : List Cl} (hc : TestX X te (cs.map fun x => .ref (He.ga X.K x))) (hsu : SuiteOk X b0 suite m) (r : HdE X hds l) :
      HdE X (.ExceptHandler (some te) none (b0 :: suite) pos' :: hds) (⟨cs, none, m⟩ :: l)
  | named {te : Expr} {cs : List Str} {i : Nat} {n : Str} {m : Addr → Option Addr → Xc → MS} {b0 : Stmt} {suite : List Stmt} {pos' : Pos} {hds : List ExceptHandler} {l : List Cl} (hc : TestX X te (cs.map fun x => .ref (He.ga X.K x))) (hi : X.N[i]? = some n) (hln : X.env.kindOf n = some .local) (hsu : SuiteOk X b0 suite m) (r : HdE X hds l) :
      HdE X (.ExceptHandler (some te) (some n) (b0 :: suite) pos' :: hds) (⟨cs, some i, m⟩ :: l)
section
variable {X : Cx} {Wx : WX} {body : List Stmt} {h0 : ExceptHandler} {hds : List ExceptHandler} {cl : List Cl} {pos : Pos} {mb : MS} {t : ExT}
end
end Xm
namespace Xm
open PySem PySem.Spec PySem.Calls PyProof.Rows L2 Ev
open LamX (TabB CodeO LamS lamEnv inv_table among_app codeO_ne)
section
variable {X : Cx} {pins : List (Addr × Obj)} {σ : L2.St} {H : Hp} {s : Shared}
end
/-- the lambda that stands at f is called where slot 0 holds it -/
noncomputable def eAct (act : M D) (f c : Addr) (q : Str) (vs : List V) (ds : List D) : ME := fun δ S => open Classical in if δ[0]? = some (some (Ev.D.lam f c q vs ds)) then act S else .bad
/-- what a def may lean on that got a lambda -/
def LamCall (Z : Cx) (a : Str) (f c : Addr) (q : Str) (vs : List V) (ds : List D) (act : M D) : Prop :=
  ∀ (W : WX) (pn : List (Addr × Obj)) (xe : Value → Shared → Prop) (p1 p2 : Pos), L2N.Takes (Z.tr pn xe) W → SE (Z.tr pn xe) W (.Call (.Name a p1) [] [] p2) (eAct act f c q vs ds)
section
variable {X : Cx} {pins : List (Addr × Obj)} {σ : L2.St} {H : Hp} {s : Shared}
end
def isSlf : Option Ev.D → Bool
  | some .slf => true
  | _ => false
/-- what the def that gets a lambda does -/
structure AskG (P : Program) (w : World) (K : PySem.W.Frag) (mg : Str → Option Value) (base : Heap) (k : Nat) (g : Addr) (y : Str) (nN : Nat) (b : (ME → MS)) : Prop where
  ex : ∃ (params : Arguments) (body : List Stmt) (scope : Scope) (fd : FuncData) (N : List Str) (a : Str), N.length = nN ∧ FunD K y y params body scope [] [] g fd ∧ FnScope N [a] scope ∧ N[0]? = some a ∧ Vis scope a ∧ (a == ("__debug__" : Str)) = false ∧ (a == ("__classdict__" : Str)) = false ∧ BindK K fd [a] [] ∧
    ∀ (cdv : Value) (A : Around) (outer : List Env) (s : Shared) (H : Hp) (E : XK) (f c : Addr) (q : Str) (vs : List V) (ds : List Ev.D) (act : M Ev.D), A.guards = some [] → Room k (A.deeper (envOfC y scope s.heap.objs.size g cdv)) →
      LamCall (cxOf (L2N.CX P w) P w K mg base N y scope g cdv A outer s H E) a f c q vs ds act → SB (cxOf (L2N.CX P w) P w K mg base N y scope g cdv A outer s H E) (fun cls d _ H' => E cls d H') body (b (eAct act f c q vs ds))
section
variable {X : Cx} {Wx : WX}
end
end Xm
namespace Xm
open PySem PySem.Spec PySem.Calls PyProof.Rows L2 Ev
/-- the exception at a, with the dict d, is handled, and pinned -/
structure HotE (X : Cx) (a : Addr) (d : Option Addr) (c : Str) : Prop where
  hd : X.A.handled = some (.ref a)
  ex : ∃ oe, (a, oe) ∈ X.pn ∧ L2N.Zn (.ref (He.ga X.K c)) d oe ∧ ∃ vs, oe.data = .fields vs
/-- what must be known of an exception class -/
structure XcC (K : PySem.W.Frag) (c : Str) : Prop where
  xf : XfC K (He.ga K c)
  cl : (PySem.W.clsIn K (He.ga K c)).isSome = true
  ha : PySem.W.findIn K (.ref (He.ga K c)) "__class__" = some (some (.builtin "object.__class__"))
  hn : PySem.W.specialIn K (.builtin "object.__class__") "__get__" = some (some (.builtin "getset_descriptor.__get__"))
  ht : PySem.W.takesIn K (.builtin "object.__class__") = some true
  hm : PySem.W.mroIn K (He.ga K c) (.type "object") = some true
section
variable {X : Cx} {pins : List (Addr × Obj)} {σ : L2.St} {H : Hp} {s : Shared} {a : Addr} {d : Option Addr} {c : Str} {fs : List (Str × Ev.D)} {W : Wd} {S : Store}
end
section
variable {X : Cx} {Wx : WX} {o e : Expr} {mo : ME} {pos p p1 p2 : Pos} {a : Addr} {d : Option Addr} {c : Str}
end
/-- what a def does that is called with the exception that is handled -/
structure FnX (P : Program) (w : World) (K : PySem.W.Frag) (mg : Str → Option Value) (base : Heap) (k : Nat) (f : Addr) (m : Addr → Option Addr → Xc → M Ev.D) : Prop where
  run : ∀ (A : Around) (outer : List Env) (s : Shared) (H : Hp) (a : Addr) (oe : Obj) (d : Option Addr) (x : Xc) (Q : VK), A.guards = some [] → L2H.RoomH k A → A.handled = some (.ref a) → L2H.PinOk outer H s (a, oe) → L2N.Zn (.ref (He.ga K x.cls)) d oe → (∃ vs, oe.data = .fields vs) →
    Env0 P w K mg base A outer s H → (∃ W S, Good K W S H ∧ Rep K W (.exn a d x.cls x.fs) (.ref a) ∧ okP K (Rep K) W (m a d x S) [] (fun _ _ _ _ => False) Q) → codeAny (model P w) A (.call (.ref f) ⟨[.ref a], []⟩) (CR (L2N.CX P w) outer P w H s Q (fun _ _ _ => False)) s
section
variable {X : Cx} {Wx : WX} {o e : Expr} {mo : ME} {pos p : Pos} {a : Addr} {d : Option Addr} {c : Str}
end
end Xm
namespace Xm
open PySem PySem.Spec PySem.Calls PyProof.Rows L2 Ev
open HotX (HotAt raiseNew_hot)
section
variable {prog : Program} {w : World} {A : Around} {E : Value → Shared → Prop} {s : Shared}
end
/-- the exception at a is handled; its context is None -/
structure Hot2 (X : Cx) (a : Addr) : Prop where
  hd : X.A.handled = some (.ref a)
  pin : ∃ (oe : Obj) (vs : Array Value), (a, oe) ∈ X.pn ∧ oe.data = .fields vs ∧ vs[2]? = some .none
theorem HotE.two {X : Cx} {a : Addr} {d : Option Addr} {c : Str} (h : HotE X a d c) : Hot2 X a := by
  obtain ⟨oe, hp, hz, vs, hd⟩ := h.ex
  exact ⟨h.hd, oe, vs, hp, hd, hz.2.2 vs hd⟩
section
variable {X : Cx} {pins : List (Addr × Obj)} {σ : L2.St} {H : Hp} {s : Shared} {a : Addr}
theorem Hot2.at_ (h : Hot2 X a) (I : Inv X pins σ H s) : HotAt X.A a s.heap := by
  obtain ⟨oe, vs, hp, hd, hc⟩ := h.pin
  exact ⟨h.hd, oe, vs, (I.pin (a, oe) (List.mem_append_left _ hp)).1, hd, hc⟩
end
end Xm
namespace Ev
open PySem PySem.Spec PySem.SeqAt L2 PyProof.Rows PySem.W
section
variable {X : Cx} {Wx : WX} {K : PySem.W.Frag} {pos : Pos}
end
end Ev
namespace Ev
open PySem PySem.Spec PySem.SeqAt L2 PyProof.Rows PySem.W
section
variable {X : Cx}
end
end Ev
namespace Ev
open PySem PySem.Spec PySem.SeqAt PyProof.Rows L2
section
variable {prog : Program} {w : World} {A : Around} {E : Value → Shared → Prop} {s : Shared}
theorem sliceApplied_back {sl : Addr} {vl vu vs : Value} {n : Nat} {Q : Int × Int × Nat → Shared → Prop} (hs : s.heap.IsSliceOf sl vl vu vs) (pl : IsPart vl none) (pu : IsPart vu none) (ps : IsPart vs (some (-1)))
    (h : Q ((n : Int) - 1, -1, n) s) : wpAny (model prog w) A (Builtin.Slice.sliceApplied (.ref sl) (pure (n : Int))) Q E s := by
  obtain ⟨os, hos, hcs, hds⟩ := id hs
  unfold Builtin.Slice.sliceApplied Builtin.Slice.sliceFields
  refine wpAny_bind (wpAny_bind (wpAny_field hos hds (x := vl) rfl (wpAny_bind (wpAny_field hos hds (x := vu) rfl (wpAny_bind (wpAny_field hos hds (x := vs) rfl (wpAny_pure ?_)))))))
  refine wpAny_bind (HT.slicePart_ ps ?_)
  show wpAny _ _ (if ((-1 : Int) == 0) = true then _ else _) _ _ s
  rw [if_neg (by decide)]
  refine wpAny_bind (HT.slicePart_ pl (wpAny_bind (HT.slicePart_ pu (wpAny_bind (wpAny_pure ?_)))))
  have e : Builtin.Slice.sliceAdjust none none (-1) (n : Int) = ((n : Int) - 1, -1) := by
    simp [Builtin.Slice.sliceAdjust]
  have e2 : Builtin.Slice.slicePlaces ((n : Int) - 1) (-1) (-1) = n := by
    unfold Builtin.Slice.slicePlaces
    have h1 : ¬ ((-1 : Int) > 0) := by decide
    simp only [h1, if_false]
    by_cases h2 : (n : Int) - 1 > -1
    · simp only [h2, if_true]
      rw [show (- -1 : Int) = 1 by decide, Int.ediv_one]
      omega
    · simp only [h2, if_false]; omega
  show wpAny _ _ (match Builtin.Slice.sliceAdjust none none (-1) (n : Int) with | (lo, hi) => pure (lo, (-1 : Int), Builtin.Slice.slicePlaces lo hi (-1))) _ _ s
  rw [e]
  show wpAny _ _ (pure ((n : Int) - 1, (-1 : Int), Builtin.Slice.slicePlaces ((n : Int) - 1) (-1) (-1))) _ _ s
  rw [e2]
  exact wpAny_pure h
theorem pick_back (xs : Array Value) : ((List.range xs.size).filterMap fun (m : Nat) => xs[((xs.size : Int) - 1 + (m : Int) * (-1)).toNat]?).toArray = xs.toList.reverse.toArray := by
  have e : (fun (m : Nat) => xs[((xs.size : Int) - 1 + (m : Int) * (-1)).toNat]?) = fun m => xs[xs.size - 1 - m]? := by
    funext m
    have : ((xs.size : Int) - 1 + (m : Int) * (-1)).toNat = xs.size - 1 - m := by omega
    rw [this]
  rw [e]
  have h := PySem.W.krv_range xs.size
  have h2 : (List.range xs.size).filterMap (fun m => xs[xs.size - 1 - m]?) = ((List.range xs.size).map (fun k => xs.size - 1 - k)).filterMap (xs[·]?) := by
    rw [List.filterMap_map]; rfl
  rw [h2, h, List.filterMap_reverse, PySem.W.krv_all]
theorem getItem_tuple_back {t sl : Addr} {items : Array Value} {vl vu vs : Value} {Q : Value → Shared → Prop} (ht : IsTup s.heap t items) (hs : s.heap.IsSliceOf sl vl vu vs) (pl : IsPart vl none) (pu : IsPart vu none) (ps : IsPart vs (some (-1)))
    (h : Q (.ref s.heap.objs.size) { s with heap := s.heap.push { cls := .type "tuple", data := .seq items.toList.reverse.toArray } })
    (hsz : items.size ≤ sizeLine) : wpAny (model prog w) A (getItem (.ref t) (.ref sl)) Q E s := by
  have htake : sizeOk (.seq items.toList.reverse.toArray) := by
    show items.toList.reverse.toArray.size ≤ sizeLine
    simpa using hsz
  obtain ⟨os, hos, hcs, hds⟩ := id hs
  have hTs : s.TypeIs (.ref sl) "slice" := ⟨os, hos, hcs⟩
  unfold getItem
  try with_reducible refine wpAny_holding ?_
  first | refine wpAny_bind (wpAny_pure ?_) | skip
  refine wpAny_bind (wpAny_sequenceKey ht.typeIs (by decide) ?_)
  refine wpAny_bind (wpAny_callSpecial?_slot (name := Str.ofString "__getitem__") ht.typeIs PyProof.Rows.slot_tuple_getitem
    (wpAny_call_entry PyProof.Rows.slot_tuple_getitem ht.typeIs entry_tuple_getitem ?_ (args_tuple_getitem _ _)))
  show wpAny _ _ (Builtin.Tuple.tupleItemsOf (.ref t) >>= _) _ _ s
  refine wpAny_bind (tupleItemsOf_ ht ?_)
  refine wpAny_bind (wpAny_typeOf hTs ?_)
  rw [if_pos (by decide)]
  refine wpAny_bind (sliceApplied_back (n := items.size) hs pl pu ps ?_)
  show wpAny _ _ (if (((items.size : Int) - 1) == 0 && (-1 : Int) == 1 && items.size == items.size) = true then _ else _) _ _ s
  rw [if_neg (by rw [show ((-1 : Int) == 1) = false from by decide]; simp), pick_back]
  first
    | exact wpAny_bind (m := Builtin.Tuple.tupleExact _) (wpAny_newObj_type (wpAny_pure ⟨_, rfl, wpAny_pure h⟩) htake)
    | exact wpAny_bind (m := Builtin.Tuple.tupleExact _) (wpAny_newObj_type (wpAny_bind (wpAny_pure (wpAny_pure ⟨_, rfl, wpAny_pure h⟩))) htake)
    | exact wpAny_bind (wpAny_bind (m := Builtin.Tuple.tupleExact _) (wpAny_newObj_type (wpAny_pure (wpAny_pure ⟨_, rfl, wpAny_pure h⟩)) htake))
    | exact wpAny_bind (wpAny_bind (m := Builtin.Tuple.tupleExact _) (wpAny_newObj_type (wpAny_pure ⟨_, rfl, wpAny_pure h⟩) htake))
end
section
variable {X : Cx} {Wx : WX} {o : Expr} {mo : ME} {pos : Pos}
def tRevT (K : PySem.W.Frag) (te : TE) : TE := fun σ H Q => te σ H fun x H1 => ∃ a xs, x = .ref a ∧ SqT K H1 a xs ∧ ∀ p, H1 p = none → Q (.ref p) (upd H1 p (.tup xs.reverse))
theorem pe_revT {e : Expr} {te : TE} {k : Nat} {p1 p2 p3 pos : Pos} (he : PE X e te) : PE X (.Subscript e (.Slice none none (some (.UnaryOp .USub (.Constant (.int 1) k p1) p2)) p3) pos) (tRevT X.K te) := by
  refine ⟨fun pins s σ H Q I h => ?_⟩
  refine Subscript_ (thn (he.run pins s σ H _ I h) fun v s1 ⟨x, H1, I1, r1, q1⟩ => ?_)
  obtain ⟨a, xs, ex, hx, q⟩ := q1
  subst ex
  cases r1
  have hst : L2.PO X (some (.UnaryOp .USub (.Constant (.int 1) k p1) p2)) (tPart (tUn (rU fun i => .int (-i)) (tC (.int 1)))) := po_some (pe_un un_neg pe_int)
  refine wpAny_Slice (thn (po_none.run pins s1 σ H1 (fun o H2 => o = none ∧ H2 = H1) I1 ⟨rfl, rfl⟩) fun vl s2 ⟨l, H2, I2, pl, el, e2⟩ => ?_)
  subst el e2
  refine thn (po_none.run pins s2 σ H2 (fun o H3 => o = none ∧ H3 = H2) I2 ⟨rfl, rfl⟩) fun vu s3 ⟨u, H3, I3, pu, eu, e3⟩ => ?_
  subst eu e3
  refine thn (hst.run pins s3 σ H3 (fun o H4 => o = some (-1) ∧ H4 = H3) I3 ⟨1, rfl, -1, rfl, rfl, rfl⟩) fun vs s4 ⟨o, H4, I4, ps, eo, e4⟩ => ?_
  subst eo e4
  have I5 : Inv X pins σ H4 { s4 with heap := s4.heap.push { cls := .type "slice", data := .fields #[vl, vu, vs] } } := I4.kept (t' := s4.toks) fun b ob q => Heap.get?_push_of_some _ q
  obtain ⟨its, r, ht, hz⟩ := I5.tuple hx
  have hlen := r.length
  show wpAny (model X.prog X.w) X.A (subscriptTail e (.Slice none none (some (.UnaryOp .USub (.Constant (.int 1) k p1) p2)) p3) (.ref a) (.ref s4.heap.objs.size)) (EP X pins σ Q) X.xe { s4 with heap := s4.heap.push { cls := .type "slice", data := .fields #[vl, vu, vs] } }
  refine tail_any (ops := [.ref a, .ref s4.heap.objs.size]) ht.typeIs (PyProof.Rows.slot_tuple_getitem.lookup) ?_ (by with_unfolding_all rfl)
  refine getItem_tuple_back ht (Heap.IsSliceOf.new _ vl vu vs) pl pu ps ?_ (by rw [List.size_toArray]; omega)
  refine ⟨.ref _, _, I5.laid (t' := s4.toks) (o := .tup xs.reverse) (fun b ob q => Heap.get?_push_of_some _ q) (Nat.le_refl _) ?_, rfl, q _ (I5.hok.fresh (Nat.le_refl _))⟩
  exact ⟨by rw [List.length_reverse]; exact hz, _, r.reverse, IsTup.new _ _⟩
def pRevT : D → PO := fun d S => match d with
  | .tup ds => newT ds.reverse S
  | _ => none
def eRevT (mo : ME) : ME := fun δ => M.bind (mo δ) fun x => lft (pRevT x)
theorem se_revT {k : Nat} {p1 p2 p3 : Pos} (ho : SE X Wx o mo) : SE X Wx (.Subscript o (.Slice none none (some (.UnaryOp .USub (.Constant (.int 1) k p1) p2)) p3) pos) (eRevT mo) :=
  PE.imp (pe_revT ho) fun σ H Q ⟨W, S, δ, g, r, h⟩ => ⟨W, S, δ, g, r, (okP.bind (R := Rep X.K) h).imp fun v H1 ⟨W1, S1, d, l1, g1, r1, p1⟩ => by
    have p2 := p1.lft
    cases r1 with
    | tup q r =>
      exact ⟨_, _, rfl, g1.sqT q, (newT_ok p2 g1 r.reverse).2⟩
    | _ => exact p2.elim⟩
end
end Ev
namespace Ev
open PySem PySem.Spec PySem.SeqAt L2 PyProof.Rows
section
variable {X : Cx} {Wx : WX} {e tg : Expr} {es : List Expr} {mas : MA} {pos p : Pos}
end
end Ev
namespace Ev
open PySem PySem.Spec PySem.SeqAt L2 PyProof.Rows
section
variable {X : Cx}
end
end Ev
namespace Ev
open PySem PySem.Spec PySem.SeqAt L2 PyProof.Rows
section
variable {X : Cx} {Wx : WX} {a b e : Expr} {ma mb : ME} {pos : Pos} {k : Nat}
end
end Ev
namespace Ev
open PySem PySem.Spec PySem.SeqAt L2 PyProof.Rows
section
variable {X : Cx} {Wx : WX} {pos : Pos} {k : Nat}
end
end Ev
namespace Ev
open PySem PySem.Spec PySem.SeqAt L2 PyProof.Rows
section
variable {X : Cx}
end
end Ev
namespace Ev
open PySem PySem.Spec PySem.SeqAt PySem.W L2 PyProof.Rows
section
variable {prog : Program} {w : World} {A : Around} {E : Value → Shared → Prop} {s : Shared}
end
end Ev
namespace EvZ
open PySem PySem.Spec PySem.SeqAt L2 PyProof.Rows
/-- the tuples that have been put to the list -/
structure LzG (rs : List Sr) (lo : Addr) (h : Heap) (as : List Addr) : Prop where
  rise : as.Pairwise (· < ·)
  above : ∀ a ∈ as, lo < a
  pairs : ∀ (j : Nat) (a : Addr), as[j]? = some a → Tp h a (row rs j)
theorem LzG.there {rs : List Sr} {lo : Addr} {h : Heap} {as : List Addr} (g : LzG rs lo h as) {a : Addr} (ha : a ∈ as) : a < h.objs.size := by
  obtain ⟨j, hj⟩ := List.mem_iff_getElem?.mp ha
  exact Heap.lt_size (g.pairs j a hj)
/-- where the iterator stands -/
structure LzSt (rs : List Sr) (z TI TO : Addr) (i : Nat) (h : Heap) : Prop where
  ex : ∃ f0 f1 arr, Zp h z TI TO f0 f1 ∧ (f0 = .none ∨ ∃ T : Addr, f0 = rawInt T) ∧ (f1 = .bool true ∨ f1 = .bool false) ∧ Tp h TO arr ∧ arr.length = rs.length
  ti : Tp h TI (rs.map fun r => .ref r.it)
  it : ∀ r ∈ rs, ItAt h i r
  sq : ∀ r ∈ rs, SqAt h r
structure Low (rs : List Sr) (z TI TO S : Addr) : Prop where
  z : z < S
  ti : TI < S
  to : TO < S
  it : ∀ r ∈ rs, r.it < S
  l : ∀ r ∈ rs, r.l < S
theorem LzSt.at {rs : List Sr} {z TI TO S : Addr} {i : Nat} {h h' : Heap} (L : Low rs z TI TO S) (st : LzSt rs z TI TO i h) (k : ∀ c o, c < S → h.get? c = some o → h'.get? c = some o) : LzSt rs z TI TO i h' := by
  obtain ⟨f0, f1, arr, hz, h0, h1, hT, hl⟩ := st.ex
  exact ⟨⟨f0, f1, arr, k _ _ L.z hz, h0, h1, k _ _ L.to hT, hl⟩, k _ _ L.ti st.ti, fun r hr => (st.it r hr).at fun o e => k _ o (L.it r hr) e, fun r hr => (st.sq r hr).at fun o e => k _ o (L.l r hr) e⟩
section
variable {prog : Program} {w : World} {A : Around} {s : Shared} {R : Result → Shared → Prop} {rs : List Sr} {z TI TO S : Addr} {n : Nat}
end
section
variable {prog : Program} {w : World} {A : Around} {E : Value → Shared → Prop} {s : Shared} {rs : List Sr} {z TI TO : Addr} {n : Nat}
end
def putR : Hp → List Addr → (Nat → List V) → Hp
  | H, [], _ => H
  | H, a :: as, f => putR (upd H a (.tup (f 0))) as (fun i => f (i + 1))
section
variable {X : Cx}
end
end EvZ
namespace Ev
open PySem PySem.Spec PySem.SeqAt L2 PyProof.Rows EvZ
section
variable {K : PySem.W.Frag} {S : Store}
end
section
variable {X : Cx} {Wx : WX} {e tg : Expr} {ma : ME} {pos : Pos} {k : Nat}
end
end Ev
namespace Ev
open PySem PySem.Spec PySem.SeqAt L2 PyProof.Rows
abbrev KvT := List (Str × Int)
def kvGet (kvs : KvT) (z : Str) : Option Int := (kvs.find? fun p => decide (p.1 = z)).map (·.2)
structure KTab (w : World) (K : PySem.W.Frag) (mg : Str → Option Value) (x : Str) (kvs : KvT) : Prop where
  g : mg x = some (.ref (He.ga K x))
  d : ∃ es n, KDict K w (He.ga K x) es n
  v : ∀ z, ∃ r, PySem.W.nsIn K (He.ga K x) z = some r ∧ ((∃ i, kvGet kvs z = some i ∧ ∃ t, r = some (.int i t)) ∨ (kvGet kvs z = none ∧ r = none))
section
variable {X : Cx} {Wx : WX} {e f : Expr} {me mf : ME} {x : Str} {p apos cpos : Pos} {k : Nat} {kvs : KvT}
end
end Ev
namespace Ev
open PySem
end Ev
namespace PySem.SeqAt
open AutoSeq1 (wpAny_loadPart')
open MeetsSeq
theorem int_eq_declines_dict (b : Int) (u : Tok) (l : Addr) (c : Value) (es : Array DictEntry) (n : Nat) (dd : Option Addr) (sl : Array (Option Value)) :
    Meets (Builtin.«int.__eq__» ⟨[.int b u, .ref l], []⟩) (fun _ R s => s.heap.get? l = some { cls := c, dict := dd, data := .dict es n, slots := sl } ∧ R (.ok (.ret .notImplemented)) s) :=
  .of_wp fun prog w A R s h => by obtain ⟨hp, g, d, tk, os⟩ := s; obtain ⟨hl, h⟩ := h; wp_walk using wpAny_loadPart' hl, wpAny_load hl; exact ⟨_, rfl, h⟩
theorem dict_eq_declines_int (l : Addr) (es : Array DictEntry) (n : Nat) (dd : Option Addr) (sl : Array (Option Value)) (b : Int) (u : Tok) :
    Meets (Builtin.«dict.__eq__» ⟨[.ref l, .int b u], []⟩) (fun _ R s => s.heap.get? l = some { cls := .type "dict", dict := dd, data := .dict es n, slots := sl } ∧ R (.ok (.ret .notImplemented)) s) :=
  .of_wp fun prog w A R s h => by obtain ⟨hp, g, d, tk, os⟩ := s; obtain ⟨hl, h⟩ := h; have f1 := F.sub_int_dict; wp_walk using wpAny_loadPart' hl; exact ⟨_, rfl, h⟩
theorem RcAt.int_dict {A : Around} {s : Shared} {l : Addr} {o : Obj} {es : Array DictEntry} {n : Nat} (b : Int) (u : Tok) (ho : s.heap.get? l = some o) (hc : o.cls = .type "dict") (hd : o.data = .dict es n) (hu : A.units < cLine) : RcAt A s (.int b u) (.ref l) false := fun prog w E Q h => by
  obtain ⟨cls, dd, data, sl⟩ := o
  simp only at hc hd
  subst hc hd
  exact rc_eq_decline_or (k := false) (typeIs_int s b u) ⟨_, ho, rfl⟩ (by decide) F.sub_dict_int F.slot_int_eq F.slot_dict_eq_refl
    (fun _ hq => call_meets F.slot_int_eq (typeIs_int s b u) F.entry_int_eq (F.args_int_eq_2 _ _) (int_eq_declines_dict b u l (.type "dict") es n dd sl) ⟨ho, hq⟩)
    (fun _ hq => call_meets F.slot_dict_eq_refl ⟨_, ho, rfl⟩ F.entry_dict_eq (F.args_dict_eq_2 _ _) (dict_eq_declines_int l es n dd sl b u) ⟨ho, hq⟩)
    (fun _ hq => wpAny_of_eq (rfl : isSame (.int b u) (.ref l) = pure false) hq) (.inr hu) h
theorem EqAt.int_dict {A : Around} {s : Shared} {l : Addr} {o : Obj} {es : Array DictEntry} {n : Nat} (b : Int) (u : Tok) (ho : s.heap.get? l = some o) (hc : o.cls = .type "dict") (hd : o.data = .dict es n) (hu : A.units < cLine) : EqAt A s (.int b u) (.ref l) false := fun prog w E Q h => by
  unfold eqBool
  refine wpAny_holding ?_
  refine wpAny_ite_split (fun hab => absurd (eq_of_beq hab) nofun) (fun _ => ?_)
  exact wpAny_bind (RcAt.int_dict b u ho hc hd hu prog w E _ (wpAny_truthy_bool h))
theorem tuple_eq_declines_dict (l : Addr) (items : Array Value) (n : Nat) (dd : Option Addr) (sl : Array (Option Value)) (a : Addr) (es : Array DictEntry) (n2 : Nat) (dd2 : Option Addr) (sl2 : Array (Option Value)) :
    Meets (Builtin.«tuple.__eq__» ⟨[.ref l, .ref a], []⟩) (fun _ R s => s.heap.get? l = some { cls := .type "tuple", dict := dd, data := .seq items n, slots := sl } ∧ s.heap.get? a = some { cls := .type "dict", dict := dd2, data := .dict es n2, slots := sl2 } ∧ R (.ok (.ret .notImplemented)) s) :=
  .of_wp fun prog w A R s h => by obtain ⟨hp, g, d, tk, os⟩ := s; obtain ⟨hl, ha, h⟩ := h; have f1 := F.sub_dict_tuple; wp_walk using wpAny_loadPart' hl, wpAny_loadPart' ha, wpAny_load ha, wpAny_load hl; exact ⟨_, rfl, h⟩
theorem dict_eq_declines_tuple (l : Addr) (items : Array Value) (n : Nat) (dd : Option Addr) (sl : Array (Option Value)) (a : Addr) (es : Array DictEntry) (n2 : Nat) (dd2 : Option Addr) (sl2 : Array (Option Value)) :
    Meets (Builtin.«dict.__eq__» ⟨[.ref a, .ref l], []⟩) (fun _ R s => s.heap.get? l = some { cls := .type "tuple", dict := dd, data := .seq items n, slots := sl } ∧ s.heap.get? a = some { cls := .type "dict", dict := dd2, data := .dict es n2, slots := sl2 } ∧ R (.ok (.ret .notImplemented)) s) :=
  .of_wp fun prog w A R s h => by obtain ⟨hp, g, d, tk, os⟩ := s; obtain ⟨hl, ha, h⟩ := h; have f1 := F.sub_tuple_dict; wp_walk using wpAny_loadPart' hl, wpAny_loadPart' ha, wpAny_load ha, wpAny_load hl; exact ⟨_, rfl, h⟩
end PySem.SeqAt
namespace PySem.SeqAt
open AutoSeq1 (wpAny_loadPart')
open MeetsSeq
theorem RcAt.tuple_dict {A : Around} {s : Shared} {l a : Addr} {o : Obj} {items : Array Value} {es : Array DictEntry} {n : Nat} (hl : s.heap.IsTuple l items) (ho : s.heap.get? a = some o) (hc : o.cls = .type "dict") (hd : o.data = .dict es n) (hu : A.units < cLine) : RcAt A s (.ref l) (.ref a) false := fun prog w E Q h => by
  obtain ⟨⟨cls, dd, data, sl⟩, ho2, hc2, n2, hd2⟩ := id hl
  obtain ⟨cls', dd', data', sl'⟩ := o
  simp only at hc hd hc2 hd2
  subst hc hd hc2 hd2
  have hne : l ≠ a := fun z => by
    subst z
    rw [ho2] at ho
    injection ho with ho
    injection ho with _ _ h3 _
    cases h3
  exact rc_eq_decline_or (k := false) ⟨_, ho2, rfl⟩ ⟨_, ho, rfl⟩ (by decide) F.sub_dict_tuple F.slot_tuple_eq F.slot_dict_eq_refl
    (fun _ hq => call_meets F.slot_tuple_eq ⟨_, ho2, rfl⟩ F.entry_tuple_eq (F.args_tuple_eq_2 _ _) (tuple_eq_declines_dict l items n2 dd sl a es n dd' sl') ⟨ho2, ho, hq⟩)
    (fun _ hq => call_meets F.slot_dict_eq_refl ⟨_, ho, rfl⟩ F.entry_dict_eq (F.args_dict_eq_2 _ _) (dict_eq_declines_tuple l items n2 dd sl a es n dd' sl') ⟨ho2, ho, hq⟩)
    (fun _ hq => wpAny_isSame_ref_other' hne ho2 ho (by simp) hq) (.inr hu) h
theorem EqAt.tuple_dict {A : Around} {s : Shared} {l a : Addr} {o : Obj} {items : Array Value} {es : Array DictEntry} {n : Nat} (hl : s.heap.IsTuple l items) (ho : s.heap.get? a = some o) (hc : o.cls = .type "dict") (hd : o.data = .dict es n) (hu : A.units < cLine) : EqAt A s (.ref l) (.ref a) false := by
  have hne : l ≠ a := fun z => by
    subst z
    obtain ⟨o2, ho2, _, n2, hd2⟩ := hl
    rw [ho2] at ho
    injection ho with ho
    subst ho
    rw [hd2] at hd
    cases hd
  exact EqAt.of_refs hne (RcAt.tuple_dict hl ho hc hd hu)
end PySem.SeqAt
namespace Ev
open PySem PySem.Spec PySem.SeqAt L2 PyProof.Rows
mutual
/-- integers and tuples of such -/
def canI : PyData → Bool
  | .int _ => true
  | .tuple xs => canIs xs
  | _ => false
def canIs : List PyData → Bool
  | [] => true
  | x :: xs => canI x && canIs xs
end
mutual
/-- data, dicts too -/
def canM : PyData → Bool
  | .none | .bool _ | .int _ => true
  | .str x => PyData.strOk x
  | .list xs | .tuple xs => canMs xs
  | .dict _ => true
def canMs : List PyData → Bool
  | [] => true
  | x :: xs => canM x && canMs xs
end
mutual
theorem canI_lay : ∀ d : PyData, canI d = true → d.canLay0 = true
  | .int _, _ => rfl
  | .tuple xs, h => canIs_lay xs h
  | .none, h => nomatch h
  | .bool _, h => nomatch h
  | .str _, h => nomatch h
  | .list _, h => nomatch h
  | .dict _, h => nomatch h
theorem canIs_lay : ∀ xs : List PyData, canIs xs = true → PyData.canLayAll0 xs = true
  | [], _ => rfl
  | x :: xs, h => by
    have h' : canI x = true ∧ canIs xs = true := by simpa [canIs] using h
    simp [PyData.canLayAll0, canI_lay x h'.1, canIs_lay xs h'.2]
end
mutual
theorem eqAt_mix : ∀ (da db : PyData) (A : Around) (s : Shared) (a b : Value) (as bs : List Addr), Reads s.heap a da as → Reads s.heap b db bs → canI da = true → canM db = true →
    A.units + min da.depth db.depth < cLine → EqAt A s a b (PyData.eqv da db)
  | .none, _, _, _, _, _, _, _, _, _, ha, _, _ => nomatch ha
  | .bool _, _, _, _, _, _, _, _, _, _, ha, _, _ => nomatch ha
  | .str _, _, _, _, _, _, _, _, _, _, ha, _, _ => nomatch ha
  | .list _, _, _, _, _, _, _, _, _, _, ha, _, _ => nomatch ha
  | .dict _, _, _, _, _, _, _, _, _, _, ha, _, _ => nomatch ha
  | .int x, _, A, s, _, _, _, _, ra, rb, _, hb, hu => by
    cases ra with
    | int _ t =>
      have hu' : A.units < cLine := by omega
      cases rb with
      | none => exact EqAt.int_none x t
      | bool y => exact EqAt.int_bool x t y
      | int y u => exact EqAt.int_int x t y u
      | str y u => exact EqAt.int_str x t y u
      | list k1 k2 k3 k4 => exact EqAt.int_list x t ⟨_, k1, k2, _, k3⟩ hu'
      | tuple k1 k2 k3 k4 => exact EqAt.int_tuple x t ⟨_, k1, k2, _, k3⟩ hu'
      | dict k1 k2 k3 k4 k5 => exact EqAt.int_dict x t k1 k2 k3 hu'
  | .tuple xs, db, A, s, _, _, _, _, ra, rb, ha, hb, hu => by
    have hu' : A.units < cLine := by omega
    cases ra with
    | @tuple l o vs n _ as₁ h1 h2 h3 h4 =>
      have hl : s.heap.IsTuple l vs := ⟨_, h1, h2, _, h3⟩
      cases rb with
      | none => exact EqAt.tuple_none hl hu'
      | bool y => exact EqAt.tuple_bool y hl hu'
      | int y u => exact EqAt.tuple_int y u hl hu'
      | str y u => exact EqAt.tuple_str y u hl hu'
      | list k1 k2 k3 k4 => exact EqAt.tuple_list hl ⟨_, k1, k2, _, k3⟩ hu'
      | dict k1 k2 k3 k4 k5 => exact EqAt.tuple_dict hl k1 k2 k3 hu'
      | @tuple l' o' vs' n' ys bs₁ k1 k2 k3 k4 =>
        have hl' : s.heap.IsTuple l' vs' := ⟨_, k1, k2, _, k3⟩
        have n1 : vs.size = xs.length := by simpa using ReadsAll.length _ _ _ h4
        have n2 : vs'.size = ys.length := by simpa using ReadsAll.length _ _ _ k4
        show EqAt A s (.ref l) (.ref l') (PyData.eqvAll xs ys)
        by_cases hll : l = l'
        · subst hll
          have e : PyData.tuple xs = PyData.tuple ys := Reads.unique (.tuple xs) (.tuple ys) _ _ _ (canIs_lay xs ha) (.tuple h1 h2 h3 h4) (.tuple k1 k2 k3 k4)
          injection e with e
          subst e
          rw [eqvAll_refl xs (canIs_lay xs ha)]
          exact EqAt.same _
        · rw [← eqvAll_eq xs ys, ← n1, ← n2]
          refine EqAt.of_refs hll (RcAt.tuples hl hl' hu' fun j j1 j2 => ?_)
          have hu2 : A.in1.units + min (PyData.depthAll xs) (PyData.depthAll ys) < cLine := by
            have e1 : (PyData.tuple xs).depth = PyData.depthAll xs + 1 := by simp only [PyData.depth]
            have e2 : (PyData.tuple ys).depth = PyData.depthAll ys + 1 := by simp only [PyData.depth]
            rw [e1, e2] at hu
            show A.units + 1 + _ < cLine
            omega
          have := eqAt_mixAll xs ys A.in1 s vs.toList vs'.toList _ _ h4 k4 ha hb hu2 j (by simpa using j1) (by simpa using j2)
          simpa using this
theorem eqAt_mixAll : ∀ (xs ys : List PyData) (A : Around) (s : Shared) (vs ws : List Value) (as bs : List Addr), ReadsAll s.heap vs xs as → ReadsAll s.heap ws ys bs → canIs xs = true → canMs ys = true →
    A.units + min (PyData.depthAll xs) (PyData.depthAll ys) < cLine → ∀ j (h1 : j < vs.length) (h2 : j < ws.length), EqAt A s vs[j] ws[j] (pairEq xs ys j)
  | [], _, _, _, _, _, _, _, ra, _, _, _, _, j, h1, _ => by cases ra; exact absurd h1 (Nat.not_lt_zero _)
  | _ :: _, [], _, _, _, _, _, _, _, rb, _, _, _, j, _, h2 => by cases rb; exact absurd h2 (Nat.not_lt_zero _)
  | x :: xs, y :: ys, A, s, _, _, _, _, ra, rb, ha, hb, hu, j, h1, h2 => by
    have ha' : canI x = true ∧ canIs xs = true := by simpa [canIs] using ha
    have hb' : canM y = true ∧ canMs ys = true := by simpa [canMs] using hb
    have e1 : x.depth ≤ PyData.depthAll (x :: xs) ∧ PyData.depthAll xs ≤ PyData.depthAll (x :: xs) := by simp only [PyData.depthAll]; omega
    have e2 : y.depth ≤ PyData.depthAll (y :: ys) ∧ PyData.depthAll ys ≤ PyData.depthAll (y :: ys) := by simp only [PyData.depthAll]; omega
    cases ra with
    | cons r rs =>
      cases rb with
      | cons r' rs' =>
        cases j with
        | zero => exact eqAt_mix x y A s _ _ _ _ r r' ha'.1 hb'.1 (by omega)
        | succ j => exact eqAt_mixAll xs ys A s _ _ _ _ rs rs' ha'.2 hb'.2 (by omega) j (Nat.lt_of_succ_lt_succ h1) (Nat.lt_of_succ_lt_succ h2)
end
section
variable {prog : Program} {w : World} {A : Around} {E : Value → Shared → Prop} {s : Shared}
end
mutual
def toPX (S : Store) : D → Option PyData
  | .non => some .none
  | .bl b => some (.bool b)
  | .int i => some (.int i)
  | .str s => some (.str s)
  | .tup xs => (toPXs S xs).map .tuple
  | .lst xs => (toPXs S xs).map .list
  | .ref i => (match S[i]? with
    | some (some (.dT [])) => some (.dict [])
    | _ => none)
  | .ins _ _ => none
  | .fn _ => none
  | .scr _ => none
  | .slf => none
  | .dic _ => none
  | .exn _ _ _ _ => none
  | .lam _ _ _ _ _ => none
def toPXs (S : Store) : List D → Option (List PyData)
  | [] => some []
  | x :: xs => (toPX S x).bind fun a => (toPXs S xs).map fun b => a :: b
end
section
variable {X : Cx} {pins : List (Addr × Obj)} {σ : L2.St} {H : Hp} {s : Shared} {W : Wd} {S : Store}
mutual
theorem reads_ofX (I : Inv X pins σ H s) (g : Good X.K W S H) : ∀ (d : D) (v : V) (u : Value) (p : PyData), toPX S d = some p → Rep X.K W d v → RelV v u → ∃ as, Reads s.heap u p as
  | .non, v, u, p, e, q, r => by cases e; cases q; cases r; exact ⟨_, .none⟩
  | .bl b, v, u, p, e, q, r => by cases e; cases q; cases r; exact ⟨_, .bool b⟩
  | .int i, v, u, p, e, q, r => by cases e; cases q; obtain ⟨t, rfl⟩ := r; exact ⟨_, .int i t⟩
  | .str i, v, u, p, e, q, r => by cases e; cases q; obtain ⟨t, rfl⟩ := r; exact ⟨_, .str i t⟩
  | .tup ds, v, u, p, e, q, r => by
    simp only [toPX] at e
    obtain ⟨ps, e1, rfl⟩ := Option.map_eq_some_iff.mp e
    cases q with
    | tup q r' =>
      cases r
      obtain ⟨its, rv, ⟨o, ho, hc, n, hd⟩, hz⟩ := I.tuple (g.sqT q)
      obtain ⟨as, ra⟩ := readsAll_ofX I g ds _ _ _ e1 r' rv
      exact ⟨as, .tuple ho hc hd (by simpa using ra)⟩
  | .lst ds, v, u, p, e, q, r => by
    simp only [toPX] at e
    obtain ⟨ps, e1, rfl⟩ := Option.map_eq_some_iff.mp e
    cases q with
    | lst q r' =>
      cases r
      obtain ⟨its, rv, ⟨o, n, ho, hc, _, hd⟩, hz⟩ := I.list (SqL.of (K := X.K) (g.sub _ _ q))
      obtain ⟨as, ra⟩ := readsAll_ofX I g ds _ _ _ e1 r' rv
      exact ⟨_, .list ho hc hd (by simpa using ra)⟩
  | .ref i, v, u, p, e, q, r => by
    simp only [toPX] at e
    split at e
    · rename_i es
      cases e
      obtain ⟨a, h1, h2, h3, h4⟩ := g.cell i _ es
      cases q with
      | ref q =>
        rw [h1] at q
        cases q
        obtain rfl : u = Value.ref a := r
        obtain ⟨vk, k1, k2, k3⟩ := h4
        have : vk = [] := by simpa using k2
        subst this
        obtain ⟨_, _, xs, kt, o, es', ep, d1, d2, d3, d4, _⟩ := dt_of I.hok k1
        cases kt
        have : es'.toList = [] := by simpa using d4
        exact ⟨_, .dict (kvs := []) d1 d2.1 d3 (by rw [this]; exact .nil) (by rw [this]; exact .nil)⟩
    · cases e
  | .ins _ _, v, u, p, e, q, r => by cases e
  | .fn _, v, u, p, e, q, r => by cases e
  | .scr _, v, u, p, e, q, r => by cases e
  | .slf, v, u, p, e, q, r => by cases e
  | .dic _, v, u, p, e, q, r => by cases e
  | .exn _ _ _ _, v, u, p, e, q, r => by cases e
  | .lam _ _ _ _ _, v, u, p, e, q, r => by cases e
theorem readsAll_ofX (I : Inv X pins σ H s) (g : Good X.K W S H) : ∀ (ds : List D) (vs : List V) (us : List Value) (ps : List PyData), toPXs S ds = some ps → Reps X.K W ds vs → Vals vs us → ∃ as, ReadsAll s.heap us ps as
  | [], vs, us, ps, e, q, r => by cases e; cases q; cases r; exact ⟨_, .nil⟩
  | d :: ds, vs, us, ps, e, q, r => by
    simp only [toPXs] at e
    obtain ⟨p1, e1, e2⟩ := Option.bind_eq_some_iff.mp e
    obtain ⟨p2, e3, rfl⟩ := Option.map_eq_some_iff.mp e2
    cases q with
    | cons q1 q2 =>
      cases r with
      | cons r1 r2 =>
        obtain ⟨as, ra⟩ := reads_ofX I g d _ _ _ e1 q1 r1
        obtain ⟨bs, rb⟩ := readsAll_ofX I g ds _ _ _ e3 q2 r2
        exact ⟨_, .cons ra rb⟩
end
end
end Ev
namespace Xm
open PySem PySem.Spec PySem.Calls PyProof.Rows L2 Ev
open LamX (TabB LamS lamEnv lamSB lamS_by)
section
variable {X : Cx} {Wx : WX} {a : Addr}
end
/-- where an exception is handled -/
structure CtX (X : Cx) (Wx : WX) (k : Nat) (a : Addr) (d : Option Addr) (c : Str) : Prop where
  hot : HotE X a d c
  gd : X.A.guards = some []
  room : L2H.RoomH k X.A
theorem CtX.hu {X : Cx} {Wx : WX} {k : Nat} {a : Addr} {d : Option Addr} {c : Str} (C : CtX X Wx k a d c) : X.A.units + 64 < cLine := by have := C.room.un; omega
section
variable {X : Cx} {Wx : WX} {o e tg elt iter ce : Expr} {es : List Expr} {mo m me : ME} {mas : MA} {pos p p1 p2 : Pos} {k : Nat} {a : Addr} {d : Option Addr} {c x : Str}
end
structure OexF (K : PySem.W.Frag) (c : Str) (newId : String) (t : List Value) (fl : List Str) : Prop where
  oex : OexG K (He.ga K c) newId t
  ini : PySem.W.findIn K (.ref (He.ga K c)) "__init__" = some (some (.ref (He.ma K (He.ga K c) "__init__")))
  tfn : PySem.W.typeIn K (.ref (He.ma K (He.ga K c) "__init__")) = some (.type "function")
  no : ∀ f ∈ fl, PySem.W.findIn K (.ref (He.ga K c)) f = some none
end Xm
namespace Xm
open PySem PySem.Spec PySem.Calls PyProof.Rows L2 Ev
open LamX (TabB)
def tabsB (lams : List Str) (K : PySem.W.Frag) : Bool := decide (lams.map fun x => (tabK K x).2).Nodup && lams.all fun x => (K.lookup (tabK K x).2).isNone && PySem.W.codeHdIn K (tabK K x).1 (tabK K x).2
def SysAt (h : Heap) : Prop := ∃ o es n, h.get? sysModules = some o ∧ o.data = .dict es n
/-- what the end leans on -/
structure SaysT (fa : List He.Fa) (fn : List He.DefD) (ex : List Ex) (lams : List Str) (K : PySem.W.Frag) (h : Heap) : Prop where
  kin : K.In h
  facts : He.SaysD fa fn K
  more : (ex.all fun f => f K) = true
  tabs : tabsB lams K = true
  empty : ∀ x ∈ lams, h.get? (tabK K x).2 = some (PySem.W.tabObj #[])
  sys : SysAt h
/-- the store at the law's entry: the tables of the defs lams -/
def store0 (lams : List Str) : Store := lams.map fun x => some (.tab x)
section
variable {P : Program} {w : World} {K : PySem.W.Frag} {mg mb : Str → Option Value} {k : Nat} {fa a : Addr} {fd : FuncData} {x : Str} {s1 : Shared} {vs : List Value} {ns : List Int} {m : List Ev.D → M Ev.D} {lams : List Str}
end
end Xm
namespace Xm
open PySem PySem.Spec PySem.Calls PyProof.Rows L2 Ev
/-- what is known of the exception classes: isinstance, attributes, except -/
structure XT where
  kit : List (Str × Ty × Bool)
  fl : List (Str × Str)
  ex : List (Str × Str × Bool)
theorem Ct.mono {X : Cx} {Wx : WX} {k k' : Nat} (C : Ct X Wx k) (h : k' ≤ k) : Ct X Wx k' := ⟨C.calm, C.gd, C.room.mono h, C.tk⟩
end Xm
namespace Xm
open PySem PySem.Spec PySem.Calls PyProof.Rows L2 Ev
def sFrzV (i : Nat) (ms : MS) : MS := fun δ S => match δ[i]? with
  | some (some d) => if isSlf (some d) = true then .bad else (match frzD 4 d S with
    | some (d', S') => ms (δ.set i (some d')) S'
    | none => .bad)
  | _ => .bad
theorem ss_frzV {X : Cx} {Wx : WX} {st : Stmt} {ms : MS} (i : Nat) (h : SS X Wx st ms) : SS X Wx st (sFrzV i ms) :=
  PS.imp h fun E σ H ⟨W, S, δ, g, r, p⟩ => by
    unfold sFrzV at p
    cases e : δ[i]? with
    | none => rw [e] at p; exact p.elim
    | some o =>
      cases o with
      | none => rw [e] at p; exact p.elim
      | some d =>
        rw [e] at p
        dsimp only at p
        split at p
        · exact p.elim
        · rename_i hs
          obtain ⟨v, e1, sl⟩ := r.2 i d e
          rcases sl with q | ⟨rfl, _⟩
          · cases e2 : frzD 4 d S with
            | none => rw [e2] at p; exact p.elim
            | some z =>
              obtain ⟨d', S'⟩ := z
              rw [e2] at p
              dsimp only at p
              obtain ⟨W2, l2, g2, q2⟩ := (frz_ok 4).1 g q e2
              refine ⟨W2, S', δ.set i (some d'), g2, ?_, p.mono l2⟩
              have r2 := (REnv.mono l2 r).set i q2
              have hi := (List.getElem?_eq_some_iff.mp e1).1
              have e3 : σ.set i (some v) = σ := by
                apply List.ext_getElem?
                intro j
                by_cases hj : i = j
                · subst hj; rw [List.getElem?_set_self hi, e1]
                · rw [List.getElem?_set_ne hj]
              rw [e3] at r2
              exact r2
          · exact absurd rfl hs
end Xm
namespace Bd
open PySem L2 Ev Xm
def b_table_from_v2 (cal : Nat → List D → M D) : MS :=
    (sRet (eCal (cal 203) (aCons (eCal (cal 183) (aCons (eVar 0) aNil)) aNil)))
end Bd
namespace Bd
open PySem L2 Ev Xm
end Bd
namespace Bd
open PySem L2 Ev Xm
end Bd
namespace Bd
open PySem L2 Ev
def b_text_with (cal : Nat → List D → M D) : MS :=
    (sRet (eMB "str" pJoin (eC (.str "\n")) (aCons (eLc newL (iAny (eVar 0)) (uNm 2) tYesM (eMB "str" pJoin (eC (.str "")) (aCons (eLc newL (iAny (eVar 2)) (uNm 1) tYesM (eCallV (pStrI (strT cal)) (aCons (eVar 1) aNil)) [1]) aNil)) [2]) aNil)))
end Bd
namespace Ev
open PySem PySem.Spec PySem.SeqAt L2 PyProof.Rows
section
variable {X : Cx} {Wx : WX} {pos : Pos} {c a b : Expr} {tC tA tB : TT}
variable {ta tb tc : MT}
end
end Ev
namespace Ev
open PySem PySem.Spec PySem.SeqAt L2 PyProof.Rows PySem.W
end Ev
namespace Ev
open PySem PySem.Spec PySem.SeqAt L2 PyProof.Rows PySem.W
section
variable {X : Cx} {pins : List (Addr × Obj)} {σ : L2.St} {H : Hp} {s : Shared} {W : Wd} {S : Store}
theorem not_sys (hB : ∃ o, X.base.get? sysModules = some o) (I : Inv X pins σ H s) {a : Addr} {o : HO} (e : H a = some o) : a ≠ sysModules := fun z => by
  subst z
  obtain ⟨o', h⟩ := hB
  have := (I.bs _ o' h).2
  rw [e] at this
  cases this
mutual
theorem reads_ofN (hB : ∃ o, X.base.get? sysModules = some o) (I : Inv X pins σ H s) (g : Good X.K W S H) : ∀ (d : D) (v : V) (u : Value) (p : PyData), toPX S d = some p → Rep X.K W d v → RelV v u → ∃ as, Reads s.heap u p as ∧ sysModules ∉ as
  | .non, v, u, p, e, q, r => by cases e; cases q; cases r; exact ⟨_, .none, List.not_mem_nil⟩
  | .bl b, v, u, p, e, q, r => by cases e; cases q; cases r; exact ⟨_, .bool b, List.not_mem_nil⟩
  | .int i, v, u, p, e, q, r => by cases e; cases q; obtain ⟨t, rfl⟩ := r; exact ⟨_, .int i t, List.not_mem_nil⟩
  | .str i, v, u, p, e, q, r => by cases e; cases q; obtain ⟨t, rfl⟩ := r; exact ⟨_, .str i t, List.not_mem_nil⟩
  | .tup ds, v, u, p, e, q, r => by
    simp only [toPX] at e
    obtain ⟨ps, e1, rfl⟩ := Option.map_eq_some_iff.mp e
    cases q with
    | tup q r' =>
      cases r
      obtain ⟨its, rv, ⟨o, ho, hc, n, hd⟩, hz⟩ := I.tuple (g.sqT q)
      obtain ⟨as, ra, nm⟩ := readsAll_ofN hB I g ds _ _ _ e1 r' rv
      exact ⟨as, .tuple ho hc hd (by simpa using ra), nm⟩
  | .lst ds, v, u, p, e, q, r => by
    simp only [toPX] at e
    obtain ⟨ps, e1, rfl⟩ := Option.map_eq_some_iff.mp e
    cases q with
    | lst q r' =>
      cases r
      obtain ⟨its, rv, ⟨o, n, ho, hc, _, hd⟩, hz⟩ := I.list (SqL.of (K := X.K) (g.sub _ _ q))
      obtain ⟨as, ra, nm⟩ := readsAll_ofN hB I g ds _ _ _ e1 r' rv
      exact ⟨_, .list ho hc hd (by simpa using ra), fun z => (List.mem_cons.mp z).elim (fun z => not_sys hB I (g.sub _ _ q) z.symm) nm⟩
  | .ref i, v, u, p, e, q, r => by
    simp only [toPX] at e
    split at e
    · rename_i es
      cases e
      obtain ⟨a, h1, h2, h3, h4⟩ := g.cell i _ es
      cases q with
      | ref q =>
        rw [h1] at q
        cases q
        obtain rfl : u = Value.ref a := r
        obtain ⟨vk, k1, k2, k3⟩ := h4
        have : vk = [] := by simpa using k2
        subst this
        obtain ⟨_, ns, xs, kt, o, es', ep, d1, d2, d3, d4, _⟩ := dt_of I.hok k1
        cases kt
        have : es'.toList = [] := by simpa using d4
        exact ⟨_, .dict (kvs := []) d1 d2.1 d3 (by rw [this]; exact .nil) (by rw [this]; exact .nil), fun z => by
          have z' : sysModules = a := by simpa using z
          rw [← z'] at ns
          simp at ns⟩
    · cases e
  | .ins _ _, v, u, p, e, q, r => by cases e
  | .fn _, v, u, p, e, q, r => by cases e
  | .scr _, v, u, p, e, q, r => by cases e
  | .slf, v, u, p, e, q, r => by cases e
  | .dic _, v, u, p, e, q, r => by cases e
  | .exn _ _ _ _, v, u, p, e, q, r => by cases e
  | .lam _ _ _ _ _, v, u, p, e, q, r => by cases e
theorem readsAll_ofN (hB : ∃ o, X.base.get? sysModules = some o) (I : Inv X pins σ H s) (g : Good X.K W S H) : ∀ (ds : List D) (vs : List V) (us : List Value) (ps : List PyData), toPXs S ds = some ps → Reps X.K W ds vs → Vals vs us → ∃ as, ReadsAll s.heap us ps as ∧ sysModules ∉ as
  | [], vs, us, ps, e, q, r => by cases e; cases q; cases r; exact ⟨_, .nil, List.not_mem_nil⟩
  | d :: ds, vs, us, ps, e, q, r => by
    simp only [toPXs] at e
    obtain ⟨p1, e1, e2⟩ := Option.bind_eq_some_iff.mp e
    obtain ⟨p2, e3, rfl⟩ := Option.map_eq_some_iff.mp e2
    cases q with
    | cons q1 q2 =>
      cases r with
      | cons r1 r2 =>
        obtain ⟨as, ra, na⟩ := reads_ofN hB I g d _ _ _ e1 q1 r1
        obtain ⟨bs, rb, nb⟩ := readsAll_ofN hB I g ds _ _ _ e3 q2 r2
        exact ⟨_, .cons ra rb, fun z => (List.mem_append.mp z).elim na nb⟩
end

end
end Ev
namespace Ev
open PySem PySem.Spec PySem.SeqAt L2 PyProof.Rows PySem.W
end Ev
namespace Bd
open PySem L2 Ev Xm
end Bd
namespace Bd
open PySem L2 Ev Xm
end Bd
namespace Ev
open PySem PySem.Spec PyProof.Rows L2
section
variable {X : Cx} {Wx : WX}
def uTl (n : Nat) (us : List D → Option (List (Nat × D))) : UpD := fun d => match d with
  | .lst ds => if ds.length = n then us ds else none
  | _ => none
theorem uTul {kk k n : Nat} {es : List Expr} {pos : Pos} {us : List D → Option (List (Nat × D))} (C : Ct X Wx k) (h : PGs X es (tDUs X.K us)) (hn : (assignEach es X.env).length = n := by rfl) (hst : (assignEach es X.env).findIdx? (·.1) = none := by rfl) : PG X (.Tuple es kk pos) (tDU X.K (uTl n us)) :=
  PG.imp (pg_unl C.calm h hn hst) fun v σ H Q ⟨W, S, d, g, r, p⟩ => by
    cases r with
    | @lst a vs ds q1 q2 =>
      simp only [uTl] at p
      by_cases hl : ds.length = n
      · rw [if_pos hl] at p
        exact ⟨a, vs, rfl, g.sqL (.inl (.inl q1)), by rw [← q2.length]; exact hl, W, S, ds, g, q2, p⟩
      · rw [if_neg hl] at p; exact p.elim
    | _ => exact p.elim
theorem upTlG {l : List Nat} {n : Nat} {us : List D → Option (List (Nat × D))} (h : UpsIn l us) : UpIn l (uTl n us) := fun d r e p hp => by
  unfold uTl at e
  split at e
  · split at e
    · exact h _ r e p hp
    · cases e
  · cases e
end
end Ev
namespace Bd
open PySem L2 Ev
def b_law_v42 (cal : Nat → List D → M D) : MS :=
    (sRet (eCallV (pAll true) (aCons (eLc newL (iR1 (aCons (eCallV (pMax) (aCons (eC (.int 2)) (aCons (eCallV (pMin) (aCons (eCallV (pLen) (aCons (eVar 0) aNil)) (aCons (eC (.int 6)) aNil))) aNil))) aNil)) (uNm 1) tYesM (eCal (cal 307) (aCons (eCal (cal 5) (aCons (eVar 0) (aCons (eVar 1) aNil))) aNil)) [1]) aNil)))
def b__law_right_v41 (cal : Nat → List D → M D) : MS :=
    (sSeq (sFor (iR1 (aCons (eC (.int 5)) aNil)) (gNm 1) (sSeq (sAsg (eCal (cal 309) (aCons (eVar 0) (aCons (eOp pAdd (eC (.int 2)) (eCal (cal 3) (aCons (eVar 0) (aCons (eC (.int 7)) aNil)))) aNil))) (gNm 2))
    (sSeq (sAsg (eLstC aNil) (gNm 3))
    (sSeq (sFor (iR1 (aCons (eOp pAdd (eC (.int 1)) (eCal (cal 3) (aCons (eVar 0) (aCons (eC (.int 8)) aNil)))) aNil)) (gNm 4) (sSeq (sAsg (eCal (cal 3) (aCons (eVar 0) (aCons (eCallV (pLen) (aCons (eVar 2) aNil)) aNil))) (gNm 5))
    (sSeq (sAsg (eOp pMod (eCallV pInt (aCons (eOp pAdd (eOp pAdd (eVar 5) (eC (.int 1))) (eCal (cal 3) (aCons (eVar 0) (aCons (eOp pSub (eCallV (pLen) (aCons (eVar 2) aNil)) (eC (.int 1))) aNil)))) aNil)) (eCallV (pLen) (aCons (eVar 2) aNil))) (gNm 6))
    (sExpr (eMB "list" pAppend (eVar 3) (aCons (eTup (aCons (eOp pIx (eVar 2) (eVar 5)) (aCons (eOp pIx (eVar 2) (eVar 6)) aNil))) aNil))))))
    (sSeq (Xm.sFrzV 3 (sAsg (eLst aNil) (gNm 7)))
    (sSeq (sFor (iAny (eVar 3)) (gNm 8) (sAsg (eOp pAdd (eVar 7) (eLc newL (iAny (eVar 8)) (uNm 9) (fun δ => asB (eOp pNotIn (eVar 9) (eVar 7) δ)) (eVar 9) [9])) (gNm 7)))
    (sSeq (sAsg (eCal (cal 2) (aCons (eLc newL (iAny (eVar 3)) (uNm 8) tYesM (eLc newL (iAny (eVar 7)) (uNm 9) tYesM (eCallV pInt (aCons (eOp pIn (eVar 9) (eVar 8)) aNil)) [9]) [8]) aNil)) (gNm 10))
    (sSeq (sAsg (eMB "str" pJoin (eC (.str "\n")) (aCons (eLc newL (iAny (eVar 3)) (uNm 8) tYesM (eOp pAdd (eOp pAdd (eOp pIx (eVar 8) (eC (.int 0))) (eC (.str " "))) (eOp pIx (eVar 8) (eC (.int 1)))) [8]) aNil)) (gNm 11))
    (sSeq (sIf (fun δ => asB (eOp pNe (eLst (aCons (eCallV (pStrI (strT cal)) (aCons (eCal (cal 308) (aCons (eVar 11) aNil)) aNil)) (aCons (eCallV (pStrI (strT cal)) (aCons (eCal (cal 308) (aCons (eVar 11) aNil)) aNil)) aNil))) (eLst (aCons (eVar 10) (aCons (eVar 10) aNil))) δ)) (sRet (eC (.bl false))) sNext)
    (sSeq (sAsg (eLc newL (iAny (eVar 3)) (uNm 8) tYesM (eRevT (eVar 8)) [8]) (gNm 12))
    (sSeq (sAsg (eCal (cal 308) (aCons (eMB "str" pJoin (eC (.str "\n")) (aCons (eLc newL (iAny (eVar 12)) (uNm 8) tYesM (eOp pAdd (eOp pAdd (eOp pIx (eVar 8) (eC (.int 0))) (eC (.str " "))) (eOp pIx (eVar 8) (eC (.int 1)))) [8]) aNil)) aNil)) (gNm 13))
    (sSeq (sAsg (eCallV (pSortD) (aCons (eLc newL (iR1 (aCons (eFld ok_width "width" (eVar 13)) aNil)) (uNm 4) tYesM (eMB "str" pJoin (eC (.str "")) (aCons (eLc newL (iAny (eFld ok_rows "rows" (eVar 13))) (uNm 15) tYesM (eCallV (pStrI (strT cal)) (aCons (eOp pIx (eVar 15) (eVar 4)) aNil)) [15]) aNil)) [4]) aNil)) (gNm 14))
    (sSeq (sAsg (eCal (cal 308) (aCons (eVar 11) aNil)) (gNm 16))
    (sIf (fun δ => asB (eOp pNe (eVar 14) (eCallV (pSortD) (aCons (eLc newL (iR1 (aCons (eFld ok_width "width" (eVar 16)) aNil)) (uNm 4) tYesM (eMB "str" pJoin (eC (.str "")) (aCons (eLc newL (iAny (eFld ok_rows "rows" (eVar 16))) (uNm 15) tYesM (eCallV (pStrI (strT cal)) (aCons (eOp pIx (eVar 15) (eVar 4)) aNil)) [15]) aNil)) [4]) aNil)) δ)) (sRet (eC (.bl false))) sNext))))))))))))))
    (sRet (eC (.bl true))))
def b_of_web_v2 (cal : Nat → List D → M D) : MS :=
    (sSeq (sAsg (eCal (cal 312) (aCons (eVar 0) aNil)) (gNm 1))
    (sSeq (sIf (fun δ => asB (eOp pIs (eVar 1) (eC .non) δ)) (fun _ _ => .bad) sNext)
    (sSeq (sAsg (eLstC aNil) (gNm 2))
    (sSeq (sFor (iAny (eVar 1)) (gNm 3) (sExpr (eMB "list" pExtend (eVar 2) (aCons (eLc newL (iAny (eVar 3)) (uNm 4) (fun δ => asB (eOp pNotIn (eVar 4) (eVar 2) δ)) (eVar 4) [4]) aNil))))
    (sSeq (Xm.sFrzV 2 (sIf (fun δ => asB (eOp pGt (eCallV (pLen) (aCons (eVar 2) aNil)) (eC (.int 8)) δ)) (fun _ _ => .bad) sNext))
    (sRet (eCal (cal 311) (aCons (eCal (cal 310) (aCons (eVar 1) (aCons (eVar 2) aNil))) aNil))))))))
def b__law_words_v2 (cal : Nat → List D → M D) : MS :=
    (sSeq (sAsg (eLstC aNil) (gNm 2))
    (sSeq (sFor (iR1 (aCons (eVar 1) aNil)) (gNm 3) (sSeq (sAsg (eCal (cal 313) (aCons (eVar 0) aNil)) (gNm 4))
    (sSeq (sIf (tAndM (fun δ => asB (eOp pNe (eVar 2) (eLstC aNil) δ)) (fun δ => asB (eOp pEq (eCal (cal 3) (aCons (eVar 0) (aCons (eC (.int 3)) aNil))) (eC (.int 0)) δ))) (sAsg (eCut (eOp pAdd (eOp pIx (eVar 2) (eCal (cal 3) (aCons (eVar 0) (aCons (eCallV (pLen) (aCons (eVar 2) aNil)) aNil)))) (eVar 4)) none (some (eC (.int 8)))) (gNm 4)) sNext)
    (sSeq (sAsg (eOp pAdd (eLst (aCons (eVar 4) aNil)) (eLc newL (iAny (eC (.str "abcdefghijk"))) (uNm 6) tYesM (eOp pAdd (eCut (eVar 4) none (some (eC (.int 7)))) (eVar 6)) [6])) (gNm 5))
    (sExpr (eMB "list" pAppend (eVar 2) (aCons (eOp pIx (eLc newL (iAny (eVar 5)) (uNm 6) (fun δ => asB (eOp pNotIn (eVar 6) (eVar 2) δ)) (eVar 6) [6]) (eC (.int 0))) aNil)))))))
    (sRet (eFrz (eVar 2)))))
def b_table_from_v3 (cal : Nat → List D → M D) : MS :=
    (sRet (eCal (cal 1) (aCons (eCal (cal 183) (aCons (eVar 0) aNil)) aNil)))
def b_rows_with_v2 (cal : Nat → List D → M D) : MS :=
    (sRet (eLc newL (iAny (eVar 0)) (uNm 3) tYesM (eLc newL (iAny (eVar 1)) (uNm 2) tYesM (eCallV pInt (aCons (eOp pIn (eVar 2) (eVar 3)) aNil)) [2]) [3]))
def b_ties_in_v2 (cal : Nat → List D → M D) : MS :=
    (sSeq (sIf (tNotM (fun δ => tru ((eIsi (isiT isi) (.blt "str") (eVar 0)) δ))) (sRet (eC .non)) sNext)
    (sSeq (sAsg (eLc newL (iAny (eMB "str" pSplit (eVar 0) (aCons (eC (.str "\n")) aNil))) (uNm 2) tYesM (eMB "str" pSplit (eVar 2) (aCons (eC (.str " ")) aNil)) [2]) (gNm 1))
    (sSeq (sIf (tOrM (fun δ => asB (eOp pGt (eCallV (pLen) (aCons (eVar 1) aNil)) (eC (.int 8)) δ)) (tNotM (fun δ => tru ((eCallV (pAll true) (aCons (eLc newL (iAny (eVar 1)) (uNm 3) tYesM (eOp pEq (eCallV (pLen) (aCons (eVar 3) aNil)) (eC (.int 2))) [3]) aNil)) δ)))) (sRet (eC .non)) sNext)
    (sRet (eIf (fun δ => tru ((eCallV (pAll true) (aCons (eLc newL (iAny (eVar 1)) (uTl 2 (uCs (uNm 4) (uCs (uNm 5) uNl))) tYesM (eAnd (eCal (cal 314) (aCons (eVar 4) aNil)) (eAnd (eCal (cal 314) (aCons (eVar 5) aNil)) (eOp pNe (eVar 4) (eVar 5)))) [4, 5]) aNil)) δ)) (eVar 1) (eC .non))))))
def b__law_word_v2 (cal : Nat → List D → M D) : MS :=
    (sRet (eMB "str" pJoin (eC (.str "")) (aCons (eLc newL (iR1 (aCons (eOp pAdd (eC (.int 1)) (eCal (cal 3) (aCons (eVar 0) (aCons (eC (.int 8)) aNil)))) aNil)) (uNm 1) tYesM (eOp pIx (eC (.str "abcdefghijklmnopqrstuvwxyz")) (eCal (cal 3) (aCons (eVar 0) (aCons (eC (.int 26)) aNil)))) [1]) aNil)))
def b_is_word_v2 (cal : Nat → List D → M D) : MS :=
    (sRet (eAnd (eIsi (isiT isi) (.blt "str") (eVar 0)) (eAnd (eChain pLe pLe (eC (.int 1)) (eCallV (pLen) (aCons (eVar 0) aNil)) (eC (.int 8))) (eCallV (pAll true) (aCons (eLc newL (iAny (eVar 0)) (uNm 1) tYesM (eOp pIn (eVar 1) (eC (.str "abcdefghijklmnopqrstuvwxyz"))) [1]) aNil)))))
end Bd
namespace Bd
open PySem L2 Ev
end Bd
namespace Lw
open PySem PySem.Spec PySem.SeqAt PyProof.Rows L2 Ev Bd
def top (i : Nat) : Stmt := PySem.Challenge.pw_oddrings_k11_whole_tables_of_webs.main.body.getD i (.Pass ⟨0, 0, 0, 0⟩)
def calF (cal : Nat → List D → M D) (i : Nat) : List D → M D :=
  if i = 315 then funM 2 1 (b_law_v42 cal) else
  if i = 307 then funM 17 1 (b__law_right_v41 cal) else
  if i = 5 then funM 5 2 (b__law_tray cal) else
  if i = 308 then funM 5 1 (b_of_web_v2 cal) else
  if i = 2 then funM 3 1 (b__law_text cal) else
  if i = 3 then funM 3 2 (b__law_take cal) else
  if i = 309 then funM 7 2 (b__law_words_v2 cal) else
  if i = 6 then funM 1 1 (b_Table___str__ cal) else
  if i = 311 then funM 1 1 (b_table_from_v3 cal) else
  if i = 310 then funM 4 2 (b_rows_with_v2 cal) else
  if i = 312 then funM 6 1 (b_ties_in_v2 cal) else
  if i = 313 then funM 2 1 (b__law_word_v2 cal) else
  if i = 1 then (fun ds => M.bind (initM 3 1 (b_Table cal) ds) fun fs => M.pure (.ins "Table" fs)) else
  if i = 183 then funM 3 1 (b_text_with cal) else
  if i = 314 then funM 2 1 (b_is_word_v2 cal) else
  if i = 7 then funM 5 1 (b_read_rows cal) else
  if i = 9 then funM 3 1 (b_is_full cal) else
  fun _ _ => .bad
def callN : Nat → Nat → List D → M D
  | 0 => fun _ _ _ => .bad
  | n + 1 => calF (callN n)
theorem c_law_v42 (n : Nat) : callN (n + 1) 315 = funM 2 1 (b_law_v42 (callN n)) := rfl
theorem c__law_right_v41 (n : Nat) : callN (n + 1) 307 = funM 17 1 (b__law_right_v41 (callN n)) := rfl
theorem c__law_tray (n : Nat) : callN (n + 1) 5 = funM 5 2 (b__law_tray (callN n)) := rfl
theorem c_of_web_v2 (n : Nat) : callN (n + 1) 308 = funM 5 1 (b_of_web_v2 (callN n)) := rfl
theorem c__law_text (n : Nat) : callN (n + 1) 2 = funM 3 1 (b__law_text (callN n)) := rfl
theorem c__law_take (n : Nat) : callN (n + 1) 3 = funM 3 2 (b__law_take (callN n)) := rfl
theorem c__law_words_v2 (n : Nat) : callN (n + 1) 309 = funM 7 2 (b__law_words_v2 (callN n)) := rfl
theorem c_Table___str__ (n : Nat) : callN (n + 1) 6 = funM 1 1 (b_Table___str__ (callN n)) := rfl
theorem c_table_from_v3 (n : Nat) : callN (n + 1) 311 = funM 1 1 (b_table_from_v3 (callN n)) := rfl
theorem c_rows_with_v2 (n : Nat) : callN (n + 1) 310 = funM 4 2 (b_rows_with_v2 (callN n)) := rfl
theorem c_ties_in_v2 (n : Nat) : callN (n + 1) 312 = funM 6 1 (b_ties_in_v2 (callN n)) := rfl
theorem c__law_word_v2 (n : Nat) : callN (n + 1) 313 = funM 2 1 (b__law_word_v2 (callN n)) := rfl
theorem c_Table (n : Nat) : callN (n + 1) 1 = fun ds => M.bind (initM 3 1 (b_Table (callN n)) ds) fun fs => M.pure (.ins "Table" fs) := rfl
theorem c_text_with (n : Nat) : callN (n + 1) 183 = funM 3 1 (b_text_with (callN n)) := rfl
theorem c_is_word_v2 (n : Nat) : callN (n + 1) 314 = funM 2 1 (b_is_word_v2 (callN n)) := rfl
theorem c_read_rows (n : Nat) : callN (n + 1) 7 = funM 5 1 (b_read_rows (callN n)) := rfl
theorem c_is_full (n : Nat) : callN (n + 1) 9 = funM 3 1 (b_is_full (callN n)) := rfl
/-- what the module holds -/
structure Fc (K : PySem.W.Frag) (mg : Str → Option Value) : Prop where
  b_abs : mg "abs" = none
  b_all : mg "all" = none
  b_divmod : mg "divmod" = none
  b_int : mg "int" = none
  b_isinstance : mg "isinstance" = none
  b_len : mg "len" = none
  b_max : mg "max" = none
  b_min : mg "min" = none
  b_range : mg "range" = none
  b_sorted : mg "sorted" = none
  b_str : mg "str" = none
  b_tuple : mg "tuple" = none
  b_zip : mg "zip" = none
  c_LETTERS : ∃ t, mg "LETTERS" = some (.str "abcdefghijklmnopqrstuvwxyz" t)
  c_LONGEST_NAME : ∃ t, mg "LONGEST_NAME" = some (.int 8 t)
  c_MOST_COLUMNS : ∃ t, mg "MOST_COLUMNS" = some (.int 8 t)
  c_MOST_ROWS : ∃ t, mg "MOST_ROWS" = some (.int 8 t)
  g_law : mg "law" = some (.ref (He.ga K "law"))
  k_law : PySem.W.keepIn K (.ref (He.ga K "law")) = true
  g__law_right : mg "_law_right" = some (.ref (He.ga K "_law_right"))
  k__law_right : PySem.W.keepIn K (.ref (He.ga K "_law_right")) = true
  g__law_tray : mg "_law_tray" = some (.ref (He.ga K "_law_tray"))
  k__law_tray : PySem.W.keepIn K (.ref (He.ga K "_law_tray")) = true
  g_of_web : mg "of_web" = some (.ref (He.ga K "of_web"))
  k_of_web : PySem.W.keepIn K (.ref (He.ga K "of_web")) = true
  g__law_text : mg "_law_text" = some (.ref (He.ga K "_law_text"))
  k__law_text : PySem.W.keepIn K (.ref (He.ga K "_law_text")) = true
  g__law_take : mg "_law_take" = some (.ref (He.ga K "_law_take"))
  k__law_take : PySem.W.keepIn K (.ref (He.ga K "_law_take")) = true
  g__law_words : mg "_law_words" = some (.ref (He.ga K "_law_words"))
  k__law_words : PySem.W.keepIn K (.ref (He.ga K "_law_words")) = true
  g_table_from : mg "table_from" = some (.ref (He.ga K "table_from"))
  k_table_from : PySem.W.keepIn K (.ref (He.ga K "table_from")) = true
  g_rows_with : mg "rows_with" = some (.ref (He.ga K "rows_with"))
  k_rows_with : PySem.W.keepIn K (.ref (He.ga K "rows_with")) = true
  g_ties_in : mg "ties_in" = some (.ref (He.ga K "ties_in"))
  k_ties_in : PySem.W.keepIn K (.ref (He.ga K "ties_in")) = true
  g__law_word : mg "_law_word" = some (.ref (He.ga K "_law_word"))
  k__law_word : PySem.W.keepIn K (.ref (He.ga K "_law_word")) = true
  g_Table : mg "Table" = some (.ref (He.ga K "Table"))
  k_Table : PySem.W.keepIn K (.ref (He.ga K "Table")) = true
  mk_Table : Mk K (He.ga K "Table") (He.ma K (He.ga K "Table") "__init__")
  cls_Table : Cls K (He.ga K "Table")
  g_text_with : mg "text_with" = some (.ref (He.ga K "text_with"))
  k_text_with : PySem.W.keepIn K (.ref (He.ga K "text_with")) = true
  g_is_word : mg "is_word" = some (.ref (He.ga K "is_word"))
  k_is_word : PySem.W.keepIn K (.ref (He.ga K "is_word")) = true
  g_read_rows : mg "read_rows" = some (.ref (He.ga K "read_rows"))
  k_read_rows : PySem.W.keepIn K (.ref (He.ga K "read_rows")) = true
  g_is_full : mg "is_full" = some (.ref (He.ga K "is_full"))
  k_is_full : PySem.W.keepIn K (.ref (He.ga K "is_full")) = true
  ok_height : ∀ c, ok_height c = true → Cls K (He.ga K c) ∧ NoAttr K (He.ga K c) "height"
  ok_rows : ∀ c, ok_rows c = true → Cls K (He.ga K c) ∧ NoAttr K (He.ga K c) "rows"
  ok_text : ∀ c, ok_text c = true → Cls K (He.ga K c) ∧ NoAttr K (He.ga K c) "text"
  ok_width : ∀ c, ok_width c = true → Cls K (He.ga K c) ∧ NoAttr K (He.ga K c) "width"
  isi : IsiOk K (isiT isi)
  me_Table___str__ : Meth K (He.ga K "Table") "__str__" (He.ma K (He.ga K "Table") "__str__")
  d_law : ∃ fd, FunD K "law" "law" (defArgs (top 30)) (defBody (top 30)) (defScope (top 30)) [] [] (He.ga K "law") fd
  d__law_right : ∃ fd, FunD K "_law_right" "_law_right" (defArgs (top 29)) (defBody (top 29)) (defScope (top 29)) [] [] (He.ga K "_law_right") fd
  d__law_tray : ∃ fd, FunD K "_law_tray" "_law_tray" (defArgs (top 21)) (defBody (top 21)) (defScope (top 21)) [] [] (He.ga K "_law_tray") fd
  d_of_web : ∃ fd, FunD K "of_web" "of_web" (defArgs (top 19)) (defBody (top 19)) (defScope (top 19)) [] [] (He.ga K "of_web") fd
  d__law_text : ∃ fd, FunD K "_law_text" "_law_text" (defArgs (top 25)) (defBody (top 25)) (defScope (top 25)) [] [] (He.ga K "_law_text") fd
  d__law_take : ∃ fd, FunD K "_law_take" "_law_take" (defArgs (top 22)) (defBody (top 22)) (defScope (top 22)) [] [] (He.ga K "_law_take") fd
  d__law_words : ∃ fd, FunD K "_law_words" "_law_words" (defArgs (top 28)) (defBody (top 28)) (defScope (top 28)) [] [] (He.ga K "_law_words") fd
  d_Table___str__ : ∃ fd, FunD K "__str__" "Table.__str__" (defArgs (inClass (top 14) 2)) (defBody (inClass (top 14) 2)) (defScope (inClass (top 14) 2)) [] [] (He.ma K (He.ga K "Table") "__str__") fd
  d_table_from : ∃ fd, FunD K "table_from" "table_from" (defArgs (top 15)) (defBody (top 15)) (defScope (top 15)) [] [] (He.ga K "table_from") fd
  d_rows_with : ∃ fd, FunD K "rows_with" "rows_with" (defArgs (top 17)) (defBody (top 17)) (defScope (top 17)) [] [] (He.ga K "rows_with") fd
  d_ties_in : ∃ fd, FunD K "ties_in" "ties_in" (defArgs (top 18)) (defBody (top 18)) (defScope (top 18)) [] [] (He.ga K "ties_in") fd
  d__law_word : ∃ fd, FunD K "_law_word" "_law_word" (defArgs (top 27)) (defBody (top 27)) (defScope (top 27)) [] [] (He.ga K "_law_word") fd
  d_Table : ∃ fd, FunD K "__init__" "Table.__init__" (defArgs (inClass (top 14) 0)) (defBody (inClass (top 14) 0)) (defScope (inClass (top 14) 0)) [] [] (He.ma K (He.ga K "Table") "__init__") fd
  d_text_with : ∃ fd, FunD K "text_with" "text_with" (defArgs (top 13)) (defBody (top 13)) (defScope (top 13)) [] [] (He.ga K "text_with") fd
  d_is_word : ∃ fd, FunD K "is_word" "is_word" (defArgs (top 9)) (defBody (top 9)) (defScope (top 9)) [] [] (He.ga K "is_word") fd
  d_read_rows : ∃ fd, FunD K "read_rows" "read_rows" (defArgs (top 12)) (defBody (top 12)) (defScope (top 12)) [] [] (He.ga K "read_rows") fd
  d_is_full : ∃ fd, FunD K "is_full" "is_full" (defArgs (top 11)) (defBody (top 11)) (defScope (top 11)) [] [] (He.ga K "is_full") fd
/-- what may be called -/
structure Tab (P : Program) (w : World) (K : PySem.W.Frag) (mg : Str → Option Value) (base : Heap) (k : Nat) (cal : Nat → List D → M D) : Prop where
  trv : True
  t__law_right : CalG P w K mg base (k + 2) (He.ga K "_law_right") [] (cal 307)
  t__law_tray : CalG P w K mg base (k + 2) (He.ga K "_law_tray") [] (cal 5)
  t_of_web : CalG P w K mg base (k + 2) (He.ga K "of_web") [] (cal 308)
  t_of_web_text : CalG P w K mg base (k + 2) (He.ga K "of_web") ["text"] (cal 308)
  t__law_text : CalG P w K mg base (k + 2) (He.ga K "_law_text") [] (cal 2)
  t__law_take : CalG P w K mg base (k + 2) (He.ga K "_law_take") [] (cal 3)
  t__law_words : CalG P w K mg base (k + 2) (He.ga K "_law_words") [] (cal 309)
  t_table_from : CalG P w K mg base (k + 2) (He.ga K "table_from") [] (cal 311)
  t_rows_with : CalG P w K mg base (k + 2) (He.ga K "rows_with") [] (cal 310)
  t_ties_in : CalG P w K mg base (k + 2) (He.ga K "ties_in") [] (cal 312)
  t__law_word : CalG P w K mg base (k + 2) (He.ga K "_law_word") [] (cal 313)
  t_Table : CalG P w K mg base (k + 2) (He.ga K "Table") [] (cal 1)
  t_text_with : CalG P w K mg base (k + 2) (He.ga K "text_with") [] (cal 183)
  t_is_word : CalG P w K mg base (k + 2) (He.ga K "is_word") [] (cal 314)
  t_read_rows : CalG P w K mg base (k + 2) (He.ga K "read_rows") [] (cal 7)
  t_is_full : CalG P w K mg base (k + 2) (He.ga K "is_full") [] (cal 9)
  str : StrG P w K mg base k (strT cal)
section
variable {P : Program} {w : World} {K : PySem.W.Frag} {mg : Str → Option Value} {base : Heap} {k : Nat} {cal : Nat → List D → M D}
theorem sc_law : FnScope ["_law_cells", "_law_at"] ["_law_cells"] (defScope (top 30)) := ⟨rfl, rfl, rfl, by decide +kernel, rfl, by decide +kernel, by decide +kernel⟩
theorem fb_law (F : Fc K mg) (T : Tab P w K mg base k cal) : FB P w K mg base (k + 2) ["_law_cells", "_law_at"] "law" (defScope (top 30)) (defBody (top 30)) (b_law_v42 cal) := by
  intro f cdv A outer s H E hg hr
  have C := ct_of (P := P) (w := w) (K := K) (mg := mg) (base := base) (k := k + 2) (N := ["_law_cells", "_law_at"]) (qual := "law") (scope := defScope (top 30)) (f := f) (cdv := cdv) (A := A) (outer := outer) (s := s) (H := H) (E := E) hg hr
  have nd := sc_law.nd
  exact (sb_one (ss_ret (nB (cr_pAll C.calm) F.b_all bt_all (nCons (nLc [("_law_at", 1)] C fin_newL nd (nR1 F.b_range (nCons (nB (cr_pMax C.calm) F.b_max bt_max (nCons se_int (nCons (nB (cr_pMin C.calm) F.b_min bt_min (nCons (nB cr_pLen F.b_len bt_len (nCons (nVar 0) sa_nil)) (nCons se_int sa_nil))) sa_nil))) sa_nil)) (blkOk_by (by kernel_rfl)) (fun _ _ _ _ _ => (uName 1 nd)) (fun _ _ _ _ _ => ptsNil) (fun _ _ _ _ _ => (nCal C.blk T.t__law_right F.g__law_right F.k__law_right (nCons (nCal C.blk T.t__law_tray F.g__law_tray F.k__law_tray (nCons (nVar 0) (nCons (nVar 1) sa_nil))) sa_nil))) upNm) sa_nil))))
theorem sc__law_right : FnScope ["_law_tray_here", "_law_turn", "_law_names_here", "_law_ties", "_law_k", "_law_near", "_law_far", "_law_order_here", "_law_tie", "_law_each", "_law_due", "_law_string", "_law_turned", "_law_its", "_law_columns_here", "_law_row", "_law_mine"] ["_law_tray_here"] (defScope (top 29)) := ⟨rfl, rfl, rfl, by decide +kernel, rfl, by decide +kernel, by decide +kernel⟩
theorem fb__law_right (F : Fc K mg) (T : Tab P w K mg base k cal) : FB P w K mg base (k + 2) ["_law_tray_here", "_law_turn", "_law_names_here", "_law_ties", "_law_k", "_law_near", "_law_far", "_law_order_here", "_law_tie", "_law_each", "_law_due", "_law_string", "_law_turned", "_law_its", "_law_columns_here", "_law_row", "_law_mine"] "_law_right" (defScope (top 29)) (defBody (top 29)) (b__law_right_v41 cal) := by
  intro f cdv A outer s H E hg hr
  have C := ct_of (P := P) (w := w) (K := K) (mg := mg) (base := base) (k := k + 2) (N := ["_law_tray_here", "_law_turn", "_law_names_here", "_law_ties", "_law_k", "_law_near", "_law_far", "_law_order_here", "_law_tie", "_law_each", "_law_due", "_law_string", "_law_turned", "_law_its", "_law_columns_here", "_law_row", "_law_mine"]) (qual := "_law_right") (scope := defScope (top 29)) (f := f) (cdv := cdv) (A := A) (outer := outer) (s := s) (H := H) (E := E) hg hr
  have nd := sc__law_right.nd
  exact (sb_cons (nFor C po_of (nR1 F.b_range (nCons se_int sa_nil)) (gName 1 nd) (sb_cons (nSet 2 (nCal C T.t__law_words F.g__law_words F.k__law_words (nCons (nVar 0) (nCons (se_op op_pAdd se_int (nCal C T.t__law_take F.g__law_take F.k__law_take (nCons (nVar 0) (nCons se_int sa_nil)))) sa_nil))) nd)
    (sb_cons (nSet 3 (se_lstC sa_nil) nd)
    (sb_cons (nFor C po_of (nR1 F.b_range (nCons (se_op op_pAdd se_int (nCal C T.t__law_take F.g__law_take F.k__law_take (nCons (nVar 0) (nCons se_int sa_nil)))) sa_nil)) (gName 4 nd) (sb_cons (nSet 5 (nCal C T.t__law_take F.g__law_take F.k__law_take (nCons (nVar 0) (nCons (nB cr_pLen F.b_len bt_len (nCons (nVar 2) sa_nil)) sa_nil))) nd)
    (sb_cons (nSet 6 (se_op op_pMod (nT cr_pInt F.b_int bt_int (nCons (se_op op_pAdd (se_op op_pAdd (nVar 5) se_int) (nCal C T.t__law_take F.g__law_take F.k__law_take (nCons (nVar 0) (nCons (se_op op_pSub (nB cr_pLen F.b_len bt_len (nCons (nVar 2) sa_nil)) se_int) sa_nil)))) sa_nil)) (nB cr_pLen F.b_len bt_len (nCons (nVar 2) sa_nil))) nd)
    (sb_one (nExpr (nMb PySem.F.plainAttrs_list PySem.F.slot_list_append PySem.F.type_list_append mt_pAppend (nVar 3) (nCons (se_tup (nCons (nIx (nVar 2) (nVar 5)) (nCons (nIx (nVar 2) (nVar 6)) sa_nil))) sa_nil)))))))
    (sb_cons (Xm.ss_frzV 3 (nSet 7 (se_lst sa_nil) nd))
    (sb_cons (nFor C po_of (si_any (nVar 3)) (gName 8 nd) (sb_one (nSet 7 (se_op op_pAdd (nVar 7) (nLc [("_law_each", 9)] C fin_newL nd (si_any (nVar 8)) (blkOk_by (by kernel_rfl)) (fun _ _ _ _ _ => (uName 9 nd)) (fun _ _ _ _ _ => (ptsOne (nCmpT (op_pNotIn C.blk.hu) (nVar 9) (nVar 7)))) (fun _ _ _ _ _ => (nVar 9)) upNm)) nd)))
    (sb_cons (nSet 10 (nCal C T.t__law_text F.g__law_text F.k__law_text (nCons (nLc [("_law_tie", 8)] C fin_newL nd (si_any (nVar 3)) (blkOk_by (by kernel_rfl)) (fun _ _ _ _ _ => (uName 8 nd)) (fun _ _ _ _ _ => ptsNil) (fun _ _ _ _ _ => (nLc [("_law_each", 9)] C.blk fin_newL nd (si_any (nVar 7)) (blkOk_by (by kernel_rfl)) (fun _ _ _ _ _ => (uName 9 nd)) (fun _ _ _ _ _ => ptsNil) (fun _ _ _ _ _ => (nT cr_pInt F.b_int bt_int (nCons (nCmp (op_pIn C.blk.blk.hu) (nVar 9) (nVar 8)) sa_nil))) upNm)) upNm) sa_nil)) nd)
    (sb_cons (nSet 11 (nMb PySem.F.plainAttrs_str PySem.F.slot_str_join PySem.F.type_str_join mt_pJoin se_str (nCons (nLc [("_law_tie", 8)] C fin_newL nd (si_any (nVar 3)) (blkOk_by (by kernel_rfl)) (fun _ _ _ _ _ => (uName 8 nd)) (fun _ _ _ _ _ => ptsNil) (fun _ _ _ _ _ => (se_op op_pAdd (se_op op_pAdd (nIx (nVar 8) se_int) se_str) (nIx (nVar 8) se_int))) upNm) sa_nil)) nd)
    (sb_cons (ss_if (nCmpT (op_pNe C.hu) (se_lst (nCons (nT (cr_pStrI (k := k) T.str (C.room.mono (by omega)) C.gd) F.b_str bt_str (nCons (nCal C T.t_of_web F.g_of_web F.k_of_web (nCons (nVar 11) sa_nil)) sa_nil)) (nCons (nT (cr_pStrI (k := k) T.str (C.room.mono (by omega)) C.gd) F.b_str bt_str (nCons (nCalK0 C T.t_of_web_text F.g_of_web F.k_of_web (sk_cons (nVar 11) sk_nil) (aCons_len aNil_len)) sa_nil)) sa_nil))) (se_lst (nCons (nVar 10) (nCons (nVar 10) sa_nil)))) (sb_one (ss_ret se_bl)) sb_nil)
    (sb_cons (nSetLc 12 [("_law_tie", 8)] C fin_newL nd (si_any (nVar 3)) (blkOk_by (by kernel_rfl)) (fun _ _ _ _ _ => (uName 8 nd)) (fun _ _ _ _ _ => ptsNil) (fun _ _ _ _ _ => (se_revT (nVar 8))) upNm)
    (sb_cons (nSet 13 (nCal C T.t_of_web F.g_of_web F.k_of_web (nCons (nMb PySem.F.plainAttrs_str PySem.F.slot_str_join PySem.F.type_str_join mt_pJoin se_str (nCons (nLc [("_law_tie", 8)] C fin_newL nd (si_any (nVar 12)) (blkOk_by (by kernel_rfl)) (fun _ _ _ _ _ => (uName 8 nd)) (fun _ _ _ _ _ => ptsNil) (fun _ _ _ _ _ => (se_op op_pAdd (se_op op_pAdd (nIx (nVar 8) se_int) se_str) (nIx (nVar 8) se_int))) upNm) sa_nil)) sa_nil)) nd)
    (sb_cons (nSet 14 (nB (cr_pSortD C.hu) F.b_sorted (by decide +kernel) (nCons (nLc [("_law_k", 4)] C fin_newL nd (nR1 F.b_range (nCons (nFld F.ok_width (nVar 13)) sa_nil)) (blkOk_by (by kernel_rfl)) (fun _ _ _ _ _ => (uName 4 nd)) (fun _ _ _ _ _ => ptsNil) (fun _ _ _ _ _ => (nMb PySem.F.plainAttrs_str PySem.F.slot_str_join PySem.F.type_str_join mt_pJoin se_str (nCons (nLc [("_law_row", 15)] C.blk fin_newL nd (si_any (nFld F.ok_rows (nVar 13))) (blkOk_by (by kernel_rfl)) (fun _ _ _ _ _ => (uName 15 nd)) (fun _ _ _ _ _ => ptsNil) (fun _ _ _ _ _ => (nT (cr_pStrI (k := k) T.str (C.blk.blk.room.mono (by omega)) C.blk.blk.gd) F.b_str bt_str (nCons (nIx (nVar 15) (nVar 4)) sa_nil))) upNm) sa_nil))) upNm) sa_nil)) nd)
    (sb_cons (nSet 16 (nCal C T.t_of_web F.g_of_web F.k_of_web (nCons (nVar 11) sa_nil)) nd)
    (sb_one (ss_if (nCmpT (op_pNe C.hu) (nVar 14) (nB (cr_pSortD C.hu) F.b_sorted (by decide +kernel) (nCons (nLc [("_law_k", 4)] C fin_newL nd (nR1 F.b_range (nCons (nFld F.ok_width (nVar 16)) sa_nil)) (blkOk_by (by kernel_rfl)) (fun _ _ _ _ _ => (uName 4 nd)) (fun _ _ _ _ _ => ptsNil) (fun _ _ _ _ _ => (nMb PySem.F.plainAttrs_str PySem.F.slot_str_join PySem.F.type_str_join mt_pJoin se_str (nCons (nLc [("_law_row", 15)] C.blk fin_newL nd (si_any (nFld F.ok_rows (nVar 16))) (blkOk_by (by kernel_rfl)) (fun _ _ _ _ _ => (uName 15 nd)) (fun _ _ _ _ _ => ptsNil) (fun _ _ _ _ _ => (nT (cr_pStrI (k := k) T.str (C.blk.blk.room.mono (by omega)) C.blk.blk.gd) F.b_str bt_str (nCons (nIx (nVar 15) (nVar 4)) sa_nil))) upNm) sa_nil))) upNm) sa_nil))) (sb_one (ss_ret se_bl)) sb_nil)))))))))))))))
    (sb_one (ss_ret se_bl)))
theorem sc__law_tray : FnScope ["_law_cells", "_law_at", "_law_own", "_law_mixed", "_law_k"] ["_law_cells", "_law_at"] (defScope (top 21)) := ⟨rfl, rfl, rfl, by decide +kernel, rfl, by decide +kernel, by decide +kernel⟩
theorem fb__law_tray (F : Fc K mg) (T : Tab P w K mg base k cal) : FB P w K mg base (k + 2) ["_law_cells", "_law_at", "_law_own", "_law_mixed", "_law_k"] "_law_tray" (defScope (top 21)) (defBody (top 21)) (b__law_tray cal) := by
  intro f cdv A outer s H E hg hr
  have C := ct_of (P := P) (w := w) (K := K) (mg := mg) (base := base) (k := k + 2) (N := ["_law_cells", "_law_at", "_law_own", "_law_mixed", "_law_k"]) (qual := "_law_tray") (scope := defScope (top 21)) (f := f) (cdv := cdv) (A := A) (outer := outer) (s := s) (H := H) (E := E) hg hr
  have nd := sc__law_tray.nd
  exact (sb_cons (nPar2 2 3 C nd (nCons (se_if (nCmpT op_pLt (nVar 1) (nB cr_pLen F.b_len bt_len (nCons (nVar 0) sa_nil))) (nIx (nVar 0) (nVar 1)) se_int) (nCons (se_op op_pAdd se_int (se_op op_pMul se_int (nVar 1))) sa_nil)))
    (sb_cons (nFor C po_of (nR1 F.b_range (nCons (nB (cr_pMin C.calm) F.b_min bt_min (nCons (nB cr_pLen F.b_len bt_len (nCons (nVar 0) sa_nil)) (nCons se_int sa_nil))) sa_nil)) (gName 4 nd) (sb_one (nSet 3 (se_op op_pMod (nT cr_pInt F.b_int bt_int (nCons (se_op op_pAdd (se_op op_pAdd (se_op op_pMul (nVar 3) (se_op op_pAdd se_int (se_op op_pMul se_int (nVar 4)))) (se_op op_pMul se_int (nIx (nVar 0) (nVar 4)))) se_int) sa_nil)) se_int) nd)))
    (sb_one (ss_ret (se_lstC (nCons (se_if (sw_st (sw_or (nCmpT op_pLt (nVar 2) se_int) (sw_or1 (nCmpT op_pGe (nVar 2) (se_op op_pPow se_int se_int))))) (nB cr_pAbs F.b_abs bt_abs (nCons (nVar 2) sa_nil)) se_int) (nCons (se_op op_pMod (nT cr_pInt F.b_int bt_int (nCons (se_op op_pAdd (se_op op_pMul (nVar 3) se_int) (se_op op_pMul (nVar 2) se_int)) sa_nil)) se_int) (nCons se_int sa_nil))))))))
theorem sc_of_web : FnScope ["text", "ties", "names", "tie", "name"] ["text"] (defScope (top 19)) := ⟨rfl, rfl, rfl, by decide +kernel, rfl, by decide +kernel, by decide +kernel⟩
theorem fb_of_web (F : Fc K mg) (T : Tab P w K mg base k cal) : FB P w K mg base (k + 2) ["text", "ties", "names", "tie", "name"] "of_web" (defScope (top 19)) (defBody (top 19)) (b_of_web_v2 cal) := by
  intro f cdv A outer s H E hg hr
  have C := ct_of (P := P) (w := w) (K := K) (mg := mg) (base := base) (k := k + 2) (N := ["text", "ties", "names", "tie", "name"]) (qual := "of_web") (scope := defScope (top 19)) (f := f) (cdv := cdv) (A := A) (outer := outer) (s := s) (H := H) (E := E) hg hr
  have nd := sc_of_web.nd
  exact (sb_cons (nSet 1 (nCal C T.t_ties_in F.g_ties_in F.k_ties_in (nCons (nVar 0) sa_nil)) nd)
    (sb_cons (ss_if (nCmpT op_pIs (nVar 1) se_non) (sb_one ss_bad) sb_nil)
    (sb_cons (nSet 2 (se_lstC sa_nil) nd)
    (sb_cons (nFor C po_of (si_any (nVar 1)) (gName 3 nd) (sb_one (nExpr (nMb PySem.F.plainAttrs_list PySem.F.slot_list_extend PySem.F.type_list_extend mt_pExtend (nVar 2) (nCons (nLc [("name", 4)] C fin_newL nd (si_any (nVar 3)) (blkOk_by (by kernel_rfl)) (fun _ _ _ _ _ => (uName 4 nd)) (fun _ _ _ _ _ => (ptsOne (nCmpT (op_pNotIn C.blk.hu) (nVar 4) (nVar 2)))) (fun _ _ _ _ _ => (nVar 4)) upNm) sa_nil)))))
    (sb_cons (Xm.ss_frzV 2 (ss_if (nCmpT op_pGt (nB cr_pLen F.b_len bt_len (nCons (nVar 2) sa_nil)) (nInt F.c_MOST_COLUMNS)) (sb_one ss_bad) sb_nil))
    (sb_one (ss_ret (nCal C T.t_table_from F.g_table_from F.k_table_from (nCons (nCal C T.t_rows_with F.g_rows_with F.k_rows_with (nCons (nVar 1) (nCons (nVar 2) sa_nil))) sa_nil)))))))))
theorem sc__law_text : FnScope ["_law_rows_here", "_law_digit", "_law_row"] ["_law_rows_here"] (defScope (top 25)) := ⟨rfl, rfl, rfl, by decide +kernel, rfl, by decide +kernel, by decide +kernel⟩
theorem fb__law_text (F : Fc K mg) (T : Tab P w K mg base k cal) : FB P w K mg base (k + 2) ["_law_rows_here", "_law_digit", "_law_row"] "_law_text" (defScope (top 25)) (defBody (top 25)) (b__law_text cal) := by
  intro f cdv A outer s H E hg hr
  have C := ct_of (P := P) (w := w) (K := K) (mg := mg) (base := base) (k := k + 2) (N := ["_law_rows_here", "_law_digit", "_law_row"]) (qual := "_law_text") (scope := defScope (top 25)) (f := f) (cdv := cdv) (A := A) (outer := outer) (s := s) (H := H) (E := E) hg hr
  have nd := sc__law_text.nd
  exact (sb_one (ss_ret (nMb PySem.F.plainAttrs_str PySem.F.slot_str_join PySem.F.type_str_join mt_pJoin se_str (nCons (nLc [("_law_row", 2)] C fin_newL nd (si_any (nVar 0)) (blkOk_by (by kernel_rfl)) (fun _ _ _ _ _ => (uName 2 nd)) (fun _ _ _ _ _ => ptsNil) (fun _ _ _ _ _ => (nMb PySem.F.plainAttrs_str PySem.F.slot_str_join PySem.F.type_str_join mt_pJoin se_str (nCons (nLc [("_law_digit", 1)] C.blk fin_newL nd (si_any (nVar 2)) (blkOk_by (by kernel_rfl)) (fun _ _ _ _ _ => (uName 1 nd)) (fun _ _ _ _ _ => ptsNil) (fun _ _ _ _ _ => (nT (cr_pStrI (k := k) T.str (C.blk.blk.room.mono (by omega)) C.blk.blk.gd) F.b_str bt_str (nCons (nVar 1) sa_nil))) upNm) sa_nil))) upNm) sa_nil))))
theorem sc__law_take : FnScope ["_law_tray_here", "_law_many", "_law_figure"] ["_law_tray_here", "_law_many"] (defScope (top 22)) := ⟨rfl, rfl, rfl, by decide +kernel, rfl, by decide +kernel, by decide +kernel⟩
theorem fb__law_take (F : Fc K mg) (T : Tab P w K mg base k cal) : FB P w K mg base (k + 2) ["_law_tray_here", "_law_many", "_law_figure"] "_law_take" (defScope (top 22)) (defBody (top 22)) (b__law_take cal) := by
  intro f cdv A outer s H E hg hr
  have C := ct_of (P := P) (w := w) (K := K) (mg := mg) (base := base) (k := k + 2) (N := ["_law_tray_here", "_law_many", "_law_figure"]) (qual := "_law_take") (scope := defScope (top 22)) (f := f) (cdv := cdv) (A := A) (outer := outer) (s := s) (H := H) (E := E) hg hr
  have nd := sc__law_take.nd
  exact (sb_cons (ss_if (nCmpT op_pGt (nIx (nVar 0) se_int) se_int) (sb_cons (nAsg (nB cr_pDivmod F.b_divmod bt_divmod (nCons (nIx (nVar 0) se_int) (nCons (nVar 1) sa_nil))) (gTup C (gCons (gSub (fun cls d _ H' => E cls d H') (nVar 0) se_int set_pStore) (gCons (gName 2 nd) sgs_nil))))
    (sb_one (ss_ret (nVar 2)))) sb_nil)
    (sb_cons (nAsg (se_op op_pAdd (nIx (nVar 0) se_int) se_int) (gSub (fun cls d _ H' => E cls d H') (nVar 0) se_int set_pStore))
    (sb_cons (nAsg (se_op op_pMod (nT cr_pInt F.b_int bt_int (nCons (se_op op_pAdd (se_op op_pAdd (se_op op_pMul (nIx (nVar 0) se_int) (se_op op_pAdd (se_op op_pMod (nT cr_pInt F.b_int bt_int (nCons (se_op op_pFdiv (nIx (nVar 0) se_int) se_int) sa_nil)) se_int) se_int)) (se_op op_pMul se_int (nIx (nVar 0) se_int))) se_int) sa_nil)) se_int) (gSub (fun cls d _ H' => E cls d H') (nVar 0) se_int set_pStore))
    (sb_one (ss_ret (se_op op_pMod (nT cr_pInt F.b_int bt_int (nCons (se_op op_pFdiv (nIx (nVar 0) se_int) se_int) sa_nil)) (nVar 1)))))))
theorem sc__law_words : FnScope ["_law_tray_here", "_law_many", "_law_found", "_law_turn", "_law_word_here", "_law_some", "_law_each"] ["_law_tray_here", "_law_many"] (defScope (top 28)) := ⟨rfl, rfl, rfl, by decide +kernel, rfl, by decide +kernel, by decide +kernel⟩
theorem fb__law_words (F : Fc K mg) (T : Tab P w K mg base k cal) : FB P w K mg base (k + 2) ["_law_tray_here", "_law_many", "_law_found", "_law_turn", "_law_word_here", "_law_some", "_law_each"] "_law_words" (defScope (top 28)) (defBody (top 28)) (b__law_words_v2 cal) := by
  intro f cdv A outer s H E hg hr
  have C := ct_of (P := P) (w := w) (K := K) (mg := mg) (base := base) (k := k + 2) (N := ["_law_tray_here", "_law_many", "_law_found", "_law_turn", "_law_word_here", "_law_some", "_law_each"]) (qual := "_law_words") (scope := defScope (top 28)) (f := f) (cdv := cdv) (A := A) (outer := outer) (s := s) (H := H) (E := E) hg hr
  have nd := sc__law_words.nd
  exact (sb_cons (nSet 2 (se_lstC sa_nil) nd)
    (sb_cons (nFor C po_of (nR1 F.b_range (nCons (nVar 1) sa_nil)) (gName 3 nd) (sb_cons (nSet 4 (nCal C T.t__law_word F.g__law_word F.k__law_word (nCons (nVar 0) sa_nil)) nd)
    (sb_cons (ss_if (sw_st (sw_and (nCmpT (op_pNe C.hu) (nVar 2) (se_lstC sa_nil)) (sw_and1 (nCmpT (op_pEq C.hu) (nCal C T.t__law_take F.g__law_take F.k__law_take (nCons (nVar 0) (nCons se_int sa_nil))) se_int)))) (sb_one (nSet 4 (se_cut (se_op op_pAdd (nIx (nVar 2) (nCal C T.t__law_take F.g__law_take F.k__law_take (nCons (nVar 0) (nCons (nB cr_pLen F.b_len bt_len (nCons (nVar 2) sa_nil)) sa_nil)))) (nVar 4)) so_none (so_some se_int)) nd)) sb_nil)
    (sb_cons (nSet 5 (se_op op_pAdd (se_lst (nCons (nVar 4) sa_nil)) (nLc [("_law_each", 6)] C fin_newL nd (si_any se_str) (blkOk_by (by kernel_rfl)) (fun _ _ _ _ _ => (uName 6 nd)) (fun _ _ _ _ _ => ptsNil) (fun _ _ _ _ _ => (se_op op_pAdd (se_cut (nVar 4) so_none (so_some se_int)) (nVar 6))) upNm)) nd)
    (sb_one (nExpr (nMb PySem.F.plainAttrs_list PySem.F.slot_list_append PySem.F.type_list_append mt_pAppend (nVar 2) (nCons (nIx (nLc [("_law_each", 6)] C fin_newL nd (si_any (nVar 5)) (blkOk_by (by kernel_rfl)) (fun _ _ _ _ _ => (uName 6 nd)) (fun _ _ _ _ _ => (ptsOne (nCmpT (op_pNotIn C.blk.hu) (nVar 6) (nVar 2)))) (fun _ _ _ _ _ => (nVar 6)) upNm) se_int) sa_nil))))))))
    (sb_one (ss_ret (se_frz (nVar 2))))))
theorem sc_Table___str__ : FnScope ["self"] ["self"] (defScope (inClass (top 14) 2)) := ⟨rfl, rfl, rfl, by decide +kernel, rfl, by decide +kernel, by decide +kernel⟩
theorem fb_Table___str__ (F : Fc K mg) (T : Tab P w K mg base k cal) : FB P w K mg base (k + 2) ["self"] "Table.__str__" (defScope (inClass (top 14) 2)) (defBody (inClass (top 14) 2)) (b_Table___str__ cal) := by
  intro f cdv A outer s H E hg hr
  have C := ct_of (P := P) (w := w) (K := K) (mg := mg) (base := base) (k := k + 2) (N := ["self"]) (qual := "Table.__str__") (scope := defScope (inClass (top 14) 2)) (f := f) (cdv := cdv) (A := A) (outer := outer) (s := s) (H := H) (E := E) hg hr
  have nd := sc_Table___str__.nd
  exact (sb_one (ss_ret (nT (cr_pStrI (k := k) T.str (C.room.mono (by omega)) C.gd) F.b_str bt_str (nCons (nFld F.ok_text (nVar 0)) sa_nil))))
theorem sc_table_from : FnScope ["rows"] ["rows"] (defScope (top 15)) := ⟨rfl, rfl, rfl, by decide +kernel, rfl, by decide +kernel, by decide +kernel⟩
theorem fb_table_from (F : Fc K mg) (T : Tab P w K mg base k cal) : FB P w K mg base (k + 2) ["rows"] "table_from" (defScope (top 15)) (defBody (top 15)) (b_table_from_v3 cal) := by
  intro f cdv A outer s H E hg hr
  have C := ct_of (P := P) (w := w) (K := K) (mg := mg) (base := base) (k := k + 2) (N := ["rows"]) (qual := "table_from") (scope := defScope (top 15)) (f := f) (cdv := cdv) (A := A) (outer := outer) (s := s) (H := H) (E := E) hg hr
  have nd := sc_table_from.nd
  exact (sb_one (ss_ret (nCal C T.t_Table F.g_Table F.k_Table (nCons (nCal C T.t_text_with F.g_text_with F.k_text_with (nCons (nVar 0) sa_nil)) sa_nil))))
theorem sc_rows_with : FnScope ["lots", "columns", "column", "lot"] ["lots", "columns"] (defScope (top 17)) := ⟨rfl, rfl, rfl, by decide +kernel, rfl, by decide +kernel, by decide +kernel⟩
theorem fb_rows_with (F : Fc K mg) (T : Tab P w K mg base k cal) : FB P w K mg base (k + 2) ["lots", "columns", "column", "lot"] "rows_with" (defScope (top 17)) (defBody (top 17)) (b_rows_with_v2 cal) := by
  intro f cdv A outer s H E hg hr
  have C := ct_of (P := P) (w := w) (K := K) (mg := mg) (base := base) (k := k + 2) (N := ["lots", "columns", "column", "lot"]) (qual := "rows_with") (scope := defScope (top 17)) (f := f) (cdv := cdv) (A := A) (outer := outer) (s := s) (H := H) (E := E) hg hr
  have nd := sc_rows_with.nd
  exact (sb_one (ss_ret (nLc [("lot", 3)] C fin_newL nd (si_any (nVar 0)) (blkOk_by (by kernel_rfl)) (fun _ _ _ _ _ => (uName 3 nd)) (fun _ _ _ _ _ => ptsNil) (fun _ _ _ _ _ => (nLc [("column", 2)] C.blk fin_newL nd (si_any (nVar 1)) (blkOk_by (by kernel_rfl)) (fun _ _ _ _ _ => (uName 2 nd)) (fun _ _ _ _ _ => ptsNil) (fun _ _ _ _ _ => (nT cr_pInt F.b_int bt_int (nCons (nCmp (op_pIn C.blk.blk.hu) (nVar 2) (nVar 3)) sa_nil))) upNm)) upNm)))
theorem sc_ties_in : FnScope ["text", "ties", "line", "tie", "one", "other"] ["text"] (defScope (top 18)) := ⟨rfl, rfl, rfl, by decide +kernel, rfl, by decide +kernel, by decide +kernel⟩
theorem fb_ties_in (F : Fc K mg) (T : Tab P w K mg base k cal) : FB P w K mg base (k + 2) ["text", "ties", "line", "tie", "one", "other"] "ties_in" (defScope (top 18)) (defBody (top 18)) (b_ties_in_v2 cal) := by
  intro f cdv A outer s H E hg hr
  have C := ct_of (P := P) (w := w) (K := K) (mg := mg) (base := base) (k := k + 2) (N := ["text", "ties", "line", "tie", "one", "other"]) (qual := "ties_in") (scope := defScope (top 18)) (f := f) (cdv := cdv) (A := A) (outer := outer) (s := s) (H := H) (E := E) hg hr
  have nd := sc_ties_in.nd
  exact (sb_cons (ss_if (st_not (nTru (nIsi (p2 := ⟨0, 0, 0, 0⟩) (c := .blt "str") F.isi (nVar 0) (pe_bltn (v := .ty "str") rfl F.b_str bt_str rfl) (.ty _) F.b_isinstance))) (sb_one (ss_ret se_non)) sb_nil)
    (sb_cons (nSetLc 1 [("line", 2)] C fin_newL nd (si_any (nMb PySem.F.plainAttrs_str PySem.F.slot_str_split PySem.F.type_str_split mt_pSplit (nVar 0) (nCons se_str sa_nil))) (blkOk_by (by kernel_rfl)) (fun _ _ _ _ _ => (uName 2 nd)) (fun _ _ _ _ _ => ptsNil) (fun _ _ _ _ _ => (nMb PySem.F.plainAttrs_str PySem.F.slot_str_split PySem.F.type_str_split mt_pSplit (nVar 2) (nCons se_str sa_nil))) upNm)
    (sb_cons (ss_if (sw_st (sw_or (nCmpT op_pGt (nB cr_pLen F.b_len bt_len (nCons (nVar 1) sa_nil)) (nInt F.c_MOST_ROWS)) (sw_or1 (st_not (nTru (nB (cr_pAll C.calm) F.b_all bt_all (nCons (nLc [("tie", 3)] C fin_newL nd (si_any (nVar 1)) (blkOk_by (by kernel_rfl)) (fun _ _ _ _ _ => (uName 3 nd)) (fun _ _ _ _ _ => ptsNil) (fun _ _ _ _ _ => (nCmp (op_pEq C.blk.hu) (nB cr_pLen F.b_len bt_len (nCons (nVar 3) sa_nil)) se_int)) upNm) sa_nil))))))) (sb_one (ss_ret se_non)) sb_nil)
    (sb_one (ss_ret (se_if (nTru (nB (cr_pAll C.calm) F.b_all bt_all (nCons (nLc [("one", 4), ("other", 5)] C fin_newL nd (si_any (nVar 1)) (blkOk_by (by kernel_rfl)) (fun _ _ _ _ _ => (uTul C.blk (uCons (uName 4 nd) (uCons (uName 5 nd) sus_nil)))) (fun _ _ _ _ _ => ptsNil) (fun _ _ _ _ _ => (se_and (nCal C.blk T.t_is_word F.g_is_word F.k_is_word (nCons (nVar 4) sa_nil)) (se_and (nCal C.blk T.t_is_word F.g_is_word F.k_is_word (nCons (nVar 5) sa_nil)) (and1 (nCmp (op_pNe C.blk.hu) (nVar 4) (nVar 5)))))) (upTlG (upsCs (upNm (by decide)) (upsCs (upNm (by decide)) upsNl)))) sa_nil))) (nVar 1) se_non))))))
theorem sc__law_word : FnScope ["_law_tray_here", "_law_k"] ["_law_tray_here"] (defScope (top 27)) := ⟨rfl, rfl, rfl, by decide +kernel, rfl, by decide +kernel, by decide +kernel⟩
theorem fb__law_word (F : Fc K mg) (T : Tab P w K mg base k cal) : FB P w K mg base (k + 2) ["_law_tray_here", "_law_k"] "_law_word" (defScope (top 27)) (defBody (top 27)) (b__law_word_v2 cal) := by
  intro f cdv A outer s H E hg hr
  have C := ct_of (P := P) (w := w) (K := K) (mg := mg) (base := base) (k := k + 2) (N := ["_law_tray_here", "_law_k"]) (qual := "_law_word") (scope := defScope (top 27)) (f := f) (cdv := cdv) (A := A) (outer := outer) (s := s) (H := H) (E := E) hg hr
  have nd := sc__law_word.nd
  exact (sb_one (ss_ret (nMb PySem.F.plainAttrs_str PySem.F.slot_str_join PySem.F.type_str_join mt_pJoin se_str (nCons (nLc [("_law_k", 1)] C fin_newL nd (nR1 F.b_range (nCons (se_op op_pAdd se_int (nCal C T.t__law_take F.g__law_take F.k__law_take (nCons (nVar 0) (nCons se_int sa_nil)))) sa_nil)) (blkOk_by (by kernel_rfl)) (fun _ _ _ _ _ => (uName 1 nd)) (fun _ _ _ _ _ => ptsNil) (fun _ _ _ _ _ => (nIx se_str (nCal C.blk T.t__law_take F.g__law_take F.k__law_take (nCons (nVar 0) (nCons se_int sa_nil))))) upNm) sa_nil))))
theorem sc_Table : FnScope ["self", "text", "rows"] ["self", "text"] (defScope (inClass (top 14) 0)) := ⟨rfl, rfl, rfl, by decide +kernel, rfl, by decide +kernel, by decide +kernel⟩
theorem fb_Table (F : Fc K mg) (T : Tab P w K mg base k cal) : FBI P w K mg base (k + 2) ["self", "text", "rows"] "Table.__init__" (defScope (inClass (top 14) 0)) "Table" (defBody (inClass (top 14) 0)) (b_Table cal) := by
  intro f cdv A outer s H E hg hr
  have C := ct_of (P := P) (w := w) (K := K) (mg := mg) (base := base) (k := k + 2) (N := ["self", "text", "rows"]) (qual := "Table.__init__") (scope := defScope (inClass (top 14) 0)) (f := f) (cdv := cdv) (A := A) (outer := outer) (s := s) (H := H) (E := E) hg hr
  have nd := sc_Table.nd
  exact (sbi_ord (nSet 2 (nCal C T.t_read_rows F.g_read_rows F.k_read_rows (nCons (nVar 1) sa_nil)) nd)
    (sbi_ord (ss_if (nCmpT op_pIs (nVar 2) se_non) (sb_one ss_bad) sb_nil)
    (iMany C (se_tup (nCons (nVar 1) (nCons (nVar 2) sa_nil))) (iCs (iSelf (F.ok_text "Table" rfl)) (iCs (iSelf (F.ok_rows "Table" rfl)) sgis_nil)) (iMany C (se_tup (nCons (nB cr_pLen F.b_len bt_len (nCons (nVar 2) sa_nil)) (nCons (nB cr_pLen F.b_len bt_len (nCons (nIx (nVar 2) se_int) sa_nil)) sa_nil))) (iCs (iSelf (F.ok_height "Table" rfl)) (iCs (iSelf (F.ok_width "Table" rfl)) sgis_nil)) sbi_nil))))
theorem sc_text_with : FnScope ["rows", "digit", "row"] ["rows"] (defScope (top 13)) := ⟨rfl, rfl, rfl, by decide +kernel, rfl, by decide +kernel, by decide +kernel⟩
theorem fb_text_with (F : Fc K mg) (T : Tab P w K mg base k cal) : FB P w K mg base (k + 2) ["rows", "digit", "row"] "text_with" (defScope (top 13)) (defBody (top 13)) (b_text_with cal) := by
  intro f cdv A outer s H E hg hr
  have C := ct_of (P := P) (w := w) (K := K) (mg := mg) (base := base) (k := k + 2) (N := ["rows", "digit", "row"]) (qual := "text_with") (scope := defScope (top 13)) (f := f) (cdv := cdv) (A := A) (outer := outer) (s := s) (H := H) (E := E) hg hr
  have nd := sc_text_with.nd
  exact (sb_one (ss_ret (nMb PySem.F.plainAttrs_str PySem.F.slot_str_join PySem.F.type_str_join mt_pJoin se_str (nCons (nLc [("row", 2)] C fin_newL nd (si_any (nVar 0)) (blkOk_by (by kernel_rfl)) (fun _ _ _ _ _ => (uName 2 nd)) (fun _ _ _ _ _ => ptsNil) (fun _ _ _ _ _ => (nMb PySem.F.plainAttrs_str PySem.F.slot_str_join PySem.F.type_str_join mt_pJoin se_str (nCons (nLc [("digit", 1)] C.blk fin_newL nd (si_any (nVar 2)) (blkOk_by (by kernel_rfl)) (fun _ _ _ _ _ => (uName 1 nd)) (fun _ _ _ _ _ => ptsNil) (fun _ _ _ _ _ => (nT (cr_pStrI (k := k) T.str (C.blk.blk.room.mono (by omega)) C.blk.blk.gd) F.b_str bt_str (nCons (nVar 1) sa_nil))) upNm) sa_nil))) upNm) sa_nil))))
theorem sc_is_word : FnScope ["value", "sign"] ["value"] (defScope (top 9)) := ⟨rfl, rfl, rfl, by decide +kernel, rfl, by decide +kernel, by decide +kernel⟩
theorem fb_is_word (F : Fc K mg) (T : Tab P w K mg base k cal) : FB P w K mg base (k + 2) ["value", "sign"] "is_word" (defScope (top 9)) (defBody (top 9)) (b_is_word_v2 cal) := by
  intro f cdv A outer s H E hg hr
  have C := ct_of (P := P) (w := w) (K := K) (mg := mg) (base := base) (k := k + 2) (N := ["value", "sign"]) (qual := "is_word") (scope := defScope (top 9)) (f := f) (cdv := cdv) (A := A) (outer := outer) (s := s) (H := H) (E := E) hg hr
  have nd := sc_is_word.nd
  exact (sb_one (ss_ret (se_and (nIsi (p2 := ⟨0, 0, 0, 0⟩) (c := .blt "str") F.isi (nVar 0) (pe_bltn (v := .ty "str") rfl F.b_str bt_str rfl) (.ty _) F.b_isinstance) (se_and (nCh op_pLe op_pLe se_int (nB cr_pLen F.b_len bt_len (nCons (nVar 0) sa_nil)) (nInt F.c_LONGEST_NAME)) (and1 (nB (cr_pAll C.calm) F.b_all bt_all (nCons (nLc [("sign", 1)] C fin_newL nd (si_any (nVar 0)) (blkOk_by (by kernel_rfl)) (fun _ _ _ _ _ => (uName 1 nd)) (fun _ _ _ _ _ => ptsNil) (fun _ _ _ _ _ => (nCmp (op_pIn C.blk.hu) (nVar 1) (nStr F.c_LETTERS))) upNm) sa_nil)))))))
theorem sc_read_rows : FnScope ["text", "lines", "sign", "line", "rows"] ["text"] (defScope (top 12)) := ⟨rfl, rfl, rfl, by decide +kernel, rfl, by decide +kernel, by decide +kernel⟩
theorem fb_read_rows (F : Fc K mg) (T : Tab P w K mg base k cal) : FB P w K mg base (k + 2) ["text", "lines", "sign", "line", "rows"] "read_rows" (defScope (top 12)) (defBody (top 12)) (b_read_rows cal) := by
  intro f cdv A outer s H E hg hr
  have C := ct_of (P := P) (w := w) (K := K) (mg := mg) (base := base) (k := k + 2) (N := ["text", "lines", "sign", "line", "rows"]) (qual := "read_rows") (scope := defScope (top 12)) (f := f) (cdv := cdv) (A := A) (outer := outer) (s := s) (H := H) (E := E) hg hr
  have nd := sc_read_rows.nd
  exact (sb_cons (ss_if (st_not (nTru (nIsi (p2 := ⟨0, 0, 0, 0⟩) (c := .blt "str") F.isi (nVar 0) (pe_bltn (v := .ty "str") rfl F.b_str bt_str rfl) (.ty _) F.b_isinstance))) (sb_one (ss_ret se_non)) sb_nil)
    (sb_cons (nSet 1 (nMb PySem.F.plainAttrs_str PySem.F.slot_str_split PySem.F.type_str_split mt_pSplit (nVar 0) (nCons se_str sa_nil)) nd)
    (sb_cons (ss_if (sw_st (sw_or (nCmpT op_pGt (nB cr_pLen F.b_len bt_len (nCons (nVar 1) sa_nil)) (nInt F.c_MOST_ROWS)) (sw_or1 (st_not (nChT op_pLe op_pLe se_int (nB cr_pLen F.b_len bt_len (nCons (nIx (nVar 1) se_int) sa_nil)) (nInt F.c_MOST_COLUMNS)))))) (sb_one (ss_ret se_non)) sb_nil)
    (sb_cons (ss_if (st_not (nTru (nB (cr_pAll C.calm) F.b_all bt_all (nCons (nLc [("line", 3)] C fin_newL nd (si_any (nVar 1)) (blkOk_by (by kernel_rfl)) (fun _ _ _ _ _ => (uName 3 nd)) (fun _ _ _ _ _ => ptsNil) (fun _ _ _ _ _ => (se_and (nCmp (op_pEq C.blk.hu) (nB cr_pLen F.b_len bt_len (nCons (nVar 3) sa_nil)) (nB cr_pLen F.b_len bt_len (nCons (nIx (nVar 1) se_int) sa_nil))) (and1 (nB (cr_pAll C.blk.calm) F.b_all bt_all (nCons (nLc [("sign", 2)] C.blk fin_newL nd (si_any (nVar 3)) (blkOk_by (by kernel_rfl)) (fun _ _ _ _ _ => (uName 2 nd)) (fun _ _ _ _ _ => ptsNil) (fun _ _ _ _ _ => (nCmp (op_pIn C.blk.blk.hu) (nVar 2) se_str)) upNm) sa_nil))))) upNm) sa_nil)))) (sb_one (ss_ret se_non)) sb_nil)
    (sb_cons (nSet 4 (nT cr_pTuple F.b_tuple bt_tuple (nCons (nLc [("line", 3)] C fin_newL nd (si_any (nVar 1)) (blkOk_by (by kernel_rfl)) (fun _ _ _ _ _ => (uName 3 nd)) (fun _ _ _ _ _ => ptsNil) (fun _ _ _ _ _ => (nT cr_pTuple F.b_tuple bt_tuple (nCons (nLc [("sign", 2)] C.blk fin_newL nd (si_any (nVar 3)) (blkOk_by (by kernel_rfl)) (fun _ _ _ _ _ => (uName 2 nd)) (fun _ _ _ _ _ => ptsNil) (fun _ _ _ _ _ => (nT cr_pInt F.b_int bt_int (nCons (nVar 2) sa_nil))) upNm) sa_nil))) upNm) sa_nil)) nd)
    (sb_one (ss_ret (se_if (nTru (nCal C T.t_is_full F.g_is_full F.k_is_full (nCons (nVar 4) sa_nil))) (nVar 4) se_non))))))))
theorem sc_is_full : FnScope ["rows", "row", "column"] ["rows"] (defScope (top 11)) := ⟨rfl, rfl, rfl, by decide +kernel, rfl, by decide +kernel, by decide +kernel⟩
theorem fb_is_full (F : Fc K mg) (T : Tab P w K mg base k cal) : FB P w K mg base (k + 2) ["rows", "row", "column"] "is_full" (defScope (top 11)) (defBody (top 11)) (b_is_full cal) := by
  intro f cdv A outer s H E hg hr
  have C := ct_of (P := P) (w := w) (K := K) (mg := mg) (base := base) (k := k + 2) (N := ["rows", "row", "column"]) (qual := "is_full") (scope := defScope (top 11)) (f := f) (cdv := cdv) (A := A) (outer := outer) (s := s) (H := H) (E := E) hg hr
  have nd := sc_is_full.nd
  exact (sb_one (ss_ret (se_and (nCmp op_pGt (nB cr_pLen F.b_len bt_len (nCons (nVar 0) sa_nil)) se_int) (se_and (nB (cr_pAll C.calm) F.b_all bt_all (nCons (nLc [("row", 1)] C fin_newL nd (si_any (nVar 0)) (blkOk_by (by kernel_rfl)) (fun _ _ _ _ _ => (uName 1 nd)) (fun _ _ _ _ _ => ptsNil) (fun _ _ _ _ _ => (nCmp (op_pIn C.blk.hu) se_int (nVar 1))) upNm) sa_nil)) (and1 (nB (cr_pAll C.calm) F.b_all bt_all (nCons (nLc [("column", 2)] C fin_newL nd (nZipS F.b_zip (nVar 0)) (blkOk_by (by kernel_rfl)) (fun _ _ _ _ _ => (uName 2 nd)) (fun _ _ _ _ _ => ptsNil) (fun _ _ _ _ _ => (nCmp (op_pIn C.blk.hu) se_int (nVar 2))) upNm) sa_nil)))))))
theorem tab0 (F : Fc K mg) : Tab P w K mg base 0 (callN 0) where
  trv := trivial
  t__law_right := CalG.bad
  t__law_tray := CalG.bad
  t_of_web := CalG.bad
  t_of_web_text := CalG.bad
  t__law_text := CalG.bad
  t__law_take := CalG.bad
  t__law_words := CalG.bad
  t_table_from := CalG.bad
  t_rows_with := CalG.bad
  t_ties_in := CalG.bad
  t__law_word := CalG.bad
  t_Table := CalG.bad
  t_text_with := CalG.bad
  t_is_word := CalG.bad
  t_read_rows := CalG.bad
  t_is_full := CalG.bad
  str := by
    intro c m e
    unfold strT at e
    split at e
    · rename_i h
      subst h
      cases e
      obtain ⟨fd, D⟩ := F.d_Table___str__
      exact ⟨_, fd, F.me_Table___str__.at_, F.me_Table___str__.fn, FnG.bad, bindK_of D (fun _ _ _ _ _ _ us ws h1 h2 => match us, ws, h1, h2 with | [_], [], _, _ => rfl)⟩
    · cases e
theorem tabS {n : Nat} (F : Fc K mg) (T : Tab P w K mg base k (callN n)) : Tab P w K mg base (k + 3) (callN (n + 1)) where
  trv := trivial
  t__law_right := (by
    obtain ⟨fd, D⟩ := F.d__law_right
    exact CalG.mono (calG_fn (m := funM 17 1 (b__law_right_v41 (callN n))) (fnG_body D sc__law_right (fb__law_right F T)) (bindK_of D (fun _ _ _ _ _ _ us ws h1 h2 => match us, ws, h1, h2 with | [_], [], _, _ => rfl)) rfl funM_len) (by omega))
  t__law_tray := (by
    obtain ⟨fd, D⟩ := F.d__law_tray
    exact CalG.mono (calG_fn (m := funM 5 2 (b__law_tray (callN n))) (fnG_body D sc__law_tray (fb__law_tray F T)) (bindK_of D (fun _ _ _ _ _ _ us ws h1 h2 => match us, ws, h1, h2 with | [_, _], [], _, _ => rfl)) rfl funM_len) (by omega))
  t_of_web := (by
    obtain ⟨fd, D⟩ := F.d_of_web
    exact CalG.mono (calG_fn (m := funM 5 1 (b_of_web_v2 (callN n))) (fnG_body D sc_of_web (fb_of_web F T)) (bindK_of D (fun _ _ _ _ _ _ us ws h1 h2 => match us, ws, h1, h2 with | [_], [], _, _ => rfl)) rfl funM_len) (by omega))
  t_of_web_text := (by
    obtain ⟨fd, D⟩ := F.d_of_web
    exact CalG.mono (calG_fn (m := funM 5 1 (b_of_web_v2 (callN n))) (fnG_body D sc_of_web (fb_of_web F T)) (bindK_of D (fun _ _ _ _ _ _ us ws h1 h2 => match us, ws, h1, h2 with | [], [_], _, _ => rfl)) rfl funM_len) (by omega))
  t__law_text := (by
    obtain ⟨fd, D⟩ := F.d__law_text
    exact CalG.mono (calG_fn (m := funM 3 1 (b__law_text (callN n))) (fnG_body D sc__law_text (fb__law_text F T)) (bindK_of D (fun _ _ _ _ _ _ us ws h1 h2 => match us, ws, h1, h2 with | [_], [], _, _ => rfl)) rfl funM_len) (by omega))
  t__law_take := (by
    obtain ⟨fd, D⟩ := F.d__law_take
    exact CalG.mono (calG_fn (m := funM 3 2 (b__law_take (callN n))) (fnG_body D sc__law_take (fb__law_take F T)) (bindK_of D (fun _ _ _ _ _ _ us ws h1 h2 => match us, ws, h1, h2 with | [_, _], [], _, _ => rfl)) rfl funM_len) (by omega))
  t__law_words := (by
    obtain ⟨fd, D⟩ := F.d__law_words
    exact CalG.mono (calG_fn (m := funM 7 2 (b__law_words_v2 (callN n))) (fnG_body D sc__law_words (fb__law_words F T)) (bindK_of D (fun _ _ _ _ _ _ us ws h1 h2 => match us, ws, h1, h2 with | [_, _], [], _, _ => rfl)) rfl funM_len) (by omega))
  t_table_from := (by
    obtain ⟨fd, D⟩ := F.d_table_from
    exact CalG.mono (calG_fn (m := funM 1 1 (b_table_from_v3 (callN n))) (fnG_body D sc_table_from (fb_table_from F T)) (bindK_of D (fun _ _ _ _ _ _ us ws h1 h2 => match us, ws, h1, h2 with | [_], [], _, _ => rfl)) rfl funM_len) (by omega))
  t_rows_with := (by
    obtain ⟨fd, D⟩ := F.d_rows_with
    exact CalG.mono (calG_fn (m := funM 4 2 (b_rows_with_v2 (callN n))) (fnG_body D sc_rows_with (fb_rows_with F T)) (bindK_of D (fun _ _ _ _ _ _ us ws h1 h2 => match us, ws, h1, h2 with | [_, _], [], _, _ => rfl)) rfl funM_len) (by omega))
  t_ties_in := (by
    obtain ⟨fd, D⟩ := F.d_ties_in
    exact CalG.mono (calG_fn (m := funM 6 1 (b_ties_in_v2 (callN n))) (fnG_body D sc_ties_in (fb_ties_in F T)) (bindK_of D (fun _ _ _ _ _ _ us ws h1 h2 => match us, ws, h1, h2 with | [_], [], _, _ => rfl)) rfl funM_len) (by omega))
  t__law_word := (by
    obtain ⟨fd, D⟩ := F.d__law_word
    exact CalG.mono (calG_fn (m := funM 2 1 (b__law_word_v2 (callN n))) (fnG_body D sc__law_word (fb__law_word F T)) (bindK_of D (fun _ _ _ _ _ _ us ws h1 h2 => match us, ws, h1, h2 with | [_], [], _, _ => rfl)) rfl funM_len) (by omega))
  t_Table := (by
    obtain ⟨fd, D⟩ := F.d_Table
    exact CalG.mono (calG_cls (m := initM 3 1 (b_Table (callN n))) F.mk_Table (fnG_init (n := 1) rfl D sc_Table (fb_Table F T)) (bindK_of D (fun _ _ _ _ _ _ us ws h1 h2 => match us, ws, h1, h2 with | [_, _], [], _, _ => rfl)) rfl initM_len) (by omega))
  t_text_with := (by
    obtain ⟨fd, D⟩ := F.d_text_with
    exact CalG.mono (calG_fn (m := funM 3 1 (b_text_with (callN n))) (fnG_body D sc_text_with (fb_text_with F T)) (bindK_of D (fun _ _ _ _ _ _ us ws h1 h2 => match us, ws, h1, h2 with | [_], [], _, _ => rfl)) rfl funM_len) (by omega))
  t_is_word := (by
    obtain ⟨fd, D⟩ := F.d_is_word
    exact CalG.mono (calG_fn (m := funM 2 1 (b_is_word_v2 (callN n))) (fnG_body D sc_is_word (fb_is_word F T)) (bindK_of D (fun _ _ _ _ _ _ us ws h1 h2 => match us, ws, h1, h2 with | [_], [], _, _ => rfl)) rfl funM_len) (by omega))
  t_read_rows := (by
    obtain ⟨fd, D⟩ := F.d_read_rows
    exact CalG.mono (calG_fn (m := funM 5 1 (b_read_rows (callN n))) (fnG_body D sc_read_rows (fb_read_rows F T)) (bindK_of D (fun _ _ _ _ _ _ us ws h1 h2 => match us, ws, h1, h2 with | [_], [], _, _ => rfl)) rfl funM_len) (by omega))
  t_is_full := (by
    obtain ⟨fd, D⟩ := F.d_is_full
    exact CalG.mono (calG_fn (m := funM 3 1 (b_is_full (callN n))) (fnG_body D sc_is_full (fb_is_full F T)) (bindK_of D (fun _ _ _ _ _ _ us ws h1 h2 => match us, ws, h1, h2 with | [_], [], _, _ => rfl)) rfl funM_len) (by omega))
  str := by
    intro c m e
    unfold strT at e
    split at e
    · rename_i h
      subst h
      cases e
      obtain ⟨fd, D⟩ := F.d_Table___str__
      exact ⟨_, fd, F.me_Table___str__.at_, F.me_Table___str__.fn, fnG_body D sc_Table___str__ (fb_Table___str__ F T), bindK_of D (fun _ _ _ _ _ _ us ws h1 h2 => match us, ws, h1, h2 with | [_], [], _, _ => rfl)⟩
    · cases e
theorem tabN (F : Fc K mg) : ∀ n : Nat, Tab P w K mg base (3 * n) (callN n)
  | 0 => tab0 F
  | n + 1 => tabS F (tabN F n)
theorem law_b {fd : FuncData} (D : FunD K "law" "law" (defArgs (top 30)) (defBody (top 30)) (defScope (top 30)) [] [] (He.ga K "law") fd) (s : Shared) (u : Value) : BindsTo s fd ⟨[u], []⟩ [("_law_cells", u)] := bindK_of (ks := []) (ps := ["_law_cells"]) D (fun _ _ _ _ _ _ us ws h1 h2 => match us, ws, h1, h2 with | [_], [], _, _ => rfl) s [u] [] rfl rfl
theorem law_f (F : Fc K mg) (n : Nat) {fd : FuncData} (D : FunD K "law" "law" (defArgs (top 30)) (defBody (top 30)) (defScope (top 30)) [] [] (He.ga K "law") fd) : FnG P w K mg base (3 * n + 3) (He.ga K "law") fd ["_law_cells"] (spM K 1 (funM 2 1 (b_law_v42 (callN n)))) := fnG_body D sc_law (fb_law F (tabN F n))
end
def dd_law : He.DefD := ⟨("law", none), "law", "law", defArgs (top 30), defBody (top 30), defScope (top 30), [], []⟩
def dd__law_right : He.DefD := ⟨("_law_right", none), "_law_right", "_law_right", defArgs (top 29), defBody (top 29), defScope (top 29), [], []⟩
def dd__law_tray : He.DefD := ⟨("_law_tray", none), "_law_tray", "_law_tray", defArgs (top 21), defBody (top 21), defScope (top 21), [], []⟩
def dd_of_web : He.DefD := ⟨("of_web", none), "of_web", "of_web", defArgs (top 19), defBody (top 19), defScope (top 19), [], []⟩
def dd__law_text : He.DefD := ⟨("_law_text", none), "_law_text", "_law_text", defArgs (top 25), defBody (top 25), defScope (top 25), [], []⟩
def dd__law_take : He.DefD := ⟨("_law_take", none), "_law_take", "_law_take", defArgs (top 22), defBody (top 22), defScope (top 22), [], []⟩
def dd__law_words : He.DefD := ⟨("_law_words", none), "_law_words", "_law_words", defArgs (top 28), defBody (top 28), defScope (top 28), [], []⟩
def dd_Table___str__ : He.DefD := ⟨("Table", some "__str__"), "__str__", "Table.__str__", defArgs (inClass (top 14) 2), defBody (inClass (top 14) 2), defScope (inClass (top 14) 2), [], []⟩
def dd_table_from : He.DefD := ⟨("table_from", none), "table_from", "table_from", defArgs (top 15), defBody (top 15), defScope (top 15), [], []⟩
def dd_rows_with : He.DefD := ⟨("rows_with", none), "rows_with", "rows_with", defArgs (top 17), defBody (top 17), defScope (top 17), [], []⟩
def dd_ties_in : He.DefD := ⟨("ties_in", none), "ties_in", "ties_in", defArgs (top 18), defBody (top 18), defScope (top 18), [], []⟩
def dd__law_word : He.DefD := ⟨("_law_word", none), "_law_word", "_law_word", defArgs (top 27), defBody (top 27), defScope (top 27), [], []⟩
def dd_Table : He.DefD := ⟨("Table", some "__init__"), "__init__", "Table.__init__", defArgs (inClass (top 14) 0), defBody (inClass (top 14) 0), defScope (inClass (top 14) 0), [], []⟩
def dd_text_with : He.DefD := ⟨("text_with", none), "text_with", "text_with", defArgs (top 13), defBody (top 13), defScope (top 13), [], []⟩
def dd_is_word : He.DefD := ⟨("is_word", none), "is_word", "is_word", defArgs (top 9), defBody (top 9), defScope (top 9), [], []⟩
def dd_read_rows : He.DefD := ⟨("read_rows", none), "read_rows", "read_rows", defArgs (top 12), defBody (top 12), defScope (top 12), [], []⟩
def dd_is_full : He.DefD := ⟨("is_full", none), "is_full", "is_full", defArgs (top 11), defBody (top 11), defScope (top 11), [], []⟩
def fn : List He.DefD := dd_law :: dd__law_right :: dd__law_tray :: dd_of_web :: dd__law_text :: dd__law_take :: dd__law_words :: dd_Table___str__ :: dd_table_from :: dd_rows_with :: dd_ties_in :: dd__law_word :: dd_Table :: dd_text_with :: dd_is_word :: dd_read_rows :: dd_is_full :: []
def fa : List He.Fa := .free "abs" :: .free "all" :: .free "divmod" :: .free "int" :: .free "isinstance" :: .free "len" :: .free "max" :: .free "min" :: .free "range" :: .free "sorted" :: .free "str" :: .free "tuple" :: .free "zip" :: .str "LETTERS" "abcdefghijklmnopqrstuvwxyz" :: .int "LONGEST_NAME" 8 :: .int "MOST_COLUMNS" 8 :: .int "MOST_ROWS" 8 :: .glo "law" :: .keep "law" :: .glo "_law_right" :: .keep "_law_right" :: .glo "_law_tray" :: .keep "_law_tray" :: .glo "of_web" :: .keep "of_web" :: .glo "_law_text" :: .keep "_law_text" :: .glo "_law_take" :: .keep "_law_take" :: .glo "_law_words" :: .keep "_law_words" :: .glo "table_from" :: .keep "table_from" :: .glo "rows_with" :: .keep "rows_with" :: .glo "ties_in" :: .keep "ties_in" :: .glo "_law_word" :: .keep "_law_word" :: .glo "Table" :: .keep "Table" :: .mkr "Table" :: .cls "Table" :: .glo "text_with" :: .keep "text_with" :: .glo "is_word" :: .keep "is_word" :: .glo "read_rows" :: .keep "read_rows" :: .glo "is_full" :: .keep "is_full" :: .noat "Table" "height" :: .noat "Table" "rows" :: .noat "Table" "text" :: .noat "Table" "width" :: .meth "Table" "__str__" :: []
def ex : List Ex := [kitB isi, ownB ["Table"]]
theorem facts {K : PySem.W.Frag} {h : Heap} {mg : Str → Option Value} (X : K.In h) (G : h.Ns mainGlobals mg) (c : He.SaysD fa fn K) (xx : (ex.all fun f => f K) = true) : Fc K mg := by
  have cc := c
  exact {
    b_abs := He.free_ok X G (c.fact 0 (f := .free "abs") rfl),
    b_all := He.free_ok X G (c.fact 1 (f := .free "all") rfl),
    b_divmod := He.free_ok X G (c.fact 2 (f := .free "divmod") rfl),
    b_int := He.free_ok X G (c.fact 3 (f := .free "int") rfl),
    b_isinstance := He.free_ok X G (c.fact 4 (f := .free "isinstance") rfl),
    b_len := He.free_ok X G (c.fact 5 (f := .free "len") rfl),
    b_max := He.free_ok X G (c.fact 6 (f := .free "max") rfl),
    b_min := He.free_ok X G (c.fact 7 (f := .free "min") rfl),
    b_range := He.free_ok X G (c.fact 8 (f := .free "range") rfl),
    b_sorted := He.free_ok X G (c.fact 9 (f := .free "sorted") rfl),
    b_str := He.free_ok X G (c.fact 10 (f := .free "str") rfl),
    b_tuple := He.free_ok X G (c.fact 11 (f := .free "tuple") rfl),
    b_zip := He.free_ok X G (c.fact 12 (f := .free "zip") rfl),
    c_LETTERS := He.str_ok X G (c.fact 13 (f := .str "LETTERS" "abcdefghijklmnopqrstuvwxyz") rfl),
    c_LONGEST_NAME := He.int_ok X G (c.fact 14 (f := .int "LONGEST_NAME" 8) rfl),
    c_MOST_COLUMNS := He.int_ok X G (c.fact 15 (f := .int "MOST_COLUMNS" 8) rfl),
    c_MOST_ROWS := He.int_ok X G (c.fact 16 (f := .int "MOST_ROWS" 8) rfl),
    g_law := He.glo_ok X G (c.fact 17 (f := .glo "law") rfl),
    k_law := He.keep_ok (c.fact 18 (f := .keep "law") rfl),
    g__law_right := He.glo_ok X G (c.fact 19 (f := .glo "_law_right") rfl),
    k__law_right := He.keep_ok (c.fact 20 (f := .keep "_law_right") rfl),
    g__law_tray := He.glo_ok X G (c.fact 21 (f := .glo "_law_tray") rfl),
    k__law_tray := He.keep_ok (c.fact 22 (f := .keep "_law_tray") rfl),
    g_of_web := He.glo_ok X G (c.fact 23 (f := .glo "of_web") rfl),
    k_of_web := He.keep_ok (c.fact 24 (f := .keep "of_web") rfl),
    g__law_text := He.glo_ok X G (c.fact 25 (f := .glo "_law_text") rfl),
    k__law_text := He.keep_ok (c.fact 26 (f := .keep "_law_text") rfl),
    g__law_take := He.glo_ok X G (c.fact 27 (f := .glo "_law_take") rfl),
    k__law_take := He.keep_ok (c.fact 28 (f := .keep "_law_take") rfl),
    g__law_words := He.glo_ok X G (c.fact 29 (f := .glo "_law_words") rfl),
    k__law_words := He.keep_ok (c.fact 30 (f := .keep "_law_words") rfl),
    g_table_from := He.glo_ok X G (c.fact 31 (f := .glo "table_from") rfl),
    k_table_from := He.keep_ok (c.fact 32 (f := .keep "table_from") rfl),
    g_rows_with := He.glo_ok X G (c.fact 33 (f := .glo "rows_with") rfl),
    k_rows_with := He.keep_ok (c.fact 34 (f := .keep "rows_with") rfl),
    g_ties_in := He.glo_ok X G (c.fact 35 (f := .glo "ties_in") rfl),
    k_ties_in := He.keep_ok (c.fact 36 (f := .keep "ties_in") rfl),
    g__law_word := He.glo_ok X G (c.fact 37 (f := .glo "_law_word") rfl),
    k__law_word := He.keep_ok (c.fact 38 (f := .keep "_law_word") rfl),
    g_Table := He.glo_ok X G (c.fact 39 (f := .glo "Table") rfl),
    k_Table := He.keep_ok (c.fact 40 (f := .keep "Table") rfl),
    mk_Table := He.mkr_ok (c.fact 41 (f := .mkr "Table") rfl),
    cls_Table := He.cls_ok (c.fact 42 (f := .cls "Table") rfl),
    g_text_with := He.glo_ok X G (c.fact 43 (f := .glo "text_with") rfl),
    k_text_with := He.keep_ok (c.fact 44 (f := .keep "text_with") rfl),
    g_is_word := He.glo_ok X G (c.fact 45 (f := .glo "is_word") rfl),
    k_is_word := He.keep_ok (c.fact 46 (f := .keep "is_word") rfl),
    g_read_rows := He.glo_ok X G (c.fact 47 (f := .glo "read_rows") rfl),
    k_read_rows := He.keep_ok (c.fact 48 (f := .keep "read_rows") rfl),
    g_is_full := He.glo_ok X G (c.fact 49 (f := .glo "is_full") rfl),
    k_is_full := He.keep_ok (c.fact 50 (f := .keep "is_full") rfl),
    ok_height := (fun c e => by
    have e : c = "Table" := by simpa [ok_height] using e
    rcases e with rfl
    · exact ⟨He.cls_ok (cc.fact 42 (f := .cls "Table") rfl), He.noat_ok (cc.fact 51 (f := .noat "Table" "height") rfl)⟩),
    ok_rows := (fun c e => by
    have e : c = "Table" := by simpa [ok_rows] using e
    rcases e with rfl
    · exact ⟨He.cls_ok (cc.fact 42 (f := .cls "Table") rfl), He.noat_ok (cc.fact 52 (f := .noat "Table" "rows") rfl)⟩),
    ok_text := (fun c e => by
    have e : c = "Table" := by simpa [ok_text] using e
    rcases e with rfl
    · exact ⟨He.cls_ok (cc.fact 42 (f := .cls "Table") rfl), He.noat_ok (cc.fact 53 (f := .noat "Table" "text") rfl)⟩),
    ok_width := (fun c e => by
    have e : c = "Table" := by simpa [ok_width] using e
    rcases e with rfl
    · exact ⟨He.cls_ok (cc.fact 42 (f := .cls "Table") rfl), He.noat_ok (cc.fact 54 (f := .noat "Table" "width") rfl)⟩),
    isi := isi_ok (cs := ["Table"]) (ex_at xx 0) (ex_at xx 1) (by decide +kernel),
    me_Table___str__ := He.meth_ok (c.fact 55 (f := .meth "Table" "__str__") rfl),
    d_law := c.def_ 0 (d := dd_law) rfl,
    d__law_right := c.def_ 1 (d := dd__law_right) rfl,
    d__law_tray := c.def_ 2 (d := dd__law_tray) rfl,
    d_of_web := c.def_ 3 (d := dd_of_web) rfl,
    d__law_text := c.def_ 4 (d := dd__law_text) rfl,
    d__law_take := c.def_ 5 (d := dd__law_take) rfl,
    d__law_words := c.def_ 6 (d := dd__law_words) rfl,
    d_Table___str__ := c.def_ 7 (d := dd_Table___str__) rfl,
    d_table_from := c.def_ 8 (d := dd_table_from) rfl,
    d_rows_with := c.def_ 9 (d := dd_rows_with) rfl,
    d_ties_in := c.def_ 10 (d := dd_ties_in) rfl,
    d__law_word := c.def_ 11 (d := dd__law_word) rfl,
    d_Table := c.def_ 12 (d := dd_Table) rfl,
    d_text_with := c.def_ 13 (d := dd_text_with) rfl,
    d_is_word := c.def_ 14 (d := dd_is_word) rfl,
    d_read_rows := c.def_ 15 (d := dd_read_rows) rfl,
    d_is_full := c.def_ 16 (d := dd_is_full) rfl }
def names : List PySem.Str := "_wall" :: "BadValue" :: "InvalidText" :: "MOST_ROWS" :: "MOST_COLUMNS" :: "LETTERS" :: "LONGEST_NAME" :: "is_word" :: "is_full" :: "read_rows" :: "text_with" :: "Table" :: "table_from" :: "rows_with" :: "ties_in" :: "of_web" :: "_law_tray" :: "_law_take" :: "_law_filled" :: "_law_rows" :: "_law_text" :: "_law_full" :: "_law_word" :: "_law_words" :: "_law_right" :: []
abbrev R : PySem.W.OpenRow := PySem.W.OpenLaw.row PySem.Challenge.rw_oddrings_k11_whole_tables_of_webs
abbrev hk : PySem.W.Hook := hookX 4 fa fn ex
def ob (s : PySem.W.SharedT) : AlX := obsX 4 fa fn ex (HandSHeadRun.getT s)
theorem ob_eq (s : PySem.W.SharedT) : ob s = hk.obs s.abs := obsX_eq (HandSHeadRun.getT_eq s)
theorem run (w : World) : HandSHeadRun.RunEq R (PySem.W.view R.prog [30]) hk ob 40000 names w := by
  intro os
  kernel_rfl
/-- the law, from the evaluator's answer -/
theorem holds (n : Nat) (hn : n ≤ 60) (h : ∀ ns : List Int, ns.length ≤ 63 → (∀ i ∈ ns, Builtin.Int.intBits i ≤ 1048576) → ∃ S, funM 2 1 (b_law_v42 (callN n)) [.scr ns] [] = .ok (.bl true) S) : PySem.Challenge.rw_oddrings_k11_whole_tables_of_webs.Holds := by
  w_on; o_law
  refine HandSHeadRun.head_any (r := PySem.W.OpenLaw.row PySem.Challenge.rw_oddrings_k11_whole_tables_of_webs) (q := PySem.W.view (PySem.W.OpenLaw.row PySem.Challenge.rw_oddrings_k11_whole_tables_of_webs).prog [30]) (H := hk) (ob := ob) (M := 40000) (loose := names) (d := HandSHeadRun.topDef (PySem.W.OpenLaw.row PySem.Challenge.rw_oddrings_k11_whole_tables_of_webs).prog 30) (kwd := []) ob_eq
    (by kernel_rfl) (fun s => by kernel_rfl) run (by kernel_rfl) (by kernel_rfl) (by kernel_rfl) (by rfl) (by first | assumption | decide +kernel) (by decide +kernel) ⟨rfl, rfl, rfl, rfl, rfl, by decide +kernel⟩ ?hw ?hc
  case hw => w_witness2
  case hc =>
    refine walk_ev (l := PySem.Challenge.rw_oddrings_k11_whole_tables_of_webs) (n := 63) (k := 3 * n + 3) (x := "_law_cells") rfl (by decide) (by kernel_rfl) ⟨rfl, ?_, ?_⟩ ?F h
    · show 1 + claimMargin + 3 * (3 * n + 3) + 5 < recursionLimit
      have e : 1 + claimMargin + 3 * (3 * 60 + 3) + 5 < recursionLimit := by decide
      omega
    · show 4 + 16 * (3 * n + 3) + 200 < cLine
      have e : 4 + 16 * (3 * 60 + 3) + 200 < cLine := by decide
      omega
    intro w mg fa h Y G hmg0
    obtain ⟨K, KX, c, xx⟩ := Y
    have hmg : mg ("law" : PySem.Str) = some (.ref fa) := by
      have e : (HandSHeadRun.topDef (PySem.W.OpenLaw.row PySem.Challenge.rw_oddrings_k11_whole_tables_of_webs).prog 30).name = ("law" : PySem.Str) := by kernel_rfl
      rw [← e]
      exact hmg0
    have F := facts KX G c xx
    have e := hmg.symm.trans F.g_law
    cases e
    obtain ⟨fd, D⟩ := F.d_law
    exact ⟨K, fd, KX, law_b D, fun base _ _ => law_f F n D⟩

end Lw
namespace Ev
open PySem PySem.Spec PySem.SeqAt L2 PyProof.Rows
section
variable {X : Cx} {Wx : WX} {K : PySem.W.Frag} {W : Wd} {S : Store} {H : Hp} {pos pos' p : Pos} {k v : Expr}
theorem upd_upd {H : Hp} {a : Addr} {o o' : HO} : upd (upd H a o) a o' = upd H a o' := funext fun b => by
  by_cases e : b = a
  · subst e; rw [upd_same, upd_same]
  · rw [upd_ne e, upd_ne e, upd_ne e]
end
end Ev
namespace Ev
open PySem PySem.Spec PySem.SeqAt L2 PyProof.Rows PySem.W
mutual
def toPY (S : Store) : D → Option PyData
  | .non => some .none
  | .bl b => some (.bool b)
  | .int i => some (.int i)
  | .str s => some (.str s)
  | .tup xs => (toPYs S xs).map .tuple
  | .lst xs => (toPYs S xs).map .list
  | .ref i => (match S[i]? with
    | some (some (.dT [])) => some (.dict [])
    | some (some (.dK [(.inl i, .int j)])) => some (.dict [(.int i, .int j)])
    | _ => none)
  | .ins _ _ => none
  | .fn _ => none
  | .scr _ => none
  | .slf => none
  | .dic _ => none
  | .exn _ _ _ _ => none
  | .lam _ _ _ _ _ => none
def toPYs (S : Store) : List D → Option (List PyData)
  | [] => some []
  | x :: xs => (toPY S x).bind fun a => (toPYs S xs).map fun b => a :: b
end
section
variable {X : Cx} {pins : List (Addr × Obj)} {σ : L2.St} {H : Hp} {s : Shared} {W : Wd} {S : Store}
theorem keyIs_inl {i : Int} {v : Value} (h : keyIs (.inl i) v = true) : ∃ t, v = .int i t := by
  rcases keyIs_shape h with ⟨j, t, e, hv⟩ | ⟨x, t, e, hv⟩
  · injection e with e; subst e; exact ⟨t, hv⟩
  · cases e
theorem pairs_one {prog : Program} {w : World} {es : List DictEntry} {k : Key} {v : Value} (h : Pairs (mixKind prog w) es [(k, v)]) : ∃ e, es = [e] ∧ keyIs k e.key = true ∧ e.val = v := by
  cases h with
  | cons h1 h2 h3 =>
    cases h3
    exact ⟨_, rfl, h1, h2⟩
mutual
theorem reads_ofNY (hB : ∃ o, X.base.get? sysModules = some o) (I : Inv X pins σ H s) (g : Good X.K W S H) : ∀ (d : D) (v : V) (u : Value) (p : PyData), toPY S d = some p → Rep X.K W d v → RelV v u → ∃ as, Reads s.heap u p as ∧ sysModules ∉ as
  | .non, v, u, p, e, q, r => by cases e; cases q; cases r; exact ⟨_, .none, List.not_mem_nil⟩
  | .bl b, v, u, p, e, q, r => by cases e; cases q; cases r; exact ⟨_, .bool b, List.not_mem_nil⟩
  | .int i, v, u, p, e, q, r => by cases e; cases q; obtain ⟨t, rfl⟩ := r; exact ⟨_, .int i t, List.not_mem_nil⟩
  | .str i, v, u, p, e, q, r => by cases e; cases q; obtain ⟨t, rfl⟩ := r; exact ⟨_, .str i t, List.not_mem_nil⟩
  | .tup ds, v, u, p, e, q, r => by
    simp only [toPY] at e
    obtain ⟨ps, e1, rfl⟩ := Option.map_eq_some_iff.mp e
    cases q with
    | tup q r' =>
      cases r
      obtain ⟨its, rv, ⟨o, ho, hc, n, hd⟩, hz⟩ := I.tuple (g.sqT q)
      obtain ⟨as, ra, nm⟩ := readsAll_ofNY hB I g ds _ _ _ e1 r' rv
      exact ⟨as, .tuple ho hc hd (by simpa using ra), nm⟩
  | .lst ds, v, u, p, e, q, r => by
    simp only [toPY] at e
    obtain ⟨ps, e1, rfl⟩ := Option.map_eq_some_iff.mp e
    cases q with
    | lst q r' =>
      cases r
      obtain ⟨its, rv, ⟨o, n, ho, hc, _, hd⟩, hz⟩ := I.list (SqL.of (K := X.K) (g.sub _ _ q))
      obtain ⟨as, ra, nm⟩ := readsAll_ofNY hB I g ds _ _ _ e1 r' rv
      exact ⟨_, .list ho hc hd (by simpa using ra), fun z => (List.mem_cons.mp z).elim (fun z => not_sys hB I (g.sub _ _ q) z.symm) nm⟩
  | .ref i, v, u, p, e, q, r => by
    simp only [toPY] at e
    split at e
    · rename_i es
      cases e
      obtain ⟨a, h1, h2, h3, h4⟩ := g.cell i _ es
      cases q with
      | ref q =>
        rw [h1] at q
        cases q
        obtain rfl : u = Value.ref a := r
        obtain ⟨vk, k1, k2, k3⟩ := h4
        have : vk = [] := by simpa using k2
        subst this
        obtain ⟨_, ns, xs, kt, o, es', ep, d1, d2, d3, d4, _⟩ := dt_of I.hok k1
        cases kt
        have : es'.toList = [] := by simpa using d4
        exact ⟨_, .dict (kvs := []) d1 d2.1 d3 (by rw [this]; exact .nil) (by rw [this]; exact .nil), fun z => by
          have z' : sysModules = a := by simpa using z
          rw [← z'] at ns
          simp at ns⟩
    · rename_i i0 j0 es
      cases e
      obtain ⟨a, h1, h2, h3, h4⟩ := g.cell i _ es
      cases q with
      | ref q =>
        rw [h1] at q
        cases q
        obtain rfl : u = Value.ref a := r
        obtain ⟨vk, k1, k2, k3⟩ := h4
        obtain ⟨_, ns, xs, kv, o, es', ep, d1, d2, d3, _, d4, _⟩ := dk_of I.hok k1
        match vk, k2, k3, kv, d4 with
        | [(k0, v0)], k2, k3, kv, d4 =>
          have ek : k0 = .inl i0 := by simpa using k2
          subst ek
          cases k3 with
          | cons q3 _ =>
            cases q3
            cases kv with
            | @cons _ p _ ps hp ht =>
              cases ht
              obtain ⟨pk, pv⟩ := p
              obtain ⟨hk, tv, rfl⟩ := hp
              dsimp at hk
              subst hk
              obtain ⟨en, e1, e2, e3⟩ := pairs_one d4
              obtain ⟨t0, e4⟩ := keyIs_inl e2
              refine ⟨_, .dict (kvs := [(.int i0, .int j0)]) d1 d2.1 d3 (as := [] ++ []) (bs := [] ++ []) ?_ ?_, fun z => ?_⟩
              · rw [e1]
                show ReadsAll _ [en.key] [PyData.int i0] _
                rw [e4]
                exact .cons (.int i0 t0) .nil
              · rw [e1]
                show ReadsAll _ [en.val] [PyData.int j0] _
                rw [e3]
                exact .cons (.int j0 tv) .nil
              · have z' : sysModules = a := by simpa using z
                rw [← z'] at ns
                simp at ns
    · cases e
  | .ins _ _, v, u, p, e, q, r => by cases e
  | .fn _, v, u, p, e, q, r => by cases e
  | .scr _, v, u, p, e, q, r => by cases e
  | .slf, v, u, p, e, q, r => by cases e
  | .dic _, v, u, p, e, q, r => by cases e
  | .exn _ _ _ _, v, u, p, e, q, r => by cases e
  | .lam _ _ _ _ _, v, u, p, e, q, r => by cases e
theorem readsAll_ofNY (hB : ∃ o, X.base.get? sysModules = some o) (I : Inv X pins σ H s) (g : Good X.K W S H) : ∀ (ds : List D) (vs : List V) (us : List Value) (ps : List PyData), toPYs S ds = some ps → Reps X.K W ds vs → Vals vs us → ∃ as, ReadsAll s.heap us ps as ∧ sysModules ∉ as
  | [], vs, us, ps, e, q, r => by cases e; cases q; cases r; exact ⟨_, .nil, List.not_mem_nil⟩
  | d :: ds, vs, us, ps, e, q, r => by
    simp only [toPYs] at e
    obtain ⟨p1, e1, e2⟩ := Option.bind_eq_some_iff.mp e
    obtain ⟨p2, e3, rfl⟩ := Option.map_eq_some_iff.mp e2
    cases q with
    | cons q1 q2 =>
      cases r with
      | cons r1 r2 =>
        obtain ⟨as, ra, na⟩ := reads_ofNY hB I g d _ _ _ e1 q1 r1
        obtain ⟨bs, rb, nb⟩ := readsAll_ofNY hB I g ds _ _ _ e3 q2 r2
        exact ⟨_, .cons ra rb, fun z => (List.mem_append.mp z).elim na nb⟩
end

end
end Ev
namespace Ev
open PySem PySem.Spec PySem.SeqAt L2 PyProof.Rows PySem.W
end Ev
namespace Sp
open PySem L2 Ev
abbrev Rw := List (List Int)
def iD (r : List Int) : List D := r.map D.int
abbrev tI (r : List Int) : D := .tup (iD r)
abbrev lI (r : List Int) : D := .lst (iD r)
abbrev rowsL (R : Rw) : D := .lst (R.map lI)
abbrev rowsT (R : Rw) : D := .tup (R.map tI)
abbrev lotsL (R : Rw) : D := .lst (R.map tI)
def G01 (w : Nat) (R : Rw) : Prop := ∀ r ∈ R, r.length = w ∧ ∀ i ∈ r, i = 0 ∨ i = 1
theorem small {n : Nat} (h : n ≤ 1000000) : n ≤ sizeLine := Nat.le_trans h (by decide)
theorem iD_len {r : List Int} : (iD r).length = r.length := by simp [iD]
theorem iD_get {r : List Int} {i : Nat} (h : i < (iD r).length) : (iD r)[i] = .int (r[i]'(by simpa [iD] using h)) := by simp [iD]
theorem iD_app {a b : List Int} : iD (a ++ b) = iD a ++ iD b := by simp [iD]
theorem ints_iD : ∀ r : List Int, intsOf (iD r) = some r
  | [] => rfl
  | i :: r => by
    have := ints_iD r
    simp only [iD, List.map_cons] at this ⊢
    simp [intsOf, this]
theorem bls_of : ∀ l : List Bool, blsOf (l.map D.bl) = some l
  | [] => rfl
  | x :: l => by simp [blsOf, bls_of l]
section
variable {S S1 S2 : Store} {i j : Int} {ns : List Int} {R : Rw} {xs ys : List D} {δ : En}
theorem all_ok {l : List Bool} : pAll true [.lst (l.map D.bl)] S = some (.bl (l.all id), S) := by simp [pAll, lstOf, bls_of]
theorem any_ok {l : List Bool} : pAll false [.lst (l.map D.bl)] S = some (.bl (l.any id), S) := by simp [pAll, lstOf, bls_of]
theorem sum_lI : pSum [lI ns] S = some (.int ns.sum, S) := by simp [pSum, lstOf, ints_iD]
theorem len_lI : pLen [lI ns] S = some (.int ns.length, S) := by rw [pLen_lst, iD_len]
theorem len_tI : pLen [tI ns] S = some (.int ns.length, S) := by rw [pLen_tup, iD_len]
theorem len_rL : pLen [rowsL R] S = some (.int R.length, S) := by rw [pLen_lst, List.length_map]
theorem len_rT : pLen [rowsT R] S = some (.int R.length, S) := by rw [pLen_tup, List.length_map]
theorem len_lo : pLen [lotsL R] S = some (.int R.length, S) := by rw [pLen_lst, List.length_map]
theorem eVarR {k : Nat} {d : D} (h : δ[k]? = some (some d)) (hd : d ≠ .slf) : eVar k δ S = .ok d S := by
  unfold eVar
  rw [h]
  cases d <;> first | rfl | exact absurd rfl hd
theorem tuple_lst (h : xs.length ≤ sizeLine) : pTuple [.lst xs] S = some (.tup xs, S) := by simp only [pTuple, lstOf, Option.bind_some, newT_ev h]
theorem add_ll (h : xs.length + ys.length ≤ sizeLine) : pAdd (.lst xs) (.lst ys) S = some (.lst (xs ++ ys), S) := by
  have : (xs ++ ys).length ≤ sizeLine := by simpa using h
  simp only [pAdd, plstOf]
  exact newL_ev this
variable {α β : Type} {me : ME} {mt : MT} {δ0 : En} {k : Nat}
end
end Sp
namespace Bd
open PySem L2 Ev
end Bd
namespace Bd
open PySem L2 Ev
end Bd
namespace Sp
open PySem L2 Ev Bd
theorem toPs_ints : ∀ r : List Int, toPs (iD r) = some (r.map PyData.int)
  | [] => rfl
  | i :: r => by
    show (toP (.int i)).bind (fun a => (toPs (iD r)).map fun b => a :: b) = _
    rw [toPs_ints r]; rfl
theorem toPSs_ints (S : Store) : ∀ r : List Int, toPSs S (iD r) = some (r.map PyData.int)
  | [] => rfl
  | i :: r => by
    show (toPS S (.int i)).bind (fun a => (toPSs S (iD r)).map fun b => a :: b) = _
    rw [toPSs_ints S r]; simp [toPS]
theorem any_one (r : List Int) : ((r.map PyData.int).any fun b => PyData.eqv b (.int 1)) = decide ((1 : Int) ∈ r) := by
  induction r with
  | nil => rfl
  | cons i r ih =>
    simp only [List.map_cons, List.any_cons, ih, PyData.eqv]
    by_cases h : i = 1
    · subst h; simp
    · have : ((1 : Int) ∈ i :: r) ↔ 1 ∈ r := by simp; omega
      simp [h, this]
theorem in_tup {S : Store} {r : List Int} : pIn (.int 1) (.tup (iD r)) S = some (.bl (decide ((1 : Int) ∈ r)), S) := by
  simp only [pIn, inD, toPS, toPSs_ints, Option.map_some, PyData.depth, Nat.zero_le, if_true, any_one]
structure Full (h w : Nat) (R : Rw) : Prop where
  len : R.length = h
  g : G01 w R
  row : ∀ r ∈ R, (1 : Int) ∈ r
  col : ∀ k, k < w → ∃ r ∈ R, r[k]? = some 1
  h1 : 0 < h
  h2 : h ≤ 8
  w1 : 0 < w
  w2 : w ≤ 8
def dig (i : Int) : Str := toString i
def ln (r : List Int) : Str := Txt.join "" (r.map dig)
def txt (R : Rw) : Str := Txt.join "\n" (R.map ln)
theorem dig_tl {i : Int} (h : i = 0 ∨ i = 1) : TL.tl (dig i) = [48 + i.toNat] := by
  rcases h with rfl | rfl <;> decide +kernel
theorem joinL_nil : ∀ l : List (List Nat), TL.joinL [] l = l.flatten
  | [] => rfl
  | [p] => by simp [TL.joinL]
  | p :: q :: r => by
    show p ++ ([] ++ TL.joinL [] (q :: r)) = _
    rw [joinL_nil (q :: r)]; simp
theorem ln_tl {r : List Int} (h : ∀ i ∈ r, i = 0 ∨ i = 1) : TL.tl (ln r) = r.map fun i => 48 + i.toNat := by
  unfold ln
  rw [TL.join_eq, TL.tl_join, show TL.tl ("" : Str) = [] from by decide +kernel, joinL_nil, List.map_map]
  induction r with
  | nil => rfl
  | cons i r ih =>
    simp only [List.map_cons, List.flatten_cons, Function.comp]
    rw [dig_tl (h i (List.mem_cons_self ..))]
    have := ih fun j hj => h j (List.mem_cons_of_mem _ hj)
    simp only [Function.comp_def] at this ⊢
    rw [this]; rfl
theorem str_len (x : Str) : x.length = (TL.tl x).length := by simp [TL.tl, Str.length]
theorem ln_len {r : List Int} (h : ∀ i ∈ r, i = 0 ∨ i = 1) : (ln r).length = r.length := by rw [str_len, ln_tl h, List.length_map]
theorem strs_of : ∀ l : List Str, strsOf (l.map D.str) = some l
  | [] => rfl
  | x :: l => by simp [strsOf, strs_of l]
theorem join_ok {a : Str} {ys : List Str} {S : Store} (h : (ys.map (·.length)).sum + ys.length * a.length ≤ 16777216) : pJoin (.str a) [.lst (ys.map D.str)] S = some (.str (Txt.join a ys), S) := by
  simp only [pJoin, seqOf, lstOf, Option.bind_some, strs_of, h, if_true]
theorem sum_le {l : List Nat} {b : Nat} (h : ∀ x ∈ l, x ≤ b) : l.sum ≤ l.length * b := by
  induction l with
  | nil => simp
  | cons x l ih =>
    have h1 := h x (List.mem_cons_self ..)
    have h2 := ih fun y hy => h y (List.mem_cons_of_mem _ hy)
    simp only [List.sum_cons, List.length_cons, Nat.succ_mul]
    omega
theorem dig_len {i : Int} (h : i = 0 ∨ i = 1) : (dig i).length = 1 := by rw [str_len, dig_tl h]; rfl
theorem text_ev {cal : Nat → List D → M D} {h w : Nat} {R : Rw} {S : Store} (F : Full h w R) : funM 3 1 (b__law_text cal) [rowsL R] S = .ok (.str (txt R)) S := by
  unfold b__law_text
  have hR : (R.map fun r => D.lst (iD r)).length ≤ sizeLine := by rw [List.length_map, F.len]; exact small (by have := F.h2; omega)
  have one : ∀ r ∈ R, ∀ δ : En, δ.length = 3 → (eMB "str" pJoin (eC (.str "")) (aCons (eLc newL (iAny (eVar 2)) (uNm 1) tYesM (eCallV (pStrI (strT cal)) (aCons (eVar 1) aNil)) [1]) aNil)) (δ.set 2 (some (.lst (iD r)))) S = .ok (.str (ln r)) S := by
    intro r hr δ hd
    obtain ⟨g1, g2⟩ := F.g r hr
    obtain ⟨a, b, c, rfl⟩ : ∃ a b c, δ = [a, b, c] := by
      match δ, hd with
      | [a, b, c], _ => exact ⟨a, b, c, rfl⟩
    have hl : (iD r).length ≤ sizeLine := by rw [iD_len, g1]; exact small (by have := F.w2; omega)
    have e := lc_map (ds := iD r) (S := S) (me := eCallV (pStrI (strT cal)) (aCons (eVar 1) aNil)) (δ0 := wipeD [a, b, some (.lst (iD r))] [1]) (k := 1) (fun d => match d with
      | .int i => .str (dig i)
      | d => d) hl (fun d hd => by
        obtain ⟨i, hi, rfl⟩ := List.mem_map.mp hd
        refine eCallV_ok (aCons_ok rfl rfl) ?_
        rcases g2 i hi with rfl | rfl <;> rfl)
    have e2 : ((iD r).map fun d => match d with
      | .int i => D.str (dig i)
      | d => d) = (r.map dig).map D.str := by simp [iD]
    rw [e2] at e
    have hs : (((r.map dig).map (·.length)).sum + (r.map dig).length * ("" : Str).length ≤ 16777216) := by
      have h1 := sum_le (l := (r.map dig).map (·.length)) (b := 1) fun x hx => by
        obtain ⟨y, hy, rfl⟩ := List.mem_map.mp hx
        obtain ⟨i, hi, rfl⟩ := List.mem_map.mp hy
        rw [dig_len (g2 i hi)]
        exact Nat.le_refl _
      have h0 : ("" : Str).length = 0 := by decide +kernel
      rw [h0]
      simp only [List.length_map] at h1 ⊢
      have := F.w2
      omega
    exact eMB_ok rfl rfl (aCons_ok (eLc_ok (iAny_ok rfl rfl) e (newL_ev (by rw [List.length_map, List.length_map, g1]; exact small (by have := F.w2; omega)))) rfl) (join_ok hs)
  have e := lc_map (ds := R.map fun r => D.lst (iD r)) (S := S) (me := (eMB "str" pJoin (eC (.str "")) (aCons (eLc newL (iAny (eVar 2)) (uNm 1) tYesM (eCallV (pStrI (strT cal)) (aCons (eVar 1) aNil)) [1]) aNil))) (δ0 := wipeD [some (rowsL R), none, none] [2]) (k := 2) (fun d => match d with
    | .lst xs => .str (Txt.join "" (xs.map fun d => match d with
      | .int i => dig i
      | _ => Str.empty))
    | d => d) hR (fun d hd => by
      obtain ⟨r, hr, rfl⟩ := List.mem_map.mp hd
      rw [one r hr _ rfl]
      simp only [iD, List.map_map, ln]
      rfl)
  have e2 : ((R.map fun r => D.lst (iD r)).map fun d => match d with
    | .lst xs => D.str (Txt.join "" (xs.map fun d => match d with
      | .int i => dig i
      | _ => Str.empty))
    | d => d) = (R.map ln).map D.str := by
    simp only [List.map_map]
    refine List.map_congr_left fun r _ => ?_
    simp only [Function.comp, iD, List.map_map, ln]
    rfl
  rw [e2] at e
  have hs : (((R.map ln).map (·.length)).sum + (R.map ln).length * ("\n" : Str).length ≤ 16777216) := by
    have h1 := sum_le (l := (R.map ln).map (·.length)) (b := 8) fun x hx => by
      obtain ⟨y, hy, rfl⟩ := List.mem_map.mp hx
      obtain ⟨r, hr, rfl⟩ := List.mem_map.mp hy
      obtain ⟨g1, g2⟩ := F.g r hr
      rw [ln_len g2, g1]
      exact F.w2
    have h0 : ("\n" : Str).length = 1 := by decide +kernel
    rw [h0]
    simp only [List.length_map] at h1 ⊢
    have := F.h2
    have := F.len
    omega
  exact funM_rt rfl (sRet_ok (eMB_ok rfl rfl (aCons_ok (eLc_ok (iAny_ok rfl rfl) e (newL_ev (by rw [List.length_map, List.length_map, F.len]; exact small (by have := F.h2; omega)))) rfl) (join_ok hs)))
def colOf (R : Rw) (k : Nat) : List Int := R.map fun r => r.getD k 0
theorem zip_rows {h w : Nat} {R : Rw} (F : Full h w R) : pZip (R.map fun r => D.tup (iD r)) = some ((List.range w).map fun k => .tup (iD (colOf R k))) := by
  have fz : ∀ R : Rw, frzs (R.map fun r => D.tup (iD r)) = some (R.map iD) := by
    intro R
    induction R with
    | nil => rfl
    | cons r R ih => simp only [List.map_cons, frzs, frz, ih]
  obtain ⟨r0, R', e⟩ : ∃ r0 R', R = r0 :: R' := by
    cases R with
    | nil => have := F.len; have := F.h1; simp at *; omega
    | cons r R => exact ⟨r, R, rfl⟩
  have g := F.g
  have hl := F.len
  have hh := F.h2
  subst e
  unfold pZip
  rw [fz]
  simp only [List.map_cons]
  have w0 := (g r0 (List.mem_cons_self ..)).1
  have hc : (R'.map iD).length < 9 ∧ ∀ y ∈ R'.map iD, y.length = (iD r0).length := by
    refine ⟨by simp at hl ⊢; omega, fun y hy => ?_⟩
    obtain ⟨r, hr, rfl⟩ := List.mem_map.mp hy
    rw [iD_len, iD_len, w0, (g r (List.mem_cons_of_mem _ hr)).1]
  rw [if_pos hc]
  unfold zipD
  rw [iD_len, w0]
  refine congrArg some (List.map_congr_left fun k hk => ?_)
  have hk' : k < w := List.mem_range.mp hk
  have gd : ∀ r ∈ r0 :: R', (iD r).getD k .non = .int (r.getD k 0) := fun r hr => by
    have := (g r hr).1
    have h2 : k < r.length := by omega
    have h3 : k < (iD r).length := by rw [iD_len]; omega
    rw [List.getD_eq_getElem?_getD, List.getD_eq_getElem?_getD, List.getElem?_eq_getElem h2, List.getElem?_eq_getElem h3, iD_get]
    rfl
  refine congrArg D.tup ?_
  rw [← List.map_cons (f := iD), List.map_map]
  simp only [iD, colOf, List.map_map]
  exact List.map_congr_left fun r hr => gd r hr
theorem full_ev {cal : Nat → List D → M D} {h w : Nat} {R : Rw} {S : Store} (F : Full h w R) : funM 3 1 (b_is_full cal) [rowsT R] S = .ok (.bl true) S := by
  unfold b_is_full
  have hR : (R.map fun r => D.tup (iD r)).length ≤ sizeLine := by rw [List.length_map, F.len]; exact small (by have := F.h2; omega)
  have e1 := lc_map (ds := R.map fun r => D.tup (iD r)) (S := S) (me := eOp pIn (eC (.int 1)) (eVar 1)) (δ0 := wipeD [some (rowsT R), none, none] [1]) (k := 1) (fun _ => .bl true) hR (fun d hd => by
    obtain ⟨r, hr, rfl⟩ := List.mem_map.mp hd
    exact eOp_ok rfl rfl (by rw [in_tup, decide_eq_true (F.row r hr)]))
  have e2 := lc_map (ds := (List.range w).map fun k => D.tup (iD (colOf R k))) (S := S) (me := eOp pIn (eC (.int 1)) (eVar 2)) (δ0 := wipeD [some (rowsT R), none, none] [2]) (k := 2) (fun _ => .bl true) (by rw [List.length_map, List.length_range]; exact small (by have := F.w2; omega)) (fun d hd => by
    obtain ⟨k, hk, rfl⟩ := List.mem_map.mp hd
    refine eOp_ok rfl rfl ?_
    rw [in_tup, decide_eq_true]
    obtain ⟨r, hr, e⟩ := F.col k (List.mem_range.mp hk)
    refine List.mem_map.mpr ⟨r, hr, ?_⟩
    rw [List.getD_eq_getElem?_getD, e]; rfl)
  have tt : ∀ l : List D, (l.map fun _ => D.bl true) = ((l.map fun _ => true).map D.bl) := fun l => by rw [List.map_map]; rfl
  have al : ∀ l : List D, (l.map fun _ => true).all id = true := fun l => by simp
  rw [tt] at e1 e2
  have h0 : pGt (.int ((R.map fun r => D.tup (iD r)).length : Int)) (.int 0) S = some (.bl true, S) := by
    rw [pGt_ii, decide_eq_true]
    rw [List.length_map, F.len]
    have := F.h1
    omega
  refine funM_rt rfl (sRet_ok (eAnd_t (eOp_ok (eCallV_ok (aCons_ok rfl rfl) pLen_tup) rfl h0) rfl (eAnd_t (eCallV_ok (aCons_ok (eLc_ok (iAny_ok rfl rfl) e1 (newL_ev (by simpa using hR))) rfl) all_ok) (by rw [al]; rfl) (eCallV_ok (aCons_ok (eLc_ok (iZip_ok (aStar_ok rfl rfl rfl) (by rw [List.append_nil]; exact zip_rows F)) e2 (newL_ev (by simp only [List.length_map, List.length_range]; exact small (by have := F.w2; omega)))) rfl) (by rw [all_ok, al])))))
theorem nl_tl : TL.tl ("\n" : Str) = 10 :: [] := by decide +kernel
theorem split_txt {h w : Nat} {R : Rw} (F : Full h w R) : Txt.split (txt R) "\n" = R.map ln := by
  unfold txt
  refine TL.split_join nl_tl (by decide +kernel) (fun e => ?_) fun p hp => ?_
  · have := F.len; have := F.h1
    have e' := List.map_eq_nil_iff.mp e
    subst e'
    simp at *
    omega
  · obtain ⟨r, hr, rfl⟩ := List.mem_map.mp hp
    rw [ln_tl (F.g r hr).2]
    intro hm
    obtain ⟨i, hi, e⟩ := List.mem_map.mp hm
    omega
theorem txt_len {h w : Nat} {R : Rw} (F : Full h w R) : (txt R).length ≤ 72 := by
  unfold txt
  rw [TL.join_eq]
  refine Nat.le_trans (StrLaws.join_length_le _ _) ?_
  have h1 := sum_le (l := (R.map ln).map (·.length)) (b := 8) fun x hx => by
    obtain ⟨y, hy, rfl⟩ := List.mem_map.mp hx
    obtain ⟨r, hr, rfl⟩ := List.mem_map.mp hy
    obtain ⟨g1, g2⟩ := F.g r hr
    rw [ln_len g2, g1]
    exact F.w2
  have h0 : ("\n" : Str).length = 1 := by decide +kernel
  rw [h0]
  simp only [List.length_map] at h1 ⊢
  have := F.h2
  have := F.len
  omega
theorem signs_ln {r : List Int} (g : ∀ i ∈ r, i = 0 ∨ i = 1) : signs (ln r) = r.map fun i => D.str ⟨#[48 + i.toNat]⟩ := by
  have : signs (ln r) = (TL.tl (ln r)).map fun c => D.str ⟨#[c]⟩ := rfl
  rw [this, ln_tl g, List.map_map]
  rfl
theorem len_str {x : Str} {S : Store} (h : x.length ≤ sizeLine) : pLen [.str x] S = some (.int x.length, S) := by simp only [pLen, h, if_true]
theorem read_ev {cal : Nat → List D → M D} {h w : Nat} {R : Rw} {S : Store} (F : Full h w R) (h9 : cal 9 [rowsT R] S = .ok (.bl true) S) : funM 5 1 (b_read_rows cal) [.str (txt R)] S = .ok (rowsT R) S := by
  unfold b_read_rows
  have hlen : ((R.map ln).map D.str).length = h := by simp [F.len]
  have hL : ((R.map ln).map D.str).length ≤ sizeLine := by rw [hlen]; exact small (by have := F.h2; omega)
  obtain ⟨r0, R', eR⟩ : ∃ r0 R', R = r0 :: R' := by
    cases R with
    | nil => have := F.len; have := F.h1; simp at *; omega
    | cons r R => exact ⟨r, R, rfl⟩
  have hr0 : r0 ∈ R := by rw [eR]; exact List.mem_cons_self ..
  have w0 : ∀ r ∈ R, (ln r).length = w := fun r hr => by rw [ln_len (F.g r hr).2, (F.g r hr).1]
  have wl : ∀ r ∈ R, (ln r).length ≤ sizeLine := fun r hr => by rw [w0 r hr]; exact small (by have := F.w2; omega)
  have ix0 : ∀ S, pIx (.lst ((R.map ln).map D.str)) (.int 0) S = some (.str (ln r0), S) := fun S => by
    refine (pIx_lst (k := 0) (S := S) (xs := (R.map ln).map D.str) (by rw [hlen]; exact F.h1)).trans ?_
    subst eR
    rfl
  have sp : pSplit (.str (txt R)) [.str "\n"] S = some (.lst ((R.map ln).map D.str), S) := by
    have h1 : (("\n" : Str).length == 0) = false := by decide +kernel
    have h2 : (txt R).length + 2 ≤ sizeLine := small (by have := txt_len F; omega)
    simp only [pSplit, h1, h2, and_self, if_true, split_txt F, newL_ev hL]
  -- every line is as it should be
  have good : ∀ r ∈ R, ∀ a b c d : Option D, (eAnd (eOp pEq (eCallV (pLen) (aCons (eVar 3) aNil)) (eCallV (pLen) (aCons (eOp pIx (eVar 1) (eC (.int 0))) aNil))) (eCallV (pAll true) (aCons (eLc newL (iAny (eVar 3)) (uNm 2) tYesM (eOp pIn (eVar 2) (eC (.str "01"))) [2]) aNil))) [a, some (.lst ((R.map ln).map D.str)), b, some (.str (ln r)), d] S = .ok (.bl true) S := by
    intro r hr a b c d
    obtain ⟨g1, g2⟩ := F.g r hr
    have e := lc_map (ds := signs (ln r)) (S := S) (me := eOp pIn (eVar 2) (eC (.str "01"))) (δ0 := wipeD [a, some (.lst ((R.map ln).map D.str)), b, some (.str (ln r)), d] [2]) (k := 2) (fun _ => .bl true) (by rw [signs_ln g2, List.length_map, g1]; exact small (by have := F.w2; omega)) (fun x hx => by
      rw [signs_ln g2] at hx
      obtain ⟨i, hi, rfl⟩ := List.mem_map.mp hx
      refine eOp_ok rfl rfl ?_
      rcases g2 i hi with rfl | rfl <;> rfl)
    have tt : ∀ l : List D, (l.map fun _ => D.bl true) = ((l.map fun _ => true).map D.bl) := fun l => by rw [List.map_map]; rfl
    rw [tt] at e
    refine eAnd_t (eOp_ok (eCallV_ok (aCons_ok rfl rfl) (len_str (wl r hr))) (eCallV_ok (aCons_ok (eOp_ok rfl rfl (ix0 _)) rfl) (len_str (wl r0 hr0))) (by rw [pEq_ii])) ?_ (eCallV_ok (aCons_ok (eLc_ok (iAny_ok rfl rfl) e (newL_ev (by rw [List.length_map, List.length_map, signs_ln g2, List.length_map, g1]; exact small (by have := F.w2; omega)))) rfl) (by rw [all_ok]; simp))
    rw [w0 r hr, w0 r0 hr0]
    simp [truD]
  have e1 := lc_map (ds := (R.map ln).map D.str) (S := S) (me := (eAnd (eOp pEq (eCallV (pLen) (aCons (eVar 3) aNil)) (eCallV (pLen) (aCons (eOp pIx (eVar 1) (eC (.int 0))) aNil))) (eCallV (pAll true) (aCons (eLc newL (iAny (eVar 3)) (uNm 2) tYesM (eOp pIn (eVar 2) (eC (.str "01"))) [2]) aNil)))) (δ0 := wipeD [some (.str (txt R)), some (.lst ((R.map ln).map D.str)), none, none, none] [3]) (k := 3) (fun _ => .bl true) hL (fun x hx => by
    obtain ⟨y, hy, rfl⟩ := List.mem_map.mp hx
    obtain ⟨r, hr, rfl⟩ := List.mem_map.mp hy
    exact good r hr _ _ none _)
  have tt : ∀ l : List D, (l.map fun _ => D.bl true) = ((l.map fun _ => true).map D.bl) := fun l => by rw [List.map_map]; rfl
  rw [tt] at e1
  -- the numbers
  let toT : D → D := fun d => match d with
    | .str x => .tup ((TL.tl x).map fun (c : Nat) => .int ((c : Int) - 48))
    | d => d
  have nums : ∀ r ∈ R, toT (.str (ln r)) = .tup (iD r) := fun r hr => by
    obtain ⟨g1, g2⟩ := F.g r hr
    show D.tup ((TL.tl (ln r)).map fun (c : Nat) => .int ((c : Int) - 48)) = _
    rw [ln_tl g2, List.map_map]
    refine congrArg D.tup (List.map_congr_left fun i hi => ?_)
    rcases g2 i hi with rfl | rfl <;> rfl
  have e2 := lc_map (ds := (R.map ln).map D.str) (S := S) (me := (eCallV pTuple (aCons (eLc newL (iAny (eVar 3)) (uNm 2) tYesM (eCallV pInt (aCons (eVar 2) aNil)) [2]) aNil))) (δ0 := wipeD [some (.str (txt R)), some (.lst ((R.map ln).map D.str)), none, none, none] [3]) (k := 3) toT hL (fun x hx => by
    obtain ⟨y, hy, rfl⟩ := List.mem_map.mp hx
    obtain ⟨r, hr, rfl⟩ := List.mem_map.mp hy
    obtain ⟨g1, g2⟩ := F.g r hr
    rw [nums r hr]
    have e := lc_map (ds := signs (ln r)) (S := S) (me := eCallV pInt (aCons (eVar 2) aNil)) (δ0 := wipeD [some (.str (txt R)), some (.lst ((R.map ln).map D.str)), none, some (.str (ln r)), none] [2]) (k := 2) (fun d => match d with
      | .str x => .int (((TL.tl x).getD 0 0 : Nat) - 48)
      | d => d) (by rw [signs_ln g2, List.length_map, g1]; exact small (by have := F.w2; omega)) (fun x hx => by
        rw [signs_ln g2] at hx
        obtain ⟨i, hi, rfl⟩ := List.mem_map.mp hx
        refine eCallV_ok (aCons_ok rfl rfl) ?_
        rcases g2 i hi with rfl | rfl
        · have i0 : PySem.intText? ⟨#[48 + Int.toNat 0]⟩ = some 0 := by decide +kernel
          have l0 : (⟨#[48 + Int.toNat 0]⟩ : Str).length ≤ 640 := by decide +kernel
          simp only [pInt, l0, if_true, i0, Option.map_some]
          rfl
        · have i0 : PySem.intText? ⟨#[48 + Int.toNat 1]⟩ = some 1 := by decide +kernel
          have l0 : (⟨#[48 + Int.toNat 1]⟩ : Str).length ≤ 640 := by decide +kernel
          simp only [pInt, l0, if_true, i0, Option.map_some]
          rfl)
    have e3 : ((signs (ln r)).map fun d => match d with
      | .str x => D.int (((TL.tl x).getD 0 0 : Nat) - 48)
      | d => d) = iD r := by
      rw [signs_ln g2, List.map_map]
      refine List.map_congr_left fun i hi => ?_
      rcases g2 i hi with rfl | rfl <;> rfl
    rw [e3] at e
    have hw : (iD r).length ≤ sizeLine := by rw [iD_len, g1]; exact small (by have := F.w2; omega)
    exact eCallV_ok (aCons_ok (eLc_ok (iAny_ok rfl rfl) e (newL_ev hw)) rfl) (by simp only [pTuple, lstOf, Option.bind_some, newT_ev hw]))
  have e4 : ((R.map ln).map D.str).map toT = R.map fun r => .tup (iD r) := by
    rw [List.map_map, List.map_map]
    exact List.map_congr_left fun r hr => nums r hr
  rw [e4] at e2
  have hR : (R.map fun r => D.tup (iD r)).length ≤ sizeLine := by rw [List.length_map, F.len]; exact small (by have := F.h2; omega)
  have g8 : pGt (.int (((R.map ln).map D.str).length : Int)) (.int 8) S = some (.bl false, S) := by
    rw [pGt_ii, hlen, decide_eq_false (by have := F.h2; omega)]
  have c1 : pLe (.int 1) (.int ((ln r0).length : Int)) S = some (.bl true, S) := by rw [pLe_ii, w0 r0 hr0, decide_eq_true (by have := F.w1; omega)]
  have c2 : pLe (.int ((ln r0).length : Int)) (.int 8) S = some (.bl true, S) := by rw [pLe_ii, w0 r0 hr0, decide_eq_true (by have := F.w2; omega)]
  refine funM_rt rfl (sSeq_nx (sIf_f (tNot_ok (b := true) (tru_ok (eIsi_ok rfl rfl rfl) rfl)) rfl) (sSeq_nx (sAsg_ok (eMB_ok rfl rfl (aCons_ok rfl rfl) sp) rfl)
    (sSeq_nx (sIf_f (tOr_f (asB_ok (eOp_ok (eCallV_ok (aCons_ok rfl rfl) pLen_lst) rfl g8)) (tNot_ok (b := true) (asB_ok (eChain_t rfl (eCallV_ok (aCons_ok (eOp_ok rfl rfl (ix0 _)) rfl) (len_str (wl r0 hr0))) c1 rfl c2)))) rfl)
    (sSeq_nx (sIf_f (tNot_ok (b := true) (tru_ok (eCallV_ok (aCons_ok (eLc_ok (iAny_ok rfl rfl) e1 (newL_ev (by simpa using hL))) rfl) all_ok) (by rw [show ∀ l : List D, (l.map fun _ => true).all id = true from fun l => by simp]; rfl))) rfl)
    (sSeq_nx (sAsg_ok (eCallV_ok (aCons_ok (eLc_ok (iAny_ok rfl rfl) e2 (newL_ev hR)) rfl) (tuple_lst hR)) rfl)
    (sRet_ok (eIf_t (tru_ok (eCal_ok (aCons_ok rfl rfl) h9) rfl) rfl)))))))
def tabD (h w : Nat) (R : Rw) : D := .ins "Table" [("text", .str (txt R)), ("rows", rowsT R), ("height", .int h), ("width", .int w)]
theorem table_ev {cal : Nat → List D → M D} {h w : Nat} {R : Rw} {S : Store} (F : Full h w R) (h7 : cal 7 [.str (txt R)] S = .ok (rowsT R) S) : M.bind (initM 3 1 (b_Table cal) [.str (txt R)]) (fun fs => M.pure (.ins "Table" fs)) S = .ok (tabD h w R) S := by
  have key : initM 3 1 (b_Table cal) [.str (txt R)] S = .ok [("text", .str (txt R)), ("rows", rowsT R), ("height", .int h), ("width", .int w)] S := by
    unfold b_Table
    obtain ⟨r0, R', eR⟩ : ∃ r0 R', R = r0 :: R' := by
      cases R with
      | nil => have := F.len; have := F.h1; simp at *; omega
      | cons r R => exact ⟨r, R, rfl⟩
    have hr0 : r0 ∈ R := by rw [eR]; exact List.mem_cons_self ..
    have ix0 : pIx (rowsT R) (.int 0) S = some (.tup (iD r0), S) := by
      unfold rowsT
      refine (pIx_tup (k := 0) (S := S) (xs := R.map fun r => D.tup (iD r)) (by rw [List.length_map, F.len]; exact F.h1)).trans ?_
      subst eR
      rfl
    have l1 : pLen [rowsT R] S = some (.int h, S) := by
      unfold rowsT
      rw [pLen_tup, List.length_map, F.len]
    have l2 : pLen [.tup (iD r0)] S = some (.int w, S) := by rw [pLen_tup, iD_len, (F.g r0 hr0).1]
    exact initM_ok rfl (iOrd_nx (sAsg_ok (eCal_ok (aCons_ok rfl rfl) h7) rfl) (iOrd_nx (sIf_f (asB_ok (eOp_ok (x := rowsT R) rfl rfl rfl)) rfl) (iSets_ok (eTup_ok (aCons_ok rfl (aCons_ok (x := rowsT R) rfl rfl)) (small (by simp))) rfl rfl (iSets_ok (eTup_ok (aCons_ok (eCallV_ok (aCons_ok (x := rowsT R) rfl rfl) l1) (aCons_ok (eCallV_ok (aCons_ok (eOp_ok (x := rowsT R) rfl rfl ix0) rfl) l2) rfl)) (small (by simp))) rfl rfl rfl))))
  show M.bind _ _ S = _
  simp only [M.bind, key, M.pure]
  rfl
end Sp
namespace Sp
open PySem L2 Ev Bd
def At (J : List D → Prop) (t : Nat) (S : Store) : Prop := ∃ c, S[t]? = some (some (.lst c)) ∧ J c
def Fr (t : Nat) (S S' : Store) : Prop := S.length ≤ S'.length ∧ ∀ j, j < S.length → j ≠ t → S'[j]? = S[j]?
section
variable {J : List D → Prop} {t j : Nat} {S S' S2 : Store} {x : Option Cell}
theorem At.lt (h : At J t S) : t < S.length := by
  obtain ⟨c, h1, _⟩ := h
  exact (List.getElem?_eq_some_iff.mp h1).1
theorem Fr.refl : Fr t S S := ⟨Nat.le_refl _, fun _ _ _ => rfl⟩
theorem Fr.trans (h : Fr t S S') (h2 : Fr t S' S2) : Fr t S S2 := ⟨Nat.le_trans h.1 h2.1, fun j hj hn => (h2.2 j (Nat.lt_of_lt_of_le hj h.1) hn).trans (h.2 j hj hn)⟩
theorem Fr.own : Fr t S (S.set t x) := ⟨by simp, fun j _ hn => List.getElem?_set_ne (Ne.symm hn)⟩
theorem Fr.new (h : S.length ≤ j) (h2 : Fr t S S') : Fr t S (S'.set j x) := ⟨by simpa using h2.1, fun i hi hn => by rw [List.getElem?_set_ne (by omega)]; exact h2.2 i hi hn⟩
theorem At.other (h : At J t S) (hj : t ≠ j) : At J t (S.set j x) := by
  obtain ⟨c, h1, h2⟩ := h
  exact ⟨c, by rw [List.getElem?_set_ne (Ne.symm hj)]; exact h1, h2⟩
end
/-- a number from 0 to m - 1 is drawn -/
structure Drw (J : List D → Prop) (dr : List D → M D) : Prop where
  go : ∀ (t : Nat) (S : Store) (m : Int), At J t S → 0 < m → m < 1073741824 → ∃ f S', dr [.ref t, .int m] S = .ok (.int f) S' ∧ 0 ≤ f ∧ f < m ∧ At J t S' ∧ Fr t S S' ∧ S'.length = S.length
def ReedJ (c : List D) : Prop := ∃ a b : Int, c = [.int a, .int b] ∧ 0 ≤ b
theorem set_get {S : Store} {t : Nat} {c c' : Cell} (h : S[t]? = some (some c)) : (S.set t (some c'))[t]? = some (some c') := by
  rw [List.getElem?_set_self (List.getElem?_eq_some_iff.mp h).1]
theorem frzDs_id {n : Nat} {S : Store} : ∀ {ds : List D}, (∀ x ∈ ds, ∀ S, frzD n x S = some (x, S)) → frzDs n ds S = some (ds, S)
  | [], _ => by simp [frzDs]
  | d :: ds, h => by
    rw [frzDs, h d (List.mem_cons_self ..)]
    simp only [Option.bind_some, frzDs_id (ds := ds) fun x hx => h x (List.mem_cons_of_mem _ hx), Option.map_some]
theorem app_ref {S : Store} {n : Nat} {xs : List D} {y : D} (h : S[n]? = some (some (.lst xs))) (hl : xs.length < sizeLine) : pAppend (.ref n) [y] S = some (.non, S.set n (some (.lst (xs ++ [y])))) := by
  simp only [pAppend, h, hl, if_true]
theorem ty_ref {S : Store} {n : Nat} {xs : List D} (h : S[n]? = some (some (.lst xs))) : tyD "list" S (.ref n) = true := by
  simp [tyD, lstOf, h]
end Sp
namespace Sp
open PySem L2 Ev Bd
def Cells (s : Nat) (R : Rw) (S : Store) : Prop := ∀ (i : Nat) (r : List Int), R[i]? = some r → S[s + i]? = some (some (.lst (iD r)))
def refs (s n : Nat) : List D := (List.range' s n).map D.ref
section
variable {J : List D → Prop} {t s j k w : Nat} {S S' : Store} {R : Rw} {r : List Int}
theorem Cells.fr (h : Cells s R S) (hf : Fr t S S') (ht : t < s) : Cells s R S' := fun i r e => by
  have h1 := h i r e
  rw [hf.2 _ (List.getElem?_eq_some_iff.mp h1).1 (by omega)]; exact h1
theorem Cells.put {i : Nat} {r' : List Int} (h : Cells s R S) (hi : R[i]? = some r) : Cells s (R.set i r') (S.set (s + i) (some (.lst (iD r')))) := fun j q e => by
  by_cases hj : i = j
  · subst hj
    rw [List.getElem?_set_self (List.getElem?_eq_some_iff.mp hi).1] at e
    cases e
    exact set_get (h i r hi)
  · rw [List.getElem?_set_ne hj] at e
    rw [List.getElem?_set_ne (by omega)]
    exact h j q e
theorem toPS_ref (h : S[j]? = some (some (.lst (iD r)))) : toPS S (.ref j) = some (.list (r.map PyData.int)) := by
  simp [toPS, plstOf, h, toPs_ints]
theorem notin_ref (h : S[j]? = some (some (.lst (iD r)))) : pNotIn (.int 1) (.ref j) S = some (.bl (!decide ((1 : Int) ∈ r)), S) := by
  simp only [pNotIn, inD, toPS_ref h]
  simp only [toPS, PyData.depth, Nat.zero_le, if_true, any_one, Option.map_some]
end
/-- the grid of cells at s -/
structure Gr (J : List D → Prop) (t : Nat) (S0 : Store) (s h w : Nat) (R : Rw) (S : Store) : Prop where
  len : R.length = h
  g : G01 w R
  c : Cells s R S
  a : At J t S
  f : Fr t S0 S
end Sp
namespace Sp
open PySem L2 Ev Bd
def rng (n : Nat) : List Int := (List.range n).map fun (i : Nat) => (i : Int)
theorem rngD_eq {n : Nat} : rngD 0 n = iD (rng n) := by simp [rngD, iD, rng]
section
variable {S S1 S2 : Store} {δ : En} {ma mo : ME} {n m : Nat} {xs : List D} {J : List D → Prop} {t : Nat}
end
/-- the drawn order as a callee -/
structure Mix (J : List D → Prop) (mx : List D → M D) : Prop where
  go : ∀ (t : Nat) (S : Store) (ns : List Int), At J t S → ns.length ≤ 1000 → ∃ ms S', mx [.ref t, lI ns] S = .ok (lI ms) S' ∧ ms.Perm ns ∧ At J t S' ∧ Fr t S S'
end Sp
namespace Sp
open PySem L2 Ev Bd
section
variable {S S1 S2 : Store} {δ : En} {ma mb mc : ME} {i j x y z : Int} {ns : List Int}
end
def turn (R : Rw) (w : Nat) : Rw := (rng w).map fun k => R.map fun r => r.getD k.toNat 0
/-- a drawn grid of at most most rows and columns -/
structure Grid (most : Nat) (R : Rw) : Prop where
  ex : ∃ h w, R.length = h ∧ G01 w R ∧ 0 < h ∧ h ≤ most ∧ 0 < w ∧ w ≤ most
end Sp
namespace Sp
open PySem L2 Ev Bd
structure GridF (J : List D → Prop) (f : List D → M D) : Prop where
  go : ∀ (t most : Nat) (S : Store), At J t S → 0 < most → most ≤ 8 → ∃ R S', f [.ref t, .int most] S = .ok (rowsL R) S' ∧ Grid most R ∧ At J t S' ∧ Fr t S S'
structure AnyF (J : List D → Prop) (f : List D → M D) : Prop where
  go : ∀ (t h w : Nat) (S : Store), At J t S → 0 < h → h ≤ 8 → 0 < w → w ≤ 8 → ∃ R S', f [.ref t, .int h, .int w] S = .ok (.lst (refs S.length h)) S' ∧ Gr J t S S.length h w R S'
structure RowsF (J : List D → Prop) (f : List D → M D) : Prop where
  go : ∀ (t h w : Nat) (S : Store), At J t S → 0 < h → h ≤ 8 → 0 < w → w ≤ 8 → ∃ R S', f [.ref t, .int h, .int w] S = .ok (rowsL R) S' ∧ R.length = h ∧ G01 w R ∧ At J t S' ∧ Fr t S S'
structure RingedF (J : List D → Prop) (f : List D → M D) : Prop where
  go : ∀ (t h w m : Nat) (S : Store), At J t S → h ≤ 8 → w ≤ 8 → 0 < m → m ≤ h → m ≤ w → ∃ R S', f [.ref t, .int h, .int w, .int m] S = .ok (rowsL R) S' ∧ R.length = h ∧ G01 w R ∧ At J t S' ∧ Fr t S S'
structure TurnF (f : List D → M D) : Prop where
  go : ∀ (R : Rw) (w : Nat) (S : Store), R ≠ [] → R.length ≤ 1000 → (∀ r ∈ R, r.length = w) → w ≤ 1000 → f [rowsL R] S = .ok (rowsL (turn R w)) S
end Sp
namespace Sp
open PySem L2 Ev
theorem nodup_le {α : Type} [DecidableEq α] : ∀ {l m : List α}, l.Nodup → (∀ x ∈ l, x ∈ m) → l.length ≤ m.length
  | [], m, _, _ => by simp
  | a :: l, m, h, hs => by
    rw [List.nodup_cons] at h
    have ha := hs a (List.mem_cons_self ..)
    have := nodup_le (l := l) (m := m.erase a) h.2 fun x hx => (List.mem_erase_of_ne (by rintro rfl; exact h.1 hx)).mpr (hs x (List.mem_cons_of_mem _ hx))
    rw [List.length_erase_of_mem ha] at this
    have := List.length_pos_of_mem ha
    simp only [List.length_cons]; omega
/-- the law counts so -/
def dlaw (l : List Int) : List Int := (rng l.length).filter fun j => !decide (l.getD j.toNat 0 ∈ l.take j.toNat)
def nxt (l : List Int) : Int := 1 + maxL (-1 :: l)
theorem nxt_nn (l : List Int) : 0 ≤ nxt l := by
  have := (maxL_ok (-1 :: l) (by simp)).2 (-1) (by simp)
  unfold nxt; omega
def lim (K : Nat) (l : List Int) : Nat := if nxt l + 1 < K then (nxt l + 1).toNat else K
theorem lim_le {K : Nat} {l : List Int} : lim K l ≤ K := by
  have := nxt_nn l
  unfold lim
  split <;> omega
def RG (K : Nat) (ts : List Int) : Prop := ∀ m, m < ts.length → 0 ≤ ts.getD m 0 ∧ ts.getD m 0 < lim K (ts.take m)
section
variable {K : Nat} {hs es : List Int} {q : Int}
theorem RG.nil : RG K [] := fun m h => by simp at h
theorem getD_left {l m : List Int} {k : Nat} (h : k < l.length) : (l ++ m).getD k 0 = l.getD k 0 := by
  rw [List.getD_eq_getElem?_getD, List.getD_eq_getElem?_getD, List.getElem?_append_left h]
theorem RG.pre (h : RG K (hs ++ es)) : RG K hs := fun m hm => by
  have := h m (by simp; omega)
  rwa [getD_left hm, List.take_append_of_le_length (by omega)] at this
theorem RG.last (h : RG K (hs ++ [q])) : 0 ≤ q ∧ q < lim K hs := by
  have := h hs.length (by simp)
  simpa using this
theorem RG.mem (h : RG K hs) : ∀ x ∈ hs, 0 ≤ x ∧ x < K := fun x hx => by
  obtain ⟨m, hm, rfl⟩ := List.mem_iff_getElem.mp hx
  have h1 := h m hm
  have h2 := lim_le (K := K) (l := hs.take m)
  rw [List.getD_eq_getElem?_getD, List.getElem?_eq_getElem hm] at h1
  simp only [Option.getD_some] at h1
  omega
end
def least (K : Nat) (n : Nat) : Int := if (n : Int) < K then n else K
def Pr (cs r : List Int) (j : Int) : Bool := r.getD (cs.getD j.toNat 0).toNat 0 == 1
def rowP (cs r : List Int) : List Int := (rng cs.length).filter (Pr cs r)
def pickH (cs hs r : List Int) : List Int := (rowP cs r).map fun j => hs.getD j.toNat 0
def hued1 (K : Nat) (cs hs r : List Int) : Bool := ((dlaw (pickH cs hs r)).length : Int) == least K (pickH cs hs r).length
def hued (R : Rw) (K : Nat) (cs hs : List Int) : Bool := R.all fun r => hued1 K cs hs r
def grow (K : Nat) (L : Rw) : Rw := L.flatMap fun f => (rng (lim K f)).map fun q => f ++ [q]
def allC (K : Nat) : Nat → Rw
  | 0 => [[]]
  | n + 1 => grow K (allC K n)
def canC (R : Rw) (K : Nat) (cs : List Int) : Bool := ((allC K cs.length).any fun ts => hued R K cs ts)
end Sp
namespace Bd
open PySem L2 Ev
end Bd
namespace Sp
open PySem PySem.W L2 Ev Bd
section
variable {S S1 S2 : Store} {δ : En} {ma mb mc : ME} {i j x y z : Int} {ns : List Int}
theorem pNe_ii : pNe (.int i) (.int j) S = some (.bl (!(i == j)), S) := by
  simp [pNe, eqD, toPS, PyData.depth, PyData.eqv]
theorem depthAll_le {d : Nat} : ∀ {ps : List PyData}, (∀ p ∈ ps, p.depth ≤ d) → PyData.depthAll ps ≤ d
  | [], _ => by simp [PyData.depthAll]
  | p :: ps, h => by
    have h1 := h p (List.mem_cons_self ..)
    have h2 := depthAll_le (ps := ps) fun q hq => h q (List.mem_cons_of_mem _ hq)
    simp only [PyData.depthAll]
    omega
def srt (xs : List Int) : List Int := xs.mergeSort fun a b => decide (a ≤ b)
end
/-- a lot of columns -/
structure Lot (w : Nat) (cs : List Int) : Prop where
  ne : 0 < cs.length
  le : cs.length ≤ 8
  b : ∀ c ∈ cs, 0 ≤ c ∧ c < w
  up : ∀ a, a + 1 < cs.length → cs.getD a 0 < cs.getD (a + 1) 0
section
variable {cal : Nat → List D → M D} {S : Store}
end
end Sp
namespace Rg
open Sp
abbrev at_ (p : List Int) (i : Nat) : Int := p.getD i 0
section
variable (adj : Int → Int → Bool)
structure Closed (c : List Int) : Prop where
  len : 4 ≤ c.length
  nd : c.Nodup
  min : ∀ i, 0 < i → i < c.length → at_ c 0 < at_ c i
  nxt : ∀ i, i + 1 < c.length → adj (at_ c i) (at_ c (i + 1)) = true
  cl : adj (at_ c (c.length - 1)) (at_ c 0) = true
  no : ∀ i j, i + 1 < j → j < c.length → ¬ (i = 0 ∧ j = c.length - 1) → adj (at_ c i) (at_ c j) = false
  dir : at_ c 1 < at_ c (c.length - 1)
structure Walk (p : List Int) : Prop where
  ne : 0 < p.length
  nd : p.Nodup
  min : ∀ i, 0 < i → i < p.length → at_ p 0 < at_ p i
  nxt : ∀ i, i + 1 < p.length → adj (at_ p i) (at_ p (i + 1)) = true
  no : ∀ i j, i + 1 < j → j < p.length → adj (at_ p i) (at_ p j) = false
end
variable {adj : Int → Int → Bool}
theorem Walk.one {v : Int} : Walk adj [v] := ⟨by simp, by simp, fun i h1 h2 => by simp at h2; omega, fun i h => by simp at h, fun i j h1 h2 => by simp at h2; omega⟩
/-- the place x may come next behind a walk -/
structure Next (p : List Int) (adj : Int → Int → Bool) (x : Int) : Prop where
  ad : adj (at_ p (p.length - 1)) x = true
  gt : at_ p 0 < x
  nw : x ∉ p
  far : ∀ i, 0 < i → i + 1 < p.length → adj (at_ p i) x = false
/-- a simple path in V -/
structure Path (adj : Int → Int → Bool) (V : List Int) (p : List Int) : Prop where
  nd : p.Nodup
  sub : ∀ v ∈ p, v ∈ V
  nxt : ∀ i, i + 1 < p.length → adj (at_ p i) (at_ p (i + 1)) = true
end Rg
namespace Rg
open Sp
variable {adj : Int → Int → Bool}
end Rg
namespace Rg
open PySem PySem.W L2 Ev Bd Sp
def subs : Nat → Rw
  | 0 => [[]]
  | n + 1 => subs n ++ (subs n).map fun l => l ++ [(n : Int)]
theorem subs_len : ∀ n, (subs n).length = 2 ^ n
  | 0 => rfl
  | n + 1 => by simp only [subs, List.length_append, List.length_map, subs_len n]; omega
def Asc (l : List Int) : Prop := l.Pairwise (· < ·)
theorem mem_subs : ∀ {n : Nat} {l : List Int}, Asc l → (∀ x ∈ l, 0 ≤ x ∧ x < n) → l ∈ subs n
  | 0, l, _, h => by
    cases l with
    | nil => simp [subs]
    | cons x l => have := h x (List.mem_cons_self ..); omega
  | n + 1, l, ha, h => by
    unfold subs
    rw [List.mem_append]
    by_cases hn : (n : Int) ∈ l
    · right
      have hne : l ≠ [] := by rintro rfl; simp at hn
      have hl := List.dropLast_concat_getLast hne
      have ha' := ha
      rw [← hl] at ha'
      unfold Asc at ha'
      rw [List.pairwise_append] at ha'
      have hlast : l.getLast hne = n := by
        have h1 := h _ (List.getLast_mem hne)
        rw [← hl] at hn
        rcases List.mem_append.mp hn with h2 | h2
        · have := ha'.2.2 _ h2 _ (List.mem_singleton.mpr rfl); omega
        · exact (List.mem_singleton.mp h2).symm
      refine List.mem_map.mpr ⟨l.dropLast, mem_subs ha'.1 fun x hx => ?_, by rw [← hlast]; exact hl⟩
      have h1 := h x (List.dropLast_subset _ hx)
      have h2 := ha'.2.2 x hx _ (List.mem_singleton.mpr rfl)
      rw [hlast] at h2
      omega
    · left
      refine mem_subs ha fun x hx => ?_
      have := h x hx
      have : x ≠ n := by rintro rfl; exact hn hx
      omega
section
variable {S : Store} {p : List Int} {δ : En}
end
end Rg
namespace Sp
open PySem PySem.W L2 Ev Bd
section
variable {cal : Nat → List D → M D} {S : Store}
def encO : Option (List Int) → D
  | none => .non
  | some ts => tI ts
end
end Sp
namespace Sp
open PySem PySem.W L2 Ev Bd
theorem loop_nx {mg : TGM} {mb : MS} {d : D} {ds : List D} {δ δ1 δ2 : En} {S S1 S2 : Store} (h1 : mg d δ S = some (δ1, S1)) (h2 : mb δ1 S1 = .nx δ2 S2) : loopF mg mb (d :: ds) δ S = loopF mg mb ds δ2 S2 := by simp only [loopF, h1, h2]
section
variable {cal : Nat → List D → M D} {S : Store}
/-- what colouring answers -/
def Ans (R : Rw) (K : Nat) (cs : List Int) (o : Option (List Int)) : Prop := match o with
  | none => canC R K cs = false
  | some ts => canC R K cs = true ∧ ts.length = cs.length ∧ (∀ x ∈ ts, 0 ≤ x ∧ x < K) ∧ hued R K cs ts = true
end
end Sp
namespace Rg
open PySem PySem.W L2 Ev Bd Sp
abbrev Ks (kvs : List (List Int × D)) : Rw := kvs.map (·.1)
structure KOk (n : Nat) (kvs : List (List Int × D)) : Prop where
  nd : (Ks kvs).Nodup
  ok : ∀ k ∈ Ks kvs, Asc k ∧ ∀ x ∈ k, 0 ≤ x ∧ x < n
theorem KOk.len {n : Nat} {kvs : List (List Int × D)} (h : KOk n kvs) : kvs.length ≤ 2 ^ n := by
  have := nodup_le h.nd (m := subs n) fun k hk => mem_subs (h.ok k hk).1 (h.ok k hk).2
  rw [subs_len, List.length_map] at this
  exact this
/-- lists of neighbours -/
structure Spots (n : Nat) (sp : Rw) (adj : Int → Int → Bool) : Prop where
  len : sp.length = n
  n16 : n ≤ 16
  row : ∀ r ∈ sp, r.length ≤ 16
  mem : ∀ (a b : Int), 0 ≤ a → a < n → (adj a b = true ↔ b ∈ sp.getD a.toNat [])
  rg : ∀ (a b : Int), adj a b = true → (0 ≤ a ∧ a < n) ∧ (0 ≤ b ∧ b < n)
  sym : ∀ a b, adj a b = adj b a
end Rg
namespace Rg
open PySem PySem.W L2 Ev Bd Sp
def bit (R : Rw) (r c : Int) : Bool := (R.getD r.toNat []).getD c.toNat 0 == 1
def adjR (h w : Nat) (R : Rw) (a b : Int) : Bool :=
  (decide (0 ≤ a ∧ a < h ∧ (h : Int) ≤ b ∧ b < h + w) && bit R a (b - h)) || (decide (0 ≤ b ∧ b < h ∧ (h : Int) ≤ a ∧ a < h + w) && bit R b (a - h))
section
variable {cal : Nat → List D → M D} {S : Store}
end
/-- an odd ring, as a pair -/
structure Ring (h w : Nat) (R : Rw) (q : List Int × List Int) : Prop where
  eq : q.1.length = q.2.length
  odd : q.1.length % 2 = 1
  gt : 2 < q.1.length
  asc1 : Asc q.1
  asc2 : Asc q.2
  rg1 : ∀ i ∈ q.1, 0 ≤ i ∧ i < h
  rg2 : ∀ k ∈ q.2, 0 ≤ k ∧ k < w
  cyc : ∃ c, Closed (adjR h w R) c ∧ c.Perm (q.1 ++ q.2.map fun k => k + (h : Int))
end Rg
namespace Rg
open PySem PySem.W PyProof.Rows L2 Ev Bd Sp
abbrev Pq := List Int × List Int
def ringD (q : Pq) : D := .tup [tI q.1, tI q.2]
end Rg
namespace Sp
open PySem PySem.W L2 Ev Bd
structure C48 (cal : Nat → List D → M D) : Prop where
  dip : Drw ReedJ (cal 60)
  mix : Mix ReedJ (cal 64)
  grid : GridF ReedJ (cal 51)
  full : ∀ (R : Rw) (most : Nat) S, Grid most R → most ≤ 8 → ∃ b, cal 50 [rowsL R] S = .ok (.bl b) S ∧ (b = true → ∃ h w, Full h w R ∧ h ≤ most ∧ w ≤ most)
  text : ∀ h w R S, Full h w R → cal 2 [rowsL R] S = .ok (.str (txt R)) S
  tab : ∀ h w R S, Full h w R → cal 1 [.str (txt R)] S = .ok (tabD h w R) S
  can : ∀ h w R (K : Nat) cs S, Full h w R → Lot w cs → cs.length ≤ 6 → K ≤ 4 → cal 70 [rowsL R, .int K, tI cs] S = .ok (.bl (canC R K cs)) S
  col : ∀ h w R (K : Nat) cs, Full h w R → Lot w cs → 0 < K → K ≤ 4 → ∃ o, (∀ S, cal 68 [tabD h w R, .int K, tI cs] S = .ok (encO o) S) ∧ Ans R K cs o
  hue : ∀ h w R (K : Nat) cs hs S, Full h w R → Lot w cs → hs.length = cs.length → cal 69 [rowsL R, .int K, tI cs, tI hs] S = .ok (.bl (hued R K cs hs)) S
section
variable {cal : Nat → List D → M D}
end
end Sp
namespace Rg
open PySem PySem.W PyProof.Rows L2 Ev Bd Sp
/-- what was there stays -/
def Keep (S S' : Store) : Prop := S.length ≤ S'.length ∧ ∀ j, j < S.length → S'[j]? = S[j]?
theorem Keep.refl {S : Store} : Keep S S := ⟨Nat.le_refl _, fun _ _ => rfl⟩
theorem Keep.trans {S S1 S2 : Store} (h : Keep S S1) (h2 : Keep S1 S2) : Keep S S2 := ⟨Nat.le_trans h.1 h2.1, fun j hj => (h2.2 j (Nat.lt_of_lt_of_le hj h.1)).trans (h.2 j hj)⟩
theorem Keep.set {S S' : Store} {j : Nat} {x : Option Cell} (h : Keep S S') (hj : S.length ≤ j) : Keep S (S'.set j x) := ⟨by simpa using h.1, fun i hi => by rw [List.getElem?_set_ne (by omega)]; exact h.2 i hi⟩
theorem Keep.at {S S' : Store} {J : List D → Prop} {t : Nat} (h : Keep S S') (a : At J t S) : At J t S' := by
  obtain ⟨c, h1, h2⟩ := a
  exact ⟨c, by rw [h.2 t (List.getElem?_eq_some_iff.mp h1).1]; exact h1, h2⟩
section
variable {S S1 S2 : Store} {δ : En} {ma mo : ME} {m : Nat} {xs : List D}
end
end Rg
namespace Wp
open PySem L2 Ev Sp
/-- m ends well, with Q -/
structure WE {α : Type} (m : M α) (S : Store) (Q : α → Store → Prop) : Prop where
  ex : ∃ a S', m S = .ok a S' ∧ Q a S'
/-- what must hold at each end of a statement -/
structure Post where
  nx : En → Store → Prop
  rt : D → Store → Prop
  ct : En → Store → Prop
  bk : En → Store → Prop
  ex : Xc → En → Store → Prop
def wsP (r : Fl) (P : Post) : Prop := match r with
  | .nx δ S => P.nx δ S
  | .rt d S => P.rt d S
  | .ct δ S => P.ct δ S
  | .bk δ S => P.bk δ S
  | .exc x δ S => P.ex x δ S
  | .bad => False
structure WS (r : Fl) (P : Post) : Prop where
  ex : wsP r P
/-- both ways of a branch -/
def Br (c : Bool) (A B : Prop) : Prop := (c = true → A) ∧ (c = false → B)
theorem br_t {A B : Prop} (h : A) : Br true A B := ⟨fun _ => h, (fun e => by cases e)⟩
theorem br_f {A B : Prop} (h : B) : Br false A B := ⟨(fun e => by cases e), fun _ => h⟩
section
variable {α β : Type} {S S1 S2 : Store} {δ : En} {Q : D → Store → Prop} {QA : List D → Store → Prop} {QT : Bool → Store → Prop} {ma mb mc mo : ME} {mas mbs : MA} {ta tb : MT}
theorem we_bind {m : M α} {f : α → M β} {QB : β → Store → Prop} (h : WE m S fun a S1 => WE (f a) S1 QB) : WE (M.bind m f) S QB := by
  obtain ⟨a, S1, e1, b, S2, e2, q⟩ := h
  exact ⟨b, S2, by simp only [M.bind, e1, e2], q⟩
theorem we_ok {m : M α} {QB : α → Store → Prop} {a : α} (e : m S = .ok a S1) (q : QB a S1) : WE m S QB := ⟨a, S1, e, q⟩
theorem we_imp {m : M α} {QA QB : α → Store → Prop} (h : WE m S QA) (i : ∀ a S1, QA a S1 → QB a S1) : WE m S QB := by
  obtain ⟨a, S1, e1, q⟩ := h
  exact ⟨a, S1, e1, i _ _ q⟩
theorem we_pure {a : α} {QB : α → Store → Prop} (q : QB a S) : WE (M.pure a) S QB := ⟨a, S, rfl, q⟩
theorem we_lft {p : PO} {z : D} (e : p S = some (z, S1)) (q : Q z S1) : WE (lft p) S Q := ⟨z, S1, by simp only [lft, e], q⟩
theorem we_var {k : Nat} {d : D} (h : δ[k]? = some (some d)) (hd : d ≠ .slf) (q : Q d S) : WE (eVar k δ) S Q := ⟨d, S, eVarR h hd, q⟩
theorem we_isv {k : Nat} (h : WE (eVar k δ) S Q) : WE (eVar k δ) S Q := h
theorem we_c {d : D} (q : Q d S) : WE (eC d δ) S Q := ⟨d, S, rfl, q⟩
theorem we_op {f : D → D → PO} (h : WE (ma δ) S fun x S1 => WE (mb δ) S1 fun y S2 => WE (lft (f x y)) S2 Q) : WE (eOp f ma mb δ) S Q := we_bind (we_imp h fun _ _ h => we_bind h)
theorem we_un {f : D → PO} (h : WE (ma δ) S fun x S1 => WE (lft (f x)) S1 Q) : WE (eUn f ma δ) S Q := we_bind h
theorem we_callV {f : List D → PO} (h : WE (mas δ) S fun xs S1 => WE (lft (f xs)) S1 Q) : WE (eCallV f mas δ) S Q := we_bind h
theorem we_tup (h : WE (mas δ) S fun xs S1 => xs.length ≤ sizeLine ∧ Q (.tup xs) S1) : WE (eTup mas δ) S Q := we_bind (we_imp h fun xs S1 ⟨hl, q⟩ => we_lft (newT_ev hl) q)
theorem we_lst (h : WE (mas δ) S fun xs S1 => xs.length ≤ sizeLine ∧ Q (.lst xs) S1) : WE (eLst mas δ) S Q := we_bind (we_imp h fun xs S1 ⟨hl, q⟩ => we_lft (newL_ev hl) q)
theorem we_lstC (h : WE (mas δ) S fun xs S1 => xs.length ≤ sizeLine ∧ Q (.ref S1.length) (S1 ++ [some (.lst xs)])) : WE (eLstC mas δ) S Q := we_bind (we_imp h fun xs S1 ⟨hl, q⟩ => we_lft (newC_ev hl) q)
theorem we_nil (q : QA [] S) : WE (aNil δ) S QA := we_pure q
theorem we_cons (h : WE (ma δ) S fun x S1 => WE (mas δ) S1 fun xs S2 => QA (x :: xs) S2) : WE (aCons ma mas δ) S QA := we_bind (we_imp h fun _ _ h => we_bind (we_imp h fun _ _ h => we_pure h))
theorem we_star (h : WE (ma δ) S fun x S1 => ∃ xs, seqOf S1 x = some xs ∧ WE (mas δ) S1 fun ys S2 => QA (xs ++ ys) S2) : WE (aStar ma mas δ) S QA := we_bind (we_imp h fun x S1 ⟨xs, e, ys, S2, e2, q⟩ => ⟨xs ++ ys, S2, by simp only [e, M.bind, e2, M.pure], q⟩)
theorem we_cal {m : List D → M D} (h : WE (mas δ) S fun xs S1 => WE (m xs) S1 Q) : WE (eCal m mas δ) S Q := we_bind h
theorem we_asB {m : M D} (h : WE m S fun x S1 => ∃ b, x = .bl b ∧ QT b S1) : WE (asB m) S QT := we_bind (we_imp h fun x S1 ⟨b, e, q⟩ => by subst e; exact we_pure q)
theorem we_tru {m : M D} (h : WE m S fun x S1 => ∃ b, truD S1 x = some b ∧ QT b S1) : WE (tru m) S QT := we_bind (we_imp h fun x S1 ⟨b, e, q⟩ => ⟨b, S1, by simp only [e], q⟩)
theorem we_and (h : WE (ma δ) S fun x S1 => ∃ b, truD S1 x = some b ∧ Br b (WE (mb δ) S1 Q) (Q x S1)) : WE (eAnd ma mb δ) S Q := we_bind (we_imp h fun x S1 ⟨b, e, q⟩ => by
  cases b with
  | true =>
    obtain ⟨y, S2, e2, q⟩ := q.1 rfl
    exact ⟨y, S2, by simp only [e, e2], q⟩
  | false => exact ⟨x, S1, by simp only [e], q.2 rfl⟩)
theorem we_or (h : WE (ma δ) S fun x S1 => ∃ b, truD S1 x = some b ∧ Br b (Q x S1) (WE (mb δ) S1 Q)) : WE (eOr ma mb δ) S Q := we_bind (we_imp h fun x S1 ⟨b, e, q⟩ => by
  cases b with
  | false =>
    obtain ⟨y, S2, e2, q⟩ := q.2 rfl
    exact ⟨y, S2, by simp only [e, e2], q⟩
  | true => exact ⟨x, S1, by simp only [e], q.1 rfl⟩)
theorem we_not (h : WE (ma δ) S fun x S1 => ∃ b, truD S1 x = some b ∧ Q (.bl (!b)) S1) : WE (eNot ma δ) S Q := we_bind (we_tru (we_imp h fun x S1 ⟨b, e, q⟩ => ⟨b, e, we_pure q⟩))
theorem we_if (h : WE (ta δ) S fun c S1 => Br c (WE (ma δ) S1 Q) (WE (mb δ) S1 Q)) : WE (eIf ta ma mb δ) S Q := we_bind (we_imp h fun c S1 q => by
  cases c
  · exact q.2 rfl
  · exact q.1 rfl)
theorem wt_and (h : WE (ta δ) S fun c S1 => Br c (WE (tb δ) S1 QT) (QT false S1)) : WE (tAndM ta tb δ) S QT := we_bind (we_imp h fun c S1 q => by
  cases c
  · exact we_pure (q.2 rfl)
  · exact q.1 rfl)
theorem wt_or (h : WE (ta δ) S fun c S1 => Br c (QT true S1) (WE (tb δ) S1 QT)) : WE (tOrM ta tb δ) S QT := we_bind (we_imp h fun c S1 q => by
  cases c
  · exact q.2 rfl
  · exact we_pure (q.1 rfl))
theorem wt_not (h : WE (ta δ) S fun c S1 => QT (!c) S1) : WE (tNotM ta δ) S QT := we_bind (we_imp h fun c S1 q => we_pure q)
theorem wt_yes (q : QT true S) : WE (tYesM δ) S QT := we_pure q
theorem we_chain {f f' : D → D → PO} (h : WE (ma δ) S fun x S1 => WE (mb δ) S1 fun y S2 => WE (lft (f x y)) S2 fun z S3 => ∃ b, z = .bl b ∧ Br b (WE (mc δ) S3 fun w S4 => WE (lft (f' y w)) S4 Q) (Q (.bl false) S3)) : WE (eChain f f' ma mb mc δ) S Q :=
  we_bind (we_imp h fun x S1 h => we_bind (we_imp h fun y S2 h => we_bind (we_imp h fun z S3 ⟨b, e, q⟩ => by
    subst e
    cases b
    · exact we_pure (q.2 rfl)
    · exact we_bind (q.1 rfl))))
theorem we_fld {okf : Str → Bool} {fl : Str} (h : WE (mo δ) S fun x S1 => ∃ c fs d, clsOf S1 x = some (c, fs) ∧ okf c = true ∧ fs.lookup fl = some d ∧ Q d S1) : WE (eFld okf fl mo δ) S Q := by
  obtain ⟨x, S1, e, c, fs, d, h1, h2, h3, q⟩ := h
  exact ⟨d, S1, eFld_ok e h1 h2 h3, q⟩
theorem we_isi {isi : Ty → Ty → Option Bool} {c : Ty} (h : WE (mo δ) S fun x S1 => ∃ t b, tyOf S1 x = some t ∧ isi t c = some b ∧ Q (.bl b) S1) : WE (eIsi isi c mo δ) S Q := by
  obtain ⟨x, S1, e, t, b, h1, h2, q⟩ := h
  exact ⟨_, S1, eIsi_ok e h1 h2, q⟩
theorem we_mb {T : String} {f : D → List D → PO} (h : WE (mo δ) S fun x S1 => tyD T S1 x = true ∧ WE (mas δ) S1 fun xs S2 => WE (lft (f x xs)) S2 Q) : WE (eMB T f mo mas δ) S Q := by
  obtain ⟨x, S1, e, h1, xs, S2, e2, z, S3, e3, q⟩ := h
  exact ⟨z, S3, by simp only [eMB, M.bind, e, h1, if_true, e2, e3], q⟩
theorem we_frz (h : WE (ma δ) S fun x S1 => WE (lft (frzD 4 x)) S1 Q) : WE (eFrz ma δ) S Q := we_bind h
theorem we_cut {ml mh : Option ME} (h : WE (mo δ) S fun x S1 => WE (oPart ml δ) S1 fun lo S2 => WE (oPart mh δ) S2 fun hi S3 => WE (lft (pCut x lo hi)) S3 Q) : WE (eCut mo ml mh δ) S Q := we_bind (we_imp h fun _ _ h => we_bind (we_imp h fun _ _ h => we_bind h))
theorem we_oN {QO : Option Int → Store → Prop} (q : QO none S) : WE (oPart none δ) S QO := we_pure q
theorem we_oS {QO : Option Int → Store → Prop} (h : WE (ma δ) S fun x S1 => ∃ i, x = .int i ∧ QO (some i) S1) : WE (oPart (some ma) δ) S QO := we_bind (we_imp h fun x S1 ⟨i, e, q⟩ => by subst e; exact we_pure q)
theorem we_any (h : WE (ma δ) S fun x S1 => ∃ ds, anyOf x = some ds ∧ QA ds S1) : WE (iAny ma δ) S QA := we_bind (we_imp h fun x S1 ⟨ds, e, q⟩ => ⟨ds, S1, by simp only [e], q⟩)
theorem we_R1 (h : WE (mas δ) S fun xs S1 => ∃ k : Nat, xs = [.int k] ∧ k < 4611686018427387904 ∧ QA (rngD 0 k) S1) : WE (iR1 mas δ) S QA := by
  obtain ⟨xs, S1, e, k, rfl, hk, q⟩ := h
  exact ⟨_, S1, iR1_ok e hk, q⟩
theorem we_R2 (h : WE (mas δ) S fun xs S1 => ∃ i j : Int, xs = [.int i, .int j] ∧ (-(2 ^ 62) ≤ i ∧ i < 2 ^ 62 ∧ -(2 ^ 62) ≤ j ∧ j < 2 ^ 62) ∧ QA (rngD i (j - i).toNat) S1) : WE (iR2 mas δ) S QA := by
  obtain ⟨xs, S1, e, i, j, rfl, hk, q⟩ := h
  exact ⟨_, S1, by simp only [iR2, M.bind, e, hk, and_self, if_true, M.pure], q⟩
theorem we_rg {fin : List D → PO} (h : WE (ma δ) S fun x S1 => ∃ n : Int, x = .int n ∧ rgOk 0 n = true ∧ WE (lft (fin (rgD 0 n))) S1 Q) : WE (eRg fin (g1 ma) δ) S Q := by
  obtain ⟨x, S1, e, n, rfl, hk, z, S2, e2, q⟩ := h
  refine ⟨z, S2, ?_, q⟩
  simp only [lft] at e2
  simp only [eRg, g1, M.bind, e, M.pure, lft, hk, if_true]
  exact e2
theorem we_enu (h : WE (mas δ) S fun xs S1 => ∃ zs, (xs = [.lst zs] ∨ xs = [.tup zs]) ∧ QA (enumD zs) S1) : WE (iEnu mas δ) S QA := by
  obtain ⟨xs, S1, e, zs, h, q⟩ := h
  refine ⟨_, S1, ?_, q⟩
  rcases h with rfl | rfl <;> simp only [iEnu, M.bind, e]
theorem we_zip (h : WE (mas δ) S fun xs S1 => ∃ zs, pZip xs = some zs ∧ QA zs S1) : WE (iZip mas δ) S QA := by
  obtain ⟨xs, S1, e, zs, h, q⟩ := h
  exact ⟨_, S1, iZip_ok e h, q⟩
variable {P : Post} {ms mt : MS}
theorem ws_ofE {m : M α} {k : α → Store → Fl} (h : WE m S fun a S1 => WS (k a S1) P) : WS (ofE m δ k S) P := by
  obtain ⟨a, S1, e, q⟩ := h
  refine ⟨?_⟩
  simp only [ofE, e]
  exact q.ex
theorem ws_imp {r : Fl} {P P' : Post} (h : WS r P) (h1 : ∀ δ S, P.nx δ S → P'.nx δ S) (h2 : ∀ d S, P.rt d S → P'.rt d S) (h3 : ∀ δ S, P.ct δ S → P'.ct δ S) (h4 : ∀ δ S, P.bk δ S → P'.bk δ S) (h5 : ∀ x δ S, P.ex x δ S → P'.ex x δ S) : WS r P' := by
  replace h := h.ex
  refine ⟨?_⟩
  cases r with
  | nx δ S => exact h1 _ _ h
  | rt d S => exact h2 _ _ h
  | bk δ S => exact h4 _ _ h
  | ct δ S => exact h3 _ _ h
  | exc x δ S => exact h5 _ _ _ h
  | bad => exact h
theorem ws_seq {n : En → Store → Prop} {r : D → Store → Prop} {c b : En → Store → Prop} {x : Xc → En → Store → Prop} (h : WS (ms δ S) ⟨fun δ1 S1 => WS (mt δ1 S1) ⟨n, r, c, b, x⟩, r, c, b, x⟩) : WS (sSeq ms mt δ S) ⟨n, r, c, b, x⟩ := by
  replace h := h.ex
  refine ⟨?_⟩
  unfold sSeq
  cases e : ms δ S with
  | nx δ1 S1 => rw [e] at h; exact WS.ex h
  | rt d S1 => rw [e] at h; exact h
  | bk δ1 S1 => rw [e] at h; exact h
  | ct δ1 S1 => rw [e] at h; exact h
  | exc x δ1 S1 => rw [e] at h; exact h
  | bad => rw [e] at h; exact h
theorem ws_next {n : En → Store → Prop} {r : D → Store → Prop} {c b : En → Store → Prop} {x : Xc → En → Store → Prop} (h : n δ S) : WS (sNext δ S) ⟨n, r, c, b, x⟩ := ⟨h⟩
theorem ws_cnt {n : En → Store → Prop} {r : D → Store → Prop} {c b : En → Store → Prop} {x : Xc → En → Store → Prop} (h : c δ S) : WS (sCnt δ S) ⟨n, r, c, b, x⟩ := ⟨h⟩
theorem ws_brk {n : En → Store → Prop} {r : D → Store → Prop} {c b : En → Store → Prop} {x : Xc → En → Store → Prop} (h : b δ S) : WS (sBrk δ S) ⟨n, r, c, b, x⟩ := ⟨h⟩
theorem ws_retN {n : En → Store → Prop} {r : D → Store → Prop} {c b : En → Store → Prop} {x : Xc → En → Store → Prop} (h : r .non S) : WS (sRetN δ S) ⟨n, r, c, b, x⟩ := ⟨h⟩
theorem ws_ret {n : En → Store → Prop} {r : D → Store → Prop} {c b : En → Store → Prop} {x : Xc → En → Store → Prop} (h : WE (ma δ) S r) : WS (sRet ma δ S) ⟨n, r, c, b, x⟩ := ws_ofE (we_imp h fun _ _ h => ⟨h⟩)
theorem ws_expr {n : En → Store → Prop} {r : D → Store → Prop} {c b : En → Store → Prop} {x : Xc → En → Store → Prop} (h : WE (ma δ) S fun _ S1 => n δ S1) : WS (sExpr ma δ S) ⟨n, r, c, b, x⟩ := ws_ofE (we_imp h fun _ _ h => ⟨h⟩)
theorem ws_if (h : WE (ta δ) S fun c S1 => Br c (WS (ms δ S1) P) (WS (mt δ S1) P)) : WS (sIf ta ms mt δ S) P := ws_ofE (we_imp h fun c S1 q => by
  cases c
  · exact q.2 rfl
  · exact q.1 rfl)
structure WG (r : Option (En × Store)) (Q : En → Store → Prop) : Prop where
  ex : ∃ δ' S', r = some (δ', S') ∧ Q δ' S'
variable {QG : En → Store → Prop} {mg : TGM} {mgs : TGMs} {d : D} {ds : List D}
theorem wg_nm {i : Nat} (h : QG (δ.set i (some d)) S) : WG (gNm i d δ S) QG := ⟨_, _, rfl, h⟩
theorem wg_nl (h : QG δ S) : WG (gNl [] δ S) QG := ⟨_, _, rfl, h⟩
theorem wg_cs (h : WG (mg d δ S) fun δ1 S1 => WG (mgs ds δ1 S1) QG) : WG (gCs mg mgs (d :: ds) δ S) QG := by
  obtain ⟨δ1, S1, e1, δ2, S2, e2, q⟩ := h
  exact ⟨δ2, S2, by simp only [gCs, e1, Option.bind_some, e2], q⟩
theorem wg_tp {n : Nat} (hl : ds.length = n) (h : WG (mgs ds δ S) QG) : WG (gTp n mgs (.tup ds) δ S) QG := by
  obtain ⟨δ1, S1, e1, q⟩ := h
  exact ⟨δ1, S1, by simp only [gTp, hl, if_true, e1], q⟩
theorem wg_istp {n : Nat} (h : WG (gTp n mgs d δ S) QG) : WG (gTp n mgs d δ S) QG := h
theorem wg_sb {f : PSt} (h : WE (mo δ) S fun o S1 => WE (ma δ) S1 fun i S2 => ∃ S3, f o i d S2 = some S3 ∧ QG δ S3) : WG (gSb f mo ma d δ S) QG := by
  obtain ⟨o, S1, e1, i, S2, e2, S3, e3, q⟩ := h
  exact ⟨δ, S3, gSb_ok e1 e2 e3, q⟩
theorem ws_asg {n : En → Store → Prop} {r : D → Store → Prop} {c b : En → Store → Prop} {x : Xc → En → Store → Prop} (h : WE (ma δ) S fun d S1 => WG (mg d δ S1) n) : WS (sAsg ma mg δ S) ⟨n, r, c, b, x⟩ := ws_ofE (we_imp h fun d S1 ⟨δ2, S2, e, q⟩ => by rw [e]; exact ⟨q⟩)
theorem ws_par2 {n : En → Store → Prop} {r : D → Store → Prop} {c b : En → Store → Prop} {x : Xc → En → Store → Prop} {i j : Nat} (h : WE (mas δ) S fun ds S1 => ∃ x y, ds = [x, y] ∧ n ((δ.set i (some x)).set j (some y)) S1) : WS (sPar2 i j mas δ S) ⟨n, r, c, b, x⟩ := ws_ofE (we_imp h fun ds S1 ⟨x, y, e, q⟩ => by subst e; exact ⟨q⟩)
theorem ws_par3 {n : En → Store → Prop} {r : D → Store → Prop} {c b : En → Store → Prop} {x : Xc → En → Store → Prop} {i j l : Nat} (h : WE (mas δ) S fun ds S1 => ∃ x y z, ds = [x, y, z] ∧ n (((δ.set i (some x)).set j (some y)).set l (some z)) S1) : WS (sPar3 i j l mas δ S) ⟨n, r, c, b, x⟩ := ws_ofE (we_imp h fun ds S1 ⟨x, y, z, e, q⟩ => by subst e; exact ⟨q⟩)
/-- a for, by what holds ahead of each turn -/
theorem ws_loop {n : En → Store → Prop} {r : D → Store → Prop} {c b : En → Store → Prop} {x : Xc → En → Store → Prop} {mb : MS} (I : Nat → En → Store → Prop) (step : ∀ (k : Nat) (hk : k < ds.length) δ S, I k δ S → WG (mg ds[k] δ S) fun δ1 S1 => WS (mb δ1 S1) ⟨I (k + 1), r, I (k + 1), n, x⟩) (fin : ∀ δ S, I ds.length δ S → n δ S) (h0 : I 0 δ S) : WS (loopF mg mb ds δ S) ⟨n, r, c, b, x⟩ := by
  have key : ∀ (m k : Nat), k + m = ds.length → ∀ δ S, I k δ S → WS (loopF mg mb (ds.drop k) δ S) ⟨n, r, c, b, x⟩ := by
    intro m
    induction m with
    | zero =>
      intro k hk δ S h
      rw [List.drop_of_length_le (by omega)]
      have : k = ds.length := by omega
      subst this
      exact ⟨fin δ S h⟩
    | succ m ih =>
      intro k hk δ S h
      have hlt : k < ds.length := by omega
      rw [List.drop_eq_getElem_cons hlt]
      obtain ⟨δ1, S1, e1, q⟩ := step k hlt δ S h
      replace q := q.ex
      refine ⟨?_⟩
      simp only [loopF, e1]
      cases e2 : mb δ1 S1 with
      | nx δ2 S2 => rw [e2] at q; exact (ih (k + 1) (by omega) δ2 S2 q).ex
      | ct δ2 S2 => rw [e2] at q; exact (ih (k + 1) (by omega) δ2 S2 q).ex
      | bk δ2 S2 => rw [e2] at q; exact q
      | rt d S2 => rw [e2] at q; exact q
      | exc x δ2 S2 => rw [e2] at q; exact q
      | bad => rw [e2] at q; exact q
  have := key ds.length 0 (by omega) δ S h0
  rwa [List.drop_zero] at this
theorem ws_for {mi : MA} {mb : MS} (h : WE (mi δ) S fun ds S1 => WS (loopF mg mb ds δ S1) P) : WS (sFor mi mg mb δ S) P := ws_ofE h
variable {fin : List D → PO} {mi : MA} {up : UpD} {me : ME} {vs : List Nat} {δ0 : En}
/-- a comprehension, by what holds ahead of each turn -/
theorem we_loopC {mt : MT} (I : Nat → List D → Store → Prop) (step : ∀ (k : Nat) (hk : k < ds.length) acc S, I k acc S → ∃ us, up ds[k] = some us ∧ WE (mt (setsD δ0 us)) S fun b S1 => Br b (WE (me (setsD δ0 us)) S1 fun y S2 => acc.length < sizeLine ∧ I (k + 1) (acc ++ [y]) S2) (I (k + 1) acc S1)) (h0 : I 0 [] S) : WE (loopC up mt me δ0 ds []) S (I ds.length) := by
  have key : ∀ (n k : Nat), k + n = ds.length → ∀ acc S, I k acc S → WE (loopC up mt me δ0 (ds.drop k) acc) S (I ds.length) := by
    intro n
    induction n with
    | zero =>
      intro k hk acc S h
      rw [List.drop_of_length_le (by omega)]
      have : k = ds.length := by omega
      subst this
      exact ⟨acc, S, rfl, h⟩
    | succ n ih =>
      intro k hk acc S h
      have hlt : k < ds.length := by omega
      rw [List.drop_eq_getElem_cons hlt]
      obtain ⟨us, e0, b, S1, e1, q⟩ := step k hlt acc S h
      cases b with
      | false =>
        obtain ⟨zs, S3, e3, q3⟩ := ih (k + 1) (by omega) acc S1 (q.2 rfl)
        exact ⟨zs, S3, by simp only [loopC, e0, M.bind, noX, e1, e3], q3⟩
      | true =>
        obtain ⟨y, S2, e2, hl, q2⟩ := q.1 rfl
        obtain ⟨zs, S3, e3, q3⟩ := ih (k + 1) (by omega) (acc ++ [y]) S2 q2
        exact ⟨zs, S3, by simp only [loopC, e0, M.bind, noX, e1, e2, hl, if_true, e3], q3⟩
  have := key ds.length 0 (by omega) [] S h0
  rwa [List.drop_zero] at this
theorem we_lc {mt : MT} (h : WE (mi δ) S fun ds S1 => WE (loopC up mt me (wipeD δ vs) ds []) S1 fun ys S2 => WE (lft (fin ys)) S2 Q) : WE (eLc fin mi up mt me vs δ) S Q := we_bind (we_imp h fun _ _ h => we_bind h)
/-- a comprehension that changes nothing, over data that stand for things -/
theorem we_loopE {γ ε : Type} {mt : MT} (enc : γ → D) (enc' : ε → D) (q : γ → Bool) (g : γ → ε) {zs : List γ} (hl : zs.length ≤ 1000000) (h : ∀ x ∈ zs, ∃ us, up (enc x) = some us ∧ WE (mt (setsD δ0 us)) S fun b S1 => S1 = S ∧ b = q x ∧ (q x = true → WE (me (setsD δ0 us)) S fun y S2 => S2 = S ∧ y = enc' (g x)))
    (hq : QA (((zs.filter q).map g).map enc') S) : WE (loopC up mt me δ0 (zs.map enc) []) S QA := by
  refine we_imp (we_loopC (fun k acc S' => S' = S ∧ acc = (((zs.take k).filter q).map g).map enc') ?_ ⟨rfl, by simp⟩) ?_
  · rintro k hk acc S' ⟨e, ha⟩
    subst e
    simp only [List.length_map] at hk
    have hx : zs[k] ∈ zs := List.getElem_mem hk
    obtain ⟨us, e0, b, S1, e1, rfl, rfl, hb⟩ := h zs[k] hx
    refine ⟨us, by rw [List.getElem_map]; exact e0, _, S1, e1, fun hb1 => ?_, fun hb1 => ⟨rfl, ?_⟩⟩
    · obtain ⟨y, S2, e2, rfl, rfl⟩ := hb hb1
      refine ⟨_, S2, e2, ?_, rfl, ?_⟩
      · subst ha
        refine Nat.lt_of_lt_of_le ?_ (small (Nat.le_refl 1000000))
        simp only [List.length_map]
        have := List.length_filter_le q (zs.take k)
        have h2 : (zs.take k).length = k := by simp; omega
        omega
      · rw [ha, ← List.take_append_getElem hk, List.filter_append]
        simp [hb1]
    · rw [ha, ← List.take_append_getElem hk, List.filter_append]
      simp [hb1]
  · rintro ys S2 ⟨e, e2⟩
    subst e e2
    simpa using hq
theorem we_loopM {γ ε : Type} (enc : γ → D) (enc' : ε → D) (g : γ → ε) {zs : List γ} (hl : zs.length ≤ 1000000) (h : ∀ x ∈ zs, ∃ us, up (enc x) = some us ∧ WE (me (setsD δ0 us)) S fun y S2 => S2 = S ∧ y = enc' (g x))
    (hq : QA ((zs.map g).map enc') S) : WE (loopC up tYesM me δ0 (zs.map enc) []) S QA :=
  we_loopE enc enc' (fun _ => true) g hl (fun x hx => by
    obtain ⟨us, e, w⟩ := h x hx
    exact ⟨us, e, wt_yes ⟨rfl, rfl, fun _ => w⟩⟩) (by rw [List.filter_eq_self.mpr fun _ _ => rfl]; exact hq)
theorem we_newL (hl : ds.length ≤ sizeLine) (q : Q (.lst ds) S) : WE (lft (newL ds)) S Q := we_lft (newL_ev hl) q
theorem we_fun {nN n : Nat} {m : MS} (hl : ds.length = n) (h : WS (m (startD nN ds) S) ⟨fun _ S1 => Q .non S1, Q, fun _ _ => False, fun _ _ => False, fun _ _ _ => False⟩) : WE (funM nN n m ds) S Q := by
  replace h := h.ex
  refine ⟨?_⟩
  unfold funM
  simp only [hl, if_true]
  cases e : m (startD nN ds) S with
  | nx δ1 S1 => rw [e] at h; exact ⟨.non, S1, by simp, h⟩
  | rt d S1 => rw [e] at h; exact ⟨d, S1, by simp, h⟩
  | ct δ1 S1 => rw [e] at h; exact h.elim
  | bk δ1 S1 => rw [e] at h; exact h.elim
  | exc x δ1 S1 => rw [e] at h; exact h.elim
  | bad => rw [e] at h; exact h.elim
end
end Wp
namespace Rg
open PySem PySem.W L2 Ev Bd Sp
def val (R : Rw) (j k : Int) : Int := (R.getD j.toNat []).getD k.toNat 0
/-- rows hang together by columns -/
def Hang (R : Rw) (I J : List Int) : Prop := ∀ P : Int → Prop, P (at_ I 0) → (∀ i ∈ I, ∀ j ∈ I, ∀ k ∈ J, P i → bit R i k = true → bit R j k = true → P j) → ∀ j ∈ I, P j
/-- the law's own words: as many rows as columns, two ones in each, together -/
structure LawR (h w : Nat) (R : Rw) (q : Pq) : Prop where
  eq : q.1.length = q.2.length
  size : q.1.length = 3 ∨ q.1.length = 5 ∨ q.1.length = 7
  asc1 : Asc q.1
  asc2 : Asc q.2
  rg1 : ∀ i ∈ q.1, 0 ≤ i ∧ i < h
  rg2 : ∀ k ∈ q.2, 0 ≤ k ∧ k < w
  col : ∀ k ∈ q.2, (q.1.map fun j => val R j k).sum = 2
  row : ∀ j ∈ q.1, (q.2.map fun k => val R j k).sum = 2
  hang : Hang R q.1 q.2
end Rg
namespace Rg
open PySem PySem.W L2 Ev Bd Sp
def lastOk (e : List Int) (k : Int) : Bool := e.isEmpty || decide (at_ e (e.length - 1) < k)
def someL (n : Nat) : Nat → Rw
  | 0 => [[]]
  | s + 1 => (someL n s).flatMap fun e => ((rng n).filter (lastOk e)).map fun k => e ++ [k]
def pickT (T P : List Int) : List Int := P.map fun k => T.getD k.toNat 0
def twosL (R : Rw) (w : Nat) (I : List Int) : List Int := (rng w).filter fun k => (I.map fun j => val R j k).sum == 2
def tw (R : Rw) (w : Nat) (I : List Int) (s : Nat) : List Int := if (s : Int) ≤ (twosL R w I).length then twosL R w I else []
def candI (R : Rw) (w s : Nat) (I : List Int) : List Pq := (someL (tw R w I s).length s).map fun P => (I, pickT (tw R w I s) P)
def candS (R : Rw) (h w s : Nat) : List Pq := (someL h s).flatMap fun I => candI R w s I
def cand (R : Rw) (h w : Nat) : List Pq := [3, 5, 7].flatMap fun s => candS R h w s
open Classical in
noncomputable def okQ (R : Rw) (q : Pq) : Bool := decide (∀ j ∈ q.1, (q.2.map fun k => val R j k).sum = 2) && decide (Hang R q.1 q.2)
noncomputable def lawL (R : Rw) (h w : Nat) : List Pq := (cand R h w).filter (okQ R)
end Rg
namespace Rg
open PySem PySem.W L2 Ev Bd Sp
def nr (R : Rw) (J s : List Int) (j : Int) : Bool := J.any fun k => bit R j k && s.any fun i => bit R i k
def stp (R : Rw) (J s : List Int) (j : Int) : List Int := if j ∉ s ∧ nr R J s j = true then s ++ [j] else s
def swp (R : Rw) (I J s : List Int) : List Int := I.foldl (stp R J) s
def swps (R : Rw) (I J : List Int) : Nat → List Int
  | 0 => [at_ I 0]
  | n + 1 => swp R I J (swps R I J n)
section
variable {R : Rw} {I J s : List Int} {j : Int}
end
section
variable {cal : Nat → List D → M D} {S : Store}
end
end Rg
namespace Rg
open PySem PySem.W L2 Ev Bd Sp
section
variable {cal : Nat → List D → M D} {S : Store}
end
end Rg
namespace Rg
open PySem PySem.W L2 Ev Bd Sp
structure CR (cal : Nat → List D → M D) (R : Rw) (h w : Nat) : Prop where
  some : ∀ (n s : Nat) S, n ≤ 8 → s ≤ 8 → cal 54 [.int n, .int s] S = .ok (lotsL (someL n s)) S
  twos : ∀ (I : List Int) (s : Nat) S, (∀ i ∈ I, 0 ≤ i ∧ i < h) → I.length ≤ 8 → cal 56 [rowsL R, tI I, .int s] S = .ok (lI (tw R w I s)) S
  one : ∀ (I J : List Int) S, (∀ i ∈ I, 0 ≤ i ∧ i < h) → 0 < I.length → I.length ≤ 8 → (∀ k ∈ J, 0 ≤ k ∧ k < w) → J.length ≤ 8 → ∃ S', cal 55 [rowsL R, tI I, tI J] S = .ok (.bl (decide ((swps R I J I.length).length = I.length))) S' ∧ Keep S S'
section
variable {cal : Nat → List D → M D}
theorem Keep.get {S S' : Store} (h : Keep S S') {j : Nat} {x : Option Cell} (hj : S[j]? = some x) : S'[j]? = some x := by
  rw [h.2 j (List.getElem?_eq_some_iff.mp hj).1]; exact hj
end
end Rg
namespace Rg
open PySem PySem.W L2 Ev Bd Sp
structure Fine (p : PyData) (wt dp : Nat) : Prop where
  sh : p.showable = true
  ish : p.intsShort 13 = true
  lay : p.canLay0 = true
  wt : p.weight ≤ wt
  dp : p.depth ≤ dp
theorem Fine.mono {p : PyData} {a b c d : Nat} (h : Fine p a b) (h1 : a ≤ c) (h2 : b ≤ d) : Fine p c d := ⟨h.sh, h.ish, h.lay, Nat.le_trans h.wt h1, Nat.le_trans h.dp h2⟩
section
variable {cal : Nat → List D → M D} {S : Store} {h w : Nat} {R : Rw} {Q : List Pq}
def firstD (Q : List Pq) : D := match Q with
  | [] => .non
  | q :: _ => ringD q
end
structure C17 (cal : Nat → List D → M D) : Prop where
  grid : GridF ReedJ (cal 51)
  full : ∀ (R : Rw) (most : Nat) S, Grid most R → most ≤ 8 → ∃ b, cal 50 [rowsL R] S = .ok (.bl b) S ∧ (b = true → ∃ h w, Full h w R ∧ h ≤ most ∧ w ≤ most)
  text : ∀ h w R S, Full h w R → cal 2 [rowsL R] S = .ok (.str (txt R)) S
  tab : ∀ h w R S, Full h w R → cal 1 [.str (txt R)] S = .ok (tabD h w R) S
  mine : ∀ h w R S, Full h w R → ∃ S', cal 49 [rowsL R] S = .ok (.lst ((lawL R h w).map ringD)) S' ∧ Keep S S'
  odd : ∀ h w R S, Full h w R → ∃ S', cal 48 [tabD h w R] S = .ok (.tup ((lawL R h w).map ringD)) S' ∧ Keep S S'
  even : ∀ h w R S, Full h w R → ∃ S', cal 47 [tabD h w R] S = .ok (.bl (lawL R h w).isEmpty) S' ∧ Keep S S'
  first : ∀ h w R S, Full h w R → ∃ S', cal 46 [tabD h w R] S = .ok (firstD (lawL R h w)) S' ∧ Keep S S'
end Rg
namespace Rg
open PySem PySem.W L2 Ev Bd Sp
section
variable {R R' : Rw} {T P J : List Int} {h w : Nat}
end
def hits (Q : List Pq) (lot : List Int) : Bool := Q.all fun q => q.1.any fun i => decide (i ∈ lot)
end Rg
namespace Bd
open PySem L2 Ev
end Bd
namespace Rg
open PySem PySem.W PyProof.Rows L2 Ev Bd Sp
section
variable {cal : Nat → List D → M D} {S : Store}
end
end Rg
namespace Rg
open PySem PySem.W L2 Ev Bd Sp
def hitS (Q : List Pq) (h s : Nat) : Rw := (someL h s).filter (hits Q)
def due (Q : List Pq) (h : Nat) : List Nat → Rw
  | [] => []
  | s :: ss => if hitS Q h s = [] then due Q h ss else hitS Q h s
def stops (F : Rw) (l : List Int) : Bool := !F.isEmpty && decide (((F.getD 0 []).length : Int) < (l.length : Int))
def run (Q : List Pq) : Rw → Rw → Rw
  | [], F => F
  | l :: ls, F => if stops F l = true then F else run Q ls (if hits Q l = true then F ++ [l] else F)
section
variable {cal : Nat → List D → M D} {S : Store}
end
end Rg
namespace Rg
open PySem PySem.W L2 Ev Bd Sp
section
variable {cal : Nat → List D → M D} {S : Store}
theorem eqv_nil (ps : List PyData) : PyData.eqv (.list ps) (.list []) = ps.isEmpty := by
  cases ps with
  | nil => simp [PyData.eqv, PyData.eqvAll]
  | cons x e => simp [PyData.eqv, PyData.eqvAll]
theorem toPS_nil {n : Nat} (hn : S[n]? = some (some (.lst []))) : toPS S (.ref n) = some (.list []) := by
  simp [toPS, plstOf, hn, toPs]
theorem ne_nil_ref {x : D} {ps : List PyData} {n : Nat} (hn : S[n]? = some (some (.lst []))) (h : toPS S x = some (.list ps)) (hd : PyData.depthAll ps ≤ 50) : pNe x (.ref n) S = some (.bl (!ps.isEmpty), S) := by
  have hd2 : (PyData.list ps).depth ≤ 60 := by simp only [PyData.depth]; omega
  simp only [pNe, eqD, h, toPS_nil hn, hd2, if_true, eqv_nil, Option.map_some]
theorem depth_ints (r : List Int) : PyData.depthAll (r.map PyData.int) ≤ 1 := depthAll_le fun p hp => by
  obtain ⟨i, _, rfl⟩ := List.mem_map.mp hp
  simp [PyData.depth]
end
structure C55 (cal : Nat → List D → M D) : Prop where
  grid : GridF ReedJ (cal 51)
  full : ∀ (R : Rw) (most : Nat) S, Grid most R → most ≤ 8 → ∃ b, cal 50 [rowsL R] S = .ok (.bl b) S ∧ (b = true → ∃ h w, Full h w R ∧ h ≤ most ∧ w ≤ most)
  text : ∀ h w R S, Full h w R → cal 2 [rowsL R] S = .ok (.str (txt R)) S
  tab : ∀ h w R S, Full h w R → cal 1 [.str (txt R)] S = .ok (tabD h w R) S
  mine : ∀ h w R S, Full h w R → ∃ S', cal 83 [rowsL R] S = .ok (.tup ((due (lawL R h w) h (List.range (h + 1))).map Sp.tI)) S' ∧ Keep S S'
  least : ∀ h w R S, Full h w R → ∃ S', cal 82 [tabD h w R] S = .ok (.tup ((due (lawL R h w) h (List.range (h + 1))).map Sp.tI)) S' ∧ Keep S S'
end Rg
namespace Wp
open PySem L2 Ev Sp
section
variable {S S1 S2 : Store} {δ : En} {Q : D → Store → Prop} {P : Bool → Prop} {PL : List D → Prop} {A B : Prop} {c : Bool} {xs ys ds : List D} {ns ms : List Int} {i j : Int} {mo : ME}
theorem x_bl (h : P c) : ∃ b, (D.bl c) = .bl b ∧ P b := ⟨c, rfl, h⟩
theorem t_bl (h : P c) : ∃ b, truD S (.bl c) = some b ∧ P b := ⟨c, rfl, h⟩
theorem t_lst (h : P (!ds.isEmpty)) : ∃ b, truD S (.lst ds) = some b ∧ P b := ⟨_, rfl, h⟩
theorem t_tup (h : P (!ds.isEmpty)) : ∃ b, truD S (.tup ds) = some b ∧ P b := ⟨_, rfl, h⟩
theorem t_int (h : P (i != 0)) : ∃ b, truD S (.int i) = some b ∧ P b := ⟨_, rfl, h⟩
theorem t_non (h : P false) : ∃ b, truD S .non = some b ∧ P b := ⟨_, rfl, h⟩
theorem a_lst (h : PL ds) : ∃ l, anyOf (.lst ds) = some l ∧ PL l := ⟨_, rfl, h⟩
theorem a_tup (h : PL ds) : ∃ l, anyOf (.tup ds) = some l ∧ PL l := ⟨_, rfl, h⟩
theorem s_lst (h : PL ds) : ∃ l, seqOf S (.lst ds) = some l ∧ PL l := ⟨_, rfl, h⟩
theorem s_tup (h : PL ds) : ∃ l, seqOf S (.tup ds) = some l ∧ PL l := ⟨_, rfl, h⟩
theorem br_not (h : Br c B A) : Br (!c) A B := by
  cases c
  · exact ⟨fun _ => h.2 rfl, fun e => (by cases e)⟩
  · exact ⟨fun e => (by cases e), fun _ => h.1 rfl⟩
theorem br_dec {p : Prop} [Decidable p] (h1 : p → A) (h2 : ¬ p → B) : Br (decide p) A B := ⟨fun e => h1 (of_decide_eq_true e), fun e => h2 (of_decide_eq_false e)⟩
theorem br_beq (h1 : i = j → A) (h2 : i ≠ j → B) : Br (i == j) A B := ⟨fun e => h1 (by simpa using e), fun e => h2 (by simpa using e)⟩
theorem len_nil2 {A : Prop} {n : Nat} (h : A) : ([] : List D).length ≤ n ∧ A := ⟨Nat.zero_le _, h⟩
theorem len_isl {l : List D} {A : Prop} (h : l.length ≤ sizeLine ∧ A) : l.length ≤ sizeLine ∧ A := h
theorem len_lit {l : List D} {A : Prop} (e : Nat.ble l.length 1000000 = true) (h : A) : l.length ≤ sizeLine ∧ A := ⟨small (Nat.le_of_ble_eq_true e), h⟩
theorem we_dT (q : Q (.ref S.length) (S ++ [some (.dT [])])) : WE (eDT δ) S Q := ⟨_, _, rfl, q⟩
theorem neg_i : pNeg (.int i) S = some (.int (-i), S) := rfl
theorem x_int {PI : Int → Prop} (h : PI i) : ∃ k, (D.int i) = .int k ∧ PI k := ⟨i, rfl, h⟩
theorem wl_addLL (hl : xs.length + ys.length ≤ 1000000) (h : Q (.lst (xs ++ ys)) S) : WE (lft (pAdd (.lst xs) (.lst ys))) S Q := we_lft (add_ll (small hl)) h
theorem we_revT (h : WE (mo δ) S fun x S1 => ∃ xs, x = .tup xs ∧ xs.length ≤ 1000000 ∧ Q (.tup xs.reverse) S1) : WE (eRevT mo δ) S Q := we_bind (we_imp h fun x S1 ⟨xs, e, hl, q⟩ => by
  subst e
  exact we_lft (by simp only [pRevT]; exact newT_ev (by rw [List.length_reverse]; exact small hl)) q)
theorem wl_ix {k : Nat} (hk : k < xs.length) (h : Q (xs[k]) S) : WE (lft (pIx (.lst xs) (.int k))) S Q := we_lft (pIx_lst hk) h
theorem wl_ixT {k : Nat} (hk : k < xs.length) (h : Q (xs[k]) S) : WE (lft (pIx (.tup xs) (.int k))) S Q := we_lft (pIx_tup hk) h
end
end Wp
namespace Ty
open PySem L2 Ev Bd Sp
/-- the tray at t -/
def Tr (t : Nat) (S : Store) : Prop := ∃ a b c : Int, S[t]? = some (some (.lst [.int a, .int b, .int c])) ∧ 0 ≤ a
theorem pos_p : (0 : Int) < 2147483323 := by omega
theorem store3 {S : Store} {t : Nat} {x0 x1 x2 v : D} {k : Nat} (hS : S[t]? = some (some (.lst [x0, x1, x2]))) (hk : k < 3) : pStore (.ref t) (.int k) v S = some (S.set t (some (.lst ([x0, x1, x2].set k v)))) := by
  have h0 : (0 : Int) ≤ k := by omega
  have h1 : (k : Int) < 3 := by omega
  simp [pStore, hS, ixN, h0, h1]
theorem ix3_0 {S : Store} {t : Nat} {x0 x1 x2 : D} (hS : S[t]? = some (some (.lst [x0, x1, x2]))) : pIx (.ref t) (.int 0) S = some (x0, S) := pIx_ref (k := 0) hS (by simp)
theorem ix3_1 {S : Store} {t : Nat} {x0 x1 x2 : D} (hS : S[t]? = some (some (.lst [x0, x1, x2]))) : pIx (.ref t) (.int 1) S = some (x1, S) := pIx_ref (k := 1) hS (by simp)
theorem ix3_2 {S : Store} {t : Nat} {x0 x1 x2 : D} (hS : S[t]? = some (some (.lst [x0, x1, x2]))) : pIx (.ref t) (.int 2) S = some (x2, S) := pIx_ref (k := 2) hS (by simp)
theorem take_tr0 {cal : Nat → List D → M D} {t : Nat} {m : Int} {S : Store} (h : Tr t S) (hm : 0 < m) (hm2 : m < 1073741824) : ∃ (f : Nat) (x : Cell), funM 3 2 (b__law_take cal) [.ref t, .int m] S = .ok (.int f) (S.set t (some x)) ∧ (f : Int) < m ∧ Tr t (S.set t (some x)) := by
  obtain ⟨a, b, c, hS, ha⟩ := h
  have nat : ∀ z : Int, 0 ≤ z % m → ∃ f : Nat, z % m = f ∧ (f : Int) < m := fun z hz => ⟨(z % m).toNat, by omega, by have := Int.emod_lt_of_pos z hm; omega⟩
  by_cases h : 0 < a
  · obtain ⟨f, ef, hf⟩ := nat a (Int.emod_nonneg _ (by omega))
    have g0 := store3 (v := .int (a / m)) (k := 0) hS (by omega)
    refine ⟨f, _, ?_, hf, a / m, b, c, set_get hS, Int.ediv_nonneg ha (by omega)⟩
    unfold b__law_take
    refine funM_rt rfl (sSeq_rt (sIf_t (asB_ok (eOp_ok (eOp_ok rfl rfl (ix3_0 hS)) rfl ?_)) (sSeq_nx (sAsg_ok (eCallV_ok (aCons_ok (eOp_ok rfl rfl (ix3_0 hS)) (aCons_ok rfl rfl)) (z := .tup [.int (a / m), .int f]) (S2 := S) ?_) (δ2 := [some (.ref t), some (.int m), some (.int f)]) (S2 := S.set t (some (.lst [.int (a / m), .int b, .int c]))) ?_) (sRet_ok rfl))))
    · rw [pGt_ii, decide_eq_true h]
    · simp only [pDivmod, hm, hm2, and_self, if_true, ef]
    · exact gTp2_ok (gSb_ok rfl rfl g0) rfl
  · have h0 : a = 0 := by omega
    subst h0
    have m1 : mulOk b ((b / 64) % 26003 + 23) = true := mul_r (by have := Int.emod_nonneg (b / 64) (show (26003 : Int) ≠ 0 by decide); omega) (by have := Int.emod_lt_of_pos (b / 64) (show (0 : Int) < 26003 by decide); omega)
    have m2 : mulOk 18013 (c + 1) = true := mul_l (by omega) (by omega)
    obtain ⟨f, ef, hf⟩ := nat ((b * ((b / 64) % 26003 + 23) + 18013 * (c + 1) + 11) % 2147483323 / 1024) (Int.emod_nonneg _ (by omega))
    have g1 := set_get (c' := .lst [.int 0, .int b, .int (c + 1)]) hS
    have g0 := store3 (v := .int (c + 1)) (k := 2) hS (by omega)
    have g2 := store3 (v := .int ((b * ((b / 64) % 26003 + 23) + 18013 * (c + 1) + 11) % 2147483323)) (k := 1) g1 (by omega)
    rw [List.set_set] at g2
    have g3 := set_get (c' := .lst [.int 0, .int ((b * ((b / 64) % 26003 + 23) + 18013 * (c + 1) + 11) % 2147483323), .int (c + 1)]) hS
    refine ⟨f, _, ?_, hf, 0, _, _, g3, Int.le_refl _⟩
    unfold b__law_take
    refine funM_rt rfl (sSeq_nx (sIf_f (asB_ok (eOp_ok (eOp_ok rfl rfl (ix3_0 hS)) rfl rfl)) rfl)
      (sSeq_nx (sAsg_ok (eOp_ok (eOp_ok rfl rfl (ix3_2 hS)) rfl rfl) (gSb_ok rfl rfl g0))
      (sSeq_nx (sAsg_ok (eOp_ok (eCallV_ok (aCons_ok (eOp_ok (eOp_ok (eOp_ok (eOp_ok rfl rfl (ix3_1 g1)) (eOp_ok (eOp_ok (eCallV_ok (aCons_ok (eOp_ok (eOp_ok rfl rfl (ix3_1 g1)) rfl (pFdiv_ii (by omega) (by omega))) rfl) pInt_i) rfl (pMod_ii (by omega))) rfl pAdd_ii) (pMul_ii m1)) (eOp_ok rfl (eOp_ok rfl rfl (ix3_2 g1)) (pMul_ii m2)) pAdd_ii) rfl pAdd_ii) rfl) pInt_i) rfl (pMod_ii pos_p)) (gSb_ok rfl rfl g2))
      (sRet_ok (eOp_ok (eCallV_ok (aCons_ok (eOp_ok (eOp_ok rfl rfl (ix3_1 g3)) rfl (pFdiv_ii (by omega) (by omega))) rfl) pInt_i) rfl ?_)))))
    rw [pMod_ii hm, ef]
    rfl
/-- the draw -/
structure TakF (dr : List D → M D) : Prop where
  tr : ∀ {t : Nat} {S : Store} {m : Int}, Tr t S → 0 < m → m < 1073741824 → ∃ (f : Nat) (x : Cell), dr [.ref t, .int m] S = .ok (.int f) (S.set t (some x)) ∧ (f : Int) < m ∧ Tr t (S.set t (some x))
theorem take_tak {cal : Nat → List D → M D} : TakF (funM 3 2 (b__law_take cal)) := ⟨fun h hm hm2 => take_tr0 h hm hm2⟩
theorem tray_ev {cal : Nat → List D → M D} {at_ : Nat} {ns : List Int} {S : Store} (hl : ns.length ≤ 1000) (ha_ : at_ ≤ 1000) : ∃ a b : Int, funM 5 2 (b__law_tray cal) [.scr ns, .int at_] S = .ok (.ref S.length) (S ++ [some (.lst [.int a, .int b, .int 3])]) ∧ 0 ≤ a := by
  unfold b__law_tray
  have k0 : ∃ k : Nat, (if (9 : Int) < (ns.length : Int) then (9 : Int) else (ns.length : Int)) = (k : Int) ∧ k ≤ ns.length ∧ k ≤ 9 := by
    by_cases h : (9 : Int) < ns.length
    · exact ⟨9, by rw [if_pos h]; rfl, by omega, by omega⟩
    · exact ⟨ns.length, by rw [if_neg h], by omega, by omega⟩
  obtain ⟨k, ek, hk1, hk2⟩ := k0
  have own0 : ∃ own : Int, (eIf (fun δ => asB (eOp pLt (eVar 1) (eCallV (pLen) (aCons (eVar 0) aNil)) δ)) (eOp pIx (eVar 0) (eVar 1)) (eC (.int 0))) [some (.scr ns), some (.int at_), none, none, none] S = .ok (.int own) S := by
    by_cases h : at_ < ns.length
    · exact ⟨ns[at_], eIf_t (asB_ok (eOp_ok rfl (eCallV_ok (aCons_ok rfl rfl) pLen_scr) (by rw [pLt_ii, decide_eq_true (by omega)]))) (eOp_ok rfl rfl (pIx_scr h))⟩
    · exact ⟨0, eIf_f (asB_ok (eOp_ok rfl (eCallV_ok (aCons_ok rfl rfl) pLen_scr) (by rw [pLt_ii, decide_eq_false (by omega)]))) rfl⟩
  obtain ⟨own, eown⟩ := own0
  have m0 : mulOk 80021 (at_ : Int) = true := mul_l (by omega) (by omega)
  obtain ⟨δ2, S2, e2, x, o, rfl, rfl⟩ := loop_inv (mg := gNm 4) (mb := (sAsg (eOp pMod (eCallV pInt (aCons (eOp pAdd (eOp pAdd (eOp pMul (eVar 3) (eOp pAdd (eC (.int 30011)) (eOp pMul (eC (.int 2)) (eVar 4)))) (eOp pMul (eC (.int 13)) (eOp pIx (eVar 0) (eVar 4)))) (eC (.int 8009))) aNil)) (eC (.int 2147483323))) (gNm 3)))
    (ds := rngD 0 k) (δ := [some (.scr ns), some (.int at_), some (.int own), some (.int (173205 + 80021 * (at_ : Int))), none]) (S := S)
    (fun i δ S' => ∃ x o, δ = ([some (.scr ns), some (.int at_), some (.int own), some (.int x), o] : En) ∧ S' = S) (by
      rintro i δ S' hi ⟨x, o, rfl, rfl⟩
      rw [rng_get]
      rw [rng_len] at hi
      have m1 : mulOk x (30011 + 2 * (i : Int)) = true := mul_r (by omega) (by omega)
      exact ⟨_, _, rfl, _, _, sAsg_ok (eOp_ok (eCallV_ok (aCons_ok (eOp_ok (eOp_ok (eOp_ok rfl (eOp_ok rfl (eOp_ok rfl rfl (pMul_ii (mul_l (by omega) (by omega)))) pAdd_ii) (pMul_ii m1)) (eOp_ok rfl (eOp_ok rfl rfl (pIx_scr (k := i) (by omega))) (pMul_ii (mul_l (by omega) (by omega)))) pAdd_ii) rfl pAdd_ii) rfl) pInt_i) rfl (pMod_ii pos_p)) rfl, _, _, rfl, rfl⟩) ⟨_, none, rfl, rfl⟩
  have fin : ∃ a : Int, 0 ≤ a ∧ (eIf (tOrM (fun δ => asB (eOp pLt (eVar 2) (eC (.int 0)) δ)) (fun δ => asB (eOp pGe (eVar 2) (eOp pPow (eC (.int 10)) (eC (.int 18))) δ))) (eCallV (pAbs) (aCons (eVar 2) aNil)) (eC (.int 0))) [some (.scr ns), some (.int at_), some (.int own), some (.int x), o] S2 = .ok (.int a) S2 := by
    have hp : ∀ S, pPow (.int 10) (.int 18) S = some (.int (10 ^ 18), S) := fun S => rfl
    by_cases h : own < 0
    · exact ⟨-own, by omega, eIf_t (tOr_t (asB_ok (eOp_ok rfl rfl (by rw [pLt_ii, decide_eq_true h])))) (eCallV_ok (aCons_ok rfl rfl) (by simp only [pAbs, h, if_true]))⟩
    · by_cases h2 : 10 ^ 18 ≤ own
      · exact ⟨own, by omega, eIf_t (tOr_f (asB_ok (eOp_ok rfl rfl (by rw [pLt_ii, decide_eq_false h]))) (asB_ok (eOp_ok rfl (eOp_ok rfl rfl (hp _)) (by rw [pGe_ii, decide_eq_true h2])))) (eCallV_ok (aCons_ok rfl rfl) (by simp only [pAbs, h, if_false]))⟩
      · exact ⟨0, by omega, eIf_f (tOr_f (asB_ok (eOp_ok rfl rfl (by rw [pLt_ii, decide_eq_false h]))) (asB_ok (eOp_ok rfl (eOp_ok rfl rfl (hp _)) (by rw [pGe_ii, decide_eq_false h2])))) rfl⟩
  obtain ⟨a, ha, efin⟩ := fin
  refine ⟨a, (x * 5 + own * 6007) % 2147483323, ?_, ha⟩
  refine funM_rt rfl (sSeq_nx (sPar2_ok (aCons_ok eown (aCons_ok (eOp_ok rfl (eOp_ok rfl rfl (pMul_ii m0)) pAdd_ii) rfl))) (sSeq_nx (sFor_ok (iR1_ok (k := k) (aCons_ok (eCallV_ok (aCons_ok (eCallV_ok (aCons_ok rfl rfl) pLen_scr) (aCons_ok rfl rfl)) ?_) rfl) (by omega)) e2)
    (sRet_ok (eLstC_ok (aCons_ok efin (aCons_ok (eOp_ok (eCallV_ok (aCons_ok (eOp_ok (eOp_ok rfl rfl (pMul_ii (mul_r (by omega) (by omega)))) (eOp_ok rfl rfl (pMul_ii (mul_r (by omega) (by omega)))) pAdd_ii) rfl) pInt_i) rfl (pMod_ii pos_p)) (aCons_ok rfl rfl))) (show (3 : Nat) ≤ sizeLine by decide)))))
  show some (D.int (if (9 : Int) < (ns.length : Int) then (9 : Int) else (ns.length : Int)), S2) = _
  rw [ek]
theorem tr_app {t : Nat} {S X : Store} (h : Tr t S) : Tr t (S ++ X) := by
  obtain ⟨a, b, c, h1, h2⟩ := h
  exact ⟨a, b, c, by rw [List.getElem?_append_left (List.getElem?_eq_some_iff.mp h1).1]; exact h1, h2⟩
theorem tr_lt {t : Nat} {S : Store} (h : Tr t S) : t < S.length := by
  obtain ⟨a, b, c, h1, _⟩ := h
  exact (List.getElem?_eq_some_iff.mp h1).1
theorem tr_other {t j : Nat} {S : Store} {x : Option Cell} (h : Tr t S) (hj : t ≠ j) : Tr t (S.set j x) := by
  obtain ⟨a, b, c, h1, h2⟩ := h
  exact ⟨a, b, c, by rw [List.getElem?_set_ne (Ne.symm hj)]; exact h1, h2⟩
theorem rows_ev {h w : Nat} {cal : Nat → List D → M D} (hd : TakF (cal 3)) (hf8 : ∀ {t : Nat} {R0 : Rw} {S : Store}, Tr t S → R0.length = h → G01 w R0 → ∃ R S', cal 8 [.ref t, rowsL R0] S = .ok (rowsL R) S' ∧ Tr t S' ∧ R.length = h ∧ G01 w R ∧ (∀ r ∈ R, (1 : Int) ∈ r) ∧ ∀ k, k < w → ∃ r ∈ R, r[k]? = some 1) {t : Nat} {S : Store} (ht : Tr t S) (h1 : 0 < h) (h2 : h ≤ 8) (w1 : 0 < w) (w2 : w ≤ 8) : ∃ R S', funM 7 3 (b__law_rows cal) [.ref t, .int h, .int w] S = .ok (rowsL R) S' ∧ Tr t S' ∧ Full h w R := by
  unfold b__law_rows
  obtain ⟨f, x, ef, hf, tf⟩ := hd.tr (m := 3) ht (by omega) (by omega)
  have line : ∀ (δ : En) (S : Store), δ[0]? = some (some (.ref t)) → δ[3]? = some (some (.int (1 + f))) → δ.length = 7 → Tr t S → ∃ r S', loopC (uNm 5) tYesM (eCallV pInt (aCons (eOp pLt (eCal (cal 3) (aCons (eVar 0) (aCons (eC (.int 4)) aNil))) (eVar 3)) aNil)) δ (rngD 0 w) [] S = .ok (iD r) S' ∧ Tr t S' ∧ r.length = w ∧ ∀ i ∈ r, i = 0 ∨ i = 1 := by
    intro δ S d0 d3 dl hS
    obtain ⟨ys, S', e, r, rfl, p1, p2, p3⟩ := lc_inv (up := uNm 5) (mt := tYesM) (me := eCallV pInt (aCons (eOp pLt (eCal (cal 3) (aCons (eVar 0) (aCons (eC (.int 4)) aNil))) (eVar 3)) aNil)) (δ0 := δ) (ds := rngD 0 w) (S := S)
      (fun k acc S' => ∃ r, acc = iD r ∧ Tr t S' ∧ r.length = k ∧ ∀ i ∈ r, i = 0 ∨ i = 1) (by
        rintro k acc S' hk ⟨r, rfl, r1, r2, r3⟩
        rw [rng_len] at hk
        obtain ⟨g, y, eg, hg, tg⟩ := hd.tr (m := 4) r1 (by omega) (by omega)
        have v0 : ∀ S', eVar 0 (δ.set 5 (some (rngD 0 w)[k])) S' = .ok (.ref t) S' := fun S' => by simp only [eVar, List.getElem?_set_ne (show 5 ≠ 0 by decide), d0, M.pure]
        have v3 : ∀ S', eVar 3 (δ.set 5 (some (rngD 0 w)[k])) S' = .ok (.int (1 + f)) S' := fun S' => by simp only [eVar, List.getElem?_set_ne (show 5 ≠ 3 by decide), d3, M.pure]
        refine ⟨[(5, (rngD 0 w)[k])], rfl, .inr ⟨S', rfl, _, _, eCallV_ok (aCons_ok (eOp_ok (eCal_ok (aCons_ok (v0 _) (aCons_ok rfl rfl)) eg) (v3 _) pLt_ii) rfl) pInt_b, ?_, r ++ [if decide ((g : Int) < 1 + f) = true then 1 else 0], (by rw [Sp.iD_app]; rfl), tg, by simp [r2], fun i hi => ?_⟩⟩
        · rw [iD_len, r2]; exact Nat.lt_of_lt_of_le (by omega) (small (n := 1000) (by omega))
        · rcases List.mem_append.mp hi with hi | hi
          · exact r3 i hi
          · rw [List.mem_singleton.mp hi]
            split <;> simp) ⟨[], rfl, hS, rfl, fun i hi => by simp at hi⟩
    rw [rng_len] at p2
    exact ⟨r, S', e, p1, p2, p3⟩
  obtain ⟨ys, S2, e2, R0, rfl, t2, l2, g2⟩ := lc_inv (up := uNm 6) (mt := tYesM) (me := eLc newL (iR1 (aCons (eVar 2) aNil)) (uNm 5) tYesM (eCallV pInt (aCons (eOp pLt (eCal (cal 3) (aCons (eVar 0) (aCons (eC (.int 4)) aNil))) (eVar 3)) aNil)) [5])
    (δ0 := wipeD [some (.ref t), some (.int h), some (.int w), some (.int (1 + f)), none, none, none] [6]) (ds := rngD 0 h) (S := S.set t (some x))
    (fun k acc S' => ∃ R : Rw, acc = R.map (fun r => .lst (iD r)) ∧ Tr t S' ∧ R.length = k ∧ G01 w R) (by
      rintro k acc S' hk ⟨R, rfl, r1, r2, r3⟩
      rw [rng_len] at hk
      obtain ⟨r, S3, e3, t3, l3, g3⟩ := line (wipeD (([some (.ref t), some (.int h), some (.int w), some (.int (1 + f)), none, none, none] : En).set 6 (some (rngD 0 h)[k])) [5]) S' rfl rfl rfl r1
      refine ⟨[(6, (rngD 0 h)[k])], rfl, .inr ⟨S', rfl, _, _, eLc_ok (iR1_ok (k := w) (aCons_ok rfl rfl) (by omega)) e3 (newL_ev (by rw [iD_len, l3]; exact small (by omega))), ?_, R ++ [r], by simp, t3, by simp [r2], fun q hq => ?_⟩⟩
      · simp only [List.length_map, r2]; exact Nat.lt_of_lt_of_le (by omega) (small (n := 1000) (by omega))
      · rcases List.mem_append.mp hq with hq | hq
        · exact r3 q hq
        · rw [List.mem_singleton.mp hq]; exact ⟨l3, g3⟩) ⟨[], rfl, tf, rfl, fun q hq => by simp at hq⟩
  rw [rng_len] at l2
  obtain ⟨R, S3, e3, t3, a1, a2, a3, a4⟩ := hf8 t2 l2 g2
  refine ⟨R, S3, ?_, t3, ⟨a1, a2, a3, a4, h1, h2, w1, w2⟩⟩
  exact funM_rt rfl (sSeq_nx (sAsg_ok (eOp_ok rfl (eCal_ok (aCons_ok rfl (aCons_ok rfl rfl)) ef) pAdd_ii) rfl) (sSeq_nx (sAsg_ok (eLc_ok (iR1_ok (k := h) (aCons_ok rfl rfl) (by omega)) e2 (newL_ev (by rw [List.length_map, l2]; exact small (by omega)))) rfl) (sRet_ok (eCal_ok (aCons_ok rfl (aCons_ok rfl rfl)) e3))))
end Ty
namespace Ty
open PySem L2 Ev Bd Sp Rg Wp
local macro_rules | `(tactic| walk_at "wp1e") => `(tactic| first | with_reducible refine we_c ?_ | with_reducible refine we_op ?_ | with_reducible refine we_un ?_ | with_reducible refine we_callV ?_ | with_reducible refine we_cons ?_ | with_reducible refine we_nil ?_ | with_reducible refine we_asB ?_ | with_reducible refine we_tru ?_ | with_reducible refine we_and ?_ | with_reducible refine we_or ?_ | with_reducible refine we_not ?_ | with_reducible refine we_if ?_ | with_reducible refine wt_and ?_ | with_reducible refine wt_or ?_ | with_reducible refine wt_not ?_ | with_reducible refine wt_yes ?_ | with_reducible refine we_chain ?_ | with_reducible refine we_fld ?_ | with_reducible refine we_isi ?_ | with_reducible refine we_mb ?_ | with_reducible refine we_frz ?_ | with_reducible refine we_cut ?_ | with_reducible refine we_oN ?_ | with_reducible refine we_oS ?_ | with_reducible refine we_any ?_ | with_reducible refine we_star ?_ | with_reducible refine we_lc ?_ | with_reducible refine we_R1 ?_ | with_reducible refine we_R2 ?_ | with_reducible refine we_rg ?_ | with_reducible refine we_enu ?_ | with_reducible refine we_zip ?_ | with_reducible refine we_tup ?_ | with_reducible refine we_lst ?_ | with_reducible refine we_lstC ?_ | with_reducible refine we_cal ?_ | with_reducible refine wg_nm ?_ | with_reducible refine wg_nl ?_ | with_reducible refine wg_cs ?_ | ((with_reducible refine wg_istp ?_); refine wg_tp rfl ?_) | with_reducible refine wg_sb ?_)
local macro_rules | `(tactic| walk_at "wp1s") => `(tactic| first | with_reducible refine ws_seq ?_ | with_reducible refine ws_next ?_ | with_reducible refine ws_cnt ?_ | with_reducible refine ws_brk ?_ | with_reducible refine ws_retN ?_ | with_reducible refine ws_ret ?_ | with_reducible refine ws_expr ?_ | with_reducible refine ws_if ?_ | with_reducible refine ws_asg ?_ | with_reducible refine ws_par2 ?_ | with_reducible refine ws_par3 ?_ | with_reducible refine ws_for ?_)
local macro_rules | `(tactic| walk_at "wp1") => `(tactic| first | walk_at "wp1e" | walk_at "wp1s")
local macro_rules | `(tactic| walk_at "noslf") => `(tactic| first | (intro h; cases h; done) | assumption | nofun)
local macro_rules | `(tactic| walk_at "wp2") => `(tactic| first | ((with_reducible refine we_isv ?_); refine we_var rfl (by walk_at "noslf") ?_) | with_reducible refine br_t ?_ | with_reducible refine br_f ?_ | refine ⟨_, rfl, br_t ?_⟩ | refine ⟨_, rfl, br_f ?_⟩)
local macro_rules | `(tactic| walk_at "wpx") => `(tactic| first | with_reducible refine x_bl ?_ | with_reducible refine t_bl ?_ | with_reducible refine t_lst ?_ | with_reducible refine t_tup ?_ | with_reducible refine t_int ?_ | with_reducible refine t_non ?_ | with_reducible refine a_lst ?_ | with_reducible refine a_tup ?_ | with_reducible refine s_lst ?_ | with_reducible refine s_tup ?_ | with_reducible refine br_not ?_ | with_reducible refine we_lft pAdd_ii ?_ | with_reducible refine we_lft pSub_ii ?_ | with_reducible refine we_lft pLt_ii ?_ | with_reducible refine we_lft pLe_ii ?_ | with_reducible refine we_lft pGt_ii ?_ | with_reducible refine we_lft pGe_ii ?_ | with_reducible refine we_lft pEq_ii ?_ | with_reducible refine we_lft pNe_ii ?_ | with_reducible refine we_lft len_lI ?_ | with_reducible refine we_lft len_tI ?_ | with_reducible refine we_lft len_rL ?_ | with_reducible refine we_lft len_rT ?_ | with_reducible refine we_lft len_lo ?_ | with_reducible refine we_lft pLen_lst ?_ | with_reducible refine we_lft pLen_tup ?_ | with_reducible refine we_lft pInt_i ?_ | with_reducible refine we_lft pInt_b ?_ | with_reducible refine we_lft all_ok ?_ | with_reducible refine we_lft any_ok ?_ | with_reducible refine we_lft sum_lI ?_ | with_reducible refine we_dT ?_ | with_reducible refine we_lft neg_i ?_ | with_reducible refine x_int ?_ | with_reducible refine len_nil2 ?_ | ((with_reducible refine len_isl ?_); refine len_lit rfl ?_))
local macro_rules | `(tactic| walk_at "wsa") => `(tactic| (with_reducible refine ws_seq ?_; with_reducible refine ws_asg ?_))
local macro_rules | `(tactic| walk_at "wsi") => `(tactic| (with_reducible refine ws_seq ?_; with_reducible refine ws_if ?_))
local macro_rules | `(tactic| walk_at "wsf") => `(tactic| (with_reducible refine ws_seq ?_; with_reducible refine ws_for ?_))
local macro_rules | `(tactic| walk_at "wsn") => `(tactic| with_reducible refine ws_next ?_)
local macro_rules | `(tactic| walk_at "wpe") => `(tactic| repeat (first | walk_at "wp1e" | walk_at "wp2" | walk_at "wpx"))
local macro_rules | `(tactic| walk_at "wps") => `(tactic| repeat (first | walk_at "wp1" | walk_at "wp2" | walk_at "wpx"))
def turnR (R : Rw) (w : Nat) : Rw := (List.range w).map (colOf R)
/-- a part's rows -/
def partR (R : Rw) (I J : List Int) : Rw := I.map fun i => J.map fun j => (R.getD i.toNat []).getD j.toNat 0
section
variable {cal : Nat → List D → M D} {S : Store} {h w : Nat} {R : Rw}
def colOf (R : Rw) (k : Nat) : List Int := R.map fun r => r.getD k 0
theorem text_evL (F : Full h w R) : funM 3 1 (b_text_with cal) [rowsL R] S = .ok (.str (txt R)) S := text_ev (cal := cal) F
end
end Ty
namespace Ty
open PySem L2 Ev Bd Sp Rg Wp
local macro_rules | `(tactic| walk_at "wp1e") => `(tactic| first | with_reducible refine we_c ?_ | with_reducible refine we_op ?_ | with_reducible refine we_un ?_ | with_reducible refine we_callV ?_ | with_reducible refine we_cons ?_ | with_reducible refine we_nil ?_ | with_reducible refine we_asB ?_ | with_reducible refine we_tru ?_ | with_reducible refine we_and ?_ | with_reducible refine we_or ?_ | with_reducible refine we_not ?_ | with_reducible refine we_if ?_ | with_reducible refine wt_and ?_ | with_reducible refine wt_or ?_ | with_reducible refine wt_not ?_ | with_reducible refine wt_yes ?_ | with_reducible refine we_chain ?_ | with_reducible refine we_fld ?_ | with_reducible refine we_isi ?_ | with_reducible refine we_mb ?_ | with_reducible refine we_frz ?_ | with_reducible refine we_cut ?_ | with_reducible refine we_oN ?_ | with_reducible refine we_oS ?_ | with_reducible refine we_any ?_ | with_reducible refine we_star ?_ | with_reducible refine we_lc ?_ | with_reducible refine we_R1 ?_ | with_reducible refine we_R2 ?_ | with_reducible refine we_rg ?_ | with_reducible refine we_enu ?_ | with_reducible refine we_zip ?_ | with_reducible refine we_tup ?_ | with_reducible refine we_lst ?_ | with_reducible refine we_lstC ?_ | with_reducible refine we_cal ?_ | with_reducible refine wg_nm ?_ | with_reducible refine wg_nl ?_ | with_reducible refine wg_cs ?_ | ((with_reducible refine wg_istp ?_); refine wg_tp rfl ?_) | with_reducible refine wg_sb ?_)
local macro_rules | `(tactic| walk_at "wp1s") => `(tactic| first | with_reducible refine ws_seq ?_ | with_reducible refine ws_next ?_ | with_reducible refine ws_cnt ?_ | with_reducible refine ws_brk ?_ | with_reducible refine ws_retN ?_ | with_reducible refine ws_ret ?_ | with_reducible refine ws_expr ?_ | with_reducible refine ws_if ?_ | with_reducible refine ws_asg ?_ | with_reducible refine ws_par2 ?_ | with_reducible refine ws_par3 ?_ | with_reducible refine ws_for ?_)
local macro_rules | `(tactic| walk_at "wp1") => `(tactic| first | walk_at "wp1e" | walk_at "wp1s")
local macro_rules | `(tactic| walk_at "noslf") => `(tactic| first | (intro h; cases h; done) | assumption | nofun)
local macro_rules | `(tactic| walk_at "wp2") => `(tactic| first | ((with_reducible refine we_isv ?_); refine we_var rfl (by walk_at "noslf") ?_) | with_reducible refine br_t ?_ | with_reducible refine br_f ?_ | refine ⟨_, rfl, br_t ?_⟩ | refine ⟨_, rfl, br_f ?_⟩)
local macro_rules | `(tactic| walk_at "wpx") => `(tactic| first | with_reducible refine x_bl ?_ | with_reducible refine t_bl ?_ | with_reducible refine t_lst ?_ | with_reducible refine t_tup ?_ | with_reducible refine t_int ?_ | with_reducible refine t_non ?_ | with_reducible refine a_lst ?_ | with_reducible refine a_tup ?_ | with_reducible refine s_lst ?_ | with_reducible refine s_tup ?_ | with_reducible refine br_not ?_ | with_reducible refine we_lft pAdd_ii ?_ | with_reducible refine we_lft pSub_ii ?_ | with_reducible refine we_lft pLt_ii ?_ | with_reducible refine we_lft pLe_ii ?_ | with_reducible refine we_lft pGt_ii ?_ | with_reducible refine we_lft pGe_ii ?_ | with_reducible refine we_lft pEq_ii ?_ | with_reducible refine we_lft pNe_ii ?_ | with_reducible refine we_lft len_lI ?_ | with_reducible refine we_lft len_tI ?_ | with_reducible refine we_lft len_rL ?_ | with_reducible refine we_lft len_rT ?_ | with_reducible refine we_lft len_lo ?_ | with_reducible refine we_lft pLen_lst ?_ | with_reducible refine we_lft pLen_tup ?_ | with_reducible refine we_lft pInt_i ?_ | with_reducible refine we_lft pInt_b ?_ | with_reducible refine we_lft all_ok ?_ | with_reducible refine we_lft any_ok ?_ | with_reducible refine we_lft sum_lI ?_ | with_reducible refine we_dT ?_ | with_reducible refine we_lft neg_i ?_ | with_reducible refine x_int ?_ | with_reducible refine len_nil2 ?_ | ((with_reducible refine len_isl ?_); refine len_lit rfl ?_))
local macro_rules | `(tactic| walk_at "wsa") => `(tactic| (with_reducible refine ws_seq ?_; with_reducible refine ws_asg ?_))
local macro_rules | `(tactic| walk_at "wsi") => `(tactic| (with_reducible refine ws_seq ?_; with_reducible refine ws_if ?_))
local macro_rules | `(tactic| walk_at "wsf") => `(tactic| (with_reducible refine ws_seq ?_; with_reducible refine ws_for ?_))
local macro_rules | `(tactic| walk_at "wsn") => `(tactic| with_reducible refine ws_next ?_)
local macro_rules | `(tactic| walk_at "wpe") => `(tactic| repeat (first | walk_at "wp1e" | walk_at "wp2" | walk_at "wpx"))
local macro_rules | `(tactic| walk_at "wps") => `(tactic| repeat (first | walk_at "wp1" | walk_at "wp2" | walk_at "wpx"))
section
variable {cal : Nat → List D → M D} {S : Store} {h w : Nat} {R : Rw}
end
end Ty
namespace Tl
open PySem L2 Ev Bd Sp Rg Wp Ty
def lawM (m : Int) (r e : List D → M D) : MS := sRet (eCallV (pAll true) (aCons (eLc newL (iR1 (aCons (eCallV (pMax) (aCons (eC (.int 2)) (aCons (eCallV (pMin) (aCons (eCallV (pLen) (aCons (eVar 0) aNil)) (aCons (eC (.int m)) aNil))) aNil))) aNil)) (uNm 1) tYesM (eCal r (aCons (eCal e (aCons (eVar 0) (aCons (eVar 1) aNil))) aNil)) [1]) aNil))
/-- the tray at t; the first cells are L -/
def Tr (L : Store) (t : Nat) (S : Store) : Prop := (∃ a b c : Int, S[t]? = some (some (.lst [.int a, .int b, .int c])) ∧ 0 ≤ a) ∧ L.length ≤ t ∧ ∀ j, j < L.length → S[j]? = L[j]?
theorem tr_app {L : Store} {t : Nat} {S X : Store} (h : Tr L t S) : Tr L t (S ++ X) := by
  obtain ⟨⟨a, b, c, h1, h2⟩, h3, h4⟩ := h
  have hl := (List.getElem?_eq_some_iff.mp h1).1
  exact ⟨⟨a, b, c, by rw [List.getElem?_append_left hl]; exact h1, h2⟩, h3, fun j hj => by rw [List.getElem?_append_left (by omega)]; exact h4 j hj⟩
theorem tr_lt {L : Store} {t : Nat} {S : Store} (h : Tr L t S) : t < S.length := by
  obtain ⟨⟨a, b, c, h1, _⟩, _⟩ := h
  exact (List.getElem?_eq_some_iff.mp h1).1
theorem tr_other {L : Store} {t j : Nat} {S : Store} {x : Option Cell} (h : Tr L t S) (hj : t < j) : Tr L t (S.set j x) := by
  obtain ⟨⟨a, b, c, h1, h2⟩, h3, h4⟩ := h
  exact ⟨⟨a, b, c, by rw [List.getElem?_set_ne (by omega)]; exact h1, h2⟩, h3, fun i hi => by rw [List.getElem?_set_ne (by omega)]; exact h4 i hi⟩
theorem tr_set {L : Store} {t : Nat} {S : Store} {x : Option Cell} (h : Tr L t S) (h2 : Ty.Tr t (S.set t x)) : Tr L t (S.set t x) := ⟨h2, h.2.1, fun j hj => by rw [List.getElem?_set_ne (by have := h.2.1; omega)]; exact h.2.2 j hj⟩
/-- the draw -/
structure TakF (L : Store) (dr : List D → M D) : Prop where
  tr : ∀ {t : Nat} {S : Store} {m : Int}, Tr L t S → 0 < m → m < 1073741824 → ∃ (f : Nat) (x : Cell), dr [.ref t, .int m] S = .ok (.int f) (S.set t (some x)) ∧ (f : Int) < m ∧ Tr L t (S.set t (some x))
theorem take_tak {L : Store} {cal : Nat → List D → M D} : TakF L (funM 3 2 (b__law_take cal)) := ⟨fun h hm hm2 => by
  obtain ⟨f, x, e, hf, q⟩ := take_tr0 h.1 hm hm2
  exact ⟨f, x, e, hf, tr_set h q⟩⟩
theorem rows_ev {h w : Nat} {L : Store} {cal : Nat → List D → M D} (hd : TakF L (cal 3)) (hf8 : ∀ {t : Nat} {R0 : Rw} {S : Store}, Tr L t S → R0.length = h → G01 w R0 → ∃ R S', cal 8 [.ref t, rowsL R0] S = .ok (rowsL R) S' ∧ Tr L t S' ∧ R.length = h ∧ G01 w R ∧ (∀ r ∈ R, (1 : Int) ∈ r) ∧ ∀ k, k < w → ∃ r ∈ R, r[k]? = some 1) {t : Nat} {S : Store} (ht : Tr L t S) (h1 : 0 < h) (h2 : h ≤ 8) (w1 : 0 < w) (w2 : w ≤ 8) : ∃ R S', funM 7 3 (b__law_rows cal) [.ref t, .int h, .int w] S = .ok (rowsL R) S' ∧ Tr L t S' ∧ Full h w R := by
  unfold b__law_rows
  obtain ⟨f, x, ef, hf, tf⟩ := hd.tr (m := 3) ht (by omega) (by omega)
  have line : ∀ (δ : En) (S : Store), δ[0]? = some (some (.ref t)) → δ[3]? = some (some (.int (1 + f))) → δ.length = 7 → Tr L t S → ∃ r S', loopC (uNm 5) tYesM (eCallV pInt (aCons (eOp pLt (eCal (cal 3) (aCons (eVar 0) (aCons (eC (.int 4)) aNil))) (eVar 3)) aNil)) δ (rngD 0 w) [] S = .ok (iD r) S' ∧ Tr L t S' ∧ r.length = w ∧ ∀ i ∈ r, i = 0 ∨ i = 1 := by
    intro δ S d0 d3 dl hS
    obtain ⟨ys, S', e, r, rfl, p1, p2, p3⟩ := lc_inv (up := uNm 5) (mt := tYesM) (me := eCallV pInt (aCons (eOp pLt (eCal (cal 3) (aCons (eVar 0) (aCons (eC (.int 4)) aNil))) (eVar 3)) aNil)) (δ0 := δ) (ds := rngD 0 w) (S := S)
      (fun k acc S' => ∃ r, acc = iD r ∧ Tr L t S' ∧ r.length = k ∧ ∀ i ∈ r, i = 0 ∨ i = 1) (by
        rintro k acc S' hk ⟨r, rfl, r1, r2, r3⟩
        rw [rng_len] at hk
        obtain ⟨g, y, eg, hg, tg⟩ := hd.tr (m := 4) r1 (by omega) (by omega)
        have v0 : ∀ S', eVar 0 (δ.set 5 (some (rngD 0 w)[k])) S' = .ok (.ref t) S' := fun S' => by simp only [eVar, List.getElem?_set_ne (show 5 ≠ 0 by decide), d0, M.pure]
        have v3 : ∀ S', eVar 3 (δ.set 5 (some (rngD 0 w)[k])) S' = .ok (.int (1 + f)) S' := fun S' => by simp only [eVar, List.getElem?_set_ne (show 5 ≠ 3 by decide), d3, M.pure]
        refine ⟨[(5, (rngD 0 w)[k])], rfl, .inr ⟨S', rfl, _, _, eCallV_ok (aCons_ok (eOp_ok (eCal_ok (aCons_ok (v0 _) (aCons_ok rfl rfl)) eg) (v3 _) pLt_ii) rfl) pInt_b, ?_, r ++ [if decide ((g : Int) < 1 + f) = true then 1 else 0], (by rw [Sp.iD_app]; rfl), tg, by simp [r2], fun i hi => ?_⟩⟩
        · rw [iD_len, r2]; exact Nat.lt_of_lt_of_le (by omega) (small (n := 1000) (by omega))
        · rcases List.mem_append.mp hi with hi | hi
          · exact r3 i hi
          · rw [List.mem_singleton.mp hi]
            split <;> simp) ⟨[], rfl, hS, rfl, fun i hi => by simp at hi⟩
    rw [rng_len] at p2
    exact ⟨r, S', e, p1, p2, p3⟩
  obtain ⟨ys, S2, e2, R0, rfl, t2, l2, g2⟩ := lc_inv (up := uNm 6) (mt := tYesM) (me := eLc newL (iR1 (aCons (eVar 2) aNil)) (uNm 5) tYesM (eCallV pInt (aCons (eOp pLt (eCal (cal 3) (aCons (eVar 0) (aCons (eC (.int 4)) aNil))) (eVar 3)) aNil)) [5])
    (δ0 := wipeD [some (.ref t), some (.int h), some (.int w), some (.int (1 + f)), none, none, none] [6]) (ds := rngD 0 h) (S := S.set t (some x))
    (fun k acc S' => ∃ R : Rw, acc = R.map (fun r => .lst (iD r)) ∧ Tr L t S' ∧ R.length = k ∧ G01 w R) (by
      rintro k acc S' hk ⟨R, rfl, r1, r2, r3⟩
      rw [rng_len] at hk
      obtain ⟨r, S3, e3, t3, l3, g3⟩ := line (wipeD (([some (.ref t), some (.int h), some (.int w), some (.int (1 + f)), none, none, none] : En).set 6 (some (rngD 0 h)[k])) [5]) S' rfl rfl rfl r1
      refine ⟨[(6, (rngD 0 h)[k])], rfl, .inr ⟨S', rfl, _, _, eLc_ok (iR1_ok (k := w) (aCons_ok rfl rfl) (by omega)) e3 (newL_ev (by rw [iD_len, l3]; exact small (by omega))), ?_, R ++ [r], by simp, t3, by simp [r2], fun q hq => ?_⟩⟩
      · simp only [List.length_map, r2]; exact Nat.lt_of_lt_of_le (by omega) (small (n := 1000) (by omega))
      · rcases List.mem_append.mp hq with hq | hq
        · exact r3 q hq
        · rw [List.mem_singleton.mp hq]; exact ⟨l3, g3⟩) ⟨[], rfl, tf, rfl, fun q hq => by simp at hq⟩
  rw [rng_len] at l2
  obtain ⟨R, S3, e3, t3, a1, a2, a3, a4⟩ := hf8 t2 l2 g2
  refine ⟨R, S3, ?_, t3, ⟨a1, a2, a3, a4, h1, h2, w1, w2⟩⟩
  exact funM_rt rfl (sSeq_nx (sAsg_ok (eOp_ok rfl (eCal_ok (aCons_ok rfl (aCons_ok rfl rfl)) ef) pAdd_ii) rfl) (sSeq_nx (sAsg_ok (eLc_ok (iR1_ok (k := h) (aCons_ok rfl rfl) (by omega)) e2 (newL_ev (by rw [List.length_map, l2]; exact small (by omega)))) rfl) (sRet_ok (eCal_ok (aCons_ok rfl (aCons_ok rfl rfl)) e3))))
end Tl
namespace Xr
open PySem L2 Ev Bd Sp Rg Wp Ty Tl Xm
theorem pEq_ss {a b : Str} {S : Store} : pEq (.str a) (.str b) S = some (.bl (a == b), S) := by
  simp [pEq, eqD, toPS, PyData.eqv, PyData.depth]
theorem sm {n : Nat} (e : Nat.ble n 1000000 = true) : n ≤ sizeLine := Sp.small (Nat.le_of_ble_eq_true e)
section
variable {t : List (Str × Ty × Bool)} {a : Addr} {d : Option Addr} {c : Str} {fs : List (Str × D)} {S : Store} {A : List (Bool × Str)} {o : Option D} {y1 y2 : Ty} {b1 b2 : Bool} {w1 w2 : Str}
end
end Xr
namespace Xr
open PySem L2 Ev Bd Sp Rg Wp Ty Tl Xm
section
variable {t : XT} {i : Nat} {x : Str} {me : ME} {δ : En} {S S' : Store} {d : D}
end
end Xr
namespace Xr
open PySem L2 Ev Bd Sp Rg Wp Ty Tl Xm
section
variable {z : D} {kin pre : Str} {body : MS} {S : Store} {r : D}
abbrev cW (pre : Str) : MT := fun δ => asB (eOp pEq (eVar 1) (eOp pAdd (eC (.str pre)) (eVar 2)) δ)
theorem cond_ev {w : Str} {b : Bool} (hp : pAdd (.str pre) (.str w) S = some (.str (pre ++ w), S)) (h : (kin == pre ++ w) = b) : cW pre [some z, some (.str kin), some (.str w)] S = .ok b S :=
  asB_ok (eOp_ok rfl (eOp_ok rfl rfl hp) (by rw [pEq_ss, h]))
theorem add_ss {a b : Str} (h : a.length + b.length ≤ 1000) : pAdd (.str a) (.str b) S = some (.str (a ++ b), S) := by
  simp only [pAdd]
  rw [if_pos (sm (Nat.ble_eq_true_of_le (by omega)))]
def okW (kin pre : Str) (w : Str) : Bool := !(kin == pre ++ w) && Nat.ble (pre.length + w.length) 1000
theorem words_ev : ∀ (ws : List Str), (ws.all (okW kin pre)) = true → ∀ o, ∃ o', loopF (gNm 2) (sIf (cW pre) body sNext) (ws.map D.str) [some z, some (.str kin), o] S = .nx [some z, some (.str kin), o'] S
  | [], _, o => ⟨o, rfl⟩
  | w :: ws, h, o => by
    rw [List.all_cons, Bool.and_eq_true] at h
    have h1 := h.1
    unfold okW at h1
    rw [Bool.and_eq_true, Bool.not_eq_true'] at h1
    obtain ⟨o', e⟩ := words_ev ws h.2 (some (.str w))
    exact ⟨o', (loop_nx rfl (sIf_f (cond_ev (add_ss (Nat.le_of_ble_eq_true h1.2)) h1.1) rfl)).trans e⟩
end
end Xr
namespace Bd
open PySem L2 Ev
end Bd
namespace Xr
open PySem L2 Ev Bd Sp Rg Wp Ty Xm
local macro_rules | `(tactic| walk_at "wp1e") => `(tactic| first | with_reducible refine we_c ?_ | with_reducible refine we_op ?_ | with_reducible refine we_un ?_ | with_reducible refine we_callV ?_ | with_reducible refine we_cons ?_ | with_reducible refine we_nil ?_ | with_reducible refine we_asB ?_ | with_reducible refine we_tru ?_ | with_reducible refine we_and ?_ | with_reducible refine we_or ?_ | with_reducible refine we_not ?_ | with_reducible refine we_if ?_ | with_reducible refine wt_and ?_ | with_reducible refine wt_or ?_ | with_reducible refine wt_not ?_ | with_reducible refine wt_yes ?_ | with_reducible refine we_chain ?_ | with_reducible refine we_fld ?_ | with_reducible refine we_isi ?_ | with_reducible refine we_mb ?_ | with_reducible refine we_frz ?_ | with_reducible refine we_cut ?_ | with_reducible refine we_oN ?_ | with_reducible refine we_oS ?_ | with_reducible refine we_any ?_ | with_reducible refine we_star ?_ | with_reducible refine we_lc ?_ | with_reducible refine we_R1 ?_ | with_reducible refine we_R2 ?_ | with_reducible refine we_rg ?_ | with_reducible refine we_enu ?_ | with_reducible refine we_zip ?_ | with_reducible refine we_tup ?_ | with_reducible refine we_lst ?_ | with_reducible refine we_lstC ?_ | with_reducible refine we_cal ?_ | with_reducible refine wg_nm ?_ | with_reducible refine wg_nl ?_ | with_reducible refine wg_cs ?_ | ((with_reducible refine wg_istp ?_); refine wg_tp rfl ?_) | with_reducible refine wg_sb ?_)
local macro_rules | `(tactic| walk_at "wp1s") => `(tactic| first | with_reducible refine ws_seq ?_ | with_reducible refine ws_next ?_ | with_reducible refine ws_cnt ?_ | with_reducible refine ws_brk ?_ | with_reducible refine ws_retN ?_ | with_reducible refine ws_ret ?_ | with_reducible refine ws_expr ?_ | with_reducible refine ws_if ?_ | with_reducible refine ws_asg ?_ | with_reducible refine ws_par2 ?_ | with_reducible refine ws_par3 ?_ | with_reducible refine ws_for ?_)
local macro_rules | `(tactic| walk_at "wp1") => `(tactic| first | walk_at "wp1e" | walk_at "wp1s")
local macro_rules | `(tactic| walk_at "noslf") => `(tactic| first | (intro h; cases h; done) | assumption | nofun)
local macro_rules | `(tactic| walk_at "wp2") => `(tactic| first | ((with_reducible refine we_isv ?_); refine we_var rfl (by walk_at "noslf") ?_) | with_reducible refine br_t ?_ | with_reducible refine br_f ?_ | refine ⟨_, rfl, br_t ?_⟩ | refine ⟨_, rfl, br_f ?_⟩)
local macro_rules | `(tactic| walk_at "wpx") => `(tactic| first | with_reducible refine x_bl ?_ | with_reducible refine t_bl ?_ | with_reducible refine t_lst ?_ | with_reducible refine t_tup ?_ | with_reducible refine t_int ?_ | with_reducible refine t_non ?_ | with_reducible refine a_lst ?_ | with_reducible refine a_tup ?_ | with_reducible refine s_lst ?_ | with_reducible refine s_tup ?_ | with_reducible refine br_not ?_ | with_reducible refine we_lft pAdd_ii ?_ | with_reducible refine we_lft pSub_ii ?_ | with_reducible refine we_lft pLt_ii ?_ | with_reducible refine we_lft pLe_ii ?_ | with_reducible refine we_lft pGt_ii ?_ | with_reducible refine we_lft pGe_ii ?_ | with_reducible refine we_lft pEq_ii ?_ | with_reducible refine we_lft pNe_ii ?_ | with_reducible refine we_lft len_lI ?_ | with_reducible refine we_lft len_tI ?_ | with_reducible refine we_lft len_rL ?_ | with_reducible refine we_lft len_rT ?_ | with_reducible refine we_lft len_lo ?_ | with_reducible refine we_lft pLen_lst ?_ | with_reducible refine we_lft pLen_tup ?_ | with_reducible refine we_lft pInt_i ?_ | with_reducible refine we_lft pInt_b ?_ | with_reducible refine we_lft all_ok ?_ | with_reducible refine we_lft any_ok ?_ | with_reducible refine we_lft sum_lI ?_ | with_reducible refine we_dT ?_ | with_reducible refine we_lft neg_i ?_ | with_reducible refine x_int ?_ | with_reducible refine len_nil2 ?_ | ((with_reducible refine len_isl ?_); refine len_lit rfl ?_))
local macro_rules | `(tactic| walk_at "wsa") => `(tactic| (with_reducible refine ws_seq ?_; with_reducible refine ws_asg ?_))
local macro_rules | `(tactic| walk_at "wsi") => `(tactic| (with_reducible refine ws_seq ?_; with_reducible refine ws_if ?_))
local macro_rules | `(tactic| walk_at "wsf") => `(tactic| (with_reducible refine ws_seq ?_; with_reducible refine ws_for ?_))
local macro_rules | `(tactic| walk_at "wsn") => `(tactic| with_reducible refine ws_next ?_)
local macro_rules | `(tactic| walk_at "wpe") => `(tactic| repeat (first | walk_at "wp1e" | walk_at "wp2" | walk_at "wpx"))
local macro_rules | `(tactic| walk_at "wps") => `(tactic| repeat (first | walk_at "wp1" | walk_at "wp2" | walk_at "wpx"))
section
variable {cal : Nat → List D → M D} {h w : Nat} {R : Rw} {S : Store}
theorem fromR_ev {x : D} (hx : x ≠ .slf) (h1 : cal 183 [x] S = .ok (.str (txt R)) S) (h2 : cal 203 [.str (txt R)] S = .ok (tabD h w R) S) : funM 1 1 (b_table_from_v2 cal) [x] S = .ok (tabD h w R) S := by
  have key : WE (funM 1 1 (b_table_from_v2 cal) [x]) S fun d S' => d = tabD h w R ∧ S' = S := by
    unfold b_table_from_v2
    refine we_fun rfl ?_
    show WS (sRet _ [some x] S) _
    walk_at "wps"
    refine we_ok h1 ?_
    walk_at "wps"
    exact we_ok h2 ⟨rfl, rfl⟩
  obtain ⟨d, S', e, rfl, rfl⟩ := key
  exact e
end
end Xr
namespace Xr
open PySem L2 Ev Bd Sp Rg Wp Ty Xm
local macro_rules | `(tactic| walk_at "wp1e") => `(tactic| first | with_reducible refine we_c ?_ | with_reducible refine we_op ?_ | with_reducible refine we_un ?_ | with_reducible refine we_callV ?_ | with_reducible refine we_cons ?_ | with_reducible refine we_nil ?_ | with_reducible refine we_asB ?_ | with_reducible refine we_tru ?_ | with_reducible refine we_and ?_ | with_reducible refine we_or ?_ | with_reducible refine we_not ?_ | with_reducible refine we_if ?_ | with_reducible refine wt_and ?_ | with_reducible refine wt_or ?_ | with_reducible refine wt_not ?_ | with_reducible refine wt_yes ?_ | with_reducible refine we_chain ?_ | with_reducible refine we_fld ?_ | with_reducible refine we_isi ?_ | with_reducible refine we_mb ?_ | with_reducible refine we_frz ?_ | with_reducible refine we_cut ?_ | with_reducible refine we_oN ?_ | with_reducible refine we_oS ?_ | with_reducible refine we_any ?_ | with_reducible refine we_star ?_ | with_reducible refine we_lc ?_ | with_reducible refine we_R1 ?_ | with_reducible refine we_R2 ?_ | with_reducible refine we_rg ?_ | with_reducible refine we_enu ?_ | with_reducible refine we_zip ?_ | with_reducible refine we_tup ?_ | with_reducible refine we_lst ?_ | with_reducible refine we_lstC ?_ | with_reducible refine we_cal ?_ | with_reducible refine wg_nm ?_ | with_reducible refine wg_nl ?_ | with_reducible refine wg_cs ?_ | ((with_reducible refine wg_istp ?_); refine wg_tp rfl ?_) | with_reducible refine wg_sb ?_)
local macro_rules | `(tactic| walk_at "wp1s") => `(tactic| first | with_reducible refine ws_seq ?_ | with_reducible refine ws_next ?_ | with_reducible refine ws_cnt ?_ | with_reducible refine ws_brk ?_ | with_reducible refine ws_retN ?_ | with_reducible refine ws_ret ?_ | with_reducible refine ws_expr ?_ | with_reducible refine ws_if ?_ | with_reducible refine ws_asg ?_ | with_reducible refine ws_par2 ?_ | with_reducible refine ws_par3 ?_ | with_reducible refine ws_for ?_)
local macro_rules | `(tactic| walk_at "wp1") => `(tactic| first | walk_at "wp1e" | walk_at "wp1s")
local macro_rules | `(tactic| walk_at "noslf") => `(tactic| first | (intro h; cases h; done) | assumption | nofun)
local macro_rules | `(tactic| walk_at "wp2") => `(tactic| first | ((with_reducible refine we_isv ?_); refine we_var rfl (by walk_at "noslf") ?_) | with_reducible refine br_t ?_ | with_reducible refine br_f ?_ | refine ⟨_, rfl, br_t ?_⟩ | refine ⟨_, rfl, br_f ?_⟩)
local macro_rules | `(tactic| walk_at "wpx") => `(tactic| first | with_reducible refine x_bl ?_ | with_reducible refine t_bl ?_ | with_reducible refine t_lst ?_ | with_reducible refine t_tup ?_ | with_reducible refine t_int ?_ | with_reducible refine t_non ?_ | with_reducible refine a_lst ?_ | with_reducible refine a_tup ?_ | with_reducible refine s_lst ?_ | with_reducible refine s_tup ?_ | with_reducible refine br_not ?_ | with_reducible refine we_lft pAdd_ii ?_ | with_reducible refine we_lft pSub_ii ?_ | with_reducible refine we_lft pLt_ii ?_ | with_reducible refine we_lft pLe_ii ?_ | with_reducible refine we_lft pGt_ii ?_ | with_reducible refine we_lft pGe_ii ?_ | with_reducible refine we_lft pEq_ii ?_ | with_reducible refine we_lft pNe_ii ?_ | with_reducible refine we_lft len_lI ?_ | with_reducible refine we_lft len_tI ?_ | with_reducible refine we_lft len_rL ?_ | with_reducible refine we_lft len_rT ?_ | with_reducible refine we_lft len_lo ?_ | with_reducible refine we_lft pLen_lst ?_ | with_reducible refine we_lft pLen_tup ?_ | with_reducible refine we_lft pInt_i ?_ | with_reducible refine we_lft pInt_b ?_ | with_reducible refine we_lft all_ok ?_ | with_reducible refine we_lft any_ok ?_ | with_reducible refine we_lft sum_lI ?_ | with_reducible refine we_dT ?_ | with_reducible refine we_lft neg_i ?_ | with_reducible refine x_int ?_ | with_reducible refine len_nil2 ?_ | ((with_reducible refine len_isl ?_); refine len_lit rfl ?_))
local macro_rules | `(tactic| walk_at "wsa") => `(tactic| (with_reducible refine ws_seq ?_; with_reducible refine ws_asg ?_))
local macro_rules | `(tactic| walk_at "wsi") => `(tactic| (with_reducible refine ws_seq ?_; with_reducible refine ws_if ?_))
local macro_rules | `(tactic| walk_at "wsf") => `(tactic| (with_reducible refine ws_seq ?_; with_reducible refine ws_for ?_))
local macro_rules | `(tactic| walk_at "wsn") => `(tactic| with_reducible refine ws_next ?_)
local macro_rules | `(tactic| walk_at "wpe") => `(tactic| repeat (first | walk_at "wp1e" | walk_at "wp2" | walk_at "wpx"))
local macro_rules | `(tactic| walk_at "wps") => `(tactic| repeat (first | walk_at "wp1" | walk_at "wp2" | walk_at "wpx"))
/-- the first cells are L -/
def Pre (L S : Store) : Prop := L.length ≤ S.length ∧ ∀ j, j < L.length → S[j]? = L[j]?
theorem pre_tr {L : Store} {t : Nat} {S : Store} (h : Tl.Tr L t S) : Pre L S := ⟨by have := Tl.tr_lt h; have := h.2.1; omega, h.2.2⟩
theorem tr_new {L S : Store} {a b c : Int} (h : Pre L S) (ha : 0 ≤ a) : Tl.Tr L S.length (S ++ [some (.lst [.int a, .int b, .int c])]) :=
  ⟨⟨a, b, c, by simp, ha⟩, h.1, fun j hj => by rw [List.getElem?_append_left (by have := h.1; omega)]; exact h.2 j hj⟩
theorem lawL_ev {L : Store} {m : Int} {r e : List D → M D} {ns : List Int} (hm : 2 ≤ m ∧ m ≤ 20) (hr : ∀ (k : Nat) S, k ≤ 1000 → Pre L S → ∃ S', e [.scr ns, .int k] S = .ok (.ref S.length) S' ∧ Tl.Tr L S.length S') (hg : ∀ t S, Tl.Tr L t S → WE (r [.ref t]) S fun d S' => d = .bl true ∧ Pre L S') {S : Store} (hS : Pre L S) : ∃ S', funM 2 1 (Tl.lawM m r e) [.scr ns] S = .ok (.bl true) S' := by
  have key : WE (funM 2 1 (Tl.lawM m r e) [.scr ns]) S fun d _ => d = .bl true := by
    unfold Tl.lawM
    refine we_fun rfl ?_
    show WS (sRet _ [some (.scr ns), none] S) _
    with_reducible refine ws_ret ?_
    walk_at "wpe"
    refine we_lft pLen_scr ?_
    walk_at "wpe"
    refine we_lft (z := .int (if m < ns.length then m else ns.length)) (S1 := S) rfl ?_
    walk_at "wpe"
    obtain ⟨n, hn, hn5⟩ : ∃ n : Nat, (if (if m < ns.length then m else (ns.length : Int)) > 2 then (if m < ns.length then m else (ns.length : Int)) else 2) = n ∧ n ≤ 20 := by
      by_cases h : m < ns.length
      · rw [if_pos h]
        by_cases h2 : m > 2
        · rw [if_pos h2]; exact ⟨m.toNat, by omega, by omega⟩
        · rw [if_neg h2]; exact ⟨2, rfl, by omega⟩
      · rw [if_neg h]
        by_cases h2 : (ns.length : Int) > 2
        · rw [if_pos h2]; exact ⟨ns.length, rfl, by omega⟩
        · rw [if_neg h2]; exact ⟨2, rfl, by omega⟩
    refine we_lft (z := .int n) (S1 := S) (by rw [← hn]; rfl) ?_
    walk_at "wpe"
    refine ⟨n, rfl, by omega, ?_⟩
    refine we_imp (we_loopC (fun k acc S' => acc = List.replicate k (.bl true) ∧ Pre L S') ?_ ⟨rfl, hS⟩) ?_
    · rintro k hk acc S' ⟨rfl, hp⟩
      rw [rng_len] at hk
      rw [rng_get]
      refine ⟨_, rfl, ?_⟩
      walk_at "wpe"
      obtain ⟨S1, e1, t1⟩ := hr k S' (by omega) hp
      refine we_ok e1 ?_
      walk_at "wpe"
      refine we_imp (hg S'.length S1 t1) ?_
      rintro d S2 ⟨rfl, p2⟩
      refine ⟨by rw [List.length_replicate]; exact Nat.lt_of_lt_of_le (show k < 1000000 by omega) (Sp.small (Nat.le_refl _)), ?_, p2⟩
      rw [List.replicate_succ']
    · rintro acc S2 ⟨rfl, _⟩
      rw [rng_len]
      refine we_newL (by rw [List.length_replicate]; exact Sp.small (by omega)) ?_
      walk_at "wpe"
      have all1 : pAll true [.lst (List.replicate n (.bl true))] S2 = some (.bl true, S2) := by
        rw [show List.replicate n (D.bl true) = (List.replicate n true).map D.bl by simp, all_ok]
        simp
      exact we_lft all1 rfl
  obtain ⟨d, S', e, rfl⟩ := key
  exact ⟨S', e⟩
structure C05 (L : Store) (cal : Nat → List D → M D) : Prop where
  take : Tl.TakF L (cal 3)
  rows : ∀ (t h w : Nat) (S : Store), Tl.Tr L t S → 0 < h → h ≤ 8 → 0 < w → w ≤ 8 → ∃ R S', cal 4 [.ref t, .int h, .int w] S = .ok (rowsL R) S' ∧ Tl.Tr L t S' ∧ Full h w R
  text : ∀ h w R S, Full h w R → cal 2 [rowsL R] S = .ok (.str (txt R)) S
  table : ∀ h w R S, Full h w R → cal 203 [.str (txt R)] S = .ok (tabD h w R) S
  add : ∀ h w R d S, Full h w R → h < 8 → d.length = w → (∀ i ∈ d, i = 0 ∨ i = 1) → (1 : Int) ∈ d → cal 214 [tabD h w R, tI d] S = .ok (tabD (h + 1) w (R ++ [d])) S
  addX : ∀ w R d S, Full 8 w R → d.length = w → (∀ i ∈ d, i = 0 ∨ i = 1) → (1 : Int) ∈ d → cal 214 [tabD 8 w R, tI d] S = .exc ⟨"TooMany", [("limit", .int 8)]⟩ S
  part : ∀ h w R I J S, Full h w R → Lot h I → Lot w J → Full I.length J.length (partR R I J) → cal 215 [tabD h w R, .tup [tI I, tI J]] S = .ok (tabD I.length J.length (partR R I J)) S
  eq : ∀ h w R h' w' R' S, cal 208 [tabD h w R, tabD h' w' R'] S = .ok (.bl (txt R == txt R')) S
end Xr
namespace Xr
open PySem L2 Ev Bd Sp Rg Wp Ty Xm
local macro_rules | `(tactic| walk_at "wp1e") => `(tactic| first | with_reducible refine we_c ?_ | with_reducible refine we_op ?_ | with_reducible refine we_un ?_ | with_reducible refine we_callV ?_ | with_reducible refine we_cons ?_ | with_reducible refine we_nil ?_ | with_reducible refine we_asB ?_ | with_reducible refine we_tru ?_ | with_reducible refine we_and ?_ | with_reducible refine we_or ?_ | with_reducible refine we_not ?_ | with_reducible refine we_if ?_ | with_reducible refine wt_and ?_ | with_reducible refine wt_or ?_ | with_reducible refine wt_not ?_ | with_reducible refine wt_yes ?_ | with_reducible refine we_chain ?_ | with_reducible refine we_fld ?_ | with_reducible refine we_isi ?_ | with_reducible refine we_mb ?_ | with_reducible refine we_frz ?_ | with_reducible refine we_cut ?_ | with_reducible refine we_oN ?_ | with_reducible refine we_oS ?_ | with_reducible refine we_any ?_ | with_reducible refine we_star ?_ | with_reducible refine we_lc ?_ | with_reducible refine we_R1 ?_ | with_reducible refine we_R2 ?_ | with_reducible refine we_rg ?_ | with_reducible refine we_enu ?_ | with_reducible refine we_zip ?_ | with_reducible refine we_tup ?_ | with_reducible refine we_lst ?_ | with_reducible refine we_lstC ?_ | with_reducible refine we_cal ?_ | with_reducible refine wg_nm ?_ | with_reducible refine wg_nl ?_ | with_reducible refine wg_cs ?_ | ((with_reducible refine wg_istp ?_); refine wg_tp rfl ?_) | with_reducible refine wg_sb ?_)
local macro_rules | `(tactic| walk_at "wp1s") => `(tactic| first | with_reducible refine ws_seq ?_ | with_reducible refine ws_next ?_ | with_reducible refine ws_cnt ?_ | with_reducible refine ws_brk ?_ | with_reducible refine ws_retN ?_ | with_reducible refine ws_ret ?_ | with_reducible refine ws_expr ?_ | with_reducible refine ws_if ?_ | with_reducible refine ws_asg ?_ | with_reducible refine ws_par2 ?_ | with_reducible refine ws_par3 ?_ | with_reducible refine ws_for ?_)
local macro_rules | `(tactic| walk_at "wp1") => `(tactic| first | walk_at "wp1e" | walk_at "wp1s")
local macro_rules | `(tactic| walk_at "noslf") => `(tactic| first | (intro h; cases h; done) | assumption | nofun)
local macro_rules | `(tactic| walk_at "wp2") => `(tactic| first | ((with_reducible refine we_isv ?_); refine we_var rfl (by walk_at "noslf") ?_) | with_reducible refine br_t ?_ | with_reducible refine br_f ?_ | refine ⟨_, rfl, br_t ?_⟩ | refine ⟨_, rfl, br_f ?_⟩)
local macro_rules | `(tactic| walk_at "wpx") => `(tactic| first | with_reducible refine x_bl ?_ | with_reducible refine t_bl ?_ | with_reducible refine t_lst ?_ | with_reducible refine t_tup ?_ | with_reducible refine t_int ?_ | with_reducible refine t_non ?_ | with_reducible refine a_lst ?_ | with_reducible refine a_tup ?_ | with_reducible refine s_lst ?_ | with_reducible refine s_tup ?_ | with_reducible refine br_not ?_ | with_reducible refine we_lft pAdd_ii ?_ | with_reducible refine we_lft pSub_ii ?_ | with_reducible refine we_lft pLt_ii ?_ | with_reducible refine we_lft pLe_ii ?_ | with_reducible refine we_lft pGt_ii ?_ | with_reducible refine we_lft pGe_ii ?_ | with_reducible refine we_lft pEq_ii ?_ | with_reducible refine we_lft pNe_ii ?_ | with_reducible refine we_lft len_lI ?_ | with_reducible refine we_lft len_tI ?_ | with_reducible refine we_lft len_rL ?_ | with_reducible refine we_lft len_rT ?_ | with_reducible refine we_lft len_lo ?_ | with_reducible refine we_lft pLen_lst ?_ | with_reducible refine we_lft pLen_tup ?_ | with_reducible refine we_lft pInt_i ?_ | with_reducible refine we_lft pInt_b ?_ | with_reducible refine we_lft all_ok ?_ | with_reducible refine we_lft any_ok ?_ | with_reducible refine we_lft sum_lI ?_ | with_reducible refine we_dT ?_ | with_reducible refine we_lft neg_i ?_ | with_reducible refine x_int ?_ | with_reducible refine len_nil2 ?_ | ((with_reducible refine len_isl ?_); refine len_lit rfl ?_))
local macro_rules | `(tactic| walk_at "wsa") => `(tactic| (with_reducible refine ws_seq ?_; with_reducible refine ws_asg ?_))
local macro_rules | `(tactic| walk_at "wsi") => `(tactic| (with_reducible refine ws_seq ?_; with_reducible refine ws_if ?_))
local macro_rules | `(tactic| walk_at "wsf") => `(tactic| (with_reducible refine ws_seq ?_; with_reducible refine ws_for ?_))
local macro_rules | `(tactic| walk_at "wsn") => `(tactic| with_reducible refine ws_next ?_)
local macro_rules | `(tactic| walk_at "wpe") => `(tactic| repeat (first | walk_at "wp1e" | walk_at "wp2" | walk_at "wpx"))
local macro_rules | `(tactic| walk_at "wps") => `(tactic| repeat (first | walk_at "wp1" | walk_at "wp2" | walk_at "wpx"))
structure Grd (h w : Nat) (R : Rw) : Prop where
  len : R.length = h
  g : G01 w R
  h1 : 0 < h
  h2 : h ≤ 8
  w1 : 0 < w
  w2 : w ≤ 8
def fullB (w : Nat) (R : Rw) : Bool := R.all (fun r => decide ((1 : Int) ∈ r)) && (List.range w).all fun k => decide ((1 : Int) ∈ Sp.colOf R k)
section
variable {cal : Nat → List D → M D} {S : Store} {h w : Nat} {R : Rw}
end
end Xr
namespace Sx
open PySem L2 Ev Sp
/-- a text of so many plain signs at most -/
structure SmS (n : Nat) (s : Str) : Prop where
  len : s.length ≤ n
  ch : ∀ c ∈ TL.tl s, c < 256
theorem SmS.mono {n m : Nat} {s : Str} (h : SmS n s) (hm : n ≤ m) : SmS m s := ⟨Nat.le_trans h.len hm, h.ch⟩
theorem sm_app {n m : Nat} {a b : Str} (h : SmS n a) (k : SmS m b) : SmS (n + m) (a ++ b) := by
  refine ⟨?_, fun c hc => ?_⟩
  · rw [Str.length_append]
    have := h.len
    have := k.len
    omega
  · rw [TL.tl_append] at hc
    rcases List.mem_append.mp hc with hc | hc
    · exact h.ch c hc
    · exact k.ch c hc
theorem tl_cut {z : Str} {lo hi : Option Int} : (TL.tl (cutS z lo hi)).Sublist (TL.tl z) := by
  unfold cutS
  exact (List.take_sublist _ _).trans (List.drop_sublist _ _)
theorem cut_len {z : Str} {lo hi : Option Int} : (cutS z lo hi).length ≤ z.length := by
  rw [TL.len_tl, TL.len_tl z]
  exact tl_cut.length_le
def wt (L : List Str) : Nat := (L.map (·.length)).sum + L.length
theorem wt_nil : wt [] = 0 := rfl
theorem wt_cons {x : Str} {L : List Str} : wt (x :: L) = x.length + 1 + wt L := by
  unfold wt
  rw [List.map_cons, List.sum_cons, List.length_cons]
  omega
theorem wt_sub {L M : List Str} (h : L.Sublist M) : wt L ≤ wt M := by
  induction h with
  | slnil => exact Nat.le_refl _
  | cons x _ ih => rw [wt_cons]; omega
  | cons_cons x _ ih => rw [wt_cons, wt_cons]; omega
theorem wt_mem {x : Str} {L : List Str} (h : x ∈ L) : x.length + 1 ≤ wt L := by
  induction L with
  | nil => simp at h
  | cons y L ih =>
    rw [wt_cons]
    rcases List.mem_cons.mp h with rfl | h
    · omega
    · have := ih h
      omega
theorem nl_len : ("\n" : Str).length = 1 := by decide +kernel
theorem nl_tl : TL.tl ("\n" : Str) = [10] := by decide +kernel
theorem join_len : ∀ L : List Str, (Str.join "\n" L).length ≤ wt L
  | [] => by simp [Str.join, wt]; decide +kernel
  | [x] => by rw [wt_cons, wt_nil]; show x.length ≤ _; omega
  | x :: y :: r => by
    have := join_len (y :: r)
    show (x ++ "\n" ++ Str.join "\n" (y :: r)).length ≤ _
    rw [Str.length_append, Str.length_append, nl_len, wt_cons]
    omega
theorem wt_join : ∀ L : List Str, wt L ≤ (Str.join "\n" L).length + 1
  | [] => by simp [wt]
  | [x] => by rw [wt_cons, wt_nil]; show _ ≤ x.length + 1; omega
  | x :: y :: r => by
    have := wt_join (y :: r)
    show _ ≤ (x ++ "\n" ++ Str.join "\n" (y :: r)).length + 1
    rw [Str.length_append, Str.length_append, nl_len, wt_cons]
    omega
theorem join_mem : ∀ {L : List Str} {c : Nat}, c ∈ TL.tl (Str.join "\n" L) → c = 10 ∨ ∃ x ∈ L, c ∈ TL.tl x
  | [], c, h => by
    have : TL.tl (Str.join "\n" []) = [] := by decide +kernel
    rw [this] at h
    simp at h
  | [x], c, h => .inr ⟨x, by simp, h⟩
  | x :: y :: r, c, h => by
    have h' : c ∈ TL.tl (x ++ "\n" ++ Str.join "\n" (y :: r)) := h
    rw [TL.tl_append, TL.tl_append, nl_tl] at h'
    rcases List.mem_append.mp h' with h' | h'
    · rcases List.mem_append.mp h' with h' | h'
      · exact .inr ⟨x, by simp, h'⟩
      · exact .inl (List.mem_singleton.mp h')
    · rcases join_mem h' with h2 | ⟨z, hz, h2⟩
      · exact .inl h2
      · exact .inr ⟨z, List.mem_cons_of_mem _ hz, h2⟩
theorem sm_join {n : Nat} {L : List Str} (hw : wt L ≤ n) (h : ∀ x ∈ L, ∀ c ∈ TL.tl x, c < 256) : SmS n (Txt.join "\n" L) := by
  rw [TL.join_eq]
  refine ⟨Nat.le_trans (join_len L) hw, fun c hc => ?_⟩
  rcases join_mem hc with rfl | ⟨x, hx, hc⟩
  · omega
  · exact h x hx c hc
def lns (s : Str) : List Str := Txt.split s "\n"
theorem lns_ne {s : Str} : 0 < (lns s).length := PyProof.Rows.split_pos s "\n"
theorem lns_join {s : Str} : Str.join "\n" (lns s) = s := StrLaws.join_split s "\n"
theorem lns_wt {s : Str} : wt (lns s) ≤ s.length + 1 := by
  have := wt_join (lns s)
  rwa [lns_join] at this
section
variable {S : Store}
theorem split_lns {s : Str} (h : s.length ≤ 100000) : pSplit (.str s) [.str "\n"] S = some (.lst ((lns s).map D.str), S) := by
  have h1 : (("\n" : Str).length == 0) = false := by decide +kernel
  have h2 : s.length + 2 ≤ sizeLine := small (by omega)
  have h3 := lns_wt (s := s)
  have hl : (lns s).length ≤ wt (lns s) := by unfold wt; omega
  have hL : ((lns s).map D.str).length ≤ sizeLine := by rw [List.length_map]; exact small (by omega)
  simp only [pSplit, h1, h2, and_self, if_true]
  exact newL_ev hL
theorem add_str {a b : Str} (h : a.length + b.length ≤ 1000000) : pAdd (.str a) (.str b) S = some (.str (a ++ b), S) := by
  have : a.length + b.length ≤ sizeLine := small h
  simp [pAdd, this]
theorem cut_str {a : Str} {lo hi : Option Int} (h : a.length ≤ 1000000) : pCut (.str a) lo hi S = some (.str (cutS a lo hi), S) := by
  have : a.length ≤ sizeLine := small h
  simp only [pCut, this, if_true]
theorem ix_str {a : Str} {k : Nat} (h : a.length ≤ 1000000) (hk : k < a.length) : pIx (.str a) (.int k) S = some (.str ⟨#[(TL.tl a).getD k 0]⟩, S) := by
  have h1 : a.length ≤ sizeLine := small h
  have h2 : k < (TL.tl a).length := by rw [← TL.len_tl]; exact hk
  have : atI (TL.tl a) k = some ((TL.tl a).getD k 0) := by
    unfold atI
    have e : ixN (TL.tl a).length (k : Int) = some k := by
      unfold ixN
      rw [if_pos (by omega)]
      simpa using h2
    rw [e, Option.bind_some, List.getD_eq_getElem?_getD, List.getElem?_eq_getElem h2]
    rfl
  simp only [pIx, h1, if_true]
  show (atI (TL.tl a) k).map _ = _
  rw [this]
  rfl
theorem tl_one {c : Nat} : TL.tl ⟨#[c]⟩ = [c] := rfl
theorem join_strs {L : List Str} (h : wt L ≤ 1000000) : pJoin (.str "\n") [.lst (L.map D.str)] S = some (.str (Txt.join "\n" L), S) := by
  refine Sp.join_ok ?_
  rw [nl_len]
  unfold wt at h
  omega
end
end Sx
namespace Ev
open PySem PySem.Spec PySem.SeqAt L2 PyProof.Rows PySem.W
section
variable {X : Cx}
end
end Ev
namespace Bd
open PySem L2 Ev Xm
end Bd
namespace Sx
open PySem L2 Ev Bd Sp Rg Wp Ty Xr
local macro_rules | `(tactic| walk_at "wp1e") => `(tactic| first | with_reducible refine we_c ?_ | with_reducible refine we_op ?_ | with_reducible refine we_un ?_ | with_reducible refine we_callV ?_ | with_reducible refine we_cons ?_ | with_reducible refine we_nil ?_ | with_reducible refine we_asB ?_ | with_reducible refine we_tru ?_ | with_reducible refine we_and ?_ | with_reducible refine we_or ?_ | with_reducible refine we_not ?_ | with_reducible refine we_if ?_ | with_reducible refine wt_and ?_ | with_reducible refine wt_or ?_ | with_reducible refine wt_not ?_ | with_reducible refine wt_yes ?_ | with_reducible refine we_chain ?_ | with_reducible refine we_fld ?_ | with_reducible refine we_isi ?_ | with_reducible refine we_mb ?_ | with_reducible refine we_frz ?_ | with_reducible refine we_cut ?_ | with_reducible refine we_oN ?_ | with_reducible refine we_oS ?_ | with_reducible refine we_any ?_ | with_reducible refine we_star ?_ | with_reducible refine we_lc ?_ | with_reducible refine we_R1 ?_ | with_reducible refine we_R2 ?_ | with_reducible refine we_rg ?_ | with_reducible refine we_enu ?_ | with_reducible refine we_zip ?_ | with_reducible refine we_tup ?_ | with_reducible refine we_lst ?_ | with_reducible refine we_lstC ?_ | with_reducible refine we_cal ?_ | with_reducible refine wg_nm ?_ | with_reducible refine wg_nl ?_ | with_reducible refine wg_cs ?_ | ((with_reducible refine wg_istp ?_); refine wg_tp rfl ?_) | with_reducible refine wg_sb ?_)
local macro_rules | `(tactic| walk_at "wp1s") => `(tactic| first | with_reducible refine ws_seq ?_ | with_reducible refine ws_next ?_ | with_reducible refine ws_cnt ?_ | with_reducible refine ws_brk ?_ | with_reducible refine ws_retN ?_ | with_reducible refine ws_ret ?_ | with_reducible refine ws_expr ?_ | with_reducible refine ws_if ?_ | with_reducible refine ws_asg ?_ | with_reducible refine ws_par2 ?_ | with_reducible refine ws_par3 ?_ | with_reducible refine ws_for ?_)
local macro_rules | `(tactic| walk_at "wp1") => `(tactic| first | walk_at "wp1e" | walk_at "wp1s")
local macro_rules | `(tactic| walk_at "noslf") => `(tactic| first | (intro h; cases h; done) | assumption | nofun)
local macro_rules | `(tactic| walk_at "wp2") => `(tactic| first | ((with_reducible refine we_isv ?_); refine we_var rfl (by walk_at "noslf") ?_) | with_reducible refine br_t ?_ | with_reducible refine br_f ?_ | refine ⟨_, rfl, br_t ?_⟩ | refine ⟨_, rfl, br_f ?_⟩)
local macro_rules | `(tactic| walk_at "wpx") => `(tactic| first | with_reducible refine x_bl ?_ | with_reducible refine t_bl ?_ | with_reducible refine t_lst ?_ | with_reducible refine t_tup ?_ | with_reducible refine t_int ?_ | with_reducible refine t_non ?_ | with_reducible refine a_lst ?_ | with_reducible refine a_tup ?_ | with_reducible refine s_lst ?_ | with_reducible refine s_tup ?_ | with_reducible refine br_not ?_ | with_reducible refine we_lft pAdd_ii ?_ | with_reducible refine we_lft pSub_ii ?_ | with_reducible refine we_lft pLt_ii ?_ | with_reducible refine we_lft pLe_ii ?_ | with_reducible refine we_lft pGt_ii ?_ | with_reducible refine we_lft pGe_ii ?_ | with_reducible refine we_lft pEq_ii ?_ | with_reducible refine we_lft pNe_ii ?_ | with_reducible refine we_lft len_lI ?_ | with_reducible refine we_lft len_tI ?_ | with_reducible refine we_lft len_rL ?_ | with_reducible refine we_lft len_rT ?_ | with_reducible refine we_lft len_lo ?_ | with_reducible refine we_lft pLen_lst ?_ | with_reducible refine we_lft pLen_tup ?_ | with_reducible refine we_lft pInt_i ?_ | with_reducible refine we_lft pInt_b ?_ | with_reducible refine we_lft all_ok ?_ | with_reducible refine we_lft any_ok ?_ | with_reducible refine we_lft sum_lI ?_ | with_reducible refine we_dT ?_ | with_reducible refine we_lft neg_i ?_ | with_reducible refine x_int ?_ | with_reducible refine len_nil2 ?_ | ((with_reducible refine len_isl ?_); refine len_lit rfl ?_))
local macro_rules | `(tactic| walk_at "wsa") => `(tactic| (with_reducible refine ws_seq ?_; with_reducible refine ws_asg ?_))
local macro_rules | `(tactic| walk_at "wsi") => `(tactic| (with_reducible refine ws_seq ?_; with_reducible refine ws_if ?_))
local macro_rules | `(tactic| walk_at "wsf") => `(tactic| (with_reducible refine ws_seq ?_; with_reducible refine ws_for ?_))
local macro_rules | `(tactic| walk_at "wsn") => `(tactic| with_reducible refine ws_next ?_)
local macro_rules | `(tactic| walk_at "wpe") => `(tactic| repeat (first | walk_at "wp1e" | walk_at "wp2" | walk_at "wpx"))
local macro_rules | `(tactic| walk_at "wps") => `(tactic| repeat (first | walk_at "wp1" | walk_at "wp2" | walk_at "wpx"))
/-- the text of a table -/
def IsTxt (s : Str) : Prop := ∃ h w R, Full h w R ∧ s = txt R
section
variable {cal : Nat → List D → M D} {S : Store} {h w : Nat} {R : Rw}
theorem len_s {s : Str} (h : s.length ≤ 1000000) : pLen [.str s] S = some (.int s.length, S) := len_str (small h)
end
end Sx
namespace Xr
open PySem L2 Ev Bd Sp Rg Wp Ty Xm
def putR (R : Rw) (i j : Nat) (x : Int) : Rw := R.set i ((R.getD i []).set j x)
/-- S' holds S -/
def Ext (S S' : Store) : Prop := S.length ≤ S'.length ∧ ∀ j, j < S.length → S'[j]? = S[j]?
theorem Ext.refl {S : Store} : Ext S S := ⟨Nat.le_refl _, fun _ _ => rfl⟩
theorem Ext.trans {S S1 S2 : Store} (a : Ext S S1) (b : Ext S1 S2) : Ext S S2 := ⟨Nat.le_trans a.1 b.1, fun j hj => by rw [b.2 j (by have := a.1; omega), a.2 j hj]⟩
theorem Ext.tr {L : Store} {t : Nat} {S S' : Store} (a : Ext S S') (h : Tl.Tr L t S) : Tl.Tr L t S' := by
  have ht := Tl.tr_lt h
  obtain ⟨⟨x, y, z, h1, h2⟩, h3, h4⟩ := h
  exact ⟨⟨x, y, z, by rw [a.2 t ht]; exact h1, h2⟩, h3, fun j hj => by rw [a.2 j (by omega)]; exact h4 j hj⟩
theorem Ext.cell {S S' : Store} {j : Nat} {c : Option Cell} (a : Ext S S') (h : S[j]? = some c) : S'[j]? = some c := by
  rw [a.2 j (List.getElem?_eq_some_iff.mp h).1]; exact h
section
variable {cal : Nat → List D → M D} {h w : Nat} {R : Rw} {S : Store}
/-- an answer, or a refusal -/
def outR (o : D ⊕ Xc) : Store → Res D := fun S => match o with
  | .inl d => .ok d S
  | .inr y => .exc y S
end
end Xr
namespace Xr
open PySem L2 Ev Bd Sp Rg Wp Ty Xm
/-- a value that is no int from a to b -/
inductive OV (S : Store) (a b : Int) : D → Prop
  | int (i : Int) (h : ¬(a ≤ i ∧ i ≤ b)) : OV S a b (.int i)
  | bl (c : Bool) : OV S a b (.bl c)
  | oth {v : D} (T : String) (h : tyOf S v = some (.blt T)) (hT : T = "NoneType" ∨ T = "str" ∨ T = "list" ∨ T = "dict" ∨ T = "tuple") (hs : v ≠ .slf) : OV S a b v
theorem OV.ns {S : Store} {a b : Int} {v : D} (h : OV S a b v) : v ≠ .slf := by
  cases h with
  | int i _ => nofun
  | bl c => nofun
  | oth T h hT hs => exact hs
section
variable {cal : Nat → List D → M D} {S : Store} {a b : Int} {v : D}
end
end Xr
namespace Bd
open PySem L2 Ev
end Bd
namespace Rg
open PySem PySem.W L2 Ev Bd Sp
section
variable {cal : Nat → List D → M D} {S : Store}
end
end Rg
namespace Bd
open PySem L2 Ev
end Bd
namespace Rg
open PySem PySem.W L2 Ev Bd Sp Wp
local macro_rules | `(tactic| walk_at "wp1e") => `(tactic| first | with_reducible refine we_c ?_ | with_reducible refine we_op ?_ | with_reducible refine we_un ?_ | with_reducible refine we_callV ?_ | with_reducible refine we_cons ?_ | with_reducible refine we_nil ?_ | with_reducible refine we_asB ?_ | with_reducible refine we_tru ?_ | with_reducible refine we_and ?_ | with_reducible refine we_or ?_ | with_reducible refine we_not ?_ | with_reducible refine we_if ?_ | with_reducible refine wt_and ?_ | with_reducible refine wt_or ?_ | with_reducible refine wt_not ?_ | with_reducible refine wt_yes ?_ | with_reducible refine we_chain ?_ | with_reducible refine we_fld ?_ | with_reducible refine we_isi ?_ | with_reducible refine we_mb ?_ | with_reducible refine we_frz ?_ | with_reducible refine we_cut ?_ | with_reducible refine we_oN ?_ | with_reducible refine we_oS ?_ | with_reducible refine we_any ?_ | with_reducible refine we_star ?_ | with_reducible refine we_lc ?_ | with_reducible refine we_R1 ?_ | with_reducible refine we_R2 ?_ | with_reducible refine we_rg ?_ | with_reducible refine we_enu ?_ | with_reducible refine we_zip ?_ | with_reducible refine we_tup ?_ | with_reducible refine we_lst ?_ | with_reducible refine we_lstC ?_ | with_reducible refine we_cal ?_ | with_reducible refine wg_nm ?_ | with_reducible refine wg_nl ?_ | with_reducible refine wg_cs ?_ | ((with_reducible refine wg_istp ?_); refine wg_tp rfl ?_) | with_reducible refine wg_sb ?_)
local macro_rules | `(tactic| walk_at "wp1s") => `(tactic| first | with_reducible refine ws_seq ?_ | with_reducible refine ws_next ?_ | with_reducible refine ws_cnt ?_ | with_reducible refine ws_brk ?_ | with_reducible refine ws_retN ?_ | with_reducible refine ws_ret ?_ | with_reducible refine ws_expr ?_ | with_reducible refine ws_if ?_ | with_reducible refine ws_asg ?_ | with_reducible refine ws_par2 ?_ | with_reducible refine ws_par3 ?_ | with_reducible refine ws_for ?_)
local macro_rules | `(tactic| walk_at "wp1") => `(tactic| first | walk_at "wp1e" | walk_at "wp1s")
local macro_rules | `(tactic| walk_at "noslf") => `(tactic| first | (intro h; cases h; done) | assumption | nofun)
local macro_rules | `(tactic| walk_at "wp2") => `(tactic| first | ((with_reducible refine we_isv ?_); refine we_var rfl (by walk_at "noslf") ?_) | with_reducible refine br_t ?_ | with_reducible refine br_f ?_ | refine ⟨_, rfl, br_t ?_⟩ | refine ⟨_, rfl, br_f ?_⟩)
local macro_rules | `(tactic| walk_at "wpx") => `(tactic| first | with_reducible refine x_bl ?_ | with_reducible refine t_bl ?_ | with_reducible refine t_lst ?_ | with_reducible refine t_tup ?_ | with_reducible refine t_int ?_ | with_reducible refine t_non ?_ | with_reducible refine a_lst ?_ | with_reducible refine a_tup ?_ | with_reducible refine s_lst ?_ | with_reducible refine s_tup ?_ | with_reducible refine br_not ?_ | with_reducible refine we_lft pAdd_ii ?_ | with_reducible refine we_lft pSub_ii ?_ | with_reducible refine we_lft pLt_ii ?_ | with_reducible refine we_lft pLe_ii ?_ | with_reducible refine we_lft pGt_ii ?_ | with_reducible refine we_lft pGe_ii ?_ | with_reducible refine we_lft pEq_ii ?_ | with_reducible refine we_lft pNe_ii ?_ | with_reducible refine we_lft len_lI ?_ | with_reducible refine we_lft len_tI ?_ | with_reducible refine we_lft len_rL ?_ | with_reducible refine we_lft len_rT ?_ | with_reducible refine we_lft len_lo ?_ | with_reducible refine we_lft pLen_lst ?_ | with_reducible refine we_lft pLen_tup ?_ | with_reducible refine we_lft pInt_i ?_ | with_reducible refine we_lft pInt_b ?_ | with_reducible refine we_lft all_ok ?_ | with_reducible refine we_lft any_ok ?_ | with_reducible refine we_lft sum_lI ?_ | with_reducible refine we_dT ?_ | with_reducible refine we_lft neg_i ?_ | with_reducible refine x_int ?_ | with_reducible refine len_nil2 ?_ | ((with_reducible refine len_isl ?_); refine len_lit rfl ?_))
local macro_rules | `(tactic| walk_at "wsa") => `(tactic| (with_reducible refine ws_seq ?_; with_reducible refine ws_asg ?_))
local macro_rules | `(tactic| walk_at "wsi") => `(tactic| (with_reducible refine ws_seq ?_; with_reducible refine ws_if ?_))
local macro_rules | `(tactic| walk_at "wsf") => `(tactic| (with_reducible refine ws_seq ?_; with_reducible refine ws_for ?_))
local macro_rules | `(tactic| walk_at "wsn") => `(tactic| with_reducible refine ws_next ?_)
local macro_rules | `(tactic| walk_at "wpe") => `(tactic| repeat (first | walk_at "wp1e" | walk_at "wp2" | walk_at "wpx"))
local macro_rules | `(tactic| walk_at "wps") => `(tactic| repeat (first | walk_at "wp1" | walk_at "wp2" | walk_at "wpx"))
/-- a thing without parts, no truth -/
inductive Sc : D → Prop
  | int (i : Int) : Sc (.int i)
  | non : Sc .non
  | str (s : Str) : Sc (.str s)
def isI : D → Bool
  | .int _ => true
  | _ => false
inductive LotV : D → Prop
  | tup (xs : List D) (h : ∀ x ∈ xs, Sc x) (hl : xs.length ≤ 1000) : LotV (.tup xs)
  | lst (ns : List Int) (hl : ns.length ≤ 1000) : LotV (lI ns)
inductive ValV (S : Store) : D → Prop
  | oth {v : D} (T : String) (h : tyOf S v = some (.blt T)) (hT : T = "NoneType" ∨ T = "int" ∨ T = "str" ∨ T = "list" ∨ T = "dict") (hs : v ≠ .slf) : ValV S v
  | tupN (xs : List D) (h : xs.length ≠ 2) (hl : xs.length ≤ 1000) : ValV S (.tup xs)
  | two (a b : D) (ha : LotV a) (hb : LotV b) : ValV S (.tup [a, b])
theorem ValV.keep {S S' : Store} {v : D} (k : Keep S S') (h : ValV S v) : ValV S' v := by
  cases h with
  | oth T h hT hs =>
    refine .oth T ?_ hT hs
    cases v with
    | ref i =>
      simp only [tyOf] at h ⊢
      have hi : i < S.length := by
        by_cases hi : i < S.length
        · exact hi
        · rw [List.getElem?_eq_none (by omega)] at h; cases h
      rw [k.2 i hi]
      exact h
    | _ => exact h
  | tupN xs h hl => exact .tupN xs h hl
  | two a b ha hb => exact .two a b ha hb
theorem ValV.ns {S : Store} {v : D} (h : ValV S v) : v ≠ .slf := by
  cases h with
  | oth T h hT hs => exact hs
  | _ => nofun
def asInts : D → Option (List Int)
  | .tup xs => intsOf xs
  | _ => none
def dueB (Q : List Pq) (v : D) : Bool := match v with
  | .tup [a, b] => (match asInts a, asInts b with
    | some I, some J => decide ((I, J) ∈ Q)
    | _, _ => false)
  | _ => false
def eqI : D → Int → Bool
  | .int j, i => i == j
  | _, _ => false
theorem sc_data {S : Store} {x : D} (h : Sc x) : ∃ p, toPS S x = some p ∧ p.depth = 0 ∧ ∀ i, PyData.eqv (.int i) p = eqI x i := by
  cases h with
  | int j => exact ⟨_, rfl, rfl, fun i => by simp [PyData.eqv, eqI]⟩
  | non => exact ⟨_, rfl, rfl, fun i => by simp [PyData.eqv, eqI]⟩
  | str s => exact ⟨_, rfl, rfl, fun i => by simp [PyData.eqv, eqI]⟩
section
variable {cal : Nat → List D → M D} {S : Store}
def lotB : D → Bool
  | .tup xs => xs.all isI
  | _ => false
end
theorem sc_iD {I : List Int} {x : D} (h : x ∈ iD I) : Sc x := by
  obtain ⟨i, _, rfl⟩ := List.mem_map.mp h
  exact .int i
section
variable {cal : Nat → List D → M D} {S : Store}
end
end Rg
namespace Rg
open PySem PySem.W L2 Ev Bd Sp
def one (R : Rw) (a b : Nat) : Prop := ∃ r, R[a]? = some r ∧ r[b]? = some 1
end Rg
namespace Rg
open PySem PySem.W L2 Ev Bd Sp
structure C18 (cal : Nat → List D → M D) : Prop where
  dip : Drw ReedJ (cal 60)
  thin : ∀ (t m : Nat) S, At ReedJ t S → 0 < m → m ≤ 8 → ∃ R S', cal 95 [.ref t, .int m] S = .ok (rowsL R) S' ∧ Full 8 8 R ∧ At ReedJ t S' ∧ Fr t S S'
  text : ∀ h w R S, Full h w R → cal 2 [rowsL R] S = .ok (.str (txt R)) S
  tab : ∀ h w R S, Full h w R → cal 1 [.str (txt R)] S = .ok (tabD h w R) S
  mine : ∀ h w R S, Full h w R → ∃ S', cal 49 [rowsL R] S = .ok (.lst ((lawL R h w).map ringD)) S' ∧ Keep S S'
  odd : ∀ h w R S, Full h w R → ∃ S', cal 48 [tabD h w R] S = .ok (.tup ((lawL R h w).map ringD)) S' ∧ Keep S S'
  ring : ∀ h w R (q : Pq) S, Full h w R → q ∈ lawL R h w → ∃ S', cal 94 [tabD h w R, ringD q] S = .ok (.bl true) S' ∧ Keep S S'
end Rg
namespace Rg
open PySem PySem.W L2 Ev Bd Sp Wp
local macro_rules | `(tactic| walk_at "wp1e") => `(tactic| first | with_reducible refine we_c ?_ | with_reducible refine we_op ?_ | with_reducible refine we_un ?_ | with_reducible refine we_callV ?_ | with_reducible refine we_cons ?_ | with_reducible refine we_nil ?_ | with_reducible refine we_asB ?_ | with_reducible refine we_tru ?_ | with_reducible refine we_and ?_ | with_reducible refine we_or ?_ | with_reducible refine we_not ?_ | with_reducible refine we_if ?_ | with_reducible refine wt_and ?_ | with_reducible refine wt_or ?_ | with_reducible refine wt_not ?_ | with_reducible refine wt_yes ?_ | with_reducible refine we_chain ?_ | with_reducible refine we_fld ?_ | with_reducible refine we_isi ?_ | with_reducible refine we_mb ?_ | with_reducible refine we_frz ?_ | with_reducible refine we_cut ?_ | with_reducible refine we_oN ?_ | with_reducible refine we_oS ?_ | with_reducible refine we_any ?_ | with_reducible refine we_star ?_ | with_reducible refine we_lc ?_ | with_reducible refine we_R1 ?_ | with_reducible refine we_R2 ?_ | with_reducible refine we_rg ?_ | with_reducible refine we_enu ?_ | with_reducible refine we_zip ?_ | with_reducible refine we_tup ?_ | with_reducible refine we_lst ?_ | with_reducible refine we_lstC ?_ | with_reducible refine we_cal ?_ | with_reducible refine wg_nm ?_ | with_reducible refine wg_nl ?_ | with_reducible refine wg_cs ?_ | ((with_reducible refine wg_istp ?_); refine wg_tp rfl ?_) | with_reducible refine wg_sb ?_)
local macro_rules | `(tactic| walk_at "wp1s") => `(tactic| first | with_reducible refine ws_seq ?_ | with_reducible refine ws_next ?_ | with_reducible refine ws_cnt ?_ | with_reducible refine ws_brk ?_ | with_reducible refine ws_retN ?_ | with_reducible refine ws_ret ?_ | with_reducible refine ws_expr ?_ | with_reducible refine ws_if ?_ | with_reducible refine ws_asg ?_ | with_reducible refine ws_par2 ?_ | with_reducible refine ws_par3 ?_ | with_reducible refine ws_for ?_)
local macro_rules | `(tactic| walk_at "wp1") => `(tactic| first | walk_at "wp1e" | walk_at "wp1s")
local macro_rules | `(tactic| walk_at "noslf") => `(tactic| first | (intro h; cases h; done) | assumption | nofun)
local macro_rules | `(tactic| walk_at "wp2") => `(tactic| first | ((with_reducible refine we_isv ?_); refine we_var rfl (by walk_at "noslf") ?_) | with_reducible refine br_t ?_ | with_reducible refine br_f ?_ | refine ⟨_, rfl, br_t ?_⟩ | refine ⟨_, rfl, br_f ?_⟩)
local macro_rules | `(tactic| walk_at "wpx") => `(tactic| first | with_reducible refine x_bl ?_ | with_reducible refine t_bl ?_ | with_reducible refine t_lst ?_ | with_reducible refine t_tup ?_ | with_reducible refine t_int ?_ | with_reducible refine t_non ?_ | with_reducible refine a_lst ?_ | with_reducible refine a_tup ?_ | with_reducible refine s_lst ?_ | with_reducible refine s_tup ?_ | with_reducible refine br_not ?_ | with_reducible refine we_lft pAdd_ii ?_ | with_reducible refine we_lft pSub_ii ?_ | with_reducible refine we_lft pLt_ii ?_ | with_reducible refine we_lft pLe_ii ?_ | with_reducible refine we_lft pGt_ii ?_ | with_reducible refine we_lft pGe_ii ?_ | with_reducible refine we_lft pEq_ii ?_ | with_reducible refine we_lft pNe_ii ?_ | with_reducible refine we_lft len_lI ?_ | with_reducible refine we_lft len_tI ?_ | with_reducible refine we_lft len_rL ?_ | with_reducible refine we_lft len_rT ?_ | with_reducible refine we_lft len_lo ?_ | with_reducible refine we_lft pLen_lst ?_ | with_reducible refine we_lft pLen_tup ?_ | with_reducible refine we_lft pInt_i ?_ | with_reducible refine we_lft pInt_b ?_ | with_reducible refine we_lft all_ok ?_ | with_reducible refine we_lft any_ok ?_ | with_reducible refine we_lft sum_lI ?_ | with_reducible refine we_dT ?_ | with_reducible refine we_lft neg_i ?_ | with_reducible refine x_int ?_ | with_reducible refine len_nil2 ?_ | ((with_reducible refine len_isl ?_); refine len_lit rfl ?_))
local macro_rules | `(tactic| walk_at "wsa") => `(tactic| (with_reducible refine ws_seq ?_; with_reducible refine ws_asg ?_))
local macro_rules | `(tactic| walk_at "wsi") => `(tactic| (with_reducible refine ws_seq ?_; with_reducible refine ws_if ?_))
local macro_rules | `(tactic| walk_at "wsf") => `(tactic| (with_reducible refine ws_seq ?_; with_reducible refine ws_for ?_))
local macro_rules | `(tactic| walk_at "wsn") => `(tactic| with_reducible refine ws_next ?_)
local macro_rules | `(tactic| walk_at "wpe") => `(tactic| repeat (first | walk_at "wp1e" | walk_at "wp2" | walk_at "wpx"))
local macro_rules | `(tactic| walk_at "wps") => `(tactic| repeat (first | walk_at "wp1" | walk_at "wp2" | walk_at "wpx"))
structure C19 (cal : Nat → List D → M D) : Prop where
  grid : GridF ReedJ (cal 51)
  full : ∀ (R : Rw) (most : Nat) S, Grid most R → most ≤ 8 → ∃ b, cal 50 [rowsL R] S = .ok (.bl b) S ∧ (b = true → ∃ h w, Full h w R ∧ h ≤ most ∧ w ≤ most)
  text : ∀ h w R S, Full h w R → cal 2 [rowsL R] S = .ok (.str (txt R)) S
  tab : ∀ h w R S, Full h w R → cal 1 [.str (txt R)] S = .ok (tabD h w R) S
  mine : ∀ h w R S, Full h w R → ∃ S', cal 49 [rowsL R] S = .ok (.lst ((lawL R h w).map ringD)) S' ∧ Keep S S'
  value : ∀ t h w R S, Full h w R → At ReedJ t S → WE (cal 100 [.ref t, rowsL R, .lst ((lawL R h w).map ringD)]) S fun v S' => ValV S' v ∧ At ReedJ t S' ∧ Fr t S S'
  ring : ∀ h w R v S, Full h w R → ValV S v → WE (cal 94 [tabD h w R, v]) S fun d S' => d = .bl (dueB (lawL R h w) v) ∧ Keep S S'
end Rg
namespace Bd
open PySem L2 Ev
end Bd
namespace Rg
open PySem PySem.W L2 Ev Bd Sp Wp
local macro_rules | `(tactic| walk_at "wp1e") => `(tactic| first | with_reducible refine we_c ?_ | with_reducible refine we_op ?_ | with_reducible refine we_un ?_ | with_reducible refine we_callV ?_ | with_reducible refine we_cons ?_ | with_reducible refine we_nil ?_ | with_reducible refine we_asB ?_ | with_reducible refine we_tru ?_ | with_reducible refine we_and ?_ | with_reducible refine we_or ?_ | with_reducible refine we_not ?_ | with_reducible refine we_if ?_ | with_reducible refine wt_and ?_ | with_reducible refine wt_or ?_ | with_reducible refine wt_not ?_ | with_reducible refine wt_yes ?_ | with_reducible refine we_chain ?_ | with_reducible refine we_fld ?_ | with_reducible refine we_isi ?_ | with_reducible refine we_mb ?_ | with_reducible refine we_frz ?_ | with_reducible refine we_cut ?_ | with_reducible refine we_oN ?_ | with_reducible refine we_oS ?_ | with_reducible refine we_any ?_ | with_reducible refine we_star ?_ | with_reducible refine we_lc ?_ | with_reducible refine we_R1 ?_ | with_reducible refine we_R2 ?_ | with_reducible refine we_rg ?_ | with_reducible refine we_enu ?_ | with_reducible refine we_zip ?_ | with_reducible refine we_tup ?_ | with_reducible refine we_lst ?_ | with_reducible refine we_lstC ?_ | with_reducible refine we_cal ?_ | with_reducible refine wg_nm ?_ | with_reducible refine wg_nl ?_ | with_reducible refine wg_cs ?_ | ((with_reducible refine wg_istp ?_); refine wg_tp rfl ?_) | with_reducible refine wg_sb ?_)
local macro_rules | `(tactic| walk_at "wp1s") => `(tactic| first | with_reducible refine ws_seq ?_ | with_reducible refine ws_next ?_ | with_reducible refine ws_cnt ?_ | with_reducible refine ws_brk ?_ | with_reducible refine ws_retN ?_ | with_reducible refine ws_ret ?_ | with_reducible refine ws_expr ?_ | with_reducible refine ws_if ?_ | with_reducible refine ws_asg ?_ | with_reducible refine ws_par2 ?_ | with_reducible refine ws_par3 ?_ | with_reducible refine ws_for ?_)
local macro_rules | `(tactic| walk_at "wp1") => `(tactic| first | walk_at "wp1e" | walk_at "wp1s")
local macro_rules | `(tactic| walk_at "noslf") => `(tactic| first | (intro h; cases h; done) | assumption | nofun)
local macro_rules | `(tactic| walk_at "wp2") => `(tactic| first | ((with_reducible refine we_isv ?_); refine we_var rfl (by walk_at "noslf") ?_) | with_reducible refine br_t ?_ | with_reducible refine br_f ?_ | refine ⟨_, rfl, br_t ?_⟩ | refine ⟨_, rfl, br_f ?_⟩)
local macro_rules | `(tactic| walk_at "wpx") => `(tactic| first | with_reducible refine x_bl ?_ | with_reducible refine t_bl ?_ | with_reducible refine t_lst ?_ | with_reducible refine t_tup ?_ | with_reducible refine t_int ?_ | with_reducible refine t_non ?_ | with_reducible refine a_lst ?_ | with_reducible refine a_tup ?_ | with_reducible refine s_lst ?_ | with_reducible refine s_tup ?_ | with_reducible refine br_not ?_ | with_reducible refine we_lft pAdd_ii ?_ | with_reducible refine we_lft pSub_ii ?_ | with_reducible refine we_lft pLt_ii ?_ | with_reducible refine we_lft pLe_ii ?_ | with_reducible refine we_lft pGt_ii ?_ | with_reducible refine we_lft pGe_ii ?_ | with_reducible refine we_lft pEq_ii ?_ | with_reducible refine we_lft pNe_ii ?_ | with_reducible refine we_lft len_lI ?_ | with_reducible refine we_lft len_tI ?_ | with_reducible refine we_lft len_rL ?_ | with_reducible refine we_lft len_rT ?_ | with_reducible refine we_lft len_lo ?_ | with_reducible refine we_lft pLen_lst ?_ | with_reducible refine we_lft pLen_tup ?_ | with_reducible refine we_lft pInt_i ?_ | with_reducible refine we_lft pInt_b ?_ | with_reducible refine we_lft all_ok ?_ | with_reducible refine we_lft any_ok ?_ | with_reducible refine we_lft sum_lI ?_ | with_reducible refine we_dT ?_ | with_reducible refine we_lft neg_i ?_ | with_reducible refine x_int ?_ | with_reducible refine len_nil2 ?_ | ((with_reducible refine len_isl ?_); refine len_lit rfl ?_))
local macro_rules | `(tactic| walk_at "wsa") => `(tactic| (with_reducible refine ws_seq ?_; with_reducible refine ws_asg ?_))
local macro_rules | `(tactic| walk_at "wsi") => `(tactic| (with_reducible refine ws_seq ?_; with_reducible refine ws_if ?_))
local macro_rules | `(tactic| walk_at "wsf") => `(tactic| (with_reducible refine ws_seq ?_; with_reducible refine ws_for ?_))
local macro_rules | `(tactic| walk_at "wsn") => `(tactic| with_reducible refine ws_next ?_)
local macro_rules | `(tactic| walk_at "wpe") => `(tactic| repeat (first | walk_at "wp1e" | walk_at "wp2" | walk_at "wpx"))
local macro_rules | `(tactic| walk_at "wps") => `(tactic| repeat (first | walk_at "wp1" | walk_at "wp2" | walk_at "wpx"))
/-- a thing in a tuple -/
inductive El : D → Prop
  | sc {x : D} (h : Sc x) : El x
  | tup (ns : List Int) : El (tI ns)
theorem El.ns {x : D} (h : El x) : x ≠ .slf := by
  cases h with
  | sc h => cases h <;> nofun
  | tup ns => nofun
theorem El.data {S : Store} {x : D} (h : El x) : ∃ p, toPS S x = some p ∧ p.depth ≤ 2 := by
  cases h with
  | sc h =>
    obtain ⟨p, e, d, _⟩ := sc_data (S := S) h
    exact ⟨p, e, by omega⟩
  | tup ns =>
    have := depth_ints ns
    exact ⟨.tuple (ns.map .int), by simp only [toPS, toPSs_ints, Option.map_some], by simp only [PyData.depth]; omega⟩
inductive PV (S : Store) : D → Prop
  | oth {v : D} (T : String) (h : tyOf S v = some (.blt T)) (hT : T = "NoneType" ∨ T = "int" ∨ T = "str" ∨ T = "list" ∨ T = "dict") (hs : v ≠ .slf) : PV S v
  | tup (xs : List D) (h : ∀ x ∈ xs, El x) (hl : xs.length ≤ 1000) : PV S (.tup xs)
theorem tyOf_keep {S S' : Store} {v : D} {T : Ty} (k : Keep S S') (h : tyOf S v = some T) : tyOf S' v = some T := by
  cases v with
  | ref i =>
    simp only [tyOf] at h ⊢
    have hi : i < S.length := by
      by_cases hi : i < S.length
      · exact hi
      · rw [List.getElem?_eq_none (by omega)] at h; cases h
    rw [k.2 i hi]
    exact h
  | _ => exact h
theorem PV.keep {S S' : Store} {v : D} (k : Keep S S') (h : PV S v) : PV S' v := by
  cases h with
  | oth T h hT hs => exact .oth T (tyOf_keep k h) hT hs
  | tup xs h hl => exact .tup xs h hl
theorem PV.ns {S : Store} {v : D} (h : PV S v) : v ≠ .slf := by
  cases h with
  | oth T h hT hs => exact hs
  | tup => nofun
def inR (K : Nat) : D → Bool
  | .int i => decide (0 ≤ i ∧ i < K)
  | _ => false
def intOf : D → Int
  | .int i => i
  | _ => 0
def dueH (R : Rw) (K : Nat) (cs : List Int) (v : D) : Bool := match v with
  | .tup xs => decide (xs.length = cs.length) && (xs.all (inR K) && hued R K cs (xs.map intOf))
  | _ => false
section
variable {cal : Nat → List D → M D} {S : Store}
end
end Rg
namespace Rg
open PySem PySem.W L2 Ev Bd Sp Wp
local macro_rules | `(tactic| walk_at "wp1e") => `(tactic| first | with_reducible refine we_c ?_ | with_reducible refine we_op ?_ | with_reducible refine we_un ?_ | with_reducible refine we_callV ?_ | with_reducible refine we_cons ?_ | with_reducible refine we_nil ?_ | with_reducible refine we_asB ?_ | with_reducible refine we_tru ?_ | with_reducible refine we_and ?_ | with_reducible refine we_or ?_ | with_reducible refine we_not ?_ | with_reducible refine we_if ?_ | with_reducible refine wt_and ?_ | with_reducible refine wt_or ?_ | with_reducible refine wt_not ?_ | with_reducible refine wt_yes ?_ | with_reducible refine we_chain ?_ | with_reducible refine we_fld ?_ | with_reducible refine we_isi ?_ | with_reducible refine we_mb ?_ | with_reducible refine we_frz ?_ | with_reducible refine we_cut ?_ | with_reducible refine we_oN ?_ | with_reducible refine we_oS ?_ | with_reducible refine we_any ?_ | with_reducible refine we_star ?_ | with_reducible refine we_lc ?_ | with_reducible refine we_R1 ?_ | with_reducible refine we_R2 ?_ | with_reducible refine we_rg ?_ | with_reducible refine we_enu ?_ | with_reducible refine we_zip ?_ | with_reducible refine we_tup ?_ | with_reducible refine we_lst ?_ | with_reducible refine we_lstC ?_ | with_reducible refine we_cal ?_ | with_reducible refine wg_nm ?_ | with_reducible refine wg_nl ?_ | with_reducible refine wg_cs ?_ | ((with_reducible refine wg_istp ?_); refine wg_tp rfl ?_) | with_reducible refine wg_sb ?_)
local macro_rules | `(tactic| walk_at "wp1s") => `(tactic| first | with_reducible refine ws_seq ?_ | with_reducible refine ws_next ?_ | with_reducible refine ws_cnt ?_ | with_reducible refine ws_brk ?_ | with_reducible refine ws_retN ?_ | with_reducible refine ws_ret ?_ | with_reducible refine ws_expr ?_ | with_reducible refine ws_if ?_ | with_reducible refine ws_asg ?_ | with_reducible refine ws_par2 ?_ | with_reducible refine ws_par3 ?_ | with_reducible refine ws_for ?_)
local macro_rules | `(tactic| walk_at "wp1") => `(tactic| first | walk_at "wp1e" | walk_at "wp1s")
local macro_rules | `(tactic| walk_at "noslf") => `(tactic| first | (intro h; cases h; done) | assumption | nofun)
local macro_rules | `(tactic| walk_at "wp2") => `(tactic| first | ((with_reducible refine we_isv ?_); refine we_var rfl (by walk_at "noslf") ?_) | with_reducible refine br_t ?_ | with_reducible refine br_f ?_ | refine ⟨_, rfl, br_t ?_⟩ | refine ⟨_, rfl, br_f ?_⟩)
local macro_rules | `(tactic| walk_at "wpx") => `(tactic| first | with_reducible refine x_bl ?_ | with_reducible refine t_bl ?_ | with_reducible refine t_lst ?_ | with_reducible refine t_tup ?_ | with_reducible refine t_int ?_ | with_reducible refine t_non ?_ | with_reducible refine a_lst ?_ | with_reducible refine a_tup ?_ | with_reducible refine s_lst ?_ | with_reducible refine s_tup ?_ | with_reducible refine br_not ?_ | with_reducible refine we_lft pAdd_ii ?_ | with_reducible refine we_lft pSub_ii ?_ | with_reducible refine we_lft pLt_ii ?_ | with_reducible refine we_lft pLe_ii ?_ | with_reducible refine we_lft pGt_ii ?_ | with_reducible refine we_lft pGe_ii ?_ | with_reducible refine we_lft pEq_ii ?_ | with_reducible refine we_lft pNe_ii ?_ | with_reducible refine we_lft len_lI ?_ | with_reducible refine we_lft len_tI ?_ | with_reducible refine we_lft len_rL ?_ | with_reducible refine we_lft len_rT ?_ | with_reducible refine we_lft len_lo ?_ | with_reducible refine we_lft pLen_lst ?_ | with_reducible refine we_lft pLen_tup ?_ | with_reducible refine we_lft pInt_i ?_ | with_reducible refine we_lft pInt_b ?_ | with_reducible refine we_lft all_ok ?_ | with_reducible refine we_lft any_ok ?_ | with_reducible refine we_lft sum_lI ?_ | with_reducible refine we_dT ?_ | with_reducible refine we_lft neg_i ?_ | with_reducible refine x_int ?_ | with_reducible refine len_nil2 ?_ | ((with_reducible refine len_isl ?_); refine len_lit rfl ?_))
local macro_rules | `(tactic| walk_at "wsa") => `(tactic| (with_reducible refine ws_seq ?_; with_reducible refine ws_asg ?_))
local macro_rules | `(tactic| walk_at "wsi") => `(tactic| (with_reducible refine ws_seq ?_; with_reducible refine ws_if ?_))
local macro_rules | `(tactic| walk_at "wsf") => `(tactic| (with_reducible refine ws_seq ?_; with_reducible refine ws_for ?_))
local macro_rules | `(tactic| walk_at "wsn") => `(tactic| with_reducible refine ws_next ?_)
local macro_rules | `(tactic| walk_at "wpe") => `(tactic| repeat (first | walk_at "wp1e" | walk_at "wp2" | walk_at "wpx"))
local macro_rules | `(tactic| walk_at "wps") => `(tactic| repeat (first | walk_at "wp1" | walk_at "wp2" | walk_at "wpx"))
section
variable {cal : Nat → List D → M D} {S : Store}
end
structure C51 (cal : Nat → List D → M D) : Prop where
  dip : Drw ReedJ (cal 60)
  mix : Mix ReedJ (cal 64)
  grid : GridF ReedJ (cal 51)
  full : ∀ (R : Rw) (most : Nat) S, Grid most R → most ≤ 8 → ∃ b, cal 50 [rowsL R] S = .ok (.bl b) S ∧ (b = true → ∃ h w, Full h w R ∧ h ≤ most ∧ w ≤ most)
  text : ∀ h w R S, Full h w R → cal 2 [rowsL R] S = .ok (.str (txt R)) S
  tab : ∀ h w R S, Full h w R → cal 1 [.str (txt R)] S = .ok (tabD h w R) S
  col : ∀ h w R (K : Nat) cs, Full h w R → Lot w cs → 0 < K → K ≤ 8 → ∃ o, (∀ S, cal 68 [tabD h w R, .int K, tI cs] S = .ok (encO o) S) ∧ Ans R K cs o
  hue : ∀ h w R (K : Nat) cs hs S, Full h w R → Lot w cs → hs.length = cs.length → cal 69 [rowsL R, .int K, tI cs, tI hs] S = .ok (.bl (hued R K cs hs)) S
  value : ∀ t (K : Nat) cs o S, At ReedJ t S → 0 < K → K ≤ 8 → 0 < cs.length → cs.length ≤ 8 → (∀ ts, o = some ts → ts.length = cs.length) → WE (cal 104 [.ref t, .int K, tI cs, encO o]) S fun v S' => PV S' v ∧ At ReedJ t S' ∧ Fr t S S'
  is_ : ∀ h w R (K : Nat) cs v S, Full h w R → Lot w cs → 0 < K → K ≤ 8 → PV S v → WE (cal 103 [tabD h w R, .int K, tI cs, v]) S fun d S' => S' = S ∧ d = .bl (dueH R K cs v)
end Rg
namespace Rg
open PySem PySem.W L2 Ev Bd Sp Wp
local macro_rules | `(tactic| walk_at "wp1e") => `(tactic| first | with_reducible refine we_c ?_ | with_reducible refine we_op ?_ | with_reducible refine we_un ?_ | with_reducible refine we_callV ?_ | with_reducible refine we_cons ?_ | with_reducible refine we_nil ?_ | with_reducible refine we_asB ?_ | with_reducible refine we_tru ?_ | with_reducible refine we_and ?_ | with_reducible refine we_or ?_ | with_reducible refine we_not ?_ | with_reducible refine we_if ?_ | with_reducible refine wt_and ?_ | with_reducible refine wt_or ?_ | with_reducible refine wt_not ?_ | with_reducible refine wt_yes ?_ | with_reducible refine we_chain ?_ | with_reducible refine we_fld ?_ | with_reducible refine we_isi ?_ | with_reducible refine we_mb ?_ | with_reducible refine we_frz ?_ | with_reducible refine we_cut ?_ | with_reducible refine we_oN ?_ | with_reducible refine we_oS ?_ | with_reducible refine we_any ?_ | with_reducible refine we_star ?_ | with_reducible refine we_lc ?_ | with_reducible refine we_R1 ?_ | with_reducible refine we_R2 ?_ | with_reducible refine we_rg ?_ | with_reducible refine we_enu ?_ | with_reducible refine we_zip ?_ | with_reducible refine we_tup ?_ | with_reducible refine we_lst ?_ | with_reducible refine we_lstC ?_ | with_reducible refine we_cal ?_ | with_reducible refine wg_nm ?_ | with_reducible refine wg_nl ?_ | with_reducible refine wg_cs ?_ | ((with_reducible refine wg_istp ?_); refine wg_tp rfl ?_) | with_reducible refine wg_sb ?_)
local macro_rules | `(tactic| walk_at "wp1s") => `(tactic| first | with_reducible refine ws_seq ?_ | with_reducible refine ws_next ?_ | with_reducible refine ws_cnt ?_ | with_reducible refine ws_brk ?_ | with_reducible refine ws_retN ?_ | with_reducible refine ws_ret ?_ | with_reducible refine ws_expr ?_ | with_reducible refine ws_if ?_ | with_reducible refine ws_asg ?_ | with_reducible refine ws_par2 ?_ | with_reducible refine ws_par3 ?_ | with_reducible refine ws_for ?_)
local macro_rules | `(tactic| walk_at "wp1") => `(tactic| first | walk_at "wp1e" | walk_at "wp1s")
local macro_rules | `(tactic| walk_at "noslf") => `(tactic| first | (intro h; cases h; done) | assumption | nofun)
local macro_rules | `(tactic| walk_at "wp2") => `(tactic| first | ((with_reducible refine we_isv ?_); refine we_var rfl (by walk_at "noslf") ?_) | with_reducible refine br_t ?_ | with_reducible refine br_f ?_ | refine ⟨_, rfl, br_t ?_⟩ | refine ⟨_, rfl, br_f ?_⟩)
local macro_rules | `(tactic| walk_at "wpx") => `(tactic| first | with_reducible refine x_bl ?_ | with_reducible refine t_bl ?_ | with_reducible refine t_lst ?_ | with_reducible refine t_tup ?_ | with_reducible refine t_int ?_ | with_reducible refine t_non ?_ | with_reducible refine a_lst ?_ | with_reducible refine a_tup ?_ | with_reducible refine s_lst ?_ | with_reducible refine s_tup ?_ | with_reducible refine br_not ?_ | with_reducible refine we_lft pAdd_ii ?_ | with_reducible refine we_lft pSub_ii ?_ | with_reducible refine we_lft pLt_ii ?_ | with_reducible refine we_lft pLe_ii ?_ | with_reducible refine we_lft pGt_ii ?_ | with_reducible refine we_lft pGe_ii ?_ | with_reducible refine we_lft pEq_ii ?_ | with_reducible refine we_lft pNe_ii ?_ | with_reducible refine we_lft len_lI ?_ | with_reducible refine we_lft len_tI ?_ | with_reducible refine we_lft len_rL ?_ | with_reducible refine we_lft len_rT ?_ | with_reducible refine we_lft len_lo ?_ | with_reducible refine we_lft pLen_lst ?_ | with_reducible refine we_lft pLen_tup ?_ | with_reducible refine we_lft pInt_i ?_ | with_reducible refine we_lft pInt_b ?_ | with_reducible refine we_lft all_ok ?_ | with_reducible refine we_lft any_ok ?_ | with_reducible refine we_lft sum_lI ?_ | with_reducible refine we_dT ?_ | with_reducible refine we_lft neg_i ?_ | with_reducible refine x_int ?_ | with_reducible refine len_nil2 ?_ | ((with_reducible refine len_isl ?_); refine len_lit rfl ?_))
local macro_rules | `(tactic| walk_at "wsa") => `(tactic| (with_reducible refine ws_seq ?_; with_reducible refine ws_asg ?_))
local macro_rules | `(tactic| walk_at "wsi") => `(tactic| (with_reducible refine ws_seq ?_; with_reducible refine ws_if ?_))
local macro_rules | `(tactic| walk_at "wsf") => `(tactic| (with_reducible refine ws_seq ?_; with_reducible refine ws_for ?_))
local macro_rules | `(tactic| walk_at "wsn") => `(tactic| with_reducible refine ws_next ?_)
local macro_rules | `(tactic| walk_at "wpe") => `(tactic| repeat (first | walk_at "wp1e" | walk_at "wp2" | walk_at "wpx"))
local macro_rules | `(tactic| walk_at "wps") => `(tactic| repeat (first | walk_at "wp1" | walk_at "wp2" | walk_at "wpx"))
/-- a thing that may stand in a paper -/
inductive EV (S : Store) : D → Prop
  | int (i : Int) : EV S (.int i)
  | oth {v : D} (T : String) (h : tyOf S v = some (.blt T)) (hT : T = "NoneType" ∨ T = "str" ∨ T = "list" ∨ T = "dict" ∨ T = "tuple") (hs : v ≠ .slf) : EV S v
theorem EV.ns {S : Store} {v : D} (h : EV S v) : v ≠ .slf := by
  cases h with
  | int i => nofun
  | oth T h hT hs => exact hs
theorem EV.keep {S S' : Store} {v : D} (k : Keep S S') (h : EV S v) : EV S' v := by
  cases h with
  | int i => exact .int i
  | oth T h hT hs => exact .oth T (tyOf_keep k h) hT hs
/-- a paper -/
inductive PW (S : Store) : D → Prop
  | oth {v : D} (T : String) (h : tyOf S v = some (.blt T)) (hT : T = "NoneType" ∨ T = "int" ∨ T = "str" ∨ T = "list" ∨ T = "dict") (hs : v ≠ .slf) : PW S v
  | tup (xs : List D) (h : ∀ x ∈ xs, EV S x) (hl : xs.length ≤ 1000) : PW S (.tup xs)
theorem PW.ns {S : Store} {v : D} (h : PW S v) : v ≠ .slf := by
  cases h with
  | oth T h hT hs => exact hs
  | tup => nofun
theorem PW.keep {S S' : Store} {v : D} (k : Keep S S') (h : PW S v) : PW S' v := by
  cases h with
  | oth T h hT hs => exact .oth T (tyOf_keep k h) hT hs
  | tup xs h hl => exact .tup xs (fun x hx => (h x hx).keep k) hl
section
variable {cal : Nat → List D → M D} {S : Store}
end
end Rg
namespace Ty
open PySem L2 Ev Bd Sp Rg Wp
local macro_rules | `(tactic| walk_at "wp1e") => `(tactic| first | with_reducible refine we_c ?_ | with_reducible refine we_op ?_ | with_reducible refine we_un ?_ | with_reducible refine we_callV ?_ | with_reducible refine we_cons ?_ | with_reducible refine we_nil ?_ | with_reducible refine we_asB ?_ | with_reducible refine we_tru ?_ | with_reducible refine we_and ?_ | with_reducible refine we_or ?_ | with_reducible refine we_not ?_ | with_reducible refine we_if ?_ | with_reducible refine wt_and ?_ | with_reducible refine wt_or ?_ | with_reducible refine wt_not ?_ | with_reducible refine wt_yes ?_ | with_reducible refine we_chain ?_ | with_reducible refine we_fld ?_ | with_reducible refine we_isi ?_ | with_reducible refine we_mb ?_ | with_reducible refine we_frz ?_ | with_reducible refine we_cut ?_ | with_reducible refine we_oN ?_ | with_reducible refine we_oS ?_ | with_reducible refine we_any ?_ | with_reducible refine we_star ?_ | with_reducible refine we_lc ?_ | with_reducible refine we_R1 ?_ | with_reducible refine we_R2 ?_ | with_reducible refine we_rg ?_ | with_reducible refine we_enu ?_ | with_reducible refine we_zip ?_ | with_reducible refine we_tup ?_ | with_reducible refine we_lst ?_ | with_reducible refine we_lstC ?_ | with_reducible refine we_cal ?_ | with_reducible refine wg_nm ?_ | with_reducible refine wg_nl ?_ | with_reducible refine wg_cs ?_ | ((with_reducible refine wg_istp ?_); refine wg_tp rfl ?_) | with_reducible refine wg_sb ?_)
local macro_rules | `(tactic| walk_at "wp1s") => `(tactic| first | with_reducible refine ws_seq ?_ | with_reducible refine ws_next ?_ | with_reducible refine ws_cnt ?_ | with_reducible refine ws_brk ?_ | with_reducible refine ws_retN ?_ | with_reducible refine ws_ret ?_ | with_reducible refine ws_expr ?_ | with_reducible refine ws_if ?_ | with_reducible refine ws_asg ?_ | with_reducible refine ws_par2 ?_ | with_reducible refine ws_par3 ?_ | with_reducible refine ws_for ?_)
local macro_rules | `(tactic| walk_at "wp1") => `(tactic| first | walk_at "wp1e" | walk_at "wp1s")
local macro_rules | `(tactic| walk_at "noslf") => `(tactic| first | (intro h; cases h; done) | assumption | nofun)
local macro_rules | `(tactic| walk_at "wp2") => `(tactic| first | ((with_reducible refine we_isv ?_); refine we_var rfl (by walk_at "noslf") ?_) | with_reducible refine br_t ?_ | with_reducible refine br_f ?_ | refine ⟨_, rfl, br_t ?_⟩ | refine ⟨_, rfl, br_f ?_⟩)
local macro_rules | `(tactic| walk_at "wpx") => `(tactic| first | with_reducible refine x_bl ?_ | with_reducible refine t_bl ?_ | with_reducible refine t_lst ?_ | with_reducible refine t_tup ?_ | with_reducible refine t_int ?_ | with_reducible refine t_non ?_ | with_reducible refine a_lst ?_ | with_reducible refine a_tup ?_ | with_reducible refine s_lst ?_ | with_reducible refine s_tup ?_ | with_reducible refine br_not ?_ | with_reducible refine we_lft pAdd_ii ?_ | with_reducible refine we_lft pSub_ii ?_ | with_reducible refine we_lft pLt_ii ?_ | with_reducible refine we_lft pLe_ii ?_ | with_reducible refine we_lft pGt_ii ?_ | with_reducible refine we_lft pGe_ii ?_ | with_reducible refine we_lft pEq_ii ?_ | with_reducible refine we_lft pNe_ii ?_ | with_reducible refine we_lft len_lI ?_ | with_reducible refine we_lft len_tI ?_ | with_reducible refine we_lft len_rL ?_ | with_reducible refine we_lft len_rT ?_ | with_reducible refine we_lft len_lo ?_ | with_reducible refine we_lft pLen_lst ?_ | with_reducible refine we_lft pLen_tup ?_ | with_reducible refine we_lft pInt_i ?_ | with_reducible refine we_lft pInt_b ?_ | with_reducible refine we_lft all_ok ?_ | with_reducible refine we_lft any_ok ?_ | with_reducible refine we_lft sum_lI ?_ | with_reducible refine we_dT ?_ | with_reducible refine we_lft neg_i ?_ | with_reducible refine x_int ?_ | with_reducible refine len_nil2 ?_ | ((with_reducible refine len_isl ?_); refine len_lit rfl ?_))
local macro_rules | `(tactic| walk_at "wsa") => `(tactic| (with_reducible refine ws_seq ?_; with_reducible refine ws_asg ?_))
local macro_rules | `(tactic| walk_at "wsi") => `(tactic| (with_reducible refine ws_seq ?_; with_reducible refine ws_if ?_))
local macro_rules | `(tactic| walk_at "wsf") => `(tactic| (with_reducible refine ws_seq ?_; with_reducible refine ws_for ?_))
local macro_rules | `(tactic| walk_at "wsn") => `(tactic| with_reducible refine ws_next ?_)
local macro_rules | `(tactic| walk_at "wpe") => `(tactic| repeat (first | walk_at "wp1e" | walk_at "wp2" | walk_at "wpx"))
local macro_rules | `(tactic| walk_at "wps") => `(tactic| repeat (first | walk_at "wp1" | walk_at "wp2" | walk_at "wpx"))
/-- all turns of a law by trays -/
def lawM (m : Int) (r e : List D → M D) : MS := sRet (eCallV (pAll true) (aCons (eLc newL (iR1 (aCons (eCallV (pMax) (aCons (eC (.int 2)) (aCons (eCallV (pMin) (aCons (eCallV (pLen) (aCons (eVar 0) aNil)) (aCons (eC (.int m)) aNil))) aNil))) aNil)) (uNm 1) tYesM (eCal r (aCons (eCal e (aCons (eVar 0) (aCons (eVar 1) aNil))) aNil)) [1]) aNil))
structure C07 (cal : Nat → List D → M D) : Prop where
  take : TakF (cal 3)
  rows : ∀ (t h w : Nat) (S : Store), Tr t S → 0 < h → h ≤ 8 → 0 < w → w ≤ 8 → ∃ R S', cal 4 [.ref t, .int h, .int w] S = .ok (rowsL R) S' ∧ Tr t S' ∧ Full h w R
  text : ∀ h w R S, Full h w R → cal 2 [rowsL R] S = .ok (.str (txt R)) S
  table : ∀ h w R S, Full h w R → cal 177 [.str (txt R)] S = .ok (tabD h w R) S
  turned : ∀ h w R S, Full h w R → cal 174 [tabD h w R] S = .ok (tabD w h (turnR R w)) S
  part : ∀ h w R I J S, Full h w R → Lot h I → Lot w J → Full I.length J.length (partR R I J) → cal 173 [tabD h w R, .tup [tI I, tI J]] S = .ok (tabD I.length J.length (partR R I J)) S
  eq : ∀ h w R h' w' R' S, cal 175 [tabD h w R, tabD h' w' R'] S = .ok (.bl (txt R == txt R')) S
  some_ : ∀ (t n s : Nat) S, Tr t S → 0 < s → s ≤ n → n ≤ 8 → WE (cal 176 [.ref t, .int n, .int s]) S fun d S' => ∃ I, d = lI I ∧ Lot n I ∧ I.length = s ∧ Tr t S'
  full : ∀ (P : Rw) (w : Nat) S, G01 w P → 0 < P.length → P.length ≤ 8 → 0 < w → w ≤ 8 → ∃ b, cal 172 [rowsL P] S = .ok (.bl b) S ∧ (b = true → (∀ r ∈ P, (1 : Int) ∈ r) ∧ ∀ k, k < w → ∃ r ∈ P, r[k]? = some 1)
end Ty
namespace Xr
open PySem L2 Ev Bd Sp Rg Wp Ty Xm
local macro_rules | `(tactic| walk_at "wp1e") => `(tactic| first | with_reducible refine we_c ?_ | with_reducible refine we_op ?_ | with_reducible refine we_un ?_ | with_reducible refine we_callV ?_ | with_reducible refine we_cons ?_ | with_reducible refine we_nil ?_ | with_reducible refine we_asB ?_ | with_reducible refine we_tru ?_ | with_reducible refine we_and ?_ | with_reducible refine we_or ?_ | with_reducible refine we_not ?_ | with_reducible refine we_if ?_ | with_reducible refine wt_and ?_ | with_reducible refine wt_or ?_ | with_reducible refine wt_not ?_ | with_reducible refine wt_yes ?_ | with_reducible refine we_chain ?_ | with_reducible refine we_fld ?_ | with_reducible refine we_isi ?_ | with_reducible refine we_mb ?_ | with_reducible refine we_frz ?_ | with_reducible refine we_cut ?_ | with_reducible refine we_oN ?_ | with_reducible refine we_oS ?_ | with_reducible refine we_any ?_ | with_reducible refine we_star ?_ | with_reducible refine we_lc ?_ | with_reducible refine we_R1 ?_ | with_reducible refine we_R2 ?_ | with_reducible refine we_rg ?_ | with_reducible refine we_enu ?_ | with_reducible refine we_zip ?_ | with_reducible refine we_tup ?_ | with_reducible refine we_lst ?_ | with_reducible refine we_lstC ?_ | with_reducible refine we_cal ?_ | with_reducible refine wg_nm ?_ | with_reducible refine wg_nl ?_ | with_reducible refine wg_cs ?_ | ((with_reducible refine wg_istp ?_); refine wg_tp rfl ?_) | with_reducible refine wg_sb ?_)
local macro_rules | `(tactic| walk_at "wp1s") => `(tactic| first | with_reducible refine ws_seq ?_ | with_reducible refine ws_next ?_ | with_reducible refine ws_cnt ?_ | with_reducible refine ws_brk ?_ | with_reducible refine ws_retN ?_ | with_reducible refine ws_ret ?_ | with_reducible refine ws_expr ?_ | with_reducible refine ws_if ?_ | with_reducible refine ws_asg ?_ | with_reducible refine ws_par2 ?_ | with_reducible refine ws_par3 ?_ | with_reducible refine ws_for ?_)
local macro_rules | `(tactic| walk_at "wp1") => `(tactic| first | walk_at "wp1e" | walk_at "wp1s")
local macro_rules | `(tactic| walk_at "noslf") => `(tactic| first | (intro h; cases h; done) | assumption | nofun)
local macro_rules | `(tactic| walk_at "wp2") => `(tactic| first | ((with_reducible refine we_isv ?_); refine we_var rfl (by walk_at "noslf") ?_) | with_reducible refine br_t ?_ | with_reducible refine br_f ?_ | refine ⟨_, rfl, br_t ?_⟩ | refine ⟨_, rfl, br_f ?_⟩)
local macro_rules | `(tactic| walk_at "wpx") => `(tactic| first | with_reducible refine x_bl ?_ | with_reducible refine t_bl ?_ | with_reducible refine t_lst ?_ | with_reducible refine t_tup ?_ | with_reducible refine t_int ?_ | with_reducible refine t_non ?_ | with_reducible refine a_lst ?_ | with_reducible refine a_tup ?_ | with_reducible refine s_lst ?_ | with_reducible refine s_tup ?_ | with_reducible refine br_not ?_ | with_reducible refine we_lft pAdd_ii ?_ | with_reducible refine we_lft pSub_ii ?_ | with_reducible refine we_lft pLt_ii ?_ | with_reducible refine we_lft pLe_ii ?_ | with_reducible refine we_lft pGt_ii ?_ | with_reducible refine we_lft pGe_ii ?_ | with_reducible refine we_lft pEq_ii ?_ | with_reducible refine we_lft pNe_ii ?_ | with_reducible refine we_lft len_lI ?_ | with_reducible refine we_lft len_tI ?_ | with_reducible refine we_lft len_rL ?_ | with_reducible refine we_lft len_rT ?_ | with_reducible refine we_lft len_lo ?_ | with_reducible refine we_lft pLen_lst ?_ | with_reducible refine we_lft pLen_tup ?_ | with_reducible refine we_lft pInt_i ?_ | with_reducible refine we_lft pInt_b ?_ | with_reducible refine we_lft all_ok ?_ | with_reducible refine we_lft any_ok ?_ | with_reducible refine we_lft sum_lI ?_ | with_reducible refine we_dT ?_ | with_reducible refine we_lft neg_i ?_ | with_reducible refine x_int ?_ | with_reducible refine len_nil2 ?_ | ((with_reducible refine len_isl ?_); refine len_lit rfl ?_))
local macro_rules | `(tactic| walk_at "wsa") => `(tactic| (with_reducible refine ws_seq ?_; with_reducible refine ws_asg ?_))
local macro_rules | `(tactic| walk_at "wsi") => `(tactic| (with_reducible refine ws_seq ?_; with_reducible refine ws_if ?_))
local macro_rules | `(tactic| walk_at "wsf") => `(tactic| (with_reducible refine ws_seq ?_; with_reducible refine ws_for ?_))
local macro_rules | `(tactic| walk_at "wsn") => `(tactic| with_reducible refine ws_next ?_)
local macro_rules | `(tactic| walk_at "wpe") => `(tactic| repeat (first | walk_at "wp1e" | walk_at "wp2" | walk_at "wpx"))
local macro_rules | `(tactic| walk_at "wps") => `(tactic| repeat (first | walk_at "wp1" | walk_at "wp2" | walk_at "wpx"))
/-- an answer or Empty -/
def outE (b : Bool) (d : D) : D ⊕ Xc := if b = true then .inl d else .inr ⟨"Empty", []⟩
structure C04 (L : Store) (cal : Nat → List D → M D) : Prop where
  take : Tl.TakF L (cal 3)
  rows : ∀ (t h w : Nat) (S : Store), Tl.Tr L t S → 0 < h → h ≤ 8 → 0 < w → w ≤ 8 → ∃ R S', cal 4 [.ref t, .int h, .int w] S = .ok (rowsL R) S' ∧ Tl.Tr L t S' ∧ Full h w R
  text : ∀ h w R S, Full h w R → cal 2 [rowsL R] S = .ok (.str (txt R)) S
  table : ∀ h w R S, Full h w R → cal 203 [.str (txt R)] S = .ok (tabD h w R) S
  put : ∀ h w R (i j : Nat) (x : Int) S, Full h w R → i < h → j < w → (x = 0 ∨ x = 1) → ∃ S', Ext S S' ∧ cal 211 [tabD h w R, .int i, .int j, .int x] S = outR (outE (fullB w (putR R i j x)) (tabD h w (putR R i j x))) S'
  full : ∀ h w R S, Grd h w R → cal 172 [rowsL R] S = .ok (.bl (fullB w R)) S
  eq : ∀ h w R h' w' R' S, cal 208 [tabD h w R, tabD h' w' R'] S = .ok (.bl (txt R == txt R')) S
end Xr
namespace Xr
open PySem L2 Ev Bd Sp Rg Wp Ty Xm
local macro_rules | `(tactic| walk_at "wp1e") => `(tactic| first | with_reducible refine we_c ?_ | with_reducible refine we_op ?_ | with_reducible refine we_un ?_ | with_reducible refine we_callV ?_ | with_reducible refine we_cons ?_ | with_reducible refine we_nil ?_ | with_reducible refine we_asB ?_ | with_reducible refine we_tru ?_ | with_reducible refine we_and ?_ | with_reducible refine we_or ?_ | with_reducible refine we_not ?_ | with_reducible refine we_if ?_ | with_reducible refine wt_and ?_ | with_reducible refine wt_or ?_ | with_reducible refine wt_not ?_ | with_reducible refine wt_yes ?_ | with_reducible refine we_chain ?_ | with_reducible refine we_fld ?_ | with_reducible refine we_isi ?_ | with_reducible refine we_mb ?_ | with_reducible refine we_frz ?_ | with_reducible refine we_cut ?_ | with_reducible refine we_oN ?_ | with_reducible refine we_oS ?_ | with_reducible refine we_any ?_ | with_reducible refine we_star ?_ | with_reducible refine we_lc ?_ | with_reducible refine we_R1 ?_ | with_reducible refine we_R2 ?_ | with_reducible refine we_rg ?_ | with_reducible refine we_enu ?_ | with_reducible refine we_zip ?_ | with_reducible refine we_tup ?_ | with_reducible refine we_lst ?_ | with_reducible refine we_lstC ?_ | with_reducible refine we_cal ?_ | with_reducible refine wg_nm ?_ | with_reducible refine wg_nl ?_ | with_reducible refine wg_cs ?_ | ((with_reducible refine wg_istp ?_); refine wg_tp rfl ?_) | with_reducible refine wg_sb ?_)
local macro_rules | `(tactic| walk_at "wp1s") => `(tactic| first | with_reducible refine ws_seq ?_ | with_reducible refine ws_next ?_ | with_reducible refine ws_cnt ?_ | with_reducible refine ws_brk ?_ | with_reducible refine ws_retN ?_ | with_reducible refine ws_ret ?_ | with_reducible refine ws_expr ?_ | with_reducible refine ws_if ?_ | with_reducible refine ws_asg ?_ | with_reducible refine ws_par2 ?_ | with_reducible refine ws_par3 ?_ | with_reducible refine ws_for ?_)
local macro_rules | `(tactic| walk_at "wp1") => `(tactic| first | walk_at "wp1e" | walk_at "wp1s")
local macro_rules | `(tactic| walk_at "noslf") => `(tactic| first | (intro h; cases h; done) | assumption | nofun)
local macro_rules | `(tactic| walk_at "wp2") => `(tactic| first | ((with_reducible refine we_isv ?_); refine we_var rfl (by walk_at "noslf") ?_) | with_reducible refine br_t ?_ | with_reducible refine br_f ?_ | refine ⟨_, rfl, br_t ?_⟩ | refine ⟨_, rfl, br_f ?_⟩)
local macro_rules | `(tactic| walk_at "wpx") => `(tactic| first | with_reducible refine x_bl ?_ | with_reducible refine t_bl ?_ | with_reducible refine t_lst ?_ | with_reducible refine t_tup ?_ | with_reducible refine t_int ?_ | with_reducible refine t_non ?_ | with_reducible refine a_lst ?_ | with_reducible refine a_tup ?_ | with_reducible refine s_lst ?_ | with_reducible refine s_tup ?_ | with_reducible refine br_not ?_ | with_reducible refine we_lft pAdd_ii ?_ | with_reducible refine we_lft pSub_ii ?_ | with_reducible refine we_lft pLt_ii ?_ | with_reducible refine we_lft pLe_ii ?_ | with_reducible refine we_lft pGt_ii ?_ | with_reducible refine we_lft pGe_ii ?_ | with_reducible refine we_lft pEq_ii ?_ | with_reducible refine we_lft pNe_ii ?_ | with_reducible refine we_lft len_lI ?_ | with_reducible refine we_lft len_tI ?_ | with_reducible refine we_lft len_rL ?_ | with_reducible refine we_lft len_rT ?_ | with_reducible refine we_lft len_lo ?_ | with_reducible refine we_lft pLen_lst ?_ | with_reducible refine we_lft pLen_tup ?_ | with_reducible refine we_lft pInt_i ?_ | with_reducible refine we_lft pInt_b ?_ | with_reducible refine we_lft all_ok ?_ | with_reducible refine we_lft any_ok ?_ | with_reducible refine we_lft sum_lI ?_ | with_reducible refine we_dT ?_ | with_reducible refine we_lft neg_i ?_ | with_reducible refine x_int ?_ | with_reducible refine len_nil2 ?_ | ((with_reducible refine len_isl ?_); refine len_lit rfl ?_))
local macro_rules | `(tactic| walk_at "wsa") => `(tactic| (with_reducible refine ws_seq ?_; with_reducible refine ws_asg ?_))
local macro_rules | `(tactic| walk_at "wsi") => `(tactic| (with_reducible refine ws_seq ?_; with_reducible refine ws_if ?_))
local macro_rules | `(tactic| walk_at "wsf") => `(tactic| (with_reducible refine ws_seq ?_; with_reducible refine ws_for ?_))
local macro_rules | `(tactic| walk_at "wsn") => `(tactic| with_reducible refine ws_next ?_)
local macro_rules | `(tactic| walk_at "wpe") => `(tactic| repeat (first | walk_at "wp1e" | walk_at "wp2" | walk_at "wpx"))
local macro_rules | `(tactic| walk_at "wps") => `(tactic| repeat (first | walk_at "wp1" | walk_at "wp2" | walk_at "wpx"))
def pD (p : Int × Int) : D := .tup [.int p.1, .int p.2]
def strR (w : Nat) (p : Int × Int) : List Int := (rng w).map fun k => if (decide (p.1 ≤ k) && decide (k ≤ p.2)) = true then 1 else 0
def strRs (w : Nat) (ps : List (Int × Int)) : Rw := ps.map (strR w)
def OkP (w : Nat) (p : Int × Int) : Prop := 0 ≤ p.1 ∧ p.1 ≤ p.2 ∧ p.2 < w
section
variable {cal : Nat → List D → M D} {S : Store} {w : Nat}
end
end Xr
namespace Xr
open PySem L2 Ev Bd Sp Rg Wp Ty Xm
local macro_rules | `(tactic| walk_at "wp1e") => `(tactic| first | with_reducible refine we_c ?_ | with_reducible refine we_op ?_ | with_reducible refine we_un ?_ | with_reducible refine we_callV ?_ | with_reducible refine we_cons ?_ | with_reducible refine we_nil ?_ | with_reducible refine we_asB ?_ | with_reducible refine we_tru ?_ | with_reducible refine we_and ?_ | with_reducible refine we_or ?_ | with_reducible refine we_not ?_ | with_reducible refine we_if ?_ | with_reducible refine wt_and ?_ | with_reducible refine wt_or ?_ | with_reducible refine wt_not ?_ | with_reducible refine wt_yes ?_ | with_reducible refine we_chain ?_ | with_reducible refine we_fld ?_ | with_reducible refine we_isi ?_ | with_reducible refine we_mb ?_ | with_reducible refine we_frz ?_ | with_reducible refine we_cut ?_ | with_reducible refine we_oN ?_ | with_reducible refine we_oS ?_ | with_reducible refine we_any ?_ | with_reducible refine we_star ?_ | with_reducible refine we_lc ?_ | with_reducible refine we_R1 ?_ | with_reducible refine we_R2 ?_ | with_reducible refine we_rg ?_ | with_reducible refine we_enu ?_ | with_reducible refine we_zip ?_ | with_reducible refine we_tup ?_ | with_reducible refine we_lst ?_ | with_reducible refine we_lstC ?_ | with_reducible refine we_cal ?_ | with_reducible refine wg_nm ?_ | with_reducible refine wg_nl ?_ | with_reducible refine wg_cs ?_ | ((with_reducible refine wg_istp ?_); refine wg_tp rfl ?_) | with_reducible refine wg_sb ?_)
local macro_rules | `(tactic| walk_at "wp1s") => `(tactic| first | with_reducible refine ws_seq ?_ | with_reducible refine ws_next ?_ | with_reducible refine ws_cnt ?_ | with_reducible refine ws_brk ?_ | with_reducible refine ws_retN ?_ | with_reducible refine ws_ret ?_ | with_reducible refine ws_expr ?_ | with_reducible refine ws_if ?_ | with_reducible refine ws_asg ?_ | with_reducible refine ws_par2 ?_ | with_reducible refine ws_par3 ?_ | with_reducible refine ws_for ?_)
local macro_rules | `(tactic| walk_at "wp1") => `(tactic| first | walk_at "wp1e" | walk_at "wp1s")
local macro_rules | `(tactic| walk_at "noslf") => `(tactic| first | (intro h; cases h; done) | assumption | nofun)
local macro_rules | `(tactic| walk_at "wp2") => `(tactic| first | ((with_reducible refine we_isv ?_); refine we_var rfl (by walk_at "noslf") ?_) | with_reducible refine br_t ?_ | with_reducible refine br_f ?_ | refine ⟨_, rfl, br_t ?_⟩ | refine ⟨_, rfl, br_f ?_⟩)
local macro_rules | `(tactic| walk_at "wpx") => `(tactic| first | with_reducible refine x_bl ?_ | with_reducible refine t_bl ?_ | with_reducible refine t_lst ?_ | with_reducible refine t_tup ?_ | with_reducible refine t_int ?_ | with_reducible refine t_non ?_ | with_reducible refine a_lst ?_ | with_reducible refine a_tup ?_ | with_reducible refine s_lst ?_ | with_reducible refine s_tup ?_ | with_reducible refine br_not ?_ | with_reducible refine we_lft pAdd_ii ?_ | with_reducible refine we_lft pSub_ii ?_ | with_reducible refine we_lft pLt_ii ?_ | with_reducible refine we_lft pLe_ii ?_ | with_reducible refine we_lft pGt_ii ?_ | with_reducible refine we_lft pGe_ii ?_ | with_reducible refine we_lft pEq_ii ?_ | with_reducible refine we_lft pNe_ii ?_ | with_reducible refine we_lft len_lI ?_ | with_reducible refine we_lft len_tI ?_ | with_reducible refine we_lft len_rL ?_ | with_reducible refine we_lft len_rT ?_ | with_reducible refine we_lft len_lo ?_ | with_reducible refine we_lft pLen_lst ?_ | with_reducible refine we_lft pLen_tup ?_ | with_reducible refine we_lft pInt_i ?_ | with_reducible refine we_lft pInt_b ?_ | with_reducible refine we_lft all_ok ?_ | with_reducible refine we_lft any_ok ?_ | with_reducible refine we_lft sum_lI ?_ | with_reducible refine we_dT ?_ | with_reducible refine we_lft neg_i ?_ | with_reducible refine x_int ?_ | with_reducible refine len_nil2 ?_ | ((with_reducible refine len_isl ?_); refine len_lit rfl ?_))
local macro_rules | `(tactic| walk_at "wsa") => `(tactic| (with_reducible refine ws_seq ?_; with_reducible refine ws_asg ?_))
local macro_rules | `(tactic| walk_at "wsi") => `(tactic| (with_reducible refine ws_seq ?_; with_reducible refine ws_if ?_))
local macro_rules | `(tactic| walk_at "wsf") => `(tactic| (with_reducible refine ws_seq ?_; with_reducible refine ws_for ?_))
local macro_rules | `(tactic| walk_at "wsn") => `(tactic| with_reducible refine ws_next ?_)
local macro_rules | `(tactic| walk_at "wpe") => `(tactic| repeat (first | walk_at "wp1e" | walk_at "wp2" | walk_at "wpx"))
local macro_rules | `(tactic| walk_at "wps") => `(tactic| repeat (first | walk_at "wp1" | walk_at "wp2" | walk_at "wpx"))
structure C10 (L : Store) (cal : Nat → List D → M D) : Prop where
  take : Tl.TakF L (cal 3)
  text : ∀ h w R S, Full h w R → cal 2 [rowsL R] S = .ok (.str (txt R)) S
  full : ∀ h w R S, Grd h w R → cal 172 [rowsL R] S = .ok (.bl (fullB w R)) S
  ofs : ∀ w (ps : List (Int × Int)) S, 0 < w → w ≤ 8 → 0 < ps.length → ps.length ≤ 8 → (∀ p ∈ ps, OkP w p) → cal 219 [.int w, .tup (ps.map pD)] S = outR (outE (fullB w (strRs w ps)) (tabD ps.length w (strRs w ps))) S
  str : ∀ h w R S, cal 6 [tabD h w R] S = .ok (.str (txt R)) S
theorem strI_ev {cal : Nat → List D → M D} {h w : Nat} {R : Rw} {S : Store} (e : cal 6 [tabD h w R] S = .ok (.str (txt R)) S) : pStrI (strT cal) [tabD h w R] S = some (.str (txt R), S) := by
  obtain ⟨fs, q2⟩ : ∃ fs, clsOf S (tabD h w R) = some (("Table" : Str), fs) := ⟨_, rfl⟩
  have q1 : strT cal ("Table" : Str) = some (cal 6) := by simp [strT]
  simp only [pStrI, q2, q1, e]
end Xr
namespace Xr
open PySem L2 Ev Bd Sp Rg Wp Ty Xm
local macro_rules | `(tactic| walk_at "wp1e") => `(tactic| first | with_reducible refine we_c ?_ | with_reducible refine we_op ?_ | with_reducible refine we_un ?_ | with_reducible refine we_callV ?_ | with_reducible refine we_cons ?_ | with_reducible refine we_nil ?_ | with_reducible refine we_asB ?_ | with_reducible refine we_tru ?_ | with_reducible refine we_and ?_ | with_reducible refine we_or ?_ | with_reducible refine we_not ?_ | with_reducible refine we_if ?_ | with_reducible refine wt_and ?_ | with_reducible refine wt_or ?_ | with_reducible refine wt_not ?_ | with_reducible refine wt_yes ?_ | with_reducible refine we_chain ?_ | with_reducible refine we_fld ?_ | with_reducible refine we_isi ?_ | with_reducible refine we_mb ?_ | with_reducible refine we_frz ?_ | with_reducible refine we_cut ?_ | with_reducible refine we_oN ?_ | with_reducible refine we_oS ?_ | with_reducible refine we_any ?_ | with_reducible refine we_star ?_ | with_reducible refine we_lc ?_ | with_reducible refine we_R1 ?_ | with_reducible refine we_R2 ?_ | with_reducible refine we_rg ?_ | with_reducible refine we_enu ?_ | with_reducible refine we_zip ?_ | with_reducible refine we_tup ?_ | with_reducible refine we_lst ?_ | with_reducible refine we_lstC ?_ | with_reducible refine we_cal ?_ | with_reducible refine wg_nm ?_ | with_reducible refine wg_nl ?_ | with_reducible refine wg_cs ?_ | ((with_reducible refine wg_istp ?_); refine wg_tp rfl ?_) | with_reducible refine wg_sb ?_)
local macro_rules | `(tactic| walk_at "wp1s") => `(tactic| first | with_reducible refine ws_seq ?_ | with_reducible refine ws_next ?_ | with_reducible refine ws_cnt ?_ | with_reducible refine ws_brk ?_ | with_reducible refine ws_retN ?_ | with_reducible refine ws_ret ?_ | with_reducible refine ws_expr ?_ | with_reducible refine ws_if ?_ | with_reducible refine ws_asg ?_ | with_reducible refine ws_par2 ?_ | with_reducible refine ws_par3 ?_ | with_reducible refine ws_for ?_)
local macro_rules | `(tactic| walk_at "wp1") => `(tactic| first | walk_at "wp1e" | walk_at "wp1s")
local macro_rules | `(tactic| walk_at "noslf") => `(tactic| first | (intro h; cases h; done) | assumption | nofun)
local macro_rules | `(tactic| walk_at "wp2") => `(tactic| first | ((with_reducible refine we_isv ?_); refine we_var rfl (by walk_at "noslf") ?_) | with_reducible refine br_t ?_ | with_reducible refine br_f ?_ | refine ⟨_, rfl, br_t ?_⟩ | refine ⟨_, rfl, br_f ?_⟩)
local macro_rules | `(tactic| walk_at "wpx") => `(tactic| first | with_reducible refine x_bl ?_ | with_reducible refine t_bl ?_ | with_reducible refine t_lst ?_ | with_reducible refine t_tup ?_ | with_reducible refine t_int ?_ | with_reducible refine t_non ?_ | with_reducible refine a_lst ?_ | with_reducible refine a_tup ?_ | with_reducible refine s_lst ?_ | with_reducible refine s_tup ?_ | with_reducible refine br_not ?_ | with_reducible refine we_lft pAdd_ii ?_ | with_reducible refine we_lft pSub_ii ?_ | with_reducible refine we_lft pLt_ii ?_ | with_reducible refine we_lft pLe_ii ?_ | with_reducible refine we_lft pGt_ii ?_ | with_reducible refine we_lft pGe_ii ?_ | with_reducible refine we_lft pEq_ii ?_ | with_reducible refine we_lft pNe_ii ?_ | with_reducible refine we_lft len_lI ?_ | with_reducible refine we_lft len_tI ?_ | with_reducible refine we_lft len_rL ?_ | with_reducible refine we_lft len_rT ?_ | with_reducible refine we_lft len_lo ?_ | with_reducible refine we_lft pLen_lst ?_ | with_reducible refine we_lft pLen_tup ?_ | with_reducible refine we_lft pInt_i ?_ | with_reducible refine we_lft pInt_b ?_ | with_reducible refine we_lft all_ok ?_ | with_reducible refine we_lft any_ok ?_ | with_reducible refine we_lft sum_lI ?_ | with_reducible refine we_dT ?_ | with_reducible refine we_lft neg_i ?_ | with_reducible refine x_int ?_ | with_reducible refine len_nil2 ?_ | ((with_reducible refine len_isl ?_); refine len_lit rfl ?_))
local macro_rules | `(tactic| walk_at "wsa") => `(tactic| (with_reducible refine ws_seq ?_; with_reducible refine ws_asg ?_))
local macro_rules | `(tactic| walk_at "wsi") => `(tactic| (with_reducible refine ws_seq ?_; with_reducible refine ws_if ?_))
local macro_rules | `(tactic| walk_at "wsf") => `(tactic| (with_reducible refine ws_seq ?_; with_reducible refine ws_for ?_))
local macro_rules | `(tactic| walk_at "wsn") => `(tactic| with_reducible refine ws_next ?_)
local macro_rules | `(tactic| walk_at "wpe") => `(tactic| repeat (first | walk_at "wp1e" | walk_at "wp2" | walk_at "wpx"))
local macro_rules | `(tactic| walk_at "wps") => `(tactic| repeat (first | walk_at "wp1" | walk_at "wp2" | walk_at "wpx"))
/-- no stretch -/
inductive BS (S : Store) (w : Nat) : D → Prop
  | ty {v : D} (T : String) (h : tyOf S v = some (.blt T)) (hT : T = "NoneType" ∨ T = "int" ∨ T = "str" ∨ T = "list" ∨ T = "dict") (hs : v ≠ .slf) : BS S w v
  | len (xs : List D) (h : xs.length ≠ 2) (hl : xs.length ≤ 1000) : BS S w (.tup xs)
  | ends (x y : D) (hx : x ≠ .slf) (hy : y ≠ .slf) (cx cy : Bool) (h1 : ∀ cal : Nat → List D → M D, (∀ v S, OV S 0 ((w : Int) - 1) v → cal 41 [v, .int 0, .int ((w : Int) - 1)] S = .ok (.bl false) S) → (∀ i S, cal 41 [.int i, .int 0, .int ((w : Int) - 1)] S = .ok (.bl (decide (0 ≤ i) && decide (i ≤ (w : Int) - 1))) S) → ∀ S, cal 41 [x, .int 0, .int ((w : Int) - 1)] S = .ok (.bl cx) S ∧ cal 41 [y, .int 0, .int ((w : Int) - 1)] S = .ok (.bl cy) S) (hc : (cx && cy) = false) : BS S w (.tup [x, y])
  | rev (a b : Int) (ha : 0 ≤ a ∧ a ≤ (w : Int) - 1) (hb : 0 ≤ b ∧ b ≤ (w : Int) - 1) (h : b < a) : BS S w (.tup [.int a, .int b])
theorem BS.ns {S : Store} {w : Nat} {v : D} (h : BS S w v) : v ≠ .slf := by
  cases h with
  | ty T h hT hs => exact hs
  | len xs _ _ => nofun
  | ends => nofun
  | rev => nofun
section
variable {cal : Nat → List D → M D} {S : Store} {w : Nat} {v : D}
end
end Xr
namespace Bd
open PySem L2 Ev Xm
end Bd
namespace Xr
open PySem L2 Ev Bd Sp Rg Wp Ty Xm
section
variable {cal : Nat → List D → M D} {S : Store} {w : Nat}
end
end Xr
namespace Xr
open PySem L2 Ev Bd Sp Rg Wp Ty Xm
local macro_rules | `(tactic| walk_at "wp1e") => `(tactic| first | with_reducible refine we_c ?_ | with_reducible refine we_op ?_ | with_reducible refine we_un ?_ | with_reducible refine we_callV ?_ | with_reducible refine we_cons ?_ | with_reducible refine we_nil ?_ | with_reducible refine we_asB ?_ | with_reducible refine we_tru ?_ | with_reducible refine we_and ?_ | with_reducible refine we_or ?_ | with_reducible refine we_not ?_ | with_reducible refine we_if ?_ | with_reducible refine wt_and ?_ | with_reducible refine wt_or ?_ | with_reducible refine wt_not ?_ | with_reducible refine wt_yes ?_ | with_reducible refine we_chain ?_ | with_reducible refine we_fld ?_ | with_reducible refine we_isi ?_ | with_reducible refine we_mb ?_ | with_reducible refine we_frz ?_ | with_reducible refine we_cut ?_ | with_reducible refine we_oN ?_ | with_reducible refine we_oS ?_ | with_reducible refine we_any ?_ | with_reducible refine we_star ?_ | with_reducible refine we_lc ?_ | with_reducible refine we_R1 ?_ | with_reducible refine we_R2 ?_ | with_reducible refine we_rg ?_ | with_reducible refine we_enu ?_ | with_reducible refine we_zip ?_ | with_reducible refine we_tup ?_ | with_reducible refine we_lst ?_ | with_reducible refine we_lstC ?_ | with_reducible refine we_cal ?_ | with_reducible refine wg_nm ?_ | with_reducible refine wg_nl ?_ | with_reducible refine wg_cs ?_ | ((with_reducible refine wg_istp ?_); refine wg_tp rfl ?_) | with_reducible refine wg_sb ?_)
local macro_rules | `(tactic| walk_at "wp1s") => `(tactic| first | with_reducible refine ws_seq ?_ | with_reducible refine ws_next ?_ | with_reducible refine ws_cnt ?_ | with_reducible refine ws_brk ?_ | with_reducible refine ws_retN ?_ | with_reducible refine ws_ret ?_ | with_reducible refine ws_expr ?_ | with_reducible refine ws_if ?_ | with_reducible refine ws_asg ?_ | with_reducible refine ws_par2 ?_ | with_reducible refine ws_par3 ?_ | with_reducible refine ws_for ?_)
local macro_rules | `(tactic| walk_at "wp1") => `(tactic| first | walk_at "wp1e" | walk_at "wp1s")
local macro_rules | `(tactic| walk_at "noslf") => `(tactic| first | (intro h; cases h; done) | assumption | nofun)
local macro_rules | `(tactic| walk_at "wp2") => `(tactic| first | ((with_reducible refine we_isv ?_); refine we_var rfl (by walk_at "noslf") ?_) | with_reducible refine br_t ?_ | with_reducible refine br_f ?_ | refine ⟨_, rfl, br_t ?_⟩ | refine ⟨_, rfl, br_f ?_⟩)
local macro_rules | `(tactic| walk_at "wpx") => `(tactic| first | with_reducible refine x_bl ?_ | with_reducible refine t_bl ?_ | with_reducible refine t_lst ?_ | with_reducible refine t_tup ?_ | with_reducible refine t_int ?_ | with_reducible refine t_non ?_ | with_reducible refine a_lst ?_ | with_reducible refine a_tup ?_ | with_reducible refine s_lst ?_ | with_reducible refine s_tup ?_ | with_reducible refine br_not ?_ | with_reducible refine we_lft pAdd_ii ?_ | with_reducible refine we_lft pSub_ii ?_ | with_reducible refine we_lft pLt_ii ?_ | with_reducible refine we_lft pLe_ii ?_ | with_reducible refine we_lft pGt_ii ?_ | with_reducible refine we_lft pGe_ii ?_ | with_reducible refine we_lft pEq_ii ?_ | with_reducible refine we_lft pNe_ii ?_ | with_reducible refine we_lft len_lI ?_ | with_reducible refine we_lft len_tI ?_ | with_reducible refine we_lft len_rL ?_ | with_reducible refine we_lft len_rT ?_ | with_reducible refine we_lft len_lo ?_ | with_reducible refine we_lft pLen_lst ?_ | with_reducible refine we_lft pLen_tup ?_ | with_reducible refine we_lft pInt_i ?_ | with_reducible refine we_lft pInt_b ?_ | with_reducible refine we_lft all_ok ?_ | with_reducible refine we_lft any_ok ?_ | with_reducible refine we_lft sum_lI ?_ | with_reducible refine we_dT ?_ | with_reducible refine we_lft neg_i ?_ | with_reducible refine x_int ?_ | with_reducible refine len_nil2 ?_ | ((with_reducible refine len_isl ?_); refine len_lit rfl ?_))
local macro_rules | `(tactic| walk_at "wsa") => `(tactic| (with_reducible refine ws_seq ?_; with_reducible refine ws_asg ?_))
local macro_rules | `(tactic| walk_at "wsi") => `(tactic| (with_reducible refine ws_seq ?_; with_reducible refine ws_if ?_))
local macro_rules | `(tactic| walk_at "wsf") => `(tactic| (with_reducible refine ws_seq ?_; with_reducible refine ws_for ?_))
local macro_rules | `(tactic| walk_at "wsn") => `(tactic| with_reducible refine ws_next ?_)
local macro_rules | `(tactic| walk_at "wpe") => `(tactic| repeat (first | walk_at "wp1e" | walk_at "wp2" | walk_at "wpx"))
local macro_rules | `(tactic| walk_at "wps") => `(tactic| repeat (first | walk_at "wp1" | walk_at "wp2" | walk_at "wpx"))
section
variable {cal : Nat → List D → M D} {S : Store} {w : Nat}
theorem ov_dic {a b : Int} {n : Nat} (h : S[n]? = some (some (.dT []))) : OV S a b (.ref n) := .oth "dict" (by simp [tyOf, h]) (.inr (.inr (.inr (.inl rfl)))) nofun
end
theorem we_takeF {L : Store} {dr : List D → M D} (hd : Tl.TakF L dr) {t : Nat} {S : Store} {m : Int} {Q : D → Store → Prop} (h : Tl.Tr L t S) (h0 : 0 < m) (h1 : m < 1073741824) (k : ∀ (f : Nat) S', (f : Int) < m → Tl.Tr L t S' → Fr t S S' → Q (.int f) S') : WE (dr [.ref t, .int m]) S Q := by
  obtain ⟨f, x, e, hf, q⟩ := hd.tr h h0 h1
  exact ⟨_, _, e, k f _ hf q Fr.own⟩
end Xr
namespace Xr
open PySem L2 Ev Bd Sp Rg Wp Ty Xm
local macro_rules | `(tactic| walk_at "wp1e") => `(tactic| first | with_reducible refine we_c ?_ | with_reducible refine we_op ?_ | with_reducible refine we_un ?_ | with_reducible refine we_callV ?_ | with_reducible refine we_cons ?_ | with_reducible refine we_nil ?_ | with_reducible refine we_asB ?_ | with_reducible refine we_tru ?_ | with_reducible refine we_and ?_ | with_reducible refine we_or ?_ | with_reducible refine we_not ?_ | with_reducible refine we_if ?_ | with_reducible refine wt_and ?_ | with_reducible refine wt_or ?_ | with_reducible refine wt_not ?_ | with_reducible refine wt_yes ?_ | with_reducible refine we_chain ?_ | with_reducible refine we_fld ?_ | with_reducible refine we_isi ?_ | with_reducible refine we_mb ?_ | with_reducible refine we_frz ?_ | with_reducible refine we_cut ?_ | with_reducible refine we_oN ?_ | with_reducible refine we_oS ?_ | with_reducible refine we_any ?_ | with_reducible refine we_star ?_ | with_reducible refine we_lc ?_ | with_reducible refine we_R1 ?_ | with_reducible refine we_R2 ?_ | with_reducible refine we_rg ?_ | with_reducible refine we_enu ?_ | with_reducible refine we_zip ?_ | with_reducible refine we_tup ?_ | with_reducible refine we_lst ?_ | with_reducible refine we_lstC ?_ | with_reducible refine we_cal ?_ | with_reducible refine wg_nm ?_ | with_reducible refine wg_nl ?_ | with_reducible refine wg_cs ?_ | ((with_reducible refine wg_istp ?_); refine wg_tp rfl ?_) | with_reducible refine wg_sb ?_)
local macro_rules | `(tactic| walk_at "wp1s") => `(tactic| first | with_reducible refine ws_seq ?_ | with_reducible refine ws_next ?_ | with_reducible refine ws_cnt ?_ | with_reducible refine ws_brk ?_ | with_reducible refine ws_retN ?_ | with_reducible refine ws_ret ?_ | with_reducible refine ws_expr ?_ | with_reducible refine ws_if ?_ | with_reducible refine ws_asg ?_ | with_reducible refine ws_par2 ?_ | with_reducible refine ws_par3 ?_ | with_reducible refine ws_for ?_)
local macro_rules | `(tactic| walk_at "wp1") => `(tactic| first | walk_at "wp1e" | walk_at "wp1s")
local macro_rules | `(tactic| walk_at "noslf") => `(tactic| first | (intro h; cases h; done) | assumption | nofun)
local macro_rules | `(tactic| walk_at "wp2") => `(tactic| first | ((with_reducible refine we_isv ?_); refine we_var rfl (by walk_at "noslf") ?_) | with_reducible refine br_t ?_ | with_reducible refine br_f ?_ | refine ⟨_, rfl, br_t ?_⟩ | refine ⟨_, rfl, br_f ?_⟩)
local macro_rules | `(tactic| walk_at "wpx") => `(tactic| first | with_reducible refine x_bl ?_ | with_reducible refine t_bl ?_ | with_reducible refine t_lst ?_ | with_reducible refine t_tup ?_ | with_reducible refine t_int ?_ | with_reducible refine t_non ?_ | with_reducible refine a_lst ?_ | with_reducible refine a_tup ?_ | with_reducible refine s_lst ?_ | with_reducible refine s_tup ?_ | with_reducible refine br_not ?_ | with_reducible refine we_lft pAdd_ii ?_ | with_reducible refine we_lft pSub_ii ?_ | with_reducible refine we_lft pLt_ii ?_ | with_reducible refine we_lft pLe_ii ?_ | with_reducible refine we_lft pGt_ii ?_ | with_reducible refine we_lft pGe_ii ?_ | with_reducible refine we_lft pEq_ii ?_ | with_reducible refine we_lft pNe_ii ?_ | with_reducible refine we_lft len_lI ?_ | with_reducible refine we_lft len_tI ?_ | with_reducible refine we_lft len_rL ?_ | with_reducible refine we_lft len_rT ?_ | with_reducible refine we_lft len_lo ?_ | with_reducible refine we_lft pLen_lst ?_ | with_reducible refine we_lft pLen_tup ?_ | with_reducible refine we_lft pInt_i ?_ | with_reducible refine we_lft pInt_b ?_ | with_reducible refine we_lft all_ok ?_ | with_reducible refine we_lft any_ok ?_ | with_reducible refine we_lft sum_lI ?_ | with_reducible refine we_dT ?_ | with_reducible refine we_lft neg_i ?_ | with_reducible refine x_int ?_ | with_reducible refine len_nil2 ?_ | ((with_reducible refine len_isl ?_); refine len_lit rfl ?_))
local macro_rules | `(tactic| walk_at "wsa") => `(tactic| (with_reducible refine ws_seq ?_; with_reducible refine ws_asg ?_))
local macro_rules | `(tactic| walk_at "wsi") => `(tactic| (with_reducible refine ws_seq ?_; with_reducible refine ws_if ?_))
local macro_rules | `(tactic| walk_at "wsf") => `(tactic| (with_reducible refine ws_seq ?_; with_reducible refine ws_for ?_))
local macro_rules | `(tactic| walk_at "wsn") => `(tactic| with_reducible refine ws_next ?_)
local macro_rules | `(tactic| walk_at "wpe") => `(tactic| repeat (first | walk_at "wp1e" | walk_at "wp2" | walk_at "wpx"))
local macro_rules | `(tactic| walk_at "wps") => `(tactic| repeat (first | walk_at "wp1" | walk_at "wp2" | walk_at "wpx"))
/-- refused as stretches, at a place -/
inductive BZ (S : Store) (w : Nat) : D → D → Prop
  | ty {v : D} (T : String) (h : tyOf S v = some (.blt T)) (hT : T = "NoneType" ∨ T = "int" ∨ T = "str" ∨ T = "list" ∨ T = "dict") (hs : v ≠ .slf) : BZ S w v .non
  | nil : BZ S w (.tup []) .non
  | at (gs : List (Int × Int)) (hg : ∀ p ∈ gs, OkP w p) (v : D) (ys : List D) (hl : gs.length ≤ 8) (hv : gs.length = 8 ∨ BS S w v) : BZ S w (.tup (gs.map pD ++ v :: ys)) (.int gs.length)
end Xr
namespace Xr
open PySem L2 Ev Bd Sp Rg Wp Ty Xm
theorem BZ.ns {S : Store} {w : Nat} {v q : D} (h : BZ S w v q) : v ≠ .slf ∧ q ≠ .slf := by
  cases h with
  | ty T h hT hs => exact ⟨hs, nofun⟩
  | nil => exact ⟨nofun, nofun⟩
  | «at» => exact ⟨nofun, nofun⟩
def oddP : List PyData := [.int 0, .int 9, .int (-1), .bool true, .none, .str "4", .tuple [.int 4], .list [], .dict [], .int (10 ^ 30)]
def atP : List PyData := .none :: (List.range 9).map fun k => .int (k : Nat)
def okP (p : PyData) : Bool := p.showable && (Nat.ble p.shown.length 1000000 && Nat.ble p.depth 60)
/-- an odd value, and what it is as data -/
def OddV (S : Store) (x : D) (p : PyData) : Prop := p ∈ oddP ∧ ((∃ n, x = .ref n ∧ S[n]? = some (some (.dT [])) ∧ p = .dict []) ∨ ∀ S, OV S 1 8 x ∧ toPX S x = some p)
theorem OddV.ov {S : Store} {x : D} {p : PyData} (h : OddV S x p) : OV S 1 8 x ∧ toPX S x = some p := by
  rcases h.2 with ⟨n, rfl, hn, rfl⟩ | h
  · exact ⟨ov_dic hn, by simp [toPX, hn]⟩
  · exact h S
theorem OddV.fr {S S' : Store} {L : Store} {t : Nat} {x : D} {p : PyData} (h : OddV S x p) (a : Tl.Tr L t S) (k : Fr t S S') : OddV S' x p := by
  refine ⟨h.1, ?_⟩
  rcases h.2 with ⟨n, rfl, hn, rfl⟩ | h
  · refine .inl ⟨n, rfl, ?_, rfl⟩
    have hnt : n ≠ t := fun e => by
      subst e
      obtain ⟨⟨x1, y1, z1, h1, _⟩, _⟩ := a
      rw [hn] at h1
      cases h1
    rw [k.2 n (List.getElem?_eq_some_iff.mp hn).1 hnt]
    exact hn
  · exact .inr h
/-- where, as data -/
theorem BZ.at_ {S : Store} {w : Nat} {v q : D} (h : BZ S w v q) : ∃ p ∈ atP, ∀ S, toPX S q = some p := by
  cases h with
  | ty => exact ⟨.none, by simp [atP], fun _ => rfl⟩
  | nil => exact ⟨.none, by simp [atP], fun _ => rfl⟩
  | «at» gs hg v ys hl hv => exact ⟨.int gs.length, List.mem_cons_of_mem _ (List.mem_map.mpr ⟨gs.length, List.mem_range.mpr (by omega), rfl⟩), fun _ => rfl⟩
end Xr
namespace Pp
open PySem L2 Ev Bd Sp Wp Rg
local macro_rules | `(tactic| walk_at "wp1e") => `(tactic| first | with_reducible refine we_c ?_ | with_reducible refine we_op ?_ | with_reducible refine we_un ?_ | with_reducible refine we_callV ?_ | with_reducible refine we_cons ?_ | with_reducible refine we_nil ?_ | with_reducible refine we_asB ?_ | with_reducible refine we_tru ?_ | with_reducible refine we_and ?_ | with_reducible refine we_or ?_ | with_reducible refine we_not ?_ | with_reducible refine we_if ?_ | with_reducible refine wt_and ?_ | with_reducible refine wt_or ?_ | with_reducible refine wt_not ?_ | with_reducible refine wt_yes ?_ | with_reducible refine we_chain ?_ | with_reducible refine we_fld ?_ | with_reducible refine we_isi ?_ | with_reducible refine we_mb ?_ | with_reducible refine we_frz ?_ | with_reducible refine we_cut ?_ | with_reducible refine we_oN ?_ | with_reducible refine we_oS ?_ | with_reducible refine we_any ?_ | with_reducible refine we_star ?_ | with_reducible refine we_lc ?_ | with_reducible refine we_R1 ?_ | with_reducible refine we_R2 ?_ | with_reducible refine we_rg ?_ | with_reducible refine we_enu ?_ | with_reducible refine we_zip ?_ | with_reducible refine we_tup ?_ | with_reducible refine we_lst ?_ | with_reducible refine we_lstC ?_ | with_reducible refine we_cal ?_ | with_reducible refine wg_nm ?_ | with_reducible refine wg_nl ?_ | with_reducible refine wg_cs ?_ | ((with_reducible refine wg_istp ?_); refine wg_tp rfl ?_) | with_reducible refine wg_sb ?_)
local macro_rules | `(tactic| walk_at "wp1s") => `(tactic| first | with_reducible refine ws_seq ?_ | with_reducible refine ws_next ?_ | with_reducible refine ws_cnt ?_ | with_reducible refine ws_brk ?_ | with_reducible refine ws_retN ?_ | with_reducible refine ws_ret ?_ | with_reducible refine ws_expr ?_ | with_reducible refine ws_if ?_ | with_reducible refine ws_asg ?_ | with_reducible refine ws_par2 ?_ | with_reducible refine ws_par3 ?_ | with_reducible refine ws_for ?_)
local macro_rules | `(tactic| walk_at "wp1") => `(tactic| first | walk_at "wp1e" | walk_at "wp1s")
local macro_rules | `(tactic| walk_at "noslf") => `(tactic| first | (intro h; cases h; done) | assumption | nofun)
local macro_rules | `(tactic| walk_at "wp2") => `(tactic| first | ((with_reducible refine we_isv ?_); refine we_var rfl (by walk_at "noslf") ?_) | with_reducible refine br_t ?_ | with_reducible refine br_f ?_ | refine ⟨_, rfl, br_t ?_⟩ | refine ⟨_, rfl, br_f ?_⟩)
local macro_rules | `(tactic| walk_at "wpx") => `(tactic| first | with_reducible refine x_bl ?_ | with_reducible refine t_bl ?_ | with_reducible refine t_lst ?_ | with_reducible refine t_tup ?_ | with_reducible refine t_int ?_ | with_reducible refine t_non ?_ | with_reducible refine a_lst ?_ | with_reducible refine a_tup ?_ | with_reducible refine s_lst ?_ | with_reducible refine s_tup ?_ | with_reducible refine br_not ?_ | with_reducible refine we_lft pAdd_ii ?_ | with_reducible refine we_lft pSub_ii ?_ | with_reducible refine we_lft pLt_ii ?_ | with_reducible refine we_lft pLe_ii ?_ | with_reducible refine we_lft pGt_ii ?_ | with_reducible refine we_lft pGe_ii ?_ | with_reducible refine we_lft pEq_ii ?_ | with_reducible refine we_lft pNe_ii ?_ | with_reducible refine we_lft len_lI ?_ | with_reducible refine we_lft len_tI ?_ | with_reducible refine we_lft len_rL ?_ | with_reducible refine we_lft len_rT ?_ | with_reducible refine we_lft len_lo ?_ | with_reducible refine we_lft pLen_lst ?_ | with_reducible refine we_lft pLen_tup ?_ | with_reducible refine we_lft pInt_i ?_ | with_reducible refine we_lft pInt_b ?_ | with_reducible refine we_lft all_ok ?_ | with_reducible refine we_lft any_ok ?_ | with_reducible refine we_lft sum_lI ?_ | with_reducible refine we_dT ?_ | with_reducible refine we_lft neg_i ?_ | with_reducible refine x_int ?_ | with_reducible refine len_nil2 ?_ | ((with_reducible refine len_isl ?_); refine len_lit rfl ?_))
local macro_rules | `(tactic| walk_at "wsa") => `(tactic| (with_reducible refine ws_seq ?_; with_reducible refine ws_asg ?_))
local macro_rules | `(tactic| walk_at "wsi") => `(tactic| (with_reducible refine ws_seq ?_; with_reducible refine ws_if ?_))
local macro_rules | `(tactic| walk_at "wsf") => `(tactic| (with_reducible refine ws_seq ?_; with_reducible refine ws_for ?_))
local macro_rules | `(tactic| walk_at "wsn") => `(tactic| with_reducible refine ws_next ?_)
local macro_rules | `(tactic| walk_at "wpe") => `(tactic| repeat (first | walk_at "wp1e" | walk_at "wp2" | walk_at "wpx"))
local macro_rules | `(tactic| walk_at "wps") => `(tactic| repeat (first | walk_at "wp1" | walk_at "wp2" | walk_at "wpx"))
abbrev JB := Nat → List D → Prop
structure DrwB (J : JB) (dr : List D → M D) : Prop where
  mono : ∀ B B' c, B ≤ B' → J B c → J B' c
  go : ∀ (B t : Nat) (S : Store) (m : Int), At (J B) t S → B < 2 ^ 60 → 0 < m → m < 1073741824 → ∃ f S', dr [.ref t, .int m] S = .ok (.int f) S' ∧ 0 ≤ f ∧ f < m ∧ At (J (B + 1)) t S' ∧ Fr t S S' ∧ S'.length = S.length
section
variable {J : JB} {dr : List D → M D} {S S' : Store} {t B B' : Nat}
theorem DrwB.le (hd : DrwB J dr) (h : At (J B) t S) (hB : B ≤ B') : At (J B') t S := by
  obtain ⟨c, h1, h2⟩ := h
  exact ⟨c, h1, hd.mono _ _ _ hB h2⟩
/-- ints in a drawn order -/
structure MixB (J : JB) (f : List D → M D) : Prop where
  nums : ∀ (B t : Nat) (S : Store) (ns : List Int), At (J B) t S → B + ns.length < 2 ^ 60 → ns.length ≤ 1000 → ∃ ms S', f [.ref t, lI ns] S = .ok (lI ms) S' ∧ ms.Perm ns ∧ At (J (B + ns.length)) t S' ∧ Fr t S S'
  rws : ∀ (B t : Nat) (S : Store) (R : Rw), At (J B) t S → B + R.length < 2 ^ 60 → R.length ≤ 1000 → ∃ R' S', f [.ref t, rowsL R] S = .ok (rowsL R') S' ∧ R'.Perm R ∧ At (J (B + R.length)) t S' ∧ Fr t S S'
end
end Pp
namespace Pp
open PySem L2 Ev Bd Sp Wp Rg
section
variable {J : JB} {cal : Nat → List D → M D}
theorem Gr.le {dr : List D → M D} (hd : DrwB J dr) {B B' t s h w : Nat} {S0 S : Store} {R : Rw} (G : Gr (J B) t S0 s h w R S) (hB : B ≤ B') : Gr (J B') t S0 s h w R S := ⟨G.len, G.g, G.c, hd.le G.a hB, G.f⟩
end
end Pp
namespace Ba
open PySem PySem.W L2 Ev Bd Sp Rg
/-- just these two of the columns in a row -/
def Pair (h : Nat) (R : Rw) (L : List Int) (x y : Int) : Prop := x ≠ y ∧ ∃ i : Int, 0 ≤ i ∧ i < h ∧ bit R i x = true ∧ bit R i y = true ∧ ∀ z ∈ L, bit R i z = true → z = x ∨ z = y
theorem Pair.symm {h : Nat} {R : Rw} {L : List Int} {x y : Int} (p : Pair h R L x y) : Pair h R L y x := by
  obtain ⟨h1, i, h2, h3, h4, h5, h6⟩ := p
  exact ⟨h1.symm, i, h2, h3, h5, h4, fun z hz e => (h6 z hz e).symm⟩
end Ba
namespace Ba
open PySem PySem.W L2 Ev Bd Sp Rg
end Ba
namespace Ba
open PySem PySem.W L2 Ev Bd Sp Rg
/-- rows and columns of an odd ring, in their order -/
def OddPat (w : Nat) (R : Rw) : Prop := ∃ (n : Nat) (rr : Nat → List Int) (c : Nat → Nat), n % 2 = 1 ∧ 3 ≤ n ∧ (∀ t, t < n → rr t ∈ R ∧ c t < w) ∧ ∀ t, t < n → ∀ s, s < n → ((rr t).getD (c s) 0 = 1 ↔ s = t ∨ s = (t + 1) % n)
/-- columns for rows -/
def turnR (w : Nat) (R : Rw) : Rw := (List.range w).map fun k => R.map fun r => r.getD k 0
/-- one step up, as often as is said -/
def upN (up : Nat → Option Nat) : Nat → Nat → Option Nat
  | 0, x => some x
  | i + 1, x => (upN up i x).bind up
/-- a row that is a road upwards -/
def Chain (up : Nat → Option Nat) (r : List Int) : Prop := ∀ x y : Nat, r.getD x 0 = 1 → r.getD y 0 = 1 → y < x → ∃ i, upN up i x = some y ∧ ∀ j, j ≤ i → ∀ z, upN up j x = some z → r.getD z 0 = 1
end Ba
namespace Pp
open PySem L2 Ev Bd Sp Wp Rg
local macro_rules | `(tactic| walk_at "wp1e") => `(tactic| first | with_reducible refine we_c ?_ | with_reducible refine we_op ?_ | with_reducible refine we_un ?_ | with_reducible refine we_callV ?_ | with_reducible refine we_cons ?_ | with_reducible refine we_nil ?_ | with_reducible refine we_asB ?_ | with_reducible refine we_tru ?_ | with_reducible refine we_and ?_ | with_reducible refine we_or ?_ | with_reducible refine we_not ?_ | with_reducible refine we_if ?_ | with_reducible refine wt_and ?_ | with_reducible refine wt_or ?_ | with_reducible refine wt_not ?_ | with_reducible refine wt_yes ?_ | with_reducible refine we_chain ?_ | with_reducible refine we_fld ?_ | with_reducible refine we_isi ?_ | with_reducible refine we_mb ?_ | with_reducible refine we_frz ?_ | with_reducible refine we_cut ?_ | with_reducible refine we_oN ?_ | with_reducible refine we_oS ?_ | with_reducible refine we_any ?_ | with_reducible refine we_star ?_ | with_reducible refine we_lc ?_ | with_reducible refine we_R1 ?_ | with_reducible refine we_R2 ?_ | with_reducible refine we_rg ?_ | with_reducible refine we_enu ?_ | with_reducible refine we_zip ?_ | with_reducible refine we_tup ?_ | with_reducible refine we_lst ?_ | with_reducible refine we_lstC ?_ | with_reducible refine we_cal ?_ | with_reducible refine wg_nm ?_ | with_reducible refine wg_nl ?_ | with_reducible refine wg_cs ?_ | ((with_reducible refine wg_istp ?_); refine wg_tp rfl ?_) | with_reducible refine wg_sb ?_)
local macro_rules | `(tactic| walk_at "wp1s") => `(tactic| first | with_reducible refine ws_seq ?_ | with_reducible refine ws_next ?_ | with_reducible refine ws_cnt ?_ | with_reducible refine ws_brk ?_ | with_reducible refine ws_retN ?_ | with_reducible refine ws_ret ?_ | with_reducible refine ws_expr ?_ | with_reducible refine ws_if ?_ | with_reducible refine ws_asg ?_ | with_reducible refine ws_par2 ?_ | with_reducible refine ws_par3 ?_ | with_reducible refine ws_for ?_)
local macro_rules | `(tactic| walk_at "wp1") => `(tactic| first | walk_at "wp1e" | walk_at "wp1s")
local macro_rules | `(tactic| walk_at "noslf") => `(tactic| first | (intro h; cases h; done) | assumption | nofun)
local macro_rules | `(tactic| walk_at "wp2") => `(tactic| first | ((with_reducible refine we_isv ?_); refine we_var rfl (by walk_at "noslf") ?_) | with_reducible refine br_t ?_ | with_reducible refine br_f ?_ | refine ⟨_, rfl, br_t ?_⟩ | refine ⟨_, rfl, br_f ?_⟩)
local macro_rules | `(tactic| walk_at "wpx") => `(tactic| first | with_reducible refine x_bl ?_ | with_reducible refine t_bl ?_ | with_reducible refine t_lst ?_ | with_reducible refine t_tup ?_ | with_reducible refine t_int ?_ | with_reducible refine t_non ?_ | with_reducible refine a_lst ?_ | with_reducible refine a_tup ?_ | with_reducible refine s_lst ?_ | with_reducible refine s_tup ?_ | with_reducible refine br_not ?_ | with_reducible refine we_lft pAdd_ii ?_ | with_reducible refine we_lft pSub_ii ?_ | with_reducible refine we_lft pLt_ii ?_ | with_reducible refine we_lft pLe_ii ?_ | with_reducible refine we_lft pGt_ii ?_ | with_reducible refine we_lft pGe_ii ?_ | with_reducible refine we_lft pEq_ii ?_ | with_reducible refine we_lft pNe_ii ?_ | with_reducible refine we_lft len_lI ?_ | with_reducible refine we_lft len_tI ?_ | with_reducible refine we_lft len_rL ?_ | with_reducible refine we_lft len_rT ?_ | with_reducible refine we_lft len_lo ?_ | with_reducible refine we_lft pLen_lst ?_ | with_reducible refine we_lft pLen_tup ?_ | with_reducible refine we_lft pInt_i ?_ | with_reducible refine we_lft pInt_b ?_ | with_reducible refine we_lft all_ok ?_ | with_reducible refine we_lft any_ok ?_ | with_reducible refine we_lft sum_lI ?_ | with_reducible refine we_dT ?_ | with_reducible refine we_lft neg_i ?_ | with_reducible refine x_int ?_ | with_reducible refine len_nil2 ?_ | ((with_reducible refine len_isl ?_); refine len_lit rfl ?_))
local macro_rules | `(tactic| walk_at "wsa") => `(tactic| (with_reducible refine ws_seq ?_; with_reducible refine ws_asg ?_))
local macro_rules | `(tactic| walk_at "wsi") => `(tactic| (with_reducible refine ws_seq ?_; with_reducible refine ws_if ?_))
local macro_rules | `(tactic| walk_at "wsf") => `(tactic| (with_reducible refine ws_seq ?_; with_reducible refine ws_for ?_))
local macro_rules | `(tactic| walk_at "wsn") => `(tactic| with_reducible refine ws_next ?_)
local macro_rules | `(tactic| walk_at "wpe") => `(tactic| repeat (first | walk_at "wp1e" | walk_at "wp2" | walk_at "wpx"))
local macro_rules | `(tactic| walk_at "wps") => `(tactic| repeat (first | walk_at "wp1" | walk_at "wp2" | walk_at "wpx"))
section
variable {J : JB} {cal : Nat → List D → M D}
/-- rows of digits, each with a one -/
def RowG (w : Nat) (r : List Int) : Prop := r.length = w ∧ (∀ i ∈ r, i = 0 ∨ i = 1) ∧ (1 : Int) ∈ r
end
end Pp
namespace Pp
open PySem L2 Ev Bd Sp Wp Rg
local macro_rules | `(tactic| walk_at "wp1e") => `(tactic| first | with_reducible refine we_c ?_ | with_reducible refine we_op ?_ | with_reducible refine we_un ?_ | with_reducible refine we_callV ?_ | with_reducible refine we_cons ?_ | with_reducible refine we_nil ?_ | with_reducible refine we_asB ?_ | with_reducible refine we_tru ?_ | with_reducible refine we_and ?_ | with_reducible refine we_or ?_ | with_reducible refine we_not ?_ | with_reducible refine we_if ?_ | with_reducible refine wt_and ?_ | with_reducible refine wt_or ?_ | with_reducible refine wt_not ?_ | with_reducible refine wt_yes ?_ | with_reducible refine we_chain ?_ | with_reducible refine we_fld ?_ | with_reducible refine we_isi ?_ | with_reducible refine we_mb ?_ | with_reducible refine we_frz ?_ | with_reducible refine we_cut ?_ | with_reducible refine we_oN ?_ | with_reducible refine we_oS ?_ | with_reducible refine we_any ?_ | with_reducible refine we_star ?_ | with_reducible refine we_lc ?_ | with_reducible refine we_R1 ?_ | with_reducible refine we_R2 ?_ | with_reducible refine we_rg ?_ | with_reducible refine we_enu ?_ | with_reducible refine we_zip ?_ | with_reducible refine we_tup ?_ | with_reducible refine we_lst ?_ | with_reducible refine we_lstC ?_ | with_reducible refine we_cal ?_ | with_reducible refine wg_nm ?_ | with_reducible refine wg_nl ?_ | with_reducible refine wg_cs ?_ | ((with_reducible refine wg_istp ?_); refine wg_tp rfl ?_) | with_reducible refine wg_sb ?_)
local macro_rules | `(tactic| walk_at "wp1s") => `(tactic| first | with_reducible refine ws_seq ?_ | with_reducible refine ws_next ?_ | with_reducible refine ws_cnt ?_ | with_reducible refine ws_brk ?_ | with_reducible refine ws_retN ?_ | with_reducible refine ws_ret ?_ | with_reducible refine ws_expr ?_ | with_reducible refine ws_if ?_ | with_reducible refine ws_asg ?_ | with_reducible refine ws_par2 ?_ | with_reducible refine ws_par3 ?_ | with_reducible refine ws_for ?_)
local macro_rules | `(tactic| walk_at "wp1") => `(tactic| first | walk_at "wp1e" | walk_at "wp1s")
local macro_rules | `(tactic| walk_at "noslf") => `(tactic| first | (intro h; cases h; done) | assumption | nofun)
local macro_rules | `(tactic| walk_at "wp2") => `(tactic| first | ((with_reducible refine we_isv ?_); refine we_var rfl (by walk_at "noslf") ?_) | with_reducible refine br_t ?_ | with_reducible refine br_f ?_ | refine ⟨_, rfl, br_t ?_⟩ | refine ⟨_, rfl, br_f ?_⟩)
local macro_rules | `(tactic| walk_at "wpx") => `(tactic| first | with_reducible refine x_bl ?_ | with_reducible refine t_bl ?_ | with_reducible refine t_lst ?_ | with_reducible refine t_tup ?_ | with_reducible refine t_int ?_ | with_reducible refine t_non ?_ | with_reducible refine a_lst ?_ | with_reducible refine a_tup ?_ | with_reducible refine s_lst ?_ | with_reducible refine s_tup ?_ | with_reducible refine br_not ?_ | with_reducible refine we_lft pAdd_ii ?_ | with_reducible refine we_lft pSub_ii ?_ | with_reducible refine we_lft pLt_ii ?_ | with_reducible refine we_lft pLe_ii ?_ | with_reducible refine we_lft pGt_ii ?_ | with_reducible refine we_lft pGe_ii ?_ | with_reducible refine we_lft pEq_ii ?_ | with_reducible refine we_lft pNe_ii ?_ | with_reducible refine we_lft len_lI ?_ | with_reducible refine we_lft len_tI ?_ | with_reducible refine we_lft len_rL ?_ | with_reducible refine we_lft len_rT ?_ | with_reducible refine we_lft len_lo ?_ | with_reducible refine we_lft pLen_lst ?_ | with_reducible refine we_lft pLen_tup ?_ | with_reducible refine we_lft pInt_i ?_ | with_reducible refine we_lft pInt_b ?_ | with_reducible refine we_lft all_ok ?_ | with_reducible refine we_lft any_ok ?_ | with_reducible refine we_lft sum_lI ?_ | with_reducible refine we_dT ?_ | with_reducible refine we_lft neg_i ?_ | with_reducible refine x_int ?_ | with_reducible refine len_nil2 ?_ | ((with_reducible refine len_isl ?_); refine len_lit rfl ?_))
local macro_rules | `(tactic| walk_at "wsa") => `(tactic| (with_reducible refine ws_seq ?_; with_reducible refine ws_asg ?_))
local macro_rules | `(tactic| walk_at "wsi") => `(tactic| (with_reducible refine ws_seq ?_; with_reducible refine ws_if ?_))
local macro_rules | `(tactic| walk_at "wsf") => `(tactic| (with_reducible refine ws_seq ?_; with_reducible refine ws_for ?_))
local macro_rules | `(tactic| walk_at "wsn") => `(tactic| with_reducible refine ws_next ?_)
local macro_rules | `(tactic| walk_at "wpe") => `(tactic| repeat (first | walk_at "wp1e" | walk_at "wp2" | walk_at "wpx"))
local macro_rules | `(tactic| walk_at "wps") => `(tactic| repeat (first | walk_at "wp1" | walk_at "wp2" | walk_at "wpx"))
def upF (ab : List Int) (z : Nat) : Option Nat := if 0 ≤ ab.getD z 0 then some (ab.getD z 0).toNat else none
structure RoadI (ab dg : List Int) (a : Int) : Prop where
  c1 : Ba.Chain (upF ab) dg
  c2 : ∀ x : Nat, dg.getD x 0 = 1 → a < x ∧ ∃ i, (∀ j, j < i → ∃ z, Ba.upN (upF ab) j x = some z ∧ dg.getD z 0 = 1) ∧ Ba.upN (upF ab) i x = if 0 ≤ a then some a.toNat else none
theorem getD_set {l : List Int} {a x : Nat} (ha : a < l.length) : (l.set a 1).getD x 0 = 1 ↔ x = a ∨ l.getD x 0 = 1 := by
  rw [List.getD_eq_getElem?_getD, List.getD_eq_getElem?_getD]
  by_cases h : a = x
  · subst h
    rw [List.getElem?_set_self ha]
    simp
  · rw [List.getElem?_set_ne h]
    constructor
    · exact .inr
    · rintro (h' | h')
      · exact absurd h'.symm h
      · exact h'
theorem RoadI.step {ab dg : List Int} {a : Nat} (I : RoadI ab dg a) (ha : a < dg.length) (hup : ab.getD a 0 < a) : RoadI ab (dg.set a 1) (ab.getD a 0) := by
  have m := fun {x : Nat} => getD_set (l := dg) (x := x) ha
  have h0 : (if 0 ≤ (a : Int) then some (a : Int).toNat else none) = some a := by simp
  refine ⟨fun x y hx hy hyx => ?_, fun x hx => ?_⟩
  · rcases m.mp hx with ex | hx'
    · rcases m.mp hy with ey | hy'
      · omega
      · have := (I.c2 y hy').1; omega
    · rcases m.mp hy with ey | hy'
      · subst ey
        obtain ⟨_, i, h1, h2⟩ := I.c2 x hx'
        rw [h0] at h2
        refine ⟨i, h2, fun j hj z hz => ?_⟩
        by_cases hji : j < i
        · obtain ⟨z', e, hz'⟩ := h1 j hji
          rw [e] at hz
          cases hz
          exact m.mpr (.inr hz')
        · have : j = i := by omega
          subst this
          rw [h2] at hz
          cases hz
          exact m.mpr (.inl rfl)
      · obtain ⟨i, h1, h2⟩ := I.c1 x y hx' hy' hyx
        exact ⟨i, h1, fun j hj z hz => m.mpr (.inr (h2 j hj z hz))⟩
  · have hu : upF ab a = if 0 ≤ ab.getD a 0 then some (ab.getD a 0).toNat else none := rfl
    rcases m.mp hx with rfl | hx
    · refine ⟨hup, 1, fun j hj => ⟨x, by rw [show j = 0 by omega]; rfl, m.mpr (.inl rfl)⟩, ?_⟩
      show (some x).bind (upF ab) = _
      rw [Option.bind_some, hu]
    · obtain ⟨h3, i, h1, h2⟩ := I.c2 x hx
      rw [h0] at h2
      refine ⟨by omega, i + 1, fun j hj => ?_, ?_⟩
      · by_cases hji : j < i
        · obtain ⟨z', e, hz'⟩ := h1 j hji
          exact ⟨z', e, m.mpr (.inr hz')⟩
        · have : j = i := by omega
          subst this
          exact ⟨a, h2, m.mpr (.inl rfl)⟩
      · show (Ba.upN (upF ab) i x).bind (upF ab) = _
        rw [h2, Option.bind_some, hu]
theorem RoadI.zero {ab : List Int} {w : Nat} {a : Int} : RoadI ab (List.replicate w 0) a := by
  have hz : ∀ x : Nat, (List.replicate w (0 : Int)).getD x 0 ≠ 1 := fun x => by
    rw [List.getD_eq_getElem?_getD, List.getElem?_replicate]
    split <;> simp
  exact ⟨fun x y hx => absurd hx (hz x), fun x hx => absurd hx (hz x)⟩
section
variable {J : JB} {cal : Nat → List D → M D}
end
end Pp
namespace Pp
open PySem L2 Ev Bd Sp Wp Rg
local macro_rules | `(tactic| walk_at "wp1e") => `(tactic| first | with_reducible refine we_c ?_ | with_reducible refine we_op ?_ | with_reducible refine we_un ?_ | with_reducible refine we_callV ?_ | with_reducible refine we_cons ?_ | with_reducible refine we_nil ?_ | with_reducible refine we_asB ?_ | with_reducible refine we_tru ?_ | with_reducible refine we_and ?_ | with_reducible refine we_or ?_ | with_reducible refine we_not ?_ | with_reducible refine we_if ?_ | with_reducible refine wt_and ?_ | with_reducible refine wt_or ?_ | with_reducible refine wt_not ?_ | with_reducible refine wt_yes ?_ | with_reducible refine we_chain ?_ | with_reducible refine we_fld ?_ | with_reducible refine we_isi ?_ | with_reducible refine we_mb ?_ | with_reducible refine we_frz ?_ | with_reducible refine we_cut ?_ | with_reducible refine we_oN ?_ | with_reducible refine we_oS ?_ | with_reducible refine we_any ?_ | with_reducible refine we_star ?_ | with_reducible refine we_lc ?_ | with_reducible refine we_R1 ?_ | with_reducible refine we_R2 ?_ | with_reducible refine we_rg ?_ | with_reducible refine we_enu ?_ | with_reducible refine we_zip ?_ | with_reducible refine we_tup ?_ | with_reducible refine we_lst ?_ | with_reducible refine we_lstC ?_ | with_reducible refine we_cal ?_ | with_reducible refine wg_nm ?_ | with_reducible refine wg_nl ?_ | with_reducible refine wg_cs ?_ | ((with_reducible refine wg_istp ?_); refine wg_tp rfl ?_) | with_reducible refine wg_sb ?_)
local macro_rules | `(tactic| walk_at "wp1s") => `(tactic| first | with_reducible refine ws_seq ?_ | with_reducible refine ws_next ?_ | with_reducible refine ws_cnt ?_ | with_reducible refine ws_brk ?_ | with_reducible refine ws_retN ?_ | with_reducible refine ws_ret ?_ | with_reducible refine ws_expr ?_ | with_reducible refine ws_if ?_ | with_reducible refine ws_asg ?_ | with_reducible refine ws_par2 ?_ | with_reducible refine ws_par3 ?_ | with_reducible refine ws_for ?_)
local macro_rules | `(tactic| walk_at "wp1") => `(tactic| first | walk_at "wp1e" | walk_at "wp1s")
local macro_rules | `(tactic| walk_at "noslf") => `(tactic| first | (intro h; cases h; done) | assumption | nofun)
local macro_rules | `(tactic| walk_at "wp2") => `(tactic| first | ((with_reducible refine we_isv ?_); refine we_var rfl (by walk_at "noslf") ?_) | with_reducible refine br_t ?_ | with_reducible refine br_f ?_ | refine ⟨_, rfl, br_t ?_⟩ | refine ⟨_, rfl, br_f ?_⟩)
local macro_rules | `(tactic| walk_at "wpx") => `(tactic| first | with_reducible refine x_bl ?_ | with_reducible refine t_bl ?_ | with_reducible refine t_lst ?_ | with_reducible refine t_tup ?_ | with_reducible refine t_int ?_ | with_reducible refine t_non ?_ | with_reducible refine a_lst ?_ | with_reducible refine a_tup ?_ | with_reducible refine s_lst ?_ | with_reducible refine s_tup ?_ | with_reducible refine br_not ?_ | with_reducible refine we_lft pAdd_ii ?_ | with_reducible refine we_lft pSub_ii ?_ | with_reducible refine we_lft pLt_ii ?_ | with_reducible refine we_lft pLe_ii ?_ | with_reducible refine we_lft pGt_ii ?_ | with_reducible refine we_lft pGe_ii ?_ | with_reducible refine we_lft pEq_ii ?_ | with_reducible refine we_lft pNe_ii ?_ | with_reducible refine we_lft len_lI ?_ | with_reducible refine we_lft len_tI ?_ | with_reducible refine we_lft len_rL ?_ | with_reducible refine we_lft len_rT ?_ | with_reducible refine we_lft len_lo ?_ | with_reducible refine we_lft pLen_lst ?_ | with_reducible refine we_lft pLen_tup ?_ | with_reducible refine we_lft pInt_i ?_ | with_reducible refine we_lft pInt_b ?_ | with_reducible refine we_lft all_ok ?_ | with_reducible refine we_lft any_ok ?_ | with_reducible refine we_lft sum_lI ?_ | with_reducible refine we_dT ?_ | with_reducible refine we_lft neg_i ?_ | with_reducible refine x_int ?_ | with_reducible refine len_nil2 ?_ | ((with_reducible refine len_isl ?_); refine len_lit rfl ?_))
local macro_rules | `(tactic| walk_at "wsa") => `(tactic| (with_reducible refine ws_seq ?_; with_reducible refine ws_asg ?_))
local macro_rules | `(tactic| walk_at "wsi") => `(tactic| (with_reducible refine ws_seq ?_; with_reducible refine ws_if ?_))
local macro_rules | `(tactic| walk_at "wsf") => `(tactic| (with_reducible refine ws_seq ?_; with_reducible refine ws_for ?_))
local macro_rules | `(tactic| walk_at "wsn") => `(tactic| with_reducible refine ws_next ?_)
local macro_rules | `(tactic| walk_at "wpe") => `(tactic| repeat (first | walk_at "wp1e" | walk_at "wp2" | walk_at "wpx"))
local macro_rules | `(tactic| walk_at "wps") => `(tactic| repeat (first | walk_at "wp1" | walk_at "wp2" | walk_at "wpx"))
section
variable {J : JB} {cal : Nat → List D → M D} {S : Store} {Q : D → Store → Prop} {δ : En}
structure GridB (J : JB) (cal : Nat → List D → M D) : Prop where
  drip : DrwB J (cal 27)
  mix : MixB J (cal 37)
  web : ∀ {B t m w : Nat} {S : Store}, At (J B) t S → B + 30 < 2 ^ 60 → m ≤ 8 → 0 < w → w ≤ 8 → WE (cal 38 [.ref t, .int m, .int w]) S fun d S' => ∃ R, d = rowsL R ∧ R.length = m ∧ (∀ r ∈ R, RowG w r) ∧ ¬ Ba.OddPat w R ∧ At (J (B + 30)) t S' ∧ Fr t S S'
  roads : ∀ {B t m w : Nat} {S : Store}, At (J B) t S → B + 30 < 2 ^ 60 → m ≤ 8 → 0 < w → w ≤ 8 → WE (cal 39 [.ref t, .int m, .int w]) S fun d S' => ∃ R, d = rowsL R ∧ R.length = m ∧ (∀ r ∈ R, RowG w r) ∧ ¬ Ba.OddPat w R ∧ At (J (B + 30)) t S' ∧ Fr t S S'
  turn : ∀ (R : Rw) (w : Nat) S, R ≠ [] → R.length ≤ 1000 → (∀ r ∈ R, r.length = w) → w ≤ 1000 → cal 36 [rowsL R] S = .ok (rowsL (turn R w)) S
end
end Pp
namespace Pp
open PySem L2 Ev Bd Sp Wp Rg
local macro_rules | `(tactic| walk_at "wp1e") => `(tactic| first | with_reducible refine we_c ?_ | with_reducible refine we_op ?_ | with_reducible refine we_un ?_ | with_reducible refine we_callV ?_ | with_reducible refine we_cons ?_ | with_reducible refine we_nil ?_ | with_reducible refine we_asB ?_ | with_reducible refine we_tru ?_ | with_reducible refine we_and ?_ | with_reducible refine we_or ?_ | with_reducible refine we_not ?_ | with_reducible refine we_if ?_ | with_reducible refine wt_and ?_ | with_reducible refine wt_or ?_ | with_reducible refine wt_not ?_ | with_reducible refine wt_yes ?_ | with_reducible refine we_chain ?_ | with_reducible refine we_fld ?_ | with_reducible refine we_isi ?_ | with_reducible refine we_mb ?_ | with_reducible refine we_frz ?_ | with_reducible refine we_cut ?_ | with_reducible refine we_oN ?_ | with_reducible refine we_oS ?_ | with_reducible refine we_any ?_ | with_reducible refine we_star ?_ | with_reducible refine we_lc ?_ | with_reducible refine we_R1 ?_ | with_reducible refine we_R2 ?_ | with_reducible refine we_rg ?_ | with_reducible refine we_enu ?_ | with_reducible refine we_zip ?_ | with_reducible refine we_tup ?_ | with_reducible refine we_lst ?_ | with_reducible refine we_lstC ?_ | with_reducible refine we_cal ?_ | with_reducible refine wg_nm ?_ | with_reducible refine wg_nl ?_ | with_reducible refine wg_cs ?_ | ((with_reducible refine wg_istp ?_); refine wg_tp rfl ?_) | with_reducible refine wg_sb ?_)
local macro_rules | `(tactic| walk_at "wp1s") => `(tactic| first | with_reducible refine ws_seq ?_ | with_reducible refine ws_next ?_ | with_reducible refine ws_cnt ?_ | with_reducible refine ws_brk ?_ | with_reducible refine ws_retN ?_ | with_reducible refine ws_ret ?_ | with_reducible refine ws_expr ?_ | with_reducible refine ws_if ?_ | with_reducible refine ws_asg ?_ | with_reducible refine ws_par2 ?_ | with_reducible refine ws_par3 ?_ | with_reducible refine ws_for ?_)
local macro_rules | `(tactic| walk_at "wp1") => `(tactic| first | walk_at "wp1e" | walk_at "wp1s")
local macro_rules | `(tactic| walk_at "noslf") => `(tactic| first | (intro h; cases h; done) | assumption | nofun)
local macro_rules | `(tactic| walk_at "wp2") => `(tactic| first | ((with_reducible refine we_isv ?_); refine we_var rfl (by walk_at "noslf") ?_) | with_reducible refine br_t ?_ | with_reducible refine br_f ?_ | refine ⟨_, rfl, br_t ?_⟩ | refine ⟨_, rfl, br_f ?_⟩)
local macro_rules | `(tactic| walk_at "wpx") => `(tactic| first | with_reducible refine x_bl ?_ | with_reducible refine t_bl ?_ | with_reducible refine t_lst ?_ | with_reducible refine t_tup ?_ | with_reducible refine t_int ?_ | with_reducible refine t_non ?_ | with_reducible refine a_lst ?_ | with_reducible refine a_tup ?_ | with_reducible refine s_lst ?_ | with_reducible refine s_tup ?_ | with_reducible refine br_not ?_ | with_reducible refine we_lft pAdd_ii ?_ | with_reducible refine we_lft pSub_ii ?_ | with_reducible refine we_lft pLt_ii ?_ | with_reducible refine we_lft pLe_ii ?_ | with_reducible refine we_lft pGt_ii ?_ | with_reducible refine we_lft pGe_ii ?_ | with_reducible refine we_lft pEq_ii ?_ | with_reducible refine we_lft pNe_ii ?_ | with_reducible refine we_lft len_lI ?_ | with_reducible refine we_lft len_tI ?_ | with_reducible refine we_lft len_rL ?_ | with_reducible refine we_lft len_rT ?_ | with_reducible refine we_lft len_lo ?_ | with_reducible refine we_lft pLen_lst ?_ | with_reducible refine we_lft pLen_tup ?_ | with_reducible refine we_lft pInt_i ?_ | with_reducible refine we_lft pInt_b ?_ | with_reducible refine we_lft all_ok ?_ | with_reducible refine we_lft any_ok ?_ | with_reducible refine we_lft sum_lI ?_ | with_reducible refine we_dT ?_ | with_reducible refine we_lft neg_i ?_ | with_reducible refine x_int ?_ | with_reducible refine len_nil2 ?_ | ((with_reducible refine len_isl ?_); refine len_lit rfl ?_))
local macro_rules | `(tactic| walk_at "wsa") => `(tactic| (with_reducible refine ws_seq ?_; with_reducible refine ws_asg ?_))
local macro_rules | `(tactic| walk_at "wsi") => `(tactic| (with_reducible refine ws_seq ?_; with_reducible refine ws_if ?_))
local macro_rules | `(tactic| walk_at "wsf") => `(tactic| (with_reducible refine ws_seq ?_; with_reducible refine ws_for ?_))
local macro_rules | `(tactic| walk_at "wsn") => `(tactic| with_reducible refine ws_next ?_)
local macro_rules | `(tactic| walk_at "wpe") => `(tactic| repeat (first | walk_at "wp1e" | walk_at "wp2" | walk_at "wpx"))
local macro_rules | `(tactic| walk_at "wps") => `(tactic| repeat (first | walk_at "wp1" | walk_at "wp2" | walk_at "wpx"))
/-- square rows of digits, each row and column with a one -/
structure Sq (n : Nat) (R : Rw) : Prop where
  len : R.length = n
  g : ∀ r ∈ R, RowG n r
  col : ∀ k, k < n → ∃ r ∈ R, r.getD k 0 = 1
section
variable {J : JB} {cal : Nat → List D → M D} {S : Store}
end
end Pp
namespace Pp
open PySem L2 Ev Bd Sp Wp Rg
local macro_rules | `(tactic| walk_at "wp1e") => `(tactic| first | with_reducible refine we_c ?_ | with_reducible refine we_op ?_ | with_reducible refine we_un ?_ | with_reducible refine we_callV ?_ | with_reducible refine we_cons ?_ | with_reducible refine we_nil ?_ | with_reducible refine we_asB ?_ | with_reducible refine we_tru ?_ | with_reducible refine we_and ?_ | with_reducible refine we_or ?_ | with_reducible refine we_not ?_ | with_reducible refine we_if ?_ | with_reducible refine wt_and ?_ | with_reducible refine wt_or ?_ | with_reducible refine wt_not ?_ | with_reducible refine wt_yes ?_ | with_reducible refine we_chain ?_ | with_reducible refine we_fld ?_ | with_reducible refine we_isi ?_ | with_reducible refine we_mb ?_ | with_reducible refine we_frz ?_ | with_reducible refine we_cut ?_ | with_reducible refine we_oN ?_ | with_reducible refine we_oS ?_ | with_reducible refine we_any ?_ | with_reducible refine we_star ?_ | with_reducible refine we_lc ?_ | with_reducible refine we_R1 ?_ | with_reducible refine we_R2 ?_ | with_reducible refine we_rg ?_ | with_reducible refine we_enu ?_ | with_reducible refine we_zip ?_ | with_reducible refine we_tup ?_ | with_reducible refine we_lst ?_ | with_reducible refine we_lstC ?_ | with_reducible refine we_cal ?_ | with_reducible refine wg_nm ?_ | with_reducible refine wg_nl ?_ | with_reducible refine wg_cs ?_ | ((with_reducible refine wg_istp ?_); refine wg_tp rfl ?_) | with_reducible refine wg_sb ?_)
local macro_rules | `(tactic| walk_at "wp1s") => `(tactic| first | with_reducible refine ws_seq ?_ | with_reducible refine ws_next ?_ | with_reducible refine ws_cnt ?_ | with_reducible refine ws_brk ?_ | with_reducible refine ws_retN ?_ | with_reducible refine ws_ret ?_ | with_reducible refine ws_expr ?_ | with_reducible refine ws_if ?_ | with_reducible refine ws_asg ?_ | with_reducible refine ws_par2 ?_ | with_reducible refine ws_par3 ?_ | with_reducible refine ws_for ?_)
local macro_rules | `(tactic| walk_at "wp1") => `(tactic| first | walk_at "wp1e" | walk_at "wp1s")
local macro_rules | `(tactic| walk_at "noslf") => `(tactic| first | (intro h; cases h; done) | assumption | nofun)
local macro_rules | `(tactic| walk_at "wp2") => `(tactic| first | ((with_reducible refine we_isv ?_); refine we_var rfl (by walk_at "noslf") ?_) | with_reducible refine br_t ?_ | with_reducible refine br_f ?_ | refine ⟨_, rfl, br_t ?_⟩ | refine ⟨_, rfl, br_f ?_⟩)
local macro_rules | `(tactic| walk_at "wpx") => `(tactic| first | with_reducible refine x_bl ?_ | with_reducible refine t_bl ?_ | with_reducible refine t_lst ?_ | with_reducible refine t_tup ?_ | with_reducible refine t_int ?_ | with_reducible refine t_non ?_ | with_reducible refine a_lst ?_ | with_reducible refine a_tup ?_ | with_reducible refine s_lst ?_ | with_reducible refine s_tup ?_ | with_reducible refine br_not ?_ | with_reducible refine we_lft pAdd_ii ?_ | with_reducible refine we_lft pSub_ii ?_ | with_reducible refine we_lft pLt_ii ?_ | with_reducible refine we_lft pLe_ii ?_ | with_reducible refine we_lft pGt_ii ?_ | with_reducible refine we_lft pGe_ii ?_ | with_reducible refine we_lft pEq_ii ?_ | with_reducible refine we_lft pNe_ii ?_ | with_reducible refine we_lft len_lI ?_ | with_reducible refine we_lft len_tI ?_ | with_reducible refine we_lft len_rL ?_ | with_reducible refine we_lft len_rT ?_ | with_reducible refine we_lft len_lo ?_ | with_reducible refine we_lft pLen_lst ?_ | with_reducible refine we_lft pLen_tup ?_ | with_reducible refine we_lft pInt_i ?_ | with_reducible refine we_lft pInt_b ?_ | with_reducible refine we_lft all_ok ?_ | with_reducible refine we_lft any_ok ?_ | with_reducible refine we_lft sum_lI ?_ | with_reducible refine we_dT ?_ | with_reducible refine we_lft neg_i ?_ | with_reducible refine x_int ?_ | with_reducible refine len_nil2 ?_ | ((with_reducible refine len_isl ?_); refine len_lit rfl ?_))
local macro_rules | `(tactic| walk_at "wsa") => `(tactic| (with_reducible refine ws_seq ?_; with_reducible refine ws_asg ?_))
local macro_rules | `(tactic| walk_at "wsi") => `(tactic| (with_reducible refine ws_seq ?_; with_reducible refine ws_if ?_))
local macro_rules | `(tactic| walk_at "wsf") => `(tactic| (with_reducible refine ws_seq ?_; with_reducible refine ws_for ?_))
local macro_rules | `(tactic| walk_at "wsn") => `(tactic| with_reducible refine ws_next ?_)
local macro_rules | `(tactic| walk_at "wpe") => `(tactic| repeat (first | walk_at "wp1e" | walk_at "wp2" | walk_at "wpx"))
local macro_rules | `(tactic| walk_at "wps") => `(tactic| repeat (first | walk_at "wp1" | walk_at "wp2" | walk_at "wpx"))
section
variable {J : JB} {cal : Nat → List D → M D} {S : Store}
/-- what the drawers do -/
structure PickB (J : JB) (f : List D → M D) : Prop where
  go : ∀ {B t : Nat} {S : Store} {ns : List Int} {Q : D → Store → Prop}, At (J B) t S → B < 2 ^ 60 → 0 < ns.length → ns.length ≤ 1000 → (∀ x S', x ∈ ns → At (J (B + 1)) t S' → Fr t S S' → S'.length = S.length → Q (.int x) S') → WE (f [.ref t, lI ns]) S Q
end
end Pp
namespace Bd
open PySem L2 Ev
end Bd
namespace Pp
open PySem PySem.W PyProof.Rows L2 Ev Bd Sp Wp Rg
local macro_rules | `(tactic| walk_at "wp1e") => `(tactic| first | with_reducible refine we_c ?_ | with_reducible refine we_op ?_ | with_reducible refine we_un ?_ | with_reducible refine we_callV ?_ | with_reducible refine we_cons ?_ | with_reducible refine we_nil ?_ | with_reducible refine we_asB ?_ | with_reducible refine we_tru ?_ | with_reducible refine we_and ?_ | with_reducible refine we_or ?_ | with_reducible refine we_not ?_ | with_reducible refine we_if ?_ | with_reducible refine wt_and ?_ | with_reducible refine wt_or ?_ | with_reducible refine wt_not ?_ | with_reducible refine wt_yes ?_ | with_reducible refine we_chain ?_ | with_reducible refine we_fld ?_ | with_reducible refine we_isi ?_ | with_reducible refine we_mb ?_ | with_reducible refine we_frz ?_ | with_reducible refine we_cut ?_ | with_reducible refine we_oN ?_ | with_reducible refine we_oS ?_ | with_reducible refine we_any ?_ | with_reducible refine we_star ?_ | with_reducible refine we_lc ?_ | with_reducible refine we_R1 ?_ | with_reducible refine we_R2 ?_ | with_reducible refine we_rg ?_ | with_reducible refine we_enu ?_ | with_reducible refine we_zip ?_ | with_reducible refine we_tup ?_ | with_reducible refine we_lst ?_ | with_reducible refine we_lstC ?_ | with_reducible refine we_cal ?_ | with_reducible refine wg_nm ?_ | with_reducible refine wg_nl ?_ | with_reducible refine wg_cs ?_ | ((with_reducible refine wg_istp ?_); refine wg_tp rfl ?_) | with_reducible refine wg_sb ?_)
local macro_rules | `(tactic| walk_at "wp1s") => `(tactic| first | with_reducible refine ws_seq ?_ | with_reducible refine ws_next ?_ | with_reducible refine ws_cnt ?_ | with_reducible refine ws_brk ?_ | with_reducible refine ws_retN ?_ | with_reducible refine ws_ret ?_ | with_reducible refine ws_expr ?_ | with_reducible refine ws_if ?_ | with_reducible refine ws_asg ?_ | with_reducible refine ws_par2 ?_ | with_reducible refine ws_par3 ?_ | with_reducible refine ws_for ?_)
local macro_rules | `(tactic| walk_at "wp1") => `(tactic| first | walk_at "wp1e" | walk_at "wp1s")
local macro_rules | `(tactic| walk_at "noslf") => `(tactic| first | (intro h; cases h; done) | assumption | nofun)
local macro_rules | `(tactic| walk_at "wp2") => `(tactic| first | ((with_reducible refine we_isv ?_); refine we_var rfl (by walk_at "noslf") ?_) | with_reducible refine br_t ?_ | with_reducible refine br_f ?_ | refine ⟨_, rfl, br_t ?_⟩ | refine ⟨_, rfl, br_f ?_⟩)
local macro_rules | `(tactic| walk_at "wpx") => `(tactic| first | with_reducible refine x_bl ?_ | with_reducible refine t_bl ?_ | with_reducible refine t_lst ?_ | with_reducible refine t_tup ?_ | with_reducible refine t_int ?_ | with_reducible refine t_non ?_ | with_reducible refine a_lst ?_ | with_reducible refine a_tup ?_ | with_reducible refine s_lst ?_ | with_reducible refine s_tup ?_ | with_reducible refine br_not ?_ | with_reducible refine we_lft pAdd_ii ?_ | with_reducible refine we_lft pSub_ii ?_ | with_reducible refine we_lft pLt_ii ?_ | with_reducible refine we_lft pLe_ii ?_ | with_reducible refine we_lft pGt_ii ?_ | with_reducible refine we_lft pGe_ii ?_ | with_reducible refine we_lft pEq_ii ?_ | with_reducible refine we_lft pNe_ii ?_ | with_reducible refine we_lft len_lI ?_ | with_reducible refine we_lft len_tI ?_ | with_reducible refine we_lft len_rL ?_ | with_reducible refine we_lft len_rT ?_ | with_reducible refine we_lft len_lo ?_ | with_reducible refine we_lft pLen_lst ?_ | with_reducible refine we_lft pLen_tup ?_ | with_reducible refine we_lft pInt_i ?_ | with_reducible refine we_lft pInt_b ?_ | with_reducible refine we_lft all_ok ?_ | with_reducible refine we_lft any_ok ?_ | with_reducible refine we_lft sum_lI ?_ | with_reducible refine we_dT ?_ | with_reducible refine we_lft neg_i ?_ | with_reducible refine x_int ?_ | with_reducible refine len_nil2 ?_ | ((with_reducible refine len_isl ?_); refine len_lit rfl ?_))
local macro_rules | `(tactic| walk_at "wsa") => `(tactic| (with_reducible refine ws_seq ?_; with_reducible refine ws_asg ?_))
local macro_rules | `(tactic| walk_at "wsi") => `(tactic| (with_reducible refine ws_seq ?_; with_reducible refine ws_if ?_))
local macro_rules | `(tactic| walk_at "wsf") => `(tactic| (with_reducible refine ws_seq ?_; with_reducible refine ws_for ?_))
local macro_rules | `(tactic| walk_at "wsn") => `(tactic| with_reducible refine ws_next ?_)
local macro_rules | `(tactic| walk_at "wpe") => `(tactic| repeat (first | walk_at "wp1e" | walk_at "wp2" | walk_at "wpx"))
local macro_rules | `(tactic| walk_at "wps") => `(tactic| repeat (first | walk_at "wp1" | walk_at "wp2" | walk_at "wpx"))
structure Shw (p : PyData) (n dp : Nat) : Prop where
  sh : p.showable = true
  ln : p.shown.length ≤ n
  dp : p.depth ≤ dp
theorem Shw.mono {p : PyData} {n n' d d' : Nat} (h : Shw p n d) (hn : n ≤ n') (hd : d ≤ d') : Shw p n' d' := ⟨h.sh, Nat.le_trans h.ln hn, Nat.le_trans h.dp hd⟩
theorem shw_int {i : Int} (h : i.natAbs < 10 ^ 40) : Shw (.int i) 41 0 := by
  refine ⟨?_, ?_, by simp [PyData.depth]⟩
  · simp only [PyData.showable, decide_eq_true_eq]
    by_cases h0 : i.natAbs = 0
    · rw [h0]; decide
    · have : i.natAbs.log2 < 133 := (Nat.log2_lt h0).mpr (Nat.lt_of_lt_of_le h (by decide))
      omega
  · have e := int_text_length_le10 (k := 40) (by decide) h
    show (Str.ofString (toString i)).length ≤ 41
    rw [PySem.ofString_length]; exact e
theorem shw_none : Shw .none 4 0 := ⟨rfl, by decide, by simp [PyData.depth]⟩
theorem shw_all {n d : Nat} : ∀ {ps : List PyData}, (∀ p ∈ ps, Shw p n d) → PyData.showableAll ps = true ∧ ((PyData.shownAll ps).map (·.length)).sum ≤ n * ps.length ∧ PyData.depthAll ps ≤ d
  | [], _ => ⟨rfl, by simp [PyData.shownAll], Nat.zero_le _⟩
  | p :: ps, h => by
    obtain ⟨a, b, c⟩ := shw_all (n := n) (d := d) fun q hq => h q (List.mem_cons_of_mem _ hq)
    have f := h p (List.mem_cons_self ..)
    have f1 := f.ln
    have f2 := f.dp
    refine ⟨?_, ?_, ?_⟩
    · simp only [PyData.showableAll, f.sh, a, Bool.and_self]
    · simp only [PyData.shownAll, List.map_cons, List.sum_cons, List.length_cons, Nat.mul_succ]; omega
    · simp only [PyData.depthAll]; omega
theorem shw_tuple {ps : List PyData} {n d k : Nat} (h : ∀ p ∈ ps, Shw p n d) (hn : ps.length ≤ k) : Shw (.tuple ps) ((n + 2) * k + 3) (d + 1) := by
  obtain ⟨a, b, c⟩ := shw_all h
  have e := tupleText_len_le (PyData.shownAll ps)
  rw [PyData.shownAll_length] at e
  have e2 := Nat.mul_le_mul_left (n + 2) hn
  rw [Nat.add_mul] at e2
  refine ⟨by simp only [PyData.showable, a], ?_, ?_⟩
  · simp only [PyData.shown]; omega
  · simp only [PyData.depth]; omega
theorem shw_list {ps : List PyData} {n d k : Nat} (h : ∀ p ∈ ps, Shw p n d) (hn : ps.length ≤ k) : Shw (.list ps) ((n + 2) * k + 3) (d + 1) := by
  obtain ⟨a, b, c⟩ := shw_all h
  have e := listText_len_le (PyData.shownAll ps)
  rw [PyData.shownAll_length] at e
  have e2 := Nat.mul_le_mul_left (n + 2) hn
  rw [Nat.add_mul] at e2
  refine ⟨by simp only [PyData.showable, a], ?_, ?_⟩
  · simp only [PyData.shown]; omega
  · simp only [PyData.depth]; omega
def tot (ns l : List Int) : Int := (l.map fun k => ns.getD k.toNat 0).sum
section
variable {cal : Nat → List D → M D} {S : Store}
end
end Pp
namespace Xr
open PySem L2 Ev Bd Sp Rg Wp Ty Xm
local macro_rules | `(tactic| walk_at "wp1e") => `(tactic| first | with_reducible refine we_c ?_ | with_reducible refine we_op ?_ | with_reducible refine we_un ?_ | with_reducible refine we_callV ?_ | with_reducible refine we_cons ?_ | with_reducible refine we_nil ?_ | with_reducible refine we_asB ?_ | with_reducible refine we_tru ?_ | with_reducible refine we_and ?_ | with_reducible refine we_or ?_ | with_reducible refine we_not ?_ | with_reducible refine we_if ?_ | with_reducible refine wt_and ?_ | with_reducible refine wt_or ?_ | with_reducible refine wt_not ?_ | with_reducible refine wt_yes ?_ | with_reducible refine we_chain ?_ | with_reducible refine we_fld ?_ | with_reducible refine we_isi ?_ | with_reducible refine we_mb ?_ | with_reducible refine we_frz ?_ | with_reducible refine we_cut ?_ | with_reducible refine we_oN ?_ | with_reducible refine we_oS ?_ | with_reducible refine we_any ?_ | with_reducible refine we_star ?_ | with_reducible refine we_lc ?_ | with_reducible refine we_R1 ?_ | with_reducible refine we_R2 ?_ | with_reducible refine we_rg ?_ | with_reducible refine we_enu ?_ | with_reducible refine we_zip ?_ | with_reducible refine we_tup ?_ | with_reducible refine we_lst ?_ | with_reducible refine we_lstC ?_ | with_reducible refine we_cal ?_ | with_reducible refine wg_nm ?_ | with_reducible refine wg_nl ?_ | with_reducible refine wg_cs ?_ | ((with_reducible refine wg_istp ?_); refine wg_tp rfl ?_) | with_reducible refine wg_sb ?_)
local macro_rules | `(tactic| walk_at "wp1s") => `(tactic| first | with_reducible refine ws_seq ?_ | with_reducible refine ws_next ?_ | with_reducible refine ws_cnt ?_ | with_reducible refine ws_brk ?_ | with_reducible refine ws_retN ?_ | with_reducible refine ws_ret ?_ | with_reducible refine ws_expr ?_ | with_reducible refine ws_if ?_ | with_reducible refine ws_asg ?_ | with_reducible refine ws_par2 ?_ | with_reducible refine ws_par3 ?_ | with_reducible refine ws_for ?_)
local macro_rules | `(tactic| walk_at "wp1") => `(tactic| first | walk_at "wp1e" | walk_at "wp1s")
local macro_rules | `(tactic| walk_at "noslf") => `(tactic| first | (intro h; cases h; done) | assumption | nofun)
local macro_rules | `(tactic| walk_at "wp2") => `(tactic| first | ((with_reducible refine we_isv ?_); refine we_var rfl (by walk_at "noslf") ?_) | with_reducible refine br_t ?_ | with_reducible refine br_f ?_ | refine ⟨_, rfl, br_t ?_⟩ | refine ⟨_, rfl, br_f ?_⟩)
local macro_rules | `(tactic| walk_at "wpx") => `(tactic| first | with_reducible refine x_bl ?_ | with_reducible refine t_bl ?_ | with_reducible refine t_lst ?_ | with_reducible refine t_tup ?_ | with_reducible refine t_int ?_ | with_reducible refine t_non ?_ | with_reducible refine a_lst ?_ | with_reducible refine a_tup ?_ | with_reducible refine s_lst ?_ | with_reducible refine s_tup ?_ | with_reducible refine br_not ?_ | with_reducible refine we_lft pAdd_ii ?_ | with_reducible refine we_lft pSub_ii ?_ | with_reducible refine we_lft pLt_ii ?_ | with_reducible refine we_lft pLe_ii ?_ | with_reducible refine we_lft pGt_ii ?_ | with_reducible refine we_lft pGe_ii ?_ | with_reducible refine we_lft pEq_ii ?_ | with_reducible refine we_lft pNe_ii ?_ | with_reducible refine we_lft len_lI ?_ | with_reducible refine we_lft len_tI ?_ | with_reducible refine we_lft len_rL ?_ | with_reducible refine we_lft len_rT ?_ | with_reducible refine we_lft len_lo ?_ | with_reducible refine we_lft pLen_lst ?_ | with_reducible refine we_lft pLen_tup ?_ | with_reducible refine we_lft pInt_i ?_ | with_reducible refine we_lft pInt_b ?_ | with_reducible refine we_lft all_ok ?_ | with_reducible refine we_lft any_ok ?_ | with_reducible refine we_lft sum_lI ?_ | with_reducible refine we_dT ?_ | with_reducible refine we_lft neg_i ?_ | with_reducible refine x_int ?_ | with_reducible refine len_nil2 ?_ | ((with_reducible refine len_isl ?_); refine len_lit rfl ?_))
local macro_rules | `(tactic| walk_at "wsa") => `(tactic| (with_reducible refine ws_seq ?_; with_reducible refine ws_asg ?_))
local macro_rules | `(tactic| walk_at "wsi") => `(tactic| (with_reducible refine ws_seq ?_; with_reducible refine ws_if ?_))
local macro_rules | `(tactic| walk_at "wsf") => `(tactic| (with_reducible refine ws_seq ?_; with_reducible refine ws_for ?_))
local macro_rules | `(tactic| walk_at "wsn") => `(tactic| with_reducible refine ws_next ?_)
local macro_rules | `(tactic| walk_at "wpe") => `(tactic| repeat (first | walk_at "wp1e" | walk_at "wp2" | walk_at "wpx"))
local macro_rules | `(tactic| walk_at "wps") => `(tactic| repeat (first | walk_at "wp1" | walk_at "wp2" | walk_at "wpx"))
open Pp (Shw shw_int shw_none shw_all shw_tuple shw_list)
/-- data that does not hang on the store -/
def SD (n d : Nat) (x : D) : Prop := ∃ p, (∀ S, toPX S x = some p) ∧ Shw p n d
theorem SD.mono {n n' d d' : Nat} {x : D} (h : SD n d x) (hn : n ≤ n') (hd : d ≤ d') : SD n' d' x := by
  obtain ⟨p, h1, h2⟩ := h
  exact ⟨p, h1, h2.mono hn hd⟩
/-- a value: an empty dict in a cell, or one that does not hang on the store -/
def GV (P : Store → D → Prop) (S : Store) (x : D) (p : PyData) : Prop := Shw p 2000 3 ∧ ((∃ n, x = .ref n ∧ S[n]? = some (some (.dT [])) ∧ p = .dict []) ∨ ((∀ S, P S x) ∧ (∀ S, toPX S x = some p)))
section
variable {P : Store → D → Prop} {S S' : Store} {x : D} {p : PyData}
theorem GV.fr {L : Store} {t : Nat} (h : GV P S x p) (a : Tl.Tr L t S) (k : Fr t S S') : GV P S' x p := by
  refine ⟨h.1, ?_⟩
  rcases h.2 with ⟨n, rfl, hn, rfl⟩ | h
  · refine .inl ⟨n, rfl, ?_, rfl⟩
    have hnt : n ≠ t := fun e => by
      subst e
      obtain ⟨⟨x1, y1, z1, h1, _⟩, _⟩ := a
      rw [hn] at h1
      cases h1
    rw [k.2 n (List.getElem?_eq_some_iff.mp hn).1 hnt]
    exact hn
  · exact .inr h
theorem GV.px (h : GV P S x p) : toPX S x = some p := by
  rcases h.2 with ⟨n, rfl, hn, rfl⟩ | h
  · simp [toPX, hn]
  · exact h.2 S
theorem GV.is (h : GV P S x p) (hd : ∀ n, S[n]? = some (some (.dT [])) → P S (.ref n)) : P S x := by
  rcases h.2 with ⟨n, rfl, hn, rfl⟩ | h
  · exact hd n hn
  · exact h.1 S
end
inductive EVx : D → Prop
  | int (i : Int) : EVx (.int i)
  | bl (c : Bool) : EVx (.bl c)
  | non : EVx .non
  | str (s : Str) : EVx (.str s)
  | tup (xs : List D) : EVx (.tup xs)
theorem EVx.ns {x : D} (h : EVx x) : x ≠ .slf := by cases h <;> nofun
def inAB (a b : Int) : D → Bool
  | .int i => decide (a ≤ i) && decide (i ≤ b)
  | _ => false
def intOf : D → Int
  | .int i => i
  | _ => 0
section
variable {cal : Nat → List D → M D} {S : Store} {v : D}
def lessB (xs : List D) (j : Int) : Bool := decide (intOf (xs.getD j.toNat .non) < intOf (xs.getD (j.toNat + 1) .non))
/-- ascending indexes below a number -/
def riseB (m : Int) (xs : List D) : Bool := xs.all (inAB 0 (m - 1)) && (rng (xs.length - 1)).all (lessB xs)
/-- whether a value is a lot -/
def lotB (m : Int) : D → Bool
  | .tup xs => riseB m xs && decide (0 < xs.length)
  | _ => false
inductive LVx : D → Prop
  | int (i : Int) : LVx (.int i)
  | lst (xs : List D) : LVx (.lst xs)
  | tup (xs : List D) (hx : ∀ x ∈ xs, EVx x) (hl : xs.length ≤ 1000) : LVx (.tup xs)
theorem LVx.ns {x : D} (h : LVx x) : x ≠ .slf := by cases h <;> nofun
/-- no part -/
inductive PVn (h w : Nat) (S : Store) : D → Prop
  | ty {v : D} (T : String) (hy : tyOf S v = some (.blt T)) (hT : T = "NoneType" ∨ T = "int" ∨ T = "str" ∨ T = "list" ∨ T = "dict") (hs : v ≠ .slf) : PVn h w S v
  | len (xs : List D) (hne : xs.length ≠ 2) (hl : xs.length ≤ 1000) : PVn h w S (.tup xs)
  | two (x y : D) (hx : LVx x) (hy : LVx y) (hb : (lotB h x && lotB w y) = false) : PVn h w S (.tup [x, y])
theorem PVn.ns {h w : Nat} {S : Store} {v : D} (hv : PVn h w S v) : v ≠ .slf := by
  cases hv with
  | ty T h hT hs => exact hs
  | len => nofun
  | two => nofun
/-- no row -/
inductive RVn (w : Nat) (S : Store) : D → Prop
  | ty {v : D} (T : String) (h : tyOf S v = some (.blt T)) (hT : T = "NoneType" ∨ T = "int" ∨ T = "str" ∨ T = "list" ∨ T = "dict") (hs : v ≠ .slf) : RVn w S v
  | tup (xs : List D) (hx : ∀ x ∈ xs, EVx x) (hl : xs.length ≤ 1000) (hb : (decide ((xs.length : Int) = w) && xs.all (inAB 0 1)) = false) : RVn w S (.tup xs)
  | zero (h0 : 0 < w) (h8 : w ≤ 8) : RVn w S (Sp.tI (List.replicate w 0))
theorem RVn.ns {w : Nat} {S : Store} {v : D} (hv : RVn w S v) : v ≠ .slf := by
  cases hv with
  | ty T h hT hs => exact hs
  | tup => nofun
  | zero => nofun
end
end Xr
namespace Xr
open PySem L2 Ev Bd Sp Rg Wp Ty Xm
local macro_rules | `(tactic| walk_at "wp1e") => `(tactic| first | with_reducible refine we_c ?_ | with_reducible refine we_op ?_ | with_reducible refine we_un ?_ | with_reducible refine we_callV ?_ | with_reducible refine we_cons ?_ | with_reducible refine we_nil ?_ | with_reducible refine we_asB ?_ | with_reducible refine we_tru ?_ | with_reducible refine we_and ?_ | with_reducible refine we_or ?_ | with_reducible refine we_not ?_ | with_reducible refine we_if ?_ | with_reducible refine wt_and ?_ | with_reducible refine wt_or ?_ | with_reducible refine wt_not ?_ | with_reducible refine wt_yes ?_ | with_reducible refine we_chain ?_ | with_reducible refine we_fld ?_ | with_reducible refine we_isi ?_ | with_reducible refine we_mb ?_ | with_reducible refine we_frz ?_ | with_reducible refine we_cut ?_ | with_reducible refine we_oN ?_ | with_reducible refine we_oS ?_ | with_reducible refine we_any ?_ | with_reducible refine we_star ?_ | with_reducible refine we_lc ?_ | with_reducible refine we_R1 ?_ | with_reducible refine we_R2 ?_ | with_reducible refine we_rg ?_ | with_reducible refine we_enu ?_ | with_reducible refine we_zip ?_ | with_reducible refine we_tup ?_ | with_reducible refine we_lst ?_ | with_reducible refine we_lstC ?_ | with_reducible refine we_cal ?_ | with_reducible refine wg_nm ?_ | with_reducible refine wg_nl ?_ | with_reducible refine wg_cs ?_ | ((with_reducible refine wg_istp ?_); refine wg_tp rfl ?_) | with_reducible refine wg_sb ?_)
local macro_rules | `(tactic| walk_at "wp1s") => `(tactic| first | with_reducible refine ws_seq ?_ | with_reducible refine ws_next ?_ | with_reducible refine ws_cnt ?_ | with_reducible refine ws_brk ?_ | with_reducible refine ws_retN ?_ | with_reducible refine ws_ret ?_ | with_reducible refine ws_expr ?_ | with_reducible refine ws_if ?_ | with_reducible refine ws_asg ?_ | with_reducible refine ws_par2 ?_ | with_reducible refine ws_par3 ?_ | with_reducible refine ws_for ?_)
local macro_rules | `(tactic| walk_at "wp1") => `(tactic| first | walk_at "wp1e" | walk_at "wp1s")
local macro_rules | `(tactic| walk_at "noslf") => `(tactic| first | (intro h; cases h; done) | assumption | nofun)
local macro_rules | `(tactic| walk_at "wp2") => `(tactic| first | ((with_reducible refine we_isv ?_); refine we_var rfl (by walk_at "noslf") ?_) | with_reducible refine br_t ?_ | with_reducible refine br_f ?_ | refine ⟨_, rfl, br_t ?_⟩ | refine ⟨_, rfl, br_f ?_⟩)
local macro_rules | `(tactic| walk_at "wpx") => `(tactic| first | with_reducible refine x_bl ?_ | with_reducible refine t_bl ?_ | with_reducible refine t_lst ?_ | with_reducible refine t_tup ?_ | with_reducible refine t_int ?_ | with_reducible refine t_non ?_ | with_reducible refine a_lst ?_ | with_reducible refine a_tup ?_ | with_reducible refine s_lst ?_ | with_reducible refine s_tup ?_ | with_reducible refine br_not ?_ | with_reducible refine we_lft pAdd_ii ?_ | with_reducible refine we_lft pSub_ii ?_ | with_reducible refine we_lft pLt_ii ?_ | with_reducible refine we_lft pLe_ii ?_ | with_reducible refine we_lft pGt_ii ?_ | with_reducible refine we_lft pGe_ii ?_ | with_reducible refine we_lft pEq_ii ?_ | with_reducible refine we_lft pNe_ii ?_ | with_reducible refine we_lft len_lI ?_ | with_reducible refine we_lft len_tI ?_ | with_reducible refine we_lft len_rL ?_ | with_reducible refine we_lft len_rT ?_ | with_reducible refine we_lft len_lo ?_ | with_reducible refine we_lft pLen_lst ?_ | with_reducible refine we_lft pLen_tup ?_ | with_reducible refine we_lft pInt_i ?_ | with_reducible refine we_lft pInt_b ?_ | with_reducible refine we_lft all_ok ?_ | with_reducible refine we_lft any_ok ?_ | with_reducible refine we_lft sum_lI ?_ | with_reducible refine we_dT ?_ | with_reducible refine we_lft neg_i ?_ | with_reducible refine x_int ?_ | with_reducible refine len_nil2 ?_ | ((with_reducible refine len_isl ?_); refine len_lit rfl ?_))
local macro_rules | `(tactic| walk_at "wsa") => `(tactic| (with_reducible refine ws_seq ?_; with_reducible refine ws_asg ?_))
local macro_rules | `(tactic| walk_at "wsi") => `(tactic| (with_reducible refine ws_seq ?_; with_reducible refine ws_if ?_))
local macro_rules | `(tactic| walk_at "wsf") => `(tactic| (with_reducible refine ws_seq ?_; with_reducible refine ws_for ?_))
local macro_rules | `(tactic| walk_at "wsn") => `(tactic| with_reducible refine ws_next ?_)
local macro_rules | `(tactic| walk_at "wpe") => `(tactic| repeat (first | walk_at "wp1e" | walk_at "wp2" | walk_at "wpx"))
local macro_rules | `(tactic| walk_at "wps") => `(tactic| repeat (first | walk_at "wp1" | walk_at "wp2" | walk_at "wpx"))
open Pp (Shw shw_int shw_none shw_all shw_tuple shw_list)
section
variable {L : Store} {cal : Nat → List D → M D} {S : Store} {t : Nat}
end
end Xr
namespace Sx
open PySem L2 Ev Bd Sp Rg Wp Ty Xr Pp
local macro_rules | `(tactic| walk_at "wp1e") => `(tactic| first | with_reducible refine we_c ?_ | with_reducible refine we_op ?_ | with_reducible refine we_un ?_ | with_reducible refine we_callV ?_ | with_reducible refine we_cons ?_ | with_reducible refine we_nil ?_ | with_reducible refine we_asB ?_ | with_reducible refine we_tru ?_ | with_reducible refine we_and ?_ | with_reducible refine we_or ?_ | with_reducible refine we_not ?_ | with_reducible refine we_if ?_ | with_reducible refine wt_and ?_ | with_reducible refine wt_or ?_ | with_reducible refine wt_not ?_ | with_reducible refine wt_yes ?_ | with_reducible refine we_chain ?_ | with_reducible refine we_fld ?_ | with_reducible refine we_isi ?_ | with_reducible refine we_mb ?_ | with_reducible refine we_frz ?_ | with_reducible refine we_cut ?_ | with_reducible refine we_oN ?_ | with_reducible refine we_oS ?_ | with_reducible refine we_any ?_ | with_reducible refine we_star ?_ | with_reducible refine we_lc ?_ | with_reducible refine we_R1 ?_ | with_reducible refine we_R2 ?_ | with_reducible refine we_rg ?_ | with_reducible refine we_enu ?_ | with_reducible refine we_zip ?_ | with_reducible refine we_tup ?_ | with_reducible refine we_lst ?_ | with_reducible refine we_lstC ?_ | with_reducible refine we_cal ?_ | with_reducible refine wg_nm ?_ | with_reducible refine wg_nl ?_ | with_reducible refine wg_cs ?_ | ((with_reducible refine wg_istp ?_); refine wg_tp rfl ?_) | with_reducible refine wg_sb ?_)
local macro_rules | `(tactic| walk_at "wp1s") => `(tactic| first | with_reducible refine ws_seq ?_ | with_reducible refine ws_next ?_ | with_reducible refine ws_cnt ?_ | with_reducible refine ws_brk ?_ | with_reducible refine ws_retN ?_ | with_reducible refine ws_ret ?_ | with_reducible refine ws_expr ?_ | with_reducible refine ws_if ?_ | with_reducible refine ws_asg ?_ | with_reducible refine ws_par2 ?_ | with_reducible refine ws_par3 ?_ | with_reducible refine ws_for ?_)
local macro_rules | `(tactic| walk_at "wp1") => `(tactic| first | walk_at "wp1e" | walk_at "wp1s")
local macro_rules | `(tactic| walk_at "noslf") => `(tactic| first | (intro h; cases h; done) | assumption | nofun)
local macro_rules | `(tactic| walk_at "wp2") => `(tactic| first | ((with_reducible refine we_isv ?_); refine we_var rfl (by walk_at "noslf") ?_) | with_reducible refine br_t ?_ | with_reducible refine br_f ?_ | refine ⟨_, rfl, br_t ?_⟩ | refine ⟨_, rfl, br_f ?_⟩)
local macro_rules | `(tactic| walk_at "wpx") => `(tactic| first | with_reducible refine x_bl ?_ | with_reducible refine t_bl ?_ | with_reducible refine t_lst ?_ | with_reducible refine t_tup ?_ | with_reducible refine t_int ?_ | with_reducible refine t_non ?_ | with_reducible refine a_lst ?_ | with_reducible refine a_tup ?_ | with_reducible refine s_lst ?_ | with_reducible refine s_tup ?_ | with_reducible refine br_not ?_ | with_reducible refine we_lft pAdd_ii ?_ | with_reducible refine we_lft pSub_ii ?_ | with_reducible refine we_lft pLt_ii ?_ | with_reducible refine we_lft pLe_ii ?_ | with_reducible refine we_lft pGt_ii ?_ | with_reducible refine we_lft pGe_ii ?_ | with_reducible refine we_lft pEq_ii ?_ | with_reducible refine we_lft pNe_ii ?_ | with_reducible refine we_lft len_lI ?_ | with_reducible refine we_lft len_tI ?_ | with_reducible refine we_lft len_rL ?_ | with_reducible refine we_lft len_rT ?_ | with_reducible refine we_lft len_lo ?_ | with_reducible refine we_lft pLen_lst ?_ | with_reducible refine we_lft pLen_tup ?_ | with_reducible refine we_lft pInt_i ?_ | with_reducible refine we_lft pInt_b ?_ | with_reducible refine we_lft all_ok ?_ | with_reducible refine we_lft any_ok ?_ | with_reducible refine we_lft sum_lI ?_ | with_reducible refine we_dT ?_ | with_reducible refine we_lft neg_i ?_ | with_reducible refine x_int ?_ | with_reducible refine len_nil2 ?_ | ((with_reducible refine len_isl ?_); refine len_lit rfl ?_))
local macro_rules | `(tactic| walk_at "wsa") => `(tactic| (with_reducible refine ws_seq ?_; with_reducible refine ws_asg ?_))
local macro_rules | `(tactic| walk_at "wsi") => `(tactic| (with_reducible refine ws_seq ?_; with_reducible refine ws_if ?_))
local macro_rules | `(tactic| walk_at "wsf") => `(tactic| (with_reducible refine ws_seq ?_; with_reducible refine ws_for ?_))
local macro_rules | `(tactic| walk_at "wsn") => `(tactic| with_reducible refine ws_next ?_)
local macro_rules | `(tactic| walk_at "wpe") => `(tactic| repeat (first | walk_at "wp1e" | walk_at "wp2" | walk_at "wpx"))
local macro_rules | `(tactic| walk_at "wps") => `(tactic| repeat (first | walk_at "wp1" | walk_at "wp2" | walk_at "wpx"))
abbrev isS (T : Ty) : Option Bool := isiT isi T (.blt "str")
/-- a value of this law -/
structure DV (S : Store) (d : D) : Prop where
  ns : d ≠ .slf
  p : ∃ p, toPY S d = some p ∧ Shw p 200000 4
  ty : (∃ s, d = .str s ∧ SmS 5000 s) ∨ ∃ T, tyOf S d = some T ∧ isS T = some false
section
variable {cal : Nat → List D → M D} {S : Store}
structure J3 (cal : Nat → List D → M D) : Prop where
  tab : ∀ h w R S, Full h w R → cal 203 [.str (txt R)] S = .ok (tabD h w R) S
  tabX : ∀ s S, s.length ≤ 100000 → ¬ IsTxt s → cal 203 [.str s] S = .exc ⟨"InvalidText", [("given", .str s)]⟩ S
  tabN : ∀ d T S, d ≠ .slf → tyOf S d = some T → isS T = some false → cal 203 [d] S = .exc ⟨"InvalidText", [("given", d)]⟩ S
  isT : ∀ s S, s.length ≤ 100000 → WE (cal 290 [.str s]) S fun d S' => S' = S ∧ ∃ b, d = .bl b ∧ (b = true ↔ IsTxt s)
  isN : ∀ d T S, d ≠ .slf → tyOf S d = some T → isS T = some false → WE (cal 290 [d]) S fun r S' => S' = S ∧ r = .bl false
abbrev L3 : Store := Xm.store0 ["_law_judged"]
end
end Sx
namespace Sx
open PySem L2 Ev Bd Sp Rg Wp Ty Xr Pp
local macro_rules | `(tactic| walk_at "wp1e") => `(tactic| first | with_reducible refine we_c ?_ | with_reducible refine we_op ?_ | with_reducible refine we_un ?_ | with_reducible refine we_callV ?_ | with_reducible refine we_cons ?_ | with_reducible refine we_nil ?_ | with_reducible refine we_asB ?_ | with_reducible refine we_tru ?_ | with_reducible refine we_and ?_ | with_reducible refine we_or ?_ | with_reducible refine we_not ?_ | with_reducible refine we_if ?_ | with_reducible refine wt_and ?_ | with_reducible refine wt_or ?_ | with_reducible refine wt_not ?_ | with_reducible refine wt_yes ?_ | with_reducible refine we_chain ?_ | with_reducible refine we_fld ?_ | with_reducible refine we_isi ?_ | with_reducible refine we_mb ?_ | with_reducible refine we_frz ?_ | with_reducible refine we_cut ?_ | with_reducible refine we_oN ?_ | with_reducible refine we_oS ?_ | with_reducible refine we_any ?_ | with_reducible refine we_star ?_ | with_reducible refine we_lc ?_ | with_reducible refine we_R1 ?_ | with_reducible refine we_R2 ?_ | with_reducible refine we_rg ?_ | with_reducible refine we_enu ?_ | with_reducible refine we_zip ?_ | with_reducible refine we_tup ?_ | with_reducible refine we_lst ?_ | with_reducible refine we_lstC ?_ | with_reducible refine we_cal ?_ | with_reducible refine wg_nm ?_ | with_reducible refine wg_nl ?_ | with_reducible refine wg_cs ?_ | ((with_reducible refine wg_istp ?_); refine wg_tp rfl ?_) | with_reducible refine wg_sb ?_)
local macro_rules | `(tactic| walk_at "wp1s") => `(tactic| first | with_reducible refine ws_seq ?_ | with_reducible refine ws_next ?_ | with_reducible refine ws_cnt ?_ | with_reducible refine ws_brk ?_ | with_reducible refine ws_retN ?_ | with_reducible refine ws_ret ?_ | with_reducible refine ws_expr ?_ | with_reducible refine ws_if ?_ | with_reducible refine ws_asg ?_ | with_reducible refine ws_par2 ?_ | with_reducible refine ws_par3 ?_ | with_reducible refine ws_for ?_)
local macro_rules | `(tactic| walk_at "wp1") => `(tactic| first | walk_at "wp1e" | walk_at "wp1s")
local macro_rules | `(tactic| walk_at "noslf") => `(tactic| first | (intro h; cases h; done) | assumption | nofun)
local macro_rules | `(tactic| walk_at "wp2") => `(tactic| first | ((with_reducible refine we_isv ?_); refine we_var rfl (by walk_at "noslf") ?_) | with_reducible refine br_t ?_ | with_reducible refine br_f ?_ | refine ⟨_, rfl, br_t ?_⟩ | refine ⟨_, rfl, br_f ?_⟩)
local macro_rules | `(tactic| walk_at "wpx") => `(tactic| first | with_reducible refine x_bl ?_ | with_reducible refine t_bl ?_ | with_reducible refine t_lst ?_ | with_reducible refine t_tup ?_ | with_reducible refine t_int ?_ | with_reducible refine t_non ?_ | with_reducible refine a_lst ?_ | with_reducible refine a_tup ?_ | with_reducible refine s_lst ?_ | with_reducible refine s_tup ?_ | with_reducible refine br_not ?_ | with_reducible refine we_lft pAdd_ii ?_ | with_reducible refine we_lft pSub_ii ?_ | with_reducible refine we_lft pLt_ii ?_ | with_reducible refine we_lft pLe_ii ?_ | with_reducible refine we_lft pGt_ii ?_ | with_reducible refine we_lft pGe_ii ?_ | with_reducible refine we_lft pEq_ii ?_ | with_reducible refine we_lft pNe_ii ?_ | with_reducible refine we_lft len_lI ?_ | with_reducible refine we_lft len_tI ?_ | with_reducible refine we_lft len_rL ?_ | with_reducible refine we_lft len_rT ?_ | with_reducible refine we_lft len_lo ?_ | with_reducible refine we_lft pLen_lst ?_ | with_reducible refine we_lft pLen_tup ?_ | with_reducible refine we_lft pInt_i ?_ | with_reducible refine we_lft pInt_b ?_ | with_reducible refine we_lft all_ok ?_ | with_reducible refine we_lft any_ok ?_ | with_reducible refine we_lft sum_lI ?_ | with_reducible refine we_dT ?_ | with_reducible refine we_lft neg_i ?_ | with_reducible refine x_int ?_ | with_reducible refine len_nil2 ?_ | ((with_reducible refine len_isl ?_); refine len_lit rfl ?_))
local macro_rules | `(tactic| walk_at "wsa") => `(tactic| (with_reducible refine ws_seq ?_; with_reducible refine ws_asg ?_))
local macro_rules | `(tactic| walk_at "wsi") => `(tactic| (with_reducible refine ws_seq ?_; with_reducible refine ws_if ?_))
local macro_rules | `(tactic| walk_at "wsf") => `(tactic| (with_reducible refine ws_seq ?_; with_reducible refine ws_for ?_))
local macro_rules | `(tactic| walk_at "wsn") => `(tactic| with_reducible refine ws_next ?_)
local macro_rules | `(tactic| walk_at "wpe") => `(tactic| repeat (first | walk_at "wp1e" | walk_at "wp2" | walk_at "wpx"))
local macro_rules | `(tactic| walk_at "wps") => `(tactic| repeat (first | walk_at "wp1" | walk_at "wp2" | walk_at "wpx"))
section
variable {cal : Nat → List D → M D} {S : Store} {L : Store}
end
end Sx
namespace Sx
open PySem L2 Ev Bd Sp Rg Wp Ty Xr Pp Tl
local macro_rules | `(tactic| walk_at "wp1e") => `(tactic| first | with_reducible refine we_c ?_ | with_reducible refine we_op ?_ | with_reducible refine we_un ?_ | with_reducible refine we_callV ?_ | with_reducible refine we_cons ?_ | with_reducible refine we_nil ?_ | with_reducible refine we_asB ?_ | with_reducible refine we_tru ?_ | with_reducible refine we_and ?_ | with_reducible refine we_or ?_ | with_reducible refine we_not ?_ | with_reducible refine we_if ?_ | with_reducible refine wt_and ?_ | with_reducible refine wt_or ?_ | with_reducible refine wt_not ?_ | with_reducible refine wt_yes ?_ | with_reducible refine we_chain ?_ | with_reducible refine we_fld ?_ | with_reducible refine we_isi ?_ | with_reducible refine we_mb ?_ | with_reducible refine we_frz ?_ | with_reducible refine we_cut ?_ | with_reducible refine we_oN ?_ | with_reducible refine we_oS ?_ | with_reducible refine we_any ?_ | with_reducible refine we_star ?_ | with_reducible refine we_lc ?_ | with_reducible refine we_R1 ?_ | with_reducible refine we_R2 ?_ | with_reducible refine we_rg ?_ | with_reducible refine we_enu ?_ | with_reducible refine we_zip ?_ | with_reducible refine we_tup ?_ | with_reducible refine we_lst ?_ | with_reducible refine we_lstC ?_ | with_reducible refine we_cal ?_ | with_reducible refine wg_nm ?_ | with_reducible refine wg_nl ?_ | with_reducible refine wg_cs ?_ | ((with_reducible refine wg_istp ?_); refine wg_tp rfl ?_) | with_reducible refine wg_sb ?_)
local macro_rules | `(tactic| walk_at "wp1s") => `(tactic| first | with_reducible refine ws_seq ?_ | with_reducible refine ws_next ?_ | with_reducible refine ws_cnt ?_ | with_reducible refine ws_brk ?_ | with_reducible refine ws_retN ?_ | with_reducible refine ws_ret ?_ | with_reducible refine ws_expr ?_ | with_reducible refine ws_if ?_ | with_reducible refine ws_asg ?_ | with_reducible refine ws_par2 ?_ | with_reducible refine ws_par3 ?_ | with_reducible refine ws_for ?_)
local macro_rules | `(tactic| walk_at "wp1") => `(tactic| first | walk_at "wp1e" | walk_at "wp1s")
local macro_rules | `(tactic| walk_at "noslf") => `(tactic| first | (intro h; cases h; done) | assumption | nofun)
local macro_rules | `(tactic| walk_at "wp2") => `(tactic| first | ((with_reducible refine we_isv ?_); refine we_var rfl (by walk_at "noslf") ?_) | with_reducible refine br_t ?_ | with_reducible refine br_f ?_ | refine ⟨_, rfl, br_t ?_⟩ | refine ⟨_, rfl, br_f ?_⟩)
local macro_rules | `(tactic| walk_at "wpx") => `(tactic| first | with_reducible refine x_bl ?_ | with_reducible refine t_bl ?_ | with_reducible refine t_lst ?_ | with_reducible refine t_tup ?_ | with_reducible refine t_int ?_ | with_reducible refine t_non ?_ | with_reducible refine a_lst ?_ | with_reducible refine a_tup ?_ | with_reducible refine s_lst ?_ | with_reducible refine s_tup ?_ | with_reducible refine br_not ?_ | with_reducible refine we_lft pAdd_ii ?_ | with_reducible refine we_lft pSub_ii ?_ | with_reducible refine we_lft pLt_ii ?_ | with_reducible refine we_lft pLe_ii ?_ | with_reducible refine we_lft pGt_ii ?_ | with_reducible refine we_lft pGe_ii ?_ | with_reducible refine we_lft pEq_ii ?_ | with_reducible refine we_lft pNe_ii ?_ | with_reducible refine we_lft len_lI ?_ | with_reducible refine we_lft len_tI ?_ | with_reducible refine we_lft len_rL ?_ | with_reducible refine we_lft len_rT ?_ | with_reducible refine we_lft len_lo ?_ | with_reducible refine we_lft pLen_lst ?_ | with_reducible refine we_lft pLen_tup ?_ | with_reducible refine we_lft pInt_i ?_ | with_reducible refine we_lft pInt_b ?_ | with_reducible refine we_lft all_ok ?_ | with_reducible refine we_lft any_ok ?_ | with_reducible refine we_lft sum_lI ?_ | with_reducible refine we_dT ?_ | with_reducible refine we_lft neg_i ?_ | with_reducible refine x_int ?_ | with_reducible refine len_nil2 ?_ | ((with_reducible refine len_isl ?_); refine len_lit rfl ?_))
local macro_rules | `(tactic| walk_at "wsa") => `(tactic| (with_reducible refine ws_seq ?_; with_reducible refine ws_asg ?_))
local macro_rules | `(tactic| walk_at "wsi") => `(tactic| (with_reducible refine ws_seq ?_; with_reducible refine ws_if ?_))
local macro_rules | `(tactic| walk_at "wsf") => `(tactic| (with_reducible refine ws_seq ?_; with_reducible refine ws_for ?_))
local macro_rules | `(tactic| walk_at "wsn") => `(tactic| with_reducible refine ws_next ?_)
local macro_rules | `(tactic| walk_at "wpe") => `(tactic| repeat (first | walk_at "wp1e" | walk_at "wp2" | walk_at "wpx"))
local macro_rules | `(tactic| walk_at "wps") => `(tactic| repeat (first | walk_at "wp1" | walk_at "wp2" | walk_at "wpx"))
section
variable {cal : Nat → List D → M D} {S : Store} {L : Store}
end
end Sx
namespace Bd
open PySem L2 Ev Xm
def b__law_words (cal : Nat → List D → M D) : MS :=
    (sSeq (sAsg (eLstC aNil) (gNm 2))
    (sSeq (sFor (iR1 (aCons (eVar 1) aNil)) (gNm 3) (sSeq (sAsg (eCal (cal 303) (aCons (eVar 0) aNil)) (gNm 4))
    (sSeq (sIf (tAndM (fun δ => asB (eOp pNe (eVar 2) (eLstC aNil) δ)) (fun δ => asB (eOp pEq (eCal (cal 3) (aCons (eVar 0) (aCons (eC (.int 3)) aNil))) (eC (.int 0)) δ))) (sAsg (eCut (eOp pAdd (eOp pIx (eVar 2) (eCal (cal 3) (aCons (eVar 0) (aCons (eCallV (pLen) (aCons (eVar 2) aNil)) aNil)))) (eVar 4)) none (some (eC (.int 8)))) (gNm 4)) sNext)
    (sSeq (sAsg (eOp pAdd (eLst (aCons (eVar 4) aNil)) (eLc newL (iAny (eC (.str "abcdefghijk"))) (uNm 6) tYesM (eOp pAdd (eCut (eVar 4) none (some (eC (.int 7)))) (eVar 6)) [6])) (gNm 5))
    (sExpr (eMB "list" pAppend (eVar 2) (aCons (eOp pIx (eLc newL (iAny (eVar 5)) (uNm 6) (fun δ => asB (eOp pNotIn (eVar 6) (eVar 2) δ)) (eVar 6) [6]) (eC (.int 0))) aNil)))))))
    (sRet (eFrz (eVar 2)))))
def b__law_word (cal : Nat → List D → M D) : MS :=
    (sRet (eMB "str" pJoin (eC (.str "")) (aCons (eLc newL (iR1 (aCons (eOp pAdd (eC (.int 1)) (eCal (cal 3) (aCons (eVar 0) (aCons (eC (.int 8)) aNil)))) aNil)) (uNm 1) tYesM (eOp pIx (eC (.str "abcdefghijklmnopqrstuvwxyz")) (eCal (cal 3) (aCons (eVar 0) (aCons (eC (.int 26)) aNil)))) [1]) aNil)))
def b_rows_with (cal : Nat → List D → M D) : MS :=
    (sRet (eLc newL (iAny (eVar 0)) (uNm 3) tYesM (eLc newL (iAny (eVar 1)) (uNm 2) tYesM (eCallV pInt (aCons (eOp pIn (eVar 2) (eVar 3)) aNil)) [2]) [3]))
def b_ties_in (cal : Nat → List D → M D) : MS :=
    (sSeq (sIf (tNotM (fun δ => tru ((eIsi (isiT isi) (.blt "str") (eVar 0)) δ))) (sRet (eC .non)) sNext)
    (sSeq (sAsg (eLc newL (iAny (eMB "str" pSplit (eVar 0) (aCons (eC (.str "\n")) aNil))) (uNm 2) tYesM (eMB "str" pSplit (eVar 2) (aCons (eC (.str " ")) aNil)) [2]) (gNm 1))
    (sSeq (sIf (tOrM (fun δ => asB (eOp pGt (eCallV (pLen) (aCons (eVar 1) aNil)) (eC (.int 8)) δ)) (tNotM (fun δ => tru ((eCallV (pAll true) (aCons (eLc newL (iAny (eVar 1)) (uNm 3) tYesM (eOp pEq (eCallV (pLen) (aCons (eVar 3) aNil)) (eC (.int 2))) [3]) aNil)) δ)))) (sRet (eC .non)) sNext)
    (sRet (eIf (fun δ => tru ((eCallV (pAll true) (aCons (eLc newL (iAny (eVar 1)) (uTl 2 (uCs (uNm 4) (uCs (uNm 5) uNl))) tYesM (eAnd (eCal (cal 299) (aCons (eVar 4) aNil)) (eAnd (eCal (cal 299) (aCons (eVar 5) aNil)) (eOp pNe (eVar 4) (eVar 5)))) [4, 5]) aNil)) δ)) (eVar 1) (eC .non))))))
def b_is_word (cal : Nat → List D → M D) : MS :=
    (sRet (eAnd (eIsi (isiT isi) (.blt "str") (eVar 0)) (eAnd (eChain pLe pLe (eC (.int 1)) (eCallV (pLen) (aCons (eVar 0) aNil)) (eC (.int 8))) (eCallV (pAll true) (aCons (eLc newL (iAny (eVar 0)) (uNm 1) tYesM (eOp pIn (eVar 1) (eC (.str "abcdefghijklmnopqrstuvwxyz"))) [1]) aNil)))))
end Bd
namespace Sw
open PySem L2 Ev Bd Sp Rg Wp Ty Xr Pp Sx
theorem sp_len : (" " : Str).length = 1 := by decide +kernel
theorem sp_tl : TL.tl (" " : Str) = [32] := by decide +kernel
theorem wtS_join : ∀ L : List Str, wt L ≤ (Str.join " " L).length + 1
  | [] => by simp [wt]
  | [x] => by rw [wt_cons, wt_nil]; show _ ≤ x.length + 1; omega
  | x :: y :: r => by
    have := wtS_join (y :: r)
    show _ ≤ (x ++ " " ++ Str.join " " (y :: r)).length + 1
    rw [Str.length_append, Str.length_append, sp_len, wt_cons]
    omega
def wds (s : Str) : List Str := Txt.split s " "
theorem wds_join {s : Str} : Str.join " " (wds s) = s := StrLaws.join_split s " "
theorem wds_wt {s : Str} : wt (wds s) ≤ s.length + 1 := by
  have := wtS_join (wds s)
  rwa [wds_join] at this
theorem split_wds {S : Store} {s : Str} (h : s.length ≤ 100000) : pSplit (.str s) [.str " "] S = some (.lst ((wds s).map D.str), S) := by
  have h1 : ((" " : Str).length == 0) = false := by decide +kernel
  have h2 : s.length + 2 ≤ sizeLine := small (by omega)
  have h3 := wds_wt (s := s)
  have hl : (wds s).length ≤ wt (wds s) := by unfold wt; omega
  have hL : ((wds s).map D.str).length ≤ sizeLine := by rw [List.length_map]; exact small (by omega)
  simp only [pSplit, h1, h2, and_self, if_true]
  exact newL_ev hL
def abc : List Nat := TL.tl "abcdefghijklmnopqrstuvwxyz"
/-- a name -/
def isN (x : Str) : Bool := (decide (1 ≤ x.length) && decide (x.length ≤ 8)) && (TL.tl x).all fun c => decide (c ∈ abc)
def tieOk (t : List Str) : Bool := decide (t.length = 2) && (isN (t.getD 0 "") && (isN (t.getD 1 "") && decide (t.getD 0 "" ≠ t.getD 1 "")))
def ties (s : Str) : List (List Str) := (lns s).map wds
def addN (ns : List Str) (t : List Str) : List Str := ns ++ t.filter fun x => !decide (x ∈ ns)
def namesOf (ts : List (List Str)) : List Str := ts.foldl addN []
def webR (ts : List (List Str)) : Rw := ts.map fun t => (namesOf ts).map fun x => if x ∈ t then 1 else 0
structure WebOk (s : Str) : Prop where
  h8 : (ties s).length ≤ 8
  ok : ∀ t ∈ ties s, tieOk t = true
  n8 : (namesOf (ties s)).length ≤ 8
theorem tieOk_two {t : List Str} (h : tieOk t = true) : ∃ a b, t = [a, b] ∧ isN a = true ∧ isN b = true ∧ a ≠ b := by
  unfold tieOk at h
  rw [Bool.and_eq_true, decide_eq_true_eq] at h
  obtain ⟨h1, h2⟩ := h
  match t, h1 with
  | [a, b], _ =>
    simp only [Bool.and_eq_true, decide_eq_true_eq] at h2
    exact ⟨a, b, rfl, h2.1, h2.2.1, h2.2.2⟩
theorem addN_mem {ns t : List Str} {x : Str} : x ∈ addN ns t ↔ x ∈ ns ∨ x ∈ t := by
  unfold addN
  rw [List.mem_append, List.mem_filter]
  constructor
  · rintro (h | h)
    · exact .inl h
    · exact .inr h.1
  · rintro (h | h)
    · exact .inl h
    · by_cases hx : x ∈ ns
      · exact .inl hx
      · exact .inr ⟨h, by simp [hx]⟩
theorem names_mem : ∀ {ts : List (List Str)} {ns : List Str} {x : Str}, x ∈ ts.foldl addN ns ↔ x ∈ ns ∨ ∃ t ∈ ts, x ∈ t
  | [], ns, x => by simp
  | t :: ts, ns, x => by
    rw [List.foldl_cons, names_mem, addN_mem]
    constructor
    · rintro ((h | h) | ⟨u, hu, h⟩)
      · exact .inl h
      · exact .inr ⟨t, List.mem_cons_self .., h⟩
      · exact .inr ⟨u, List.mem_cons_of_mem _ hu, h⟩
    · rintro (h | ⟨u, hu, h⟩)
      · exact .inl (.inl h)
      · rcases List.mem_cons.mp hu with rfl | hu
        · exact .inl (.inr h)
        · exact .inr ⟨u, hu, h⟩
theorem web_full {s : Str} (W : WebOk s) : Full (ties s).length (namesOf (ties s)).length (webR (ties s)) := by
  have tl : 0 < (ties s).length := by unfold ties; rw [List.length_map]; exact lns_ne
  have two : ∀ t ∈ ties s, ∃ a, a ∈ t ∧ a ∈ namesOf (ties s) := fun t ht => by
    obtain ⟨a, b, rfl, _⟩ := tieOk_two (W.ok t ht)
    exact ⟨a, by simp, names_mem.mpr (.inr ⟨_, ht, by simp⟩)⟩
  have n1 : 0 < (namesOf (ties s)).length := by
    obtain ⟨a, _, h⟩ := two _ (List.getElem_mem tl)
    exact List.length_pos_of_mem h
  refine ⟨by unfold webR; rw [List.length_map], fun r hr => ?_, fun r hr => ?_, fun k hk => ?_, tl, W.h8, n1, W.n8⟩
  · obtain ⟨t, ht, rfl⟩ := List.mem_map.mp hr
    refine ⟨by rw [List.length_map], fun i hi => ?_⟩
    obtain ⟨x, _, rfl⟩ := List.mem_map.mp hi
    split <;> simp
  · obtain ⟨t, ht, rfl⟩ := List.mem_map.mp hr
    obtain ⟨a, h1, h2⟩ := two t ht
    exact List.mem_map.mpr ⟨a, h2, if_pos h1⟩
  · have m := List.getElem_mem hk
    rcases names_mem.mp m with h | ⟨t, ht, h⟩
    · simp at h
    · refine ⟨_, List.mem_map.mpr ⟨t, ht, rfl⟩, ?_⟩
      rw [List.getElem?_map, List.getElem?_eq_getElem hk, Option.map_some, if_pos h]
end Sw
namespace Sw
open PySem L2 Ev Bd Sp Rg Wp Ty Xr Pp Sx
local macro_rules | `(tactic| walk_at "wp1e") => `(tactic| first | with_reducible refine we_c ?_ | with_reducible refine we_op ?_ | with_reducible refine we_un ?_ | with_reducible refine we_callV ?_ | with_reducible refine we_cons ?_ | with_reducible refine we_nil ?_ | with_reducible refine we_asB ?_ | with_reducible refine we_tru ?_ | with_reducible refine we_and ?_ | with_reducible refine we_or ?_ | with_reducible refine we_not ?_ | with_reducible refine we_if ?_ | with_reducible refine wt_and ?_ | with_reducible refine wt_or ?_ | with_reducible refine wt_not ?_ | with_reducible refine wt_yes ?_ | with_reducible refine we_chain ?_ | with_reducible refine we_fld ?_ | with_reducible refine we_isi ?_ | with_reducible refine we_mb ?_ | with_reducible refine we_frz ?_ | with_reducible refine we_cut ?_ | with_reducible refine we_oN ?_ | with_reducible refine we_oS ?_ | with_reducible refine we_any ?_ | with_reducible refine we_star ?_ | with_reducible refine we_lc ?_ | with_reducible refine we_R1 ?_ | with_reducible refine we_R2 ?_ | with_reducible refine we_rg ?_ | with_reducible refine we_enu ?_ | with_reducible refine we_zip ?_ | with_reducible refine we_tup ?_ | with_reducible refine we_lst ?_ | with_reducible refine we_lstC ?_ | with_reducible refine we_cal ?_ | with_reducible refine wg_nm ?_ | with_reducible refine wg_nl ?_ | with_reducible refine wg_cs ?_ | ((with_reducible refine wg_istp ?_); refine wg_tp rfl ?_) | with_reducible refine wg_sb ?_)
local macro_rules | `(tactic| walk_at "wp1s") => `(tactic| first | with_reducible refine ws_seq ?_ | with_reducible refine ws_next ?_ | with_reducible refine ws_cnt ?_ | with_reducible refine ws_brk ?_ | with_reducible refine ws_retN ?_ | with_reducible refine ws_ret ?_ | with_reducible refine ws_expr ?_ | with_reducible refine ws_if ?_ | with_reducible refine ws_asg ?_ | with_reducible refine ws_par2 ?_ | with_reducible refine ws_par3 ?_ | with_reducible refine ws_for ?_)
local macro_rules | `(tactic| walk_at "wp1") => `(tactic| first | walk_at "wp1e" | walk_at "wp1s")
local macro_rules | `(tactic| walk_at "noslf") => `(tactic| first | (intro h; cases h; done) | assumption | nofun)
local macro_rules | `(tactic| walk_at "wp2") => `(tactic| first | ((with_reducible refine we_isv ?_); refine we_var rfl (by walk_at "noslf") ?_) | with_reducible refine br_t ?_ | with_reducible refine br_f ?_ | refine ⟨_, rfl, br_t ?_⟩ | refine ⟨_, rfl, br_f ?_⟩)
local macro_rules | `(tactic| walk_at "wpx") => `(tactic| first | with_reducible refine x_bl ?_ | with_reducible refine t_bl ?_ | with_reducible refine t_lst ?_ | with_reducible refine t_tup ?_ | with_reducible refine t_int ?_ | with_reducible refine t_non ?_ | with_reducible refine a_lst ?_ | with_reducible refine a_tup ?_ | with_reducible refine s_lst ?_ | with_reducible refine s_tup ?_ | with_reducible refine br_not ?_ | with_reducible refine we_lft pAdd_ii ?_ | with_reducible refine we_lft pSub_ii ?_ | with_reducible refine we_lft pLt_ii ?_ | with_reducible refine we_lft pLe_ii ?_ | with_reducible refine we_lft pGt_ii ?_ | with_reducible refine we_lft pGe_ii ?_ | with_reducible refine we_lft pEq_ii ?_ | with_reducible refine we_lft pNe_ii ?_ | with_reducible refine we_lft len_lI ?_ | with_reducible refine we_lft len_tI ?_ | with_reducible refine we_lft len_rL ?_ | with_reducible refine we_lft len_rT ?_ | with_reducible refine we_lft len_lo ?_ | with_reducible refine we_lft pLen_lst ?_ | with_reducible refine we_lft pLen_tup ?_ | with_reducible refine we_lft pInt_i ?_ | with_reducible refine we_lft pInt_b ?_ | with_reducible refine we_lft all_ok ?_ | with_reducible refine we_lft any_ok ?_ | with_reducible refine we_lft sum_lI ?_ | with_reducible refine we_dT ?_ | with_reducible refine we_lft neg_i ?_ | with_reducible refine x_int ?_ | with_reducible refine len_nil2 ?_ | ((with_reducible refine len_isl ?_); refine len_lit rfl ?_))
local macro_rules | `(tactic| walk_at "wsa") => `(tactic| (with_reducible refine ws_seq ?_; with_reducible refine ws_asg ?_))
local macro_rules | `(tactic| walk_at "wsi") => `(tactic| (with_reducible refine ws_seq ?_; with_reducible refine ws_if ?_))
local macro_rules | `(tactic| walk_at "wsf") => `(tactic| (with_reducible refine ws_seq ?_; with_reducible refine ws_for ?_))
local macro_rules | `(tactic| walk_at "wsn") => `(tactic| with_reducible refine ws_next ?_)
local macro_rules | `(tactic| walk_at "wpe") => `(tactic| repeat (first | walk_at "wp1e" | walk_at "wp2" | walk_at "wpx"))
local macro_rules | `(tactic| walk_at "wps") => `(tactic| repeat (first | walk_at "wp1" | walk_at "wp2" | walk_at "wpx"))
theorem ws_frzS {i : Nat} {ms : MS} {δ : En} {S S' : Store} {d d' : D} {P : Post} (h : δ[i]? = some (some d)) (hs : Xm.isSlf (some d) = false) (hf : frzD 4 d S = some (d', S')) (q : WS (ms (δ.set i (some d')) S') P) : WS (Xm.sFrzV i ms δ S) P := by
  unfold Xm.sFrzV
  rw [h]
  dsimp only
  rw [if_neg (by rw [hs]; exact Bool.false_ne_true), hf]
  exact q
section
variable {cal : Nat → List D → M D} {S : Store}
theorem inA {c : Nat} : pIn (.str ⟨#[c]⟩) (.str "abcdefghijklmnopqrstuvwxyz") S = some (.bl (decide (c ∈ abc)), S) := by
  simp [pIn, inD, Str.length, abc, TL.tl]
theorem word_ev {x : Str} (hx : x.length ≤ 100000) : WE (funM 2 1 (b_is_word cal) [.str x]) S fun d S' => S' = S ∧ d = .bl (isN x) := by
  unfold b_is_word
  refine we_fun rfl ?_
  show WS (sRet _ [some (.str x), none] S) _
  refine ws_ret ?_
  walk_at "wpe"
  refine ⟨_, _, rfl, rfl, ?_⟩
  refine t_bl ?_
  refine br_t ?_
  walk_at "wpe"
  refine we_lft (len_s (by omega)) ?_
  have nof : ¬ (1 ≤ x.length ∧ x.length ≤ 8) → isN x = false := fun h => by
    unfold isN
    by_cases h1 : 1 ≤ x.length
    · have h2 : ¬ x.length ≤ 8 := fun z => h ⟨h1, z⟩
      rw [decide_eq_false h2, Bool.and_false, Bool.false_and]
    · rw [decide_eq_false h1, Bool.false_and, Bool.false_and]
  refine we_lft pLe_ii ?_
  refine x_bl ?_
  refine br_dec (fun h1 => ?_) fun h1 => ?_
  rotate_left
  · refine t_bl ?_
    refine br_f ?_
    exact ⟨rfl, by rw [nof fun z => h1 (by omega)]⟩
  walk_at "wpe"
  refine br_dec (fun h2 => ?_) fun h2 => ?_
  rotate_left
  · exact ⟨rfl, by rw [nof fun z => h2 (by omega), decide_eq_false h2]⟩
  walk_at "wpe"
  refine ⟨(TL.tl x).map fun c => D.str ⟨#[c]⟩, rfl, ?_⟩
  have xl : (TL.tl x).length ≤ 8 := by rw [← TL.len_tl]; omega
  refine we_loopM (S := S) (fun c => D.str ⟨#[c]⟩) D.bl (fun c => decide (c ∈ abc)) (zs := TL.tl x) (by omega) (fun c hc => ?_) ?_
  · refine ⟨_, rfl, ?_⟩
    walk_at "wpe"
    exact we_lft inA ⟨rfl, rfl⟩
  refine we_newL (by rw [List.length_map, List.length_map]; exact small (by omega)) ?_
  walk_at "wpe"
  refine ⟨rfl, ?_⟩
  have a1 : 1 ≤ x.length := by omega
  have a2 : x.length ≤ 8 := by omega
  unfold isN
  rw [decide_eq_true a1, decide_eq_true a2, Bool.true_and, Bool.true_and, List.all_map]
  rfl
def tiesD (ts : List (List Str)) : D := .lst (ts.map fun t => .lst (t.map D.str))
theorem ties_ev {s : Str} (hs : s.length ≤ 100000) (h299 : ∀ x S, x.length ≤ 100000 → WE (cal 299 [.str x]) S fun d S' => S' = S ∧ d = .bl (isN x)) :
    WE (funM 6 1 (b_ties_in cal) [.str s]) S fun d S' => S' = S ∧ (((ties s).length ≤ 8 ∧ (∀ t ∈ ties s, tieOk t = true) ∧ d = tiesD (ties s)) ∨ (¬ ((ties s).length ≤ 8 ∧ ∀ t ∈ ties s, tieOk t = true) ∧ d = .non)) := by
  have wl := lns_wt (s := s)
  have lle : ∀ l ∈ lns s, l.length ≤ 100000 := fun l hl => by have := wt_mem hl; omega
  have llen0 : (lns s).length ≤ wt (lns s) := by unfold wt; omega
  have tlen : (ties s).length = (lns s).length := by unfold ties; rw [List.length_map]
  have wle : ∀ t ∈ ties s, t.length ≤ 100001 ∧ ∀ x ∈ t, x.length ≤ 100000 := fun t ht => by
    obtain ⟨l, hl, rfl⟩ := List.mem_map.mp ht
    have := lle l hl
    have h3 := wds_wt (s := l)
    have h4 : (wds l).length ≤ wt (wds l) := by unfold wt; omega
    exact ⟨by omega, fun x hx => by have := wt_mem hx; omega⟩
  unfold b_ties_in
  refine we_fun rfl ?_
  show WS (sSeq _ _ [some (.str s), none, none, none, none, none] S) _
  walk_at "wsi"
  walk_at "wpe"
  refine ⟨_, _, rfl, rfl, ?_⟩
  refine t_bl ?_
  refine br_f ?_
  walk_at "wsn"
  walk_at "wsa"
  walk_at "wpe"
  refine ⟨rfl, ?_⟩
  walk_at "wpe"
  refine we_lft (split_lns hs) ?_
  refine ⟨_, rfl, ?_⟩
  refine we_loopM (S := S) D.str (fun t : List Str => D.lst (t.map D.str)) wds (zs := lns s) (by omega) (fun l hl => ?_) ?_
  · refine ⟨_, rfl, ?_⟩
    walk_at "wpe"
    refine ⟨rfl, ?_⟩
    walk_at "wpe"
    exact we_lft (split_wds (lle l hl)) ⟨rfl, rfl⟩
  refine we_newL (by rw [List.length_map, List.length_map]; exact small (by omega)) ?_
  rw [show D.lst (((lns s).map wds).map fun t : List Str => D.lst (t.map D.str)) = tiesD (ties s) from rfl]
  refine wg_nm ?_
  walk_at "wsi"
  walk_at "wpe"
  have lenT : ∀ S, pLen [tiesD (ties s)] S = some (.int ((ties s).length : Int), S) := fun S => by
    unfold tiesD
    have hl : ((ties s).map fun t : List Str => D.lst (t.map D.str)).length ≤ sizeLine := by rw [List.length_map]; exact small (by omega)
    simp [pLen, seqOf, lstOf]
  refine we_lft (lenT S) ?_
  walk_at "wpe"
  refine br_dec (fun h8 => ?_) fun h8 => ?_
  · refine br_t ?_
    walk_at "wps"
    exact ⟨rfl, .inr ⟨fun z => by omega, rfl⟩⟩
  walk_at "wpe"
  refine ⟨_, rfl, ?_⟩
  refine we_loopM (S := S) (fun t : List Str => D.lst (t.map D.str)) D.bl (fun t => (t.length : Int) == 2) (zs := ties s) (by omega) (fun t ht => ?_) ?_
  · refine ⟨_, rfl, ?_⟩
    walk_at "wpe"
    exact ⟨rfl, by rw [List.length_map]⟩
  refine we_newL (by rw [List.length_map, List.length_map]; exact small (by omega)) ?_
  walk_at "wpe"
  rw [List.all_map]
  cases h2 : (ties s).all (id ∘ fun t => (t.length : Int) == 2) with
  | false =>
    refine br_f ?_
    walk_at "wps"
    refine ⟨rfl, .inr ⟨fun z => ?_, rfl⟩⟩
    have : (ties s).all (id ∘ fun t => (t.length : Int) == 2) = true := List.all_eq_true.mpr fun t ht => by
      obtain ⟨a, b, rfl, _⟩ := tieOk_two (z.2 t ht)
      rfl
    rw [this] at h2
    cases h2
  | true =>
    refine br_t ?_
    walk_at "wsn"
    have two : ∀ t ∈ ties s, ∃ a b, t = [a, b] := fun t ht => by
      have := List.all_eq_true.mp h2 t ht
      have hl : t.length = 2 := by simp at this; omega
      match t, hl with
      | [a, b], _ => exact ⟨a, b, rfl⟩
    walk_at "wps"
    refine ⟨_, rfl, ?_⟩
    refine we_loopM (S := S) (fun t : List Str => D.lst (t.map D.str)) D.bl tieOk (zs := ties s) (by omega) (fun t ht => ?_) ?_
    · obtain ⟨a, b, rfl⟩ := two t ht
      have hle := (wle _ ht).2
      have ha := hle a (by simp)
      have hb := hle b (by simp)
      have eok : tieOk [a, b] = (isN a && (isN b && decide (a ≠ b))) := rfl
      refine ⟨_, rfl, ?_⟩
      walk_at "wpe"
      refine we_imp (h299 a S ha) ?_
      rintro _ S1 ⟨e, rfl⟩
      subst e
      refine t_bl ?_
      rw [eok]
      cases isN a with
      | false => exact br_f ⟨rfl, rfl⟩
      | true =>
        refine br_t ?_
        walk_at "wpe"
        refine we_imp (h299 b S1 hb) ?_
        rintro _ S2 ⟨e, rfl⟩
        subst e
        refine t_bl ?_
        cases isN b with
        | false => exact br_f ⟨rfl, rfl⟩
        | true =>
          refine br_t ?_
          walk_at "wpe"
          refine we_lft (pNe_ss (S := S2)) ⟨rfl, ?_⟩
          by_cases h : a = b
          · subst h; simp
          · simp [h]
    refine we_newL (by rw [List.length_map, List.length_map]; exact small (by omega)) ?_
    walk_at "wpe"
    rw [List.all_map]
    rw [show (ties s).all (id ∘ tieOk) = (ties s).all tieOk from rfl]
    cases hal : (ties s).all tieOk with
    | true =>
      refine br_t ?_
      walk_at "wpe"
      exact ⟨rfl, .inl ⟨by omega, List.all_eq_true.mp hal, rfl⟩⟩
    | false =>
      refine br_f ?_
      walk_at "wpe"
      refine ⟨rfl, .inr ⟨fun z => ?_, rfl⟩⟩
      rw [List.all_eq_true.mpr z.2] at hal
      cases hal
end
end Sw
namespace Sw
open PySem L2 Ev Bd Sp Rg Wp Ty Xr Pp Sx
local macro_rules | `(tactic| walk_at "wp1e") => `(tactic| first | with_reducible refine we_c ?_ | with_reducible refine we_op ?_ | with_reducible refine we_un ?_ | with_reducible refine we_callV ?_ | with_reducible refine we_cons ?_ | with_reducible refine we_nil ?_ | with_reducible refine we_asB ?_ | with_reducible refine we_tru ?_ | with_reducible refine we_and ?_ | with_reducible refine we_or ?_ | with_reducible refine we_not ?_ | with_reducible refine we_if ?_ | with_reducible refine wt_and ?_ | with_reducible refine wt_or ?_ | with_reducible refine wt_not ?_ | with_reducible refine wt_yes ?_ | with_reducible refine we_chain ?_ | with_reducible refine we_fld ?_ | with_reducible refine we_isi ?_ | with_reducible refine we_mb ?_ | with_reducible refine we_frz ?_ | with_reducible refine we_cut ?_ | with_reducible refine we_oN ?_ | with_reducible refine we_oS ?_ | with_reducible refine we_any ?_ | with_reducible refine we_star ?_ | with_reducible refine we_lc ?_ | with_reducible refine we_R1 ?_ | with_reducible refine we_R2 ?_ | with_reducible refine we_rg ?_ | with_reducible refine we_enu ?_ | with_reducible refine we_zip ?_ | with_reducible refine we_tup ?_ | with_reducible refine we_lst ?_ | with_reducible refine we_lstC ?_ | with_reducible refine we_cal ?_ | with_reducible refine wg_nm ?_ | with_reducible refine wg_nl ?_ | with_reducible refine wg_cs ?_ | ((with_reducible refine wg_istp ?_); refine wg_tp rfl ?_) | with_reducible refine wg_sb ?_)
local macro_rules | `(tactic| walk_at "wp1s") => `(tactic| first | with_reducible refine ws_seq ?_ | with_reducible refine ws_next ?_ | with_reducible refine ws_cnt ?_ | with_reducible refine ws_brk ?_ | with_reducible refine ws_retN ?_ | with_reducible refine ws_ret ?_ | with_reducible refine ws_expr ?_ | with_reducible refine ws_if ?_ | with_reducible refine ws_asg ?_ | with_reducible refine ws_par2 ?_ | with_reducible refine ws_par3 ?_ | with_reducible refine ws_for ?_)
local macro_rules | `(tactic| walk_at "wp1") => `(tactic| first | walk_at "wp1e" | walk_at "wp1s")
local macro_rules | `(tactic| walk_at "noslf") => `(tactic| first | (intro h; cases h; done) | assumption | nofun)
local macro_rules | `(tactic| walk_at "wp2") => `(tactic| first | ((with_reducible refine we_isv ?_); refine we_var rfl (by walk_at "noslf") ?_) | with_reducible refine br_t ?_ | with_reducible refine br_f ?_ | refine ⟨_, rfl, br_t ?_⟩ | refine ⟨_, rfl, br_f ?_⟩)
local macro_rules | `(tactic| walk_at "wpx") => `(tactic| first | with_reducible refine x_bl ?_ | with_reducible refine t_bl ?_ | with_reducible refine t_lst ?_ | with_reducible refine t_tup ?_ | with_reducible refine t_int ?_ | with_reducible refine t_non ?_ | with_reducible refine a_lst ?_ | with_reducible refine a_tup ?_ | with_reducible refine s_lst ?_ | with_reducible refine s_tup ?_ | with_reducible refine br_not ?_ | with_reducible refine we_lft pAdd_ii ?_ | with_reducible refine we_lft pSub_ii ?_ | with_reducible refine we_lft pLt_ii ?_ | with_reducible refine we_lft pLe_ii ?_ | with_reducible refine we_lft pGt_ii ?_ | with_reducible refine we_lft pGe_ii ?_ | with_reducible refine we_lft pEq_ii ?_ | with_reducible refine we_lft pNe_ii ?_ | with_reducible refine we_lft len_lI ?_ | with_reducible refine we_lft len_tI ?_ | with_reducible refine we_lft len_rL ?_ | with_reducible refine we_lft len_rT ?_ | with_reducible refine we_lft len_lo ?_ | with_reducible refine we_lft pLen_lst ?_ | with_reducible refine we_lft pLen_tup ?_ | with_reducible refine we_lft pInt_i ?_ | with_reducible refine we_lft pInt_b ?_ | with_reducible refine we_lft all_ok ?_ | with_reducible refine we_lft any_ok ?_ | with_reducible refine we_lft sum_lI ?_ | with_reducible refine we_dT ?_ | with_reducible refine we_lft neg_i ?_ | with_reducible refine x_int ?_ | with_reducible refine len_nil2 ?_ | ((with_reducible refine len_isl ?_); refine len_lit rfl ?_))
local macro_rules | `(tactic| walk_at "wsa") => `(tactic| (with_reducible refine ws_seq ?_; with_reducible refine ws_asg ?_))
local macro_rules | `(tactic| walk_at "wsi") => `(tactic| (with_reducible refine ws_seq ?_; with_reducible refine ws_if ?_))
local macro_rules | `(tactic| walk_at "wsf") => `(tactic| (with_reducible refine ws_seq ?_; with_reducible refine ws_for ?_))
local macro_rules | `(tactic| walk_at "wsn") => `(tactic| with_reducible refine ws_next ?_)
local macro_rules | `(tactic| walk_at "wpe") => `(tactic| repeat (first | walk_at "wp1e" | walk_at "wp2" | walk_at "wpx"))
local macro_rules | `(tactic| walk_at "wps") => `(tactic| repeat (first | walk_at "wp1" | walk_at "wp2" | walk_at "wpx"))
section
variable {cal : Nat → List D → M D} {S : Store}
theorem ext_ref {n : Nat} {xs ys : List D} (h : S[n]? = some (some (.lst xs))) (hl : xs.length + ys.length ≤ 1000000) : pExtend (.ref n) [.lst ys] S = some (.non, S.set n (some (.lst (xs ++ ys)))) := by
  have : xs.length + ys.length ≤ sizeLine := small hl
  simp only [pExtend, h, this, if_true]
theorem toPS_ss : ∀ L : List Str, toPSs S (L.map D.str) = some (L.map PyData.str)
  | [] => rfl
  | x :: L => by
    have := toPS_ss L
    simp only [List.map_cons, toPSs, toPS, this, Option.bind_some, Option.map_some]
theorem toP_ss : ∀ L : List Str, toPs (L.map D.str) = some (L.map PyData.str)
  | [] => rfl
  | x :: L => by
    have := toP_ss L
    simp only [List.map_cons, toPs, toP, this, Option.bind_some, Option.map_some]
theorem any_ss {x : Str} : ∀ L : List Str, ((L.map PyData.str).any fun b => PyData.eqv b (.str x)) = decide (x ∈ L)
  | [] => rfl
  | y :: L => by
    rw [List.map_cons, List.any_cons, any_ss L, PyData.eqv]
    by_cases h : y = x
    · subst h; simp
    · have h' : ¬ x = y := fun e => h e.symm
      by_cases h2 : x ∈ L <;> simp [h, h', h2]
theorem depth_s (x : Str) : (PyData.str x).depth ≤ 60 := by simp [PyData.depth]
theorem notin_ref {x : Str} {L : List Str} {n : Nat} (h : S[n]? = some (some (.lst (L.map D.str)))) : pNotIn (.str x) (.ref n) S = some (.bl (!decide (x ∈ L)), S) := by
  have e2 : toPS S (.ref n) = some (.list (L.map PyData.str)) := by simp [toPS, plstOf, h, toP_ss]
  have e1 : toPS S (.str x) = some (.str x) := rfl
  simp only [pNotIn, inD, e1, e2, depth_s, if_true, any_ss, Option.map_some]
theorem in_lst {x : Str} {L : List Str} : pIn (.str x) (.lst (L.map D.str)) S = some (.bl (decide (x ∈ L)), S) := by
  have e2 : toPS S (.lst (L.map D.str)) = some (.list (L.map PyData.str)) := by simp only [toPS, toPS_ss, Option.map_some]
  have e1 : toPS S (.str x) = some (.str x) := rfl
  simp only [pIn, inD, e1, e2, depth_s, if_true, any_ss, Option.map_some]
theorem notin_lst {x : Str} {L : List Str} : pNotIn (.str x) (.lst (L.map D.str)) S = some (.bl (!decide (x ∈ L)), S) := by
  have e2 : toPS S (.lst (L.map D.str)) = some (.list (L.map PyData.str)) := by simp only [toPS, toPS_ss, Option.map_some]
  have e1 : toPS S (.str x) = some (.str x) := rfl
  simp only [pNotIn, inD, e1, e2, depth_s, if_true, any_ss, Option.map_some]
theorem frz_ss {L : List Str} {n : Nat} (h : S[n]? = some (some (.lst (L.map D.str)))) : frzD 4 (.ref n) S = some (.lst (L.map D.str), S.set n none) := by
  have e : ∀ S : Store, frzDs 3 (L.map D.str) S = some (L.map D.str, S) := fun S => frzDs_id fun x hx S => by
    obtain ⟨r, _, rfl⟩ := List.mem_map.mp hx
    simp [frzD]
  simp only [frzD, h, e, Option.map_some]
theorem foldl_take {ts : List (List Str)} {k : Nat} (hk : k < ts.length) : (ts.take (k + 1)).foldl addN [] = addN ((ts.take k).foldl addN []) ts[k] := by
  rw [List.take_succ_eq_append_getElem hk, List.foldl_append]
  rfl
theorem names_len {ts : List (List Str)} (h2 : ∀ t ∈ ts, t.length = 2) : ∀ k, ((ts.take k).foldl addN []).length ≤ 2 * k
  | 0 => by simp
  | k + 1 => by
    have ih := names_len h2 k
    by_cases hk : k < ts.length
    · rw [foldl_take hk]
      have e : ∀ ns t : List Str, (addN ns t).length ≤ ns.length + t.length := fun ns t => by
        unfold addN
        rw [List.length_append]
        have := List.length_filter_le (fun x => !decide (x ∈ ns)) t
        omega
      have := e ((ts.take k).foldl addN []) ts[k]
      have := h2 _ (List.getElem_mem hk)
      omega
    · rw [List.take_of_length_le (by omega)] at ih ⊢
      omega
theorem rows_ev {ts : List (List Str)} {ns : List Str} (h1 : ts.length ≤ 1000) (h2 : ns.length ≤ 1000) : WE (funM 4 2 (b_rows_with cal) [tiesD ts, .lst (ns.map D.str)]) S fun d S' => S' = S ∧ d = rowsL (ts.map fun t => ns.map fun x => if x ∈ t then (1 : Int) else 0) := by
  unfold b_rows_with tiesD
  refine we_fun rfl ?_
  show WS (sRet _ [some (.lst (ts.map fun t : List Str => D.lst (t.map D.str))), some (.lst (ns.map D.str)), none, none] S) _
  refine ws_ret ?_
  walk_at "wpe"
  refine we_loopM (S := S) (fun t : List Str => D.lst (t.map D.str)) lI (fun t => ns.map fun x => if x ∈ t then (1 : Int) else 0) (zs := ts) (by omega) (fun t ht => ?_) ?_
  · refine ⟨_, rfl, ?_⟩
    walk_at "wpe"
    refine we_loopM (S := S) D.str D.int (fun x => if x ∈ t then (1 : Int) else 0) (zs := ns) (by omega) (fun x hx => ?_) ?_
    · refine ⟨_, rfl, ?_⟩
      walk_at "wpe"
      refine we_lft in_lst ?_
      walk_at "wpe"
      refine ⟨rfl, ?_⟩
      by_cases h : x ∈ t <;> simp [h]
    exact we_newL (by rw [List.length_map, List.length_map]; exact small (by omega)) ⟨rfl, rfl⟩
  exact we_newL (by rw [List.length_map, List.length_map]; exact small (by omega)) ⟨rfl, rfl⟩
end
end Sw
namespace Sw
open PySem L2 Ev Bd Sp Rg Wp Ty Xr Pp Sx
local macro_rules | `(tactic| walk_at "wp1e") => `(tactic| first | with_reducible refine we_c ?_ | with_reducible refine we_op ?_ | with_reducible refine we_un ?_ | with_reducible refine we_callV ?_ | with_reducible refine we_cons ?_ | with_reducible refine we_nil ?_ | with_reducible refine we_asB ?_ | with_reducible refine we_tru ?_ | with_reducible refine we_and ?_ | with_reducible refine we_or ?_ | with_reducible refine we_not ?_ | with_reducible refine we_if ?_ | with_reducible refine wt_and ?_ | with_reducible refine wt_or ?_ | with_reducible refine wt_not ?_ | with_reducible refine wt_yes ?_ | with_reducible refine we_chain ?_ | with_reducible refine we_fld ?_ | with_reducible refine we_isi ?_ | with_reducible refine we_mb ?_ | with_reducible refine we_frz ?_ | with_reducible refine we_cut ?_ | with_reducible refine we_oN ?_ | with_reducible refine we_oS ?_ | with_reducible refine we_any ?_ | with_reducible refine we_star ?_ | with_reducible refine we_lc ?_ | with_reducible refine we_R1 ?_ | with_reducible refine we_R2 ?_ | with_reducible refine we_rg ?_ | with_reducible refine we_enu ?_ | with_reducible refine we_zip ?_ | with_reducible refine we_tup ?_ | with_reducible refine we_lst ?_ | with_reducible refine we_lstC ?_ | with_reducible refine we_cal ?_ | with_reducible refine wg_nm ?_ | with_reducible refine wg_nl ?_ | with_reducible refine wg_cs ?_ | ((with_reducible refine wg_istp ?_); refine wg_tp rfl ?_) | with_reducible refine wg_sb ?_)
local macro_rules | `(tactic| walk_at "wp1s") => `(tactic| first | with_reducible refine ws_seq ?_ | with_reducible refine ws_next ?_ | with_reducible refine ws_cnt ?_ | with_reducible refine ws_brk ?_ | with_reducible refine ws_retN ?_ | with_reducible refine ws_ret ?_ | with_reducible refine ws_expr ?_ | with_reducible refine ws_if ?_ | with_reducible refine ws_asg ?_ | with_reducible refine ws_par2 ?_ | with_reducible refine ws_par3 ?_ | with_reducible refine ws_for ?_)
local macro_rules | `(tactic| walk_at "wp1") => `(tactic| first | walk_at "wp1e" | walk_at "wp1s")
local macro_rules | `(tactic| walk_at "noslf") => `(tactic| first | (intro h; cases h; done) | assumption | nofun)
local macro_rules | `(tactic| walk_at "wp2") => `(tactic| first | ((with_reducible refine we_isv ?_); refine we_var rfl (by walk_at "noslf") ?_) | with_reducible refine br_t ?_ | with_reducible refine br_f ?_ | refine ⟨_, rfl, br_t ?_⟩ | refine ⟨_, rfl, br_f ?_⟩)
local macro_rules | `(tactic| walk_at "wpx") => `(tactic| first | with_reducible refine x_bl ?_ | with_reducible refine t_bl ?_ | with_reducible refine t_lst ?_ | with_reducible refine t_tup ?_ | with_reducible refine t_int ?_ | with_reducible refine t_non ?_ | with_reducible refine a_lst ?_ | with_reducible refine a_tup ?_ | with_reducible refine s_lst ?_ | with_reducible refine s_tup ?_ | with_reducible refine br_not ?_ | with_reducible refine we_lft pAdd_ii ?_ | with_reducible refine we_lft pSub_ii ?_ | with_reducible refine we_lft pLt_ii ?_ | with_reducible refine we_lft pLe_ii ?_ | with_reducible refine we_lft pGt_ii ?_ | with_reducible refine we_lft pGe_ii ?_ | with_reducible refine we_lft pEq_ii ?_ | with_reducible refine we_lft pNe_ii ?_ | with_reducible refine we_lft len_lI ?_ | with_reducible refine we_lft len_tI ?_ | with_reducible refine we_lft len_rL ?_ | with_reducible refine we_lft len_rT ?_ | with_reducible refine we_lft len_lo ?_ | with_reducible refine we_lft pLen_lst ?_ | with_reducible refine we_lft pLen_tup ?_ | with_reducible refine we_lft pInt_i ?_ | with_reducible refine we_lft pInt_b ?_ | with_reducible refine we_lft all_ok ?_ | with_reducible refine we_lft any_ok ?_ | with_reducible refine we_lft sum_lI ?_ | with_reducible refine we_dT ?_ | with_reducible refine we_lft neg_i ?_ | with_reducible refine x_int ?_ | with_reducible refine len_nil2 ?_ | ((with_reducible refine len_isl ?_); refine len_lit rfl ?_))
local macro_rules | `(tactic| walk_at "wsa") => `(tactic| (with_reducible refine ws_seq ?_; with_reducible refine ws_asg ?_))
local macro_rules | `(tactic| walk_at "wsi") => `(tactic| (with_reducible refine ws_seq ?_; with_reducible refine ws_if ?_))
local macro_rules | `(tactic| walk_at "wsf") => `(tactic| (with_reducible refine ws_seq ?_; with_reducible refine ws_for ?_))
local macro_rules | `(tactic| walk_at "wsn") => `(tactic| with_reducible refine ws_next ?_)
local macro_rules | `(tactic| walk_at "wpe") => `(tactic| repeat (first | walk_at "wp1e" | walk_at "wp2" | walk_at "wpx"))
local macro_rules | `(tactic| walk_at "wps") => `(tactic| repeat (first | walk_at "wp1" | walk_at "wp2" | walk_at "wpx"))
section
variable {cal : Nat → List D → M D} {S : Store}
end
end Sw
namespace Sw
open PySem L2 Ev Bd Sp Rg Wp Ty Xr Pp Sx
local macro_rules | `(tactic| walk_at "wp1e") => `(tactic| first | with_reducible refine we_c ?_ | with_reducible refine we_op ?_ | with_reducible refine we_un ?_ | with_reducible refine we_callV ?_ | with_reducible refine we_cons ?_ | with_reducible refine we_nil ?_ | with_reducible refine we_asB ?_ | with_reducible refine we_tru ?_ | with_reducible refine we_and ?_ | with_reducible refine we_or ?_ | with_reducible refine we_not ?_ | with_reducible refine we_if ?_ | with_reducible refine wt_and ?_ | with_reducible refine wt_or ?_ | with_reducible refine wt_not ?_ | with_reducible refine wt_yes ?_ | with_reducible refine we_chain ?_ | with_reducible refine we_fld ?_ | with_reducible refine we_isi ?_ | with_reducible refine we_mb ?_ | with_reducible refine we_frz ?_ | with_reducible refine we_cut ?_ | with_reducible refine we_oN ?_ | with_reducible refine we_oS ?_ | with_reducible refine we_any ?_ | with_reducible refine we_star ?_ | with_reducible refine we_lc ?_ | with_reducible refine we_R1 ?_ | with_reducible refine we_R2 ?_ | with_reducible refine we_rg ?_ | with_reducible refine we_enu ?_ | with_reducible refine we_zip ?_ | with_reducible refine we_tup ?_ | with_reducible refine we_lst ?_ | with_reducible refine we_lstC ?_ | with_reducible refine we_cal ?_ | with_reducible refine wg_nm ?_ | with_reducible refine wg_nl ?_ | with_reducible refine wg_cs ?_ | ((with_reducible refine wg_istp ?_); refine wg_tp rfl ?_) | with_reducible refine wg_sb ?_)
local macro_rules | `(tactic| walk_at "wp1s") => `(tactic| first | with_reducible refine ws_seq ?_ | with_reducible refine ws_next ?_ | with_reducible refine ws_cnt ?_ | with_reducible refine ws_brk ?_ | with_reducible refine ws_retN ?_ | with_reducible refine ws_ret ?_ | with_reducible refine ws_expr ?_ | with_reducible refine ws_if ?_ | with_reducible refine ws_asg ?_ | with_reducible refine ws_par2 ?_ | with_reducible refine ws_par3 ?_ | with_reducible refine ws_for ?_)
local macro_rules | `(tactic| walk_at "wp1") => `(tactic| first | walk_at "wp1e" | walk_at "wp1s")
local macro_rules | `(tactic| walk_at "noslf") => `(tactic| first | (intro h; cases h; done) | assumption | nofun)
local macro_rules | `(tactic| walk_at "wp2") => `(tactic| first | ((with_reducible refine we_isv ?_); refine we_var rfl (by walk_at "noslf") ?_) | with_reducible refine br_t ?_ | with_reducible refine br_f ?_ | refine ⟨_, rfl, br_t ?_⟩ | refine ⟨_, rfl, br_f ?_⟩)
local macro_rules | `(tactic| walk_at "wpx") => `(tactic| first | with_reducible refine x_bl ?_ | with_reducible refine t_bl ?_ | with_reducible refine t_lst ?_ | with_reducible refine t_tup ?_ | with_reducible refine t_int ?_ | with_reducible refine t_non ?_ | with_reducible refine a_lst ?_ | with_reducible refine a_tup ?_ | with_reducible refine s_lst ?_ | with_reducible refine s_tup ?_ | with_reducible refine br_not ?_ | with_reducible refine we_lft pAdd_ii ?_ | with_reducible refine we_lft pSub_ii ?_ | with_reducible refine we_lft pLt_ii ?_ | with_reducible refine we_lft pLe_ii ?_ | with_reducible refine we_lft pGt_ii ?_ | with_reducible refine we_lft pGe_ii ?_ | with_reducible refine we_lft pEq_ii ?_ | with_reducible refine we_lft pNe_ii ?_ | with_reducible refine we_lft len_lI ?_ | with_reducible refine we_lft len_tI ?_ | with_reducible refine we_lft len_rL ?_ | with_reducible refine we_lft len_rT ?_ | with_reducible refine we_lft len_lo ?_ | with_reducible refine we_lft pLen_lst ?_ | with_reducible refine we_lft pLen_tup ?_ | with_reducible refine we_lft pInt_i ?_ | with_reducible refine we_lft pInt_b ?_ | with_reducible refine we_lft all_ok ?_ | with_reducible refine we_lft any_ok ?_ | with_reducible refine we_lft sum_lI ?_ | with_reducible refine we_dT ?_ | with_reducible refine we_lft neg_i ?_ | with_reducible refine x_int ?_ | with_reducible refine len_nil2 ?_ | ((with_reducible refine len_isl ?_); refine len_lit rfl ?_))
local macro_rules | `(tactic| walk_at "wsa") => `(tactic| (with_reducible refine ws_seq ?_; with_reducible refine ws_asg ?_))
local macro_rules | `(tactic| walk_at "wsi") => `(tactic| (with_reducible refine ws_seq ?_; with_reducible refine ws_if ?_))
local macro_rules | `(tactic| walk_at "wsf") => `(tactic| (with_reducible refine ws_seq ?_; with_reducible refine ws_for ?_))
local macro_rules | `(tactic| walk_at "wsn") => `(tactic| with_reducible refine ws_next ?_)
local macro_rules | `(tactic| walk_at "wpe") => `(tactic| repeat (first | walk_at "wp1e" | walk_at "wp2" | walk_at "wpx"))
local macro_rules | `(tactic| walk_at "wps") => `(tactic| repeat (first | walk_at "wp1" | walk_at "wp2" | walk_at "wpx"))
theorem isN_iff {x : Str} : isN x = true ↔ (1 ≤ x.length ∧ x.length ≤ 8) ∧ ∀ c ∈ TL.tl x, c ∈ abc := by
  unfold isN
  simp only [Bool.and_eq_true, decide_eq_true_eq, List.all_eq_true]
theorem isN_sm {x : Str} (h : isN x = true) : SmS 8 x := by
  obtain ⟨⟨_, h2⟩, h3⟩ := isN_iff.mp h
  have lt : ∀ c ∈ abc, c < 256 := by decide +kernel
  exact ⟨h2, fun c hc => lt c (h3 c hc)⟩
theorem tl_joinC (L : List Nat) : TL.tl (Txt.join "" (L.map fun c => (⟨#[c]⟩ : Str))) = L := by
  rw [TL.join_eq, TL.tl_join, show TL.tl ("" : Str) = [] from by decide +kernel, joinL_nil, List.map_map]
  induction L with
  | nil => rfl
  | cons c L ih =>
    rw [List.map_cons, List.flatten_cons, ih]
    rfl
theorem cutS_take {z : Str} {m : Nat} : TL.tl (cutS z none (some (m : Int))) = (TL.tl z).take m := by
  have hz := TL.len_tl z
  unfold cutS
  show ((TL.tl z).drop (HT.sIx z.length 0 none)).take (HT.sIx z.length z.length (some (m : Int)) - HT.sIx z.length 0 none) = _
  have e1 : HT.sIx z.length 0 none = 0 := rfl
  have e2 : HT.sIx z.length z.length (some (m : Int)) = min m z.length := by
    simp [HT.sIx]
    omega
  rw [e1, e2, List.drop_zero, Nat.sub_zero]
  by_cases h : m ≤ z.length
  · rw [Nat.min_eq_left h]
  · rw [Nat.min_eq_right (by omega), List.take_of_length_le (by omega), List.take_of_length_le (by omega)]
theorem isN_cut {a b : Str} (ha : isN a = true) (hb : isN b = true) : isN (cutS (a ++ b) none (some 8)) = true := by
  obtain ⟨⟨a1, a2⟩, a3⟩ := isN_iff.mp ha
  obtain ⟨⟨b1, b2⟩, b3⟩ := isN_iff.mp hb
  have e : TL.tl (cutS (a ++ b) none (some 8)) = (TL.tl a ++ TL.tl b).take 8 := by rw [show (8 : Int) = ((8 : Nat) : Int) from rfl, cutS_take, TL.tl_append]
  rw [TL.len_tl] at a1 b1
  refine isN_iff.mpr ⟨?_, fun c hc => ?_⟩
  · rw [TL.len_tl, e, List.length_take, List.length_append]
    omega
  · rw [e] at hc
    rcases List.mem_append.mp (List.mem_of_mem_take hc) with h | h
    · exact a3 c h
    · exact b3 c h
def w7 (w : Str) (c : Nat) : Str := cutS w none (some 7) ++ ⟨#[c]⟩
theorem tl_w7 {w : Str} {c : Nat} : TL.tl (w7 w c) = (TL.tl w).take 7 ++ [c] := by
  unfold w7
  rw [TL.tl_append, show (7 : Int) = ((7 : Nat) : Int) from rfl, cutS_take]
theorem isN_w7 {w : Str} {c : Nat} (hw : isN w = true) (hc : c ∈ abc) : isN (w7 w c) = true := by
  obtain ⟨⟨a1, a2⟩, a3⟩ := isN_iff.mp hw
  refine isN_iff.mpr ⟨?_, fun d hd => ?_⟩
  · rw [TL.len_tl, tl_w7, List.length_append, List.length_take, List.length_singleton]
    rw [TL.len_tl] at a1 a2
    omega
  · rw [tl_w7] at hd
    rcases List.mem_append.mp hd with h | h
    · exact a3 d (List.mem_of_mem_take h)
    · rw [List.mem_singleton.mp h]; exact hc
def abk : List Nat := TL.tl "abcdefghijk"
theorem w7_nodup (w : Str) : (abk.map (w7 w)).Nodup := by
  rw [List.nodup_iff_pairwise_ne, List.pairwise_map]
  have h : abk.Pairwise (· ≠ ·) := by decide +kernel
  refine h.imp fun {a b} hab e => hab ?_
  have := congrArg TL.tl e
  rw [tl_w7, tl_w7] at this
  have := List.append_cancel_left this
  simpa using this
def someW (w : Str) : List Str := w :: abk.map (w7 w)
theorem new_word {w : Str} {ns : List Str} (hn : ns.length ≤ 9) : (someW w).filter (fun x => !decide (x ∈ ns)) ≠ [] := fun e => by
  have all : ∀ x ∈ abk.map (w7 w), x ∈ ns := fun x hx => by
    have := List.filter_eq_nil_iff.mp e x (List.mem_cons_of_mem _ hx)
    simpa using this
  have := nodup_le (w7_nodup w) all
  rw [List.length_map] at this
  have l : abk.length = 11 := by decide +kernel
  omega
theorem isN_some {w : Str} (hw : isN w = true) : ∀ x ∈ someW w, isN x = true := fun x hx => by
  rcases List.mem_cons.mp hx with rfl | hx
  · exact hw
  · obtain ⟨c, hc, rfl⟩ := List.mem_map.mp hx
    have : ∀ c ∈ abk, c ∈ abc := by decide +kernel
    exact isN_w7 hw (this c hc)
section
variable {cal : Nat → List D → M D} {S : Store} {L : Store}
theorem we_takeF (hd : Tl.TakF L (cal 3)) {t : Nat} {m : Int} {Q : D → Store → Prop} (h : Tl.Tr L t S) (h0 : 0 < m) (h1 : m < 1073741824) (k : ∀ (f : Nat) S', (f : Int) < m → Tl.Tr L t S' → S'.length = S.length → (∀ j, j ≠ t → S'[j]? = S[j]?) → Q (.int f) S') : WE (cal 3 [.ref t, .int m]) S Q := by
  obtain ⟨f, x, e, hf, q⟩ := hd.tr h h0 h1
  exact we_ok e (k f _ hf q (by rw [List.length_set]) fun j hj => by rw [List.getElem?_set_ne (fun z => hj z.symm)])
theorem word1_ev (hd : Tl.TakF L (cal 3)) {t : Nat} (ht : Tl.Tr L t S) : WE (funM 2 1 (b__law_word cal) [.ref t]) S fun d S' => ∃ w, d = .str w ∧ isN w = true ∧ Tl.Tr L t S' ∧ S.length = S'.length ∧ ∀ j, j ≠ t → S'[j]? = S[j]? := by
  have e26 : ("abcdefghijklmnopqrstuvwxyz" : Str).length = 26 := by decide +kernel
  unfold b__law_word
  refine we_fun rfl ?_
  show WS (sRet _ [some (.ref t), none] S) _
  refine ws_ret ?_
  walk_at "wpe"
  refine ⟨rfl, ?_⟩
  walk_at "wpe"
  refine we_takeF hd ht (by omega) (by omega) fun f S1 hf a1 l1 k1 => ?_
  refine we_lft pAdd_ii ?_
  walk_at "wpe"
  refine ⟨1 + f, by simp, by omega, ?_⟩
  refine we_imp (we_loopC (fun i acc S' => ∃ M : List Nat, acc = (M.map fun c => (⟨#[c]⟩ : Str)).map D.str ∧ M.length = i ∧ (∀ c ∈ M, c ∈ abc) ∧ Tl.Tr L t S' ∧ S'.length = S.length ∧ ∀ j, j ≠ t → S'[j]? = S[j]?) ?_ ⟨[], rfl, rfl, fun c hc => by simp at hc, a1, l1, k1⟩) ?_
  · rintro i hi acc S' ⟨M, rfl, hM, hc, a, l, k⟩
    rw [rng_len] at hi
    refine ⟨_, rfl, ?_⟩
    refine wt_yes ?_
    refine br_t ?_
    walk_at "wpe"
    refine we_takeF hd a (by omega) (by omega) fun g S2 hg a2 l2 k2 => ?_
    refine we_lft (ix_str (by rw [e26]; omega) (by rw [e26]; omega)) ?_
    have mg : (TL.tl ("abcdefghijklmnopqrstuvwxyz" : Str)).getD g 0 ∈ abc := by
      have hl : g < (TL.tl ("abcdefghijklmnopqrstuvwxyz" : Str)).length := by rw [← TL.len_tl, e26]; omega
      rw [List.getD_eq_getElem?_getD, List.getElem?_eq_getElem hl]
      exact List.getElem_mem hl
    refine ⟨by rw [List.length_map, List.length_map, hM]; exact Nat.lt_of_lt_of_le (show i < 1000000 by omega) (small (Nat.le_refl _)), M ++ [(TL.tl ("abcdefghijklmnopqrstuvwxyz" : Str)).getD g 0], by rw [List.map_append, List.map_append]; rfl, by simp [hM], fun c hc' => ?_, a2, by omega, fun j hj => (k2 j hj).trans (k j hj)⟩
    rcases List.mem_append.mp hc' with h | h
    · exact hc c h
    · rw [List.mem_singleton.mp h]; exact mg
  rintro acc S2 ⟨M, rfl, hM, hc, a, l, k⟩
  rw [rng_len] at hM
  refine we_newL (by rw [List.length_map, List.length_map]; exact small (by omega)) ?_
  walk_at "wpe"
  have e0 : ("" : Str).length = 0 := by decide +kernel
  refine we_lft (Sp.join_ok ?_) ⟨_, rfl, ?_, a, l.symm, k⟩
  · rw [e0, Nat.mul_zero, Nat.add_zero]
    have := Sp.sum_le (l := (M.map fun c => (⟨#[c]⟩ : Str)).map (·.length)) (b := 1) fun x hx => by
      obtain ⟨y, hy, rfl⟩ := List.mem_map.mp hx
      obtain ⟨c, hc, rfl⟩ := List.mem_map.mp hy
      exact Nat.le_refl _
    rw [List.length_map, List.length_map] at this
    omega
  · refine isN_iff.mpr ⟨?_, fun c hc' => ?_⟩
    · rw [TL.len_tl, tl_joinC]; omega
    · rw [tl_joinC] at hc'; exact hc c hc'
theorem words_ev (hd : Tl.TakF L (cal 3)) {t m : Nat} (ht : Tl.Tr L t S) (hm : m ≤ 10)
    (h303 : ∀ S, Tl.Tr L t S → WE (cal 303 [.ref t]) S fun d S' => ∃ w, d = .str w ∧ isN w = true ∧ Tl.Tr L t S' ∧ S.length = S'.length ∧ ∀ j, j ≠ t → S'[j]? = S[j]?) :
    WE (funM 7 2 (b__law_words cal) [.ref t, .int m]) S fun d S' => ∃ ns : List Str, d = .lst (ns.map D.str) ∧ ns.length = m ∧ ns.Nodup ∧ (∀ x ∈ ns, isN x = true) ∧ Tl.Tr L t S' := by
  have hts := Tl.tr_lt ht
  unfold b__law_words
  refine we_fun rfl ?_
  show WS (sSeq _ _ [some (.ref t), some (.int m), none, none, none, none, none] S) _
  walk_at "wsa"
  with_reducible refine we_lstC ?_
  with_reducible refine we_nil ?_
  refine ⟨small (by simp), ?_⟩
  refine wg_nm ?_
  walk_at "wsf"
  walk_at "wpe"
  refine ⟨m, rfl, by omega, ?_⟩
  refine ws_loop (fun k δ S' => (∃ o3 o4 o5 o6, δ = ([some (.ref t), some (.int m), some (.ref S.length), o3, o4, o5, o6] : En)) ∧ ∃ ns : List Str, ns.length = k ∧ ns.Nodup ∧ (∀ x ∈ ns, isN x = true) ∧ S'[S.length]? = some (some (.lst (ns.map D.str))) ∧ Tl.Tr L t S') ?_ ?_ ⟨⟨_, _, _, _, rfl⟩, [], rfl, by simp, fun x hx => by simp at hx, by simp, Tl.tr_app ht⟩
  · rintro k hk δ S' ⟨⟨o3, o4, o5, o6, rfl⟩, ns, hl, nd, hN, hc, a⟩
    rw [rng_len] at hk
    rw [rng_get]
    refine wg_nm ?_
    walk_at "wsa"
    walk_at "wpe"
    refine we_imp (h303 S' a) ?_
    rintro _ S1 ⟨w, rfl, hw, a1, l1, k1⟩
    refine wg_nm ?_
    have hc1 : S1[S.length]? = some (some (.lst (ns.map D.str))) := (k1 _ (by omega)).trans hc
    have lc1 : S.length < S1.length := (List.getElem?_eq_some_iff.mp hc1).1
    -- the word, perhaps longer
    with_reducible refine ws_seq ?_
    refine ws_imp (P := ⟨fun δ1 S2 => ∃ w', δ1 = ([some (.ref t), some (.int m), some (.ref S.length), some (.int k), some (.str w'), o5, o6] : En) ∧ isN w' = true ∧ Tl.Tr L t S2 ∧ S2[S.length]? = some (some (.lst (ns.map D.str))), fun _ _ => False, fun _ _ => False, fun _ _ => False, fun _ _ _ => False⟩) ?_ ?_ (fun _ _ h => h.elim) (fun _ _ h => h.elim) (fun _ _ h => h.elim) (fun _ _ _ h => h.elim)
    · with_reducible refine ws_if ?_
      refine wt_and ?_
      refine we_asB ?_
      refine we_op ?_
      refine we_var rfl (by nofun) ?_
      with_reducible refine we_lstC ?_
      with_reducible refine we_nil ?_
      refine ⟨small (by simp), ?_⟩
      have hc2 : (S1 ++ [some (Cell.lst [])])[S.length]? = some (some (.lst (ns.map D.str))) := by rw [List.getElem?_append_left lc1]; exact hc1
      have a2 : Tl.Tr L t (S1 ++ [some (Cell.lst [])]) := Tl.tr_app a1
      have e1 : toPS (S1 ++ [some (Cell.lst [])]) (.ref S.length) = some (.list (ns.map PyData.str)) := by simp [toPS, plstOf, hc2, toP_ss]
      have dp : PyData.depthAll (ns.map PyData.str) ≤ 50 := by
        have := depthAll_le (d := 1) (ps := ns.map PyData.str) fun p hp => by
          obtain ⟨q, _, rfl⟩ := List.mem_map.mp hp
          simp [PyData.depth]
        omega
      refine we_lft (ne_nil_ref (n := S1.length) (by simp) e1 dp) ?_
      refine x_bl ?_
      generalize S1 ++ [some (Cell.lst [])] = S2 at hc2 a2 ⊢
      cases hne : (!(ns.map PyData.str).isEmpty) with
      | false =>
        refine br_f ?_
        refine br_f ?_
        walk_at "wsn"
        exact ⟨w, rfl, hw, a2, hc2⟩
      | true =>
        have npos : 0 < ns.length := by
          cases ns with
          | nil => cases hne
          | cons _ _ => simp
        refine br_t ?_
        walk_at "wpe"
        refine we_takeF hd a2 (by omega) (by omega) fun g S3 hg a3 l3 k3 => ?_
        have hc3 : S3[S.length]? = some (some (.lst (ns.map D.str))) := (k3 _ (by omega)).trans hc2
        walk_at "wpe"
        refine br_beq (fun hg0 => ?_) fun hg0 => ?_
        rotate_left
        · walk_at "wsn"
          exact ⟨w, rfl, hw, a3, hc3⟩
        with_reducible refine ws_asg ?_
        walk_at "wpe"
        refine we_lft (show pLen [.ref S.length] S3 = some (.int (ns.length : Int), S3) by simp [pLen, seqOf, lstOf, hc3]) ?_
        walk_at "wpe"
        refine we_takeF hd a3 (by omega) (by omega) fun g2 S4 hg2 a4 l4 k4 => ?_
        have hc4 : S4[S.length]? = some (some (.lst (ns.map D.str))) := (k4 _ (by omega)).trans hc3
        have g2l : g2 < ns.length := by omega
        refine we_lft (pIx_ref (k := g2) hc4 (by rw [List.length_map]; exact g2l)) ?_
        rw [List.getElem_map]
        have hu := hN _ (List.getElem_mem g2l)
        have ul := (isN_sm hu).len
        have wl := (isN_sm hw).len
        walk_at "wpe"
        refine we_lft (add_str (by omega)) ?_
        walk_at "wpe"
        refine we_lft (cut_str (by rw [Str.length_append]; omega)) ?_
        refine wg_nm ?_
        exact ⟨_, rfl, isN_cut hu hw, a4, hc4⟩
    rintro δ1 S2 ⟨w', rfl, hw', a2, hc2⟩
    have wl := (isN_sm hw').len
    walk_at "wsa"
    walk_at "wpe"
    refine ⟨abk.map fun c => D.str ⟨#[c]⟩, rfl, ?_⟩
    have l11 : abk.length = 11 := by decide +kernel
    refine we_loopM (S := S2) (fun c => D.str ⟨#[c]⟩) D.str (w7 w') (zs := abk) (by omega) (fun c hc' => ?_) ?_
    · refine ⟨_, rfl, ?_⟩
      walk_at "wpe"
      refine we_lft (cut_str (by omega)) ?_
      have := cut_len (z := w') (lo := none) (hi := some 7)
      walk_at "wpe"
      refine we_lft (add_str (by rw [TL.len_tl (⟨#[c]⟩ : Str), tl_one]; simp; omega)) ⟨rfl, rfl⟩
    refine we_newL (by rw [List.length_map, List.length_map]; exact small (by omega)) ?_
    refine wl_addLL (by rw [List.length_map, List.length_map]; simp; omega) ?_
    rw [show [D.str w'] ++ (abk.map (w7 w')).map D.str = (someW w').map D.str from rfl]
    refine wg_nm ?_
    with_reducible refine ws_expr ?_
    walk_at "wpe"
    refine ⟨ty_ref hc2, ?_⟩
    walk_at "wpe"
    have sl : (someW w').length = 12 := by unfold someW; rw [List.length_cons, List.length_map, l11]
    refine we_loopE (S := S2) D.str D.str (fun x => !decide (x ∈ ns)) (fun x => x) (zs := someW w') (by omega) (fun x hx => ?_) ?_
    · refine ⟨_, rfl, ?_⟩
      walk_at "wpe"
      refine we_lft (notin_ref hc2) ?_
      refine x_bl ?_
      refine ⟨rfl, rfl, fun _ => ?_⟩
      walk_at "wpe"
      exact ⟨rfl, rfl⟩
    rw [List.map_id']
    have fl := List.length_filter_le (fun x => !decide (x ∈ ns)) (someW w')
    have fne := new_word (w := w') (ns := ns) (by omega)
    refine we_newL (by rw [List.length_map]; exact small (by omega)) ?_
    walk_at "wpe"
    obtain ⟨F, hF⟩ : ∃ F, F = (someW w').filter fun x => !decide (x ∈ ns) := ⟨_, rfl⟩
    rw [← hF] at fne ⊢
    have Fpos : 0 < F.length := List.length_pos_iff.mpr fne
    have m0 : F[0] ∈ (someW w').filter fun x => !decide (x ∈ ns) := by rw [← hF]; exact List.getElem_mem Fpos
    refine wl_ix (k := 0) (by rw [List.length_map]; exact Fpos) ?_
    rw [List.getElem_map]
    walk_at "wpe"
    refine we_lft (app_ref hc2 (Nat.lt_of_lt_of_le (show (ns.map D.str).length < 1000000 by rw [List.length_map]; omega) (small (Nat.le_refl _)))) ?_
    obtain ⟨q1, q2⟩ := List.mem_filter.mp m0
    refine ⟨⟨_, _, _, _, rfl⟩, ns ++ [F[0]], by simp [hl], ?_, fun x hx => ?_, ?_, Tl.tr_other a2 hts⟩
    · rw [List.nodup_append]
      refine ⟨nd, by simp, fun p hp q hq e => ?_⟩
      rw [List.mem_singleton.mp hq] at e
      subst e
      simp [hp] at q2
    · rcases List.mem_append.mp hx with hx | hx
      · exact hN x hx
      · rw [List.mem_singleton.mp hx]; exact isN_some hw' _ q1
    · rw [set_get hc2, List.map_append]
      rfl
  · rintro δ S' ⟨⟨o3, o4, o5, o6, rfl⟩, ns, hl, nd, hN, hc, a⟩
    rw [rng_len] at hl
    walk_at "wps"
    refine we_lft (frz_ss hc) ?_
    exact ⟨ns, rfl, hl, nd, hN, Tl.tr_other a hts⟩
end
end Sw
namespace Sw
open PySem L2 Ev Bd Sp Rg Wp Ty Xr Pp Sx
local macro_rules | `(tactic| walk_at "wp1e") => `(tactic| first | with_reducible refine we_c ?_ | with_reducible refine we_op ?_ | with_reducible refine we_un ?_ | with_reducible refine we_callV ?_ | with_reducible refine we_cons ?_ | with_reducible refine we_nil ?_ | with_reducible refine we_asB ?_ | with_reducible refine we_tru ?_ | with_reducible refine we_and ?_ | with_reducible refine we_or ?_ | with_reducible refine we_not ?_ | with_reducible refine we_if ?_ | with_reducible refine wt_and ?_ | with_reducible refine wt_or ?_ | with_reducible refine wt_not ?_ | with_reducible refine wt_yes ?_ | with_reducible refine we_chain ?_ | with_reducible refine we_fld ?_ | with_reducible refine we_isi ?_ | with_reducible refine we_mb ?_ | with_reducible refine we_frz ?_ | with_reducible refine we_cut ?_ | with_reducible refine we_oN ?_ | with_reducible refine we_oS ?_ | with_reducible refine we_any ?_ | with_reducible refine we_star ?_ | with_reducible refine we_lc ?_ | with_reducible refine we_R1 ?_ | with_reducible refine we_R2 ?_ | with_reducible refine we_rg ?_ | with_reducible refine we_enu ?_ | with_reducible refine we_zip ?_ | with_reducible refine we_tup ?_ | with_reducible refine we_lst ?_ | with_reducible refine we_lstC ?_ | with_reducible refine we_cal ?_ | with_reducible refine wg_nm ?_ | with_reducible refine wg_nl ?_ | with_reducible refine wg_cs ?_ | ((with_reducible refine wg_istp ?_); refine wg_tp rfl ?_) | with_reducible refine wg_sb ?_)
local macro_rules | `(tactic| walk_at "wp1s") => `(tactic| first | with_reducible refine ws_seq ?_ | with_reducible refine ws_next ?_ | with_reducible refine ws_cnt ?_ | with_reducible refine ws_brk ?_ | with_reducible refine ws_retN ?_ | with_reducible refine ws_ret ?_ | with_reducible refine ws_expr ?_ | with_reducible refine ws_if ?_ | with_reducible refine ws_asg ?_ | with_reducible refine ws_par2 ?_ | with_reducible refine ws_par3 ?_ | with_reducible refine ws_for ?_)
local macro_rules | `(tactic| walk_at "wp1") => `(tactic| first | walk_at "wp1e" | walk_at "wp1s")
local macro_rules | `(tactic| walk_at "noslf") => `(tactic| first | (intro h; cases h; done) | assumption | nofun)
local macro_rules | `(tactic| walk_at "wp2") => `(tactic| first | ((with_reducible refine we_isv ?_); refine we_var rfl (by walk_at "noslf") ?_) | with_reducible refine br_t ?_ | with_reducible refine br_f ?_ | refine ⟨_, rfl, br_t ?_⟩ | refine ⟨_, rfl, br_f ?_⟩)
local macro_rules | `(tactic| walk_at "wpx") => `(tactic| first | with_reducible refine x_bl ?_ | with_reducible refine t_bl ?_ | with_reducible refine t_lst ?_ | with_reducible refine t_tup ?_ | with_reducible refine t_int ?_ | with_reducible refine t_non ?_ | with_reducible refine a_lst ?_ | with_reducible refine a_tup ?_ | with_reducible refine s_lst ?_ | with_reducible refine s_tup ?_ | with_reducible refine br_not ?_ | with_reducible refine we_lft pAdd_ii ?_ | with_reducible refine we_lft pSub_ii ?_ | with_reducible refine we_lft pLt_ii ?_ | with_reducible refine we_lft pLe_ii ?_ | with_reducible refine we_lft pGt_ii ?_ | with_reducible refine we_lft pGe_ii ?_ | with_reducible refine we_lft pEq_ii ?_ | with_reducible refine we_lft pNe_ii ?_ | with_reducible refine we_lft len_lI ?_ | with_reducible refine we_lft len_tI ?_ | with_reducible refine we_lft len_rL ?_ | with_reducible refine we_lft len_rT ?_ | with_reducible refine we_lft len_lo ?_ | with_reducible refine we_lft pLen_lst ?_ | with_reducible refine we_lft pLen_tup ?_ | with_reducible refine we_lft pInt_i ?_ | with_reducible refine we_lft pInt_b ?_ | with_reducible refine we_lft all_ok ?_ | with_reducible refine we_lft any_ok ?_ | with_reducible refine we_lft sum_lI ?_ | with_reducible refine we_dT ?_ | with_reducible refine we_lft neg_i ?_ | with_reducible refine x_int ?_ | with_reducible refine len_nil2 ?_ | ((with_reducible refine len_isl ?_); refine len_lit rfl ?_))
local macro_rules | `(tactic| walk_at "wsa") => `(tactic| (with_reducible refine ws_seq ?_; with_reducible refine ws_asg ?_))
local macro_rules | `(tactic| walk_at "wsi") => `(tactic| (with_reducible refine ws_seq ?_; with_reducible refine ws_if ?_))
local macro_rules | `(tactic| walk_at "wsf") => `(tactic| (with_reducible refine ws_seq ?_; with_reducible refine ws_for ?_))
local macro_rules | `(tactic| walk_at "wsn") => `(tactic| with_reducible refine ws_next ?_)
local macro_rules | `(tactic| walk_at "wpe") => `(tactic| repeat (first | walk_at "wp1e" | walk_at "wp2" | walk_at "wpx"))
local macro_rules | `(tactic| walk_at "wps") => `(tactic| repeat (first | walk_at "wp1" | walk_at "wp2" | walk_at "wpx"))
section
variable {cal : Nat → List D → M D} {S : Store} {L : Store}
structure J13 (cal : Nat → List D → M D) : Prop where
  web : ∀ s S, s.length ≤ 100000 → (∃ d S', cal 301 [.str s] S = .ok d S' ∧ WebOk s ∧ d = tabD (ties s).length (namesOf (ties s)).length (webR (ties s)) ∧ Keep S S') ∨ ∃ x S', cal 301 [.str s] S = .exc x S' ∧ ¬ WebOk s ∧ x = ⟨"InvalidText", [("given", .str s)]⟩ ∧ Keep S S'
  webN : ∀ d T S, d ≠ .slf → tyOf S d = some T → isS T = some false → cal 301 [d] S = .exc ⟨"InvalidText", [("given", d)]⟩ S
  read : ∀ s S, s.length ≤ 100000 → WE (cal 297 [.str s]) S fun d S' => S' = S ∧ ∃ z, d = .str z ∧ ((WebOk s ∧ z = txt (webR (ties s))) ∨ (¬ WebOk s ∧ z = ""))
  readN : ∀ d T S, d ≠ .slf → tyOf S d = some T → isS T = some false → WE (cal 297 [d]) S fun r S' => S' = S ∧ r = .str ""
  str : ∀ h w R S, cal 6 [tabD h w R] S = .ok (.str (txt R)) S
end
end Sw
namespace Sw
open PySem L2 Ev Bd Sp Rg Wp Ty Xr Pp Sx
local macro_rules | `(tactic| walk_at "wp1e") => `(tactic| first | with_reducible refine we_c ?_ | with_reducible refine we_op ?_ | with_reducible refine we_un ?_ | with_reducible refine we_callV ?_ | with_reducible refine we_cons ?_ | with_reducible refine we_nil ?_ | with_reducible refine we_asB ?_ | with_reducible refine we_tru ?_ | with_reducible refine we_and ?_ | with_reducible refine we_or ?_ | with_reducible refine we_not ?_ | with_reducible refine we_if ?_ | with_reducible refine wt_and ?_ | with_reducible refine wt_or ?_ | with_reducible refine wt_not ?_ | with_reducible refine wt_yes ?_ | with_reducible refine we_chain ?_ | with_reducible refine we_fld ?_ | with_reducible refine we_isi ?_ | with_reducible refine we_mb ?_ | with_reducible refine we_frz ?_ | with_reducible refine we_cut ?_ | with_reducible refine we_oN ?_ | with_reducible refine we_oS ?_ | with_reducible refine we_any ?_ | with_reducible refine we_star ?_ | with_reducible refine we_lc ?_ | with_reducible refine we_R1 ?_ | with_reducible refine we_R2 ?_ | with_reducible refine we_rg ?_ | with_reducible refine we_enu ?_ | with_reducible refine we_zip ?_ | with_reducible refine we_tup ?_ | with_reducible refine we_lst ?_ | with_reducible refine we_lstC ?_ | with_reducible refine we_cal ?_ | with_reducible refine wg_nm ?_ | with_reducible refine wg_nl ?_ | with_reducible refine wg_cs ?_ | ((with_reducible refine wg_istp ?_); refine wg_tp rfl ?_) | with_reducible refine wg_sb ?_)
local macro_rules | `(tactic| walk_at "wp1s") => `(tactic| first | with_reducible refine ws_seq ?_ | with_reducible refine ws_next ?_ | with_reducible refine ws_cnt ?_ | with_reducible refine ws_brk ?_ | with_reducible refine ws_retN ?_ | with_reducible refine ws_ret ?_ | with_reducible refine ws_expr ?_ | with_reducible refine ws_if ?_ | with_reducible refine ws_asg ?_ | with_reducible refine ws_par2 ?_ | with_reducible refine ws_par3 ?_ | with_reducible refine ws_for ?_)
local macro_rules | `(tactic| walk_at "wp1") => `(tactic| first | walk_at "wp1e" | walk_at "wp1s")
local macro_rules | `(tactic| walk_at "noslf") => `(tactic| first | (intro h; cases h; done) | assumption | nofun)
local macro_rules | `(tactic| walk_at "wp2") => `(tactic| first | ((with_reducible refine we_isv ?_); refine we_var rfl (by walk_at "noslf") ?_) | with_reducible refine br_t ?_ | with_reducible refine br_f ?_ | refine ⟨_, rfl, br_t ?_⟩ | refine ⟨_, rfl, br_f ?_⟩)
local macro_rules | `(tactic| walk_at "wpx") => `(tactic| first | with_reducible refine x_bl ?_ | with_reducible refine t_bl ?_ | with_reducible refine t_lst ?_ | with_reducible refine t_tup ?_ | with_reducible refine t_int ?_ | with_reducible refine t_non ?_ | with_reducible refine a_lst ?_ | with_reducible refine a_tup ?_ | with_reducible refine s_lst ?_ | with_reducible refine s_tup ?_ | with_reducible refine br_not ?_ | with_reducible refine we_lft pAdd_ii ?_ | with_reducible refine we_lft pSub_ii ?_ | with_reducible refine we_lft pLt_ii ?_ | with_reducible refine we_lft pLe_ii ?_ | with_reducible refine we_lft pGt_ii ?_ | with_reducible refine we_lft pGe_ii ?_ | with_reducible refine we_lft pEq_ii ?_ | with_reducible refine we_lft pNe_ii ?_ | with_reducible refine we_lft len_lI ?_ | with_reducible refine we_lft len_tI ?_ | with_reducible refine we_lft len_rL ?_ | with_reducible refine we_lft len_rT ?_ | with_reducible refine we_lft len_lo ?_ | with_reducible refine we_lft pLen_lst ?_ | with_reducible refine we_lft pLen_tup ?_ | with_reducible refine we_lft pInt_i ?_ | with_reducible refine we_lft pInt_b ?_ | with_reducible refine we_lft all_ok ?_ | with_reducible refine we_lft any_ok ?_ | with_reducible refine we_lft sum_lI ?_ | with_reducible refine we_dT ?_ | with_reducible refine we_lft neg_i ?_ | with_reducible refine x_int ?_ | with_reducible refine len_nil2 ?_ | ((with_reducible refine len_isl ?_); refine len_lit rfl ?_))
local macro_rules | `(tactic| walk_at "wsa") => `(tactic| (with_reducible refine ws_seq ?_; with_reducible refine ws_asg ?_))
local macro_rules | `(tactic| walk_at "wsi") => `(tactic| (with_reducible refine ws_seq ?_; with_reducible refine ws_if ?_))
local macro_rules | `(tactic| walk_at "wsf") => `(tactic| (with_reducible refine ws_seq ?_; with_reducible refine ws_for ?_))
local macro_rules | `(tactic| walk_at "wsn") => `(tactic| with_reducible refine ws_next ?_)
local macro_rules | `(tactic| walk_at "wpe") => `(tactic| repeat (first | walk_at "wp1e" | walk_at "wp2" | walk_at "wpx"))
local macro_rules | `(tactic| walk_at "wps") => `(tactic| repeat (first | walk_at "wp1" | walk_at "wp2" | walk_at "wpx"))
section
variable {cal : Nat → List D → M D} {S : Store} {L : Store}
/-- what the words of a line may be -/
structure WL (n : Nat) (M : List Str) : Prop where
  w : wt M ≤ n
  c : ∀ x ∈ M, ∀ c ∈ TL.tl x, c < 256
theorem WL.sub {n : Nat} {M N : List Str} (h : WL n M) (s : N.Sublist M) : WL n N := ⟨Nat.le_trans (wt_sub s) h.w, fun x hx => h.c x (s.subset hx)⟩
theorem WL.mono {n m : Nat} {M : List Str} (h : WL n M) (k : n ≤ m) : WL m M := ⟨Nat.le_trans h.w k, h.c⟩
theorem WL.one {n : Nat} {x : Str} (h : SmS n x) : WL (n + 1) [x] := ⟨by rw [wt_cons, wt_nil]; have := h.len; omega, fun y hy => by rw [List.mem_singleton.mp hy]; exact h.ch⟩
theorem WL.get {n k : Nat} {M : List Str} (h : WL n M) (hk : k < M.length) : SmS n M[k] := ⟨by have := wt_mem (List.getElem_mem hk); have := h.w; omega, h.c _ (List.getElem_mem hk)⟩
theorem WL.len {n : Nat} {M : List Str} (h : WL n M) : M.length ≤ n := by have := h.w; unfold wt at this; omega
end
end Sw
namespace Mv
open PySem Sp Rg
/-- rows hang together by columns, from wherever one begins -/
def HangS (R : Rw) (I J : List Int) : Prop := ∀ P : Int → Prop, (∃ i ∈ I, P i) → (∀ i ∈ I, ∀ j ∈ I, ∀ k ∈ J, P i → bit R i k = true → bit R j k = true → P j) → ∀ j ∈ I, P j
/-- a ring that is renamed -/
def ren (σ π : Int → Int) (q : Pq) : Pq := (srt (q.1.map σ), srt (q.2.map π))
end Mv
namespace Mv
open PySem Sp Rg
def at' (T : List Int) (a : Int) : Int := T.getD a.toNat 0
section
variable {R : Rw} {h w : Nat} {T K : List Int}
end
end Mv
namespace Bd
open PySem L2 Ev
end Bd
namespace Mv
open PySem PySem.W PyProof.Rows L2 Ev Bd Sp Rg Wp
local macro_rules | `(tactic| walk_at "wp1e") => `(tactic| first | with_reducible refine we_c ?_ | with_reducible refine we_op ?_ | with_reducible refine we_un ?_ | with_reducible refine we_callV ?_ | with_reducible refine we_cons ?_ | with_reducible refine we_nil ?_ | with_reducible refine we_asB ?_ | with_reducible refine we_tru ?_ | with_reducible refine we_and ?_ | with_reducible refine we_or ?_ | with_reducible refine we_not ?_ | with_reducible refine we_if ?_ | with_reducible refine wt_and ?_ | with_reducible refine wt_or ?_ | with_reducible refine wt_not ?_ | with_reducible refine wt_yes ?_ | with_reducible refine we_chain ?_ | with_reducible refine we_fld ?_ | with_reducible refine we_isi ?_ | with_reducible refine we_mb ?_ | with_reducible refine we_frz ?_ | with_reducible refine we_cut ?_ | with_reducible refine we_oN ?_ | with_reducible refine we_oS ?_ | with_reducible refine we_any ?_ | with_reducible refine we_star ?_ | with_reducible refine we_lc ?_ | with_reducible refine we_R1 ?_ | with_reducible refine we_R2 ?_ | with_reducible refine we_rg ?_ | with_reducible refine we_enu ?_ | with_reducible refine we_zip ?_ | with_reducible refine we_tup ?_ | with_reducible refine we_lst ?_ | with_reducible refine we_lstC ?_ | with_reducible refine we_cal ?_ | with_reducible refine wg_nm ?_ | with_reducible refine wg_nl ?_ | with_reducible refine wg_cs ?_ | ((with_reducible refine wg_istp ?_); refine wg_tp rfl ?_) | with_reducible refine wg_sb ?_)
local macro_rules | `(tactic| walk_at "wp1s") => `(tactic| first | with_reducible refine ws_seq ?_ | with_reducible refine ws_next ?_ | with_reducible refine ws_cnt ?_ | with_reducible refine ws_brk ?_ | with_reducible refine ws_retN ?_ | with_reducible refine ws_ret ?_ | with_reducible refine ws_expr ?_ | with_reducible refine ws_if ?_ | with_reducible refine ws_asg ?_ | with_reducible refine ws_par2 ?_ | with_reducible refine ws_par3 ?_ | with_reducible refine ws_for ?_)
local macro_rules | `(tactic| walk_at "wp1") => `(tactic| first | walk_at "wp1e" | walk_at "wp1s")
local macro_rules | `(tactic| walk_at "noslf") => `(tactic| first | (intro h; cases h; done) | assumption | nofun)
local macro_rules | `(tactic| walk_at "wp2") => `(tactic| first | ((with_reducible refine we_isv ?_); refine we_var rfl (by walk_at "noslf") ?_) | with_reducible refine br_t ?_ | with_reducible refine br_f ?_ | refine ⟨_, rfl, br_t ?_⟩ | refine ⟨_, rfl, br_f ?_⟩)
local macro_rules | `(tactic| walk_at "wpx") => `(tactic| first | with_reducible refine x_bl ?_ | with_reducible refine t_bl ?_ | with_reducible refine t_lst ?_ | with_reducible refine t_tup ?_ | with_reducible refine t_int ?_ | with_reducible refine t_non ?_ | with_reducible refine a_lst ?_ | with_reducible refine a_tup ?_ | with_reducible refine s_lst ?_ | with_reducible refine s_tup ?_ | with_reducible refine br_not ?_ | with_reducible refine we_lft pAdd_ii ?_ | with_reducible refine we_lft pSub_ii ?_ | with_reducible refine we_lft pLt_ii ?_ | with_reducible refine we_lft pLe_ii ?_ | with_reducible refine we_lft pGt_ii ?_ | with_reducible refine we_lft pGe_ii ?_ | with_reducible refine we_lft pEq_ii ?_ | with_reducible refine we_lft pNe_ii ?_ | with_reducible refine we_lft len_lI ?_ | with_reducible refine we_lft len_tI ?_ | with_reducible refine we_lft len_rL ?_ | with_reducible refine we_lft len_rT ?_ | with_reducible refine we_lft len_lo ?_ | with_reducible refine we_lft pLen_lst ?_ | with_reducible refine we_lft pLen_tup ?_ | with_reducible refine we_lft pInt_i ?_ | with_reducible refine we_lft pInt_b ?_ | with_reducible refine we_lft all_ok ?_ | with_reducible refine we_lft any_ok ?_ | with_reducible refine we_lft sum_lI ?_ | with_reducible refine we_dT ?_ | with_reducible refine we_lft neg_i ?_ | with_reducible refine x_int ?_ | with_reducible refine len_nil2 ?_ | ((with_reducible refine len_isl ?_); refine len_lit rfl ?_))
local macro_rules | `(tactic| walk_at "wsa") => `(tactic| (with_reducible refine ws_seq ?_; with_reducible refine ws_asg ?_))
local macro_rules | `(tactic| walk_at "wsi") => `(tactic| (with_reducible refine ws_seq ?_; with_reducible refine ws_if ?_))
local macro_rules | `(tactic| walk_at "wsf") => `(tactic| (with_reducible refine ws_seq ?_; with_reducible refine ws_for ?_))
local macro_rules | `(tactic| walk_at "wsn") => `(tactic| with_reducible refine ws_next ?_)
local macro_rules | `(tactic| walk_at "wpe") => `(tactic| repeat (first | walk_at "wp1e" | walk_at "wp2" | walk_at "wpx"))
local macro_rules | `(tactic| walk_at "wps") => `(tactic| repeat (first | walk_at "wp1" | walk_at "wp2" | walk_at "wpx"))
section
variable {S : Store}
end
section
variable {cal : Nat → List D → M D} {S : Store} {h w : Nat} {R : Rw} {Q : List Pq}
end
end Mv
namespace Mv
open PySem PySem.W L2 Ev Bd Sp Rg Wp
end Mv
namespace Rk
open PySem Sp Rg Mv
/-- a table that is a ring as a whole -/
structure Hoop (n : Nat) (R : Rw) : Prop where
  len : R.length = n
  g : G01 n R
  row : ∀ j : Int, 0 ≤ j → j < n → ((rng n).map fun k => val R j k).sum = 2
  col : ∀ k : Int, 0 ≤ k → k < n → ((rng n).map fun j => val R j k).sum = 2
  hang : HangS R (rng n) (rng n)
end Rk
namespace Rk
open PySem Sp Rg Mv
end Rk
namespace Rk
open PySem Sp Rg Mv
def tw (n : Nat) (d x : Int) : Int := if x = n then d else x
end Rk
namespace Rk
open PySem Sp Rg Mv
def nx (n : Nat) (a : Int) : Int := (a + 1) % n
structure HoopOf (n : Nat) (T S : List Int) (R : Rw) : Prop where
  len : R.length = n
  g : G01 n R
  v : ∀ a b : Int, 0 ≤ a → a < n → 0 ≤ b → b < n → val R (at' T a) (at' S b) = if b = a ∨ b = nx n a then 1 else 0
end Rk
namespace Bd
open PySem L2 Ev
end Bd
namespace Rk
open PySem PySem.W L2 Ev Bd Sp Rg Mv Wp
/-- the rows of a ring as far as they are made: the ones of the rows before, and some of row j -/
structure Made (n : Nat) (T K : List Int) (j : Nat) (m : Nat) (R : Rw) : Prop where
  len : R.length = n
  g : G01 n R
  v : ∀ a b : Int, 0 ≤ a → a < n → 0 ≤ b → b < n → val R (at' T a) (at' K b) = if (a < j ∧ (b = a ∨ b = nx n a)) ∨ (a = j ∧ ((1 ≤ m ∧ b = a) ∨ (2 ≤ m ∧ b = nx n a))) then 1 else 0
end Rk
namespace Rk
open PySem PySem.W L2 Ev Bd Sp Rg Mv Wp
local macro_rules | `(tactic| walk_at "wp1e") => `(tactic| first | with_reducible refine we_c ?_ | with_reducible refine we_op ?_ | with_reducible refine we_un ?_ | with_reducible refine we_callV ?_ | with_reducible refine we_cons ?_ | with_reducible refine we_nil ?_ | with_reducible refine we_asB ?_ | with_reducible refine we_tru ?_ | with_reducible refine we_and ?_ | with_reducible refine we_or ?_ | with_reducible refine we_not ?_ | with_reducible refine we_if ?_ | with_reducible refine wt_and ?_ | with_reducible refine wt_or ?_ | with_reducible refine wt_not ?_ | with_reducible refine wt_yes ?_ | with_reducible refine we_chain ?_ | with_reducible refine we_fld ?_ | with_reducible refine we_isi ?_ | with_reducible refine we_mb ?_ | with_reducible refine we_frz ?_ | with_reducible refine we_cut ?_ | with_reducible refine we_oN ?_ | with_reducible refine we_oS ?_ | with_reducible refine we_any ?_ | with_reducible refine we_star ?_ | with_reducible refine we_lc ?_ | with_reducible refine we_R1 ?_ | with_reducible refine we_R2 ?_ | with_reducible refine we_rg ?_ | with_reducible refine we_enu ?_ | with_reducible refine we_zip ?_ | with_reducible refine we_tup ?_ | with_reducible refine we_lst ?_ | with_reducible refine we_lstC ?_ | with_reducible refine we_cal ?_ | with_reducible refine wg_nm ?_ | with_reducible refine wg_nl ?_ | with_reducible refine wg_cs ?_ | ((with_reducible refine wg_istp ?_); refine wg_tp rfl ?_) | with_reducible refine wg_sb ?_)
local macro_rules | `(tactic| walk_at "wp1s") => `(tactic| first | with_reducible refine ws_seq ?_ | with_reducible refine ws_next ?_ | with_reducible refine ws_cnt ?_ | with_reducible refine ws_brk ?_ | with_reducible refine ws_retN ?_ | with_reducible refine ws_ret ?_ | with_reducible refine ws_expr ?_ | with_reducible refine ws_if ?_ | with_reducible refine ws_asg ?_ | with_reducible refine ws_par2 ?_ | with_reducible refine ws_par3 ?_ | with_reducible refine ws_for ?_)
local macro_rules | `(tactic| walk_at "wp1") => `(tactic| first | walk_at "wp1e" | walk_at "wp1s")
local macro_rules | `(tactic| walk_at "noslf") => `(tactic| first | (intro h; cases h; done) | assumption | nofun)
local macro_rules | `(tactic| walk_at "wp2") => `(tactic| first | ((with_reducible refine we_isv ?_); refine we_var rfl (by walk_at "noslf") ?_) | with_reducible refine br_t ?_ | with_reducible refine br_f ?_ | refine ⟨_, rfl, br_t ?_⟩ | refine ⟨_, rfl, br_f ?_⟩)
local macro_rules | `(tactic| walk_at "wpx") => `(tactic| first | with_reducible refine x_bl ?_ | with_reducible refine t_bl ?_ | with_reducible refine t_lst ?_ | with_reducible refine t_tup ?_ | with_reducible refine t_int ?_ | with_reducible refine t_non ?_ | with_reducible refine a_lst ?_ | with_reducible refine a_tup ?_ | with_reducible refine s_lst ?_ | with_reducible refine s_tup ?_ | with_reducible refine br_not ?_ | with_reducible refine we_lft pAdd_ii ?_ | with_reducible refine we_lft pSub_ii ?_ | with_reducible refine we_lft pLt_ii ?_ | with_reducible refine we_lft pLe_ii ?_ | with_reducible refine we_lft pGt_ii ?_ | with_reducible refine we_lft pGe_ii ?_ | with_reducible refine we_lft pEq_ii ?_ | with_reducible refine we_lft pNe_ii ?_ | with_reducible refine we_lft len_lI ?_ | with_reducible refine we_lft len_tI ?_ | with_reducible refine we_lft len_rL ?_ | with_reducible refine we_lft len_rT ?_ | with_reducible refine we_lft len_lo ?_ | with_reducible refine we_lft pLen_lst ?_ | with_reducible refine we_lft pLen_tup ?_ | with_reducible refine we_lft pInt_i ?_ | with_reducible refine we_lft pInt_b ?_ | with_reducible refine we_lft all_ok ?_ | with_reducible refine we_lft any_ok ?_ | with_reducible refine we_lft sum_lI ?_ | with_reducible refine we_dT ?_ | with_reducible refine we_lft neg_i ?_ | with_reducible refine x_int ?_ | with_reducible refine len_nil2 ?_ | ((with_reducible refine len_isl ?_); refine len_lit rfl ?_))
local macro_rules | `(tactic| walk_at "wsa") => `(tactic| (with_reducible refine ws_seq ?_; with_reducible refine ws_asg ?_))
local macro_rules | `(tactic| walk_at "wsi") => `(tactic| (with_reducible refine ws_seq ?_; with_reducible refine ws_if ?_))
local macro_rules | `(tactic| walk_at "wsf") => `(tactic| (with_reducible refine ws_seq ?_; with_reducible refine ws_for ?_))
local macro_rules | `(tactic| walk_at "wsn") => `(tactic| with_reducible refine ws_next ?_)
local macro_rules | `(tactic| walk_at "wpe") => `(tactic| repeat (first | walk_at "wp1e" | walk_at "wp2" | walk_at "wpx"))
local macro_rules | `(tactic| walk_at "wps") => `(tactic| repeat (first | walk_at "wp1" | walk_at "wp2" | walk_at "wpx"))
section
variable {cal : Nat → List D → M D} {S : Store}
end
end Rk
namespace Rk
open PySem Sp Rg Mv
end Rk
namespace Rk
open PySem Sp Rg Mv
section
variable {n : Nat} {R : Rw}
end
end Rk
namespace Rk
open PySem PySem.W L2 Ev Bd Sp Rg Mv Wp
local macro_rules | `(tactic| walk_at "wp1e") => `(tactic| first | with_reducible refine we_c ?_ | with_reducible refine we_op ?_ | with_reducible refine we_un ?_ | with_reducible refine we_callV ?_ | with_reducible refine we_cons ?_ | with_reducible refine we_nil ?_ | with_reducible refine we_asB ?_ | with_reducible refine we_tru ?_ | with_reducible refine we_and ?_ | with_reducible refine we_or ?_ | with_reducible refine we_not ?_ | with_reducible refine we_if ?_ | with_reducible refine wt_and ?_ | with_reducible refine wt_or ?_ | with_reducible refine wt_not ?_ | with_reducible refine wt_yes ?_ | with_reducible refine we_chain ?_ | with_reducible refine we_fld ?_ | with_reducible refine we_isi ?_ | with_reducible refine we_mb ?_ | with_reducible refine we_frz ?_ | with_reducible refine we_cut ?_ | with_reducible refine we_oN ?_ | with_reducible refine we_oS ?_ | with_reducible refine we_any ?_ | with_reducible refine we_star ?_ | with_reducible refine we_lc ?_ | with_reducible refine we_R1 ?_ | with_reducible refine we_R2 ?_ | with_reducible refine we_rg ?_ | with_reducible refine we_enu ?_ | with_reducible refine we_zip ?_ | with_reducible refine we_tup ?_ | with_reducible refine we_lst ?_ | with_reducible refine we_lstC ?_ | with_reducible refine we_cal ?_ | with_reducible refine wg_nm ?_ | with_reducible refine wg_nl ?_ | with_reducible refine wg_cs ?_ | ((with_reducible refine wg_istp ?_); refine wg_tp rfl ?_) | with_reducible refine wg_sb ?_)
local macro_rules | `(tactic| walk_at "wp1s") => `(tactic| first | with_reducible refine ws_seq ?_ | with_reducible refine ws_next ?_ | with_reducible refine ws_cnt ?_ | with_reducible refine ws_brk ?_ | with_reducible refine ws_retN ?_ | with_reducible refine ws_ret ?_ | with_reducible refine ws_expr ?_ | with_reducible refine ws_if ?_ | with_reducible refine ws_asg ?_ | with_reducible refine ws_par2 ?_ | with_reducible refine ws_par3 ?_ | with_reducible refine ws_for ?_)
local macro_rules | `(tactic| walk_at "wp1") => `(tactic| first | walk_at "wp1e" | walk_at "wp1s")
local macro_rules | `(tactic| walk_at "noslf") => `(tactic| first | (intro h; cases h; done) | assumption | nofun)
local macro_rules | `(tactic| walk_at "wp2") => `(tactic| first | ((with_reducible refine we_isv ?_); refine we_var rfl (by walk_at "noslf") ?_) | with_reducible refine br_t ?_ | with_reducible refine br_f ?_ | refine ⟨_, rfl, br_t ?_⟩ | refine ⟨_, rfl, br_f ?_⟩)
local macro_rules | `(tactic| walk_at "wpx") => `(tactic| first | with_reducible refine x_bl ?_ | with_reducible refine t_bl ?_ | with_reducible refine t_lst ?_ | with_reducible refine t_tup ?_ | with_reducible refine t_int ?_ | with_reducible refine t_non ?_ | with_reducible refine a_lst ?_ | with_reducible refine a_tup ?_ | with_reducible refine s_lst ?_ | with_reducible refine s_tup ?_ | with_reducible refine br_not ?_ | with_reducible refine we_lft pAdd_ii ?_ | with_reducible refine we_lft pSub_ii ?_ | with_reducible refine we_lft pLt_ii ?_ | with_reducible refine we_lft pLe_ii ?_ | with_reducible refine we_lft pGt_ii ?_ | with_reducible refine we_lft pGe_ii ?_ | with_reducible refine we_lft pEq_ii ?_ | with_reducible refine we_lft pNe_ii ?_ | with_reducible refine we_lft len_lI ?_ | with_reducible refine we_lft len_tI ?_ | with_reducible refine we_lft len_rL ?_ | with_reducible refine we_lft len_rT ?_ | with_reducible refine we_lft len_lo ?_ | with_reducible refine we_lft pLen_lst ?_ | with_reducible refine we_lft pLen_tup ?_ | with_reducible refine we_lft pInt_i ?_ | with_reducible refine we_lft pInt_b ?_ | with_reducible refine we_lft all_ok ?_ | with_reducible refine we_lft any_ok ?_ | with_reducible refine we_lft sum_lI ?_ | with_reducible refine we_dT ?_ | with_reducible refine we_lft neg_i ?_ | with_reducible refine x_int ?_ | with_reducible refine len_nil2 ?_ | ((with_reducible refine len_isl ?_); refine len_lit rfl ?_))
local macro_rules | `(tactic| walk_at "wsa") => `(tactic| (with_reducible refine ws_seq ?_; with_reducible refine ws_asg ?_))
local macro_rules | `(tactic| walk_at "wsi") => `(tactic| (with_reducible refine ws_seq ?_; with_reducible refine ws_if ?_))
local macro_rules | `(tactic| walk_at "wsf") => `(tactic| (with_reducible refine ws_seq ?_; with_reducible refine ws_for ?_))
local macro_rules | `(tactic| walk_at "wsn") => `(tactic| with_reducible refine ws_next ?_)
local macro_rules | `(tactic| walk_at "wpe") => `(tactic| repeat (first | walk_at "wp1e" | walk_at "wp2" | walk_at "wpx"))
local macro_rules | `(tactic| walk_at "wps") => `(tactic| repeat (first | walk_at "wp1" | walk_at "wp2" | walk_at "wpx"))
structure C20 (cal : Nat → List D → M D) : Prop where
  dip : Drw ReedJ (cal 60)
  mix : Mix ReedJ (cal 64)
  rgrid : ∀ (n : Nat) T K S, 3 ≤ n → n ≤ 8 → T.Perm (rng n) → K.Perm (rng n) → ∃ R S', cal 201 [.int n, lI T, lI K] S = .ok (rowsL R) S' ∧ HoopOf n T K R ∧ Keep S S'
  text : ∀ h w R S, Full h w R → cal 2 [rowsL R] S = .ok (.str (txt R)) S
  tab : ∀ h w R S, Full h w R → cal 1 [.str (txt R)] S = .ok (tabD h w R) S
  odd : ∀ h w R S, Full h w R → ∃ S', cal 48 [tabD h w R] S = .ok (.tup ((lawL R h w).map ringD)) S' ∧ Keep S S'
  even : ∀ h w R S, Full h w R → ∃ S', cal 47 [tabD h w R] S = .ok (.bl (lawL R h w).isEmpty) S' ∧ Keep S S'
  times : ∀ (n : Nat) S, 3 ≤ n → n ≤ 7 → cal 200 [.int n] S = .ok (.int ((n * (n - 1) * (n - 2) / 6 : Nat) : Int)) S
section
variable {cal : Nat → List D → M D} {S : Store}
end
end Rk
namespace Sw
open PySem L2 Ev Bd Sp Rg Wp Ty Xr Pp Sx
local macro_rules | `(tactic| walk_at "wp1e") => `(tactic| first | with_reducible refine we_c ?_ | with_reducible refine we_op ?_ | with_reducible refine we_un ?_ | with_reducible refine we_callV ?_ | with_reducible refine we_cons ?_ | with_reducible refine we_nil ?_ | with_reducible refine we_asB ?_ | with_reducible refine we_tru ?_ | with_reducible refine we_and ?_ | with_reducible refine we_or ?_ | with_reducible refine we_not ?_ | with_reducible refine we_if ?_ | with_reducible refine wt_and ?_ | with_reducible refine wt_or ?_ | with_reducible refine wt_not ?_ | with_reducible refine wt_yes ?_ | with_reducible refine we_chain ?_ | with_reducible refine we_fld ?_ | with_reducible refine we_isi ?_ | with_reducible refine we_mb ?_ | with_reducible refine we_frz ?_ | with_reducible refine we_cut ?_ | with_reducible refine we_oN ?_ | with_reducible refine we_oS ?_ | with_reducible refine we_any ?_ | with_reducible refine we_star ?_ | with_reducible refine we_lc ?_ | with_reducible refine we_R1 ?_ | with_reducible refine we_R2 ?_ | with_reducible refine we_rg ?_ | with_reducible refine we_enu ?_ | with_reducible refine we_zip ?_ | with_reducible refine we_tup ?_ | with_reducible refine we_lst ?_ | with_reducible refine we_lstC ?_ | with_reducible refine we_cal ?_ | with_reducible refine wg_nm ?_ | with_reducible refine wg_nl ?_ | with_reducible refine wg_cs ?_ | ((with_reducible refine wg_istp ?_); refine wg_tp rfl ?_) | with_reducible refine wg_sb ?_)
local macro_rules | `(tactic| walk_at "wp1s") => `(tactic| first | with_reducible refine ws_seq ?_ | with_reducible refine ws_next ?_ | with_reducible refine ws_cnt ?_ | with_reducible refine ws_brk ?_ | with_reducible refine ws_retN ?_ | with_reducible refine ws_ret ?_ | with_reducible refine ws_expr ?_ | with_reducible refine ws_if ?_ | with_reducible refine ws_asg ?_ | with_reducible refine ws_par2 ?_ | with_reducible refine ws_par3 ?_ | with_reducible refine ws_for ?_)
local macro_rules | `(tactic| walk_at "wp1") => `(tactic| first | walk_at "wp1e" | walk_at "wp1s")
local macro_rules | `(tactic| walk_at "noslf") => `(tactic| first | (intro h; cases h; done) | assumption | nofun)
local macro_rules | `(tactic| walk_at "wp2") => `(tactic| first | ((with_reducible refine we_isv ?_); refine we_var rfl (by walk_at "noslf") ?_) | with_reducible refine br_t ?_ | with_reducible refine br_f ?_ | refine ⟨_, rfl, br_t ?_⟩ | refine ⟨_, rfl, br_f ?_⟩)
local macro_rules | `(tactic| walk_at "wpx") => `(tactic| first | with_reducible refine x_bl ?_ | with_reducible refine t_bl ?_ | with_reducible refine t_lst ?_ | with_reducible refine t_tup ?_ | with_reducible refine t_int ?_ | with_reducible refine t_non ?_ | with_reducible refine a_lst ?_ | with_reducible refine a_tup ?_ | with_reducible refine s_lst ?_ | with_reducible refine s_tup ?_ | with_reducible refine br_not ?_ | with_reducible refine we_lft pAdd_ii ?_ | with_reducible refine we_lft pSub_ii ?_ | with_reducible refine we_lft pLt_ii ?_ | with_reducible refine we_lft pLe_ii ?_ | with_reducible refine we_lft pGt_ii ?_ | with_reducible refine we_lft pGe_ii ?_ | with_reducible refine we_lft pEq_ii ?_ | with_reducible refine we_lft pNe_ii ?_ | with_reducible refine we_lft len_lI ?_ | with_reducible refine we_lft len_tI ?_ | with_reducible refine we_lft len_rL ?_ | with_reducible refine we_lft len_rT ?_ | with_reducible refine we_lft len_lo ?_ | with_reducible refine we_lft pLen_lst ?_ | with_reducible refine we_lft pLen_tup ?_ | with_reducible refine we_lft pInt_i ?_ | with_reducible refine we_lft pInt_b ?_ | with_reducible refine we_lft all_ok ?_ | with_reducible refine we_lft any_ok ?_ | with_reducible refine we_lft sum_lI ?_ | with_reducible refine we_dT ?_ | with_reducible refine we_lft neg_i ?_ | with_reducible refine x_int ?_ | with_reducible refine len_nil2 ?_ | ((with_reducible refine len_isl ?_); refine len_lit rfl ?_))
local macro_rules | `(tactic| walk_at "wsa") => `(tactic| (with_reducible refine ws_seq ?_; with_reducible refine ws_asg ?_))
local macro_rules | `(tactic| walk_at "wsi") => `(tactic| (with_reducible refine ws_seq ?_; with_reducible refine ws_if ?_))
local macro_rules | `(tactic| walk_at "wsf") => `(tactic| (with_reducible refine ws_seq ?_; with_reducible refine ws_for ?_))
local macro_rules | `(tactic| walk_at "wsn") => `(tactic| with_reducible refine ws_next ?_)
local macro_rules | `(tactic| walk_at "wpe") => `(tactic| repeat (first | walk_at "wp1e" | walk_at "wp2" | walk_at "wpx"))
local macro_rules | `(tactic| walk_at "wps") => `(tactic| repeat (first | walk_at "wp1" | walk_at "wp2" | walk_at "wpx"))
theorem tr_keep {L : Store} {t : Nat} {S S' : Store} (h : Tl.Tr L t S) (k : Keep S S') : Tl.Tr L t S' := by
  have hl := Tl.tr_lt h
  obtain ⟨⟨a, b, c, h1, h2⟩, h3, h4⟩ := h
  exact ⟨⟨a, b, c, by rw [k.2 t hl]; exact h1, h2⟩, h3, fun j hj => by rw [k.2 j (by omega)]; exact h4 j hj⟩
structure C13 (cal : Nat → List D → M D) : Prop where
  take : Tl.TakF L3 (cal 3)
  words : ∀ t S, Tl.Tr L3 t S → WE (cal 304 [.ref t, .int 10]) S fun d S' => ∃ ns : List Str, d = .lst (ns.map D.str) ∧ ns.length = 10 ∧ (∀ x ∈ ns, isN x = true) ∧ Tl.Tr L3 t S'
  bent : ∀ (t n : Nat) s S, Tl.Tr L3 t S → SmS n s → n ≤ 800 → 11 ≤ n → WE (cal 295 [.ref t, .str s]) S fun d S' => ∃ z, d = .str z ∧ SmS (5 * n + 30) z ∧ Tl.Tr L3 t S'
  judged : ∀ d S, Pre L3 S → DV S d → WE (cal 302 [d]) S fun r S' => r = .bl true ∧ Keep S S'
  odd : ∀ t S, Tl.Tr L3 t S → WE (cal 292 [.ref t]) S fun d S' => DV S' d ∧ Tl.Tr L3 t S'
section
variable {cal : Nat → List D → M D} {S : Store}
theorem wl_ties {M : List Str} {k : Nat} (h : ∀ x ∈ M, SmS 17 x) (hM : M.length ≤ k) : WL (18 * k) M := by
  refine ⟨?_, fun x hx => (h x hx).ch⟩
  induction M generalizing k with
  | nil => exact Nat.zero_le _
  | cons x M ih =>
    rw [wt_cons]
    have := (h x (List.mem_cons_self ..)).len
    have := ih (k := k - 1) (fun y hy => h y (List.mem_cons_of_mem _ hy)) (by rw [List.length_cons] at hM; omega)
    rw [List.length_cons] at hM
    omega
theorem sm_tie {a b : Str} (ha : isN a = true) (hb : isN b = true) : SmS 17 (a ++ " " ++ b) :=
  (sm_app (sm_app (isN_sm ha) (show SmS 1 " " from ⟨by decide +kernel, by decide +kernel⟩)) (isN_sm hb)).mono (by omega)
end
end Sw
namespace Sw
open PySem PySem.W PyProof.Rows L2 Ev Bd Sp Rg Wp Ty Xr Pp Sx
local macro_rules | `(tactic| walk_at "wp1e") => `(tactic| first | with_reducible refine we_c ?_ | with_reducible refine we_op ?_ | with_reducible refine we_un ?_ | with_reducible refine we_callV ?_ | with_reducible refine we_cons ?_ | with_reducible refine we_nil ?_ | with_reducible refine we_asB ?_ | with_reducible refine we_tru ?_ | with_reducible refine we_and ?_ | with_reducible refine we_or ?_ | with_reducible refine we_not ?_ | with_reducible refine we_if ?_ | with_reducible refine wt_and ?_ | with_reducible refine wt_or ?_ | with_reducible refine wt_not ?_ | with_reducible refine wt_yes ?_ | with_reducible refine we_chain ?_ | with_reducible refine we_fld ?_ | with_reducible refine we_isi ?_ | with_reducible refine we_mb ?_ | with_reducible refine we_frz ?_ | with_reducible refine we_cut ?_ | with_reducible refine we_oN ?_ | with_reducible refine we_oS ?_ | with_reducible refine we_any ?_ | with_reducible refine we_star ?_ | with_reducible refine we_lc ?_ | with_reducible refine we_R1 ?_ | with_reducible refine we_R2 ?_ | with_reducible refine we_rg ?_ | with_reducible refine we_enu ?_ | with_reducible refine we_zip ?_ | with_reducible refine we_tup ?_ | with_reducible refine we_lst ?_ | with_reducible refine we_lstC ?_ | with_reducible refine we_cal ?_ | with_reducible refine wg_nm ?_ | with_reducible refine wg_nl ?_ | with_reducible refine wg_cs ?_ | ((with_reducible refine wg_istp ?_); refine wg_tp rfl ?_) | with_reducible refine wg_sb ?_)
local macro_rules | `(tactic| walk_at "wp1s") => `(tactic| first | with_reducible refine ws_seq ?_ | with_reducible refine ws_next ?_ | with_reducible refine ws_cnt ?_ | with_reducible refine ws_brk ?_ | with_reducible refine ws_retN ?_ | with_reducible refine ws_ret ?_ | with_reducible refine ws_expr ?_ | with_reducible refine ws_if ?_ | with_reducible refine ws_asg ?_ | with_reducible refine ws_par2 ?_ | with_reducible refine ws_par3 ?_ | with_reducible refine ws_for ?_)
local macro_rules | `(tactic| walk_at "wp1") => `(tactic| first | walk_at "wp1e" | walk_at "wp1s")
local macro_rules | `(tactic| walk_at "noslf") => `(tactic| first | (intro h; cases h; done) | assumption | nofun)
local macro_rules | `(tactic| walk_at "wp2") => `(tactic| first | ((with_reducible refine we_isv ?_); refine we_var rfl (by walk_at "noslf") ?_) | with_reducible refine br_t ?_ | with_reducible refine br_f ?_ | refine ⟨_, rfl, br_t ?_⟩ | refine ⟨_, rfl, br_f ?_⟩)
local macro_rules | `(tactic| walk_at "wpx") => `(tactic| first | with_reducible refine x_bl ?_ | with_reducible refine t_bl ?_ | with_reducible refine t_lst ?_ | with_reducible refine t_tup ?_ | with_reducible refine t_int ?_ | with_reducible refine t_non ?_ | with_reducible refine a_lst ?_ | with_reducible refine a_tup ?_ | with_reducible refine s_lst ?_ | with_reducible refine s_tup ?_ | with_reducible refine br_not ?_ | with_reducible refine we_lft pAdd_ii ?_ | with_reducible refine we_lft pSub_ii ?_ | with_reducible refine we_lft pLt_ii ?_ | with_reducible refine we_lft pLe_ii ?_ | with_reducible refine we_lft pGt_ii ?_ | with_reducible refine we_lft pGe_ii ?_ | with_reducible refine we_lft pEq_ii ?_ | with_reducible refine we_lft pNe_ii ?_ | with_reducible refine we_lft len_lI ?_ | with_reducible refine we_lft len_tI ?_ | with_reducible refine we_lft len_rL ?_ | with_reducible refine we_lft len_rT ?_ | with_reducible refine we_lft len_lo ?_ | with_reducible refine we_lft pLen_lst ?_ | with_reducible refine we_lft pLen_tup ?_ | with_reducible refine we_lft pInt_i ?_ | with_reducible refine we_lft pInt_b ?_ | with_reducible refine we_lft all_ok ?_ | with_reducible refine we_lft any_ok ?_ | with_reducible refine we_lft sum_lI ?_ | with_reducible refine we_dT ?_ | with_reducible refine we_lft neg_i ?_ | with_reducible refine x_int ?_ | with_reducible refine len_nil2 ?_ | ((with_reducible refine len_isl ?_); refine len_lit rfl ?_))
local macro_rules | `(tactic| walk_at "wsa") => `(tactic| (with_reducible refine ws_seq ?_; with_reducible refine ws_asg ?_))
local macro_rules | `(tactic| walk_at "wsi") => `(tactic| (with_reducible refine ws_seq ?_; with_reducible refine ws_if ?_))
local macro_rules | `(tactic| walk_at "wsf") => `(tactic| (with_reducible refine ws_seq ?_; with_reducible refine ws_for ?_))
local macro_rules | `(tactic| walk_at "wsn") => `(tactic| with_reducible refine ws_next ?_)
local macro_rules | `(tactic| walk_at "wpe") => `(tactic| repeat (first | walk_at "wp1e" | walk_at "wp2" | walk_at "wpx"))
local macro_rules | `(tactic| walk_at "wps") => `(tactic| repeat (first | walk_at "wp1" | walk_at "wp2" | walk_at "wpx"))
def leS (a b : Str) : Bool := dataLe false PyData.str a b
theorem leS_iff (a b : Str) : leS a b = true ↔ a.cps.toList ≤ b.cps.toList := by
  have e := congrFun (congrFun (PySem.W.dataLe_str (fun x : Str => x)) a) b
  have e2 : leS a b = decide (a.cps.toList ≤ b.cps.toList) := e
  rw [e2, decide_eq_true_eq]
def srtS (L : List Str) : List Str := L.mergeSort leS
theorem srtS_perm {L M : List Str} (h : L.Perm M) : srtS L = srtS M := by
  have tr : ∀ a b c : Str, leS a b = true → leS b c = true → leS a c = true := fun a b c h1 h2 => (leS_iff _ _).mpr (List.le_trans ((leS_iff _ _).mp h1) ((leS_iff _ _).mp h2))
  have tot : ∀ a b : Str, (leS a b || leS b a) = true := fun a b => by
    rcases List.le_total a.cps.toList b.cps.toList with h | h
    · rw [(leS_iff a b).mpr h]; rfl
    · rw [(leS_iff b a).mpr h, Bool.or_true]
  have hs : ∀ L : List Str, (L.mergeSort leS).Pairwise fun a b => leS a b = true := fun L => List.pairwise_mergeSort tr tot L
  refine List.Perm.eq_of_pairwise (le := fun a b => leS a b = true) (fun a b _ _ h1 h2 => ?_) (hs L) (hs M) (((List.mergeSort_perm _ _).trans h).trans (List.mergeSort_perm _ _).symm)
  have e := List.le_antisymm ((leS_iff _ _).mp h1) ((leS_iff _ _).mp h2)
  cases a
  cases b
  congr
  exact Array.ext' e
theorem alike_s (a b : Str) : alike (.str a) (.str b) = true := rfl
theorem sortOk_s (L : List Str) : sortOk (L.map PyData.str) = true := by
  unfold sortOk
  simp only [Bool.and_eq_true, Bool.or_eq_true, List.all_eq_true]
  refine ⟨⟨fun p hp q hq => ?_, .inr fun p hp => ?_⟩, fun p hp => ?_⟩
  · obtain ⟨i, _, rfl⟩ := List.mem_map.mp hp
    obtain ⟨j, _, rfl⟩ := List.mem_map.mp hq
    exact alike_s i j
  · obtain ⟨i, _, rfl⟩ := List.mem_map.mp hp
    rfl
  · obtain ⟨i, _, rfl⟩ := List.mem_map.mp hp
    exact decide_eq_true (depth_s i)
theorem sortBy_s (L : List Str) : sortBy ((L.map D.str).zip (L.map PyData.str)) = (srtS L).map D.str := by
  have hz : (L.map D.str).zip (L.map PyData.str) = L.map fun q => (D.str q, PyData.str q) := by
    induction L with
    | nil => rfl
    | cons q L ih => simp only [List.map_cons, List.zip_cons_cons, ih]
  unfold sortBy
  rw [hz]
  have e : (L.map fun q => (D.str q, PyData.str q)).mergeSort (dataLe false (·.2)) = (L.mergeSort leS).map fun q => (D.str q, PyData.str q) := by
    rw [List.map_mergeSort]
    intro a _ b _
    rfl
  rw [e, List.map_map]
  rfl
section
variable {cal : Nat → List D → M D} {S : Store}
theorem sortD_s {L : List Str} (hn : L.length ≤ 1000000) : pSortD [.lst (L.map D.str)] S = some (.lst ((srtS L).map D.str), S) := by
  have hc : sortOk (L.map PyData.str) = true ∧ (L.map D.str).length ≤ sizeLine := ⟨sortOk_s L, by rw [List.length_map]; exact small hn⟩
  simp only [pSortD, lstOf, Option.bind_some, toP_ss]
  rw [if_pos hc, sortBy_s]
theorem eqvAll_ss : ∀ L : List Str, PyData.eqvAll (L.map PyData.str) (L.map PyData.str) = true
  | [] => by simp [PyData.eqvAll]
  | x :: L => by
    have := eqvAll_ss L
    simp only [List.map_cons, PyData.eqvAll, PyData.eqv, this, Bool.and_true]
    simp
theorem ne_same {L : List Str} : pNe (.lst (L.map D.str)) (.lst (L.map D.str)) S = some (.bl false, S) := by
  have e1 : toPS S (.lst (L.map D.str)) = some (.list (L.map PyData.str)) := by simp only [toPS, toPS_ss, Option.map_some]
  have d : (PyData.list (L.map PyData.str)).depth ≤ 60 := by
    have := depthAll_le (d := 1) (ps := L.map PyData.str) fun p hp => by
      obtain ⟨q, _, rfl⟩ := List.mem_map.mp hp
      simp [PyData.depth]
    simp only [PyData.depth]
    omega
  have e : PyData.eqv (.list (L.map PyData.str)) (.list (L.map PyData.str)) = true := by rw [PyData.eqv]; exact eqvAll_ss L
  simp only [pNe, eqD, e1, d, if_true, e, Option.map_some]
  rfl
/-- of_web of a text that is a web -/
theorem webOk_ev {s : Str} (hs : s.length ≤ 100000) (W : WebOk s)
    (h312 : ∀ S, WE (cal 312 [.str s]) S fun d S' => S' = S ∧ (((ties s).length ≤ 8 ∧ (∀ t ∈ ties s, tieOk t = true) ∧ d = tiesD (ties s)) ∨ (¬ ((ties s).length ≤ 8 ∧ ∀ t ∈ ties s, tieOk t = true) ∧ d = .non)))
    (h310 : ∀ (ts : List (List Str)) (ns : List Str) S, ts.length ≤ 1000 → ns.length ≤ 1000 → WE (cal 310 [tiesD ts, .lst (ns.map D.str)]) S fun d S' => S' = S ∧ d = rowsL (ts.map fun t => ns.map fun x => if x ∈ t then (1 : Int) else 0))
    (h311 : ∀ h w R S, Full h w R → cal 311 [rowsL R] S = .ok (tabD h w R) S) :
    WE (funM 5 1 (b_of_web_v2 cal) [.str s]) S fun d S' => d = tabD (ties s).length (namesOf (ties s)).length (webR (ties s)) ∧ Keep S S' := by
  unfold b_of_web_v2
  refine we_fun rfl ?_
  show WS (sSeq _ _ [some (.str s), none, none, none, none] S) _
  walk_at "wsa"
  walk_at "wpe"
  refine we_imp (h312 S) ?_
  rintro d0 S0 ⟨e, h⟩
  subst e
  refine wg_nm ?_
  rcases h with ⟨t8, tok, rfl⟩ | ⟨no, rfl⟩
  rotate_left
  · exact absurd ⟨W.h8, W.ok⟩ no
  have two : ∀ t ∈ ties s, t.length = 2 := fun t ht => by
    obtain ⟨a, b, rfl, _⟩ := tieOk_two (tok t ht)
    rfl
  have nl := names_len two
  walk_at "wsi"
  walk_at "wpe"
  refine we_lft (show pIs (tiesD (ties s)) .non S0 = some (.bl false, S0) from rfl) ?_
  refine x_bl ?_
  refine br_f ?_
  walk_at "wsn"
  walk_at "wsa"
  with_reducible refine we_lstC ?_
  with_reducible refine we_nil ?_
  refine ⟨small (by simp), ?_⟩
  refine wg_nm ?_
  walk_at "wsf"
  walk_at "wpe"
  refine ⟨_, rfl, ?_⟩
  refine ws_loop (fun k δ S' => (∃ o3 o4, δ = ([some (.str s), some (tiesD (ties s)), some (.ref S0.length), o3, o4] : En)) ∧ S' = S0 ++ [some (.lst (((ties s).take k).foldl addN [] |>.map D.str))]) ?_ ?_ ⟨⟨_, _, rfl⟩, rfl⟩
  · rintro k hk δ S' ⟨⟨o3, o4, rfl⟩, e⟩
    subst e
    rw [List.length_map] at hk
    rw [List.getElem_map]
    have hlt := two _ (List.getElem_mem hk)
    have nlk := nl k
    obtain ⟨ns, hns⟩ : ∃ ns, ns = ((ties s).take k).foldl addN [] := ⟨_, rfl⟩
    rw [foldl_take hk, ← hns]
    rw [← hns] at nlk
    have c0 : (S0 ++ [some (Cell.lst (ns.map D.str))])[S0.length]? = some (some (.lst (ns.map D.str))) := by simp
    refine wg_nm ?_
    with_reducible refine ws_expr ?_
    walk_at "wpe"
    refine ⟨ty_ref c0, ?_⟩
    walk_at "wpe"
    refine we_loopE (S := S0 ++ [some (Cell.lst (ns.map D.str))]) D.str D.str (fun x => !decide (x ∈ ns)) (fun x => x) (zs := (ties s)[k]) (by omega) (fun x hx => ?_) ?_
    · refine ⟨_, rfl, ?_⟩
      walk_at "wpe"
      refine we_lft (notin_ref c0) ?_
      refine x_bl ?_
      refine ⟨rfl, rfl, fun _ => ?_⟩
      walk_at "wpe"
      exact ⟨rfl, rfl⟩
    rw [List.map_id']
    have fl := List.length_filter_le (fun x => !decide (x ∈ ns)) (ties s)[k]
    refine we_newL (by rw [List.length_map]; exact small (by omega)) ?_
    walk_at "wpe"
    refine we_lft (ext_ref c0 (by rw [List.length_map, List.length_map]; omega)) ?_
    refine ⟨⟨_, _, rfl⟩, ?_⟩
    rw [← List.map_append]
    unfold addN
    simp
  · rintro δ S' ⟨⟨o3, o4, rfl⟩, e⟩
    subst e
    rw [List.length_map, List.take_length]
    have en : (ties s).foldl addN [] = namesOf (ties s) := rfl
    rw [en]
    have nll := nl (ties s).length
    rw [List.take_length, en] at nll
    have c0 : (S0 ++ [some (Cell.lst ((namesOf (ties s)).map D.str))])[S0.length]? = some (some (.lst ((namesOf (ties s)).map D.str))) := by simp
    with_reducible refine ws_seq ?_
    refine ws_frzS (i := 2) rfl rfl (frz_ss c0) ?_
    have kp : Keep S0 ((S0 ++ [some (Cell.lst ((namesOf (ties s)).map D.str))]).set S0.length none) := ⟨by simp, fun j hj => by rw [List.getElem?_set_ne (by omega), List.getElem?_append_left hj]⟩
    with_reducible refine ws_if ?_
    walk_at "wpe"
    have n8 := W.n8
    refine br_dec (fun h8 => ?_) fun h8 => ?_
    · rw [List.length_map] at h8
      omega
    walk_at "wsn"
    walk_at "wps"
    refine we_imp (h310 _ _ _ (by omega) (by omega)) ?_
    rintro _ S1 ⟨e, rfl⟩
    subst e
    walk_at "wpe"
    exact we_ok (h311 _ _ _ _ (web_full W)) ⟨rfl, kp⟩
end
abbrev Ti := Str × Str
def tieS (p : Ti) : Str := p.1 ++ " " ++ p.2
def tieL (p : Ti) : List Str := [p.1, p.2]
def tieD (p : Ti) : D := .tup [.str p.1, .str p.2]
structure Tied (ns : List Str) (P : List Ti) : Prop where
  h1 : 0 < P.length
  h8 : P.length ≤ 8
  n8 : ns.length ≤ 8
  nm : ∀ x ∈ ns, isN x = true
  m : ∀ p ∈ P, p.1 ∈ ns ∧ p.2 ∈ ns ∧ p.1 ≠ p.2
theorem abc_no : (32 : Nat) ∉ abc ∧ (10 : Nat) ∉ abc := by decide +kernel
theorem wds_tie {a b : Str} (ha : isN a = true) (hb : isN b = true) : wds (a ++ " " ++ b) = [a, b] := by
  have e : a ++ " " ++ b = Txt.join " " [a, b] := by rw [TL.join_eq]; rfl
  unfold wds
  rw [e]
  refine TL.split_join sp_tl (by decide +kernel) (by simp) fun p hp h => ?_
  have hq : isN p = true := by
    rcases List.mem_cons.mp hp with rfl | hp
    · exact ha
    · rw [List.mem_singleton.mp hp]; exact hb
  exact abc_no.1 ((isN_iff.mp hq).2 _ h)
theorem ties_text {P : List Ti} (h0 : 0 < P.length) (h : ∀ p ∈ P, isN p.1 = true ∧ isN p.2 = true) : ties (Txt.join "\n" (P.map tieS)) = P.map tieL := by
  have e : lns (Txt.join "\n" (P.map tieS)) = P.map tieS := by
    unfold lns
    refine TL.split_join Sp.nl_tl (by decide +kernel) (fun e => ?_) fun p hp hx => ?_
    · rw [List.map_eq_nil_iff.mp e] at h0
      simp at h0
    · obtain ⟨q, hq, rfl⟩ := List.mem_map.mp hp
      obtain ⟨h1, h2⟩ := h q hq
      have hx' : (10 : Nat) ∈ TL.tl (q.1 ++ " " ++ q.2) := hx
      rw [TL.tl_append, TL.tl_append, sp_tl] at hx'
      rcases List.mem_append.mp hx' with hx | hx
      · rcases List.mem_append.mp hx with hx | hx
        · exact abc_no.2 ((isN_iff.mp h1).2 _ hx)
        · have := List.mem_singleton.mp hx
          omega
      · exact abc_no.2 ((isN_iff.mp h2).2 _ hx)
  unfold ties
  rw [e, List.map_map]
  refine List.map_congr_left fun p hp => ?_
  obtain ⟨h1, h2⟩ := h p hp
  exact wds_tie h1 h2
section
variable {ns : List Str} {P : List Ti}
theorem Tied.isn (T : Tied ns P) : ∀ p ∈ P, isN p.1 = true ∧ isN p.2 = true := fun p hp => ⟨T.nm _ (T.m p hp).1, T.nm _ (T.m p hp).2.1⟩
theorem tied_ties (T : Tied ns P) : ties (Txt.join "\n" (P.map tieS)) = P.map tieL := ties_text T.h1 T.isn
theorem addN_nodup {ns t : List Str} (h1 : ns.Nodup) (h2 : t.Nodup) : (addN ns t).Nodup := by
  unfold addN
  rw [List.nodup_append]
  refine ⟨h1, h2.filter _, fun a ha b hb e => ?_⟩
  subst e
  have := (List.mem_filter.mp hb).2
  simp [ha] at this
theorem foldN_nodup : ∀ {ts : List (List Str)} {ns : List Str}, ns.Nodup → (∀ t ∈ ts, t.Nodup) → (ts.foldl addN ns).Nodup
  | [], ns, h, _ => h
  | t :: ts, ns, h, k => by
    rw [List.foldl_cons]
    exact foldN_nodup (addN_nodup h (k t (List.mem_cons_self ..))) fun u hu => k u (List.mem_cons_of_mem _ hu)
theorem names_nodup (T : Tied ns P) : (namesOf (P.map tieL)).Nodup := foldN_nodup (by simp) fun t ht => by
  obtain ⟨p, hp, rfl⟩ := List.mem_map.mp ht
  unfold tieL
  simp [(T.m p hp).2.2]
theorem names_in (T : Tied ns P) : ∀ x ∈ namesOf (P.map tieL), x ∈ ns := fun x hx => by
  rcases names_mem.mp hx with h | ⟨t, ht, h⟩
  · simp at h
  · obtain ⟨p, hp, rfl⟩ := List.mem_map.mp ht
    obtain ⟨m1, m2, _⟩ := T.m p hp
    rcases List.mem_cons.mp h with rfl | h
    · exact m1
    · rw [List.mem_singleton.mp h]; exact m2
theorem tied_ok (T : Tied ns P) : WebOk (Txt.join "\n" (P.map tieS)) := by
  have e := tied_ties T
  refine ⟨by rw [e, List.length_map]; exact T.h8, fun t ht => ?_, ?_⟩
  · rw [e] at ht
    obtain ⟨p, hp, rfl⟩ := List.mem_map.mp ht
    obtain ⟨h1, h2⟩ := T.isn p hp
    have hne := (T.m p hp).2.2
    show (decide (([p.1, p.2] : List Str).length = 2) && (isN p.1 && (isN p.2 && decide (p.1 ≠ p.2)))) = true
    rw [h1, h2, decide_eq_true hne]
    rfl
  · rw [e]
    exact Nat.le_trans (nodup_le (names_nodup T) (names_in T)) T.n8
def flip (P : List Ti) : List Ti := P.map fun p => (p.2, p.1)
theorem tied_flip (T : Tied ns P) : Tied ns (flip P) := by
  unfold flip
  refine ⟨by rw [List.length_map]; exact T.h1, by rw [List.length_map]; exact T.h8, T.n8, T.nm, fun q hq => ?_⟩
  obtain ⟨p, hp, rfl⟩ := List.mem_map.mp hq
  obtain ⟨h1, h2, h3⟩ := T.m p hp
  exact ⟨h2, h1, fun e => h3 e.symm⟩
theorem tie_flip {p : Ti} {x : Str} : x ∈ tieL (p.2, p.1) ↔ x ∈ tieL p := by
  unfold tieL
  simp [or_comm]
theorem flip_perm (T : Tied ns P) : (namesOf ((flip P).map tieL)).Perm (namesOf (P.map tieL)) := by
  refine (List.perm_ext_iff_of_nodup (names_nodup (tied_flip T)) (names_nodup T)).mpr fun x => ?_
  unfold namesOf
  rw [names_mem, names_mem]
  constructor
  · rintro (h | ⟨t, ht, h⟩)
    · simp at h
    · obtain ⟨q, hq, rfl⟩ := List.mem_map.mp ht
      obtain ⟨p, hp, rfl⟩ := List.mem_map.mp hq
      exact .inr ⟨tieL p, List.mem_map.mpr ⟨p, hp, rfl⟩, tie_flip.mp h⟩
  · rintro (h | ⟨t, ht, h⟩)
    · simp at h
    · obtain ⟨p, hp, rfl⟩ := List.mem_map.mp ht
      exact .inr ⟨tieL (p.2, p.1), List.mem_map.mpr ⟨(p.2, p.1), List.mem_map.mpr ⟨p, hp, rfl⟩, rfl⟩, tie_flip.mpr h⟩
/-- the column of a name -/
def colN (ts : List (List Str)) (x : Str) : Str := Txt.join "" (ts.map fun t => dig (if x ∈ t then (1 : Int) else 0))
theorem colN_flip {x : Str} : colN ((flip P).map tieL) x = colN (P.map tieL) x := by
  unfold colN flip
  rw [List.map_map, List.map_map, List.map_map]
  congr 1
  refine List.map_congr_left fun p _ => ?_
  show dig (if x ∈ tieL (p.2, p.1) then (1 : Int) else 0) = dig (if x ∈ tieL p then (1 : Int) else 0)
  by_cases h : x ∈ tieL p
  · rw [if_pos h, if_pos (tie_flip.mpr h)]
  · rw [if_neg h, if_neg fun z => h (tie_flip.mp z)]
theorem cols_same (T : Tied ns P) : srtS ((namesOf ((flip P).map tieL)).map (colN ((flip P).map tieL))) = srtS ((namesOf (P.map tieL)).map (colN (P.map tieL))) := by
  rw [show (namesOf ((flip P).map tieL)).map (colN ((flip P).map tieL)) = (namesOf ((flip P).map tieL)).map (colN (P.map tieL)) from List.map_congr_left fun x _ => colN_flip]
  exact srtS_perm ((flip_perm T).map _)
end
end Sw
namespace Sw
open PySem L2 Ev Bd Sp Rg Wp Ty Xr Pp Sx
local macro_rules | `(tactic| walk_at "wp1e") => `(tactic| first | with_reducible refine we_c ?_ | with_reducible refine we_op ?_ | with_reducible refine we_un ?_ | with_reducible refine we_callV ?_ | with_reducible refine we_cons ?_ | with_reducible refine we_nil ?_ | with_reducible refine we_asB ?_ | with_reducible refine we_tru ?_ | with_reducible refine we_and ?_ | with_reducible refine we_or ?_ | with_reducible refine we_not ?_ | with_reducible refine we_if ?_ | with_reducible refine wt_and ?_ | with_reducible refine wt_or ?_ | with_reducible refine wt_not ?_ | with_reducible refine wt_yes ?_ | with_reducible refine we_chain ?_ | with_reducible refine we_fld ?_ | with_reducible refine we_isi ?_ | with_reducible refine we_mb ?_ | with_reducible refine we_frz ?_ | with_reducible refine we_cut ?_ | with_reducible refine we_oN ?_ | with_reducible refine we_oS ?_ | with_reducible refine we_any ?_ | with_reducible refine we_star ?_ | with_reducible refine we_lc ?_ | with_reducible refine we_R1 ?_ | with_reducible refine we_R2 ?_ | with_reducible refine we_rg ?_ | with_reducible refine we_enu ?_ | with_reducible refine we_zip ?_ | with_reducible refine we_tup ?_ | with_reducible refine we_lst ?_ | with_reducible refine we_lstC ?_ | with_reducible refine we_cal ?_ | with_reducible refine wg_nm ?_ | with_reducible refine wg_nl ?_ | with_reducible refine wg_cs ?_ | ((with_reducible refine wg_istp ?_); refine wg_tp rfl ?_) | with_reducible refine wg_sb ?_)
local macro_rules | `(tactic| walk_at "wp1s") => `(tactic| first | with_reducible refine ws_seq ?_ | with_reducible refine ws_next ?_ | with_reducible refine ws_cnt ?_ | with_reducible refine ws_brk ?_ | with_reducible refine ws_retN ?_ | with_reducible refine ws_ret ?_ | with_reducible refine ws_expr ?_ | with_reducible refine ws_if ?_ | with_reducible refine ws_asg ?_ | with_reducible refine ws_par2 ?_ | with_reducible refine ws_par3 ?_ | with_reducible refine ws_for ?_)
local macro_rules | `(tactic| walk_at "wp1") => `(tactic| first | walk_at "wp1e" | walk_at "wp1s")
local macro_rules | `(tactic| walk_at "noslf") => `(tactic| first | (intro h; cases h; done) | assumption | nofun)
local macro_rules | `(tactic| walk_at "wp2") => `(tactic| first | ((with_reducible refine we_isv ?_); refine we_var rfl (by walk_at "noslf") ?_) | with_reducible refine br_t ?_ | with_reducible refine br_f ?_ | refine ⟨_, rfl, br_t ?_⟩ | refine ⟨_, rfl, br_f ?_⟩)
local macro_rules | `(tactic| walk_at "wpx") => `(tactic| first | with_reducible refine x_bl ?_ | with_reducible refine t_bl ?_ | with_reducible refine t_lst ?_ | with_reducible refine t_tup ?_ | with_reducible refine t_int ?_ | with_reducible refine t_non ?_ | with_reducible refine a_lst ?_ | with_reducible refine a_tup ?_ | with_reducible refine s_lst ?_ | with_reducible refine s_tup ?_ | with_reducible refine br_not ?_ | with_reducible refine we_lft pAdd_ii ?_ | with_reducible refine we_lft pSub_ii ?_ | with_reducible refine we_lft pLt_ii ?_ | with_reducible refine we_lft pLe_ii ?_ | with_reducible refine we_lft pGt_ii ?_ | with_reducible refine we_lft pGe_ii ?_ | with_reducible refine we_lft pEq_ii ?_ | with_reducible refine we_lft pNe_ii ?_ | with_reducible refine we_lft len_lI ?_ | with_reducible refine we_lft len_tI ?_ | with_reducible refine we_lft len_rL ?_ | with_reducible refine we_lft len_rT ?_ | with_reducible refine we_lft len_lo ?_ | with_reducible refine we_lft pLen_lst ?_ | with_reducible refine we_lft pLen_tup ?_ | with_reducible refine we_lft pInt_i ?_ | with_reducible refine we_lft pInt_b ?_ | with_reducible refine we_lft all_ok ?_ | with_reducible refine we_lft any_ok ?_ | with_reducible refine we_lft sum_lI ?_ | with_reducible refine we_dT ?_ | with_reducible refine we_lft neg_i ?_ | with_reducible refine x_int ?_ | with_reducible refine len_nil2 ?_ | ((with_reducible refine len_isl ?_); refine len_lit rfl ?_))
local macro_rules | `(tactic| walk_at "wsa") => `(tactic| (with_reducible refine ws_seq ?_; with_reducible refine ws_asg ?_))
local macro_rules | `(tactic| walk_at "wsi") => `(tactic| (with_reducible refine ws_seq ?_; with_reducible refine ws_if ?_))
local macro_rules | `(tactic| walk_at "wsf") => `(tactic| (with_reducible refine ws_seq ?_; with_reducible refine ws_for ?_))
local macro_rules | `(tactic| walk_at "wsn") => `(tactic| with_reducible refine ws_next ?_)
local macro_rules | `(tactic| walk_at "wpe") => `(tactic| repeat (first | walk_at "wp1e" | walk_at "wp2" | walk_at "wpx"))
local macro_rules | `(tactic| walk_at "wps") => `(tactic| repeat (first | walk_at "wp1" | walk_at "wp2" | walk_at "wpx"))
structure C11 (cal : Nat → List D → M D) : Prop where
  take : Tl.TakF [] (cal 3)
  words : ∀ (t m : Nat) S, Tl.Tr [] t S → m ≤ 10 → WE (cal 309 [.ref t, .int m]) S fun d S' => ∃ ns : List Str, d = .lst (ns.map D.str) ∧ ns.length = m ∧ ns.Nodup ∧ (∀ x ∈ ns, isN x = true) ∧ Tl.Tr [] t S'
  web : ∀ s S, s.length ≤ 100000 → WebOk s → WE (cal 308 [.str s]) S fun d S' => d = tabD (ties s).length (namesOf (ties s)).length (webR (ties s)) ∧ Keep S S'
  text : ∀ h w R S, Full h w R → cal 2 [rowsL R] S = .ok (.str (txt R)) S
  str : ∀ h w R S, cal 6 [tabD h w R] S = .ok (.str (txt R)) S
theorem far_ne {L p q : Nat} (hp : p < L) (hq : q + 1 < L) : (p + 1 + q) % L < L ∧ (p + 1 + q) % L ≠ p := by
  refine ⟨Nat.mod_lt _ (by omega), ?_⟩
  by_cases h : p + 1 + q < L
  · rw [Nat.mod_eq_of_lt h]; omega
  · rw [Nat.mod_eq_sub_mod (by omega), Nat.mod_eq_of_lt (by omega)]; omega
theorem nodup_ne {L : List Str} (nd : L.Nodup) {i j : Nat} (hi : i < L.length) (hj : j < L.length) (h : i ≠ j) : L[i] ≠ L[j] := by
  have nd' := List.pairwise_iff_getElem.mp nd
  rcases Nat.lt_or_gt_of_ne h with h | h
  · exact nd' i j hi hj h
  · exact fun e => nd' j i hj hi h e.symm
section
variable {cal : Nat → List D → M D} {S : Store}
theorem frz_ties {n : Nat} {P : List Ti} (hn : S[n]? = some (some (.lst (P.map tieD)))) : frzD 4 (.ref n) S = some (.lst (P.map tieD), S.set n none) := by
  have e : frzDs 3 (P.map tieD) (S.set n none) = some (P.map tieD, S.set n none) := frzDs_id fun x hx S => by
    obtain ⟨p, _, rfl⟩ := List.mem_map.mp hx
    simp [tieD, frzD, frzDs]
  simp only [frzD, hn, e, Option.map_some]
theorem in_tie {p : Ti} {x : Str} : pIn (.str x) (tieD p) S = some (.bl (decide (x ∈ tieL p)), S) := by
  have e2 : toPS S (tieD p) = some (.tuple ((tieL p).map PyData.str)) := by
    have := toPS_ss (S := S) (tieL p)
    show toPS S (.tup ((tieL p).map D.str)) = _
    simp only [toPS, this, Option.map_some]
  have e1 : toPS S (.str x) = some (.str x) := rfl
  unfold tieD at e2 ⊢
  simp only [pIn, inD, e1, e2, depth_s, if_true, any_ss, Option.map_some]
theorem cols_of {ts : List (List Str)} : (List.range (namesOf ts).length).map (fun k => Txt.join "" ((webR ts).map fun r => dig (r.getD k 0))) = (namesOf ts).map (colN ts) := by
  refine List.ext_getElem (by simp) fun k h1 h2 => ?_
  rw [List.length_map] at h2
  rw [List.getElem_map, List.getElem_map, List.getElem_range]
  unfold colN webR
  rw [List.map_map]
  congr 1
  refine List.map_congr_left fun t _ => ?_
  show dig (((namesOf ts).map fun x => if x ∈ t then (1 : Int) else 0).getD k 0) = _
  rw [List.getD_eq_getElem?_getD, List.getElem?_map, List.getElem?_eq_getElem h2]
  rfl
theorem joinD_ev {r : List Int} (h : ∀ i ∈ r, i = 0 ∨ i = 1) (hl : r.length ≤ 1000) : pJoin (.str "") [.lst ((r.map dig).map D.str)] S = some (.str (Txt.join "" (r.map dig)), S) := by
  have e0 : ("" : Str).length = 0 := by decide +kernel
  refine Sp.join_ok ?_
  rw [e0, Nat.mul_zero, Nat.add_zero]
  have := Sp.sum_le (l := (r.map dig).map (·.length)) (b := 1) fun x hx => by
    obtain ⟨y, hy, rfl⟩ := List.mem_map.mp hx
    obtain ⟨i, hi, rfl⟩ := List.mem_map.mp hy
    rw [dig_len (h i hi)]
    omega
  rw [List.length_map, List.length_map] at this
  omega
theorem right11_ev (C : C11 cal) {t : Nat} (ht : Tl.Tr [] t S) : WE (funM 17 1 (b__law_right_v41 cal) [.ref t]) S fun d S' => d = .bl true ∧ Pre [] S' := by
  unfold b__law_right_v41
  refine we_fun rfl ?_
  show WS (sSeq _ _ [some (.ref t), none, none, none, none, none, none, none, none, none, none, none, none, none, none, none, none] S) _
  walk_at "wsf"
  walk_at "wpe"
  refine ⟨5, rfl, by omega, ?_⟩
  refine ws_loop (fun k δ S' => (∃ d1 d2 d3 d4 d5 d6 d7 d8 d9 d10 d11 d12 d13 d14 d15 d16, δ = ([some (.ref t), d1, d2, d3, d4, d5, d6, d7, d8, d9, d10, d11, d12, d13, d14, d15, d16] : En)) ∧ Tl.Tr [] t S') ?_ ?_ ⟨⟨_, _, _, _, _, _, _, _, _, _, _, _, _, _, _, _, rfl⟩, ht⟩
  · rintro k hk δ S' ⟨⟨d1, d2, d3, d4, d5, d6, d7, d8, d9, d10, d11, d12, d13, d14, d15, d16, rfl⟩, a⟩
    rw [rng_get]
    refine wg_nm ?_
    walk_at "wsa"
    walk_at "wpe"
    refine we_takeF C.take a (by omega) (by omega) fun f S1 hf a1 l1 k1 => ?_
    walk_at "wpe"
    rw [show (2 : Int) + (f : Int) = ((2 + f : Nat) : Int) by omega]
    refine we_imp (C.words t (2 + f) S1 a1 (by omega)) ?_
    rintro _ S2 ⟨ns, rfl, nl, nd, nN, a2⟩
    refine wg_nm ?_
    walk_at "wsa"
    with_reducible refine we_lstC ?_
    with_reducible refine we_nil ?_
    refine ⟨small (by simp), ?_⟩
    refine wg_nm ?_
    have hts := Tl.tr_lt a2
    have c0 : (S2 ++ [some (Cell.lst [])])[S2.length]? = some (some (.lst [])) := by simp
    have a3 : Tl.Tr [] t (S2 ++ [some (Cell.lst [])]) := Tl.tr_app a2
    generalize S2 ++ [some (Cell.lst [])] = S3 at c0 a3 ⊢
    generalize S2.length = n at hts c0 ⊢
    have nl2 : (ns.map D.str).length = ns.length := List.length_map ..
    walk_at "wsf"
    walk_at "wpe"
    refine we_takeF C.take a3 (by omega) (by omega) fun g S4 hg a4 l4 k4 => ?_
    have c4 := (k4 n (by omega)).trans c0
    walk_at "wpe"
    refine ⟨1 + g, by simp, by omega, ?_⟩
    refine ws_loop (fun k' δ S' => (∃ o4 o5 o6, δ = ([some (.ref t), some (.int k), some (.lst (ns.map D.str)), some (.ref n), o4, o5, o6, d7, d8, d9, d10, d11, d12, d13, d14, d15, d16] : En)) ∧ ∃ P : List Ti, P.length = k' ∧ (∀ p ∈ P, p.1 ∈ ns ∧ p.2 ∈ ns ∧ p.1 ≠ p.2) ∧ S'[n]? = some (some (.lst (P.map tieD))) ∧ Tl.Tr [] t S') ?_ ?_ ⟨⟨_, _, _, rfl⟩, [], rfl, fun x hx => by simp at hx, c4, a4⟩
    · rintro k2 hk2 δ S' ⟨⟨o4, o5, o6, rfl⟩, P, hP, hm, hc, b⟩
      rw [rng_len] at hk2
      rw [rng_get]
      refine wg_nm ?_
      walk_at "wsa"
      walk_at "wpe"
      rw [nl2]
      refine we_takeF C.take b (by omega) (by omega) fun p S5 hp b5 l5 k5 => ?_
      have c5 := (k5 n (by omega)).trans hc
      refine wg_nm ?_
      walk_at "wsa"
      walk_at "wpe"
      rw [nl2]
      refine we_takeF C.take b5 (by omega) (by omega) fun q S6 hq b6 l6 k6 => ?_
      have c6 := (k6 n (by omega)).trans c5
      walk_at "wpe"
      rw [nl2]
      refine we_lft (pMod_ii (by omega)) ?_
      obtain ⟨m, hm'⟩ : ∃ m : Nat, m = (p + 1 + q) % ns.length := ⟨_, rfl⟩
      obtain ⟨mlt, mne⟩ := far_ne (L := ns.length) (p := p) (q := q) (by omega) (by omega)
      rw [← hm'] at mlt mne
      rw [show ((p : Int) + 1 + (q : Int)) % (ns.length : Int) = (m : Int) by rw [hm']; simp]
      refine wg_nm ?_
      with_reducible refine ws_expr ?_
      walk_at "wpe"
      refine ⟨ty_ref c6, ?_⟩
      walk_at "wpe"
      refine wl_ix (k := p) (by omega) ?_
      rw [List.getElem_map]
      walk_at "wpe"
      refine wl_ix (k := m) (by omega) ?_
      rw [List.getElem_map]
      have u := List.getElem_mem (l := ns) (show p < _ by omega)
      have v := List.getElem_mem (l := ns) (show m < _ by omega)
      have uv : ns[p] ≠ ns[m] := nodup_ne nd (by omega) mlt fun e => mne e.symm
      walk_at "wpe"
      refine we_lft (app_ref c6 (Nat.lt_of_lt_of_le (show (P.map tieD).length < 1000000 by rw [List.length_map]; omega) (small (Nat.le_refl _)))) ?_
      refine ⟨⟨_, _, _, rfl⟩, P ++ [(ns[p], ns[m])], by simp [hP], fun x hx => ?_, ?_, Tl.tr_other b6 hts⟩
      · rcases List.mem_append.mp hx with hx | hx
        · exact hm x hx
        · rw [List.mem_singleton.mp hx]; exact ⟨u, v, uv⟩
      · rw [set_get c6, List.map_append]
        rfl
    rintro δ S' ⟨⟨o4, o5, o6, rfl⟩, P, hP, hm, hc, b⟩
    rw [rng_len] at hP
    have T : Tied ns P := ⟨by omega, by omega, by omega, nN, hm⟩
    have TF := tied_flip T
    have P8 := T.h8
    have P1 := T.h1
    with_reducible refine ws_seq ?_
    refine ws_frzS (i := 3) rfl rfl (frz_ties hc) ?_
    have bF := Tl.tr_other (x := none) b hts
    generalize S'.set n none = S5 at bF ⊢
    with_reducible refine ws_asg ?_
    with_reducible refine we_lst ?_
    with_reducible refine we_nil ?_
    refine ⟨small (by simp), ?_⟩
    refine wg_nm ?_
    walk_at "wsf"
    walk_at "wpe"
    have two : ∀ t ∈ P.map tieL, t.length = 2 := fun t ht => by
      obtain ⟨p, hp, rfl⟩ := List.mem_map.mp ht
      rfl
    have ln2 := names_len two
    refine ws_loop (fun k' δ S' => (∃ o8 o9, δ = ([some (.ref t), some (.int k), some (.lst (ns.map D.str)), some (.lst (P.map tieD)), o4, o5, o6, some (.lst ((((P.map tieL).take k').foldl addN []).map D.str)), o8, o9, d10, d11, d12, d13, d14, d15, d16] : En)) ∧ S' = S5) ?_ ?_ ⟨⟨_, _, rfl⟩, rfl⟩
    · rintro k2 hk2 δ S' ⟨⟨o8, o9, rfl⟩, e⟩
      subst e
      rw [List.length_map] at hk2
      rw [List.getElem_map]
      have hk3 : k2 < (P.map tieL).length := by rw [List.length_map]; exact hk2
      have lk := ln2 k2
      rw [foldl_take hk3, List.getElem_map]
      obtain ⟨os, hos⟩ : ∃ os, os = ((P.map tieL).take k2).foldl addN [] := ⟨_, rfl⟩
      rw [← hos] at lk ⊢
      refine wg_nm ?_
      with_reducible refine ws_asg ?_
      walk_at "wpe"
      refine ⟨(tieL P[k2]).map D.str, rfl, ?_⟩
      refine we_loopE (S := S') D.str D.str (fun x => !decide (x ∈ os)) (fun x => x) (zs := tieL P[k2]) (by show 2 ≤ _; omega) (fun x hx => ?_) ?_
      · refine ⟨_, rfl, ?_⟩
        walk_at "wpe"
        refine we_lft notin_lst ?_
        refine x_bl ?_
        refine ⟨rfl, rfl, fun _ => ?_⟩
        walk_at "wpe"
        exact ⟨rfl, rfl⟩
      rw [List.map_id']
      have fl := List.length_filter_le (fun x => !decide (x ∈ os)) (tieL P[k2])
      have t2 : (tieL P[k2]).length = 2 := rfl
      refine we_newL (by rw [List.length_map]; exact small (by omega)) ?_
      refine wl_addLL (by rw [List.length_map, List.length_map]; omega) ?_
      rw [← List.map_append]
      refine wg_nm ?_
      exact ⟨⟨_, _, rfl⟩, rfl⟩
    rintro δ S' ⟨⟨o8, o9, rfl⟩, e⟩
    subst e
    rw [List.length_map, List.take_of_length_le (by simp)]
    rw [show (P.map tieL).foldl addN [] = namesOf (P.map tieL) from rfl]
    have W := tied_ok T
    have WF := tied_ok TF
    have eT := tied_ties T
    have eF := tied_ties TF
    have F := web_full W
    have FF := web_full WF
    have nO : (namesOf (P.map tieL)).length ≤ 8 := by have := W.n8; rwa [eT] at this
    have wt0 : ∀ {Q : List Ti}, Tied ns Q → wt (Q.map tieS) ≤ 144 ∧ (Txt.join "\n" (Q.map tieS)).length ≤ 144 := fun {Q} TQ => by
      have hh := wl_ties (M := Q.map tieS) (k := 8) (fun x hx => by
        obtain ⟨p, hp, rfl⟩ := List.mem_map.mp hx
        exact sm_tie (TQ.isn p hp).1 (TQ.isn p hp).2) (by rw [List.length_map]; exact TQ.h8)
      exact ⟨hh.w, (sm_join hh.w hh.c).len⟩
    have sp1 := sp_len
    -- the text of a list of ties
    walk_at "wsa"
    walk_at "wpe"
    refine we_loopM (S := S') tieD lI (fun p => (namesOf (P.map tieL)).map fun x => if x ∈ tieL p then (1 : Int) else 0) (zs := P) (by omega) (fun p hp => ?_) ?_
    · refine ⟨_, rfl, ?_⟩
      walk_at "wpe"
      refine we_loopM (S := S') D.str D.int (fun x => if x ∈ tieL p then (1 : Int) else 0) (zs := namesOf (P.map tieL)) (by omega) (fun x hx => ?_) ?_
      · refine ⟨_, rfl, ?_⟩
        walk_at "wpe"
        refine we_lft in_tie ?_
        walk_at "wpe"
        refine ⟨rfl, ?_⟩
        by_cases h : x ∈ tieL p <;> simp [h]
      exact we_newL (by rw [List.length_map, List.length_map]; exact small (by omega)) ⟨rfl, rfl⟩
    refine we_newL (by rw [List.length_map, List.length_map]; exact small (by omega)) ?_
    walk_at "wpe"
    rw [eT] at F
    rw [eF] at FF
    have eR : D.lst ((P.map fun p => (namesOf (P.map tieL)).map fun x => if x ∈ tieL p then (1 : Int) else 0).map lI) = rowsL (webR (P.map tieL)) := by
      show _ = D.lst _
      unfold webR
      rw [List.map_map, List.map_map, List.map_map]
      rfl
    rw [eR]
    refine we_ok (C.text _ _ _ S' F) ?_
    refine wg_nm ?_
    walk_at "wsa"
    walk_at "wpe"
    refine ⟨rfl, ?_⟩
    walk_at "wpe"
    refine we_loopM (S := S') tieD D.str tieS (zs := P) (by omega) (fun p hp => ?_) ?_
    · have i1 := (isN_sm (T.isn p hp).1).len
      have i2 := (isN_sm (T.isn p hp).2).len
      refine ⟨_, rfl, ?_⟩
      walk_at "wpe"
      refine wl_ixT (xs := [D.str p.1, D.str p.2]) (k := 0) (by simp) ?_
      walk_at "wpe"
      refine we_lft (add_str (by omega)) ?_
      walk_at "wpe"
      refine wl_ixT (xs := [D.str p.1, D.str p.2]) (k := 1) (by simp) ?_
      refine we_lft (add_str (by rw [Str.length_append]; omega)) ?_
      exact ⟨rfl, rfl⟩
    refine we_newL (by rw [List.length_map, List.length_map]; exact small (by omega)) ?_
    walk_at "wpe"
    obtain ⟨w1, w2⟩ := wt0 T
    refine we_lft (join_strs (by omega)) ?_
    refine wg_nm ?_
    walk_at "wsi"
    walk_at "wpe"
    refine we_imp (C.web _ S' (by omega) W) ?_
    rintro _ S6 ⟨rfl, k6⟩
    rw [eT]
    walk_at "wpe"
    refine we_lft (strI_ev (C.str _ _ _ S6)) ?_
    walk_at "wpe"
    refine we_imp (C.web _ S6 (by omega) W) ?_
    rintro _ S7 ⟨rfl, k7⟩
    rw [eT]
    walk_at "wpe"
    refine we_lft (strI_ev (C.str _ _ _ S7)) ?_
    walk_at "wpe"
    refine we_lft (ne_same (L := [txt (webR (P.map tieL)), txt (webR (P.map tieL))])) ?_
    refine x_bl ?_
    refine br_f ?_
    walk_at "wsn"
    have b7 := tr_keep (tr_keep bF k6) k7
    clear k6 k7 bF
    -- turned about
    walk_at "wsa"
    walk_at "wpe"
    refine we_loopM (S := S7) tieD tieD (fun p : Ti => (p.2, p.1)) (zs := P) (by omega) (fun p hp => ?_) ?_
    · refine ⟨_, rfl, ?_⟩
      refine we_revT ?_
      walk_at "wpe"
      exact ⟨[D.str p.1, D.str p.2], rfl, by simp, rfl, rfl⟩
    refine we_newL (by rw [List.length_map, List.length_map]; exact small (by omega)) ?_
    rw [show P.map (fun p : Ti => (p.2, p.1)) = flip P from rfl]
    refine wg_nm ?_
    have fl8 : (flip P).length ≤ 8 := TF.h8
    walk_at "wsa"
    walk_at "wpe"
    refine ⟨rfl, ?_⟩
    walk_at "wpe"
    refine we_loopM (S := S7) tieD D.str tieS (zs := flip P) (by omega) (fun p hp => ?_) ?_
    · have i1 := (isN_sm (TF.isn p hp).1).len
      have i2 := (isN_sm (TF.isn p hp).2).len
      refine ⟨_, rfl, ?_⟩
      walk_at "wpe"
      refine wl_ixT (xs := [D.str p.1, D.str p.2]) (k := 0) (by simp) ?_
      walk_at "wpe"
      refine we_lft (add_str (by omega)) ?_
      walk_at "wpe"
      refine wl_ixT (xs := [D.str p.1, D.str p.2]) (k := 1) (by simp) ?_
      refine we_lft (add_str (by rw [Str.length_append]; omega)) ?_
      exact ⟨rfl, rfl⟩
    refine we_newL (by rw [List.length_map, List.length_map]; exact small (by omega)) ?_
    walk_at "wpe"
    obtain ⟨w3, w4⟩ := wt0 TF
    refine we_lft (join_strs (by omega)) ?_
    walk_at "wpe"
    refine we_imp (C.web _ S7 (by omega) WF) ?_
    rintro _ S8 ⟨rfl, k8⟩
    rw [eF]
    refine wg_nm ?_
    have b8 := tr_keep b7 k8
    -- the columns
    have one : ∀ {ts : List (List Str)} {hh : Nat}, Full hh (namesOf ts).length (webR ts) → ∀ r ∈ webR ts, r.length ≤ 8 ∧ ∀ i ∈ r, i = 0 ∨ i = 1 := fun {ts hh} F r hr => ⟨by rw [(F.g r hr).1]; exact F.w2, (F.g r hr).2⟩
    walk_at "wsa"
    walk_at "wpe"
    refine ⟨_, _, _, rfl, rfl, rfl, ?_⟩
    walk_at "wpe"
    have FF2 := FF.w2
    have FF3 := FF.h2
    have FFl := FF.len
    refine ⟨(namesOf ((flip P).map tieL)).length, rfl, by omega, ?_⟩
    rw [rngD_eq, show iD (rng (namesOf ((flip P).map tieL)).length) = (List.range (namesOf ((flip P).map tieL)).length).map fun k => D.int (k : Nat) by simp [iD, rng, List.map_map, Function.comp_def]]
    refine we_loopM (fun k : Nat => D.int k) D.str (fun k => Txt.join "" ((webR ((flip P).map tieL)).map fun r => dig (r.getD k 0))) (by rw [List.length_range]; omega) (fun k' hk' => ⟨_, rfl, ?_⟩) ?_
    · have hk' := List.mem_range.mp hk'
      walk_at "wpe"
      refine ⟨rfl, ?_⟩
      walk_at "wpe"
      refine ⟨_, _, _, rfl, rfl, rfl, ?_⟩
      refine ⟨_, rfl, ?_⟩
      refine we_loopM (fun r => D.tup (iD r)) D.str (fun r => dig (r.getD k' 0)) (zs := webR ((flip P).map tieL)) (by omega) (fun r hr => ⟨_, rfl, ?_⟩) ?_
      · have o := FF.g r hr
        have lr : k' < r.length := by rw [o.1]; exact hk'
        walk_at "wpe"
        refine wl_ixT (k := k') (by rw [iD_len]; exact lr) ?_
        have e1 : (iD r)[k']'(by rw [iD_len]; exact lr) = D.int (r.getD k' 0) := by
          simp [iD, List.getD_eq_getElem?_getD, List.getElem?_eq_getElem lr]
        rw [e1]
        walk_at "wpe"
        have m1 : r.getD k' 0 ∈ r := by rw [List.getD_eq_getElem?_getD, List.getElem?_eq_getElem lr]; exact List.getElem_mem lr
        rcases o.2 _ m1 with h | h
        · rw [h]; exact we_lft (show pStrI (strT cal) [.int 0] _ = some (.str (dig 0), _) from rfl) ⟨rfl, rfl⟩
        · rw [h]; exact we_lft (show pStrI (strT cal) [.int 1] _ = some (.str (dig 1), _) from rfl) ⟨rfl, rfl⟩
      refine we_newL (by rw [List.length_map, List.length_map]; exact small (by omega)) ?_
      walk_at "wpe"
      rw [show (webR ((flip P).map tieL)).map (fun r => dig (r.getD k' 0)) = ((webR ((flip P).map tieL)).map fun r => r.getD k' 0).map dig by rw [List.map_map]; rfl]
      refine we_lft (joinD_ev (fun i hi => ?_) (by rw [List.length_map]; omega)) ⟨rfl, rfl⟩
      obtain ⟨r, hr, rfl⟩ := List.mem_map.mp hi
      have o := FF.g r hr
      have lr : k' < r.length := by rw [o.1]; exact hk'
      rw [List.getD_eq_getElem?_getD, List.getElem?_eq_getElem lr]
      exact o.2 _ (List.getElem_mem lr)
    refine we_newL (by rw [List.length_map, List.length_map, List.length_range]; exact small (by omega)) ?_
    rw [cols_of]
    walk_at "wpe"
    refine we_lft (sortD_s (by rw [List.length_map]; omega)) ?_
    refine wg_nm ?_
    walk_at "wsa"
    walk_at "wpe"
    refine we_imp (C.web _ S8 (by omega) W) ?_
    rintro _ S9 ⟨rfl, k9⟩
    rw [eT]
    refine wg_nm ?_
    have b9 := tr_keep b8 k9
    have F2 := F.w2
    have F3 := F.h2
    have Fl := F.len
    with_reducible refine ws_if ?_
    walk_at "wpe"
    refine ⟨_, _, _, rfl, rfl, rfl, ?_⟩
    walk_at "wpe"
    refine ⟨(namesOf (P.map tieL)).length, rfl, by omega, ?_⟩
    rw [rngD_eq, show iD (rng (namesOf (P.map tieL)).length) = (List.range (namesOf (P.map tieL)).length).map fun k => D.int (k : Nat) by simp [iD, rng, List.map_map, Function.comp_def]]
    refine we_loopM (fun k : Nat => D.int k) D.str (fun k => Txt.join "" ((webR (P.map tieL)).map fun r => dig (r.getD k 0))) (by rw [List.length_range]; omega) (fun k' hk' => ⟨_, rfl, ?_⟩) ?_
    · have hk' := List.mem_range.mp hk'
      walk_at "wpe"
      refine ⟨rfl, ?_⟩
      walk_at "wpe"
      refine ⟨_, _, _, rfl, rfl, rfl, ?_⟩
      refine ⟨_, rfl, ?_⟩
      refine we_loopM (fun r => D.tup (iD r)) D.str (fun r => dig (r.getD k' 0)) (zs := webR (P.map tieL)) (by omega) (fun r hr => ⟨_, rfl, ?_⟩) ?_
      · have o := F.g r hr
        have lr : k' < r.length := by rw [o.1]; exact hk'
        walk_at "wpe"
        refine wl_ixT (k := k') (by rw [iD_len]; exact lr) ?_
        have e1 : (iD r)[k']'(by rw [iD_len]; exact lr) = D.int (r.getD k' 0) := by
          simp [iD, List.getD_eq_getElem?_getD, List.getElem?_eq_getElem lr]
        rw [e1]
        walk_at "wpe"
        have m1 : r.getD k' 0 ∈ r := by rw [List.getD_eq_getElem?_getD, List.getElem?_eq_getElem lr]; exact List.getElem_mem lr
        rcases o.2 _ m1 with h | h
        · rw [h]; exact we_lft (show pStrI (strT cal) [.int 0] _ = some (.str (dig 0), _) from rfl) ⟨rfl, rfl⟩
        · rw [h]; exact we_lft (show pStrI (strT cal) [.int 1] _ = some (.str (dig 1), _) from rfl) ⟨rfl, rfl⟩
      refine we_newL (by rw [List.length_map, List.length_map]; exact small (by omega)) ?_
      walk_at "wpe"
      rw [show (webR (P.map tieL)).map (fun r => dig (r.getD k' 0)) = ((webR (P.map tieL)).map fun r => r.getD k' 0).map dig by rw [List.map_map]; rfl]
      refine we_lft (joinD_ev (fun i hi => ?_) (by rw [List.length_map]; omega)) ⟨rfl, rfl⟩
      obtain ⟨r, hr, rfl⟩ := List.mem_map.mp hi
      have o := F.g r hr
      have lr : k' < r.length := by rw [o.1]; exact hk'
      rw [List.getD_eq_getElem?_getD, List.getElem?_eq_getElem lr]
      exact o.2 _ (List.getElem_mem lr)
    refine we_newL (by rw [List.length_map, List.length_map, List.length_range]; exact small (by omega)) ?_
    rw [cols_of]
    walk_at "wpe"
    refine we_lft (sortD_s (by rw [List.length_map]; omega)) ?_
    rw [cols_same T]
    refine we_lft ne_same ?_
    refine x_bl ?_
    refine br_f ?_
    walk_at "wsn"
    exact ⟨⟨_, _, _, _, _, _, _, _, _, _, _, _, _, _, _, _, rfl⟩, b9⟩
  · rintro δ S' ⟨⟨d1, d2, d3, d4, d5, d6, d7, d8, d9, d10, d11, d12, d13, d14, d15, d16, rfl⟩, a⟩
    walk_at "wps"
    exact ⟨rfl, pre_tr a⟩
end
end Sw
namespace Lw
open PySem L2 Ev Bd Sp Rg Wp Ty Xr Xm Sx Sw
def ren (cal : Nat → List D → M D) (n : Nat) : List D → M D := if n = 299 then cal 314 else if n = 303 then cal 313 else if n = 203 then cal 1 else cal n
theorem ren299 (cal : Nat → List D → M D) : ren cal 299 = cal 314 := by simp [ren]
theorem ren303 (cal : Nat → List D → M D) : ren cal 303 = cal 313 := by simp [ren]
theorem ren203 (cal : Nat → List D → M D) : ren cal 203 = cal 1 := by simp [ren]
theorem ren183 (cal : Nat → List D → M D) : ren cal 183 = cal 183 := by simp [ren]
theorem ren3 (cal : Nat → List D → M D) : ren cal 3 = cal 3 := by simp [ren]
theorem takeD (L : Store) (n : Nat) : Tl.TakF L (callN (n + 1) 3) := by rw [c__law_take]; exact Tl.take_tak
theorem readD (n h w : Nat) (R : Rw) (S : Store) (F : Full h w R) : callN (n + 2) 7 [.str (txt R)] S = .ok (rowsT R) S := by rw [c_read_rows]; exact read_ev F (by rw [c_is_full]; exact full_ev F)
theorem tabDD (n h w : Nat) (R : Rw) (S : Store) (F : Full h w R) : callN (n + 3) 1 [.str (txt R)] S = .ok (tabD h w R) S := by rw [c_Table]; exact table_ev F (readD n h w R S F)
theorem fromLD (n h w : Nat) (R : Rw) (S : Store) (F : Full h w R) : callN (n + 4) 311 [rowsL R] S = .ok (tabD h w R) S := by
  rw [c_table_from_v3]
  exact fromR_ev (cal := ren (callN (n + 3))) nofun (by rw [ren183, c_text_with]; exact text_evL F) (by rw [ren203]; exact tabDD n h w R S F)
theorem strD (n h w : Nat) (R : Rw) (S : Store) : callN (n + 1) 6 [tabD h w R] S = .ok (.str (txt R)) S := by
  rw [c_Table___str__]
  unfold b_Table___str__
  exact funM_rt rfl (sRet_ok (eCallV_ok (aCons_ok (eFld_ok rfl rfl rfl rfl) rfl) rfl))
theorem textD (n h w : Nat) (R : Rw) (S : Store) (F : Full h w R) : callN (n + 1) 2 [rowsL R] S = .ok (.str (txt R)) S := by rw [c__law_text]; exact text_ev F
theorem c11 (n : Nat) : C11 (callN (n + 6)) := ⟨takeD [] (n + 5),
  fun t m S a hm => by
    rw [c__law_words_v2]
    exact words_ev (cal := ren (callN (n + 5))) (by rw [ren3]; exact takeD [] (n + 4)) a hm fun S a => by
      rw [ren303, c__law_word_v2]
      exact word1_ev (takeD [] (n + 3)) a,
  fun s S hs W => by
    rw [c_of_web_v2]
    refine webOk_ev hs W (fun S => ?_) (fun ts ns S h1 h2 => ?_) fun h w R S F => fromLD (n + 1) h w R S F
    · rw [c_ties_in_v2]
      exact ties_ev (cal := ren (callN (n + 4))) hs fun x S hx => by
        rw [ren299, c_is_word_v2]
        exact word_ev (cal := callN (n + 3)) hx
    · rw [c_rows_with_v2]
      exact rows_ev (cal := callN (n + 4)) h1 h2,
  fun h w R S F => textD (n + 5) h w R S F,
  fun h w R S => strD (n + 5) h w R S⟩
theorem law_ev {ns : List Int} (hl : ns.length ≤ 63) : ∃ S, funM 2 1 (b_law_v42 (callN 8)) [.scr ns] [] = .ok (.bl true) S :=
  lawL_ev (L := []) (m := 6) (r := callN 8 307) (e := callN 8 5) (by omega) (fun k S hk hp => by
    rw [c__law_tray 7]
    obtain ⟨a, b, e, ha⟩ := tray_ev (S := S) (at_ := k) (by omega : ns.length ≤ 1000) hk
    exact ⟨_, e, tr_new hp ha⟩) (fun t S a => by rw [c__law_right_v41 7]; exact right11_ev (c11 1) a) ⟨Nat.le_refl _, fun _ _ => rfl⟩
end Lw
theorem PySem.Challenge.cw_oddrings_k11_whole_tables_of_webs_holds : PySem.Challenge.rw_oddrings_k11_whole_tables_of_webs.Holds :=
  Lw.holds 8 (by decide) fun ns hl _ => Lw.law_ev hl

